import PyProof.Rows.All
import Wide.All
import OpenK.AllK
import Wide.FinOn
import Lean
import PySem.Challenge.RW_xm0371_01
open PySem PySem.W PyProof.Rows
set_option Elab.async false
set_option maxRecDepth 100000
namespace Mine
/-! ## what the top leaves: the objects that the call may meet, each def by its place in the text -/
section
def stAt : Nat → List Stmt → Stmt
  | _, [] => .Pass default
  | 0, s :: _ => s
  | i + 1, _ :: r => stAt i r
def within : Nat → Stmt → Stmt
  | j + 1, .ClassDef _ _ _ b _ _ _ _ _ _ _ => stAt j b
  | _, s => s
noncomputable def defAt (i j : Nat) : Stmt := within j (stAt i PySem.Challenge.pw_xm0371_01.main.body)
noncomputable def defP (i j : Nat) : Arguments := match defAt i j with | .FunctionDef _ a _ _ _ _ _ _ _ _ => a | _ => default
noncomputable def defB (i j : Nat) : List Stmt := match defAt i j with | .FunctionDef _ _ b _ _ _ _ _ _ _ => b | _ => []
noncomputable def defS (i j : Nat) : Scope := match defAt i j with | .FunctionDef _ _ _ _ _ _ s _ _ _ => s | _ => default
/-- a word that holds of every list: its type carries one -/
structure Held (K : Params → Frag) : Prop
noncomputable def objs0 : PSigma Held := by
  apply PSigma.mk
  have H : Held (fun P =>
  (2, { cls := Value.none, data := Data.dict #[] }) ::
  (3, { cls := Value.type "dict", data := Data.dict ({ hash := PyData.keyHash P (Str.ofString "__name__"), key := Value.str (Str.ofString "__name__") 165, val := Value.str (Str.ofString "law_xm0371_01") 563 } :: { hash := PyData.keyHash P (Str.ofString "__doc__"), key := Value.str (Str.ofString "__doc__") 166, val := Value.none } :: { hash := PyData.keyHash P (Str.ofString "__package__"), key := Value.str (Str.ofString "__package__") 167, val := Value.none } :: { hash := PyData.keyHash P (Str.ofString "__loader__"), key := Value.str (Str.ofString "__loader__") 168, val := Value.builtin "__main__.__loader__#opaque" } :: { hash := PyData.keyHash P (Str.ofString "__spec__"), key := Value.str (Str.ofString "__spec__") 169, val := Value.none } :: { hash := PyData.keyHash P (Str.ofString "__annotations__"), key := Value.str (Str.ofString "__annotations__") 170, val := Value.ref 6 } :: { hash := PyData.keyHash P (Str.ofString "__builtins__"), key := Value.str (Str.ofString "__builtins__") 171, val := Value.ref 4 } :: { hash := PyData.keyHash P (Str.ofString "__file__"), key := Value.str (Str.ofString "__file__") 173, val := Value.str (Str.ofString "/claim/cut.py") 172 } :: { hash := PyData.keyHash P (Str.ofString "__cached__"), key := Value.str (Str.ofString "__cached__") 174, val := Value.none } :: { hash := PyData.keyHash P (Str.ofString "_wall"), key := Value.str (Str.ofString "_wall") 193, val := Value.ref 21 } :: { hash := PyData.keyHash P (Str.ofString "PageError"), key := Value.str (Str.ofString "PageError") 223, val := Value.ref 39 } :: { hash := PyData.keyHash P (Str.ofString "BadArgument"), key := Value.str (Str.ofString "BadArgument") 239, val := Value.ref 52 } :: { hash := PyData.keyHash P (Str.ofString "Runaway"), key := Value.str (Str.ofString "Runaway") 255, val := Value.ref 64 } :: { hash := PyData.keyHash P (Str.ofString "OuterRefused"), key := Value.str (Str.ofString "OuterRefused") 271, val := Value.ref 76 } :: { hash := PyData.keyHash P (Str.ofString "BadDefinition"), key := Value.str (Str.ofString "BadDefinition") 287, val := Value.ref 88 } :: { hash := PyData.keyHash P (Str.ofString "is_whole"), key := Value.str (Str.ofString "is_whole") 298, val := Value.ref 97 } :: { hash := PyData.keyHash P (Str.ofString "ESCAPE"), key := Value.str (Str.ofString "ESCAPE") 309, val := Value.int 0 301 } :: { hash := PyData.keyHash P (Str.ofString "BEGIN"), key := Value.str (Str.ofString "BEGIN") 310, val := Value.int 1 302 } :: { hash := PyData.keyHash P (Str.ofString "END"), key := Value.str (Str.ofString "END") 311, val := Value.int 2 303 } :: { hash := PyData.keyHash P (Str.ofString "MATH"), key := Value.str (Str.ofString "MATH") 312, val := Value.int 3 304 } :: { hash := PyData.keyHash P (Str.ofString "TAB"), key := Value.str (Str.ofString "TAB") 313, val := Value.int 4 305 } :: { hash := PyData.keyHash P (Str.ofString "RETURN"), key := Value.str (Str.ofString "RETURN") 314, val := Value.int 5 306 } :: { hash := PyData.keyHash P (Str.ofString "PARAMETER"), key := Value.str (Str.ofString "PARAMETER") 315, val := Value.int 6 307 } :: { hash := PyData.keyHash P (Str.ofString "UP"), key := Value.str (Str.ofString "UP") 316, val := Value.int 7 308 } :: { hash := PyData.keyHash P (Str.ofString "DOWN"), key := Value.str (Str.ofString "DOWN") 325, val := Value.int 8 317 } :: { hash := PyData.keyHash P (Str.ofString "IGNORED"), key := Value.str (Str.ofString "IGNORED") 326, val := Value.int 9 318 } :: { hash := PyData.keyHash P (Str.ofString "SPACE"), key := Value.str (Str.ofString "SPACE") 327, val := Value.int 10 319 } :: { hash := PyData.keyHash P (Str.ofString "LETTER"), key := Value.str (Str.ofString "LETTER") 328, val := Value.int 11 320 } :: { hash := PyData.keyHash P (Str.ofString "OTHER"), key := Value.str (Str.ofString "OTHER") 329, val := Value.int 12 321 } :: { hash := PyData.keyHash P (Str.ofString "ACTIVE"), key := Value.str (Str.ofString "ACTIVE") 330, val := Value.int 13 322 } :: { hash := PyData.keyHash P (Str.ofString "COMMENT"), key := Value.str (Str.ofString "COMMENT") 331, val := Value.int 14 323 } :: { hash := PyData.keyHash P (Str.ofString "INVALID"), key := Value.str (Str.ofString "INVALID") 332, val := Value.int 15 324 } :: { hash := PyData.keyHash P (Str.ofString "CONTROL"), key := Value.str (Str.ofString "CONTROL") 338, val := Value.int 0 333 } :: { hash := PyData.keyHash P (Str.ofString "OUT"), key := Value.str (Str.ofString "OUT") 339, val := Value.int 5 334 } :: { hash := PyData.keyHash P (Str.ofString "MATCH"), key := Value.str (Str.ofString "MATCH") 340, val := Value.int 9 335 } :: { hash := PyData.keyHash P (Str.ofString "FROZEN"), key := Value.str (Str.ofString "FROZEN") 341, val := Value.int 14 336 } :: { hash := PyData.keyHash P (Str.ofString "NOT_EXPANDED"), key := Value.str (Str.ofString "NOT_EXPANDED") 342, val := Value.int 15 337 } :: { hash := PyData.keyHash P (Str.ofString "MOST_NAMES"), key := Value.str (Str.ofString "MOST_NAMES") 346, val := Value.int 1048576 345 } :: { hash := PyData.keyHash P (Str.ofString "LEAST_CODES"), key := Value.str (Str.ofString "LEAST_CODES") 363, val := Value.ref 110 } :: { hash := PyData.keyHash P (Str.ofString "GREATEST_CODES"), key := Value.str (Str.ofString "GREATEST_CODES") 381, val := Value.ref 111 } :: { hash := PyData.keyHash P (Str.ofString "is_token"), key := Value.str (Str.ofString "is_token") 388, val := Value.ref 118 } :: { hash := PyData.keyHash P (Str.ofString "check_tokens"), key := Value.str (Str.ofString "check_tokens") 396, val := Value.ref 125 } :: { hash := PyData.keyHash P (Str.ofString "TokenFeed"), key := Value.str (Str.ofString "TokenFeed") 465, val := Value.ref 179 } :: { hash := PyData.keyHash P (Str.ofString "MOST_PARAMETERS"), key := Value.str (Str.ofString "MOST_PARAMETERS") 469, val := Value.int 9 468 } :: { hash := PyData.keyHash P (Str.ofString "DIGIT_NOUGHT"), key := Value.str (Str.ofString "DIGIT_NOUGHT") 471, val := Value.int 48 470 } :: { hash := PyData.keyHash P (Str.ofString "MARKS"), key := Value.str (Str.ofString "MARKS") 472, val := Value.ref 184 } :: { hash := PyData.keyHash P (Str.ofString "Macro"), key := Value.str (Str.ofString "Macro") 519, val := Value.ref 214 } :: { hash := PyData.keyHash P (Str.ofString "token_wanted"), key := Value.str (Str.ofString "token_wanted") 527, val := Value.ref 225 } :: { hash := PyData.keyHash P (Str.ofString "read_parameters"), key := Value.str (Str.ofString "read_parameters") 537, val := Value.ref 232 } :: { hash := PyData.keyHash P (Str.ofString "parameter_mark"), key := Value.str (Str.ofString "parameter_mark") 545, val := Value.ref 239 } :: { hash := PyData.keyHash P (Str.ofString "read_body"), key := Value.str (Str.ofString "read_body") 556, val := Value.ref 246 } :: { hash := PyData.keyHash P (Str.ofString "definition"), key := Value.str (Str.ofString "definition") 562, val := Value.ref 252 } :: { hash := PyData.keyHash P (Str.ofString "_law_cell"), key := Value.str (Str.ofString "_law_cell") 570, val := Value.ref 257 } :: { hash := PyData.keyHash P (Str.ofString "_law_take"), key := Value.str (Str.ofString "_law_take") 580, val := Value.ref 264 } :: { hash := PyData.keyHash P (Str.ofString "_law_any"), key := Value.str (Str.ofString "_law_any") 587, val := Value.ref 271 } :: { hash := PyData.keyHash P (Str.ofString "_law_plain"), key := Value.str (Str.ofString "_law_plain") 594, val := Value.ref 278 } :: { hash := PyData.keyHash P (Str.ofString "_law_mark"), key := Value.str (Str.ofString "_law_mark") 601, val := Value.ref 285 } :: { hash := PyData.keyHash P (Str.ofString "_law_piece"), key := Value.str (Str.ofString "_law_piece") 611, val := Value.ref 292 } :: { hash := PyData.keyHash P (Str.ofString "_law_written"), key := Value.str (Str.ofString "_law_written") 624, val := Value.ref 299 } :: { hash := PyData.keyHash P (Str.ofString "_law_spoilt"), key := Value.str (Str.ofString "_law_spoilt") 632, val := Value.ref 306 } :: { hash := PyData.keyHash P (Str.ofString "_law_row"), key := Value.str (Str.ofString "_law_row") 638, val := Value.ref 311 } :: { hash := PyData.keyHash P (Str.ofString "_law_run"), key := Value.str (Str.ofString "_law_run") 648, val := Value.ref 318 } :: { hash := PyData.keyHash P (Str.ofString "_law_wrong"), key := Value.str (Str.ofString "_law_wrong") 654, val := Value.ref 323 } :: { hash := PyData.keyHash P (Str.ofString "_law_judged"), key := Value.str (Str.ofString "_law_judged") 660, val := Value.ref 328 } :: { hash := PyData.keyHash P (Str.ofString "_law_stretch"), key := Value.str (Str.ofString "_law_stretch") 673, val := Value.ref 335 } :: { hash := PyData.keyHash P (Str.ofString "_law_macro"), key := Value.str (Str.ofString "_law_macro") 679, val := Value.ref 340 } :: { hash := PyData.keyHash P (Str.ofString "_law_told"), key := Value.str (Str.ofString "_law_told") 690, val := Value.ref 347 } :: { hash := PyData.keyHash P (Str.ofString "_law_row_right"), key := Value.str (Str.ofString "_law_row_right") 707, val := Value.ref 354 } :: { hash := PyData.keyHash P (Str.ofString "law"), key := Value.str (Str.ofString "law") 715, val := Value.ref 361 } :: []).toArray 69 }) ::
  (15, { cls := Value.type "tuple", data := Data.seq #[] }) ::
  (17, { cls := Value.type "tuple", data := Data.seq #[Value.str (Str.ofString "k") 190] }) ::
  (18, { cls := Value.type "tuple", data := Data.seq #[] }) ::
  (20, { cls := Value.type "code", data := Data.fields #[Value.str (Str.ofString "_wall") 187, Value.str (Str.ofString "_wall") 188, Value.str (Str.ofString "/claim/cut.py") 189, Value.int 1 0, Value.int 1 0, Value.int 0 0, Value.int 0 0, Value.int 3 0, Value.ref 15, Value.bool true, Value.int 181 0, Value.ref 16, Value.none, Value.ref 17, Value.ref 18, Value.ref 19, Value.int 191 0, Value.int 1 0, Value.str (Str.ofString "/claim/cut.py") 192] }) ::
  (21, { cls := Value.type "function", data := Data.func { name := Str.ofString "_wall", qualname := Str.ofString "_wall", params := defP 0 0, body := FuncBody.stmts (defB 0 0), scope := defS 0 0, globals := 3, closure := [], defaults := Value.none, kwdefaults := Value.none, pyModule := Value.str (Str.ofString "__main__") 164, code := Value.ref 20 } }) ::
  (22, { cls := Value.type "tuple", data := Data.seq #[Value.type "ValueError"] }) ::
  (29, { cls := Value.type "tuple", data := Data.seq #[Value.str (Str.ofString "") 208] }) ::
  (30, { cls := Value.type "tuple", data := Data.seq #[] }) ::
  (32, { cls := Value.type "tuple", data := Data.seq #[Value.str (Str.ofString "self") 212, Value.str (Str.ofString "reason") 213] }) ::
  (33, { cls := Value.type "tuple", data := Data.seq #[] }) ::
  (35, { cls := Value.type "code", data := Data.fields #[Value.str (Str.ofString "__init__") 209, Value.str (Str.ofString "PageError.__init__") 210, Value.str (Str.ofString "/claim/cut.py") 211, Value.int 7 0, Value.int 2 0, Value.int 0 0, Value.int 0 0, Value.int 3 0, Value.ref 30, Value.bool true, Value.int 181 0, Value.ref 31, Value.none, Value.ref 32, Value.ref 33, Value.ref 34, Value.int 214 0, Value.int 7 0, Value.str (Str.ofString "/claim/cut.py") 215] }) ::
  (36, { cls := Value.type "function", data := Data.func { name := Str.ofString "__init__", qualname := Str.ofString "PageError.__init__", params := defP 2 1, body := FuncBody.stmts (defB 2 1), scope := defS 2 1, globals := 3, closure := [], defaults := Value.ref 29, kwdefaults := Value.none, pyModule := Value.str (Str.ofString "gluepage.errors") 194, code := Value.ref 35 } }) ::
  (37, { cls := Value.type "tuple", data := Data.seq #[Value.str (Str.ofString "reason") 217] }) ::
  (38, { cls := Value.type "dict", data := Data.dict #[{ hash := PyData.keyHash P (Str.ofString "__module__"), key := Value.str (Str.ofString "__module__") 203, val := Value.str (Str.ofString "gluepage.errors") 194 }, { hash := PyData.keyHash P (Str.ofString "__firstlineno__"), key := Value.str (Str.ofString "__firstlineno__") 207, val := Value.int 5 206 }, { hash := PyData.keyHash P (Str.ofString "__init__"), key := Value.str (Str.ofString "__init__") 216, val := Value.ref 36 }, { hash := PyData.keyHash P (Str.ofString "__static_attributes__"), key := Value.str (Str.ofString "__static_attributes__") 218, val := Value.ref 37 }, { hash := PyData.keyHash P (Str.ofString "__weakref__"), key := Value.str (Str.ofString "__weakref__") 220, val := Value.ref 40 }, { hash := PyData.keyHash P (Str.ofString "__doc__"), key := Value.str (Str.ofString "__doc__") 221, val := Value.none }] 3 }) ::
  (39, { cls := Value.type "type", data := Data.cls { name := Str.ofString "PageError", bases := [Value.type "ValueError"], mro := [Value.ref 39, Value.type "ValueError", Value.type "Exception", Value.type "BaseException", Value.type "object"], ns := 38, qualname := Str.ofString "PageError", subclasses := [Value.ref 52, Value.ref 64, Value.ref 76, Value.ref 88] }, slots := #[some (Value.ref 22), none, some (Value.str (Str.ofString "PageError") 196), some (Value.str (Str.ofString "PageError") 204), some (Value.builtin "ValueError.__new__"), some (Value.bool true)] }) ::
  (40, { cls := Value.type "getset_descriptor", data := Data.fields #[Value.str (Str.ofString "__weakref__") 219, Value.ref 39, Value.builtin "ExceptionGroup.__weakref__", Value.none] }) ::
  (43, { cls := Value.type "tuple", data := Data.seq #[Value.ref 39] }) ::
  (50, { cls := Value.type "tuple", data := Data.seq #[] }) ::
  (51, { cls := Value.type "dict", data := Data.dict #[{ hash := PyData.keyHash P (Str.ofString "__module__"), key := Value.str (Str.ofString "__module__") 231, val := Value.str (Str.ofString "gluepage.errors") 194 }, { hash := PyData.keyHash P (Str.ofString "__firstlineno__"), key := Value.str (Str.ofString "__firstlineno__") 235, val := Value.int 9 234 }, { hash := PyData.keyHash P (Str.ofString "__static_attributes__"), key := Value.str (Str.ofString "__static_attributes__") 236, val := Value.ref 50 }, { hash := PyData.keyHash P (Str.ofString "__doc__"), key := Value.str (Str.ofString "__doc__") 237, val := Value.none }] 2 }) ::
  (52, { cls := Value.type "type", data := Data.cls { name := Str.ofString "BadArgument", bases := [Value.ref 39], mro := [Value.ref 52, Value.ref 39, Value.type "ValueError", Value.type "Exception", Value.type "BaseException", Value.type "object"], ns := 51, qualname := Str.ofString "BadArgument" }, slots := #[some (Value.ref 43), none, some (Value.str (Str.ofString "BadArgument") 224), some (Value.str (Str.ofString "BadArgument") 232), some (Value.builtin "ValueError.__new__"), some (Value.bool true)] }) ::
  (55, { cls := Value.type "tuple", data := Data.seq #[Value.ref 39] }) ::
  (62, { cls := Value.type "tuple", data := Data.seq #[] }) ::
  (63, { cls := Value.type "dict", data := Data.dict #[{ hash := PyData.keyHash P (Str.ofString "__module__"), key := Value.str (Str.ofString "__module__") 247, val := Value.str (Str.ofString "gluepage.errors") 194 }, { hash := PyData.keyHash P (Str.ofString "__firstlineno__"), key := Value.str (Str.ofString "__firstlineno__") 251, val := Value.int 11 250 }, { hash := PyData.keyHash P (Str.ofString "__static_attributes__"), key := Value.str (Str.ofString "__static_attributes__") 252, val := Value.ref 62 }, { hash := PyData.keyHash P (Str.ofString "__doc__"), key := Value.str (Str.ofString "__doc__") 253, val := Value.none }] 2 }) ::
  (64, { cls := Value.type "type", data := Data.cls { name := Str.ofString "Runaway", bases := [Value.ref 39], mro := [Value.ref 64, Value.ref 39, Value.type "ValueError", Value.type "Exception", Value.type "BaseException", Value.type "object"], ns := 63, qualname := Str.ofString "Runaway" }, slots := #[some (Value.ref 55), none, some (Value.str (Str.ofString "Runaway") 240), some (Value.str (Str.ofString "Runaway") 248), some (Value.builtin "ValueError.__new__"), some (Value.bool true)] }) ::
  (67, { cls := Value.type "tuple", data := Data.seq #[Value.ref 39] }) ::
  (74, { cls := Value.type "tuple", data := Data.seq #[] }) ::
  (75, { cls := Value.type "dict", data := Data.dict #[{ hash := PyData.keyHash P (Str.ofString "__module__"), key := Value.str (Str.ofString "__module__") 263, val := Value.str (Str.ofString "gluepage.errors") 194 }, { hash := PyData.keyHash P (Str.ofString "__firstlineno__"), key := Value.str (Str.ofString "__firstlineno__") 267, val := Value.int 13 266 }, { hash := PyData.keyHash P (Str.ofString "__static_attributes__"), key := Value.str (Str.ofString "__static_attributes__") 268, val := Value.ref 74 }, { hash := PyData.keyHash P (Str.ofString "__doc__"), key := Value.str (Str.ofString "__doc__") 269, val := Value.none }] 2 }) ::
  (76, { cls := Value.type "type", data := Data.cls { name := Str.ofString "OuterRefused", bases := [Value.ref 39], mro := [Value.ref 76, Value.ref 39, Value.type "ValueError", Value.type "Exception", Value.type "BaseException", Value.type "object"], ns := 75, qualname := Str.ofString "OuterRefused" }, slots := #[some (Value.ref 67), none, some (Value.str (Str.ofString "OuterRefused") 256), some (Value.str (Str.ofString "OuterRefused") 264), some (Value.builtin "ValueError.__new__"), some (Value.bool true)] }) ::
  (79, { cls := Value.type "tuple", data := Data.seq #[Value.ref 39] }) ::
  (86, { cls := Value.type "tuple", data := Data.seq #[] }) ::
  (87, { cls := Value.type "dict", data := Data.dict #[{ hash := PyData.keyHash P (Str.ofString "__module__"), key := Value.str (Str.ofString "__module__") 279, val := Value.str (Str.ofString "gluepage.errors") 194 }, { hash := PyData.keyHash P (Str.ofString "__firstlineno__"), key := Value.str (Str.ofString "__firstlineno__") 283, val := Value.int 15 282 }, { hash := PyData.keyHash P (Str.ofString "__static_attributes__"), key := Value.str (Str.ofString "__static_attributes__") 284, val := Value.ref 86 }, { hash := PyData.keyHash P (Str.ofString "__doc__"), key := Value.str (Str.ofString "__doc__") 285, val := Value.none }] 2 }) ::
  (88, { cls := Value.type "type", data := Data.cls { name := Str.ofString "BadDefinition", bases := [Value.ref 39], mro := [Value.ref 88, Value.ref 39, Value.type "ValueError", Value.type "Exception", Value.type "BaseException", Value.type "object"], ns := 87, qualname := Str.ofString "BadDefinition" }, slots := #[some (Value.ref 79), none, some (Value.str (Str.ofString "BadDefinition") 272), some (Value.str (Str.ofString "BadDefinition") 280), some (Value.builtin "ValueError.__new__"), some (Value.bool true)] }) ::
  (91, { cls := Value.type "tuple", data := Data.seq #[] }) ::
  (93, { cls := Value.type "tuple", data := Data.seq #[Value.str (Str.ofString "value") 293, Value.str (Str.ofString "low") 294, Value.str (Str.ofString "high") 295] }) ::
  (94, { cls := Value.type "tuple", data := Data.seq #[] }) ::
  (96, { cls := Value.type "code", data := Data.fields #[Value.str (Str.ofString "is_whole") 290, Value.str (Str.ofString "is_whole") 291, Value.str (Str.ofString "/claim/cut.py") 292, Value.int 18 0, Value.int 3 0, Value.int 0 0, Value.int 0 0, Value.int 3 0, Value.ref 91, Value.bool true, Value.int 181 0, Value.ref 92, Value.none, Value.ref 93, Value.ref 94, Value.ref 95, Value.int 296 0, Value.int 18 0, Value.str (Str.ofString "/claim/cut.py") 297] }) ::
  (97, { cls := Value.type "function", data := Data.func { name := Str.ofString "is_whole", qualname := Str.ofString "is_whole", params := defP 8 0, body := FuncBody.stmts (defB 8 0), scope := defS 8 0, globals := 3, closure := [], defaults := Value.none, kwdefaults := Value.none, pyModule := Value.str (Str.ofString "gluepage.scaled") 288, code := Value.ref 96 } }) ::
  (110, { cls := Value.type "tuple", data := Data.seq #[Value.int 0 347, Value.int 0 348, Value.int 0 349, Value.int 0 350, Value.int 0 351, Value.int 1 352, Value.int 0 353, Value.int 0 354, Value.int 0 355, Value.int 1 356, Value.int 0 357, Value.int 0 358, Value.int 0 359, Value.int 0 360, Value.int 0 361, Value.int 0 362] }) ::
  (111, { cls := Value.type "tuple", data := Data.seq #[Value.int 1048575 365, Value.int 255 366, Value.int 255 367, Value.int 255 368, Value.int 255 369, Value.int 9 370, Value.int 255 371, Value.int 255 372, Value.int 255 373, Value.int 9 374, Value.int 255 375, Value.int 255 376, Value.int 255 377, Value.int 255 378, Value.int 255 379, Value.int 0 380] }) ::
  (112, { cls := Value.type "tuple", data := Data.seq #[] }) ::
  (114, { cls := Value.type "tuple", data := Data.seq #[Value.str (Str.ofString "token") 385] }) ::
  (115, { cls := Value.type "tuple", data := Data.seq #[] }) ::
  (117, { cls := Value.type "code", data := Data.fields #[Value.str (Str.ofString "is_token") 382, Value.str (Str.ofString "is_token") 383, Value.str (Str.ofString "/claim/cut.py") 384, Value.int 27 0, Value.int 1 0, Value.int 0 0, Value.int 0 0, Value.int 3 0, Value.ref 112, Value.bool true, Value.int 181 0, Value.ref 113, Value.none, Value.ref 114, Value.ref 115, Value.ref 116, Value.int 386 0, Value.int 27 0, Value.str (Str.ofString "/claim/cut.py") 387] }) ::
  (118, { cls := Value.type "function", data := Data.func { name := Str.ofString "is_token", qualname := Str.ofString "is_token", params := defP 16 0, body := FuncBody.stmts (defB 16 0), scope := defS 16 0, globals := 3, closure := [], defaults := Value.none, kwdefaults := Value.none, pyModule := Value.str (Str.ofString "gluepage.tokens") 299, code := Value.ref 117 } }) ::
  (119, { cls := Value.type "tuple", data := Data.seq #[] }) ::
  (121, { cls := Value.type "tuple", data := Data.seq #[Value.str (Str.ofString "tokens") 392, Value.str (Str.ofString "token") 393] }) ::
  (122, { cls := Value.type "tuple", data := Data.seq #[] }) ::
  (124, { cls := Value.type "code", data := Data.fields #[Value.str (Str.ofString "check_tokens") 389, Value.str (Str.ofString "check_tokens") 390, Value.str (Str.ofString "/claim/cut.py") 391, Value.int 31 0, Value.int 1 0, Value.int 0 0, Value.int 0 0, Value.int 3 0, Value.ref 119, Value.bool true, Value.int 181 0, Value.ref 120, Value.none, Value.ref 121, Value.ref 122, Value.ref 123, Value.int 394 0, Value.int 31 0, Value.str (Str.ofString "/claim/cut.py") 395] }) ::
  (125, { cls := Value.type "function", data := Data.func { name := Str.ofString "check_tokens", qualname := Str.ofString "check_tokens", params := defP 17 0, body := FuncBody.stmts (defB 17 0), scope := defS 17 0, globals := 3, closure := [], defaults := Value.none, kwdefaults := Value.none, pyModule := Value.str (Str.ofString "gluepage.tokens") 299, code := Value.ref 124 } }) ::
  (133, { cls := Value.type "tuple", data := Data.seq #[] }) ::
  (134, { cls := Value.type "tuple", data := Data.seq #[Value.ref 133] }) ::
  (135, { cls := Value.type "tuple", data := Data.seq #[] }) ::
  (137, { cls := Value.type "tuple", data := Data.seq #[Value.str (Str.ofString "self") 412, Value.str (Str.ofString "tokens") 413, Value.str (Str.ofString "outers") 414] }) ::
  (138, { cls := Value.type "tuple", data := Data.seq #[] }) ::
  (140, { cls := Value.type "code", data := Data.fields #[Value.str (Str.ofString "__init__") 409, Value.str (Str.ofString "TokenFeed.__init__") 410, Value.str (Str.ofString "/claim/cut.py") 411, Value.int 37 0, Value.int 3 0, Value.int 0 0, Value.int 0 0, Value.int 3 0, Value.ref 135, Value.bool true, Value.int 181 0, Value.ref 136, Value.none, Value.ref 137, Value.ref 138, Value.ref 139, Value.int 415 0, Value.int 37 0, Value.str (Str.ofString "/claim/cut.py") 416] }) ::
  (141, { cls := Value.type "function", data := Data.func { name := Str.ofString "__init__", qualname := Str.ofString "TokenFeed.__init__", params := defP 18 1, body := FuncBody.stmts (defB 18 1), scope := defS 18 1, globals := 3, closure := [], defaults := Value.ref 134, kwdefaults := Value.none, pyModule := Value.str (Str.ofString "gluepage.tokens") 299, code := Value.ref 140 } }) ::
  (142, { cls := Value.type "tuple", data := Data.seq #[] }) ::
  (144, { cls := Value.type "tuple", data := Data.seq #[Value.str (Str.ofString "self") 421] }) ::
  (145, { cls := Value.type "tuple", data := Data.seq #[] }) ::
  (147, { cls := Value.type "code", data := Data.fields #[Value.str (Str.ofString "next") 418, Value.str (Str.ofString "TokenFeed.next") 419, Value.str (Str.ofString "/claim/cut.py") 420, Value.int 42 0, Value.int 1 0, Value.int 0 0, Value.int 0 0, Value.int 3 0, Value.ref 142, Value.bool true, Value.int 181 0, Value.ref 143, Value.none, Value.ref 144, Value.ref 145, Value.ref 146, Value.int 422 0, Value.int 42 0, Value.str (Str.ofString "/claim/cut.py") 423] }) ::
  (148, { cls := Value.type "function", data := Data.func { name := Str.ofString "next", qualname := Str.ofString "TokenFeed.next", params := defP 18 2, body := FuncBody.stmts (defB 18 2), scope := defS 18 2, globals := 3, closure := [], defaults := Value.none, kwdefaults := Value.none, pyModule := Value.str (Str.ofString "gluepage.tokens") 299, code := Value.ref 147 } }) ::
  (149, { cls := Value.type "tuple", data := Data.seq #[] }) ::
  (151, { cls := Value.type "tuple", data := Data.seq #[Value.str (Str.ofString "self") 428, Value.str (Str.ofString "token") 429] }) ::
  (152, { cls := Value.type "tuple", data := Data.seq #[] }) ::
  (154, { cls := Value.type "code", data := Data.fields #[Value.str (Str.ofString "back") 425, Value.str (Str.ofString "TokenFeed.back") 426, Value.str (Str.ofString "/claim/cut.py") 427, Value.int 47 0, Value.int 2 0, Value.int 0 0, Value.int 0 0, Value.int 3 0, Value.ref 149, Value.bool true, Value.int 181 0, Value.ref 150, Value.none, Value.ref 151, Value.ref 152, Value.ref 153, Value.int 430 0, Value.int 47 0, Value.str (Str.ofString "/claim/cut.py") 431] }) ::
  (155, { cls := Value.type "function", data := Data.func { name := Str.ofString "back", qualname := Str.ofString "TokenFeed.back", params := defP 18 3, body := FuncBody.stmts (defB 18 3), scope := defS 18 3, globals := 3, closure := [], defaults := Value.none, kwdefaults := Value.none, pyModule := Value.str (Str.ofString "gluepage.tokens") 299, code := Value.ref 154 } }) ::
  (156, { cls := Value.type "tuple", data := Data.seq #[] }) ::
  (158, { cls := Value.type "tuple", data := Data.seq #[Value.str (Str.ofString "self") 436, Value.str (Str.ofString "tokens") 437] }) ::
  (159, { cls := Value.type "tuple", data := Data.seq #[] }) ::
  (161, { cls := Value.type "code", data := Data.fields #[Value.str (Str.ofString "push") 433, Value.str (Str.ofString "TokenFeed.push") 434, Value.str (Str.ofString "/claim/cut.py") 435, Value.int 50 0, Value.int 2 0, Value.int 0 0, Value.int 0 0, Value.int 3 0, Value.ref 156, Value.bool true, Value.int 181 0, Value.ref 157, Value.none, Value.ref 158, Value.ref 159, Value.ref 160, Value.int 438 0, Value.int 50 0, Value.str (Str.ofString "/claim/cut.py") 439] }) ::
  (162, { cls := Value.type "function", data := Data.func { name := Str.ofString "push", qualname := Str.ofString "TokenFeed.push", params := defP 18 4, body := FuncBody.stmts (defB 18 4), scope := defS 18 4, globals := 3, closure := [], defaults := Value.none, kwdefaults := Value.none, pyModule := Value.str (Str.ofString "gluepage.tokens") 299, code := Value.ref 161 } }) ::
  (163, { cls := Value.type "tuple", data := Data.seq #[] }) ::
  (165, { cls := Value.type "tuple", data := Data.seq #[Value.str (Str.ofString "self") 444] }) ::
  (166, { cls := Value.type "tuple", data := Data.seq #[] }) ::
  (168, { cls := Value.type "code", data := Data.fields #[Value.str (Str.ofString "left") 441, Value.str (Str.ofString "TokenFeed.left") 442, Value.str (Str.ofString "/claim/cut.py") 443, Value.int 53 0, Value.int 1 0, Value.int 0 0, Value.int 0 0, Value.int 3 0, Value.ref 163, Value.bool true, Value.int 181 0, Value.ref 164, Value.none, Value.ref 165, Value.ref 166, Value.ref 167, Value.int 445 0, Value.int 53 0, Value.str (Str.ofString "/claim/cut.py") 446] }) ::
  (169, { cls := Value.type "function", data := Data.func { name := Str.ofString "left", qualname := Str.ofString "TokenFeed.left", params := defP 18 5, body := FuncBody.stmts (defB 18 5), scope := defS 18 5, globals := 3, closure := [], defaults := Value.none, kwdefaults := Value.none, pyModule := Value.str (Str.ofString "gluepage.tokens") 299, code := Value.ref 168 } }) ::
  (170, { cls := Value.type "tuple", data := Data.seq #[] }) ::
  (172, { cls := Value.type "tuple", data := Data.seq #[Value.str (Str.ofString "self") 451, Value.str (Str.ofString "token") 452] }) ::
  (173, { cls := Value.type "tuple", data := Data.seq #[] }) ::
  (175, { cls := Value.type "code", data := Data.fields #[Value.str (Str.ofString "is_outer") 448, Value.str (Str.ofString "TokenFeed.is_outer") 449, Value.str (Str.ofString "/claim/cut.py") 450, Value.int 56 0, Value.int 2 0, Value.int 0 0, Value.int 0 0, Value.int 3 0, Value.ref 170, Value.bool true, Value.int 181 0, Value.ref 171, Value.none, Value.ref 172, Value.ref 173, Value.ref 174, Value.int 453 0, Value.int 56 0, Value.str (Str.ofString "/claim/cut.py") 454] }) ::
  (176, { cls := Value.type "function", data := Data.func { name := Str.ofString "is_outer", qualname := Str.ofString "TokenFeed.is_outer", params := defP 18 6, body := FuncBody.stmts (defB 18 6), scope := defS 18 6, globals := 3, closure := [], defaults := Value.none, kwdefaults := Value.none, pyModule := Value.str (Str.ofString "gluepage.tokens") 299, code := Value.ref 175 } }) ::
  (177, { cls := Value.type "tuple", data := Data.seq #[Value.str (Str.ofString "outers") 456, Value.str (Str.ofString "rest") 457] }) ::
  (178, { cls := Value.type "dict", data := Data.dict #[{ hash := PyData.keyHash P (Str.ofString "__module__"), key := Value.str (Str.ofString "__module__") 404, val := Value.str (Str.ofString "gluepage.tokens") 299 }, { hash := PyData.keyHash P (Str.ofString "__firstlineno__"), key := Value.str (Str.ofString "__firstlineno__") 408, val := Value.int 35 407 }, { hash := PyData.keyHash P (Str.ofString "__init__"), key := Value.str (Str.ofString "__init__") 417, val := Value.ref 141 }, { hash := PyData.keyHash P (Str.ofString "next"), key := Value.str (Str.ofString "next") 424, val := Value.ref 148 }, { hash := PyData.keyHash P (Str.ofString "back"), key := Value.str (Str.ofString "back") 432, val := Value.ref 155 }, { hash := PyData.keyHash P (Str.ofString "push"), key := Value.str (Str.ofString "push") 440, val := Value.ref 162 }, { hash := PyData.keyHash P (Str.ofString "left"), key := Value.str (Str.ofString "left") 447, val := Value.ref 169 }, { hash := PyData.keyHash P (Str.ofString "is_outer"), key := Value.str (Str.ofString "is_outer") 455, val := Value.ref 176 }, { hash := PyData.keyHash P (Str.ofString "__static_attributes__"), key := Value.str (Str.ofString "__static_attributes__") 458, val := Value.ref 177 }, { hash := PyData.keyHash P (Str.ofString "__dict__"), key := Value.str (Str.ofString "__dict__") 460, val := Value.ref 180 }, { hash := PyData.keyHash P (Str.ofString "__weakref__"), key := Value.str (Str.ofString "__weakref__") 462, val := Value.ref 181 }, { hash := PyData.keyHash P (Str.ofString "__doc__"), key := Value.str (Str.ofString "__doc__") 463, val := Value.none }] 4 }) ::
  (179, { cls := Value.type "type", data := Data.cls { name := Str.ofString "TokenFeed", bases := [Value.type "object"], mro := [Value.ref 179, Value.type "object"], ns := 178, qualname := Str.ofString "TokenFeed" }, slots := #[none, none, some (Value.str (Str.ofString "TokenFeed") 397), some (Value.str (Str.ofString "TokenFeed") 405), some (Value.builtin "object.__new__"), some (Value.bool true)] }) ::
  (180, { cls := Value.type "getset_descriptor", data := Data.fields #[Value.str (Str.ofString "__dict__") 459, Value.ref 179, Value.builtin "function.__dict__", Value.builtin "function.__dict__#set"] }) ::
  (181, { cls := Value.type "getset_descriptor", data := Data.fields #[Value.str (Str.ofString "__weakref__") 461, Value.ref 179, Value.builtin "ExceptionGroup.__weakref__", Value.none] }) ::
  (184, { cls := Value.type "tuple", data := Data.seq #[Value.int 5 334, Value.int 9 335, Value.int 15 337] }) ::
  (192, { cls := Value.type "tuple", data := Data.seq #[Value.bool false, Value.bool false] }) ::
  (193, { cls := Value.type "tuple", data := Data.seq #[] }) ::
  (196, { cls := Value.type "code", data := Data.fields #[Value.str (Str.ofString "__init__") 485, Value.str (Str.ofString "Macro.__init__") 486, Value.str (Str.ofString "/claim/cut.py") 487, Value.int 64 0, Value.int 5 0, Value.int 0 0, Value.int 0 0, Value.int 3 0, Value.ref 193, Value.bool true, Value.int 181 0, Value.ref 194, Value.none, Value.none, Value.none, Value.ref 195, Value.int 488 0, Value.int 64 0, Value.str (Str.ofString "/claim/cut.py") 489] }) ::
  (197, { cls := Value.type "function", data := Data.func { name := Str.ofString "__init__", qualname := Str.ofString "Macro.__init__", params := defP 23 1, body := FuncBody.stmts (defB 23 1), scope := defS 23 1, globals := 3, closure := [], defaults := Value.ref 192, kwdefaults := Value.none, pyModule := Value.str (Str.ofString "gluepage.macros") 466, code := Value.ref 196 } }) ::
  (198, { cls := Value.type "tuple", data := Data.seq #[] }) ::
  (200, { cls := Value.type "tuple", data := Data.seq #[Value.str (Str.ofString "self") 494] }) ::
  (201, { cls := Value.type "tuple", data := Data.seq #[] }) ::
  (203, { cls := Value.type "code", data := Data.fields #[Value.str (Str.ofString "has_brace") 491, Value.str (Str.ofString "Macro.has_brace") 492, Value.str (Str.ofString "/claim/cut.py") 493, Value.int 82 0, Value.int 1 0, Value.int 0 0, Value.int 0 0, Value.int 3 0, Value.ref 198, Value.bool true, Value.int 181 0, Value.ref 199, Value.none, Value.ref 200, Value.ref 201, Value.ref 202, Value.int 495 0, Value.int 82 0, Value.str (Str.ofString "/claim/cut.py") 496] }) ::
  (204, { cls := Value.type "function", data := Data.func { name := Str.ofString "has_brace", qualname := Str.ofString "Macro.has_brace", params := defP 23 2, body := FuncBody.stmts (defB 23 2), scope := defS 23 2, globals := 3, closure := [], defaults := Value.none, kwdefaults := Value.none, pyModule := Value.str (Str.ofString "gluepage.macros") 466, code := Value.ref 203 } }) ::
  (205, { cls := Value.type "tuple", data := Data.seq #[] }) ::
  (207, { cls := Value.type "tuple", data := Data.seq #[Value.str (Str.ofString "self") 501, Value.str (Str.ofString "other") 502] }) ::
  (208, { cls := Value.type "tuple", data := Data.seq #[] }) ::
  (210, { cls := Value.type "code", data := Data.fields #[Value.str (Str.ofString "same") 498, Value.str (Str.ofString "Macro.same") 499, Value.str (Str.ofString "/claim/cut.py") 500, Value.int 85 0, Value.int 2 0, Value.int 0 0, Value.int 0 0, Value.int 3 0, Value.ref 205, Value.bool true, Value.int 181 0, Value.ref 206, Value.none, Value.ref 207, Value.ref 208, Value.ref 209, Value.int 503 0, Value.int 85 0, Value.str (Str.ofString "/claim/cut.py") 504] }) ::
  (211, { cls := Value.type "function", data := Data.func { name := Str.ofString "same", qualname := Str.ofString "Macro.same", params := defP 23 3, body := FuncBody.stmts (defB 23 3), scope := defS 23 3, globals := 3, closure := [], defaults := Value.none, kwdefaults := Value.none, pyModule := Value.str (Str.ofString "gluepage.macros") 466, code := Value.ref 210 } }) ::
  (212, { cls := Value.type "tuple", data := Data.seq #[Value.str (Str.ofString "body") 506, Value.str (Str.ofString "count") 507, Value.str (Str.ofString "delimiters") 508, Value.str (Str.ofString "is_long") 509, Value.str (Str.ofString "is_outer") 510, Value.str (Str.ofString "parameters") 511] }) ::
  (213, { cls := Value.type "dict", data := Data.dict #[{ hash := PyData.keyHash P (Str.ofString "__module__"), key := Value.str (Str.ofString "__module__") 480, val := Value.str (Str.ofString "gluepage.macros") 466 }, { hash := PyData.keyHash P (Str.ofString "__firstlineno__"), key := Value.str (Str.ofString "__firstlineno__") 484, val := Value.int 62 483 }, { hash := PyData.keyHash P (Str.ofString "__init__"), key := Value.str (Str.ofString "__init__") 490, val := Value.ref 197 }, { hash := PyData.keyHash P (Str.ofString "has_brace"), key := Value.str (Str.ofString "has_brace") 497, val := Value.ref 204 }, { hash := PyData.keyHash P (Str.ofString "same"), key := Value.str (Str.ofString "same") 505, val := Value.ref 211 }, { hash := PyData.keyHash P (Str.ofString "__static_attributes__"), key := Value.str (Str.ofString "__static_attributes__") 512, val := Value.ref 212 }, { hash := PyData.keyHash P (Str.ofString "__dict__"), key := Value.str (Str.ofString "__dict__") 514, val := Value.ref 215 }, { hash := PyData.keyHash P (Str.ofString "__weakref__"), key := Value.str (Str.ofString "__weakref__") 516, val := Value.ref 216 }, { hash := PyData.keyHash P (Str.ofString "__doc__"), key := Value.str (Str.ofString "__doc__") 517, val := Value.none }] 4 }) ::
  (214, { cls := Value.type "type", data := Data.cls { name := Str.ofString "Macro", bases := [Value.type "object"], mro := [Value.ref 214, Value.type "object"], ns := 213, qualname := Str.ofString "Macro" }, slots := #[none, none, some (Value.str (Str.ofString "Macro") 473), some (Value.str (Str.ofString "Macro") 481), some (Value.builtin "object.__new__"), some (Value.bool true)] }) ::
  (215, { cls := Value.type "getset_descriptor", data := Data.fields #[Value.str (Str.ofString "__dict__") 513, Value.ref 214, Value.builtin "function.__dict__", Value.builtin "function.__dict__#set"] }) ::
  (216, { cls := Value.type "getset_descriptor", data := Data.fields #[Value.str (Str.ofString "__weakref__") 515, Value.ref 214, Value.builtin "ExceptionGroup.__weakref__", Value.none] }) ::
  (219, { cls := Value.type "tuple", data := Data.seq #[] }) ::
  (221, { cls := Value.type "tuple", data := Data.seq #[Value.str (Str.ofString "feed") 523, Value.str (Str.ofString "token") 524] }) ::
  (222, { cls := Value.type "tuple", data := Data.seq #[] }) ::
  (224, { cls := Value.type "code", data := Data.fields #[Value.str (Str.ofString "token_wanted") 520, Value.str (Str.ofString "token_wanted") 521, Value.str (Str.ofString "/claim/cut.py") 522, Value.int 87 0, Value.int 1 0, Value.int 0 0, Value.int 0 0, Value.int 3 0, Value.ref 219, Value.bool true, Value.int 181 0, Value.ref 220, Value.none, Value.ref 221, Value.ref 222, Value.ref 223, Value.int 525 0, Value.int 87 0, Value.str (Str.ofString "/claim/cut.py") 526] }) ::
  (225, { cls := Value.type "function", data := Data.func { name := Str.ofString "token_wanted", qualname := Str.ofString "token_wanted", params := defP 24 0, body := FuncBody.stmts (defB 24 0), scope := defS 24 0, globals := 3, closure := [], defaults := Value.none, kwdefaults := Value.none, pyModule := Value.str (Str.ofString "gluepage.macros") 466, code := Value.ref 224 } }) ::
  (226, { cls := Value.type "tuple", data := Data.seq #[] }) ::
  (228, { cls := Value.type "tuple", data := Data.seq #[Value.str (Str.ofString "feed") 531, Value.str (Str.ofString "found") 532, Value.str (Str.ofString "count") 533, Value.str (Str.ofString "token") 534] }) ::
  (229, { cls := Value.type "tuple", data := Data.seq #[] }) ::
  (231, { cls := Value.type "code", data := Data.fields #[Value.str (Str.ofString "read_parameters") 528, Value.str (Str.ofString "read_parameters") 529, Value.str (Str.ofString "/claim/cut.py") 530, Value.int 94 0, Value.int 1 0, Value.int 0 0, Value.int 0 0, Value.int 3 0, Value.ref 226, Value.bool true, Value.int 181 0, Value.ref 227, Value.none, Value.ref 228, Value.ref 229, Value.ref 230, Value.int 535 0, Value.int 94 0, Value.str (Str.ofString "/claim/cut.py") 536] }) ::
  (232, { cls := Value.type "function", data := Data.func { name := Str.ofString "read_parameters", qualname := Str.ofString "read_parameters", params := defP 25 0, body := FuncBody.stmts (defB 25 0), scope := defS 25 0, globals := 3, closure := [], defaults := Value.none, kwdefaults := Value.none, pyModule := Value.str (Str.ofString "gluepage.macros") 466, code := Value.ref 231 } }) ::
  (233, { cls := Value.type "tuple", data := Data.seq #[] }) ::
  (235, { cls := Value.type "tuple", data := Data.seq #[Value.str (Str.ofString "token") 541, Value.str (Str.ofString "count") 542] }) ::
  (236, { cls := Value.type "tuple", data := Data.seq #[] }) ::
  (238, { cls := Value.type "code", data := Data.fields #[Value.str (Str.ofString "parameter_mark") 538, Value.str (Str.ofString "parameter_mark") 539, Value.str (Str.ofString "/claim/cut.py") 540, Value.int 114 0, Value.int 2 0, Value.int 0 0, Value.int 0 0, Value.int 3 0, Value.ref 233, Value.bool true, Value.int 181 0, Value.ref 234, Value.none, Value.ref 235, Value.ref 236, Value.ref 237, Value.int 543 0, Value.int 114 0, Value.str (Str.ofString "/claim/cut.py") 544] }) ::
  (239, { cls := Value.type "function", data := Data.func { name := Str.ofString "parameter_mark", qualname := Str.ofString "parameter_mark", params := defP 26 0, body := FuncBody.stmts (defB 26 0), scope := defS 26 0, globals := 3, closure := [], defaults := Value.none, kwdefaults := Value.none, pyModule := Value.str (Str.ofString "gluepage.macros") 466, code := Value.ref 238 } }) ::
  (240, { cls := Value.type "tuple", data := Data.seq #[] }) ::
  (242, { cls := Value.type "tuple", data := Data.seq #[Value.str (Str.ofString "feed") 549, Value.str (Str.ofString "count") 550, Value.str (Str.ofString "found") 551, Value.str (Str.ofString "depth") 552, Value.str (Str.ofString "token") 553] }) ::
  (243, { cls := Value.type "tuple", data := Data.seq #[] }) ::
  (245, { cls := Value.type "code", data := Data.fields #[Value.str (Str.ofString "read_body") 546, Value.str (Str.ofString "read_body") 547, Value.str (Str.ofString "/claim/cut.py") 548, Value.int 120 0, Value.int 2 0, Value.int 0 0, Value.int 0 0, Value.int 3 0, Value.ref 240, Value.bool true, Value.int 181 0, Value.ref 241, Value.none, Value.ref 242, Value.ref 243, Value.ref 244, Value.int 554 0, Value.int 120 0, Value.str (Str.ofString "/claim/cut.py") 555] }) ::
  (246, { cls := Value.type "function", data := Data.func { name := Str.ofString "read_body", qualname := Str.ofString "read_body", params := defP 27 0, body := FuncBody.stmts (defB 27 0), scope := defS 27 0, globals := 3, closure := [], defaults := Value.none, kwdefaults := Value.none, pyModule := Value.str (Str.ofString "gluepage.macros") 466, code := Value.ref 245 } }) ::
  (247, { cls := Value.type "tuple", data := Data.seq #[Value.bool false, Value.bool false] }) ::
  (248, { cls := Value.type "tuple", data := Data.seq #[] }) ::
  (251, { cls := Value.type "code", data := Data.fields #[Value.str (Str.ofString "definition") 557, Value.str (Str.ofString "definition") 558, Value.str (Str.ofString "/claim/cut.py") 559, Value.int 140 0, Value.int 3 0, Value.int 0 0, Value.int 0 0, Value.int 3 0, Value.ref 248, Value.bool true, Value.int 181 0, Value.ref 249, Value.none, Value.none, Value.none, Value.ref 250, Value.int 560 0, Value.int 140 0, Value.str (Str.ofString "/claim/cut.py") 561] }) ::
  (252, { cls := Value.type "function", data := Data.func { name := Str.ofString "definition", qualname := Str.ofString "definition", params := defP 28 0, body := FuncBody.stmts (defB 28 0), scope := defS 28 0, globals := 3, closure := [], defaults := Value.ref 247, kwdefaults := Value.none, pyModule := Value.str (Str.ofString "gluepage.macros") 466, code := Value.ref 251 } }) ::
  (253, { cls := Value.type "tuple", data := Data.seq #[] }) ::
  (256, { cls := Value.type "code", data := Data.fields #[Value.str (Str.ofString "_law_cell") 565, Value.str (Str.ofString "_law_cell") 566, Value.str (Str.ofString "/claim/cut.py") 567, Value.int 146 0, Value.int 2 0, Value.int 0 0, Value.int 0 0, Value.int 3 0, Value.ref 253, Value.bool true, Value.int 181 0, Value.ref 254, Value.none, Value.none, Value.none, Value.ref 255, Value.int 568 0, Value.int 146 0, Value.str (Str.ofString "/claim/cut.py") 569] }) ::
  (257, { cls := Value.type "function", data := Data.func { name := Str.ofString "_law_cell", qualname := Str.ofString "_law_cell", params := defP 30 0, body := FuncBody.stmts (defB 30 0), scope := defS 30 0, globals := 3, closure := [], defaults := Value.none, kwdefaults := Value.none, pyModule := Value.str (Str.ofString "law_xm0371_01") 563, code := Value.ref 256 } }) ::
  (258, { cls := Value.type "tuple", data := Data.seq #[] }) ::
  (260, { cls := Value.type "tuple", data := Data.seq #[Value.str (Str.ofString "source") 574, Value.str (Str.ofString "many") 575, Value.str (Str.ofString "digit") 576, Value.str (Str.ofString "mixed") 577] }) ::
  (261, { cls := Value.type "tuple", data := Data.seq #[] }) ::
  (263, { cls := Value.type "code", data := Data.fields #[Value.str (Str.ofString "_law_take") 571, Value.str (Str.ofString "_law_take") 572, Value.str (Str.ofString "/claim/cut.py") 573, Value.int 150 0, Value.int 2 0, Value.int 0 0, Value.int 0 0, Value.int 3 0, Value.ref 258, Value.bool true, Value.int 181 0, Value.ref 259, Value.none, Value.ref 260, Value.ref 261, Value.ref 262, Value.int 578 0, Value.int 150 0, Value.str (Str.ofString "/claim/cut.py") 579] }) ::
  (264, { cls := Value.type "function", data := Data.func { name := Str.ofString "_law_take", qualname := Str.ofString "_law_take", params := defP 31 0, body := FuncBody.stmts (defB 31 0), scope := defS 31 0, globals := 3, closure := [], defaults := Value.none, kwdefaults := Value.none, pyModule := Value.str (Str.ofString "law_xm0371_01") 563, code := Value.ref 263 } }) ::
  (265, { cls := Value.type "tuple", data := Data.seq #[] }) ::
  (267, { cls := Value.type "tuple", data := Data.seq #[Value.str (Str.ofString "source") 584] }) ::
  (268, { cls := Value.type "tuple", data := Data.seq #[] }) ::
  (270, { cls := Value.type "code", data := Data.fields #[Value.str (Str.ofString "_law_any") 581, Value.str (Str.ofString "_law_any") 582, Value.str (Str.ofString "/claim/cut.py") 583, Value.int 158 0, Value.int 1 0, Value.int 0 0, Value.int 0 0, Value.int 3 0, Value.ref 265, Value.bool true, Value.int 181 0, Value.ref 266, Value.none, Value.ref 267, Value.ref 268, Value.ref 269, Value.int 585 0, Value.int 158 0, Value.str (Str.ofString "/claim/cut.py") 586] }) ::
  (271, { cls := Value.type "function", data := Data.func { name := Str.ofString "_law_any", qualname := Str.ofString "_law_any", params := defP 32 0, body := FuncBody.stmts (defB 32 0), scope := defS 32 0, globals := 3, closure := [], defaults := Value.none, kwdefaults := Value.none, pyModule := Value.str (Str.ofString "law_xm0371_01") 563, code := Value.ref 270 } }) ::
  (272, { cls := Value.type "tuple", data := Data.seq #[] }) ::
  (274, { cls := Value.type "tuple", data := Data.seq #[Value.str (Str.ofString "source") 591] }) ::
  (275, { cls := Value.type "tuple", data := Data.seq #[] }) ::
  (277, { cls := Value.type "code", data := Data.fields #[Value.str (Str.ofString "_law_plain") 588, Value.str (Str.ofString "_law_plain") 589, Value.str (Str.ofString "/claim/cut.py") 590, Value.int 160 0, Value.int 1 0, Value.int 0 0, Value.int 0 0, Value.int 3 0, Value.ref 272, Value.bool true, Value.int 181 0, Value.ref 273, Value.none, Value.ref 274, Value.ref 275, Value.ref 276, Value.int 592 0, Value.int 160 0, Value.str (Str.ofString "/claim/cut.py") 593] }) ::
  (278, { cls := Value.type "function", data := Data.func { name := Str.ofString "_law_plain", qualname := Str.ofString "_law_plain", params := defP 33 0, body := FuncBody.stmts (defB 33 0), scope := defS 33 0, globals := 3, closure := [], defaults := Value.none, kwdefaults := Value.none, pyModule := Value.str (Str.ofString "law_xm0371_01") 563, code := Value.ref 277 } }) ::
  (279, { cls := Value.type "tuple", data := Data.seq #[] }) ::
  (281, { cls := Value.type "tuple", data := Data.seq #[Value.str (Str.ofString "source") 598] }) ::
  (282, { cls := Value.type "tuple", data := Data.seq #[] }) ::
  (284, { cls := Value.type "code", data := Data.fields #[Value.str (Str.ofString "_law_mark") 595, Value.str (Str.ofString "_law_mark") 596, Value.str (Str.ofString "/claim/cut.py") 597, Value.int 162 0, Value.int 1 0, Value.int 0 0, Value.int 0 0, Value.int 3 0, Value.ref 279, Value.bool true, Value.int 181 0, Value.ref 280, Value.none, Value.ref 281, Value.ref 282, Value.ref 283, Value.int 599 0, Value.int 162 0, Value.str (Str.ofString "/claim/cut.py") 600] }) ::
  (285, { cls := Value.type "function", data := Data.func { name := Str.ofString "_law_mark", qualname := Str.ofString "_law_mark", params := defP 34 0, body := FuncBody.stmts (defB 34 0), scope := defS 34 0, globals := 3, closure := [], defaults := Value.none, kwdefaults := Value.none, pyModule := Value.str (Str.ofString "law_xm0371_01") 563, code := Value.ref 284 } }) ::
  (286, { cls := Value.type "tuple", data := Data.seq #[] }) ::
  (288, { cls := Value.type "tuple", data := Data.seq #[Value.str (Str.ofString "source") 605, Value.str (Str.ofString "many") 606, Value.str (Str.ofString "level") 607, Value.str (Str.ofString "way") 608] }) ::
  (289, { cls := Value.type "tuple", data := Data.seq #[] }) ::
  (291, { cls := Value.type "code", data := Data.fields #[Value.str (Str.ofString "_law_piece") 602, Value.str (Str.ofString "_law_piece") 603, Value.str (Str.ofString "/claim/cut.py") 604, Value.int 164 0, Value.int 3 0, Value.int 0 0, Value.int 0 0, Value.int 3 0, Value.ref 286, Value.bool true, Value.int 181 0, Value.ref 287, Value.none, Value.ref 288, Value.ref 289, Value.ref 290, Value.int 609 0, Value.int 164 0, Value.str (Str.ofString "/claim/cut.py") 610] }) ::
  (292, { cls := Value.type "function", data := Data.func { name := Str.ofString "_law_piece", qualname := Str.ofString "_law_piece", params := defP 35 0, body := FuncBody.stmts (defB 35 0), scope := defS 35 0, globals := 3, closure := [], defaults := Value.none, kwdefaults := Value.none, pyModule := Value.str (Str.ofString "law_xm0371_01") 563, code := Value.ref 291 } }) ::
  (293, { cls := Value.type "tuple", data := Data.seq #[] }) ::
  (295, { cls := Value.type "tuple", data := Data.seq #[Value.str (Str.ofString "source") 615, Value.str (Str.ofString "many") 616, Value.str (Str.ofString "found") 617, Value.str (Str.ofString "n") 618, Value.str (Str.ofString "head") 619, Value.str (Str.ofString "k") 620, Value.str (Str.ofString "last") 621] }) ::
  (296, { cls := Value.type "tuple", data := Data.seq #[] }) ::
  (298, { cls := Value.type "code", data := Data.fields #[Value.str (Str.ofString "_law_written") 612, Value.str (Str.ofString "_law_written") 613, Value.str (Str.ofString "/claim/cut.py") 614, Value.int 173 0, Value.int 1 0, Value.int 0 0, Value.int 0 0, Value.int 3 0, Value.ref 293, Value.bool true, Value.int 181 0, Value.ref 294, Value.none, Value.ref 295, Value.ref 296, Value.ref 297, Value.int 622 0, Value.int 173 0, Value.str (Str.ofString "/claim/cut.py") 623] }) ::
  (299, { cls := Value.type "function", data := Data.func { name := Str.ofString "_law_written", qualname := Str.ofString "_law_written", params := defP 36 0, body := FuncBody.stmts (defB 36 0), scope := defS 36 0, globals := 3, closure := [], defaults := Value.none, kwdefaults := Value.none, pyModule := Value.str (Str.ofString "law_xm0371_01") 563, code := Value.ref 298 } }) ::
  (300, { cls := Value.type "tuple", data := Data.seq #[] }) ::
  (302, { cls := Value.type "tuple", data := Data.seq #[Value.str (Str.ofString "source") 628, Value.str (Str.ofString "many") 629] }) ::
  (303, { cls := Value.type "tuple", data := Data.seq #[] }) ::
  (305, { cls := Value.type "code", data := Data.fields #[Value.str (Str.ofString "_law_spoilt") 625, Value.str (Str.ofString "_law_spoilt") 626, Value.str (Str.ofString "/claim/cut.py") 627, Value.int 192 0, Value.int 2 0, Value.int 0 0, Value.int 0 0, Value.int 3 0, Value.ref 300, Value.bool true, Value.int 181 0, Value.ref 301, Value.none, Value.ref 302, Value.ref 303, Value.ref 304, Value.int 630 0, Value.int 192 0, Value.str (Str.ofString "/claim/cut.py") 631] }) ::
  (306, { cls := Value.type "function", data := Data.func { name := Str.ofString "_law_spoilt", qualname := Str.ofString "_law_spoilt", params := defP 37 0, body := FuncBody.stmts (defB 37 0), scope := defS 37 0, globals := 3, closure := [], defaults := Value.none, kwdefaults := Value.none, pyModule := Value.str (Str.ofString "law_xm0371_01") 563, code := Value.ref 305 } }) ::
  (307, { cls := Value.type "tuple", data := Data.seq #[] }) ::
  (310, { cls := Value.type "code", data := Data.fields #[Value.str (Str.ofString "_law_row") 633, Value.str (Str.ofString "_law_row") 634, Value.str (Str.ofString "/claim/cut.py") 635, Value.int 194 0, Value.int 1 0, Value.int 0 0, Value.int 0 0, Value.int 3 0, Value.ref 307, Value.bool true, Value.int 181 0, Value.ref 308, Value.none, Value.none, Value.none, Value.ref 309, Value.int 636 0, Value.int 194 0, Value.str (Str.ofString "/claim/cut.py") 637] }) ::
  (311, { cls := Value.type "function", data := Data.func { name := Str.ofString "_law_row", qualname := Str.ofString "_law_row", params := defP 38 0, body := FuncBody.stmts (defB 38 0), scope := defS 38 0, globals := 3, closure := [], defaults := Value.none, kwdefaults := Value.none, pyModule := Value.str (Str.ofString "law_xm0371_01") 563, code := Value.ref 310 } }) ::
  (312, { cls := Value.type "tuple", data := Data.seq #[] }) ::
  (314, { cls := Value.type "tuple", data := Data.seq #[Value.str (Str.ofString "tokens") 642, Value.str (Str.ofString "begin") 643, Value.str (Str.ofString "place") 644, Value.str (Str.ofString "many") 645] }) ::
  (315, { cls := Value.type "tuple", data := Data.seq #[] }) ::
  (317, { cls := Value.type "code", data := Data.fields #[Value.str (Str.ofString "_law_run") 639, Value.str (Str.ofString "_law_run") 640, Value.str (Str.ofString "/claim/cut.py") 641, Value.int 202 0, Value.int 3 0, Value.int 0 0, Value.int 0 0, Value.int 3 0, Value.ref 312, Value.bool true, Value.int 181 0, Value.ref 313, Value.none, Value.ref 314, Value.ref 315, Value.ref 316, Value.int 646 0, Value.int 202 0, Value.str (Str.ofString "/claim/cut.py") 647] }) ::
  (318, { cls := Value.type "function", data := Data.func { name := Str.ofString "_law_run", qualname := Str.ofString "_law_run", params := defP 39 0, body := FuncBody.stmts (defB 39 0), scope := defS 39 0, globals := 3, closure := [], defaults := Value.none, kwdefaults := Value.none, pyModule := Value.str (Str.ofString "law_xm0371_01") 563, code := Value.ref 317 } }) ::
  (319, { cls := Value.type "tuple", data := Data.seq #[] }) ::
  (322, { cls := Value.type "code", data := Data.fields #[Value.str (Str.ofString "_law_wrong") 649, Value.str (Str.ofString "_law_wrong") 650, Value.str (Str.ofString "/claim/cut.py") 651, Value.int 207 0, Value.int 4 0, Value.int 0 0, Value.int 0 0, Value.int 3 0, Value.ref 319, Value.bool true, Value.int 181 0, Value.ref 320, Value.none, Value.none, Value.none, Value.ref 321, Value.int 652 0, Value.int 207 0, Value.str (Str.ofString "/claim/cut.py") 653] }) ::
  (323, { cls := Value.type "function", data := Data.func { name := Str.ofString "_law_wrong", qualname := Str.ofString "_law_wrong", params := defP 40 0, body := FuncBody.stmts (defB 40 0), scope := defS 40 0, globals := 3, closure := [], defaults := Value.none, kwdefaults := Value.none, pyModule := Value.str (Str.ofString "law_xm0371_01") 563, code := Value.ref 322 } }) ::
  (324, { cls := Value.type "tuple", data := Data.seq #[] }) ::
  (327, { cls := Value.type "code", data := Data.fields #[Value.str (Str.ofString "_law_judged") 655, Value.str (Str.ofString "_law_judged") 656, Value.str (Str.ofString "/claim/cut.py") 657, Value.int 221 0, Value.int 2 0, Value.int 0 0, Value.int 0 0, Value.int 3 0, Value.ref 324, Value.bool true, Value.int 181 0, Value.ref 325, Value.none, Value.none, Value.none, Value.ref 326, Value.int 658 0, Value.int 221 0, Value.str (Str.ofString "/claim/cut.py") 659] }) ::
  (328, { cls := Value.type "function", data := Data.func { name := Str.ofString "_law_judged", qualname := Str.ofString "_law_judged", params := defP 41 0, body := FuncBody.stmts (defB 41 0), scope := defS 41 0, globals := 3, closure := [], defaults := Value.none, kwdefaults := Value.none, pyModule := Value.str (Str.ofString "law_xm0371_01") 563, code := Value.ref 327 } }) ::
  (329, { cls := Value.type "tuple", data := Data.seq #[] }) ::
  (331, { cls := Value.type "tuple", data := Data.seq #[Value.str (Str.ofString "tokens") 664, Value.str (Str.ofString "begin") 665, Value.str (Str.ofString "end") 666, Value.str (Str.ofString "sort") 667, Value.str (Str.ofString "found") 668, Value.str (Str.ofString "place") 669, Value.str (Str.ofString "is_told") 670] }) ::
  (332, { cls := Value.type "tuple", data := Data.seq #[] }) ::
  (334, { cls := Value.type "code", data := Data.fields #[Value.str (Str.ofString "_law_stretch") 661, Value.str (Str.ofString "_law_stretch") 662, Value.str (Str.ofString "/claim/cut.py") 663, Value.int 231 0, Value.int 4 0, Value.int 0 0, Value.int 0 0, Value.int 3 0, Value.ref 329, Value.bool true, Value.int 181 0, Value.ref 330, Value.none, Value.ref 331, Value.ref 332, Value.ref 333, Value.int 671 0, Value.int 231 0, Value.str (Str.ofString "/claim/cut.py") 672] }) ::
  (335, { cls := Value.type "function", data := Data.func { name := Str.ofString "_law_stretch", qualname := Str.ofString "_law_stretch", params := defP 42 0, body := FuncBody.stmts (defB 42 0), scope := defS 42 0, globals := 3, closure := [], defaults := Value.none, kwdefaults := Value.none, pyModule := Value.str (Str.ofString "law_xm0371_01") 563, code := Value.ref 334 } }) ::
  (336, { cls := Value.type "tuple", data := Data.seq #[] }) ::
  (339, { cls := Value.type "code", data := Data.fields #[Value.str (Str.ofString "_law_macro") 674, Value.str (Str.ofString "_law_macro") 675, Value.str (Str.ofString "/claim/cut.py") 676, Value.int 240 0, Value.int 3 0, Value.int 0 0, Value.int 0 0, Value.int 3 0, Value.ref 336, Value.bool true, Value.int 181 0, Value.ref 337, Value.none, Value.none, Value.none, Value.ref 338, Value.int 677 0, Value.int 240 0, Value.str (Str.ofString "/claim/cut.py") 678] }) ::
  (340, { cls := Value.type "function", data := Data.func { name := Str.ofString "_law_macro", qualname := Str.ofString "_law_macro", params := defP 43 0, body := FuncBody.stmts (defB 43 0), scope := defS 43 0, globals := 3, closure := [], defaults := Value.none, kwdefaults := Value.none, pyModule := Value.str (Str.ofString "law_xm0371_01") 563, code := Value.ref 339 } }) ::
  (341, { cls := Value.type "tuple", data := Data.seq #[] }) ::
  (343, { cls := Value.type "tuple", data := Data.seq #[Value.str (Str.ofString "tokens") 683, Value.str (Str.ofString "outers") 684, Value.str (Str.ofString "flags") 685, Value.str (Str.ofString "feed") 686, Value.str (Str.ofString "macro") 687] }) ::
  (344, { cls := Value.type "tuple", data := Data.seq #[] }) ::
  (346, { cls := Value.type "code", data := Data.fields #[Value.str (Str.ofString "_law_told") 680, Value.str (Str.ofString "_law_told") 681, Value.str (Str.ofString "/claim/cut.py") 682, Value.int 246 0, Value.int 3 0, Value.int 0 0, Value.int 0 0, Value.int 3 0, Value.ref 341, Value.bool true, Value.int 181 0, Value.ref 342, Value.none, Value.ref 343, Value.ref 344, Value.ref 345, Value.int 688 0, Value.int 246 0, Value.str (Str.ofString "/claim/cut.py") 689] }) ::
  (347, { cls := Value.type "function", data := Data.func { name := Str.ofString "_law_told", qualname := Str.ofString "_law_told", params := defP 44 0, body := FuncBody.stmts (defB 44 0), scope := defS 44 0, globals := 3, closure := [], defaults := Value.none, kwdefaults := Value.none, pyModule := Value.str (Str.ofString "law_xm0371_01") 563, code := Value.ref 346 } }) ::
  (348, { cls := Value.type "tuple", data := Data.seq #[] }) ::
  (350, { cls := Value.type "tuple", data := Data.seq #[Value.str (Str.ofString "source") 694, Value.str (Str.ofString "outers") 695, Value.str (Str.ofString "flags") 696, Value.str (Str.ofString "tokens") 697, Value.str (Str.ofString "spot") 698, Value.str (Str.ofString "way") 699, Value.str (Str.ofString "head") 700, Value.str (Str.ofString "parts") 701, Value.str (Str.ofString "size") 702, Value.str (Str.ofString "given") 703, Value.str (Str.ofString "due") 704] }) ::
  (351, { cls := Value.type "tuple", data := Data.seq #[] }) ::
  (353, { cls := Value.type "code", data := Data.fields #[Value.str (Str.ofString "_law_row_right") 691, Value.str (Str.ofString "_law_row_right") 692, Value.str (Str.ofString "/claim/cut.py") 693, Value.int 257 0, Value.int 1 0, Value.int 0 0, Value.int 0 0, Value.int 3 0, Value.ref 348, Value.bool true, Value.int 181 0, Value.ref 349, Value.none, Value.ref 350, Value.ref 351, Value.ref 352, Value.int 705 0, Value.int 257 0, Value.str (Str.ofString "/claim/cut.py") 706] }) ::
  (354, { cls := Value.type "function", data := Data.func { name := Str.ofString "_law_row_right", qualname := Str.ofString "_law_row_right", params := defP 45 0, body := FuncBody.stmts (defB 45 0), scope := defS 45 0, globals := 3, closure := [], defaults := Value.none, kwdefaults := Value.none, pyModule := Value.str (Str.ofString "law_xm0371_01") 563, code := Value.ref 353 } }) ::
  (355, { cls := Value.type "tuple", data := Data.seq #[] }) ::
  (357, { cls := Value.type "tuple", data := Data.seq #[Value.str (Str.ofString "script") 711, Value.str (Str.ofString "k") 712] }) ::
  (358, { cls := Value.type "tuple", data := Data.seq #[] }) ::
  (360, { cls := Value.type "code", data := Data.fields #[Value.str (Str.ofString "law") 708, Value.str (Str.ofString "law") 709, Value.str (Str.ofString "/claim/cut.py") 710, Value.int 269 0, Value.int 1 0, Value.int 0 0, Value.int 0 0, Value.int 3 0, Value.ref 355, Value.bool true, Value.int 181 0, Value.ref 356, Value.none, Value.ref 357, Value.ref 358, Value.ref 359, Value.int 713 0, Value.int 269 0, Value.str (Str.ofString "/claim/cut.py") 714] }) ::
  (361, { cls := Value.type "function", data := Data.func { name := Str.ofString "law", qualname := Str.ofString "law", params := defP 46 0, body := FuncBody.stmts (defB 46 0), scope := defS 46 0, globals := 3, closure := [], defaults := Value.none, kwdefaults := Value.none, pyModule := Value.str (Str.ofString "law_xm0371_01") 563, code := Value.ref 360 } }) :: []) := ⟨⟩
  dsimp only [defB, defP, defS, defAt, within, stAt, PySem.Challenge.pw_xm0371_01] at H
  exact H
end
end Mine
open PySem PySem.W PySem.Calls PyProof.Rows PySem.Spec
set_option Elab.async false
set_option maxRecDepth 100000
set_option linter.unusedVariables false
set_option maxHeartbeats 400000
namespace Mine
/-! ## existentials of many binders, with one constructor each -/
inductive Ex2 {α0 α1 : Type} (p : α0 → α1 → Prop) : Prop
  | mk (x0 : α0) (x1 : α1) : p x0 x1 → Ex2 p
inductive Ex3 {α0 α1 α2 : Type} (p : α0 → α1 → α2 → Prop) : Prop
  | mk (x0 : α0) (x1 : α1) (x2 : α2) : p x0 x1 x2 → Ex3 p
inductive Ex4 {α0 α1 α2 α3 : Type} (p : α0 → α1 → α2 → α3 → Prop) : Prop
  | mk (x0 : α0) (x1 : α1) (x2 : α2) (x3 : α3) : p x0 x1 x2 x3 → Ex4 p
inductive Ex5 {α0 α1 α2 α3 α4 : Type} (p : α0 → α1 → α2 → α3 → α4 → Prop) : Prop
  | mk (x0 : α0) (x1 : α1) (x2 : α2) (x3 : α3) (x4 : α4) : p x0 x1 x2 x3 x4 → Ex5 p
inductive Ex6 {α0 α1 α2 α3 α4 α5 : Type} (p : α0 → α1 → α2 → α3 → α4 → α5 → Prop) : Prop
  | mk (x0 : α0) (x1 : α1) (x2 : α2) (x3 : α3) (x4 : α4) (x5 : α5) : p x0 x1 x2 x3 x4 x5 → Ex6 p
inductive Ex7 {α0 α1 α2 α3 α4 α5 α6 : Type} (p : α0 → α1 → α2 → α3 → α4 → α5 → α6 → Prop) : Prop
  | mk (x0 : α0) (x1 : α1) (x2 : α2) (x3 : α3) (x4 : α4) (x5 : α5) (x6 : α6) : p x0 x1 x2 x3 x4 x5 x6 → Ex7 p
inductive Ex8 {α0 α1 α2 α3 α4 α5 α6 α7 : Type} (p : α0 → α1 → α2 → α3 → α4 → α5 → α6 → α7 → Prop) : Prop
  | mk (x0 : α0) (x1 : α1) (x2 : α2) (x3 : α3) (x4 : α4) (x5 : α5) (x6 : α6) (x7 : α7) : p x0 x1 x2 x3 x4 x5 x6 x7 → Ex8 p
inductive Ex9 {α0 α1 α2 α3 α4 α5 α6 α7 α8 : Type} (p : α0 → α1 → α2 → α3 → α4 → α5 → α6 → α7 → α8 → Prop) : Prop
  | mk (x0 : α0) (x1 : α1) (x2 : α2) (x3 : α3) (x4 : α4) (x5 : α5) (x6 : α6) (x7 : α7) (x8 : α8) : p x0 x1 x2 x3 x4 x5 x6 x7 x8 → Ex9 p
inductive Ex10 {α0 α1 α2 α3 α4 α5 α6 α7 α8 α9 : Type} (p : α0 → α1 → α2 → α3 → α4 → α5 → α6 → α7 → α8 → α9 → Prop) : Prop
  | mk (x0 : α0) (x1 : α1) (x2 : α2) (x3 : α3) (x4 : α4) (x5 : α5) (x6 : α6) (x7 : α7) (x8 : α8) (x9 : α9) : p x0 x1 x2 x3 x4 x5 x6 x7 x8 x9 → Ex10 p
inductive Ex11 {α0 α1 α2 α3 α4 α5 α6 α7 α8 α9 α10 : Type} (p : α0 → α1 → α2 → α3 → α4 → α5 → α6 → α7 → α8 → α9 → α10 → Prop) : Prop
  | mk (x0 : α0) (x1 : α1) (x2 : α2) (x3 : α3) (x4 : α4) (x5 : α5) (x6 : α6) (x7 : α7) (x8 : α8) (x9 : α9) (x10 : α10) : p x0 x1 x2 x3 x4 x5 x6 x7 x8 x9 x10 → Ex11 p
inductive Ex12 {α0 α1 α2 α3 α4 α5 α6 α7 α8 α9 α10 α11 : Type} (p : α0 → α1 → α2 → α3 → α4 → α5 → α6 → α7 → α8 → α9 → α10 → α11 → Prop) : Prop
  | mk (x0 : α0) (x1 : α1) (x2 : α2) (x3 : α3) (x4 : α4) (x5 : α5) (x6 : α6) (x7 : α7) (x8 : α8) (x9 : α9) (x10 : α10) (x11 : α11) : p x0 x1 x2 x3 x4 x5 x6 x7 x8 x9 x10 x11 → Ex12 p
inductive Ex13 {α0 α1 α2 α3 α4 α5 α6 α7 α8 α9 α10 α11 α12 : Type} (p : α0 → α1 → α2 → α3 → α4 → α5 → α6 → α7 → α8 → α9 → α10 → α11 → α12 → Prop) : Prop
  | mk (x0 : α0) (x1 : α1) (x2 : α2) (x3 : α3) (x4 : α4) (x5 : α5) (x6 : α6) (x7 : α7) (x8 : α8) (x9 : α9) (x10 : α10) (x11 : α11) (x12 : α12) : p x0 x1 x2 x3 x4 x5 x6 x7 x8 x9 x10 x11 x12 → Ex13 p
inductive Ex14 {α0 α1 α2 α3 α4 α5 α6 α7 α8 α9 α10 α11 α12 α13 : Type} (p : α0 → α1 → α2 → α3 → α4 → α5 → α6 → α7 → α8 → α9 → α10 → α11 → α12 → α13 → Prop) : Prop
  | mk (x0 : α0) (x1 : α1) (x2 : α2) (x3 : α3) (x4 : α4) (x5 : α5) (x6 : α6) (x7 : α7) (x8 : α8) (x9 : α9) (x10 : α10) (x11 : α11) (x12 : α12) (x13 : α13) : p x0 x1 x2 x3 x4 x5 x6 x7 x8 x9 x10 x11 x12 x13 → Ex14 p
inductive Ex15 {α0 α1 α2 α3 α4 α5 α6 α7 α8 α9 α10 α11 α12 α13 α14 : Type} (p : α0 → α1 → α2 → α3 → α4 → α5 → α6 → α7 → α8 → α9 → α10 → α11 → α12 → α13 → α14 → Prop) : Prop
  | mk (x0 : α0) (x1 : α1) (x2 : α2) (x3 : α3) (x4 : α4) (x5 : α5) (x6 : α6) (x7 : α7) (x8 : α8) (x9 : α9) (x10 : α10) (x11 : α11) (x12 : α12) (x13 : α13) (x14 : α14) : p x0 x1 x2 x3 x4 x5 x6 x7 x8 x9 x10 x11 x12 x13 x14 → Ex15 p

/-! ## the frame's names as two lists -/
def lkp : List Str → List (Option Value) → Str → Option Value
  | x :: xs, v :: vs, y => if y = x then v else lkp xs vs y
  | _, _, _ => none

inductive Loc : List Str → List (Option Value) → Str → Value → Prop
  | head {x ns v vs} : Loc (x :: ns) (some v :: vs) x v
  | tail {x y ns v u vs} : Loc ns vs x v → Loc (y :: ns) (u :: vs) x v
inductive SetL : List Str → List (Option Value) → Str → Value → List (Option Value) → Prop
  | head {x ns u v vs} : SetL (x :: ns) (u :: vs) x v (some v :: vs)
  | tail {x y ns v u vs vs'} : SetL ns vs x v vs' → SetL (y :: ns) (u :: vs) x v (u :: vs')

theorem Loc.mem {ns vs x v} (l : Loc ns vs x v) : x ∈ ns := by
  induction l with
  | head => exact .head _
  | tail _ ih => exact .tail _ ih
theorem SetL.mem {ns vs x v vs'} (l : SetL ns vs x v vs') : x ∈ ns := by
  induction l with
  | head => exact .head _
  | tail _ ih => exact .tail _ ih
theorem Loc.get {ns vs x v} (l : Loc ns vs x v) (nd : ns.Nodup) : lkp ns vs x = some v := by
  induction l with
  | head => simp [lkp]
  | tail l ih =>
    rw [List.nodup_cons] at nd
    unfold lkp
    rw [if_neg, ih nd.2]
    rintro rfl
    exact nd.1 l.mem
theorem SetL.get {ns vs x v vs'} (l : SetL ns vs x v vs') (nd : ns.Nodup) : (fun y => if y = x then some v else lkp ns vs y) = lkp ns vs' := by
  induction l with
  | @head x ns u v vs =>
    funext y
    simp only [lkp]
    by_cases h : y = x
    · rw [if_pos h, if_pos h]
    · rw [if_neg h, if_neg h, if_neg h]
  | @tail x y ns v u vs vs' l ih =>
    rw [List.nodup_cons] at nd
    have ih := ih nd.2
    funext z
    have := congrFun ih z
    simp only [lkp]
    by_cases h : z = x
    · subst h
      have hne : z ≠ y := by rintro rfl; exact nd.1 l.mem
      simp only [if_true] at this ⊢
      rw [if_neg hne, this]
    · simp only [if_neg h] at this ⊢
      rw [this]

/-! ## tuples stay -/
def IsT (o : Obj) : Prop := o.cls = .type "tuple" ∧ Ex2 fun xs n => o.data = .seq xs n
def TupK (r h : Heap) : Prop := ∀ a o, r.get? a = some o → IsT o → h.get? a = some o
theorem TupK.refl {h : Heap} : TupK h h := fun _ _ e _ => e
theorem TupK.trans {a b c : Heap} (x : TupK a b) (y : TupK b c) : TupK a c := fun _ _ e t => y _ _ (x _ _ e t) t

/-- all but the addresses of W stay -/
def Kp (W : List Addr) (h h' : Heap) : Prop := ∀ b o, b ∉ W → h.get? b = some o → h'.get? b = some o
theorem Kp.refl {W h} : Kp W h h := fun _ _ _ e => e
theorem Kp.trans {W a b c} (x : Kp W a b) (y : Kp W b c) : Kp W a c := fun _ _ n e => y _ _ n (x _ _ n e)
theorem Kp.mono {W V a b} (x : Kp W a b) (h : ∀ c ∈ W, c ∈ V) : Kp V a b := fun _ _ n e => x _ _ (fun m => n (h _ m)) e
theorem Kp.of_ext {L h h'} (x : Heap.ExtBut L h h') : Kp [L] h h' := fun b o n e => x b o (fun q => n (by simp [q])) e
theorem Kp.all {W h h'} (x : ∀ b o, h.get? b = some o → h'.get? b = some o) : Kp W h h' := fun b o _ e => x b o e

noncomputable abbrev KF (w : World) : Frag := objs0.1 w.params

structure Gd (w : World) (mg mb : Str → Option Value) (h : Heap) : Prop where
  X : (KF w).In h
  g : h.Ns mainGlobals mg
  b : h.Ns builtinsNs mb
  lim : h.NoLimit
  bi : ∀ x : Str, x ≠ "__name__" → mb x = bootBuiltins x
theorem Gd.keeps {w mg mb h h'} (G : Gd w mg mb h) (k : ∀ b o, h.get? b = some o → h'.get? b = some o) : Gd w mg mb h' :=
  ⟨G.X.keeps k, G.g.keeps k, G.b.keeps k, G.lim.keeps k, G.bi⟩

abbrev mk (s : Shared) (h : Heap) (tk : Nat) : Shared := { s with heap := h, toks := tk }

/-- an env's fixed facts -/
structure FnEnv (env : Env) (L : Addr) (sn : List (Str × NameKind)) : Prop where
  kind : env.scope.kind = .function
  loc : env.locals = L
  glob : env.globals = mainGlobals
  bi : env.builtins = builtinsNs
  names : env.scope.names = sn
  nd : (sn.map (·.1)).Nodup
  dbg : ∀ p ∈ sn, (p.1 == ("__debug__" : Str)) = false
inductive Kd : List (Str × NameKind) → Str → NameKind → Prop
  | head {x k sn} : Kd ((x, k) :: sn) x k
  | tail {x k p sn} : Kd sn x k → Kd (p :: sn) x k
theorem Kd.mem {sn x k} (l : Kd sn x k) : (x, k) ∈ sn := by
  induction l with
  | head => exact .head _
  | tail _ ih => exact .tail _ ih
theorem Kd.get {sn x k} (l : Kd sn x k) (nd : (sn.map (·.1)).Nodup) : sn.lookup x = some k := by
  induction l with
  | head => simp
  | @tail x k p sn l ih =>
    rw [List.map_cons, List.nodup_cons] at nd
    rw [List.lookup_cons, beq_eq_false_iff_ne.mpr, ih nd.2]
    rintro rfl
    exact nd.1 (List.mem_map.mpr ⟨_, l.mem, rfl⟩)
theorem FnEnv.kindOf {env L sn x k} (Fe : FnEnv env L sn) (l : Kd sn x k) : env.kindOf x = some k := by
  unfold Env.kindOf; rw [Fe.names]; exact l.get Fe.nd
theorem FnEnv.nodbg {env L sn x k} (Fe : FnEnv env L sn) (l : Kd sn x k) : (x == ("__debug__" : Str)) = false := Fe.dbg _ l.mem

/-- one entry of the ledger turned -/
inductive Up : List (Addr × Obj) → Addr → Obj → (Obj → List (Addr × Obj)) → Prop
  | head {a o led} : Up ((a, o) :: led) a o (fun o' => (a, o') :: led)
  | tail {p a o led f} : Up led a o f → Up (p :: led) a o (fun o' => p :: f o')
theorem Up.mem {led a o f} (U : Up led a o f) : (a, o) ∈ led := by
  induction U with
  | head => exact .head _
  | tail _ ih => exact .tail _ ih
theorem Up.keys {led a o f} (U : Up led a o f) (o' : Obj) : (f o').map (·.1) = led.map (·.1) := by
  induction U with
  | head => rfl
  | tail _ ih => rw [List.map_cons, List.map_cons, ih]
theorem Up.upd {led a o f} (U : Up led a o f) (nd : (led.map (·.1)).Nodup) (o' : Obj) {T : List (Addr × Obj)} (hT : ∀ p ∈ T, p.1 ≠ a) : Upd a o o' (led ++ T) (f o' ++ T) := by
  induction U with
  | @head a o led =>
    rw [List.map_cons, List.nodup_cons] at nd
    refine .head fun p hp => ?_
    rcases List.mem_append.mp hp with hp | hp
    · rintro rfl; exact nd.1 (List.mem_map.mpr ⟨p, hp, rfl⟩)
    · exact hT p hp
  | @tail p a o led f U ih =>
    rw [List.map_cons, List.nodup_cons] at nd
    refine .tail ?_ (ih nd.2 hT)
    rintro rfl; exact nd.1 (List.mem_map.mpr ⟨_, U.mem, rfl⟩)

/-- from r to h: all but W stay; nothing is lost; the tuples stay -/
structure Go (W : List Addr) (r h : Heap) : Prop where
  K : Kp W r h
  D : ∀ b, h.get? b = none → r.get? b = none
  T : TupK r h
theorem Go.refl {W h} : Go W h h := ⟨.refl, fun _ e => e, .refl⟩
theorem Go.trans {W V a b c} (x : Go W a b) (y : Go V b c) (s : ∀ w ∈ W, w ∈ V) : Go V a c := ⟨(x.K.mono s).trans y.K, fun b e => x.D b (y.D b e), x.T.trans y.T⟩
theorem Go.mono {W V a b} (x : Go W a b) (s : ∀ w ∈ W, w ∈ V) : Go V a b := ⟨x.K.mono s, x.D, x.T⟩
theorem dom_of_keep {h h' : Heap} (k : ∀ b o, h.get? b = some o → h'.get? b = some o) : ∀ b, h'.get? b = none → h.get? b = none := fun b e => by
  cases q : h.get? b with
  | none => rfl
  | some o => rw [k b o q] at e; cases e
theorem Go.keep {W h h'} (k : ∀ b o, h.get? b = some o → h'.get? b = some o) : Go W h h' := ⟨.all k, dom_of_keep k, fun a o e _ => k a o e⟩

/-- the state of a frame: its names; a ledger of objects told whole; how it came from r -/
structure St (g : Heap) (L : Addr) (ns : List Str) (vs : List (Option Value)) (led : List (Addr × Obj)) (r h : Heap) : Prop where
  nd : ns.Nodup
  F : Fr g L h (lkp ns vs)
  N : News g L h led
  ld : (led.map (·.1)).Nodup
  lt : ∀ p ∈ led, ¬ IsT p.2
  go : Go (L :: led.map (·.1)) r h

section
variable {g : Heap} {L : Addr} {ns : List Str} {vs vs' : List (Option Value)} {led led' : List (Addr × Obj)} {r h h' : Heap}
theorem St.lt_size (S : St g L ns vs led r h) : L < h.objs.size := S.F.ns.lt
theorem not_isT_ns {m} (hn : h.Ns L m) {o : Obj} (e : h.get? L = some o) : ¬ IsT o := by
  rintro ⟨_, xs, n, hd⟩
  obtain ⟨o', es, ep, ho, hd', _⟩ := hn
  rw [e] at ho; cases ho
  rw [hd] at hd'; cases hd'
theorem Fr.lnone {m} (F : Fr g L h m) : g.get? L = none := by
  cases e : g.get? L with
  | none => rfl
  | some o => exact absurd (Nat.lt_of_lt_of_le (Heap.lt_size e) F.above) (Nat.lt_irrefl _)
theorem none_at {a : Addr} (e : h.get? a = none) (k : ∀ b o, g.get? b = some o → h.get? b = some o) : g.get? a = none := dom_of_keep k a e
theorem newsKp {W : List Addr} (N : News g L h led) (k : Kp W h h') (n : ∀ p ∈ led, p.1 ∉ W) : News g L h' led := fun p hp => ⟨k _ _ (n p hp) (N p hp).1, (N p hp).2⟩
/-- a step of L's own names -/
theorem St.own (S : St g L ns vs led r h) (hn : h'.Ns L (lkp ns vs')) (sb : Heap.SameBut L h h') : St g L ns vs' led r h' where
  nd := S.nd
  F := S.F.set hn sb
  N := S.N.set sb
  ld := S.ld
  lt := S.lt
  go := S.go.trans (V := L :: led.map (·.1)) ⟨fun b o n e => sb.extBut b o (fun q => n (q ▸ List.mem_cons_self)) e, fun b e => by
      by_cases q : b = L
      · obtain ⟨o, _, _, ho, _⟩ := hn
        rw [q, ho] at e; cases e
      · rw [← sb.2 b q]; exact e, fun a o e t => sb.extBut a o (fun q => not_isT_ns S.F.ns (q ▸ e) t) e⟩ fun _ h => h
theorem St.re (S : St g L ns vs led r h) : St g L ns vs led h h := ⟨S.nd, S.F, S.N, S.ld, S.lt, .refl⟩
theorem St.then {h₁ : Heap} (S : St g L ns vs led r h) (S' : St g L ns vs' led' h h₁) (s : ∀ a ∈ led.map (·.1), a ∈ led'.map (·.1)) : St g L ns vs' led' r h₁ :=
  ⟨S'.nd, S'.F, S'.N, S'.ld, S'.lt, S.go.trans S'.go fun w hw => by
    rcases List.mem_cons.mp hw with rfl | hw
    · exact List.mem_cons_self
    · exact List.mem_cons_of_mem _ (s w hw)⟩
theorem St.drop (S : St g L ns vs led h h) (l : led'.Sublist led) : St g L ns vs led' h h := ⟨S.nd, S.F, fun p hp => S.N p (l.subset hp), (l.map (·.1)).nodup S.ld, fun p hp => S.lt p (l.subset hp), .refl⟩

/-- an entry that is new since r may be let go -/
theorem St.dropHead {a : Addr} {o : Obj} (S : St g L ns vs ((a, o) :: led) r h) (n : r.get? a = none) : St g L ns vs led r h :=
  ⟨S.nd, S.F, fun p hp => S.N p (.tail _ hp), by have := S.ld; rw [List.map_cons, List.nodup_cons] at this; exact this.2, fun p hp => S.lt p (.tail _ hp), ⟨fun b o' m e => S.go.K b o' (fun hm => by
    rcases List.mem_cons.mp hm with q | q
    · exact m (q ▸ List.mem_cons_self)
    · rcases List.mem_cons.mp q with q | q
      · have q' : b = a := q
        rw [q', n] at e; cases e
      · exact m (List.mem_cons_of_mem _ q)) e, S.go.D, S.go.T⟩⟩
open Classical in
/-- the ledger with all else that is not the base's: what the library's rules want, and the way back -/
theorem St.lift (S : St g L ns vs led r h) : ∃ T : List (Addr × Obj), News g L h (led ++ T) ∧ (∀ p ∈ T, p.1 ∉ led.map (·.1)) ∧
    ∀ {h' vs' led'}, Fr g L h' (lkp ns vs') → News g L h' (led' ++ T) → (led'.map (·.1)).Nodup → (∀ p ∈ led', ¬ IsT p.2) → (∀ a ∈ led.map (·.1), a ∈ led'.map (·.1)) → St g L ns vs' led' r h' := by
  let T : List (Addr × Obj) := (List.range h.objs.size).filterMap fun a => match h.get? a with
    | some o => if g.get? a = none ∧ a ≠ L ∧ a ∉ led.map (·.1) then some (a, o) else none
    | none => none
  have mem : ∀ a o, (a, o) ∈ T ↔ h.get? a = some o ∧ g.get? a = none ∧ a ≠ L ∧ a ∉ led.map (·.1) := by
    intro a o
    simp only [T, List.mem_filterMap, List.mem_range]
    constructor
    · rintro ⟨b, _, e⟩
      split at e
      · rename_i o' ho'
        split at e
        · rename_i hc
          obtain ⟨rfl, rfl⟩ := Prod.mk.inj (Option.some.inj e)
          exact ⟨ho', hc⟩
        · cases e
      · cases e
    · rintro ⟨e, hc⟩
      exact ⟨a, Heap.lt_size e, by rw [e]; simp only [if_pos hc]⟩
  refine ⟨T, fun p hp => ?_, fun p hp => ((mem p.1 p.2).mp hp).2.2.2, fun {h' vs' led'} F' N' ld' lt' sub => ?_⟩
  · rcases List.mem_append.mp hp with hp | hp
    · exact S.N p hp
    · obtain ⟨e, n, l, _⟩ := (mem p.1 p.2).mp hp
      exact ⟨e, l, n⟩
  · have step : ∀ b o, h.get? b = some o → b ≠ L → b ∉ led.map (·.1) → h'.get? b = some o := fun b o e n1 n2 => by
      cases q : g.get? b with
      | some o' =>
        have := S.F.keep b o' q
        rw [e] at this; cases this
        exact F'.keep b o q
      | none => exact (N' (b, o) (List.mem_append_right _ ((mem b o).mpr ⟨e, q, n1, n2⟩))).1
    refine ⟨S.nd, F', fun p hp => N' p (List.mem_append_left _ hp), ld', lt', S.go.trans (V := L :: led'.map (·.1)) ⟨fun b o n e => ?_, fun b e => ?_, fun a o e t => ?_⟩ fun w hw => ?_⟩
    · exact step b o e (fun q => n (q ▸ List.mem_cons_self)) fun q => n (List.mem_cons_of_mem _ (sub b q))
    · cases q : h.get? b with
      | none => rfl
      | some o =>
        exfalso
        by_cases n1 : b = L
        · obtain ⟨o, _, _, ho, _⟩ := F'.ns
          rw [n1, ho] at e; cases e
        · by_cases n2 : b ∈ led.map (·.1)
          · obtain ⟨p, hp, rfl⟩ := List.mem_map.mp (sub b n2)
            rw [(N' p (List.mem_append_left _ hp)).1] at e; cases e
          · rw [step b o q n1 n2] at e; cases e
    · refine step a o e (fun q => not_isT_ns S.F.ns (q ▸ e) t) fun q => ?_
      obtain ⟨p, hp, rfl⟩ := List.mem_map.mp q
      rw [(S.N p hp).1] at e; cases e
      exact S.lt p hp t
    · rcases List.mem_cons.mp hw with rfl | hw
      · exact List.mem_cons_self
      · exact List.mem_cons_of_mem _ (sub w hw)
theorem Up.lt {a : Addr} {o o' : Obj} {f : Obj → List (Addr × Obj)} (U : Up led a o f) (lt : ∀ p ∈ led, ¬ IsT p.2) (n : ¬ IsT o') : ∀ p ∈ f o', ¬ IsT p.2 := by
  induction U with
  | head =>
    intro p hp
    rcases List.mem_cons.mp hp with rfl | hp
    · exact n
    · exact lt p (.tail _ hp)
  | tail _ ih =>
    intro p hp
    rcases List.mem_cons.mp hp with rfl | hp
    · exact lt _ (.head _)
    · exact ih (fun p hp => lt p (.tail _ hp)) p hp
theorem not_isT_list {xs : Array Value} {n : Nat} : ¬ IsT (listOf xs n) := fun q => absurd (show Value.type "list" = Value.type "tuple" from q.1) (by decide)
theorem fresh_size {h : Heap} : h.get? h.objs.size = none := by
  cases e : h.get? h.objs.size with
  | none => rfl
  | some o => exact absurd (Heap.lt_size e) (Nat.lt_irrefl _)
theorem fresh_ge {h : Heap} {a : Addr} (ha : h.objs.size ≤ a) : h.get? a = none := by
  cases e : h.get? a with
  | none => rfl
  | some o => exact absurd (Heap.lt_size e) (Nat.not_lt.mpr ha)
theorem St.freshNd (S : St g L ns vs led r h) {o : Obj} {a : Addr} (ha : h.get? a = none) : (((a, o) :: led).map (·.1)).Nodup := by
  rw [List.map_cons, List.nodup_cons]
  refine ⟨fun hm => ?_, S.ld⟩
  obtain ⟨p, hp, e⟩ := List.mem_map.mp hm
  have h2 : h.get? a = some p.2 := by
    have e' : p.1 = a := e
    rw [← e']; exact (S.N p hp).1
  rw [ha] at h2; cases h2
theorem St.freshLt (S : St g L ns vs led r h) {o : Obj} {a : Addr} (n : ¬ IsT o) : ∀ p ∈ (a, o) :: led, ¬ IsT p.2 := fun p hp => by
  rcases List.mem_cons.mp hp with rfl | hp
  · exact n
  · exact S.lt p hp
end

section
variable {prog : Program} {w : World} {A : Around} {E : Value → Shared → Prop} {s : Shared} {tk : Nat} {env : Env} {L : Addr} {sn : List (Str × NameKind)} {mg mb : Str → Option Value}
  {g : Heap} {ns : List Str} {vs vs' : List (Option Value)} {led led' : List (Addr × Obj)} {r h : Heap} {x : Str} {pos p' : Pos} {v : Value} {Q : Value → Shared → Prop} {QF : Flow → Shared → Prop}
/-! names -/
theorem r_loc (Fe : FnEnv env L sn) (S : St g L ns vs led r h) (k : Kd sn x .local) (l : Loc ns vs x v) (hQ : Q v (mk s h tk)) : wpAny (model prog w) A (eval (.Name x pos) env) Q E (mk s h tk) :=
  wpAny_Name (wpAny_loadName_local Fe.kind (Fe.kindOf k) (Fe.loc ▸ S.F.ns) (l.get S.nd) hQ) (Fe.nodbg k)
theorem r_glob (Fe : FnEnv env L sn) (G : Gd w mg mb g) (S : St g L ns vs led r h) (k : Kd sn x .globalImplicit) (e : nsIn (KF w) mainGlobals x = some (some v)) (hQ : Q v (mk s h tk)) :
    wpAny (model prog w) A (eval (.Name x pos) env) Q E (mk s h tk) :=
  Name_function_global Fe.kind (Fe.kindOf k) (loadGlobal_global (by rw [Fe.glob]; exact G.g.keeps S.F.keep) (mg_of G.X G.g e) hQ) (Fe.nodbg k)
theorem r_bi (Fe : FnEnv env L sn) (G : Gd w mg mb g) (S : St g L ns vs led r h) (k : Kd sn x .globalImplicit) (e : nsIn (KF w) mainGlobals x = some none) (hv : bootBuiltins x = some v) (hn : x ≠ "__name__") (hQ : Q v (mk s h tk)) :
    wpAny (model prog w) A (eval (.Name x pos) env) Q E (mk s h tk) :=
  Name_function_global Fe.kind (Fe.kindOf k) (loadGlobal_builtin (by rw [Fe.glob]; exact G.g.keeps S.F.keep) (mg_none_of G.X G.g e) (by rw [Fe.bi]; exact G.b.keeps S.F.keep) ((G.bi x hn).trans hv) hQ) (Fe.nodbg k)
/-! a store to a name -/
theorem r_store (Fe : FnEnv env L sn) (S : St g L ns vs led r h) (k : Kd sn x .local) (l : SetL ns vs x v vs') {Q : Unit → Shared → Prop}
    (hQ : ∀ h' tk', St g L ns vs' led r h' → St g L ns vs' led h h' → Q () (mk s h' tk')) : wpAny (model prog w) A (storeName env x v) Q E (mk s h tk) := by
  have hs : (env.scope.kind == .class || (env.scope.kind == .module && env.locals != env.globals)) = false := by rw [Fe.kind]; rfl
  refine wpAny_storeName_local (Fe.kindOf k) (by rw [Fe.loc]; exact S.F.ns) (fun h' hn hsb => ?_) hs
  rw [Fe.loc] at hn hsb
  rw [l.get S.nd] at hn
  exact hQ h' _ (S.own hn hsb) (S.re.own hn hsb)
/-! statements -/
theorem x_assign {value : Expr} {rest : List Stmt} (h1 : wpAny (model prog w) A (eval value env) (fun v s₁ => wpAny (model prog w) A (storeName env x v) (fun _ s₂ => wpAny (model prog w) A (execs rest env) QF E s₂) E s₁) E (mk s h tk))
    (hs : swapsWith value (some (.Name x p')) pos.line env = pure false := by rfl) : wpAny (model prog w) A (execs (.Assign [.Name x p'] value pos :: rest) env) QF E (mk s h tk) :=
  wpAny_execs_cons (wpAny_Assign_Name h1 hs)
theorem x_setitem {o i value : Expr} {rest : List Stmt}
    (h1 : wpAny (model prog w) A (eval value env) (fun v s₁ => wpAny (model prog w) A (eval o env) (fun ov s₂ => wpAny (model prog w) A (eval i env) (fun iv s₃ => wpAny (model prog w) A (setItem ov iv v) (fun _ s₄ => wpAny (model prog w) A (execs rest env) QF E s₄) E s₃) E s₂) E s₁) E (mk s h tk))
    (hs : swapsWith value (some (o.Subscript i p')) pos.line env = pure false := by rfl) : wpAny (model prog w) A (execs (.Assign [o.Subscript i p'] value pos :: rest) env) QF E (mk s h tk) :=
  wpAny_execs_cons (wpAny_Assign_Subscript h1 hs)
theorem x_if {test : Expr} {body orelse rest : List Stmt}
    (h1 : wpAny (model prog w) A (PySem.isTrue test env (eval test env)) (fun b s₂ =>
      (b = true → wpAny (model prog w) A (execs body env) (fun f s' => match f with | .next => wpAny (model prog w) A (execs rest env) QF E s' | f => QF f s') E s₂) ∧
      (b = false → wpAny (model prog w) A (execs orelse env) (fun f s' => match f with | .next => wpAny (model prog w) A (execs rest env) QF E s' | f => QF f s') E s₂)) E (mk s h tk)) :
    wpAny (model prog w) A (execs (.If test body orelse pos :: rest) env) QF E (mk s h tk) :=
  wpAny_execs_cons (wpAny_If (wpAny_mono h1 (fun b s₂ q => by
    cases b
    · exact q.2 rfl
    · exact q.1 rfl) fun _ _ x => x))
theorem x_ret {e : Expr} {rest : List Stmt} (h1 : wpAny (model prog w) A (eval e env) (fun v => QF (.ret v)) E (mk s h tk)) : wpAny (model prog w) A (execs (.Return (some e) pos :: rest) env) QF E (mk s h tk) :=
  wpAny_execs_cons (wpAny_Return_some h1)
theorem x_nil (h1 : QF .next (mk s h tk)) : wpAny (model prog w) A (execs [] env) QF E (mk s h tk) := wpAny_execs_nil h1
/-! expressions -/
theorem e_int {i : Int} {k : Nat} (hQ : ∀ t tk', Q (.int i t) (mk s h tk')) : wpAny (model prog w) A (eval (.Constant (.int i) k pos) env) Q E (mk s h tk) := wpAny_Constant_int (hQ _ _)
theorem e_bool {b : Bool} {k : Nat} (hQ : Q (.bool b) (mk s h tk)) : wpAny (model prog w) A (eval (.Constant (.bool b) k pos) env) Q E (mk s h tk) := Constant_bool hQ
theorem e_str {x : Str} {k : Nat} (hQ : ∀ t tk', Q (.str x t) (mk s h tk')) : wpAny (model prog w) A (eval (.Constant (.str x) k pos) env) Q E (mk s h tk) := Calls.Constant_str (hQ _ _)
theorem o_add {a b : Int} {t u : Tok} (hQ : ∀ t tk', Q (.int (a + b) t) (mk s h tk')) : wpAny (model prog w) A (binaryOp .Add (.int a t) (.int b u)) Q E (mk s h tk) := PyProof.Rows.add_int (hQ _ _)
theorem o_sub {a b : Int} {t u : Tok} (hQ : ∀ t tk', Q (.int (a - b) t) (mk s h tk')) : wpAny (model prog w) A (binaryOp .Sub (.int a t) (.int b u)) Q E (mk s h tk) := sub_int' (hQ _ _)
theorem o_mul {a b : Int} {t u : Tok} (hm : IntMulOk a b) (hQ : ∀ t tk', Q (.int (a * b) t) (mk s h tk')) : wpAny (model prog w) A (binaryOp .Mult (.int a t) (.int b u)) Q E (mk s h tk) := PyProof.Rows.mul_int (hQ _ _) hm
theorem o_pow {a n : Int} {t u : Tok} (hn : 0 ≤ n) (hsz : (Builtin.Int.intBits a : Int) * n ≤ 2 ^ 27) (hQ : ∀ t tk', Q (.int (a ^ n.toNat) t) (mk s h tk')) : wpAny (model prog w) A (binaryOp .Pow (.int a t) (.int n u)) Q E (mk s h tk) := pow_int hn hsz (hQ _ _)
theorem o_mod {a b : Int} {t u : Tok} (hb : b ≠ 0) (hQ : ∀ t tk', Q (.int (a.fmod b) t) (mk s h tk')) : wpAny (model prog w) A (binaryOp .Mod (.int a t) (.int b u)) Q E (mk s h tk) := mod_int' hb (hQ _ _)
theorem o_div {a b : Int} {t u : Tok} (hb : b ≠ 0) (hs : b.natAbs < 1073741824) (hQ : ∀ t tk', Q (.int (a.fdiv b) t) (mk s h tk')) :
    wpAny (model prog w) A (binaryOp .FloorDiv (.int a t) (.int b u)) Q E (mk s h tk) := floordiv_int hb (hQ _ _) (.inl (PyProof.noPylong_small hs))
theorem e_bin {l r' : Expr} {op : Operator} (h1 : wpAny (model prog w) A (eval l env) (fun a s₁ => wpAny (model prog w) A (eval r' env) (fun b s₂ => wpAny (model prog w) A (binaryOp op a b) Q E s₂) E s₁) E (mk s h tk)) :
    wpAny (model prog w) A (eval (.BinOp l op r' pos) env) Q E (mk s h tk) := wpAny_BinOp h1
theorem e_sub {value slice : Expr} (h1 : wpAny (model prog w) A (eval value env) (fun o s₁ => wpAny (model prog w) A (eval slice env) (fun i s₂ => wpAny (model prog w) A (subscriptTail value slice o i) Q E s₂) E s₁) E (mk s h tk)) :
    wpAny (model prog w) A (eval (.Subscript value slice pos) env) Q E (mk s h tk) := Subscript_ h1
theorem e_cmp {l r' : Expr} {op : CmpOp} (h1 : wpAny (model prog w) A (eval l env) (fun a s₁ => wpAny (model prog w) A (eval r' env) (fun b s₂ => wpAny (model prog w) A (compareOp op a b) Q E s₂) E s₁) E (mk s h tk))
    (hm : behindInMarks op r' = false := by with_unfolding_all rfl) : wpAny (model prog w) A (eval (.Compare l [op] [r'] pos) env) Q E (mk s h tk) := wpAny_Compare1 h1 hm
theorem t_cmp {l r' : Expr} {op : CmpOp} {whole : Sem Value} {Q : Bool → Shared → Prop} (h1 : wpAny (model prog w) A (eval l env) (fun a s₁ => wpAny (model prog w) A (eval r' env) (fun b s₂ => wpAny (model prog w) A (compareOp op a b) (fun c s₃ => wpAny (model prog w) A (truthy c) Q E s₃) E s₂) E s₁) E (mk s h tk))
    (hm : behindInMarks op r' = false := by with_unfolding_all rfl) : wpAny (model prog w) A (PySem.isTrue (.Compare l [op] [r'] pos) env whole) Q E (mk s h tk) := wpAny_isTrue_Compare1 h1 hm
theorem t_bool {b : Bool} {Q : Bool → Shared → Prop} (hQ : Q b (mk s h tk)) : wpAny (model prog w) A (truthy (.bool b)) Q E (mk s h tk) := wpAny_truthy_bool hQ
theorem c_eq {a b : Int} {t u : Tok} (hQ : Q (.bool (a == b)) (mk s h tk)) : wpAny (model prog w) A (compareOp .Eq (.int a t) (.int b u)) Q E (mk s h tk) := PyProof.Rows.eq_int hQ
theorem c_ne {a b : Int} {t u : Tok} (hQ : Q (.bool (a != b)) (mk s h tk)) : wpAny (model prog w) A (compareOp .NotEq (.int a t) (.int b u)) Q E (mk s h tk) := by exact (ne_int hQ)
theorem c_lt {a b : Int} {t u : Tok} (hQ : Q (.bool (decide (a < b))) (mk s h tk)) : wpAny (model prog w) A (compareOp .Lt (.int a t) (.int b u)) Q E (mk s h tk) := PyProof.Rows.lt_int hQ
theorem c_gt {a b : Int} {t u : Tok} (hQ : Q (.bool (decide (b < a))) (mk s h tk)) : wpAny (model prog w) A (compareOp .Gt (.int a t) (.int b u)) Q E (mk s h tk) := PyProof.Rows.gt_int hQ
theorem c_le {a b : Int} {t u : Tok} (hQ : Q (.bool (decide (a ≤ b))) (mk s h tk)) : wpAny (model prog w) A (compareOp .LtE (.int a t) (.int b u)) Q E (mk s h tk) := PyProof.Rows.le_int hQ
theorem c_ge {a b : Int} {t u : Tok} (hQ : Q (.bool (decide (b ≤ a))) (mk s h tk)) : wpAny (model prog w) A (compareOp .GtE (.int a t) (.int b u)) Q E (mk s h tk) := PyProof.Rows.ge_int hQ
/-! items -/
theorem i_list {value slice : Expr} {l : Addr} {xs : List Value} {n : Nat} {i : Int} {t : Tok} (hl : h.get? l = some (listOf xs.toArray n)) (h0 : 0 ≤ i) (h1 : i < 2 ^ 63) (hx : xs[i.toNat]? = some v) (hQ : Q v (mk s h tk))
    (hs : subscripted slice false (.ref l) (.int i t) = operate [.ref l, .int i t] (getItem (.ref l) (.int i t)) := by with_unfolding_all rfl) :
    wpAny (model prog w) A (subscriptTail value slice (.ref l) (.int i t)) Q E (mk s h tk) :=
  have hL : h.IsList l xs.toArray := ⟨_, hl, rfl, n, rfl⟩
  tail_any (s := mk s h tk) (Heap.IsList.typeIs (s := mk s h tk) hL) slot_list_getitem.lookup (wpAny_getItem_list (s := mk s h tk) hL h0 h1 (by simpa using hx) hQ) hs
theorem i_tup {value slice : Expr} {l : Addr} {xs : List Value} {i : Int} {t : Tok} {j : Nat} (hl : IsTup h l xs.toArray) (h0 : -(2 ^ 63) ≤ i) (h1 : i < 2 ^ 63) (hj : seqIndex? i xs.length = some j) (hx : xs[j]? = some v) (hQ : Q v (mk s h tk))
    (hs : subscripted slice false (.ref l) (.int i t) = operate [.ref l, .int i t] (getItem (.ref l) (.int i t)) := by with_unfolding_all rfl) :
    wpAny (model prog w) A (subscriptTail value slice (.ref l) (.int i t)) Q E (mk s h tk) := item_tupleT (s := mk s h tk) hl h0 h1 hj hx hQ hs
theorem kl_last_snoc (v : Value) : ∀ xs : List Value, kl_last (xs ++ [v]) = some (xs, v)
  | [] => rfl
  | x :: r => by
    show (match kl_last (r ++ [v]) with | some (p, y) => some (x :: p, y) | none => some ([], x)) = _
    rw [kl_last_snoc v r]
theorem Up.notin {led : List (Addr × Obj)} {l : Addr} {o : Obj} {f : Obj → List (Addr × Obj)} (U : Up led l o f) {T : List (Addr × Obj)} (hT : ∀ p ∈ T, p.1 ∉ led.map (·.1)) : ∀ p ∈ T, p.1 ≠ l := fun p hp e => hT p hp (e ▸ List.mem_map.mpr ⟨_, U.mem, rfl⟩)
theorem m_append {l : Addr} {xs : List Value} {n : Nat} {f : Obj → List (Addr × Obj)} (S : St g L ns vs led r h) (U : Up led l (listOf xs.toArray n) f) (hz : xs.length ≤ sizeLine)
    (hQ : ∀ h' tk', St g L ns vs (f (listOf (xs ++ [v]).toArray (n + 1))) r h' → Q .none (mk s h' tk')) : wpAny (model prog w) A (call (.builtin "list.append") [.ref l, v]) Q E (mk s h tk) := by
  obtain ⟨T, N, hT, back⟩ := S.lift
  refine append_K (s := mk s h tk) S.F N (U.upd S.ld _ (U.notin hT)) (fun h' F' N' => hQ h' _ ?_) (by simpa using hz)
  have := back F' N' (by rw [U.keys]; exact S.ld) (U.lt S.lt not_isT_list) (by rw [U.keys]; exact fun _ h => h)
  simpa using this
theorem m_pop {l : Addr} {xs : List Value} {n : Nat} {f : Obj → List (Addr × Obj)} (S : St g L ns vs led r h) (U : Up led l (listOf (xs ++ [v]).toArray n) f) (hz : xs.length < sizeLine)
    (hQ : ∀ h' tk', St g L ns vs (f (listOf xs.toArray (n + 1))) r h' → Q v (mk s h' tk')) : wpAny (model prog w) A (call (.builtin "list.pop") [.ref l]) Q E (mk s h tk) := by
  obtain ⟨T, N, hT, back⟩ := S.lift
  refine kl_pop (s := mk s h tk) (p := xs) (y := v) S.F N ?_ (U.upd S.ld _ (U.notin hT)) (by simp; omega) (fun h' F' N' => hQ h' _ (back F' N' (by rw [U.keys]; exact S.ld) (U.lt S.lt not_isT_list) (by rw [U.keys]; exact fun _ h => h)))
  simpa using kl_last_snoc v xs
theorem m_set {l : Addr} {xs : List Value} {n : Nat} {i : Int} {t : Tok} {f : Obj → List (Addr × Obj)} {Q : Unit → Shared → Prop} (S : St g L ns vs led r h) (U : Up led l (listOf xs.toArray n) f) (h0 : 0 ≤ i) (h1 : i < 2 ^ 63) (h2 : i < xs.length)
    (hQ : ∀ h' tk', St g L ns vs (f (listOf (xs.set i.toNat v).toArray n)) r h' → Q () (mk s h' tk')) : wpAny (model prog w) A (setItem (.ref l) (.int i t) v) Q E (mk s h tk) := by
  obtain ⟨T, N, hT, back⟩ := S.lift
  obtain ⟨pre, post, e1, e2, a, b⟩ := (U.upd S.ld (listOf (xs.set i.toNat v).toArray n) (U.notin hT)).split
  rw [e1] at N
  have z := N (l, listOf xs.toArray n) (List.mem_append.mpr (.inr (.head _)))
  refine ki_setAt (s := mk s h tk) z.1 h0 h1 (by simpa using h2) (hQ _ _ (back (S.F.change (Heap.SameBut.update ..) z.2.1 z.2.2) ?_ (by rw [U.keys]; exact S.ld) (U.lt S.lt not_isT_list) (by rw [U.keys]; exact fun _ h => h)))
  rw [e2]
  refine ki_turn _ N a b ?_ ?_
  · show xs.toArray.setIfInBounds i.toNat v = (xs.set i.toNat v).toArray
    apply Array.toList_inj.mp
    simp
  · simp
theorem m_extend {l b : Addr} {xs ys : List Value} {n n2 : Nat} {f : Obj → List (Addr × Obj)} (S : St g L ns vs led r h) (U : Up led l (listOf xs.toArray n) f) (hb : (b, listOf ys.toArray n2) ∈ led) (hz : xs.length + ys.length ≤ sizeLine)
    (hQ : ∀ h' tk' n', St g L ns vs (f (listOf (xs ++ ys).toArray n')) r h' → Q .none (mk s h' tk')) : wpAny (model prog w) A (call (.builtin "list.extend") [.ref l, .ref b]) Q E (mk s h tk) := by
  obtain ⟨T, N, hT, back⟩ := S.lift
  have hd : ¬(!xs.toArray.isEmpty && Builtin.List.listTooLong (xs.toArray.size + ys.toArray.size)) = true := by
    have : ¬ (xs.length + ys.length > sizeLine) := by omega
    simp [Builtin.List.listTooLong, this]
  cases ys with
  | nil =>
    refine kxn_extend (s := mk s h tk) S.F N (List.mem_append_left _ hb) rfl (U.upd S.ld _ (U.notin hT)) hd (by simp; omega) (by simp at hz ⊢; omega) (fun h' F' N' => hQ h' _ n ?_)
    have := back F' N' (by rw [U.keys]; exact S.ld) (U.lt S.lt not_isT_list) (by rw [U.keys]; exact fun _ h => h)
    simpa using this
  | cons y ys =>
    exact kl_extend (s := mk s h tk) (l := xs ++ y :: ys) S.F N (List.mem_append_left _ hb) (by simp) (by simp) (U.upd S.ld _ (U.notin hT)) hd (by simp; omega) (by simp at hz ⊢; omega) (fun h' F' N' => hQ h' _ (n + 1) (back F' N' (by rw [U.keys]; exact S.ld) (U.lt S.lt not_isT_list) (by rw [U.keys]; exact fun _ h => h)))
theorem o_cat {a b : Addr} {xs ys : List Value} (S : St g L ns vs led r h) (ha : h.IsList a xs.toArray) (hb : h.IsList b ys.toArray) (hz : xs.length + ys.length ≤ sizeLine)
    (hQ : ∀ l h' tk', h.get? l = none → St g L ns vs ((l, listOf (xs ++ ys).toArray 0) :: led) r h' → Q (.ref l) (mk s h' tk')) : wpAny (model prog w) A (binaryOp .Add (.ref a) (.ref b)) Q E (mk s h tk) := by
  obtain ⟨T, N, hT, back⟩ := S.lift
  exact add_lists (s := mk s h tk) S.F N ha hb (fun h' F' N' => hQ _ h' _ fresh_size (back F' N' (S.freshNd fresh_size) (S.freshLt not_isT_list) fun _ q => List.mem_cons_of_mem _ q)) hz
/-- a slice l[lo:hi] of a list -/
theorem e_slice {value : Expr} {l : Addr} {xs : List Value} {ol oh : Option Int} {vl vu : Value} (S : St g L ns vs led r h) (hl : h.IsList l xs.toArray) (pl : IsPart vl ol) (pu : IsPart vu oh) (hz : xs.length ≤ sizeLine) {slice : Expr}
    (hQ : ∀ d h' tk', h.get? d = none → St g L ns vs ((d, listOf (slicePick xs.toArray ol oh none).toList.toArray 0) :: led) r h' → Q (.ref d) (mk s h' tk'))
    (hs : subscripted slice false (.ref l) (.ref h.objs.size) = operate [.ref h.objs.size, .ref l] (getItem (.ref l) (.ref h.objs.size)) := by with_unfolding_all rfl)
    (ht : ∀ r, letTemporaryGo value (.ref l) r = pure () := by intro _; with_unfolding_all rfl) :
    wpAny (model prog w) A (subscriptTail value slice (.ref l) (.ref h.objs.size)) Q E (mk s (h.push { cls := .type "slice", data := .fields #[vl, vu, .none] }) tk) := by
  obtain ⟨T, N, hT, back⟩ := S.lift
  refine slice_list (s := mk s h tk) S.F N hl pl pu (fun h' F' N' => hQ _ h' _ (fresh_ge (Nat.le_succ _)) (back F' ?_ (S.freshNd (fresh_ge (Nat.le_succ _))) (S.freshLt not_isT_list) fun _ q => List.mem_cons_of_mem _ q)) hs ht (by simpa using hz)
  rw [Array.toArray_toList]
  exact N'
theorem n_list {xs : List Value} (S : St g L ns vs led r h) (hz : xs.length ≤ sizeLine)
    (hQ : ∀ l h' tk', h.get? l = none → St g L ns vs ((l, listOf xs.toArray 0) :: led) r h' → Q (.ref l) (mk s h' tk')) : wpAny (model prog w) A (newList xs) Q E (mk s h tk) := by
  obtain ⟨T, N, hT, back⟩ := S.lift
  exact newList_N (s := mk s h tk) S.F N (fun h' F' N' => hQ _ h' _ fresh_size (back F' N' (S.freshNd fresh_size) (S.freshLt not_isT_list) fun _ q => List.mem_cons_of_mem _ q)) hz
theorem n_tup {xs : List Value} (S : St g L ns vs led r h) (hz : xs.length ≤ sizeLine)
    (hQ : ∀ l h' tk', h.get? l = none → IsTup h' l xs.toArray → St g L ns vs led r h' → Q (.ref l) (mk s h' tk')) : wpAny (model prog w) A (newTuple xs) Q E (mk s h tk) := by
  obtain ⟨T, N, hT, back⟩ := S.lift
  refine newTuple_N (s := mk s h tk) S.F N (fun h' F' N' => hQ _ h' _ fresh_size ⟨_, (N' _ (.head _)).1, rfl, _, rfl⟩ (back F' (fun p hp => N' p (.tail _ hp)) S.ld S.lt fun _ q => q)) hz
end

theorem lkp_none : ∀ (ns : List Str) (x : Str), lkp ns (ns.map fun _ => none) x = none
  | [], _ => rfl
  | y :: r, x => by
    show (if x = y then none else lkp r (r.map fun _ => none) x) = none
    rw [lkp_none r x]; split <;> rfl
theorem lkp_binds (more : List Str) : ∀ (b : List (Str × Value)) (x : Str), lkp (b.map (·.1) ++ more) (b.map (fun p => some p.2) ++ more.map fun _ => none) x = b.lookup x
  | [], x => lkp_none more x
  | (y, v) :: r, x => by
    show (if x = y then some v else lkp (r.map (·.1) ++ more) (r.map (fun p => some p.2) ++ more.map fun _ => none) x) = _
    rw [lkp_binds more r x, List.lookup_cons]
    by_cases h : x = y
    · subst h; simp
    · rw [if_neg h, beq_eq_false_iff_ne.mpr h]
theorem lookup_none {x : Str} : ∀ {b : List (Str × Value)}, x ∉ b.map (·.1) → b.lookup x = none
  | [], _ => rfl
  | (y, v) :: r, h => by
    rw [List.map_cons, List.mem_cons, not_or] at h
    rw [List.lookup_cons, beq_eq_false_iff_ne.mpr h.1]
    exact lookup_none h.2
theorem lookup_rev : ∀ {b : List (Str × Value)}, (b.map (·.1)).Nodup → ∀ x, b.reverse.lookup x = b.lookup x
  | [], _, _ => rfl
  | (y, v) :: r, nd, x => by
    rw [List.map_cons, List.nodup_cons] at nd
    rw [List.reverse_cons, List.lookup_append, lookup_rev nd.2 x, List.lookup_cons, List.lookup_cons, List.lookup_nil]
    by_cases h : x = y
    · subst h
      rw [lookup_none nd.1]; simp
    · rw [beq_eq_false_iff_ne.mpr h]; simp

/-- how a def ends -/
structure Fin (g h : Heap) (Post : Heap → Value → Prop) (fl : Flow) (h' : Heap) : Prop where
  fin : g.StaysIn h' ∧ (∀ b, h'.get? b = none → h.get? b = none) ∧ TupK h h'
  post : Post h' (match fl with | .ret v => v | _ => .none)
/-- what a def does: from the heap h, changing the objects of own alone -/
structure Spec (w : World) (f : Addr) (args : List Value) (own : List (Addr × Obj)) (D U : Nat) (h : Heap) (Post : Heap → Value → Prop) : Prop where
  runC : ∀ (prog : Program) (A : Around) (s : Shared) (tk : Nat) (mg mb : Str → Option Value) (g : Heap) (R : Result → Shared → Prop), A.handled = none → A.depth + D < recursionLimit → A.units + U < cLine →
    Gd w mg mb g → g.StaysIn h → (∀ p ∈ own, h.get? p.1 = some p.2 ∧ g.get? p.1 = none) →
    (∀ h' tk' v, Go (own.map (·.1)) h h' → Post h' v → R (.ok (.ret v)) (mk s h' tk')) → codeAny (model prog w) A (.call (.ref f) ⟨args, []⟩) R (mk s h tk)
theorem Spec.run {w : World} {f : Addr} {args : List Value} {own : List (Addr × Obj)} {D U : Nat} {h : Heap} {Post : Heap → Value → Prop} (sp : Spec w f args own D U h Post) (prog : Program) (A : Around) (s : Shared) (tk : Nat) (mg mb : Str → Option Value) (g : Heap) (Q E : Value → Shared → Prop) (hh : A.handled = none) (hd : A.depth + D < recursionLimit) (hu : A.units + U < cLine)
    (G : Gd w mg mb g) (hg : g.StaysIn h) (hw : ∀ p ∈ own, h.get? p.1 = some p.2 ∧ g.get? p.1 = none)
    (hQ : ∀ h' tk' v, Go (own.map (·.1)) h h' → Post h' v → Q v (Mine.mk s h' tk')) : wpAny (model prog w) A (call (.ref f) args) Q E (Mine.mk s h tk) :=
  wpAny_call (sp.runC prog A s tk mg mb g _ hh hd hu G hg hw hQ)

theorem spec_of {w : World} {f : Addr} {args : List Value} {own : List (Addr × Obj)} {D U : Nat} {h : Heap} {Post : Heap → Value → Prop} {oc : Value} {od : Option Addr} {osl : Array (Option Value)}
    {name qual : Str} {params : Arguments} {body : List Stmt} {scope : Scope} {dV kV doc pm cdv ct : Value} {an : Option Addr} {binds : List (Str × Value)} {sn : List (Str × NameKind)} {ns : List Str} {vs : List (Option Value)} (more : List Str)
    (ho : (KF w).lookup f = some ⟨oc, od, .func (fnOf name qual params body scope dV kV doc pm an cdv ct), osl⟩) (hcd : codeIn (KF w) cdv qual = true)
    (hbind : ∀ s, (KF w).In s.heap → BindsTo s (fnOf name qual params body scope dV kV doc pm an cdv ct) ⟨args, []⟩ binds) (hloc : ∀ y ∈ binds, scope.names.lookup y.1 = some .local) (hcell : ∀ x ∈ scope.names, x.2 ≠ .cell)
    (hsn : scope.names = sn) (hsnd : (sn.map (·.1)).Nodup) (hdbg : ∀ p ∈ sn, (p.1 == ("__debug__" : Str)) = false)
    (hns : ns = binds.map (·.1) ++ more) (hnd : ns.Nodup) (hvs : vs = binds.map (fun p => some p.2) ++ more.map fun _ => none)
    (hod : (own.map (·.1)).Nodup)
    (hb : ∀ (prog : Program) (A : Around) (s : Shared) (tk : Nat) (mg mb : Str → Option Value) (g h₁ : Heap) (L : Addr) (env : Env), A.handled = none → A.depth + D < recursionLimit → A.units + U < cLine → Gd w mg mb g →
      FnEnv env L sn → (∀ b o, b ∉ own.map (·.1) → h.get? b = some o → g.get? b = some o) → h.get? L = none → St g L ns vs own h h₁ →
      wpAny (model prog w) A (execs body env) (fun fl s' => Ex2 fun h' tk' => s' = mk s h' tk' ∧ (g.StaysIn h' ∧ (∀ b, h'.get? b = none → h.get? b = none) ∧ TupK h h') ∧ Post h' (match fl with | .ret v => v | _ => .none)) (fun _ _ => False) (mk s h₁ tk))
    (hown : ∀ p ∈ own, ¬ IsT p.2)
    (hco : scope.isCoroutine = false := by rfl) (hgen : scope.isGenerator = false := by rfl) (hk : scope.kind = .function := by rfl) : Spec w f args own (D + 1) (U + 3) h Post := by
  refine ⟨?_⟩
  intro prog A s tk mg mb g R hh hd hu G hg hw hQ
  have X : (KF w).In h := G.X.keeps hg
  refine codeAny_call_def (s := mk s h tk) (fd := fnOf name qual params body scope dV kV doc pm an cdv ct) (body := body) (binds := binds) (by omega) (X _ _ ho) rfl (G.lim.keeps hg) (codeRec_of X hcd) rfl (hbind _ X) hcell hloc (fun h₁ hns₁ hk₁ => ?_) hco hgen hk
  have hnn : ∀ p ∈ own, ∀ b o, g.get? b = some o → b ≠ p.1 := fun p hp b o e q => by
    rw [q, (hw p hp).2] at e; cases e
  have st : g.StaysIn (hideAll h (own.map (·.1))) := fun b o e => hideAll_get _ (hg b o e) fun hm => by
    obtain ⟨p, hp, rfl⟩ := List.mem_map.mp hm
    exact hnn p hp _ o e rfl
  have key := hb prog (A.deeper (callEnv (fnOf name qual params body scope dV kV doc pm an cdv ct) h.objs.size f)) s (tk + binds.length) mg mb (hideAll h (own.map (·.1))) h₁ h.objs.size (callEnv (fnOf name qual params body scope dV kV doc pm an cdv ct) h.objs.size f) hh (by show A.depth + 1 + D < _; omega) (by show A.units + 3 + U < _; omega) (G.keeps fun b o e => st b o e)
    ⟨hk, rfl, rfl, rfl, hsn, hsnd, hdbg⟩ (fun b o n e => hideAll_get _ e n) fresh_size
    ⟨hnd, ⟨?_, fun b o e => hk₁ b o (of_hideAll _ e), Nat.le_of_eq (hideAll_size _ _)⟩, fun p hp => ⟨hk₁ _ _ (hw p hp).1, Nat.ne_of_lt (Heap.lt_size (hw p hp).1), hideAll_none _ (List.mem_map_of_mem hp)⟩, hod, hown, .keep hk₁⟩
  · refine wpAny_mono key (fun fl s' q => ?_) fun _ _ q => q.elim
    obtain ⟨h', tk', rfl, ⟨k, d, t⟩, post⟩ := q
    exact hQ h' tk' _ ⟨fun b o n e => k b o (hideAll_get _ e n), d, t⟩ post
  · have e : (fun x => binds.reverse.lookup x) = lkp ns vs := by
      funext x
      rw [hns, hvs, lkp_binds, lookup_rev]
      rw [hns] at hnd
      exact (List.nodup_append.mp hnd).1
    rw [← e]; exact hns₁
section
variable {g : Heap} {L : Addr} {ns : List Str} {vs vs' : List (Option Value)} {led led' : List (Addr × Obj)} {r h h' : Heap}
theorem St.fin (S : St g L ns vs led r h) : g.StaysIn h ∧ (∀ b, h.get? b = none → r.get? b = none) ∧ TupK r h := ⟨S.F.keep, S.go.D, S.go.T⟩
/-- behind a call that changed nothing of the caller's -/
theorem St.after0 (S : St g L ns vs led r h) (k : Go [] h h') : St g L ns vs led r h' := by
  have kk : ∀ b o, h.get? b = some o → h'.get? b = some o := fun b o e => k.K b o (by simp) e
  obtain ⟨o, es, ep, e, q⟩ := S.F.ns
  exact ⟨S.nd, ⟨⟨o, es, ep, kk _ _ e, q⟩, fun b o e => kk b o (S.F.keep b o e), S.F.above⟩, fun p hp => ⟨kk _ _ (S.N p hp).1, (S.N p hp).2⟩, S.ld, S.lt, S.go.trans (k.mono (by simp)) fun _ h => h⟩
/-- behind a call that changed one object of the ledger -/
theorem St.after1 {a : Addr} {o o' : Obj} {f : Obj → List (Addr × Obj)} (S : St g L ns vs led r h) (U : Up led a o f) (k : Go [a] h h') (e : h'.get? a = some o') (ht : ¬ IsT o') : St g L ns vs (f o') r h' := by
  obtain ⟨T, N, hT, back⟩ := S.lift
  have na := S.N _ U.mem
  obtain ⟨oL, es, ep, eL, q⟩ := S.F.ns
  refine back ⟨⟨oL, es, ep, k.K _ _ (by simpa using Ne.symm na.2.1) eL, q⟩, fun b o q => k.K b o (fun hm => ?_) (S.F.keep b o q), S.F.above⟩ ?_ (by rw [U.keys]; exact S.ld) (U.lt S.lt ht) (by rw [U.keys]; exact fun _ h => h)
  · rw [List.mem_singleton.mp hm, na.2.2] at q; cases q
  · obtain ⟨pre, post, e1, e2, x1, x2⟩ := (U.upd S.ld o' (U.notin hT)).split
    rw [e2]; rw [e1] at N
    intro p hp
    rcases List.mem_append.mp hp with q | q
    · have P := N p (List.mem_append_left _ q); exact ⟨k.K _ _ (by simpa using x1 p q) P.1, P.2⟩
    · rcases List.mem_cons.mp q with rfl | q
      · exact ⟨e, na.2⟩
      · have P := N p (List.mem_append_right _ (.tail _ q)); exact ⟨k.K _ _ (by simpa using x2 p q) P.1, P.2⟩
/-- a new object onto the ledger: h₀ is a heap of this frame ahead of it -/
theorem St.add {a : Addr} {o : Obj} {h₀ : Heap} (S : St g L ns vs led r h) (e : h.get? a = some o) (n : h₀.get? a = none) (S₀ : St g L ns vs' led' r h₀) (hl : ∀ x ∈ led.map (·.1), x ∈ led'.map (·.1)) (ht : ¬ IsT o) : St g L ns vs ((a, o) :: led) r h := by
  refine ⟨S.nd, S.F, fun p hp => ?_, ?_, S.freshLt ht, S.go.mono fun w hw => ?_⟩
  · rcases List.mem_cons.mp hp with rfl | hp
    · refine ⟨e, ?_, none_at n S₀.F.keep⟩
      rintro rfl
      obtain ⟨o', _, _, q, _⟩ := S₀.F.ns
      rw [n] at q; cases q
    · exact S.N p hp
  · rw [List.map_cons, List.nodup_cons]
    refine ⟨fun hm => ?_, S.ld⟩
    obtain ⟨p, hp, q⟩ := List.mem_map.mp (hl _ hm)
    have h2 := (S₀.N p hp).1
    have q' : p.1 = a := q
    rw [q', n] at h2; cases h2
  · rcases List.mem_cons.mp hw with rfl | hw
    · exact List.mem_cons_self
    · exact List.mem_cons_of_mem _ (List.mem_cons_of_mem _ hw)
end

/-! ## triples -/
structure Cx where
  prog : Program
  w : World
  A : Around
  env : Env
  s : Shared
  E : Value → Shared → Prop
structure Fc (c : Cx) (L : Addr) (sn : List (Str × NameKind)) (mg mb : Str → Option Value) (g : Heap) (D U : Nat) : Prop where
  hh : c.A.handled = none
  hd : c.A.depth + D < recursionLimit
  hu : c.A.units + U < cLine
  G : Gd c.w mg mb g
  fe : FnEnv c.env L sn
  po : PassesOwn (model c.prog c.w) c.A c.env c.E
/-- the expression e from the heap h -/
structure EV (c : Cx) (h : Heap) (e : Expr) (P : Value → Heap → Prop) : Prop where
  run : ∀ (tk : Nat) (Q : Value → Shared → Prop), (∀ v h' tk', P v h' → Q v (mk c.s h' tk')) → wpAny (model c.prog c.w) c.A (eval e c.env) Q c.E (mk c.s h tk)
abbrev PV (c : Cx) (h : Heap) (e : Expr) (v : Value) : Prop := EV c h e fun v' h' => v' = v ∧ h' = h
abbrev PI (c : Cx) (h : Heap) (e : Expr) (i : Int) : Prop := EV c h e fun v' h' => (∃ t, v' = .int i t) ∧ h' = h
abbrev PB (c : Cx) (h : Heap) (e : Expr) (b : Bool) : Prop := PV c h e (.bool b)
structure PT (c : Cx) (h : Heap) (e : Expr) (b : Bool) : Prop where
  run : ∀ (tk : Nat) (Q : Bool → Shared → Prop), (∀ tk', Q b (mk c.s h tk')) → wpAny (model c.prog c.w) c.A (PySem.isTrue e c.env (eval e c.env)) Q c.E (mk c.s h tk)
structure XS (c : Cx) (h : Heap) (b : List Stmt) (R : Flow → Heap → Prop) : Prop where
  run : ∀ (tk : Nat) (Q : Flow → Shared → Prop), (∀ f h' tk', R f h' → Q f (mk c.s h' tk')) → wpAny (model c.prog c.w) c.A (execs b c.env) Q c.E (mk c.s h tk)
/-- a tree of the semantics from h -/
structure TR {α : Type} (c : Cx) (h : Heap) (t : Sem α) (P : α → Heap → Prop) : Prop where
  run : ∀ (tk : Nat) (Q : α → Shared → Prop), (∀ v h' tk', P v h' → Q v (mk c.s h' tk')) → wpAny (model c.prog c.w) c.A t Q c.E (mk c.s h tk)
/-- the arguments -/
def EA (c : Cx) (h : Heap) (es : List Expr) (P : List Value → Heap → Prop) : Prop :=
  ∀ (pos : Pos), TR c h (spliced (backTo pos (starEach es c.env))) P
section
variable {c : Cx} {L : Addr} {sn : List (Str × NameKind)} {mg mb : Str → Option Value} {g h h' : Heap} {D U : Nat} {ns : List Str} {vs vs' : List (Option Value)} {led led' : List (Addr × Obj)} {r : Heap} {x : Str} {pos p' : Pos} {v : Value}
  {P P' : Value → Heap → Prop} {R : Flow → Heap → Prop} {e l r' : Expr} {a b i j : Int} {k : Nat}
theorem EV.mono (q : EV c h e P) (i : ∀ v h', P v h' → P' v h') : EV c h e P' := ⟨fun tk Q hQ => q.run tk Q fun v h' tk' p => hQ v h' tk' (i v h' p)⟩
theorem pv_loc (C : Fc c L sn mg mb g D U) (S : St g L ns vs led r h) (k : Kd sn x .local) (l : Loc ns vs x v) : PV c h (.Name x pos) v := ⟨fun tk Q hQ => r_loc C.fe S k l (hQ _ _ _ ⟨rfl, rfl⟩)⟩
theorem pv_glob (C : Fc c L sn mg mb g D U) (S : St g L ns vs led r h) (k : Kd sn x .globalImplicit) (e : nsIn (KF c.w) mainGlobals x = some (some v)) : PV c h (.Name x pos) v := ⟨fun tk Q hQ => r_glob C.fe C.G S k e (hQ _ _ _ ⟨rfl, rfl⟩)⟩
theorem pv_bi (C : Fc c L sn mg mb g D U) (S : St g L ns vs led r h) (k : Kd sn x .globalImplicit) (e : nsIn (KF c.w) mainGlobals x = some none) (hv : bootBuiltins x = some v) (hn : x ≠ "__name__") : PV c h (.Name x pos) v :=
  ⟨fun tk Q hQ => r_bi C.fe C.G S k e hv hn (hQ _ _ _ ⟨rfl, rfl⟩)⟩
theorem pi_loc {t : Tok} (C : Fc c L sn mg mb g D U) (S : St g L ns vs led r h) (k : Kd sn x .local) (l : Loc ns vs x (.int i t)) : PI c h (.Name x pos) i := (pv_loc C S k l).mono fun _ _ q => ⟨⟨t, q.1⟩, q.2⟩
theorem pi_glob {t : Tok} (C : Fc c L sn mg mb g D U) (S : St g L ns vs led r h) (k : Kd sn x .globalImplicit) (e : nsIn (KF c.w) mainGlobals x = some (some (.int i t))) : PI c h (.Name x pos) i := (pv_glob C S k e).mono fun _ _ q => ⟨⟨t, q.1⟩, q.2⟩
theorem pi_const : PI c h (.Constant (.int i) k pos) i := ⟨fun tk Q hQ => e_int fun t tk' => hQ _ _ _ ⟨⟨t, rfl⟩, rfl⟩⟩
theorem pb_const {b : Bool} : PB c h (.Constant (.bool b) k pos) b := ⟨fun tk Q hQ => e_bool (hQ _ _ _ ⟨rfl, rfl⟩)⟩
theorem pv_none : PV c h (.Constant .none k pos) .none := ⟨fun tk Q hQ => wpAny_Constant_none (hQ _ _ _ ⟨rfl, rfl⟩)⟩
theorem pv_str {x : Str} : EV c h (.Constant (.str x) k pos) fun v' h' => (∃ t, v' = .str x t) ∧ h' = h := ⟨fun tk Q hQ => e_str fun t tk' => hQ _ _ _ ⟨⟨t, rfl⟩, rfl⟩⟩
/-! two ints -/
theorem pi_bin {op : Operator} {f : Int} (hl : PI c h l a) (hr : PI c h r' b) (ho : ∀ t u, TR c h (binaryOp op (.int a t) (.int b u)) fun v h' => (∃ t, v = .int f t) ∧ h' = h) : PI c h (.BinOp l op r' pos) f :=
  ⟨fun tk Q hQ => e_bin (hl.run tk _ fun v h' tk' p => by
    obtain ⟨⟨t, rfl⟩, rfl⟩ := p
    exact hr.run tk' _ fun v h' tk' p => by
      obtain ⟨⟨u, rfl⟩, rfl⟩ := p
      exact (ho t u).run tk' _ hQ)⟩
theorem pi_add (hl : PI c h l a) (hr : PI c h r' b) : PI c h (.BinOp l .Add r' pos) (a + b) := pi_bin hl hr fun t u => ⟨fun tk Q hQ => o_add fun t tk' => hQ _ _ _ ⟨⟨t, rfl⟩, rfl⟩⟩
theorem pi_sub (hl : PI c h l a) (hr : PI c h r' b) : PI c h (.BinOp l .Sub r' pos) (a - b) := pi_bin hl hr fun t u => ⟨fun tk Q hQ => o_sub fun t tk' => hQ _ _ _ ⟨⟨t, rfl⟩, rfl⟩⟩
theorem pi_mul (hl : PI c h l a) (hr : PI c h r' b) (hm : IntMulOk a b) : PI c h (.BinOp l .Mult r' pos) (a * b) := pi_bin hl hr fun t u => ⟨fun tk Q hQ => o_mul hm fun t tk' => hQ _ _ _ ⟨⟨t, rfl⟩, rfl⟩⟩
theorem pi_mod (hl : PI c h l a) (hr : PI c h r' b) (hb : b ≠ 0) : PI c h (.BinOp l .Mod r' pos) (a.fmod b) := pi_bin hl hr fun t u => ⟨fun tk Q hQ => o_mod hb fun t tk' => hQ _ _ _ ⟨⟨t, rfl⟩, rfl⟩⟩
theorem pi_div (hl : PI c h l a) (hr : PI c h r' b) (hb : b ≠ 0) (hs : b.natAbs < 1073741824) : PI c h (.BinOp l .FloorDiv r' pos) (a.fdiv b) := pi_bin hl hr fun t u => ⟨fun tk Q hQ => o_div hb hs fun t tk' => hQ _ _ _ ⟨⟨t, rfl⟩, rfl⟩⟩
theorem pi_pow (hl : PI c h l a) (hr : PI c h r' b) (hn : 0 ≤ b) (hsz : (Builtin.Int.intBits a : Int) * b ≤ 2 ^ 27) : PI c h (.BinOp l .Pow r' pos) (a ^ b.toNat) := pi_bin hl hr fun t u => ⟨fun tk Q hQ => o_pow hn hsz fun t tk' => hQ _ _ _ ⟨⟨t, rfl⟩, rfl⟩⟩
/-! comparisons -/
theorem ev_cmp {op : CmpOp} {va vb : Value} {PA PB' : Value → Prop} (hl : EV c h l fun v h' => PA v ∧ h' = h) (hr : EV c h r' fun v h' => PB' v ∧ h' = h) (ho : ∀ va vb, PA va → PB' vb → TR c h (compareOp op va vb) P) (hm : behindInMarks op r' = false) : EV c h (.Compare l [op] [r'] pos) P :=
  ⟨fun tk Q hQ => e_cmp (hm := hm) (hl.run tk _ fun v h' tk' p => by
    obtain ⟨pa, rfl⟩ := p
    exact hr.run tk' _ fun v h' tk' p => by
      obtain ⟨pb, rfl⟩ := p
      exact (ho _ _ pa pb).run tk' _ hQ)⟩
theorem pt_cmp {op : CmpOp} {b : Bool} {PA PB' : Value → Prop} (hl : EV c h l fun v h' => PA v ∧ h' = h) (hr : EV c h r' fun v h' => PB' v ∧ h' = h) (ho : ∀ va vb, PA va → PB' vb → TR c h (compareOp op va vb) fun v h' => v = .bool b ∧ h' = h) (hm : behindInMarks op r' = false) : PT c h (.Compare l [op] [r'] pos) b :=
  ⟨fun tk Q hQ => t_cmp (hm := hm) (hl.run tk _ fun v h' tk' p => by
    obtain ⟨pa, rfl⟩ := p
    exact hr.run tk' _ fun v h' tk' p => by
      obtain ⟨pb, rfl⟩ := p
      exact (ho _ _ pa pb).run tk' _ fun v h' tk' p => by
        obtain ⟨rfl, rfl⟩ := p
        exact t_bool (hQ _))⟩
theorem pt_ints {op : CmpOp} {q : Bool} (hl : PI c h l a) (hr : PI c h r' b) (ho : ∀ t u, TR c h (compareOp op (.int a t) (.int b u)) fun v h' => v = .bool q ∧ h' = h) (hm : behindInMarks op r' = false) : PT c h (.Compare l [op] [r'] pos) q :=
  pt_cmp (PA := fun v => ∃ t, v = .int a t) (PB' := fun v => ∃ t, v = .int b t) hl hr (fun va vb pa pb => by
    obtain ⟨t, rfl⟩ := pa
    obtain ⟨u, rfl⟩ := pb
    exact ho t u) hm
theorem pb_ints {op : CmpOp} {q : Bool} (hl : PI c h l a) (hr : PI c h r' b) (ho : ∀ t u, TR c h (compareOp op (.int a t) (.int b u)) fun v h' => v = .bool q ∧ h' = h) (hm : behindInMarks op r' = false) : PB c h (.Compare l [op] [r'] pos) q :=
  ev_cmp (va := .none) (vb := .none) (PA := fun v => ∃ t, v = .int a t) (PB' := fun v => ∃ t, v = .int b t) hl hr (fun va vb pa pb => by
    obtain ⟨t, rfl⟩ := pa
    obtain ⟨u, rfl⟩ := pb
    exact ho t u) hm
theorem tr_eq {t u : Tok} : TR c h (compareOp .Eq (.int a t) (.int b u)) fun v h' => v = .bool (decide (a = b)) ∧ h' = h := ⟨fun tk Q hQ => c_eq (hQ _ _ _ ⟨by congr 1, rfl⟩)⟩
theorem tr_ne {t u : Tok} : TR c h (compareOp .NotEq (.int a t) (.int b u)) fun v h' => v = .bool (!decide (a = b)) ∧ h' = h := ⟨fun tk Q hQ => c_ne (hQ _ _ _ ⟨by congr 1, rfl⟩)⟩
theorem tr_lt {t u : Tok} : TR c h (compareOp .Lt (.int a t) (.int b u)) fun v h' => v = .bool (decide (a < b)) ∧ h' = h := ⟨fun tk Q hQ => c_lt (hQ _ _ _ ⟨rfl, rfl⟩)⟩
theorem tr_gt {t u : Tok} : TR c h (compareOp .Gt (.int a t) (.int b u)) fun v h' => v = .bool (decide (b < a)) ∧ h' = h := ⟨fun tk Q hQ => c_gt (hQ _ _ _ ⟨rfl, rfl⟩)⟩
theorem tr_le {t u : Tok} : TR c h (compareOp .LtE (.int a t) (.int b u)) fun v h' => v = .bool (decide (a ≤ b)) ∧ h' = h := ⟨fun tk Q hQ => c_le (hQ _ _ _ ⟨rfl, rfl⟩)⟩
theorem tr_ge {t u : Tok} : TR c h (compareOp .GtE (.int a t) (.int b u)) fun v h' => v = .bool (decide (b ≤ a)) ∧ h' = h := ⟨fun tk Q hQ => c_ge (hQ _ _ _ ⟨rfl, rfl⟩)⟩
theorem pt_eq (hl : PI c h l a) (hr : PI c h r' b) (hm : behindInMarks .Eq r' = false) : PT c h (.Compare l [.Eq] [r'] pos) (decide (a = b)) := pt_ints hl hr (fun _ _ => tr_eq) hm
theorem pt_ne (hl : PI c h l a) (hr : PI c h r' b) (hm : behindInMarks .NotEq r' = false) : PT c h (.Compare l [.NotEq] [r'] pos) (!decide (a = b)) := pt_ints hl hr (fun _ _ => tr_ne) hm
theorem pt_lt (hl : PI c h l a) (hr : PI c h r' b) (hm : behindInMarks .Lt r' = false) : PT c h (.Compare l [.Lt] [r'] pos) (decide (a < b)) := pt_ints hl hr (fun _ _ => tr_lt) hm
theorem pt_gt (hl : PI c h l a) (hr : PI c h r' b) (hm : behindInMarks .Gt r' = false) : PT c h (.Compare l [.Gt] [r'] pos) (decide (b < a)) := pt_ints hl hr (fun _ _ => tr_gt) hm
theorem pt_le (hl : PI c h l a) (hr : PI c h r' b) (hm : behindInMarks .LtE r' = false) : PT c h (.Compare l [.LtE] [r'] pos) (decide (a ≤ b)) := pt_ints hl hr (fun _ _ => tr_le) hm
theorem pt_ge (hl : PI c h l a) (hr : PI c h r' b) (hm : behindInMarks .GtE r' = false) : PT c h (.Compare l [.GtE] [r'] pos) (decide (b ≤ a)) := pt_ints hl hr (fun _ _ => tr_ge) hm
theorem pb_eq (hl : PI c h l a) (hr : PI c h r' b) (hm : behindInMarks .Eq r' = false) : PB c h (.Compare l [.Eq] [r'] pos) (decide (a = b)) := pb_ints hl hr (fun _ _ => tr_eq) hm
theorem pb_ne (hl : PI c h l a) (hr : PI c h r' b) (hm : behindInMarks .NotEq r' = false) : PB c h (.Compare l [.NotEq] [r'] pos) (!decide (a = b)) := pb_ints hl hr (fun _ _ => tr_ne) hm
theorem pb_lt (hl : PI c h l a) (hr : PI c h r' b) (hm : behindInMarks .Lt r' = false) : PB c h (.Compare l [.Lt] [r'] pos) (decide (a < b)) := pb_ints hl hr (fun _ _ => tr_lt) hm
theorem pb_gt (hl : PI c h l a) (hr : PI c h r' b) (hm : behindInMarks .Gt r' = false) : PB c h (.Compare l [.Gt] [r'] pos) (decide (b < a)) := pb_ints hl hr (fun _ _ => tr_gt) hm
theorem pb_le (hl : PI c h l a) (hr : PI c h r' b) (hm : behindInMarks .LtE r' = false) : PB c h (.Compare l [.LtE] [r'] pos) (decide (a ≤ b)) := pb_ints hl hr (fun _ _ => tr_le) hm
theorem pb_ge (hl : PI c h l a) (hr : PI c h r' b) (hm : behindInMarks .GtE r' = false) : PB c h (.Compare l [.GtE] [r'] pos) (decide (b ≤ a)) := pb_ints hl hr (fun _ _ => tr_ge) hm
/-! and, or, not, a plain value as a test -/
structure PAnd (c : Cx) (h : Heap) (es : List Expr) (b : Bool) : Prop where
  run : ∀ (pos : Pos) (whole : Sem Value) (tk : Nat) (Q : Bool → Shared → Prop), (∀ tk', Q b (mk c.s h tk')) → wpAny (model c.prog c.w) c.A (PySem.isTrue (.BoolOp .And es pos) c.env whole) Q c.E (mk c.s h tk)
structure POr (c : Cx) (h : Heap) (es : List Expr) (b : Bool) : Prop where
  run : ∀ (pos : Pos) (whole : Sem Value) (tk : Nat) (Q : Bool → Shared → Prop), (∀ tk', Q b (mk c.s h tk')) → wpAny (model c.prog c.w) c.A (PySem.isTrue (.BoolOp .Or es pos) c.env whole) Q c.E (mk c.s h tk)
theorem pand_nil : PAnd c h [] true := ⟨fun pos whole tk Q hQ => PyProof.Rows.isTrue_and_nil (hQ _)⟩
theorem pand_cons {es : List Expr} {p q : Bool} (h1 : PT c h e p) (h2 : p = true → PAnd c h es q) : PAnd c h (e :: es) (p && q) := ⟨fun pos whole tk Q hQ => PyProof.Rows.isTrue_and (h1.run tk _ fun tk' => by
  cases p
  · exact hQ tk'
  · exact (h2 rfl).run pos whole tk' Q hQ)⟩
theorem por_nil : POr c h [] false := ⟨fun pos whole tk Q hQ => PyProof.Rows.isTrue_or_nil (hQ _)⟩
theorem por_cons {es : List Expr} {p q : Bool} (h1 : PT c h e p) (h2 : p = false → POr c h es q) : POr c h (e :: es) (p || q) := ⟨fun pos whole tk Q hQ => PyProof.Rows.isTrue_or (h1.run tk _ fun tk' => by
  cases p
  · exact (h2 rfl).run pos whole tk' Q hQ
  · exact hQ tk')⟩
theorem pt_and {es : List Expr} {p : Bool} (q : PAnd c h es p) : PT c h (.BoolOp .And es pos) p := ⟨fun tk Q hQ => q.run pos _ tk Q hQ⟩
theorem pt_or {es : List Expr} {p : Bool} (q : POr c h es p) : PT c h (.BoolOp .Or es pos) p := ⟨fun tk Q hQ => q.run pos _ tk Q hQ⟩
theorem pt_and2 {e2 : Expr} {p q : Bool} (h1 : PT c h e p) (h2 : p = true → PT c h e2 q) : PT c h (.BoolOp .And [e, e2] pos) (p && q) := pt_and (by simpa using pand_cons h1 fun x => by simpa using pand_cons (h2 x) fun _ => pand_nil)
theorem pt_or2 {e2 : Expr} {p q : Bool} (h1 : PT c h e p) (h2 : p = false → PT c h e2 q) : PT c h (.BoolOp .Or [e, e2] pos) (p || q) := pt_or (by simpa using por_cons h1 fun x => by simpa using por_cons (h2 x) fun _ => por_nil)
theorem pt_not {p : Bool} (q : PT c h e p) : PT c h (.UnaryOp .Not e pos) (!p) := ⟨fun tk Q hQ => PyProof.Rows.isTrue_not (q.run tk _ fun tk' => hQ tk')⟩
theorem pt_val {p : Bool} (q : PB c h e p) (he : PySem.isTrue e c.env (eval e c.env) = (do let v ← eval e c.env; standAt e.pos; holding [v] (truthy v))) : PT c h e p :=
  ⟨fun tk Q hQ => PyProof.Rows.isTrue_plain (q.run tk _ fun v h' tk' p => by
    obtain ⟨rfl, rfl⟩ := p
    exact t_bool (hQ _)) he⟩
/-! items -/
theorem ev_sub {value slice : Expr} {o : Value} (hv : PV c h value o) (hi : PI c h slice i) (ho : ∀ t, TR c h (subscriptTail value slice o (.int i t)) P) : EV c h (.Subscript value slice pos) P :=
  ⟨fun tk Q hQ => e_sub (hv.run tk _ fun v h' tk' p => by
    obtain ⟨rfl, rfl⟩ := p
    exact hi.run tk' _ fun v h' tk' p => by
      obtain ⟨⟨t, rfl⟩, rfl⟩ := p
      exact (ho t).run tk' _ hQ)⟩
theorem pv_item {value slice : Expr} {la : Addr} {xs : List Value} {n : Nat} (hv : PV c h value (.ref la)) (hi : PI c h slice i) (hl : h.get? la = some (listOf xs.toArray n)) (h0 : 0 ≤ i) (h1 : i < 2 ^ 63) (hx : xs[i.toNat]? = some v)
    (hs : ∀ t, subscripted slice false (.ref la) (.int i t) = operate [.ref la, .int i t] (getItem (.ref la) (.int i t))) : PV c h (.Subscript value slice pos) v :=
  ev_sub hv hi fun t => ⟨fun tk Q hQ => i_list hl h0 h1 hx (hQ _ _ _ ⟨rfl, rfl⟩) (hs t)⟩
theorem pi_item {value slice : Expr} {la : Addr} {xs : List Value} {n : Nat} {t : Tok} (hv : PV c h value (.ref la)) (hi : PI c h slice i) (hl : h.get? la = some (listOf xs.toArray n)) (h0 : 0 ≤ i) (h1 : i < 2 ^ 63) (hx : xs[i.toNat]? = some (.int j t))
    (hs : ∀ t, subscripted slice false (.ref la) (.int i t) = operate [.ref la, .int i t] (getItem (.ref la) (.int i t))) : PI c h (.Subscript value slice pos) j :=
  (pv_item hv hi hl h0 h1 hx hs).mono fun _ _ q => ⟨⟨t, q.1⟩, q.2⟩
theorem pv_titem {value slice : Expr} {la : Addr} {xs : List Value} {jn : Nat} (hv : PV c h value (.ref la)) (hi : PI c h slice i) (hl : IsTup h la xs.toArray) (h0 : -(2 ^ 63) ≤ i) (h1 : i < 2 ^ 63) (hj : seqIndex? i xs.length = some jn) (hx : xs[jn]? = some v)
    (hs : ∀ t, subscripted slice false (.ref la) (.int i t) = operate [.ref la, .int i t] (getItem (.ref la) (.int i t))) : PV c h (.Subscript value slice pos) v :=
  ev_sub hv hi fun t => ⟨fun tk Q hQ => i_tup hl h0 h1 hj hx (hQ _ _ _ ⟨rfl, rfl⟩) (hs t)⟩
theorem pi_titem {value slice : Expr} {la : Addr} {xs : List Value} {jn : Nat} {t : Tok} (hv : PV c h value (.ref la)) (hi : PI c h slice i) (hl : IsTup h la xs.toArray) (h0 : -(2 ^ 63) ≤ i) (h1 : i < 2 ^ 63) (hj : seqIndex? i xs.length = some jn) (hx : xs[jn]? = some (.int j t))
    (hs : ∀ t, subscripted slice false (.ref la) (.int i t) = operate [.ref la, .int i t] (getItem (.ref la) (.int i t))) : PI c h (.Subscript value slice pos) j :=
  (pv_titem hv hi hl h0 h1 hj hx hs).mono fun _ _ q => ⟨⟨t, q.1⟩, q.2⟩
/-! statements -/
theorem xs_nil (q : R .next h) : XS c h [] R := ⟨fun tk Q hQ => x_nil (hQ _ _ _ q)⟩
theorem xs_ret {rest : List Stmt} (q : EV c h e fun v h' => R (.ret v) h') : XS c h (.Return (some e) pos :: rest) R := ⟨fun tk Q hQ => x_ret (q.run tk _ fun v h' tk' p => hQ _ _ _ p)⟩
inductive AsQ (c : Cx) (L : Addr) (ns : List Str) (x : Str) (rest : List Stmt) (R : Flow → Heap → Prop) (v : Value) (h₁ : Heap) : Prop
  | mk (g' : Heap) (vs₁ : List (Option Value)) (led' : List (Addr × Obj)) (r₁ : Heap) (vs' : List (Option Value)) : St g' L ns vs₁ led' r₁ h₁ → SetL ns vs₁ x v vs' → (∀ h', St g' L ns vs' led' r₁ h' → St g' L ns vs' led' h₁ h' → XS c h' rest R) → AsQ c L ns x rest R v h₁
theorem xs_assign {rest : List Stmt} (q : EV c h e (AsQ c L ns x rest R)) (C : Fc c L sn mg mb g D U) (k : Kd sn x .local)
    (hs : swapsWith e (some (.Name x p')) pos.line c.env = pure false) : XS c h (.Assign [.Name x p'] e pos :: rest) R :=
  ⟨fun tk Q hQ => x_assign (hs := hs) (q.run tk _ fun v h₁ tk' p => by
    obtain ⟨g', vs₁, led', r₁, vs', S, l, k'⟩ := p
    exact r_store C.fe S k l fun h' tk' S' S'' => (k' h' S' S'').run tk' _ hQ)⟩
theorem xs_assign_i {rest : List Stmt} {vs' : Tok → List (Option Value)} (C : Fc c L sn mg mb g D U) (S : St g L ns vs led r h) (q : PI c h e i) (k : Kd sn x .local) (l : ∀ t, SetL ns vs x (.int i t) (vs' t))
    (hs : swapsWith e (some (.Name x p')) pos.line c.env = pure false) (hr : ∀ t h', St g L ns (vs' t) led r h' → XS c h' rest R) : XS c h (.Assign [.Name x p'] e pos :: rest) R :=
  xs_assign (ns := ns) (q.mono fun v h₁ p => by
    obtain ⟨⟨t, rfl⟩, rfl⟩ := p
    exact ⟨_, _, _, _, _, S, l t, fun h' S' _ => hr t h' S'⟩) C k hs
theorem xs_assign_v {rest : List Stmt} (C : Fc c L sn mg mb g D U) (S : St g L ns vs led r h) (q : PV c h e v) (k : Kd sn x .local) (l : SetL ns vs x v vs')
    (hs : swapsWith e (some (.Name x p')) pos.line c.env = pure false) (hr : ∀ h', St g L ns vs' led r h' → XS c h' rest R) : XS c h (.Assign [.Name x p'] e pos :: rest) R :=
  xs_assign (ns := ns) (q.mono fun v h₁ p => by
    obtain ⟨rfl, rfl⟩ := p
    exact ⟨_, _, _, _, _, S, l, fun h' S' _ => hr h' S'⟩) C k hs
theorem xs_setitem {o ix : Expr} {rest : List Stmt} {P : Value → Prop} {ov : Value} (q : EV c h e fun v h' => P v ∧ h' = h) (qo : PV c h o ov) (qi : PI c h ix i) (qs : ∀ v t, P v → TR c h (setItem ov (.int i t) v) fun _ h' => XS c h' rest R)
    (hs : swapsWith e (some (o.Subscript ix p')) pos.line c.env = pure false) : XS c h (.Assign [o.Subscript ix p'] e pos :: rest) R :=
  ⟨fun tk Q hQ => x_setitem (hs := hs) (q.run tk _ fun v h' tk' p => by
    obtain ⟨pv, rfl⟩ := p
    exact qo.run tk' _ fun v' h' tk' p => by
      obtain ⟨rfl, rfl⟩ := p
      exact qi.run tk' _ fun v' h' tk' p => by
        obtain ⟨⟨t, rfl⟩, rfl⟩ := p
        exact (qs _ t pv).run tk' _ fun _ h' tk' p => p.run tk' _ hQ)⟩
def andThen (c : Cx) (rest : List Stmt) (R : Flow → Heap → Prop) : Flow → Heap → Prop := fun f h' => match f with | .next => XS c h' rest R | f => R f h'
theorem xs_if {test : Expr} {body orelse rest : List Stmt} {b : Bool} (q : PT c h test b) (q1 : b = true → XS c h body (andThen c rest R)) (q2 : b = false → XS c h orelse (andThen c rest R)) : XS c h (.If test body orelse pos :: rest) R :=
  ⟨fun tk Q hQ => x_if (q.run tk _ fun tk' =>
    ⟨fun e => (q1 e).run tk' _ fun f h' tk' p => by
      cases f with
      | next => exact p.run tk' _ hQ
      | _ => exact hQ _ _ _ p,
    fun e => (q2 e).run tk' _ fun f h' tk' p => by
      cases f with
      | next => exact p.run tk' _ hQ
      | _ => exact hQ _ _ _ p⟩)⟩
/-! list items stored -/
theorem tr_set {la : Addr} {xs : List Value} {n : Nat} {t : Tok} {f : Obj → List (Addr × Obj)} {P : Unit → Heap → Prop} (S : St g L ns vs led r h) (U' : Up led la (listOf xs.toArray n) f) (h0 : 0 ≤ i) (h1 : i < 2 ^ 63) (h2 : i < xs.length)
    (q : ∀ h', St g L ns vs (f (listOf (xs.set i.toNat v).toArray n)) r h' → P () h') : TR c h (setItem (.ref la) (.int i t) v) P := ⟨fun tk Q hQ => m_set S U' h0 h1 h2 fun h' tk' S' => hQ _ _ _ (q h' S')⟩
end
/-- entering a def, as a triple -/
theorem spec_xs {w : World} {f : Addr} {args : List Value} {own : List (Addr × Obj)} {D U : Nat} {h : Heap} {Post : Heap → Value → Prop} {oc : Value} {od : Option Addr} {osl : Array (Option Value)}
    {name qual : Str} {params : Arguments} {body : List Stmt} {scope : Scope} {dV kV doc pm cdv ct : Value} {an : Option Addr} (ns : List Str) (np : Nat)
    (ho : (KF w).lookup f = some ⟨oc, od, .func (fnOf name qual params body scope dV kV doc pm an cdv ct), osl⟩) (hcd : codeIn (KF w) cdv qual = true)
    (hbind : ∀ s, (KF w).In s.heap → BindsTo s (fnOf name qual params body scope dV kV doc pm an cdv ct) ⟨args, []⟩ ((ns.take np).zip args)) (hlen : args.length = (ns.take np).length)
    (hloc : ((ns.take np).all fun y => decide (scope.names.lookup y = some .local)) = true) (hcell : ∀ x ∈ scope.names, x.2 ≠ .cell)
    (hsnd : (scope.names.map (·.1)).Nodup) (hdbg : ∀ p ∈ scope.names, (p.1 == ("__debug__" : Str)) = false) (hnd : ns.Nodup)
    (hod : (own.map (·.1)).Nodup) (hown : ∀ p ∈ own, ¬ IsT p.2)
    (hb : ∀ (c : Cx) (mg mb : Str → Option Value) (g h₁ : Heap) (L : Addr), c.w = w → Fc c L scope.names mg mb g D U → (∀ b o, b ∉ own.map (·.1) → h.get? b = some o → g.get? b = some o) → h.get? L = none →
      St g L ns (args.map some ++ (ns.drop np).map fun _ => none) own h h₁ → XS c h₁ body (Fin g h Post))
    (hco : scope.isCoroutine = false := by rfl) (hgen : scope.isGenerator = false := by rfl) (hk : scope.kind = .function := by rfl) : Spec w f args own (D + 1) (U + 3) h Post := by
  have z1 : (((ns.take np).zip args).map (·.1)) = ns.take np := List.map_fst_zip (by omega)
  have z2 : (((ns.take np).zip args).map (·.2)) = args := List.map_snd_zip (by omega)
  refine spec_of (ns.drop np) ho hcd hbind (fun y hy => ?_) hcell rfl hsnd hdbg (by rw [z1, List.take_append_drop]) hnd rfl hod (fun prog A s tk mg mb g h₁ L env hh hd hu G Fe hk' hL S => ?_) hown hco hgen hk
  · have := List.all_eq_true.mp hloc y.1 (List.of_mem_zip hy).1
    exact of_decide_eq_true this
  · have e : (((ns.take np).zip args).map fun p => some p.2) = args.map some := by
      rw [← z2, List.map_map, z2]; rfl
    rw [e] at S
    exact (hb ⟨prog, w, A, env, s, fun _ _ => False⟩ mg mb g h₁ L rfl ⟨hh, hd, hu, G, Fe, PassesOwn.never⟩ hk' hL S).run tk _ fun f h' tk' p => ⟨h', tk', rfl, p.fin, p.post⟩
theorem tr_spec {c : Cx} {L : Addr} {sn : List (Str × NameKind)} {mg mb : Str → Option Value} {g h : Heap} {D U D' U' : Nat} {ns : List Str} {vs : List (Option Value)} {led own : List (Addr × Obj)} {r : Heap} {fa : Addr} {xs : List Value} {Post : Heap → Value → Prop} {P : Value → Heap → Prop}
    (sp : Spec c.w fa xs own D' U' h Post) (C : Fc c L sn mg mb g D U) (S : St g L ns vs led r h) (hd : D' ≤ D) (hu : U' ≤ U) (hown : ∀ p ∈ own, p ∈ led) (q : ∀ h' v, Go (own.map (·.1)) h h' → Post h' v → P v h') : TR c h (call (.ref fa) xs) P :=
  ⟨fun tk Q hQ => sp.run c.prog c.A c.s tk mg mb g _ _ C.hh (by have := C.hd; omega) (by have := C.hu; omega) C.G S.F.keep (fun p hp => ⟨(S.N p (hown p hp)).1, (S.N p (hown p hp)).2.2⟩) fun h' tk' v go post => hQ _ _ _ (q h' v go post)⟩

/-! ## _law_take -/
def SrcO (o : Obj) (B : Int) : Prop := Ex7 fun (a b c : Int) (ta tb tc : Tok) (n : Nat) => o = listOf [.int a ta, .int b tb, .int c tc].toArray n ∧ 0 ≤ a ∧ 0 ≤ b ∧ b ≤ B ∧ 0 ≤ c ∧ c < 1000003
theorem SrcO.notT {o : Obj} {B : Int} (x : SrcO o B) : ¬ IsT o := by
  obtain ⟨a, b, c, ta, tb, tc, n, rfl, _⟩ := x
  exact not_isT_list
theorem take_spec {w : World} {h : Heap} {src : Addr} {many B : Int} {tm : Tok} {o : Obj} (so : SrcO o B) (hB : B < 1000000) (hm : 0 < many) (hm2 : many ≤ 1000) :
    Spec w 264 [.ref src, .int many tm] [(src, o)] 1 3 h (fun h' v => Ex3 fun d t o' => v = .int d t ∧ 0 ≤ d ∧ d < many ∧ h'.get? src = some o' ∧ SrcO o' (B + 1)) := by
  have hnT := so.notT
  obtain ⟨a, b, c, ta, tb, tc, n, rfl, o1, o2, o3, o4, o5⟩ := so
  refine spec_xs (D := 0) (U := 0) [Str.ofString "source", Str.ofString "many", Str.ofString "digit", Str.ofString "mixed"] 2 rfl (by kernel_rfl) (fun _ _ => BindsTo.of_eq rfl) rfl (by decide +kernel) (by decide) (by decide +kernel) (by decide +kernel) (by decide +kernel) (by simp) (by simpa using hnT) ?_
  intro cx mg mb g h₁ L hw C hk hL S
  dsimp only at C
  have S0 : St g L _ [some (.ref src), some (.int many tm), none, none] _ h h₁ := S
  clear S
  refine' xs_if ?t ?a ?b
  case t => exact pt_ge (pi_item (pv_loc C S0 (by (repeat' (first | exact Kd.head | apply Kd.tail))) (by (repeat' (first | exact Loc.head | apply Loc.tail)))) pi_const (S0.N _ (.head _)).1 (by decide) (by decide) rfl fun _ => by with_unfolding_all rfl) (pi_pow pi_const pi_const (by decide) (by decide)) (by with_unfolding_all rfl)
  case a =>
    intro hc
    refine xs_assign_i C S0 (pi_mod (pi_item (pv_loc C S0 (by (repeat' (first | exact Kd.head | apply Kd.tail))) (by (repeat' (first | exact Loc.head | apply Loc.tail)))) pi_const (S0.N _ (.head _)).1 (by decide) (by decide) rfl fun _ => by with_unfolding_all rfl) (pi_loc C S0 (by (repeat' (first | exact Kd.head | apply Kd.tail))) (by (repeat' (first | exact Loc.head | apply Loc.tail)))) (by omega)) (by (repeat' (first | exact Kd.head | apply Kd.tail))) (fun t => by (repeat' (first | exact SetL.head | apply SetL.tail))) rfl (fun t h S => ?_)
    refine xs_setitem (P := fun v => ∃ t, v = .int (a.fdiv many) t) (pi_div (pi_item (pv_loc C S (by (repeat' (first | exact Kd.head | apply Kd.tail))) (by (repeat' (first | exact Loc.head | apply Loc.tail)))) pi_const (S.N _ (.head _)).1 (by decide) (by decide) rfl fun _ => by with_unfolding_all rfl) (pi_loc C S (by (repeat' (first | exact Kd.head | apply Kd.tail))) (by (repeat' (first | exact Loc.head | apply Loc.tail)))) (by omega) (by omega)) (by (exact pv_loc (by assumption) (by assumption) (by (repeat' (first | exact Kd.head | apply Kd.tail))) (by (repeat' (first | exact Loc.head | apply Loc.tail))))) pi_const (fun v t pv => ?_) rfl
    obtain ⟨t2, rfl⟩ := pv
    refine tr_set S (by (repeat' (first | exact Up.head | apply Up.tail))) (by decide) (by decide) (by simp) (fun h S => ?_)
    refine xs_ret ((EV.mono (by (exact pv_loc (by assumption) (by assumption) (by (repeat' (first | exact Kd.head | apply Kd.tail))) (by (repeat' (first | exact Loc.head | apply Loc.tail)))))) ?_)
    rintro v h' ⟨rfl, rfl⟩
    refine ⟨S.fin, _, _, _, rfl, ?_, ?_, (S.N _ (.head _)).1, _, _, _, _, _, _, _, rfl, ?_, o2, by omega, o4, o5⟩
    · exact Int.fmod_nonneg_of_pos _ hm
    · exact Int.fmod_lt_of_pos _ hm
    · exact Int.fdiv_nonneg o1 (by omega)
  case b =>
    intro hc
    refine xs_nil ?_
    refine xs_setitem (P := fun v => ∃ t, v = .int (b + 1) t) (pi_add (pi_item (pv_loc C S0 (by (repeat' (first | exact Kd.head | apply Kd.tail))) (by (repeat' (first | exact Loc.head | apply Loc.tail)))) pi_const (S0.N _ (.head _)).1 (by decide) (by decide) rfl fun _ => by with_unfolding_all rfl) pi_const) (by (exact pv_loc (by assumption) (by assumption) (by (repeat' (first | exact Kd.head | apply Kd.tail))) (by (repeat' (first | exact Loc.head | apply Loc.tail))))) pi_const (fun v t pv => ?_) rfl
    obtain ⟨t2, rfl⟩ := pv
    refine tr_set S0 (by (repeat' (first | exact Up.head | apply Up.tail))) (by decide) (by decide) (by simp) (fun h S => ?_)
    have hb := PySem.intBits_le_64 (k := c + 8011 * (b + 1) + 40009) (by omega) (by omega)
    refine xs_assign_i C S (i := ((c + 8011 * (b + 1) + 40009) ^ 5).fmod 2147483647) (pi_mod (pi_pow (b := 5) (pi_add (pi_add (pi_item (pv_loc C S (by (repeat' (first | exact Kd.head | apply Kd.tail))) (by (repeat' (first | exact Loc.head | apply Loc.tail)))) pi_const (S.N _ (.head _)).1 (by decide) (by decide) rfl fun _ => by with_unfolding_all rfl) (pi_mul pi_const (pi_item (pv_loc C S (by (repeat' (first | exact Kd.head | apply Kd.tail))) (by (repeat' (first | exact Loc.head | apply Loc.tail)))) pi_const (S.N _ (.head _)).1 (by decide) (by decide) rfl fun _ => by with_unfolding_all rfl) (PySem.IntMulOk.of_left (by decide)))) pi_const) pi_const (by decide) (by omega)) pi_const (by decide)) (by (repeat' (first | exact Kd.head | apply Kd.tail))) (fun t => by (repeat' (first | exact SetL.head | apply SetL.tail))) rfl (fun t h S => ?_)
    have mx1 := Int.fmod_nonneg_of_pos ((c + 8011 * (b + 1) + 40009) ^ 5) (b := 2147483647) (by decide)
    have mx2 := Int.fmod_lt_of_pos ((c + 8011 * (b + 1) + 40009) ^ 5) (b := 2147483647) (by decide)
    generalize ((c + 8011 * (b + 1) + 40009) ^ 5).fmod 2147483647 = mi at mx1 mx2 S
    refine xs_ret (EV.mono (P := fun v h' => (∃ t, v = .int ((((mi * mi).fmod 2147483563).fdiv 16).fmod many) t) ∧ h' = h) (pi_mod (pi_div (pi_mod (pi_mul (pi_loc C S (by (repeat' (first | exact Kd.head | apply Kd.tail))) (by (repeat' (first | exact Loc.head | apply Loc.tail)))) (pi_loc C S (by (repeat' (first | exact Kd.head | apply Kd.tail))) (by (repeat' (first | exact Loc.head | apply Loc.tail)))) (PySem.IntMulOk.of_left (PySem.intBits_le_64 (by omega) (by omega)))) pi_const (by decide)) pi_const (by decide) (by decide)) (pi_loc C S (by (repeat' (first | exact Kd.head | apply Kd.tail))) (by (repeat' (first | exact Loc.head | apply Loc.tail)))) (by omega)) ?_)
    rintro v h' ⟨⟨t, rfl⟩, rfl⟩
    exact ⟨S.fin, _, _, _, rfl, Int.fmod_nonneg_of_pos _ hm, Int.fmod_lt_of_pos _ hm, (S.N _ (.head _)).1, _, _, _, _, _, _, _, rfl, o1, by omega, by omega, o4, o5⟩

/-! ## tokens: tuples of two ints -/
def TokAt (h : Heap) (v : Value) (t : Int × Int) : Prop := Ex3 fun a t1 t2 => v = .ref a ∧ IsTup h a [Value.int t.1 t1, .int t.2 t2].toArray
inductive Toks (h : Heap) : List Value → List (Int × Int) → Prop
  | nil : Toks h [] []
  | cons {v vs t ts} : TokAt h v t → Toks h vs ts → Toks h (v :: vs) (t :: ts)
theorem IsTup.mono {r h : Heap} {a : Addr} {xs : Array Value} (x : IsTup r a xs) (k : TupK r h) : IsTup h a xs := by
  obtain ⟨o, e, hc, n, hd⟩ := x
  exact ⟨o, k a o e ⟨hc, xs, n, hd⟩, hc, n, hd⟩
theorem TokAt.mono {r h : Heap} {v t} (x : TokAt r v t) (k : TupK r h) : TokAt h v t := by
  obtain ⟨a, t1, t2, e, q⟩ := x
  exact ⟨a, t1, t2, e, Mine.IsTup.mono q k⟩
theorem Toks.mono {r h : Heap} {vs ts} (x : Toks r vs ts) (k : TupK r h) : Toks h vs ts := by
  induction x with
  | nil => exact .nil
  | cons a _ ih => exact .cons (a.mono k) ih
theorem Toks.length {h : Heap} {vs ts} (x : Toks h vs ts) : vs.length = ts.length := by
  induction x with
  | nil => rfl
  | cons _ _ ih => simp [ih]
theorem Toks.append {h : Heap} {vs ts ws us} (x : Toks h vs ts) (y : Toks h ws us) : Toks h (vs ++ ws) (ts ++ us) := by
  induction x with
  | nil => exact y
  | cons a _ ih => exact .cons a ih
theorem Toks.get {h : Heap} {vs ts} (x : Toks h vs ts) {i : Nat} {t : Int × Int} (hi : ts[i]? = some t) : ∃ v, vs[i]? = some v ∧ TokAt h v t := by
  induction x generalizing i with
  | nil => simp at hi
  | @cons v vs t' ts a _ ih =>
    cases i with
    | zero => simp at hi; subst hi; exact ⟨v, rfl, a⟩
    | succ i => simpa using ih (by simpa using hi)
theorem Toks.drop {h : Heap} {vs ts} (x : Toks h vs ts) (n : Nat) : Toks h (vs.drop n) (ts.drop n) := by
  induction n generalizing vs ts with
  | zero => simpa using x
  | succ n ih =>
    cases x with
    | nil => simpa using Toks.nil
    | cons a q => simpa using ih q
theorem Toks.take {h : Heap} {vs ts} (x : Toks h vs ts) (n : Nat) : Toks h (vs.take n) (ts.take n) := by
  induction n generalizing vs ts with
  | zero => simpa using Toks.nil
  | succ n ih =>
    cases x with
    | nil => simpa using Toks.nil
    | cons a q => simpa using Toks.cons a (ih q)
def leastL : List Int := [0, 0, 0, 0, 0, 1, 0, 0, 0, 1, 0, 0, 0, 0, 0, 0]
def greatL : List Int := [1048575, 255, 255, 255, 255, 9, 255, 255, 255, 9, 255, 255, 255, 255, 255, 0]
def tokV (t : Int × Int) : Bool := decide (0 ≤ t.1) && decide (t.1 < 16) && decide (leastL.getD t.1.toNat 0 ≤ t.2) && decide (t.2 ≤ greatL.getD t.1.toNat 0)

/-! ## displays -/
section
variable {c : Cx} {L : Addr} {sn : List (Str × NameKind)} {mg mb : Str → Option Value} {g h h' : Heap} {D U : Nat} {ns : List Str} {vs vs' : List (Option Value)} {led led' : List (Addr × Obj)} {r : Heap} {x : Str} {pos p' : Pos} {v : Value}
  {P P' : Value → Heap → Prop} {R : Flow → Heap → Prop} {e l r' : Expr} {a b i j : Int} {k : Nat}
theorem ea_nil {P : List Value → Heap → Prop} (q : P [] h) : EA c h [] P := fun pos => ⟨fun tk Q hQ => spliced_none (hQ _ _ _ q)⟩
abbrev PreP (P : List Value → Heap → Prop) (v : Value) : List Value → Heap → Prop := fun vs h => P (v :: vs) h
abbrev ConsQ (c : Cx) (es : List Expr) (P : List Value → Heap → Prop) : Value → Heap → Prop := fun v h₁ => EA c h₁ es (PreP P v)
theorem ea_cons {es : List Expr} {P : List Value → Heap → Prop} (q : EV c h e (ConsQ c es P)) (he : starEach (e :: es) c.env = (false, eval e c.env) :: starEach es c.env) : EA c h (e :: es) P :=
  fun pos => ⟨fun tk Q hQ => spliced_more (he := he) (q.run tk _ fun v h₁ tk' p => (p pos).run tk' _ fun vs h₂ tk'' p' => hQ _ _ _ p')⟩
inductive TupQ (P : Value → Heap → Prop) (xs : List Value) (h₁ : Heap) : Prop
  | mk (g' : Heap) (L' : Addr) (ns' : List Str) (vs' : List (Option Value)) (led' : List (Addr × Obj)) (r' : Heap) : St g' L' ns' vs' led' r' h₁ → xs.length ≤ sizeLine → (∀ a h₂, h₁.get? a = none → IsTup h₂ a xs.toArray → St g' L' ns' vs' led' r' h₂ → St g' L' ns' vs' led' h₁ h₂ → P (.ref a) h₂) → TupQ P xs h₁
inductive ListQ (P : Value → Heap → Prop) (xs : List Value) (h₁ : Heap) : Prop
  | mk (g' : Heap) (L' : Addr) (ns' : List Str) (vs' : List (Option Value)) (led' : List (Addr × Obj)) (r' : Heap) : St g' L' ns' vs' led' r' h₁ → xs.length ≤ sizeLine → (∀ a h₂, h₁.get? a = none → St g' L' ns' vs' ((a, listOf xs.toArray 0) :: led') r' h₂ → St g' L' ns' vs' ((a, listOf xs.toArray 0) :: led') h₁ h₂ → P (.ref a) h₂) → ListQ P xs h₁
structure CallQ (c : Cx) (g : Heap) (fa : Addr) (P : Value → Heap → Prop) (xs : List Value) (h₁ : Heap) : Prop where
  keep : g.StaysIn h₁
  tr : TR c h₁ (call (.ref fa) xs) P
theorem ev_tuple {es : List Expr} {k : Nat} (q : EA c h es (TupQ P)) : EV c h (.Tuple es k pos) P :=
  ⟨fun tk Q hQ => PyProof.Rows.Tuple_ ((q pos).run tk _ fun xs h₁ tk' p => by
    obtain ⟨g', L', ns', vs', led', r', S, hz, q⟩ := p
    exact n_tup S.re hz fun a h₂ tk'' n t S' => hQ _ _ _ (q a h₂ n t (S.then S' fun _ h => h) S'))⟩
theorem ev_list {es : List Expr} (q : EA c h es (ListQ P)) : EV c h (.List es pos) P :=
  ⟨fun tk Q hQ => PyProof.Rows.List_ ((q pos).run tk _ fun xs h₁ tk' p => by
    obtain ⟨g', L', ns', vs', led', r', S, hz, q⟩ := p
    exact n_list S.re hz fun a h₂ tk'' n S' => hQ _ _ _ (q a h₂ n (S.then S' fun _ h => List.mem_cons_of_mem _ h) S'))⟩
/-- (i, j) -/
theorem ev_pair {e1 e2 : Expr} {k : Nat} (S : St g L ns vs led r h) (h1 : PI c h e1 i) (h2 : PI c h e2 j) (hs1 : ∀ es, starEach (e1 :: es) c.env = (false, eval e1 c.env) :: starEach es c.env) (hs2 : ∀ es, starEach (e2 :: es) c.env = (false, eval e2 c.env) :: starEach es c.env) :
    EV c h (.Tuple [e1, e2] k pos) fun v h' => TokAt h' v (i, j) ∧ St g L ns vs led r h' ∧ St g L ns vs led h h' :=
  ev_tuple (ea_cons (h1.mono fun v h₁ p => by
    obtain ⟨⟨t1, rfl⟩, rfl⟩ := p
    exact ea_cons (h2.mono fun v h₁ p => by
      obtain ⟨⟨t2, rfl⟩, rfl⟩ := p
      exact ea_nil ⟨g, L, ns, vs, led, r, S, by simp [sizeLine], fun a h₂ n t S' S'' => ⟨⟨a, t1, t2, rfl, t⟩, S', S''⟩⟩) (hs2 _)) (hs1 _))
/-- a display of written tokens -/
def intOf? : Expr → Option Int
  | .Constant (.int a) _ _ => some a
  | _ => none
def pairOf? : List Expr → Option (Int × Int)
  | [a, b] => (intOf? a).bind fun i => (intOf? b).map fun j => (i, j)
  | _ => none
def tokOf? : Expr → Option (Int × Int)
  | .Tuple es _ _ => pairOf? es
  | _ => none
def toksOf? : List Expr → Option (List (Int × Int))
  | [] => some []
  | e :: es => match tokOf? e, toksOf? es with
    | some t, some ts => some (t :: ts)
    | _, _ => none
theorem intOf_spec {e : Expr} {i : Int} (q : intOf? e = some i) : Ex2 fun k p => e = .Constant (.int i) k p := by
  unfold intOf? at q
  split at q
  · cases q; exact ⟨_, _, rfl⟩
  · cases q
theorem tokOf_spec {t : Int × Int} (q : tokOf? e = some t) : Ex6 fun k p k1 p1 k2 p2 => e = .Tuple [.Constant (.int t.1) k1 p1, .Constant (.int t.2) k2 p2] k p := by
  unfold tokOf? at q
  split at q
  · unfold pairOf? at q
    split at q
    · rename_i a b
      cases h1 : intOf? a with
      | none => rw [h1] at q; cases q
      | some i =>
        cases h2 : intOf? b with
        | none => rw [h1, h2] at q; cases q
        | some j =>
          rw [h1, h2] at q
          cases q
          obtain ⟨k1, p1, rfl⟩ := intOf_spec h1
          obtain ⟨k2, p2, rfl⟩ := intOf_spec h2
          exact ⟨_, _, _, _, _, _, rfl⟩
    · cases q
  · cases q
theorem ev_tokC {t : Int × Int} (q : tokOf? e = some t) (S : St g L ns vs led r h) : EV c h e fun v h' => TokAt h' v t ∧ St g L ns vs led r h' ∧ St g L ns vs led h h' := by
  obtain ⟨k, p, k1, p1, k2, p2, rfl⟩ := tokOf_spec q
  exact ev_pair S pi_const pi_const (fun _ => rfl) fun _ => rfl
theorem starEach_tok {t : Int × Int} {es : List Expr} {env : Env} (q : tokOf? e = some t) : starEach (e :: es) env = (false, eval e env) :: starEach es env := by
  obtain ⟨k, p, k1, p1, k2, p2, rfl⟩ := tokOf_spec q
  rfl
theorem ea_toks : ∀ {es : List Expr} {ts : List (Int × Int)} {h r : Heap}, toksOf? es = some ts → St g L ns vs led r h → EA c h es fun xs h' => Toks h' xs ts ∧ St g L ns vs led r h' ∧ St g L ns vs led h h'
  | [], _, _, _, q, S => by cases q; exact ea_nil ⟨.nil, S, S.re⟩
  | e :: es, ts, h, r, q, S => by
    unfold toksOf? at q
    split at q
    · rename_i t ts' h1 h2
      cases q
      refine ea_cons ((ev_tokC h1 S).mono fun v h₁ p => ?_) (starEach_tok h1)
      obtain ⟨pt, S1, S2⟩ := p
      refine fun pos => ⟨fun tk Q hQ => ?_⟩
      refine (ea_toks h2 S1 pos).run tk _ fun xs h₂ tk' p => hQ _ _ _ ?_
      obtain ⟨pts, S3, S4⟩ := p
      exact ⟨.cons (pt.mono S4.go.T) pts, S3, S2.then S4 fun _ h => h⟩
    · cases q
theorem ev_toks {es : List Expr} {ts : List (Int × Int)} (q : toksOf? es = some ts) (S : St g L ns vs led r h) (hz : ts.length ≤ sizeLine) :
    EV c h (.List es pos) fun v h' => Ex2 fun a xs => v = .ref a ∧ h.get? a = none ∧ Toks h' xs ts ∧ St g L ns vs ((a, listOf xs.toArray 0) :: led) r h' ∧ St g L ns vs ((a, listOf xs.toArray 0) :: led) h h' :=
  ev_list fun pos => ⟨fun tk Q hQ => (ea_toks q S pos).run tk _ fun xs h₁ tk' p => hQ _ _ _ (by
    obtain ⟨pts, S1, S2⟩ := p
    exact ⟨g, L, ns, vs, led, r, S1, by rw [pts.length]; exact hz, fun a h₂ n S3 S4 => ⟨a, xs, rfl, S2.go.D _ n, pts.mono S4.go.T, S3, S2.then S4 fun _ h => List.mem_cons_of_mem _ h⟩⟩)⟩
/-! ## calls -/
def IsFn (w : World) (f : Addr) : Prop := Ex2 fun o fd => (KF w).lookup f = some o ∧ o.data = .func fd
theorem ev_call {f : Str} {fp : Pos} {fa : Addr} {e0 : Expr} {es : List Expr} (hf : PV c h (.Name f fp) (.ref fa)) (hfn : IsFn c.w fa) (C : Fc c L sn mg mb g D U) (S : St g L ns vs led r h) (q : EA c h (e0 :: es) (CallQ c g fa P))
    (he : starEach (e0 :: es) c.env = (false, eval e0 c.env) :: starEach es c.env) : EV c h (.Call (.Name f fp) (e0 :: es) [] pos) P := by
  obtain ⟨o, fd, hl, hd⟩ := hfn
  refine ⟨fun tk Q hQ => ?_⟩
  refine Call_ (hf.run tk _ fun v h' tk' p => ?_) ?_
  · obtain ⟨rfl, rfl⟩ := p
    exact callWith_def_at (s := mk c.s h' tk') (S.F.keep _ _ (C.G.X _ _ hl)) hd ((q pos).run tk' _ fun xs h₁ tk'' p => ⟨p.1 _ _ (C.G.X _ _ hl), p.2.run tk'' _ hQ⟩) he
  · rfl
end

/-! ## the names of the top -/
theorem gl_is_whole (w : World) : nsIn (KF w) mainGlobals (Str.ofString "is_whole") = some (some (.ref 97)) := by kernel_rfl
theorem gl_is_token (w : World) : nsIn (KF w) mainGlobals (Str.ofString "is_token") = some (some (.ref 118)) := by kernel_rfl
theorem gl_check_tokens (w : World) : nsIn (KF w) mainGlobals (Str.ofString "check_tokens") = some (some (.ref 125)) := by kernel_rfl
theorem gl_token_wanted (w : World) : nsIn (KF w) mainGlobals (Str.ofString "token_wanted") = some (some (.ref 225)) := by kernel_rfl
theorem gl_read_parameters (w : World) : nsIn (KF w) mainGlobals (Str.ofString "read_parameters") = some (some (.ref 232)) := by kernel_rfl
theorem gl_parameter_mark (w : World) : nsIn (KF w) mainGlobals (Str.ofString "parameter_mark") = some (some (.ref 239)) := by kernel_rfl
theorem gl_read_body (w : World) : nsIn (KF w) mainGlobals (Str.ofString "read_body") = some (some (.ref 246)) := by kernel_rfl
theorem gl_definition (w : World) : nsIn (KF w) mainGlobals (Str.ofString "definition") = some (some (.ref 252)) := by kernel_rfl
theorem gl_law_cell (w : World) : nsIn (KF w) mainGlobals (Str.ofString "_law_cell") = some (some (.ref 257)) := by kernel_rfl
theorem gl_law_take (w : World) : nsIn (KF w) mainGlobals (Str.ofString "_law_take") = some (some (.ref 264)) := by kernel_rfl
theorem gl_law_any (w : World) : nsIn (KF w) mainGlobals (Str.ofString "_law_any") = some (some (.ref 271)) := by kernel_rfl
theorem gl_law_plain (w : World) : nsIn (KF w) mainGlobals (Str.ofString "_law_plain") = some (some (.ref 278)) := by kernel_rfl
theorem gl_law_mark (w : World) : nsIn (KF w) mainGlobals (Str.ofString "_law_mark") = some (some (.ref 285)) := by kernel_rfl
theorem gl_law_piece (w : World) : nsIn (KF w) mainGlobals (Str.ofString "_law_piece") = some (some (.ref 292)) := by kernel_rfl
theorem gl_law_written (w : World) : nsIn (KF w) mainGlobals (Str.ofString "_law_written") = some (some (.ref 299)) := by kernel_rfl
theorem gl_law_spoilt (w : World) : nsIn (KF w) mainGlobals (Str.ofString "_law_spoilt") = some (some (.ref 306)) := by kernel_rfl
theorem gl_law_row (w : World) : nsIn (KF w) mainGlobals (Str.ofString "_law_row") = some (some (.ref 311)) := by kernel_rfl
theorem gl_law_run (w : World) : nsIn (KF w) mainGlobals (Str.ofString "_law_run") = some (some (.ref 318)) := by kernel_rfl
theorem gl_law_wrong (w : World) : nsIn (KF w) mainGlobals (Str.ofString "_law_wrong") = some (some (.ref 323)) := by kernel_rfl
theorem gl_law_judged (w : World) : nsIn (KF w) mainGlobals (Str.ofString "_law_judged") = some (some (.ref 328)) := by kernel_rfl
theorem gl_law_stretch (w : World) : nsIn (KF w) mainGlobals (Str.ofString "_law_stretch") = some (some (.ref 335)) := by kernel_rfl
theorem gl_law_macro (w : World) : nsIn (KF w) mainGlobals (Str.ofString "_law_macro") = some (some (.ref 340)) := by kernel_rfl
theorem gl_law_told (w : World) : nsIn (KF w) mainGlobals (Str.ofString "_law_told") = some (some (.ref 347)) := by kernel_rfl
theorem gl_law_row_right (w : World) : nsIn (KF w) mainGlobals (Str.ofString "_law_row_right") = some (some (.ref 354)) := by kernel_rfl
theorem gl_BadArgument (w : World) : nsIn (KF w) mainGlobals (Str.ofString "BadArgument") = some (some (.ref 52)) := by kernel_rfl
theorem gl_Runaway (w : World) : nsIn (KF w) mainGlobals (Str.ofString "Runaway") = some (some (.ref 64)) := by kernel_rfl
theorem gl_OuterRefused (w : World) : nsIn (KF w) mainGlobals (Str.ofString "OuterRefused") = some (some (.ref 76)) := by kernel_rfl
theorem gl_BadDefinition (w : World) : nsIn (KF w) mainGlobals (Str.ofString "BadDefinition") = some (some (.ref 88)) := by kernel_rfl
theorem gl_TokenFeed (w : World) : nsIn (KF w) mainGlobals (Str.ofString "TokenFeed") = some (some (.ref 179)) := by kernel_rfl
theorem gl_Macro (w : World) : nsIn (KF w) mainGlobals (Str.ofString "Macro") = some (some (.ref 214)) := by kernel_rfl
theorem gl_LEAST_CODES (w : World) : nsIn (KF w) mainGlobals (Str.ofString "LEAST_CODES") = some (some (.ref 110)) := by kernel_rfl
theorem gl_GREATEST_CODES (w : World) : nsIn (KF w) mainGlobals (Str.ofString "GREATEST_CODES") = some (some (.ref 111)) := by kernel_rfl
theorem gl_MARKS (w : World) : nsIn (KF w) mainGlobals (Str.ofString "MARKS") = some (some (.ref 184)) := by kernel_rfl
theorem gl_BEGIN (w : World) : nsIn (KF w) mainGlobals (Str.ofString "BEGIN") = some (some (.int 1 302)) := by kernel_rfl
theorem gl_END (w : World) : nsIn (KF w) mainGlobals (Str.ofString "END") = some (some (.int 2 303)) := by kernel_rfl
theorem gl_PARAMETER (w : World) : nsIn (KF w) mainGlobals (Str.ofString "PARAMETER") = some (some (.int 6 307)) := by kernel_rfl
theorem gl_OTHER (w : World) : nsIn (KF w) mainGlobals (Str.ofString "OTHER") = some (some (.int 12 321)) := by kernel_rfl
theorem gl_OUT (w : World) : nsIn (KF w) mainGlobals (Str.ofString "OUT") = some (some (.int 5 334)) := by kernel_rfl
theorem gl_MATCH (w : World) : nsIn (KF w) mainGlobals (Str.ofString "MATCH") = some (some (.int 9 335)) := by kernel_rfl
theorem gl_MOST_PARAMETERS (w : World) : nsIn (KF w) mainGlobals (Str.ofString "MOST_PARAMETERS") = some (some (.int 9 468)) := by kernel_rfl
theorem gl_DIGIT_NOUGHT (w : World) : nsIn (KF w) mainGlobals (Str.ofString "DIGIT_NOUGHT") = some (some (.int 48 470)) := by kernel_rfl
theorem gl_len (w : World) : nsIn (KF w) mainGlobals (Str.ofString "len") = some none := by kernel_rfl
theorem gl_range (w : World) : nsIn (KF w) mainGlobals (Str.ofString "range") = some none := by kernel_rfl
theorem gl_sum (w : World) : nsIn (KF w) mainGlobals (Str.ofString "sum") = some none := by kernel_rfl
theorem gl_abs (w : World) : nsIn (KF w) mainGlobals (Str.ofString "abs") = some none := by kernel_rfl
theorem gl_int (w : World) : nsIn (KF w) mainGlobals (Str.ofString "int") = some none := by kernel_rfl
theorem gl_max (w : World) : nsIn (KF w) mainGlobals (Str.ofString "max") = some none := by kernel_rfl
theorem gl_min (w : World) : nsIn (KF w) mainGlobals (Str.ofString "min") = some none := by kernel_rfl
theorem gl_isinstance (w : World) : nsIn (KF w) mainGlobals (Str.ofString "isinstance") = some none := by kernel_rfl
theorem gl_bool (w : World) : nsIn (KF w) mainGlobals (Str.ofString "bool") = some none := by kernel_rfl
theorem gl_tuple (w : World) : nsIn (KF w) mainGlobals (Str.ofString "tuple") = some none := by kernel_rfl
theorem gl_list (w : World) : nsIn (KF w) mainGlobals (Str.ofString "list") = some none := by kernel_rfl
theorem fn_is_whole (w : World) : IsFn w 97 := ⟨_, _, rfl, rfl⟩
theorem fn_is_token (w : World) : IsFn w 118 := ⟨_, _, rfl, rfl⟩
theorem fn_check_tokens (w : World) : IsFn w 125 := ⟨_, _, rfl, rfl⟩
theorem fn_token_wanted (w : World) : IsFn w 225 := ⟨_, _, rfl, rfl⟩
theorem fn_read_parameters (w : World) : IsFn w 232 := ⟨_, _, rfl, rfl⟩
theorem fn_parameter_mark (w : World) : IsFn w 239 := ⟨_, _, rfl, rfl⟩
theorem fn_read_body (w : World) : IsFn w 246 := ⟨_, _, rfl, rfl⟩
theorem fn_definition (w : World) : IsFn w 252 := ⟨_, _, rfl, rfl⟩
theorem fn_law_cell (w : World) : IsFn w 257 := ⟨_, _, rfl, rfl⟩
theorem fn_law_take (w : World) : IsFn w 264 := ⟨_, _, rfl, rfl⟩
theorem fn_law_any (w : World) : IsFn w 271 := ⟨_, _, rfl, rfl⟩
theorem fn_law_plain (w : World) : IsFn w 278 := ⟨_, _, rfl, rfl⟩
theorem fn_law_mark (w : World) : IsFn w 285 := ⟨_, _, rfl, rfl⟩
theorem fn_law_piece (w : World) : IsFn w 292 := ⟨_, _, rfl, rfl⟩
theorem fn_law_written (w : World) : IsFn w 299 := ⟨_, _, rfl, rfl⟩
theorem fn_law_spoilt (w : World) : IsFn w 306 := ⟨_, _, rfl, rfl⟩
theorem fn_law_row (w : World) : IsFn w 311 := ⟨_, _, rfl, rfl⟩
theorem fn_law_run (w : World) : IsFn w 318 := ⟨_, _, rfl, rfl⟩
theorem fn_law_wrong (w : World) : IsFn w 323 := ⟨_, _, rfl, rfl⟩
theorem fn_law_judged (w : World) : IsFn w 328 := ⟨_, _, rfl, rfl⟩
theorem fn_law_stretch (w : World) : IsFn w 335 := ⟨_, _, rfl, rfl⟩
theorem fn_law_macro (w : World) : IsFn w 340 := ⟨_, _, rfl, rfl⟩
theorem fn_law_told (w : World) : IsFn w 347 := ⟨_, _, rfl, rfl⟩
theorem fn_law_row_right (w : World) : IsFn w 354 := ⟨_, _, rfl, rfl⟩

/-! ## draws: the source's object in the ledger's slot F -/
structure DS (src : Addr) (g : Heap) (L : Addr) (ns : List Str) (vs : List (Option Value)) (F : Obj → List (Addr × Obj)) (B : Int) (r h : Heap) : Prop where
  ex : ∃ o, SrcO o B ∧ St g L ns vs (F o) r h
  up : ∀ o, Up (F o) src o F
section
variable {c : Cx} {src L : Addr} {sn : List (Str × NameKind)} {mg mb : Str → Option Value} {g h h' : Heap} {D U : Nat} {ns : List Str} {vs vs' : List (Option Value)} {led led' : List (Addr × Obj)} {r : Heap} {x : Str} {pos p' fp : Pos} {v : Value}
  {P P' : Value → Heap → Prop} {R : Flow → Heap → Prop} {e l r' : Expr} {a b i j : Int} {k : Nat} {F : Obj → List (Addr × Obj)} {B B' : Int}
theorem SrcO.mono {o : Obj} (x : SrcO o B) (hB : B ≤ B') : SrcO o B' := by
  obtain ⟨a, b, c, ta, tb, tc, n, e, h1, h2, h3, h4⟩ := x
  exact ⟨a, b, c, ta, tb, tc, n, e, h1, h2, by omega, h4⟩
theorem DS.mono (S : DS src g L ns vs F B r h) (hB : B ≤ B') : DS src g L ns vs F B' r h := by
  obtain ⟨⟨o, so, S⟩, up⟩ := S
  exact ⟨⟨o, so.mono hB, S⟩, up⟩
theorem DS.re (S : DS src g L ns vs F B r h) : DS src g L ns vs F B h h := by
  obtain ⟨⟨o, so, S⟩, up⟩ := S
  exact ⟨⟨o, so, S.re⟩, up⟩
theorem Up.keysF {o o' : Obj} (U : Up (F o) src o F) : (F o').map (·.1) = (F o).map (·.1) := U.keys o'
theorem DS.then {h₁ : Heap} {F' : Obj → List (Addr × Obj)} (S : DS src g L ns vs F B r h) (S' : DS src g L ns vs' F' B' h h₁) (s : ∀ o a, a ∈ (F o).map (·.1) → a ∈ (F' o).map (·.1)) : DS src g L ns vs' F' B' r h₁ := by
  obtain ⟨⟨o, so, S⟩, up⟩ := S
  obtain ⟨⟨o', so', S'⟩, up'⟩ := S'
  exact ⟨⟨o', so', S.then S' fun a ha => by rw [← (up o).keys o'] at ha; exact s o' a ha⟩, up'⟩
theorem DS.dom (S : DS src g L ns vs F B r h) : ∀ b, h.get? b = none → r.get? b = none := by
  obtain ⟨⟨o, so, S⟩, up⟩ := S
  exact S.go.D
theorem DS.tup (S : DS src g L ns vs F B r h) : TupK r h := by
  obtain ⟨⟨o, so, S⟩, up⟩ := S
  exact S.go.T
theorem DS.dropHead {a : Addr} {x : Obj} (S : DS src g L ns vs (fun o => (a, x) :: F o) B r h) (n : r.get? a = none) (up : ∀ o, Up (F o) src o F) : DS src g L ns vs F B r h := by
  obtain ⟨⟨o, so, S⟩, _⟩ := S
  exact ⟨⟨o, so, S.dropHead n⟩, up⟩
/-- _law_take(e1, e2) -/
theorem ev_take {e1 e2 : Expr} (C : Fc c L sn mg mb g D U) (hD : 1 ≤ D) (hU : 3 ≤ U) (S : DS src g L ns vs F B r h) (k : Kd sn (Str.ofString "_law_take") .globalImplicit) (h1 : PV c h e1 (.ref src)) (h2 : PI c h e2 i) (hB : B < 1000000) (hi : 0 < i) (hi2 : i ≤ 1000)
    (he1 : ∀ es, starEach (e1 :: es) c.env = (false, eval e1 c.env) :: starEach es c.env) (he2 : ∀ es, starEach (e2 :: es) c.env = (false, eval e2 c.env) :: starEach es c.env) :
    EV c h (.Call (.Name (Str.ofString "_law_take") fp) [e1, e2] [] pos) fun v h' => (Ex2 fun d t => v = .int d t ∧ 0 ≤ d ∧ d < i) ∧ DS src g L ns vs F (B + 1) r h' ∧ DS src g L ns vs F (B + 1) h h' := by
  obtain ⟨⟨o, so, S⟩, up⟩ := S
  refine ev_call (pv_glob C S k (gl_law_take _)) (fn_law_take _) C S (ea_cons (h1.mono ?_) (he1 _)) (he1 _)
  rintro v h₁ ⟨rfl, rfl⟩
  refine ea_cons (h2.mono ?_) (he2 _)
  rintro v h₁ ⟨⟨t, rfl⟩, rfl⟩
  refine ea_nil ⟨S.F.keep, tr_spec (take_spec so hB hi hi2) C S hD hU (by simpa using (up o).mem) fun h' v go post => ?_⟩
  obtain ⟨d, t', o', rfl, d0, d1, e', so'⟩ := post
  exact ⟨⟨d, t', rfl, d0, d1⟩, ⟨⟨o', so', S.after1 (up o) go e' so'.notT⟩, up⟩, ⟨o', so', S.re.after1 (up o) go e' so'.notT⟩, up⟩
abbrev SubR (c : Cx) (value slice : Expr) (P : Value → Heap → Prop) (o : Value) : Value → Heap → Prop := fun i h₂ => TR c h₂ (subscriptTail value slice o i) P
abbrev SubQ (c : Cx) (value slice : Expr) (P : Value → Heap → Prop) : Value → Heap → Prop := fun o h₁ => EV c h₁ slice (SubR c value slice P o)
theorem ev_subG {value slice : Expr} (hv : EV c h value (SubQ c value slice P)) : EV c h (.Subscript value slice pos) P :=
  ⟨fun tk Q hQ => e_sub (hv.run tk _ fun v h' tk' p => p.run tk' _ fun v h' tk' p => p.run tk' _ hQ)⟩
abbrev BinR (c : Cx) (op : Operator) (P : Value → Heap → Prop) (a : Value) : Value → Heap → Prop := fun b h₂ => TR c h₂ (binaryOp op a b) P
abbrev BinQ (c : Cx) (r' : Expr) (op : Operator) (P : Value → Heap → Prop) : Value → Heap → Prop := fun a h₁ => EV c h₁ r' (BinR c op P a)
theorem ev_binG {op : Operator} (hl : EV c h l (BinQ c r' op P)) : EV c h (.BinOp l op r' pos) P :=
  ⟨fun tk Q hQ => e_bin (hl.run tk _ fun v h' tk' p => p.run tk' _ fun v h' tk' p => p.run tk' _ hQ)⟩
theorem xs_assignD {rest : List Stmt} {X : Value → Heap → Prop} {vs' : Value → List (Option Value)} (C : Fc c L sn mg mb g D U) (q : EV c h e fun v h₁ => X v h₁ ∧ DS src g L ns vs F B' r h₁) (k : Kd sn x .local) (l : ∀ v, SetL ns vs x v (vs' v))
    (hs : swapsWith e (some (.Name x p')) pos.line c.env = pure false) (hr : ∀ v h₁ h', X v h₁ → DS src g L ns (vs' v) F B' h₁ h' → DS src g L ns (vs' v) F B' r h' → XS c h' rest R) : XS c h (.Assign [.Name x p'] e pos :: rest) R :=
  xs_assign (ns := ns) (q.mono fun v h₁ p => by
    obtain ⟨px, ⟨o, so, S⟩, up⟩ := p
    exact ⟨_, _, _, _, _, S, l v, fun h' S' S'' => hr v h₁ h' px ⟨⟨o, so, S''⟩, up⟩ ⟨⟨o, so, S'⟩, up⟩⟩) C k hs
/-- what a draw of a token hands back -/
def TokPost (src : Addr) (B : Int) (h : Heap) (v : Value) : Prop := Ex2 fun o t => h.get? src = some o ∧ SrcO o B ∧ TokAt h v t ∧ tokV t = true
/-- [tokens][_law_take(source, n)] -/
theorem ev_pick {es : List Expr} {e1 e2 : Expr} {ts : List (Int × Int)} {lp : Pos} (C : Fc c L sn mg mb g D U) (hD : 1 ≤ D) (hU : 3 ≤ U) (S : DS src g L ns vs F B r h) (k : Kd sn (Str.ofString "_law_take") .globalImplicit) (q : toksOf? es = some ts) (hv : ts.all tokV = true) (hz : ts.length ≤ 100)
    (h1 : ∀ h F r, DS src g L ns vs F B r h → PV c h e1 (.ref src)) (h2 : ∀ h, PI c h e2 (ts.length : Int)) (hB : B < 1000000) (hne : 0 < ts.length)
    (he1 : ∀ es, starEach (e1 :: es) c.env = (false, eval e1 c.env) :: starEach es c.env) (he2 : ∀ es, starEach (e2 :: es) c.env = (false, eval e2 c.env) :: starEach es c.env)
    (hs : ∀ la i t, subscripted (.Call (.Name (Str.ofString "_law_take") fp) [e1, e2] [] p') false (.ref la) (.int i t) = operate [.ref la, .int i t] (getItem (.ref la) (.int i t))) :
    EV c h (.Subscript (.List es lp) (.Call (.Name (Str.ofString "_law_take") fp) [e1, e2] [] p') pos) fun v h' => (∃ t, TokAt h' v t ∧ tokV t = true) ∧ DS src g L ns vs F (B + 1) r h' ∧ DS src g L ns vs F (B + 1) h h' := by
  obtain ⟨⟨o, so, S⟩, up⟩ := S
  have hsl : sizeLine = 16777216 := sizeLine_eq
  refine ev_subG ((ev_toks q S (by omega)).mono fun v h₁ p => ?_)
  obtain ⟨a, xs, rfl, na, px, S1, S2⟩ := p
  have S1' : DS src g L ns vs (fun o => (a, listOf xs.toArray 0) :: F o) B r h₁ := ⟨⟨o, so, S1⟩, fun o => .tail (up o)⟩
  refine (ev_take C hD hU S1' k (h1 _ _ _ S1') (h2 _) hB (by omega) (by omega) he1 he2).mono fun v h₂ p => ?_
  obtain ⟨⟨d, t, rfl, d0, d1⟩, ⟨⟨o', so', S3⟩, _⟩, ⟨⟨o'', so'', S4⟩, _⟩⟩ := p
  have hx : ts[d.toNat]? = some (ts[d.toNat]'(by omega)) := List.getElem?_eq_getElem _
  obtain ⟨w, hw, tw⟩ := px.get hx
  have S5 := S1.then S4 (fun a ha => by
      have := (Up.tail (p := (a, listOf xs.toArray 0)) (up o)).keys o''
      simp only [List.map_cons, List.cons.injEq, true_and] at this
      simp only [List.map_cons, this]; exact ha)
  have S6 := S2.then S4 (fun a ha => by
      have := (up o).keys o''
      simp only [List.map_cons, this]; exact ha)
  exact ⟨fun tk Q hQ => i_list (S3.N _ (.head _)).1 d0 (by omega) hw (hQ _ _ _ ⟨⟨_, tw.mono S4.go.T, List.all_eq_true.mp hv _ (List.getElem_mem _)⟩, ⟨⟨o'', so'', S5.dropHead (S.go.D _ na)⟩, up⟩, ⟨o'', so'', S6.dropHead na⟩, up⟩) (hs _ _ _)⟩
end

theorem any_spec {w : World} {h : Heap} {src : Addr} {B : Int} {o : Obj} (so : SrcO o B) (hB : B < 1000000) : Spec w 271 [.ref src] [(src, o)] 2 6 h (TokPost src (B + 1)) := by
  refine spec_xs (D := 1) (U := 3) [Str.ofString "source"] 1 rfl (by kernel_rfl) (fun _ _ => BindsTo.of_eq rfl) rfl (by decide +kernel) (by decide) (by decide +kernel) (by decide +kernel) (by decide +kernel) (by simp) (by simpa using so.notT) ?_
  intro cx mg mb g h₁ L hw C hk hL S
  dsimp only at C
  have S0 : DS src g L _ [some (.ref src)] (fun o => [(src, o)]) B h h₁ := ⟨⟨o, so, S⟩, fun o => .head⟩
  refine xs_ret (EV.mono (ev_pick (ts := [(6, 35), (1, 123), (2, 125), (12, 49), (6, 35), (1, 40), (2, 41), (12, 50), (6, 64), (1, 123), (2, 125), (12, 51), (12, 48), (12, 57), (12, 58), (11, 49), (11, 97), (0, 3), (0, 9), (13, 126), (10, 32), (5, 1), (9, 1), (14, 2), (15, 0)]) C (by decide) (by decide) S0 (by (repeat' (first | exact Kd.head | apply Kd.tail))) (by rfl) (by decide +kernel) (by decide) (fun h F r S => ?_) (fun h => by exact pi_const) hB (by decide) (fun _ => rfl) (fun _ => rfl) (fun _ _ _ => by with_unfolding_all rfl)) ?_)
  · obtain ⟨⟨o, _, S⟩, _⟩ := S
    (exact pv_loc (by assumption) (by assumption) (by (repeat' (first | exact Kd.head | apply Kd.tail))) (by (repeat' (first | exact Loc.head | apply Loc.tail))))
  · rintro v h' ⟨⟨t, tt, tv⟩, ⟨⟨o', so', S1⟩, _⟩, _⟩
    exact ⟨S1.fin, o', t, (S1.N _ (.head _)).1, so', tt, tv⟩
theorem plain_spec {w : World} {h : Heap} {src : Addr} {B : Int} {o : Obj} (so : SrcO o B) (hB : B < 1000000) : Spec w 278 [.ref src] [(src, o)] 2 6 h (TokPost src (B + 1)) := by
  refine spec_xs (D := 1) (U := 3) [Str.ofString "source"] 1 rfl (by kernel_rfl) (fun _ _ => BindsTo.of_eq rfl) rfl (by decide +kernel) (by decide) (by decide +kernel) (by decide +kernel) (by decide +kernel) (by simp) (by simpa using so.notT) ?_
  intro cx mg mb g h₁ L hw C hk hL S
  dsimp only at C
  have S0 : DS src g L _ [some (.ref src)] (fun o => [(src, o)]) B h h₁ := ⟨⟨o, so, S⟩, fun o => .head⟩
  refine xs_ret (EV.mono (ev_pick (ts := [(11, 97), (11, 98), (0, 3), (10, 32), (12, 49), (13, 126), (14, 2), (3, 36)]) C (by decide) (by decide) S0 (by (repeat' (first | exact Kd.head | apply Kd.tail))) (by rfl) (by decide +kernel) (by decide) (fun h F r S => ?_) (fun h => by exact pi_const) hB (by decide) (fun _ => rfl) (fun _ => rfl) (fun _ _ _ => by with_unfolding_all rfl)) ?_)
  · obtain ⟨⟨o, _, S⟩, _⟩ := S
    (exact pv_loc (by assumption) (by assumption) (by (repeat' (first | exact Kd.head | apply Kd.tail))) (by (repeat' (first | exact Loc.head | apply Loc.tail))))
  · rintro v h' ⟨⟨t, tt, tv⟩, ⟨⟨o', so', S1⟩, _⟩, _⟩
    exact ⟨S1.fin, o', t, (S1.N _ (.head _)).1, so', tt, tv⟩

/-! ## _law_mark, _law_piece -/
section
variable {c : Cx} {src L : Addr} {sn : List (Str × NameKind)} {mg mb : Str → Option Value} {g h h' : Heap} {D U : Nat} {ns : List Str} {vs vs' : List (Option Value)} {led led' : List (Addr × Obj)} {r : Heap} {x : Str} {pos p' fp : Pos} {v : Value}
  {P P' : Value → Heap → Prop} {R : Flow → Heap → Prop} {e l r' : Expr} {a b i j : Int} {k : Nat} {F : Obj → List (Addr × Obj)} {B B' : Int}
theorem DS.of (so : SrcO o B) (S : St g L ns vs (F o) r h) (up : ∀ o, Up (F o) src o F) : DS src g L ns vs F B r h := ⟨⟨o, so, S⟩, up⟩
/-- a def that draws a token from the source: _law_any, _law_plain, _law_mark -/
theorem ev_drawTok {f : Str} {fa : Addr} {D' U' : Nat} {e1 : Expr} {n : Int} (C : Fc c L sn mg mb g D U) (hD : D' ≤ D) (hU : U' ≤ U) (S : DS src g L ns vs F B r h) (hf : PV c h (.Name f fp) (.ref fa)) (hfn : IsFn c.w fa)
    (sp : ∀ o, SrcO o B → Spec c.w fa [.ref src] [(src, o)] D' U' h (TokPost src (B + n))) (h1 : PV c h e1 (.ref src)) (he1 : ∀ es, starEach (e1 :: es) c.env = (false, eval e1 c.env) :: starEach es c.env) :
    EV c h (.Call (.Name f fp) [e1] [] pos) fun v h' => (∃ t, TokAt h' v t ∧ tokV t = true) ∧ DS src g L ns vs F (B + n) r h' ∧ DS src g L ns vs F (B + n) h h' := by
  obtain ⟨⟨o, so, S⟩, up⟩ := S
  refine ev_call hf hfn C S (ea_cons (h1.mono ?_) (he1 _)) (he1 _)
  rintro v h₁ ⟨rfl, rfl⟩
  refine ea_nil ⟨S.F.keep, tr_spec (sp o so) C S hD hU (by simpa using (up o).mem) fun h' v go post => ?_⟩
  obtain ⟨o', t, e', so', tt, tv⟩ := post
  exact ⟨⟨t, tt, tv⟩, ⟨⟨o', so', S.after1 (up o) go e' so'.notT⟩, up⟩, ⟨o', so', S.re.after1 (up o) go e' so'.notT⟩, up⟩
end
theorem mark_spec {w : World} {h : Heap} {src : Addr} {B : Int} {o : Obj} (so : SrcO o B) (hB : B < 1000000) : Spec w 285 [.ref src] [(src, o)] 2 6 h (TokPost src (B + 1)) := by
  refine spec_xs (D := 1) (U := 3) [Str.ofString "source"] 1 rfl (by kernel_rfl) (fun _ _ => BindsTo.of_eq rfl) rfl (by decide +kernel) (by decide) (by decide +kernel) (by decide +kernel) (by decide +kernel) (by simp) (by simpa using so.notT) ?_
  intro c mg mb g h₁ L hw C hk hL S
  dsimp only at C
  have S0 : DS src g L _ [some (.ref src)] (fun o => [(src, o)]) B h h₁ := ⟨⟨o, so, S⟩, fun o => .head⟩
  have hsl : sizeLine = 16777216 := sizeLine_eq
  refine xs_ret (ev_tuple (ea_cons (EV.mono pi_const ?_) rfl))
  rintro v h₂ ⟨⟨t6, rfl⟩, rfl⟩
  refine ea_cons (ev_subG (EV.mono (P := fun v h' => Ex3 fun a t1 t2 => v = .ref a ∧ St g L [Str.ofString "source"] [some (.ref src)] [(a, listOf [.int 35 t1, .int 64 t2].toArray 0), (src, o)] h h') (ev_list (ea_cons (EV.mono pi_const ?_) rfl)) ?_)) rfl
  · rintro v h₂ ⟨⟨t1, rfl⟩, rfl⟩
    refine ea_cons (EV.mono pi_const ?_) rfl
    rintro v h₂ ⟨⟨t2, rfl⟩, rfl⟩
    exact ea_nil ⟨_, _, _, _, _, _, S, by simp [hsl], fun a h₃ n S1 S2 => ⟨a, t1, t2, rfl, S1⟩⟩
  · rintro v h₂ ⟨a, t1, t2, rfl, S1⟩
    have S1' : DS src g L [Str.ofString "source"] [some (.ref src)] (fun o => [(a, listOf [.int 35 t1, .int 64 t2].toArray 0), (src, o)]) B h h₂ := ⟨⟨o, so, S1⟩, fun o => .tail .head⟩
    refine EV.mono (ev_take C (by decide) (by decide) S1' (by (repeat' (first | exact Kd.head | apply Kd.tail))) (by (exact pv_loc (by assumption) (by assumption) (by (repeat' (first | exact Kd.head | apply Kd.tail))) (by (repeat' (first | exact Loc.head | apply Loc.tail))))) pi_const hB (by decide) (by decide) (fun _ => rfl) fun _ => rfl) ?_
    rintro v h₃ ⟨⟨d, t, rfl, d0, d1⟩, ⟨⟨o', so', S3⟩, _⟩, _⟩
    have hx : Ex2 fun z tz => [Value.int 35 t1, .int 64 t2][d.toNat]? = some (.int z tz) ∧ tokV (6, z) = true := by
      rcases (by omega : d = 0 ∨ d = 1) with rfl | rfl
      · exact ⟨35, t1, rfl, by decide +kernel⟩
      · exact ⟨64, t2, rfl, by decide +kernel⟩
    obtain ⟨z, tz, hx, hv⟩ := hx
    refine ⟨fun tk Q hQ => i_list (S3.N _ (.head _)).1 d0 (by omega) hx (hQ _ _ _ (ea_nil ⟨_, _, _, _, _, _, S3, by simp [hsl], fun a2 h₄ n tt S4 S5 => ?_⟩)) (by with_unfolding_all rfl)⟩
    exact ⟨S4.fin, o', (6, z), (S4.N _ (.tail _ (.head _))).1, so', ⟨a2, t6, tz, rfl, tt⟩, hv⟩
/-- what a draw of a list of tokens hands back -/
def ListPost (src : Addr) (B : Int) (m : Nat) (h₀ h : Heap) (v : Value) : Prop :=
  Ex5 fun o a xs n ts => h.get? src = some o ∧ SrcO o B ∧ v = .ref a ∧ h₀.get? a = none ∧ h.get? a = some (listOf xs.toArray n) ∧ Toks h xs ts ∧ ts.all tokV = true ∧ ts.length ≤ m
section
variable {c : Cx} {src L : Addr} {sn : List (Str × NameKind)} {mg mb : Str → Option Value} {g h h' : Heap} {D U : Nat} {ns : List Str} {vs vs' : List (Option Value)} {led led' : List (Addr × Obj)} {r : Heap} {x : Str} {pos p' fp : Pos} {v : Value}
  {P P' : Value → Heap → Prop} {R : Flow → Heap → Prop} {e l r' e1 e2 : Expr} {a b i j : Int} {k : Nat} {F : Obj → List (Addr × Obj)} {B B' n n1 n2 : Int}
/-- an expression whose value is a new token, drawn by n draws -/
def ET (c : Cx) (src : Addr) (g : Heap) (L : Addr) (ns : List Str) (vs : List (Option Value)) (e : Expr) (n : Int) : Prop :=
  ∀ (F : Obj → List (Addr × Obj)) (B : Int) (r h : Heap), B + n ≤ 1000000 → DS src g L ns vs F B r h → EV c h e fun v h' => (∃ t, TokAt h' v t ∧ tokV t = true) ∧ DS src g L ns vs F (B + n) r h' ∧ DS src g L ns vs F (B + n) h h'
theorem et_tok {f : Str} {fa : Addr} {D' U' : Nat} (C : Fc c L sn mg mb g D U) (hD : D' ≤ D) (hU : U' ≤ U) (kf : Kd sn f .globalImplicit) (gl : nsIn (KF c.w) mainGlobals f = some (some (.ref fa))) (hfn : IsFn c.w fa)
    (sp : ∀ h B o, SrcO o B → B < 1000000 → Spec c.w fa [.ref src] [(src, o)] D' U' h (TokPost src (B + 1))) (k : Kd sn x .local) (l : Loc ns vs x (.ref src)) : ET c src g L ns vs (.Call (.Name f fp) [.Name x p'] [] pos) 1 := fun F B r h hB S => by
  obtain ⟨⟨o, so, S'⟩, up⟩ := id S
  exact ev_drawTok C hD hU S (pv_glob C S' kf gl) hfn (fun o so => sp h B o so (by omega)) (pv_loc C S' k l) fun _ => rfl
theorem et_const {t : Int × Int} (q : tokOf? e = some t) (hv : tokV t = true) : ET c src g L ns vs e 0 := fun F B r h hB S => by
  obtain ⟨⟨o, so, S⟩, up⟩ := S
  refine (ev_tokC q S).mono fun v h₁ p => ?_
  rw [Int.add_zero]
  exact ⟨⟨t, p.1, hv⟩, ⟨⟨o, so, p.2.1⟩, up⟩, ⟨o, so, p.2.2⟩, up⟩
/-- (12, b + take) -/
theorem et_code {kk : Nat} {p1 p2 p3 p4 p5 p6 p7 : Pos} {k1 k2 : Nat} {y : Str} {many : Int} {t : Tok} (C : Fc c L sn mg mb g D U) (hD : 1 ≤ D) (hU : 3 ≤ U) (kf : Kd sn (Str.ofString "_law_take") .globalImplicit)
    (k : Kd sn x .local) (l : Loc ns vs x (.ref src)) (ky : Kd sn y .local) (ly : Loc ns vs y (.int many t)) (hm : 0 < many) (hm2 : many ≤ 100) (hb : 0 ≤ b) (hb2 : b + many ≤ 256) :
    ET c src g L ns vs (.Tuple [.Constant (.int 12) k1 p1, .BinOp (.Constant (.int b) k2 p2) .Add (.Call (.Name (Str.ofString "_law_take") p3) [.Name x p4, .Name y p5] [] p6) p7] kk pos) 1 := fun F B r h hB S => by
  have hsl : sizeLine = 16777216 := sizeLine_eq
  refine ev_tuple (ea_cons (EV.mono pi_const ?_) rfl)
  rintro v h₁ ⟨⟨t1, rfl⟩, rfl⟩
  refine ea_cons (ev_binG (EV.mono pi_const ?_)) rfl
  rintro v h₁ ⟨⟨t2, rfl⟩, rfl⟩
  have S' := S
  obtain ⟨⟨o, so, So⟩, up⟩ := S'
  refine (ev_take C hD hU S kf (pv_loc C So k l) (pi_loc C So ky ly) (by omega) hm (Int.le_trans hm2 (by decide)) (fun _ => rfl) fun _ => rfl).mono ?_
  rintro v h₂ ⟨⟨d, t3, rfl, d0, d1⟩, S1, S2⟩
  refine ⟨fun tk Q hQ => o_add fun t4 tk' => hQ _ _ _ (ea_nil ?_)⟩
  obtain ⟨⟨o1, so1, S1⟩, up1⟩ := S1
  obtain ⟨⟨o2, so2, S2⟩, up2⟩ := S2
  refine ⟨_, _, _, _, _, _, S1, by simp [hsl], fun a h₃ hn tt S3 S4 => ⟨⟨(12, b + d), ⟨a, t1, t4, rfl, tt⟩, ?_⟩, ⟨⟨o1, so1, S3⟩, up⟩, ?_⟩⟩
  · simp [tokV, leastL, greatL]; omega
  · exact DS.then ⟨⟨o2, so2, S2⟩, up⟩ ⟨⟨o1, so1, S4⟩, up⟩ fun _ _ h => h
theorem el_two (S : DS src g L ns vs F B r h) (h1 : ET c src g L ns vs e1 n1) (h2 : ET c src g L ns vs e2 n2) (hn2 : 0 ≤ n2) (hB : B + n1 + n2 ≤ 1000000) (he1 : ∀ es, starEach (e1 :: es) c.env = (false, eval e1 c.env) :: starEach es c.env) (he2 : ∀ es, starEach (e2 :: es) c.env = (false, eval e2 c.env) :: starEach es c.env) :
    EV c h (.List [e1, e2] pos) fun v h' => Ex3 fun a xs ts => v = .ref a ∧ h.get? a = none ∧ Toks h' xs ts ∧ ts.all tokV = true ∧ ts.length = 2 ∧ DS src g L ns vs (fun o => (a, listOf xs.toArray 0) :: F o) (B + n1 + n2) r h' ∧ DS src g L ns vs (fun o => (a, listOf xs.toArray 0) :: F o) (B + n1 + n2) h h' := by
  have hsl : sizeLine = 16777216 := sizeLine_eq
  refine ev_list (ea_cons ((h1 F B r h (by omega) S).mono ?_) (he1 _))
  rintro v h₁ ⟨⟨t, tt, tv⟩, S1, S1'⟩
  refine ea_cons ((h2 F _ r h₁ hB S1).mono ?_) (he2 _)
  rintro v2 h₂ ⟨⟨t2, tt2, tv2⟩, S2, S2'⟩
  have hT := S2'.tup
  have S3' := S1'.then S2' fun _ _ h => h
  obtain ⟨⟨o, so, S2⟩, up⟩ := S2
  refine ea_nil ⟨_, _, _, _, _, _, S2, by simp [hsl], fun a h₃ hn S3 S4 => ⟨a, _, [t, t2], rfl, S3'.dom _ hn, .cons ((tt.mono hT).mono S4.go.T) (.cons (tt2.mono S4.go.T) .nil), by simp [tv, tv2], rfl, ⟨⟨o, so, S3⟩, fun o => .tail (up o)⟩, ?_⟩⟩
  exact S3'.then ⟨⟨o, so, S4⟩, fun o => .tail (up o)⟩ fun _ _ h => List.mem_cons_of_mem _ h
theorem el_one (S : DS src g L ns vs F B r h) (h1 : ET c src g L ns vs e1 n1) (hB : B + n1 ≤ 1000000) (he1 : ∀ es, starEach (e1 :: es) c.env = (false, eval e1 c.env) :: starEach es c.env) :
    EV c h (.List [e1] pos) fun v h' => Ex3 fun a xs ts => v = .ref a ∧ h.get? a = none ∧ Toks h' xs ts ∧ ts.all tokV = true ∧ ts.length = 1 ∧ DS src g L ns vs (fun o => (a, listOf xs.toArray 0) :: F o) (B + n1) r h' ∧ DS src g L ns vs (fun o => (a, listOf xs.toArray 0) :: F o) (B + n1) h h' := by
  have hsl : sizeLine = 16777216 := sizeLine_eq
  refine ev_list (ea_cons ((h1 F B r h (by omega) S).mono ?_) (he1 _))
  rintro v h₁ ⟨⟨t, tt, tv⟩, S1, S1'⟩
  obtain ⟨⟨o, so, S1⟩, up⟩ := S1
  refine ea_nil ⟨_, _, _, _, _, _, S1, by simp [hsl], fun a h₃ hn S3 S4 => ⟨a, _, [t], rfl, S1'.dom _ hn, .cons (tt.mono S4.go.T) .nil, by simp [tv], rfl, ⟨⟨o, so, S3⟩, fun o => .tail (up o)⟩, ?_⟩⟩
  exact S1'.then ⟨⟨o, so, S4⟩, fun o => .tail (up o)⟩ fun _ _ h => List.mem_cons_of_mem _ h
/-- a def that draws a list -/
theorem ev_drawList {f : Str} {fa : Addr} {D' U' : Nat} {m : Nat} {e0 : Expr} {es : List Expr} (C : Fc c L sn mg mb g D U) (hD : D' ≤ D) (hU : U' ≤ U) (S : DS src g L ns vs F B r h) (hf : PV c h (.Name f fp) (.ref fa)) (hfn : IsFn c.w fa)
    (ea : EA c h (e0 :: es) fun xs h' => h' = h ∧ ∀ o, SrcO o B → Spec c.w fa xs [(src, o)] D' U' h (ListPost src (B + n) m h)) (he1 : starEach (e0 :: es) c.env = (false, eval e0 c.env) :: starEach es c.env) :
    EV c h (.Call (.Name f fp) (e0 :: es) [] pos) fun v h' => Ex4 fun a xs nn ts => v = .ref a ∧ h.get? a = none ∧ Toks h' xs ts ∧ ts.all tokV = true ∧ ts.length ≤ m ∧ DS src g L ns vs (fun o => (a, listOf xs.toArray nn) :: F o) (B + n) r h' ∧ DS src g L ns vs (fun o => (a, listOf xs.toArray nn) :: F o) (B + n) h h' := by
  obtain ⟨⟨o, so, S⟩, up⟩ := S
  refine ev_call hf hfn C S (fun pos => ⟨fun tk Q hQ => (ea pos).run tk _ fun xs h' tk' p => hQ _ _ _ ?_⟩) he1
  obtain ⟨rfl, sp⟩ := p
  refine ⟨S.F.keep, tr_spec (sp o so) C S hD hU (by simpa using (up o).mem) fun h₂ v go post => ?_⟩
  obtain ⟨o', a, ys, nn, ts, e', so', rfl, na, ea', tt, tv, tl⟩ := post
  have S1 := S.after1 (up o) go e' so'.notT
  have S2 := S.re.after1 (up o) go e' so'.notT
  refine ⟨a, ys, nn, ts, rfl, na, tt, tv, tl, ⟨⟨o', so', ?_⟩, fun o => .tail (up o)⟩, ⟨o', so', ?_⟩, fun o => .tail (up o)⟩
  · exact S1.add ea' na S (fun x hx => by rw [(up o).keys] at hx; exact hx) not_isT_list
  · exact S2.add ea' na S.re (fun x hx => by rw [(up o).keys] at hx; exact hx) not_isT_list
end

theorem isL {h : Heap} {a : Addr} {xs : List Value} {n : Nat} (e : h.get? a = some (listOf xs.toArray n)) : h.IsList a xs.toArray := ⟨_, e, rfl, n, rfl⟩
theorem DS.finL {g h h' : Heap} {src L a : Addr} {ns : List Str} {vs : List (Option Value)} {F : Obj → List (Addr × Obj)} {B B' : Int} {xs : List Value} {n : Nat} {ts : List (Int × Int)} {m : Nat} (S : DS src g L ns vs (fun o => (a, listOf xs.toArray n) :: F o) B h h') (na : h.get? a = none) (tt : Toks h' xs ts) (tv : ts.all tokV = true) (hm : ts.length ≤ m) (hB : B ≤ B') :
    Fin g h (ListPost src B' m h) (.ret (.ref a)) h' := by
  obtain ⟨⟨o, so, S⟩, up⟩ := S
  exact ⟨S.fin, o, a, xs, n, ts, (S.N _ (up o).mem).1, so.mono hB, rfl, na, (S.N _ (.head _)).1, tt, tv, hm⟩
/-- a + b of two lists of the ledger -/
theorem tr_catD {c : Cx} {src L : Addr} {g h r : Heap} {ns : List Str} {vs : List (Option Value)} {F : Obj → List (Addr × Obj)} {B : Int} {a b : Addr} {xs ys : List Value} {n n2 : Nat} (S : DS src g L ns vs F B r h) (ha : ∀ o, (a, listOf xs.toArray n) ∈ F o) (hb : ∀ o, (b, listOf ys.toArray n2) ∈ F o) (hz : xs.length + ys.length ≤ sizeLine) :
    TR c h (binaryOp .Add (.ref a) (.ref b)) fun v h' => ∃ d, v = .ref d ∧ h.get? d = none ∧ DS src g L ns vs (fun o => (d, listOf (xs ++ ys).toArray 0) :: F o) B r h' ∧ TupK h h' := by
  obtain ⟨⟨o, so, S⟩, up⟩ := S
  refine ⟨fun tk Q hQ => o_cat S.re (isL (S.N _ (ha o)).1) (isL (S.N _ (hb o)).1) hz fun l h' tk' hn S' => hQ _ _ _ ⟨l, rfl, hn, ⟨⟨o, so, ?_⟩, fun o => .tail (up o)⟩, S'.go.T⟩⟩
  exact S.then S' fun _ h => List.mem_cons_of_mem _ h
theorem piece_body {w : World} {src : Addr} {D U : Nat} {n : Int} {m : Nat} {lv many : Int} {tm tl : Tok} {h : Heap} {B : Int} {o : Obj} (so : SrcO o B) (hB : B < 999900) (hm0 : 0 ≤ many) (hm9 : many ≤ 9) (hn0 : 2 ≤ n) (hn9 : n ≤ 20) (hD : 2 ≤ D) (hU : 6 ≤ U) (hm : m ≤ 100)
    (rec : lv < 2 → 2 ≤ m ∧ ∀ h o tm tl, SrcO o (B + 1) → Spec w 292 [.ref src, .int many tm, .int (lv + 1) tl] [(src, o)] D U h (ListPost src (B + 1 + n) m h)) :
    Spec w 292 [.ref src, .int many tm, .int lv tl] [(src, o)] (D + 1) (U + 3) h (ListPost src (B + (n + 1)) (m + 2) h) := by
  refine spec_xs [Str.ofString "source", Str.ofString "many", Str.ofString "level", Str.ofString "way"] 3 rfl (by kernel_rfl) (fun _ _ => BindsTo.of_eq rfl) rfl (by decide +kernel) (by decide) (by decide +kernel) (by decide +kernel) (by decide +kernel) (by simp) (by simpa using so.notT) ?_
  intro c mg mb g h₁ L hw C hk' hL S
  dsimp only at C
  subst hw
  have S0 : DS src g L _ [some (.ref src), some (.int many tm), some (.int lv tl), none] (fun o => [(src, o)]) B h h₁ := ⟨⟨o, so, S⟩, fun o => .head⟩
  clear S
  have hsl : sizeLine = 16777216 := sizeLine_eq
  have Sx := S0
  obtain ⟨⟨ox, _, So⟩, _⟩ := Sx
  refine xs_assignD (X := fun v _ => Ex2 fun d t => v = .int d t ∧ 0 ≤ d ∧ d < 6) C (EV.mono (ev_take (i := 6) C (by omega) (by omega) S0 (by (repeat' (first | exact Kd.head | apply Kd.tail))) (by (exact pv_loc (by assumption) (by assumption) (by (repeat' (first | exact Kd.head | apply Kd.tail))) (by (repeat' (first | exact Loc.head | apply Loc.tail))))) pi_const (by omega) (by decide) (by decide) (fun _ => rfl) fun _ => rfl) fun v h p => ⟨p.1, p.2.1⟩) (by (repeat' (first | exact Kd.head | apply Kd.tail))) (fun v => by (repeat' (first | exact SetL.head | apply SetL.tail))) rfl ?_
  rintro _ _ h₂ ⟨d, t, rfl, d0, d6⟩ _ S1
  clear S0 So
  have Sx := S1
  obtain ⟨⟨oy, _, So⟩, _⟩ := Sx
  refine xs_if (pt_and2 (pt_eq (by (exact pi_loc (by assumption) (by assumption) (by (repeat' (first | exact Kd.head | apply Kd.tail))) (by (repeat' (first | exact Loc.head | apply Loc.tail))))) pi_const rfl) fun _ => pt_gt (by (exact pi_loc (by assumption) (by assumption) (by (repeat' (first | exact Kd.head | apply Kd.tail))) (by (repeat' (first | exact Loc.head | apply Loc.tail))))) pi_const rfl) (fun hc => ?_) (fun hc => xs_nil ?_)
  · simp only [Bool.and_eq_true, decide_eq_true_eq] at hc
    refine xs_ret (EV.mono (el_two (n1 := 1) (n2 := 1) S1 (et_tok C (by omega) (by omega) (by (repeat' (first | exact Kd.head | apply Kd.tail))) (gl_law_mark _) (fn_law_mark _) (fun h B o so hB => mark_spec so hB) (by (repeat' (first | exact Kd.head | apply Kd.tail))) (by (repeat' (first | exact Loc.head | apply Loc.tail)))) (et_code (b := 49) (many := many) C (by omega) (by omega) (by (repeat' (first | exact Kd.head | apply Kd.tail))) (by (repeat' (first | exact Kd.head | apply Kd.tail))) (by (repeat' (first | exact Loc.head | apply Loc.tail))) (by (repeat' (first | exact Kd.head | apply Kd.tail))) (by (repeat' (first | exact Loc.head | apply Loc.tail))) hc.2 (by omega) (by decide) (by omega)) (by decide) (by omega) (fun _ => rfl) fun _ => rfl) ?_)
    rintro v h₃ ⟨a, xs, ts, rfl, na, tt, tv, tl, S2, S3⟩
    exact S2.finL (S1.dom _ na) tt tv (by omega) (by omega)
  show XS _ _ _ _
  refine xs_if (pt_eq (by (exact pi_loc (by assumption) (by assumption) (by (repeat' (first | exact Kd.head | apply Kd.tail))) (by (repeat' (first | exact Loc.head | apply Loc.tail))))) pi_const rfl) (fun hc => ?_) (fun hc => xs_nil ?_)
  · refine xs_ret (EV.mono (el_two (n1 := 1) (n2 := 1) S1 (et_tok C (by omega) (by omega) (by (repeat' (first | exact Kd.head | apply Kd.tail))) (gl_law_mark _) (fn_law_mark _) (fun h B o so hB => mark_spec so hB) (by (repeat' (first | exact Kd.head | apply Kd.tail))) (by (repeat' (first | exact Loc.head | apply Loc.tail)))) (et_tok C (by omega) (by omega) (by (repeat' (first | exact Kd.head | apply Kd.tail))) (gl_law_mark _) (fn_law_mark _) (fun h B o so hB => mark_spec so hB) (by (repeat' (first | exact Kd.head | apply Kd.tail))) (by (repeat' (first | exact Loc.head | apply Loc.tail)))) (by decide) (by omega) (fun _ => rfl) fun _ => rfl) ?_)
    rintro v h₃ ⟨a, xs, ts, rfl, na, tt, tv, tl, S2, S3⟩
    exact S2.finL (S1.dom _ na) tt tv (by omega) (by omega)
  show XS _ _ _ _
  refine xs_if (pt_and2 (pt_eq (by (exact pi_loc (by assumption) (by assumption) (by (repeat' (first | exact Kd.head | apply Kd.tail))) (by (repeat' (first | exact Loc.head | apply Loc.tail))))) pi_const rfl) fun _ => pt_lt (by (exact pi_loc (by assumption) (by assumption) (by (repeat' (first | exact Kd.head | apply Kd.tail))) (by (repeat' (first | exact Loc.head | apply Loc.tail))))) pi_const rfl) (fun hc => ?_) (fun hc => xs_nil ?_)
  · simp only [Bool.and_eq_true, decide_eq_true_eq] at hc
    obtain ⟨hm2, rec⟩ := rec hc.2
    refine xs_ret (ev_binG (EV.mono (P := fun v h3 => Ex5 fun (a : Addr) (xs : List Value) (nn : Nat) (ts : List (Int × Int)) (F' : Obj → List (Addr × Obj)) => v = .ref a ∧ h₂.get? a = none ∧ Toks h3 xs ts ∧ ts.all tokV = true ∧ ts.length ≤ m + 1 ∧ DS src g L [Str.ofString "source", Str.ofString "many", Str.ofString "level", Str.ofString "way"] [some (.ref src), some (.int many tm), some (.int lv tl), some (.int d t)] (fun o => (a, listOf xs.toArray nn) :: F' o) (B + 1 + n) h h3) (ev_binG (EV.mono (el_one (n1 := 0) S1 (et_const rfl (by decide +kernel)) (by omega) fun _ => rfl) ?_)) ?_))
    · rintro v h₃ ⟨a1, xs1, ts1, rfl, na1, tt1, tv1, tl1, S2, S2'⟩
      have S2 := S2.mono (B' := B + 1) (by omega)
      have Sx := S2
      obtain ⟨⟨oz, _, So2⟩, _⟩ := Sx
      refine EV.mono (ev_drawList (D' := D) (U' := U) (m := m) (n := n) C (by omega) (by omega) S2 (pv_glob C So2 (by (repeat' (first | exact Kd.head | apply Kd.tail))) (gl_law_piece _)) (fn_law_piece _) (ea_cons (EV.mono (pv_loc C So2 (by (repeat' (first | exact Kd.head | apply Kd.tail))) (by (repeat' (first | exact Loc.head | apply Loc.tail)))) ?_) rfl) rfl) ?_
      · rintro v h₄ ⟨rfl, rfl⟩
        refine ea_cons (EV.mono (pv_loc C So2 (by (repeat' (first | exact Kd.head | apply Kd.tail))) (by (repeat' (first | exact Loc.head | apply Loc.tail)))) ?_) rfl
        rintro v h₄ ⟨rfl, rfl⟩
        refine ea_cons (EV.mono (pi_add (pi_loc C So2 (by (repeat' (first | exact Kd.head | apply Kd.tail))) (by (repeat' (first | exact Loc.head | apply Loc.tail)))) pi_const) ?_) rfl
        rintro v h₄ ⟨⟨t3, rfl⟩, rfl⟩
        exact ea_nil ⟨rfl, fun o so => rec _ _ _ _ so⟩
      · rintro v h₄ ⟨a2, xs2, n2, ts2, rfl, na2, tt2, tv2, tl2, S3, S3'⟩
        refine ⟨fun tk Q hQ => (tr_catD S3 (fun o => .tail _ (.head _)) (fun o => .head _) (by rw [tt1.length, tt2.length]; omega)).run tk Q fun v h₅ tk' p => hQ _ _ _ ?_⟩
        obtain ⟨a3, rfl, na3, S4, k4⟩ := p
        refine ⟨a3, _, _, ts1 ++ ts2, _, rfl, S2'.dom _ (S3'.dom _ na3), ((tt1.mono S3'.tup).append tt2).mono k4, by simp only [List.all_append, Bool.and_eq_true]; exact ⟨tv1, tv2⟩, by rw [List.length_append]; omega, S4⟩
    · rintro v h₃ ⟨a1, xs1, nn1, ts1, F1, rfl, na1, tt1, tv1, tl1, S2⟩
      refine EV.mono (el_one (n1 := 0) S2 (et_const rfl (by decide +kernel)) (by omega) fun _ => rfl) ?_
      rintro v h₄ ⟨a2, xs2, ts2, rfl, na2, tt2, tv2, tl2, S3, S3'⟩
      refine ⟨fun tk Q hQ => (tr_catD S3 (fun o => .tail _ (.head _)) (fun o => .head _) (by rw [tt1.length, tt2.length]; omega)).run tk Q fun v h₅ tk' p => hQ _ _ _ ?_⟩
      obtain ⟨a3, rfl, na3, S4, k4⟩ := p
      exact S4.finL (S2.dom _ (S3'.dom _ na3)) (((tt1.mono S3'.tup).append tt2).mono k4) (by simp only [List.all_append, Bool.and_eq_true]; exact ⟨tv1, tv2⟩) (by rw [List.length_append]; omega) (by omega)
  show XS _ _ _ _
  refine xs_ret (EV.mono (el_one (n1 := 1) S1 (et_tok C (by omega) (by omega) (by (repeat' (first | exact Kd.head | apply Kd.tail))) (gl_law_plain _) (fn_law_plain _) (fun h B o so hB => plain_spec so hB) (by (repeat' (first | exact Kd.head | apply Kd.tail))) (by (repeat' (first | exact Loc.head | apply Loc.tail)))) (by omega) fun _ => rfl) ?_)
  rintro v h₃ ⟨a, xs, ts, rfl, na, tt, tv, tl, S2, S3⟩
  exact S2.finL (S1.dom _ na) tt tv (by omega) (by omega)

theorem piece_spec2 {w : World} {src : Addr} {many B : Int} {tm tl : Tok} {h : Heap} {o : Obj} (so : SrcO o B) (hB : B < 999300) (hm0 : 0 ≤ many) (hm9 : many ≤ 9) : Spec w 292 [.ref src, .int many tm, .int 2 tl] [(src, o)] 3 9 h (ListPost src (B + 3) 2 h) :=
  piece_body (D := 2) (U := 6) (n := 2) (m := 0) so (by omega) hm0 hm9 (by decide) (by decide) (by decide) (by decide) (by decide) fun q => absurd q (by decide)
theorem piece_spec1 {w : World} {src : Addr} {many B : Int} {tm tl : Tok} {h : Heap} {o : Obj} (so : SrcO o B) (hB : B < 999200) (hm0 : 0 ≤ many) (hm9 : many ≤ 9) : Spec w 292 [.ref src, .int many tm, .int 1 tl] [(src, o)] 4 12 h (ListPost src (B + 4) 4 h) :=
  piece_body (D := 3) (U := 9) (n := 3) (m := 2) so (by omega) hm0 hm9 (by decide) (by decide) (by decide) (by decide) (by decide) fun _ => ⟨by decide, fun h o tm tl so => piece_spec2 so (by omega) hm0 hm9⟩
theorem piece_spec {w : World} {src : Addr} {many B : Int} {tm tl : Tok} {h : Heap} {o : Obj} (so : SrcO o B) (hB : B < 999100) (hm0 : 0 ≤ many) (hm9 : many ≤ 9) : Spec w 292 [.ref src, .int many tm, .int 0 tl] [(src, o)] 5 15 h (ListPost src (B + 5) 6 h) :=
  piece_body (D := 4) (U := 12) (n := 4) (m := 4) so (by omega) hm0 hm9 (by decide) (by decide) (by decide) (by decide) (by decide) fun _ => ⟨by decide, fun h o tm tl so => piece_spec1 so (by omega) hm0 hm9⟩

/-! ## loops -/
section
variable {c : Cx} {L : Addr} {sn : List (Str × NameKind)} {mg mb : Str → Option Value} {g h h' : Heap} {D U : Nat} {ns : List Str} {vs vs' : List (Option Value)} {led led' : List (Addr × Obj)} {r : Heap} {x : Str} {pos p' px : Pos} {v : Value}
  {P P' : Value → Heap → Prop} {R : Flow → Heap → Prop} {e l r' : Expr} {a b i j : Int} {k : Nat}
/-- a step that changes an object of no one here -/
theorem St.stab {it : Addr} (S : St g L ns vs led r h) (kk : ∀ b o, b ≠ it → h.get? b = some o → h'.get? b = some o) (n1 : g.get? it = none) (n2 : L ≠ it) (n3 : it ∉ led.map (·.1)) (n4 : r.get? it = none) : St g L ns vs led r h' := by
  obtain ⟨o, es, ep, e, q⟩ := S.F.ns
  refine ⟨S.nd, ⟨⟨o, es, ep, kk _ _ n2 e, q⟩, fun b o e => kk b o (fun q => by rw [q, n1] at e; cases e) (S.F.keep b o e), S.F.above⟩, fun p hp => ⟨kk _ _ (fun q => n3 (q ▸ List.mem_map_of_mem hp)) (S.N p hp).1, (S.N p hp).2⟩, S.ld, S.lt, ⟨fun b o n e => ?_, fun b e => ?_, fun a o e t => ?_⟩⟩
  · exact kk b o (fun q => by rw [q, n4] at e; cases e) (S.go.K b o n e)
  · by_cases q : b = it
    · rw [q]; exact n4
    · refine S.go.D b ?_
      cases w : h.get? b with
      | none => rfl
      | some o => rw [kk b o q w] at e; cases e
  · exact kk a o (fun q => by rw [q, n4] at e; cases e) (S.go.T a o e t)
/-- what a turn leaves -/
def Turn (g : Heap) (L : Addr) (ns : List Str) (ks : List Addr) (X : List (Option Value) → List (Addr × Obj) → Heap → Prop) (R : Flow → Heap → Prop) (h₀ : Heap) (f : Flow) (h' : Heap) : Prop :=
  match f with
  | .next | .cont => Ex2 fun vs led => St g L ns vs led h₀ h' ∧ led.map (·.1) = ks ∧ X vs led h'
  | .ret v => R (.ret v) h'
  | .brk => False
def LoopOK (c : Cx) (g : Heap) (L : Addr) (ns : List Str) (r : Heap) (x : Str) (body rest : List Stmt) (R : Flow → Heap → Prop) (it : Value) (h₂ : Heap) : Prop :=
  Ex7 fun (ks : List Addr) (n : Nat) (It : Addr) (fp : List Addr) (Pw : Nat → Value → Prop) (Sw : Nat → Heap → Prop) (X : Nat → List (Option Value) → List (Addr × Obj) → Heap → Prop) =>
    it = .ref It ∧ Walks c.prog c.w c.A It fp [It] n Pw Sw ∧ Sw 0 h₂ ∧ (∀ b ∈ fp, b = It ∨ (b ≠ L ∧ b ∉ ks)) ∧ (∀ i h, Sw i h → ∃ o, h.get? It = some o ∧ ¬ IsT o) ∧
    (Ex4 fun h₁ vs₁ led₁ r₁ => St g L ns vs₁ led₁ r₁ h₁ ∧ (∀ b ∈ ks, h₁.get? b ≠ none) ∧ h₁.get? It = none ∧ ∀ b, h₁.get? b = none → r.get? b = none) ∧
    (Ex2 fun vs led => St g L ns vs led r h₂ ∧ led.map (·.1) = ks ∧ X 0 vs led h₂) ∧
    (∀ i vs led h h', X i vs led h → TupK h h' → X i vs led h') ∧
    (∀ i v vs led h₂, i < n → Pw i v → St g L ns vs led h₂ h₂ → led.map (·.1) = ks → X i vs led h₂ → ∃ vs', SetL ns vs x v vs' ∧ ∀ h₃, St g L ns vs' led h₂ h₃ → XS c h₃ body (Turn g L ns ks (X (i + 1)) R h₂)) ∧
    (∀ vs led h₅, St g L ns vs led r h₅ → led.map (·.1) = ks → X n vs led h₅ → XS c h₅ rest R)
theorem xs_for {iter : Expr} {body rest : List Stmt} (C : Fc c L sn mg mb g D U) (q : EV c h iter fun xv h₁ => TR c h₁ (pyIter xv) (LoopOK c g L ns r x body rest R)) (k : Kd sn x .local)
    (hs : ∀ x, foldedSetIterable iter c.env x = pure x) : XS c h (.For (.Name x px) iter body [] pos :: rest) R := by
  have hsk : (c.env.scope.kind == .class || (c.env.scope.kind == .module && c.env.locals != c.env.globals)) = false := by rw [C.fe.kind]; rfl
  refine ⟨fun tk Q hQ => wpAny_execs_cons (wpAny_For (hs := hs) (q.run tk _ fun xv h₁ tk₁ p => p.run tk₁ _ fun it h₂ tk₂ p => ?_))⟩
  obtain ⟨ks, n, It, fp, Pw, Sw, X, rfl, W, sw, hfp, hsw, ⟨h₀, vs₀, led₀, r₀, S₀, hks, nI, nr⟩, ⟨vs₁, led₁, S₁, e₁, x₁⟩, xst, turn, done⟩ := p
  have gI : g.get? It = none := none_at nI S₀.F.keep
  have LI : L ≠ It := by
    rintro rfl
    obtain ⟨o, _, _, e, _⟩ := S₀.F.ns
    rw [nI] at e; cases e
  have kI : It ∉ ks := fun hm => hks _ hm nI
  have rI : r.get? It = none := nr _ nI
  have gE : ∀ {α : Type} {t : Sem α} {Q : α → Shared → Prop} {s : Shared}, wpAny (model c.prog c.w) c.A t Q c.E s → wpAny (model c.prog c.w) c.A t Q (notedBy (model c.prog c.w) c.A c.env fun e s' => cameBackBy (model c.prog c.w) c.A c.env c.E e s') s := fun h => wpAny_passesOwn C.po h
  refine codeAny_forLoop (fun m s' => Ex5 fun i vs led h' tk' => s' = mk c.s h' tk' ∧ m = n + 1 - i ∧ i ≤ n ∧ Sw i h' ∧ St g L ns vs led r h' ∧ led.map (·.1) = ks ∧ X i vs led h') ?_ (n + 1) ⟨0, vs₁, led₁, h₂, tk₂, rfl, rfl, Nat.zero_le _, sw, S₁, e₁, x₁⟩
  rintro m s' ⟨i, vs, led, h', tk', rfl, rfl, hi, sw', S', e', x'⟩
  have tup : ∀ {h₃ : Heap}, (∀ b o, b ∉ [It] → h'.get? b = some o → h₃.get? b = some o) → TupK h' h₃ := fun kp a o e t => kp a o (fun hm => by
    obtain ⟨o', e2, n2⟩ := hsw _ _ sw'
    rw [List.mem_singleton.mp hm, e2] at e
    cases e; exact n2 t) e
  by_cases hlt : i < n
  · refine W.item i _ _ _ hlt sw' fun v h₁ tk₁ pv sw₁ kp₁ => ?_
    have S₂ : St g L ns vs led r h₁ := S'.stab (fun b o n e => kp₁ b o (by simpa using n) e) gI LI (by rw [e']; exact kI) rI
    have x₂ := xst _ _ _ _ _ x' (tup kp₁)
    obtain ⟨vs', sl, tn⟩ := turn i v vs led h₁ hlt pv S₂.re e' x₂
    refine wpAny_assign_Name (gE (r_store C.fe S₂ k sl fun h₃ tk₃ S₃ S₃' => ?_))
    refine gE ((tn h₃ S₃').run tk₃ _ fun f h₄ tk₄ p => ?_)
    have nxt : (Ex2 fun vs led => St g L ns vs led h₁ h₄ ∧ led.map (·.1) = ks ∧ X (i + 1) vs led h₄) → ∃ m, m < n + 1 - i ∧ Ex5 fun i vs led h' tk' => mk c.s h₄ tk₄ = mk c.s h' tk' ∧ m = n + 1 - i ∧ i ≤ n ∧ Sw i h' ∧ St g L ns vs led r h' ∧ led.map (·.1) = ks ∧ X i vs led h' := by
      rintro ⟨vs₄, led₄, S₄, e₄, x₄⟩
      refine ⟨n + 1 - (i + 1), by omega, i + 1, vs₄, led₄, h₄, tk₄, rfl, rfl, hlt, ?_, S₂.then S₄ (fun a ha => by rw [e₄, ← e']; exact ha), e₄, x₄⟩
      refine W.frame _ _ _ sw₁ fun b hb o e => S₄.go.K b o (fun hm => ?_) e
      rcases hfp b hb with rfl | ⟨n1, n2⟩
      · rcases List.mem_cons.mp hm with q | q
        · exact LI q.symm
        · rw [e₄] at q; exact kI q
      · rcases List.mem_cons.mp hm with q | q
        · exact n1 q
        · rw [e₄] at q; exact n2 q
    cases f with
    | next => exact nxt p
    | cont => exact nxt p
    | brk => exact p.elim
    | ret v => exact hQ _ _ _ p
  · have hin : i = n := by omega
    subst hin
    refine W.done _ _ _ sw' fun h₁ tk₁ kp₁ => ?_
    have S₂ : St g L ns vs led r h₁ := S'.stab (fun b o n e => kp₁ b o (by simpa using n) e) gI LI (by rw [e']; exact kI) rI
    exact wpAny_execs_nil ((done vs led h₁ S₂ e' (xst _ _ _ _ _ x' (tup kp₁))).run tk₁ _ hQ)
theorem St.keepAll (S : St g L ns vs led r h) (k : ∀ b o, h.get? b = some o → h'.get? b = some o) : St g L ns vs led r h' := S.after0 (.keep k)
/-- range(e) -/
theorem ev_range1 {e : Expr} {fp : Pos} {P : Int → Heap → Prop} (C : Fc c L sn mg mb g D U) (S : St g L ns vs led r h) (kr : Kd sn (Str.ofString "range") .globalImplicit) (q : EV c h e fun v h₁ => Ex2 fun k t => v = .int k t ∧ P k h₁)
    (he : starEach [e] c.env = (false, eval e c.env) :: starEach [] c.env) : EV c h (.Call (.Name (Str.ofString "range") fp) [e] [] pos) fun v h₂ => Ex6 fun k h₁ rr t u w => v = .ref rr ∧ P k h₁ ∧ IsRange h₂ rr 0 k 1 t u w ∧ ∀ b o, h₁.get? b = some o → h₂.get? b = some o :=
  ⟨fun tk Q hQ => Call_ ((pv_bi C S kr (gl_range _) (by boot_fast) (by decide)).run tk _ fun v h' tk' p => by
    obtain ⟨rfl, rfl⟩ := p
    refine PyProof.Rows.callWith_type1 ?_ he
    refine spliced_more (he := he) (q.run tk' _ fun v h₁ tk₁ p => spliced_none ?_)
    obtain ⟨k, t, rfl, pk⟩ := p
    exact PySem.call_range_1 (s := mk c.s h₁ tk₁) (hQ _ _ _ ⟨k, h₁, _, _, _, _, rfl, pk, IsRange.new .., fun _ _ e => Heap.get?_push_of_some _ e⟩))⟩
/-- range(e, e2) -/
theorem ev_range2 {e e2 : Expr} {fp : Pos} {P : Int → Int → Heap → Prop} (C : Fc c L sn mg mb g D U) (S : St g L ns vs led r h) (kr : Kd sn (Str.ofString "range") .globalImplicit) (q : EV c h e fun v h₁ => Ex2 fun a t => v = .int a t ∧ EV c h₁ e2 fun v h₂ => Ex2 fun b t => v = .int b t ∧ P a b h₂)
    (he : starEach [e, e2] c.env = (false, eval e c.env) :: starEach [e2] c.env) (he2 : starEach [e2] c.env = (false, eval e2 c.env) :: starEach [] c.env) : EV c h (.Call (.Name (Str.ofString "range") fp) [e, e2] [] pos) fun v h₂ => Ex7 fun a b h₁ rr t u w => v = .ref rr ∧ P a b h₁ ∧ IsRange h₂ rr a b 1 t u w ∧ ∀ b o, h₁.get? b = some o → h₂.get? b = some o :=
  ⟨fun tk Q hQ => Call_ ((pv_bi C S kr (gl_range _) (by boot_fast) (by decide)).run tk _ fun v h' tk' p => by
    obtain ⟨rfl, rfl⟩ := p
    refine PyProof.Rows.callWith_type1 ?_ he (by simp [backTo, he2]; exact fun _ h => nomatch h)
    refine spliced_more (he := he) (q.run tk' _ fun v h₁ tk₁ p => ?_)
    obtain ⟨a, t, rfl, q2⟩ := p
    refine spliced_more (he := he2) (q2.run tk₁ _ fun v h₁ tk₁ p => spliced_none ?_)
    obtain ⟨b, t2, rfl, pk⟩ := p
    exact PySem.call_range_2 (s := mk c.s h₁ tk₁) (hQ _ _ _ ⟨a, b, h₁, _, _, _, _, rfl, pk, IsRange.new .., fun _ _ e => Heap.get?_push_of_some _ e⟩))⟩
/-- for x in a range -/
theorem xs_for_range {iter : Expr} {body rest : List Stmt} (C : Fc c L sn mg mb g D U) (k : Kd sn x .local)
    (q : EV c h iter fun xv h₁ => Ex9 fun (a b : Int) (t u w : Tok) (rr : Addr) (vs : List (Option Value)) (led : List (Addr × Obj)) (X : Nat → List (Option Value) → List (Addr × Obj) → Heap → Prop) => xv = .ref rr ∧ IsRange h₁ rr a b 1 t u w ∧ (-(2 ^ 62) ≤ a ∧ a < 2 ^ 62 ∧ -(2 ^ 62) ≤ b ∧ b < 2 ^ 62) ∧ St g L ns vs led r h₁ ∧ X 0 vs led h₁ ∧
      (∀ i vs led h h', X i vs led h → TupK h h' → X i vs led h') ∧
      (∀ (i : Nat) t vs led' h₂, a + i < b → St g L ns vs led' h₂ h₂ → led'.map (·.1) = led.map (·.1) → X i vs led' h₂ → ∃ vs', SetL ns vs x (.int (a + i) t) vs' ∧ ∀ h₃, St g L ns vs' led' h₂ h₃ → XS c h₃ body (Turn g L ns (led.map (·.1)) (X (i + 1)) R h₂)) ∧
      (∀ vs led' h₅, St g L ns vs led' r h₅ → led'.map (·.1) = led.map (·.1) → X (b - a).toNat vs led' h₅ → XS c h₅ rest R))
    (hs : ∀ x, foldedSetIterable iter c.env x = pure x) : XS c h (.For (.Name x px) iter body [] pos :: rest) R := by
  refine xs_for (g := g) (ns := ns) (r := r) C (q.mono fun xv h₁ p => ⟨fun tk Q hQ => ?_⟩) k hs
  obtain ⟨a, b, t, u, w, rr, vs, led, X, rfl, hr, ⟨b1, b2, b3, b4⟩, S, x0, xst, turn, done⟩ := p
  refine wpAny_pyIter_range (s := mk c.s h₁ tk) hr (small_one b1 b2 b3 b4) (hQ _ _ _ ⟨led.map (·.1), (b - a).toNat, h₁.objs.size, _, _, _, X, rfl, Walks.range C.hh _ a 1 _, ?_, fun b hb => .inl (by simpa using hb), fun i h e => ⟨_, e, fun q => ?_⟩, ⟨h₁, _, _, _, S, fun b hb => ?_, fresh_size, S.go.D⟩, ⟨vs, led, S.keepAll fun _ _ e => Heap.get?_push_of_some _ e, rfl, xst _ _ _ _ _ x0 fun _ _ e _ => Heap.get?_push_of_some _ e⟩, xst, ?_, done⟩)
  · show IsRangeIter _ _ _ _ _
    rw [rangeSize_nat]
    simpa using Heap.get?_push_size _ rfl
  · exact absurd (show Value.type "range_iterator" = Value.type "tuple" from q.1) (by decide)
  · obtain ⟨p, hp, rfl⟩ := List.mem_map.mp hb
    rw [(S.N p hp).1]; exact fun q => nomatch q
  · rintro i v vs led' h₂ hi ⟨t, rfl⟩ S₂ e₂ x₂
    rw [Int.mul_one]
    exact turn i t vs led' h₂ (by omega) S₂ e₂ x₂
end

/-! ## more rules: methods of lists, len, tests that change the heap -/
/-- a test that may change the heap -/
structure TE (c : Cx) (h : Heap) (e : Expr) (P : Bool → Heap → Prop) : Prop where
  run : ∀ (tk : Nat) (Q : Bool → Shared → Prop), (∀ b h' tk', P b h' → Q b (mk c.s h' tk')) → wpAny (model c.prog c.w) c.A (PySem.isTrue e c.env (eval e c.env)) Q c.E (mk c.s h tk)
section
variable {c : Cx} {src L : Addr} {sn : List (Str × NameKind)} {mg mb : Str → Option Value} {g h h' : Heap} {D U : Nat} {ns : List Str} {vs vs' : List (Option Value)} {led led' : List (Addr × Obj)} {r : Heap} {x : Str} {pos p' fp : Pos} {v : Value}
  {P P' : Value → Heap → Prop} {PB' : Bool → Heap → Prop} {R : Flow → Heap → Prop} {e l r' e1 e2 : Expr} {a b i j : Int} {k : Nat} {F : Obj → List (Addr × Obj)} {B B' : Int}
theorem te_pt {p : Bool} (q : PT c h e p) (hp : PB' p h) : TE c h e PB' := ⟨fun tk Q hQ => q.run tk _ fun tk' => hQ _ _ _ hp⟩
theorem te_and2 {p : Bool} (q : PT c h e1 p) (h1 : p = true → TE c h e2 PB') (h2 : p = false → PB' false h) : TE c h (.BoolOp .And [e1, e2] pos) PB' := ⟨fun tk Q hQ => PyProof.Rows.isTrue_and (q.run tk _ fun tk' => by
  cases p
  · exact hQ _ _ _ (h2 rfl)
  · refine PyProof.Rows.isTrue_and ((h1 rfl).run tk' _ fun b h' tk' p => ?_)
    cases b
    · exact hQ _ _ _ p
    · exact PyProof.Rows.isTrue_and_nil (hQ _ _ _ p))⟩
inductive te_eqQ (c : Cx) (r' : Expr) (PB' : Bool → Heap → Prop) (v : Value) (h₁ : Heap) : Prop
  | mk (a : Int) (t : Tok) : v = .int a t → (b : Int) → PI c h₁ r' b → PB' (decide (a = b)) h₁ → te_eqQ c r' PB' v h₁
theorem te_eq (q : EV c h l (te_eqQ c r' PB')) (hm : behindInMarks .Eq r' = false) : TE c h (.Compare l [.Eq] [r'] pos) PB' :=
  ⟨fun tk Q hQ => t_cmp (hm := hm) (q.run tk _ fun v h' tk' p => by
    obtain ⟨a, t, rfl, b, qb, p⟩ := p
    exact qb.run tk' _ fun v h' tk' p2 => by
      obtain ⟨⟨u, rfl⟩, rfl⟩ := p2
      exact tr_eq.run tk' _ fun v h' tk' p3 => by
        obtain ⟨rfl, rfl⟩ := p3
        exact t_bool (hQ _ _ _ p))⟩
inductive te_ltQ (c : Cx) (r' : Expr) (PB' : Bool → Heap → Prop) (v : Value) (h₁ : Heap) : Prop
  | mk (a : Int) (t : Tok) : v = .int a t → (b : Int) → PI c h₁ r' b → PB' (decide (a < b)) h₁ → te_ltQ c r' PB' v h₁
theorem te_lt (q : EV c h l (te_ltQ c r' PB')) (hm : behindInMarks .Lt r' = false) : TE c h (.Compare l [.Lt] [r'] pos) PB' :=
  ⟨fun tk Q hQ => t_cmp (hm := hm) (q.run tk _ fun v h' tk' p => by
    obtain ⟨a, t, rfl, b, qb, p⟩ := p
    exact qb.run tk' _ fun v h' tk' p2 => by
      obtain ⟨⟨u, rfl⟩, rfl⟩ := p2
      exact tr_lt.run tk' _ fun v h' tk' p3 => by
        obtain ⟨rfl, rfl⟩ := p3
        exact t_bool (hQ _ _ _ p))⟩
abbrev IfQ (c : Cx) (body orelse : List Stmt) (K : Flow → Heap → Prop) : Bool → Heap → Prop := fun b h₁ => XS c h₁ (if b then body else orelse) K
theorem xs_ifE {test : Expr} {body orelse rest : List Stmt} (q : TE c h test (IfQ c body orelse (andThen c rest R))) : XS c h (.If test body orelse pos :: rest) R :=
  ⟨fun tk Q hQ => wpAny_execs_cons (wpAny_If (q.run tk _ fun b h₁ tk' p => by
    have fin : ∀ f h' tk', andThen c rest R f h' → (fun f s' => match f with | .next => wpAny (model c.prog c.w) c.A (execs rest c.env) Q c.E s' | f => Q f s') f (mk c.s h' tk') := fun f h' tk' p => by
      cases f with
      | next => exact p.run tk' _ hQ
      | _ => exact hQ _ _ _ p
    cases b
    · exact p.run tk' _ fin
    · exact p.run tk' _ fin))⟩
theorem ev_ifexp {test body orelse : Expr} {p : Bool} (q : PT c h test p) (h1 : p = true → EV c h body P) (h2 : p = false → EV c h orelse P) : EV c h (.IfExp test body orelse pos) P :=
  ⟨fun tk Q hQ => PyProof.Rows.IfExp_ (q.run tk _ fun tk' => by
    cases p
    · exact (h2 rfl).run tk' _ hQ
    · exact (h1 rfl).run tk' _ hQ)⟩
structure ExprQ (c : Cx) (rest : List Stmt) (R : Flow → Heap → Prop) (v : Value) (h₁ : Heap) : Prop where
  none : v = .none
  xs : XS c h₁ rest R
theorem xs_expr {rest : List Stmt} (q : EV c h e (ExprQ c rest R)) (C : Fc c L sn mg mb g D U) (hs : swapsWith e none pos.line c.env = pure false) : XS c h (.Expr e pos :: rest) R :=
  ⟨fun tk Q hQ => wpAny_execs_cons (wpAny_Expr (hs := hs) (hi := by unfold interactive; rw [C.fe.kind]; rfl) (q.run tk _ fun v h₁ tk' p => by
    obtain ⟨rfl, p⟩ := p
    exact p.run tk' _ hQ))⟩
/-- len of a list -/
theorem ev_len {es : Expr} {fp : Pos} {la : Addr} {xs : List Value} (C : Fc c L sn mg mb g D U) (S : St g L ns vs led r h) (kl : Kd sn (Str.ofString "len") .globalImplicit) (q : PV c h es (.ref la)) (hl : h.IsList la xs.toArray) (hz : xs.length < 2 ^ 62)
    (he : starEach [es] c.env = (false, eval es c.env) :: starEach [] c.env) : PI c h (.Call (.Name (Str.ofString "len") fp) [es] [] pos) xs.length :=
  ⟨fun tk Q hQ => Call_ ((pv_bi C S kl (gl_len _) (by boot_fast) (by decide)).run tk _ fun v h' tk' p => by
    obtain ⟨rfl, rfl⟩ := p
    refine PyProof.Rows.callWith_builtin1 ?_ he
    refine spliced_more (he := he) (q.run tk' _ fun v h₁ tk₁ p => spliced_none ?_)
    obtain ⟨rfl, rfl⟩ := p
    exact len_list (s := mk c.s h₁ tk₁) hl (by rw [List.size_toArray]; omega) (hQ _ _ _ ⟨⟨_, by rw [List.size_toArray]⟩, rfl⟩))⟩
theorem ev_lenT {es : Expr} {fp : Pos} {la : Addr} {xs : List Value} (C : Fc c L sn mg mb g D U) (S : St g L ns vs led r h) (kl : Kd sn (Str.ofString "len") .globalImplicit) (q : PV c h es (.ref la)) (hl : IsTup h la xs.toArray) (hz : xs.length < 2 ^ 62)
    (he : starEach [es] c.env = (false, eval es c.env) :: starEach [] c.env) : PI c h (.Call (.Name (Str.ofString "len") fp) [es] [] pos) xs.length :=
  ⟨fun tk Q hQ => Call_ ((pv_bi C S kl (gl_len _) (by boot_fast) (by decide)).run tk _ fun v h' tk' p => by
    obtain ⟨rfl, rfl⟩ := p
    refine PyProof.Rows.callWith_builtin1 ?_ he
    refine spliced_more (he := he) (q.run tk' _ fun v h₁ tk₁ p => spliced_none ?_)
    obtain ⟨rfl, rfl⟩ := p
    exact len_tuple (s := mk c.s h₁ tk₁) hl (by rw [List.size_toArray]; omega) (hQ _ _ _ ⟨⟨_, by rw [List.size_toArray]⟩, rfl⟩))⟩
/-- l.append(e), l.extend(e): the method is sought ahead of the argument -/
theorem ev_meth1 {o : Expr} {name : Str} {id : String} {ap : Pos} {la : Addr} {xs : List Value} {n : Nat} (S : St g L ns vs led r h) (qo : PV c h o (.ref la)) (hm : (la, listOf xs.toArray n) ∈ led) (slot : Slot "list" name id) (ty : typeOf (.builtin id) = pure (.type "method_descriptor"))
    (q : EV c h e fun v h₁ => TR c h₁ (call (.builtin id) [.ref la, v]) P) (he : starEach [e] c.env = (false, eval e c.env) :: starEach [] c.env) {pl : Sem Bool}
    (hmc : eval (.Call (.Attribute o name ap) [e] [] pos) c.env = (do
      let ov ← eval o c.env
      standAt ap.atName
      let (f, first) ← holding [ov] (getMethod ov name pl)
      callWith pos f first (backTo pos (starEach [e] c.env)) [])) : EV c h (.Call (.Attribute o name ap) [e] [] pos) P :=
  ⟨fun tk Q hQ => by
    refine PyProof.Rows.MethodCall_ (he := hmc) ?_
    refine qo.run tk _ ?_
    rintro v h' tk' ⟨rfl, rfl⟩
    refine kl_method (s := mk c.s h' tk') S.N hm slot ty ?_
    refine PyProof.Rows.callWith_method1 ?_ he
    refine spliced_more (he := he) (q.run tk' _ fun v h₁ tk₁ p => spliced_none ?_)
    exact p.run tk₁ _ hQ⟩
theorem ev_meth0 {o : Expr} {name : Str} {id : String} {ap : Pos} {la : Addr} {xs : List Value} {n : Nat} (S : St g L ns vs led r h) (qo : PV c h o (.ref la)) (hm : (la, listOf xs.toArray n) ∈ led) (slot : Slot "list" name id) (ty : typeOf (.builtin id) = pure (.type "method_descriptor"))
    (q : TR c h (call (.builtin id) [.ref la]) P) {pl : Sem Bool}
    (hmc : eval (.Call (.Attribute o name ap) [] [] pos) c.env = (do
      let ov ← eval o c.env
      standAt ap.atName
      let (f, first) ← holding [ov] (getMethod ov name pl)
      callWith pos f first (backTo pos (starEach [] c.env)) [])) : EV c h (.Call (.Attribute o name ap) [] [] pos) P :=
  ⟨fun tk Q hQ => by
    refine PyProof.Rows.MethodCall_ (he := hmc) ?_
    refine qo.run tk _ ?_
    rintro v h' tk' ⟨rfl, rfl⟩
    refine kl_method (s := mk c.s h' tk') S.N hm slot ty ?_
    exact PyProof.Rows.callWith_method0 (q.run tk' _ hQ)⟩
theorem tr_append {la : Addr} {xs : List Value} {n : Nat} {f : Obj → List (Addr × Obj)} (S : St g L ns vs led r h) (U' : Up led la (listOf xs.toArray n) f) (hz : xs.length ≤ sizeLine) : TR c h (call (.builtin "list.append") [.ref la, v]) fun v' h' => v' = .none ∧ St g L ns vs (f (listOf (xs ++ [v]).toArray (n + 1))) r h' ∧ St g L ns vs (f (listOf (xs ++ [v]).toArray (n + 1))) h h' :=
  ⟨fun tk Q hQ => m_append S.re U' hz fun h' tk' S' => hQ _ _ _ ⟨rfl, S.then S' (fun a ha => by rw [U'.keys]; exact ha), S'⟩⟩
theorem tr_extend {la b : Addr} {xs ys : List Value} {n n2 : Nat} {f : Obj → List (Addr × Obj)} (S : St g L ns vs led r h) (U' : Up led la (listOf xs.toArray n) f) (hb : (b, listOf ys.toArray n2) ∈ led) (hz : xs.length + ys.length ≤ sizeLine) :
    TR c h (call (.builtin "list.extend") [.ref la, .ref b]) fun v' h' => v' = .none ∧ ∃ n', St g L ns vs (f (listOf (xs ++ ys).toArray n')) r h' ∧ St g L ns vs (f (listOf (xs ++ ys).toArray n')) h h' :=
  ⟨fun tk Q hQ => m_extend S.re U' hb hz fun h' tk' n' S' => hQ _ _ _ ⟨rfl, n', S.then S' (fun a ha => by rw [U'.keys]; exact ha), S'⟩⟩
/-- a ledger with fewer entries -/
theorem St.dropD (S : St g L ns vs led r h) (S₀ : St g L ns vs' led' r h') (l : led'.Sublist led) (x : ∀ a ∈ led.map (·.1), a ∈ led'.map (·.1) ∨ r.get? a = none) {led'' : List (Addr × Obj)} (s : led''.Sublist led) (hk : ∀ a, a ∈ led'.map (·.1) → a ∈ led''.map (·.1)) : St g L ns vs led'' r h :=
  ⟨S.nd, S.F, fun p hp => S.N p (s.subset hp), (s.map (·.1)).nodup S.ld, fun p hp => S.lt p (s.subset hp), ⟨fun b o n e => S.go.K b o (fun hm => n (by
    rcases List.mem_cons.mp hm with q | q
    · exact q ▸ List.mem_cons_self
    · rcases x b q with y | y
      · exact List.mem_cons_of_mem _ (hk b y)
      · rw [y] at e; cases e)) e, S.go.D, S.go.T⟩⟩
end

/-! ## _law_written -/
section
variable {c : Cx} {src L : Addr} {sn : List (Str × NameKind)} {mg mb : Str → Option Value} {g h h' : Heap} {D U : Nat} {ns : List Str} {vs vs' : List (Option Value)} {led led' : List (Addr × Obj)} {r : Heap} {x : Str} {pos p' fp : Pos} {v : Value}
  {P P' : Value → Heap → Prop} {R : Flow → Heap → Prop} {e l r' e1 e2 : Expr} {a b i j : Int} {k : Nat} {F : Obj → List (Addr × Obj)} {B B' n n1 n2 : Int}
structure NxQ (M : Heap → Prop) (f : Flow) (h' : Heap) : Prop where
  next : f = .next
  m : M h'
theorem xs_if_join {test : Expr} {body orelse rest : List Stmt} {b : Bool} (M : Heap → Prop) (q : PT c h test b) (q1 : b = true → XS c h body (NxQ M)) (q2 : b = false → XS c h orelse (NxQ M)) (q3 : ∀ h', M h' → XS c h' rest R) : XS c h (.If test body orelse pos :: rest) R :=
  xs_if q (fun e => ⟨fun tk Q hQ => (q1 e).run tk Q fun f h' tk' p => by
    obtain ⟨rfl, m⟩ := p
    exact hQ _ _ _ (q3 _ m)⟩) fun e => ⟨fun tk Q hQ => (q2 e).run tk Q fun f h' tk' p => by
    obtain ⟨rfl, m⟩ := p
    exact hQ _ _ _ (q3 _ m)⟩
theorem xs_ifE_join {test : Expr} {body orelse rest : List Stmt} (M : Heap → Prop) (q : TE c h test fun b h₁ => XS c h₁ (if b then body else orelse) (NxQ M)) (q3 : ∀ h', M h' → XS c h' rest R) : XS c h (.If test body orelse pos :: rest) R :=
  xs_ifE ⟨fun tk Q hQ => q.run tk Q fun b h₁ tk' p => hQ _ _ _ ⟨fun tk Q hQ => p.run tk Q fun f h' tk' p => by
    obtain ⟨rfl, m⟩ := p
    exact hQ _ _ _ (q3 _ m)⟩⟩
/-- a display of written ints -/
def intsOf? : List Expr → Option (List Int)
  | [] => some []
  | e :: es => match intOf? e, intsOf? es with
    | some t, some ts => some (t :: ts)
    | _, _ => none
inductive IV : List Value → List Int → Prop
  | nil : IV [] []
  | cons {i t xs is} : IV xs is → IV (.int i t :: xs) (i :: is)
theorem IV.get {xs is} (q : IV xs is) {k : Nat} {i : Int} (hi : is[k]? = some i) : ∃ t, xs[k]? = some (.int i t) := by
  induction q generalizing k with
  | nil => simp at hi
  | @cons i' t xs is _ ih =>
    cases k with
    | zero => simp at hi; subst hi; exact ⟨t, rfl⟩
    | succ k => simpa using ih (by simpa using hi)
theorem IV.length {xs is} (q : IV xs is) : xs.length = is.length := by
  induction q with
  | nil => rfl
  | cons _ ih => simp [ih]
theorem ea_ints : ∀ {es : List Expr} {is : List Int} {h : Heap}, intsOf? es = some is → EA c h es fun xs h' => IV xs is ∧ h' = h
  | [], _, _, q => by cases q; exact ea_nil ⟨.nil, rfl⟩
  | e :: es, is, h, q => by
    unfold intsOf? at q
    split at q
    · rename_i t ts' h1 h2
      cases q
      obtain ⟨k, p, rfl⟩ := intOf_spec h1
      refine ea_cons (EV.mono pi_const fun v h₁ p => ?_) rfl
      obtain ⟨⟨t, e1⟩, e2⟩ := p
      refine fun pos => ⟨fun tk Q hQ => (ea_ints (h := h₁) h2 pos).run tk _ fun xs h₂ tk' p => hQ _ _ _ ?_⟩
      rw [e1]
      exact ⟨.cons p.1, p.2.trans e2⟩
    · cases q
/-- [ints][_law_take(source, n)] -/
theorem ev_pickI {es : List Expr} {e1 e2 : Expr} {is : List Int} {lp : Pos} (C : Fc c L sn mg mb g D U) (hD : 1 ≤ D) (hU : 3 ≤ U) (S : DS src g L ns vs F B r h) (k : Kd sn (Str.ofString "_law_take") .globalImplicit) (q : intsOf? es = some is) (hz : is.length ≤ 100)
    (h1 : ∀ h F r, DS src g L ns vs F B r h → PV c h e1 (.ref src)) (h2 : ∀ h, PI c h e2 (is.length : Int)) (hB : B < 1000000) (hne : 0 < is.length)
    (he1 : ∀ es, starEach (e1 :: es) c.env = (false, eval e1 c.env) :: starEach es c.env) (he2 : ∀ es, starEach (e2 :: es) c.env = (false, eval e2 c.env) :: starEach es c.env)
    (hs : ∀ la i t, subscripted (.Call (.Name (Str.ofString "_law_take") fp) [e1, e2] [] p') false (.ref la) (.int i t) = operate [.ref la, .int i t] (getItem (.ref la) (.int i t))) :
    EV c h (.Subscript (.List es lp) (.Call (.Name (Str.ofString "_law_take") fp) [e1, e2] [] p') pos) fun v h' => (Ex2 fun i t => v = .int i t ∧ i ∈ is) ∧ DS src g L ns vs F (B + 1) r h' ∧ DS src g L ns vs F (B + 1) h h' := by
  have S' := S
  obtain ⟨⟨o, so, S⟩, up⟩ := S
  have hsl : sizeLine = 16777216 := sizeLine_eq
  refine ev_subG (EV.mono (P := fun v h₁ => Ex2 fun a xs => v = .ref a ∧ h.get? a = none ∧ IV xs is ∧ DS src g L ns vs (fun o => (a, listOf xs.toArray 0) :: F o) B h h₁) (ev_list fun pos => ⟨fun tk Q hQ => (ea_ints q pos).run tk _ fun xs h₁ tk' p => hQ _ _ _ ?_⟩) ?_)
  · obtain ⟨iv, rfl⟩ := p
    exact ⟨_, _, _, _, _, _, S, by rw [iv.length]; omega, fun a h₂ n S1 S2 => ⟨a, xs, rfl, n, iv, ⟨o, so, S2⟩, fun o => .tail (up o)⟩⟩
  · rintro v h₁ ⟨a, xs, rfl, na, iv, S1⟩
    refine (ev_take C hD hU S1 k (h1 _ _ _ S1) (h2 _) hB (by omega) (by omega) he1 he2).mono fun v h₂ p => ?_
    obtain ⟨⟨d, t, rfl, d0, d1⟩, S3, _⟩ := p
    have hx : is[d.toNat]? = some (is[d.toNat]'(by omega)) := List.getElem?_eq_getElem _
    obtain ⟨tt, hw⟩ := iv.get hx
    have S4 := S3.dropHead na up
    have S5 := S'.then S4 fun _ _ h => h
    obtain ⟨⟨o3, _, S3⟩, _⟩ := S3
    exact ⟨fun tk Q hQ => i_list (S3.N _ (.head _)).1 d0 (by omega) hw (hQ _ _ _ ⟨⟨_, _, rfl, List.getElem_mem _⟩, S5, S4⟩) (hs _ _ _)⟩
/-- (12, e) -/
theorem et_pair12 {kk k1 : Nat} {p1 : Pos} (hi : ∀ h F r B, DS src g L ns vs F B r h → PI c h e i) (h0 : 0 ≤ i) (h1 : i < 256) (he : ∀ es, starEach (e :: es) c.env = (false, eval e c.env) :: starEach es c.env) : ET c src g L ns vs (.Tuple [.Constant (.int 12) k1 p1, e] kk pos) 0 := fun F B r h hB S => by
  have hi := hi _ _ _ _ S
  obtain ⟨⟨o, so, S⟩, up⟩ := S
  refine (ev_pair S pi_const hi (fun _ => rfl) he).mono fun v h₁ p => ?_
  rw [Int.add_zero]
  refine ⟨⟨(12, i), p.1, ?_⟩, ⟨⟨o, so, p.2.1⟩, up⟩, ⟨o, so, p.2.2⟩, up⟩
  simp [tokV, leastL, greatL]; omega
/-- found.append(token) -/
theorem xs_appendT {o : Expr} {ap : Pos} {sp : Pos} {fa : Addr} {xs : List Value} {ts : List (Int × Int)} {nn : Nat} {rest : List Stmt} {n : Int} (C : Fc c L sn mg mb g D U) (S : DS src g L ns vs (fun o => [(fa, listOf xs.toArray nn), (src, o)]) B r h) (tt : Toks h xs ts) (hz : ts.length ≤ 1000) (qo : PV c h o (.ref fa)) (q : ET c src g L ns vs e n) (hB : B + n ≤ 1000000)
    (he : starEach [e] c.env = (false, eval e c.env) :: starEach [] c.env) {pl : Sem Bool}
    (hmc : eval (.Call (.Attribute o (Str.ofString "append") ap) [e] [] pos) c.env = (do
      let ov ← eval o c.env
      standAt ap.atName
      let (f, first) ← holding [ov] (getMethod ov (Str.ofString "append") pl)
      callWith pos f first (backTo pos (starEach [e] c.env)) [])) (hs : swapsWith (.Call (.Attribute o (Str.ofString "append") ap) [e] [] pos) none sp.line c.env = pure false)
    (hr : ∀ h' xs' t, Toks h' xs' (ts ++ [t]) → tokV t = true → DS src g L ns vs (fun o => [(fa, listOf xs'.toArray (nn + 1)), (src, o)]) (B + n) r h' → XS c h' rest R) : XS c h (.Expr (.Call (.Attribute o (Str.ofString "append") ap) [e] [] pos) sp :: rest) R := by
  have hsl : sizeLine = 16777216 := sizeLine_eq
  have q' := q _ B r h hB S
  have S' := S
  obtain ⟨⟨oo, so, St0⟩, up⟩ := S
  refine xs_expr (ev_meth1 St0 qo (.head _) PySem.F.slot_list_append PySem.F.type_list_append (q'.mono fun v h₁ p => ?_) he hmc) C hs
  obtain ⟨⟨t, t1, tv⟩, S1, S2⟩ := p
  have k1 := S2.tup
  obtain ⟨⟨o1, so1, S1⟩, _⟩ := S1
  refine ⟨fun tk Q hQ => (tr_append S1 .head (by rw [tt.length]; omega)).run tk Q fun v' h' tk' p => hQ _ _ _ ?_⟩
  obtain ⟨rfl, S3, S4⟩ := p
  exact ⟨rfl, hr h' _ t (((tt.mono k1).mono S4.go.T).append (.cons (t1.mono S4.go.T) .nil)) tv ⟨⟨o1, so1, S3⟩, fun o => .tail .head⟩⟩
/-- found.extend(tokens) -/
theorem xs_extendT {o : Expr} {ap : Pos} {sp : Pos} {fa : Addr} {xs : List Value} {ts : List (Int × Int)} {nn : Nat} {rest : List Stmt} {B' : Int} {m : Nat} (C : Fc c L sn mg mb g D U) (S : DS src g L ns vs (fun o => [(fa, listOf xs.toArray nn), (src, o)]) B r h) (tt : Toks h xs ts) (hz : ts.length ≤ 1000) (hm : m ≤ 1000) (qo : PV c h o (.ref fa))
    (q : EV c h e fun v h' => Ex4 fun a xs' n' ts' => v = .ref a ∧ h.get? a = none ∧ Toks h' xs' ts' ∧ ts'.all tokV = true ∧ ts'.length ≤ m ∧ DS src g L ns vs (fun o => [(a, listOf xs'.toArray n'), (fa, listOf xs.toArray nn), (src, o)]) B' r h' ∧ TupK h h')
    (he : starEach [e] c.env = (false, eval e c.env) :: starEach [] c.env) {pl : Sem Bool}
    (hmc : eval (.Call (.Attribute o (Str.ofString "extend") ap) [e] [] pos) c.env = (do
      let ov ← eval o c.env
      standAt ap.atName
      let (f, first) ← holding [ov] (getMethod ov (Str.ofString "extend") pl)
      callWith pos f first (backTo pos (starEach [e] c.env)) [])) (hs : swapsWith (.Call (.Attribute o (Str.ofString "extend") ap) [e] [] pos) none sp.line c.env = pure false)
    (hr : ∀ h' xs' ts' nn', Toks h' xs' (ts ++ ts') → ts'.all tokV = true → ts'.length ≤ m → DS src g L ns vs (fun o => [(fa, listOf xs'.toArray nn'), (src, o)]) B' r h' → XS c h' rest R) : XS c h (.Expr (.Call (.Attribute o (Str.ofString "extend") ap) [e] [] pos) sp :: rest) R := by
  have hsl : sizeLine = 16777216 := sizeLine_eq
  obtain ⟨⟨oo, so, St0⟩, up⟩ := S
  refine xs_expr (ev_meth1 St0 qo (.head _) PySem.F.slot_list_extend PySem.F.type_list_extend (q.mono fun v h₁ p => ?_) he hmc) C hs
  obtain ⟨a, xs', n', ts', rfl, na, t1, tv, tl, ⟨⟨o1, so1, S1⟩, _⟩, k1⟩ := p
  refine ⟨fun tk Q hQ => (tr_extend S1 (.tail .head) (.head _) (by rw [tt.length, t1.length]; omega)).run tk Q fun v' h' tk' p => hQ _ _ _ ?_⟩
  obtain ⟨rfl, nn', S3, S4⟩ := p
  exact ⟨rfl, hr h' _ ts' nn' (((tt.mono k1).append t1).mono S4.go.T) tv tl ⟨⟨o1, so1, S3.dropHead (St0.go.D _ na)⟩, fun o => .tail .head⟩⟩
end
theorem xs_emptyD {c : Cx} {src L : Addr} {sn : List (Str × NameKind)} {mg mb : Str → Option Value} {g h : Heap} {D U : Nat} {ns : List Str} {vs : List (Option Value)} {r : Heap} {x : Str} {pos p' lp : Pos} {R : Flow → Heap → Prop} {F : Obj → List (Addr × Obj)} {B : Int} {rest : List Stmt} {vs' : Value → List (Option Value)}
    (C : Fc c L sn mg mb g D U) (S : DS src g L ns vs F B r h) (k : Kd sn x .local) (l : ∀ v, SetL ns vs x v (vs' v)) (hr : ∀ a h', h.get? a = none → DS src g L ns (vs' (.ref a)) (fun o => (a, listOf ([] : List Value).toArray 0) :: F o) B r h' → XS c h' rest R) : XS c h (.Assign [.Name x p'] (.List [] lp) pos :: rest) R := by
  obtain ⟨⟨o, so, S⟩, up⟩ := S
  have hsl : sizeLine = 16777216 := sizeLine_eq
  refine xs_assign (ns := ns) (ev_list (ea_nil ⟨_, _, _, _, _, _, S, by simp [hsl], fun a h₂ n S1 S2 => ⟨_, _, _, _, _, S1, l _, fun h' S3 S4 => hr a h' n ⟨⟨o, so, S3⟩, fun o => .tail (up o)⟩⟩⟩)) C k rfl
/-- what _law_written hands back -/
def WrittenPost (src : Addr) (B : Int) (h₀ h : Heap) (v : Value) : Prop :=
  Ex12 fun o tp a xs n ts hd la many t1 t2 t3 => h.get? src = some o ∧ SrcO o B ∧ v = .ref tp ∧ IsTup h tp [Value.ref a, .int hd t1, .int la t2, .int many t3].toArray ∧ h₀.get? a = none ∧ h.get? a = some (listOf xs.toArray n) ∧ Toks h xs ts ∧ ts.all tokV = true ∧ ts.length ≤ 60 ∧
    0 ≤ hd ∧ hd ≤ 60 ∧ 0 ≤ la ∧ la ≤ 60 ∧ 0 ≤ many ∧ many ≤ 9

section
variable {c : Cx} {src L : Addr} {sn : List (Str × NameKind)} {mg mb : Str → Option Value} {g h h' : Heap} {D U : Nat} {ns : List Str} {vs vs' : List (Option Value)} {r : Heap} {x : Str} {pos p' fp : Pos} {v : Value}
  {P P' : Value → Heap → Prop} {R : Flow → Heap → Prop} {e e1 e2 : Expr} {i : Int} {F : Obj → List (Addr × Obj)} {B : Int}
theorem pv_locD (C : Fc c L sn mg mb g D U) (S : DS src g L ns vs F B r h) (k : Kd sn x .local) (l : Loc ns vs x v) : PV c h (.Name x pos) v := by
  obtain ⟨⟨o, _, S⟩, _⟩ := S
  exact pv_loc C S k l
theorem pi_locD {t : Tok} (C : Fc c L sn mg mb g D U) (S : DS src g L ns vs F B r h) (k : Kd sn x .local) (l : Loc ns vs x (.int i t)) : PI c h (.Name x pos) i := by
  obtain ⟨⟨o, _, S⟩, _⟩ := S
  exact pi_loc C S k l
theorem xs_ifb {b : Bool} {body orelse : List Stmt} (h1 : b = true → XS c h body R) (h2 : b = false → XS c h orelse R) : XS c h (if b then body else orelse) R := by
  cases b
  · exact h2 rfl
  · exact h1 rfl
theorem xs_assign_i2 {led : List (Addr × Obj)} {rest : List Stmt} {vs' : Tok → List (Option Value)} (C : Fc c L sn mg mb g D U) (S : St g L ns vs led r h) (q : PI c h e i) (k : Kd sn x .local) (l : ∀ t, SetL ns vs x (.int i t) (vs' t))
    (hs : swapsWith e (some (.Name x p')) pos.line c.env = pure false) (hr : ∀ t h', St g L ns (vs' t) led r h' → TupK h h' → XS c h' rest R) : XS c h (.Assign [.Name x p'] e pos :: rest) R :=
  xs_assign (ns := ns) (q.mono fun v h₁ p => by
    obtain ⟨⟨t, rfl⟩, rfl⟩ := p
    exact ⟨_, _, _, _, _, S, l t, fun h' S' S2 => hr t h' S' S2.go.T⟩) C k hs
/-- _law_take(source, n) == 0 -/
theorem te_take {kz : Nat} {pz : Pos} {PB' : Bool → Heap → Prop} (C : Fc c L sn mg mb g D U) (hD : 1 ≤ D) (hU : 3 ≤ U) (S : DS src g L ns vs F B r h) (k : Kd sn (Str.ofString "_law_take") .globalImplicit) (h1 : PV c h e1 (.ref src)) (h2 : PI c h e2 i) (hB : B < 1000000) (hi : 0 < i) (hi2 : i ≤ 100)
    (q : ∀ b h', DS src g L ns vs F (B + 1) r h' → DS src g L ns vs F (B + 1) h h' → PB' b h')
    (he1 : ∀ es, starEach (e1 :: es) c.env = (false, eval e1 c.env) :: starEach es c.env) (he2 : ∀ es, starEach (e2 :: es) c.env = (false, eval e2 c.env) :: starEach es c.env) :
    TE c h (.Compare (.Call (.Name (Str.ofString "_law_take") fp) [e1, e2] [] p') [.Eq] [.Constant (.int 0) kz pz] pos) PB' := by
  refine te_eq (EV.mono (ev_take C hD hU S k h1 h2 hB hi (Int.le_trans hi2 (by decide)) he1 he2) ?_) rfl
  rintro v h₁ ⟨⟨d, t, rfl, _⟩, S1, S2⟩
  exact ⟨d, t, rfl, 0, pi_const, q _ _ S1 S2⟩
end
/-- the list under way -/
def Wr (src fa L : Addr) (g : Heap) (vs : List (Option Value)) (B : Int) (m : Int) (r h : Heap) : Prop :=
  Ex3 fun xs ts n => Toks h xs ts ∧ ts.all tokV = true ∧ ts.length ≤ m ∧ DS src g L [Str.ofString "source", Str.ofString "many", Str.ofString "found", Str.ofString "n", Str.ofString "head", Str.ofString "k", Str.ofString "last"] vs (fun o => [(fa, listOf xs.toArray n), (src, o)]) B r h
theorem Wr.mono {src fa L : Addr} {g r h : Heap} {vs : List (Option Value)} {B B' m m' : Int} (W : Wr src fa L g vs B m r h) (h1 : B ≤ B') (h2 : m ≤ m') : Wr src fa L g vs B' m' r h := by
  obtain ⟨xs, ts, n, tt, tv, tl, S⟩ := W
  exact ⟨xs, ts, n, tt, tv, by omega, S.mono h1⟩
theorem Wr.then {src fa L : Addr} {g r h h₁ : Heap} {vs vs' : List (Option Value)} {B B' m m' : Int} (W : Wr src fa L g vs B m r h) (W' : Wr src fa L g vs' B' m' h h₁) : Wr src fa L g vs' B' m' r h₁ := by
  obtain ⟨xs, ts, n, tt, tv, tl, S⟩ := W
  obtain ⟨xs', ts', n', tt', tv', tl', S'⟩ := W'
  exact ⟨xs', ts', n', tt', tv', tl', S.then S' fun _ _ h => h⟩
theorem Wr.re {src fa L : Addr} {g r h : Heap} {vs : List (Option Value)} {B m : Int} (W : Wr src fa L g vs B m r h) : Wr src fa L g vs B m h h := by
  obtain ⟨xs, ts, n, tt, tv, tl, S⟩ := W
  exact ⟨xs, ts, n, tt, tv, tl, S.re⟩

theorem xs_for_wr {c : Cx} {src fa L : Addr} {sn : List (Str × NameKind)} {mg mb : Str → Option Value} {g h r : Heap} {D U : Nat} {x : Str} {px pos : Pos} {iter : Expr} {body rest : List Stmt} {R : Flow → Heap → Prop} (C : Fc c L sn mg mb g D U) (k : Kd sn x .local) (vz : Option Value → List (Option Value)) (Bf mf : Nat → Int)
    (hset : ∀ z v, SetL [Str.ofString "source", Str.ofString "many", Str.ofString "found", Str.ofString "n", Str.ofString "head", Str.ofString "k", Str.ofString "last"] (vz z) x v (vz (some v)))
    (q : EV c h iter fun xv h₁ => Ex7 fun (b : Int) (t u w : Tok) (rr : Addr) (h₀ : Heap) (z : Option Value) => xv = .ref rr ∧ IsRange h₁ rr 0 b 1 t u w ∧ (0 ≤ b ∧ b < 100) ∧ Wr src fa L g (vz z) (Bf 0) (mf 0) r h₀ ∧ (∀ b o, h₀.get? b = some o → h₁.get? b = some o) ∧
      (∀ (i : Nat) t h₂ h₃, i < b → Wr src fa L g (vz (some (.int (0 + i) t))) (Bf i) (mf i) h₂ h₃ → XS c h₃ body fun f h' => f = .next ∧ Wr src fa L g (vz (some (.int (0 + i) t))) (Bf (i + 1)) (mf (i + 1)) h₂ h') ∧
      (∀ z h₅, Wr src fa L g (vz z) (Bf b.toNat) (mf b.toNat) r h₅ → XS c h₅ rest R))
    (hs : ∀ x, foldedSetIterable iter c.env x = pure x) : XS c h (.For (.Name x px) iter body [] pos :: rest) R := by
  refine xs_for_range (L := L) (g := g) (r := r) (ns := [Str.ofString "source", Str.ofString "many", Str.ofString "found", Str.ofString "n", Str.ofString "head", Str.ofString "k", Str.ofString "last"]) C k (q.mono fun xv h₁ p => ?_) hs
  obtain ⟨b, t, u, w, rr, h₀, z, rfl, hr, ⟨b0, b1⟩, ⟨xs, ts, n, tt, tv, tl, ⟨⟨o, so, S⟩, up⟩⟩, kp, turn, done⟩ := p
  refine ⟨0, b, t, u, w, rr, _, _, fun i vs led h => Ex5 fun z o xs n ts => vs = vz z ∧ led = [(fa, listOf xs.toArray n), (src, o)] ∧ SrcO o (Bf i) ∧ Toks h xs ts ∧ ts.all tokV = true ∧ ts.length ≤ mf i, rfl, hr, by omega, S.keepAll kp, ⟨z, o, xs, n, ts, rfl, rfl, so, tt.mono fun a o e _ => kp a o e, tv, tl⟩, ?_, ?_, ?_⟩
  · rintro i vs led h h' ⟨z, o, xs, n, ts, e1, e2, so, tt, tv, tl⟩ k
    exact ⟨z, o, xs, n, ts, e1, e2, so, tt.mono k, tv, tl⟩
  · rintro i t vs led' h₅ hi S3 e3 ⟨z, o3, xs, n, ts, rfl, rfl, so3, tt, tv, tl⟩
    refine ⟨_, hset _ _, fun h₆ S4 => ?_⟩
    refine ⟨fun tk Q hQ => (turn i t h₅ h₆ (by omega) ⟨xs, ts, n, tt.mono S4.go.T, tv, tl, ⟨⟨o3, so3, S4⟩, fun o => .tail .head⟩⟩).run tk Q fun f h' tk' p => hQ _ _ _ ?_⟩
    obtain ⟨rfl, xs', ts', n', tt', tv', tl', ⟨⟨o', so', S'⟩, _⟩⟩ := p
    exact ⟨_, _, S', rfl, _, _, _, _, _, rfl, rfl, so', tt', tv', tl'⟩
  · rintro vs led' h₅ S3 e3 ⟨z, o3, xs, n, ts, rfl, rfl, so3, tt, tv, tl⟩
    rw [Int.sub_zero] at so3 tl
    exact done z h₅ ⟨xs, ts, n, tt, tv, tl, ⟨⟨o3, so3, S3⟩, fun o => .tail .head⟩⟩
theorem xs_wrAppend {c : Cx} {src fa L : Addr} {sn : List (Str × NameKind)} {mg mb : Str → Option Value} {g h r : Heap} {D U : Nat} {e o : Expr} {pos ap sp : Pos} {rest : List Stmt} {R : Flow → Heap → Prop} {vs : List (Option Value)} {B m n : Int} (C : Fc c L sn mg mb g D U) (W : Wr src fa L g vs B m r h) (qo : ∀ F, DS src g L [Str.ofString "source", Str.ofString "many", Str.ofString "found", Str.ofString "n", Str.ofString "head", Str.ofString "k", Str.ofString "last"] vs F B r h → PV c h o (.ref fa)) (q : ET c src g L [Str.ofString "source", Str.ofString "many", Str.ofString "found", Str.ofString "n", Str.ofString "head", Str.ofString "k", Str.ofString "last"] vs e n) (hB : B + n ≤ 1000000) (hm : m ≤ 1000)
    (he : starEach [e] c.env = (false, eval e c.env) :: starEach [] c.env) {pl : Sem Bool}
    (hmc : eval (.Call (.Attribute o (Str.ofString "append") ap) [e] [] pos) c.env = (do
      let ov ← eval o c.env
      standAt ap.atName
      let (f, first) ← holding [ov] (getMethod ov (Str.ofString "append") pl)
      callWith pos f first (backTo pos (starEach [e] c.env)) [])) (hs : swapsWith (.Call (.Attribute o (Str.ofString "append") ap) [e] [] pos) none sp.line c.env = pure false)
    (hr : ∀ h', Wr src fa L g vs (B + n) (m + 1) r h' → XS c h' rest R) : XS c h (.Expr (.Call (.Attribute o (Str.ofString "append") ap) [e] [] pos) sp :: rest) R := by
  obtain ⟨xs, ts, nn, tt, tv, tl, S⟩ := W
  refine xs_appendT C S tt (by omega) (qo _ S) q hB he hmc hs fun h' xs' t tt' t1 S' => hr _ ⟨xs', _, _, tt', ?_, ?_, S'⟩
  · simp [List.all_append, tv, t1]
  · rw [List.length_append]; simp; omega
theorem toksN {src fa L : Addr} {g r h : Heap} {vs : List (Option Value)} {B m : Int} (W : Wr src fa L g vs B m r h) : ∃ F, DS src g L [Str.ofString "source", Str.ofString "many", Str.ofString "found", Str.ofString "n", Str.ofString "head", Str.ofString "k", Str.ofString "last"] vs F B r h := by
  obtain ⟨xs, ts, n, tt, tv, tl, S⟩ := W
  exact ⟨_, S⟩
theorem written_spec {w : World} {h : Heap} {src : Addr} {B : Int} {o : Obj} (so : SrcO o B) (hB : B < 990000) : Spec w 299 [.ref src] [(src, o)] 6 18 h (WrittenPost src (B + 200) h) := by
  refine spec_xs (D := 5) (U := 15) [Str.ofString "source", Str.ofString "many", Str.ofString "found", Str.ofString "n", Str.ofString "head", Str.ofString "k", Str.ofString "last"] 1 rfl (by kernel_rfl) (fun _ _ => BindsTo.of_eq rfl) rfl (by decide +kernel) (by decide) (by decide +kernel) (by decide +kernel) (by decide +kernel) (by simp) (by simpa using so.notT) ?_
  intro c mg mb g h₁ L hw C hk hL S
  dsimp only at C
  subst hw
  have S0 : DS src g L _ [some (.ref src), none, none, none, none, none, none] (fun o => [(src, o)]) B h h₁ := ⟨⟨o, so, S⟩, fun o => .head⟩
  clear S
  have hsl : sizeLine = 16777216 := sizeLine_eq
  refine xs_assignD (X := fun v _ => Ex2 fun i t => v = .int i t ∧ i ∈ [(0 : Int), 1, 1, 2, 2, 3, 9, 1]) C (EV.mono (ev_pickI (is := [0, 1, 1, 2, 2, 3, 9, 1]) C (by decide) (by decide) S0 (by (repeat' (first | exact Kd.head | apply Kd.tail))) (by rfl) (by decide) (fun h F r S => pv_locD C S (by (repeat' (first | exact Kd.head | apply Kd.tail))) (by (repeat' (first | exact Loc.head | apply Loc.tail)))) (fun h => by exact pi_const) (by omega) (by decide) (fun _ => rfl) (fun _ => rfl) (fun _ _ _ => by with_unfolding_all rfl)) fun v h p => ⟨p.1, p.2.1⟩) (by (repeat' (first | exact Kd.head | apply Kd.tail))) (fun v => by (repeat' (first | exact SetL.head | apply SetL.tail))) rfl ?_
  rintro _ _ h₂ ⟨many, tm, rfl, hmem⟩ _ S1
  have hm : 0 ≤ many ∧ many ≤ 9 := by
    simp only [List.mem_cons, List.not_mem_nil, or_false] at hmem
    omega
  clear S0 hmem
  refine xs_emptyD C S1 (by (repeat' (first | exact Kd.head | apply Kd.tail))) (fun v => by (repeat' (first | exact SetL.head | apply SetL.tail))) fun fa h₃ nf S2 => ?_
  have nf0 := S1.dom _ nf
  have W2 : Wr src fa L g [some (.ref src), some (.int many tm), some (.ref fa), none, none, none, none] (B + 1) 0 h h₃ := ⟨[], [], 0, .nil, rfl, by simp, S2⟩
  clear S1 S2
  obtain ⟨F2, S2⟩ := toksN W2
  obtain ⟨⟨o2, _, So⟩, _⟩ := S2
  refine xs_for_wr (r := h) (fa := fa) (src := src) (g := g) C (by (repeat' (first | exact Kd.head | apply Kd.tail))) (fun z => [some (.ref src), some (.int many tm), some (.ref fa), z, none, none, none]) (fun i => B + 1 + 3 * i) (fun i => 3 * i) (fun z v => by (repeat' (first | exact SetL.head | apply SetL.tail))) (EV.mono (ev_range1 (P := fun k h' => k = many + 1 ∧ h' = h₃) C So (by (repeat' (first | exact Kd.head | apply Kd.tail))) (EV.mono (pi_add (by (exact pi_loc (by assumption) (by assumption) (by (repeat' (first | exact Kd.head | apply Kd.tail))) (by (repeat' (first | exact Loc.head | apply Loc.tail))))) pi_const) ?_) rfl) ?_) (fun _ => rfl)
  · rintro v h' ⟨⟨t, rfl⟩, rfl⟩
    exact ⟨_, t, rfl, rfl, rfl⟩
  rintro v h₄ ⟨_, _, rr, t, u, w, rfl, ⟨rfl, rfl⟩, hr, kp⟩
  refine ⟨many + 1, t, u, w, rr, _, _, rfl, hr, by omega, W2.mono (by simp) (by simp), kp, ?_, ?_⟩
  · intro i tn h₅ h₆ hi W3
    obtain ⟨xs, ts, n, tt, tv, tl, S3⟩ := W3
    have Sx := S3
    obtain ⟨⟨o3, _, So⟩, _⟩ := Sx
    refine xs_if_join (fun h' => Wr src fa L g [some (.ref src), some (.int many tm), some (.ref fa), some (.int (0 + i) tn), none, none, none] (B + 1 + 3 * i + 1) (3 * i + 2) h₅ h') (pt_gt (by (exact pi_loc (by assumption) (by assumption) (by (repeat' (first | exact Kd.head | apply Kd.tail))) (by (repeat' (first | exact Loc.head | apply Loc.tail))))) pi_const rfl) (fun hc => ?_) (fun hc => xs_nil ⟨rfl, xs, ts, n, tt, tv, by omega, S3.mono (by omega)⟩) fun h₇ W4 => ?_
    · refine xs_extendT (m := 2) (B' := B + 1 + 3 * i + 1) C S3 tt (by omega) (by omega) (pv_locD C S3 (by (repeat' (first | exact Kd.head | apply Kd.tail))) (by (repeat' (first | exact Loc.head | apply Loc.tail)))) (EV.mono (el_two (n1 := 1) (n2 := 0) S3 (et_tok C (by omega) (by omega) (by (repeat' (first | exact Kd.head | apply Kd.tail))) (gl_law_mark _) (fn_law_mark _) (fun h B o so hB => mark_spec so hB) (by (repeat' (first | exact Kd.head | apply Kd.tail))) (by (repeat' (first | exact Loc.head | apply Loc.tail)))) (et_pair12 (i := 48 + (0 + i)) (fun h F r B S => pi_add pi_const (pi_locD C S (by (repeat' (first | exact Kd.head | apply Kd.tail))) (by (repeat' (first | exact Loc.head | apply Loc.tail))))) (by omega) (by omega) (fun _ => rfl)) (by decide) (by omega) (fun _ => rfl) fun _ => rfl) ?_) rfl rfl rfl ?_
      · rintro v h₇ ⟨a, xs', ts', rfl, na, tt', tv', tl', S4, S5⟩
        exact ⟨a, xs', _, ts', rfl, na, tt', tv', by omega, S4.mono (by omega), S5.tup⟩
      · intro h₇ xs' ts' nn' tt' tv' tl' S4
        refine xs_nil ⟨rfl, xs', _, nn', tt', by simp only [List.all_append, Bool.and_eq_true]; exact ⟨tv, tv'⟩, by rw [List.length_append]; omega, S4.mono (by omega)⟩
    · obtain ⟨xs, ts, n, tt, tv, tl, S3⟩ := W4
      have Sx := S3
      obtain ⟨⟨o3, _, So⟩, _⟩ := Sx
      refine xs_ifE_join (fun h' => Wr src fa L g [some (.ref src), some (.int many tm), some (.ref fa), some (.int (0 + i) tn), none, none, none] (B + 1 + 3 * (i + 1 : Nat)) (3 * (i + 1 : Nat)) h₅ h') (te_and2 (pt_lt (by (exact pi_loc (by assumption) (by assumption) (by (repeat' (first | exact Kd.head | apply Kd.tail))) (by (repeat' (first | exact Loc.head | apply Loc.tail))))) pi_const rfl) (fun _ => te_take C (by decide) (by decide) S3 (by (repeat' (first | exact Kd.head | apply Kd.tail))) (by (exact pv_loc (by assumption) (by assumption) (by (repeat' (first | exact Kd.head | apply Kd.tail))) (by (repeat' (first | exact Loc.head | apply Loc.tail))))) pi_const (by omega) (by decide) (by decide) (fun b h' S4 S4' => xs_ifb (fun _ => ?_) fun _ => ?_) (fun _ => rfl) fun _ => rfl) fun _ => ?_) fun h' W5 => xs_nil ⟨rfl, W5⟩
      · refine xs_wrAppend (n := 1) C (m := 3 * i + 2) (W := ⟨xs, ts, n, tt.mono S4'.tup, tv, by omega, S4⟩) (fun F S => pv_locD C S (by (repeat' (first | exact Kd.head | apply Kd.tail))) (by (repeat' (first | exact Loc.head | apply Loc.tail)))) (et_tok C (by omega) (by omega) (by (repeat' (first | exact Kd.head | apply Kd.tail))) (gl_law_plain _) (fn_law_plain _) (fun h B o so hB => plain_spec so hB) (by (repeat' (first | exact Kd.head | apply Kd.tail))) (by (repeat' (first | exact Loc.head | apply Loc.tail)))) (by omega) (by omega) rfl rfl rfl fun h₇ W5 => xs_nil ⟨rfl, W5.mono (by omega) (by omega)⟩
      · exact xs_nil ⟨rfl, xs, ts, n, tt.mono S4'.tup, tv, by omega, S4.mono (by omega)⟩
      · exact xs_nil ⟨rfl, xs, ts, n, tt, tv, by omega, S3.mono (by omega)⟩
  intro zn h₄ W3
  have W3 := W3.mono (B' := B + 31) (m' := 30) (by omega) (by omega)
  clear W2 So
  obtain ⟨xs, ts, n, tt, tv, tl, S3⟩ := W3
  refine xs_ifE_join (fun h' => Wr src fa L g [some (.ref src), some (.int many tm), some (.ref fa), zn, none, none, none] (B + 33) 31 h h') (te_take C (by decide) (by decide) S3 (by (repeat' (first | exact Kd.head | apply Kd.tail))) (pv_locD C S3 (by (repeat' (first | exact Kd.head | apply Kd.tail))) (by (repeat' (first | exact Loc.head | apply Loc.tail)))) pi_const (by omega) (by decide) (by decide) (fun b h' S4 S4' => xs_ifb (fun _ => ?_) fun _ => xs_nil ⟨rfl, xs, ts, n, tt.mono S4'.tup, tv, by omega, S4.mono (by omega)⟩) (fun _ => rfl) fun _ => rfl) fun h₅ W4 => ?_
  · exact xs_wrAppend (n := 1) C (m := 30) (W := ⟨xs, ts, n, tt.mono S4'.tup, tv, by omega, S4⟩) (fun F S => pv_locD C S (by (repeat' (first | exact Kd.head | apply Kd.tail))) (by (repeat' (first | exact Loc.head | apply Loc.tail)))) (et_tok C (by omega) (by omega) (by (repeat' (first | exact Kd.head | apply Kd.tail))) (gl_law_mark _) (fn_law_mark _) (fun h B o so hB => mark_spec so hB) (by (repeat' (first | exact Kd.head | apply Kd.tail))) (by (repeat' (first | exact Loc.head | apply Loc.tail)))) (by omega) (by omega) rfl rfl rfl fun h₇ W5 => xs_nil ⟨rfl, W5.mono (by omega) (by omega)⟩
  clear S3 tt tv tl
  obtain ⟨xs, ts, n, tt, tv, tl, ⟨o3, so3, So⟩, up⟩ := W4
  have hd0 : (xs.length : Int) ≤ 31 := by rw [tt.length]; exact tl
  refine xs_assign_i2 C So (ev_len C So (by (repeat' (first | exact Kd.head | apply Kd.tail))) (by (exact pv_loc (by assumption) (by assumption) (by (repeat' (first | exact Kd.head | apply Kd.tail))) (by (repeat' (first | exact Loc.head | apply Loc.tail))))) (isL (So.N _ (.head _)).1) (by omega) rfl) (by (repeat' (first | exact Kd.head | apply Kd.tail))) (fun t => by (repeat' (first | exact SetL.head | apply SetL.tail))) rfl fun th h₆ S5 k5 => ?_
  have W5 : Wr src fa L g [some (.ref src), some (.int many tm), some (.ref fa), zn, some (.int xs.length th), none, none] (B + 33) 31 h h₆ := ⟨xs, ts, n, tt.mono k5, tv, tl, ⟨o3, so3, S5⟩, up⟩
  have h0 : (0 : Int) ≤ xs.length := by omega
  generalize (xs.length : Int) = hd at W5 hd0 h0
  clear So S5 k5 tt tv tl up so3 xs ts n o3
  refine xs_wrAppend (n := 1) C W5 (fun F S => pv_locD C S (by (repeat' (first | exact Kd.head | apply Kd.tail))) (by (repeat' (first | exact Loc.head | apply Loc.tail)))) (fun F B r h hB S => ev_pick (ts := [(1, 123), (1, 40)]) C (by decide) (by decide) S (by (repeat' (first | exact Kd.head | apply Kd.tail))) (by rfl) (by decide +kernel) (by decide) (fun h F r S => pv_locD C S (by (repeat' (first | exact Kd.head | apply Kd.tail))) (by (repeat' (first | exact Loc.head | apply Loc.tail)))) (fun h => by exact pi_const) (by omega) (by decide) (fun _ => rfl) (fun _ => rfl) (fun _ _ _ => by with_unfolding_all rfl)) (by omega) (by omega) rfl rfl rfl fun h₇ W6 => ?_
  obtain ⟨xs6, ts6, n6, tt6, tv6, tl6, S6⟩ := id W6
  have Sx := S6
  obtain ⟨⟨o6, _, So⟩, _⟩ := Sx
  refine xs_for_wr (r := h) (fa := fa) (src := src) (g := g) C (by (repeat' (first | exact Kd.head | apply Kd.tail))) (fun z => [some (.ref src), some (.int many tm), some (.ref fa), zn, some (.int hd th), z, none]) (fun i => B + 35 + 5 * i) (fun i => 32 + 6 * i) (fun z v => by (repeat' (first | exact SetL.head | apply SetL.tail))) (EV.mono (ev_range1 (P := fun k h' => 0 ≤ k ∧ k < 4 ∧ Wr src fa L g [some (.ref src), some (.int many tm), some (.ref fa), zn, some (.int hd th), none, none] (B + 35) 32 h h') C So (by (repeat' (first | exact Kd.head | apply Kd.tail))) (EV.mono (ev_take (i := if many < 9 then 4 else 2) C (by decide) (by decide) S6 (by (repeat' (first | exact Kd.head | apply Kd.tail))) (by (exact pv_loc (by assumption) (by assumption) (by (repeat' (first | exact Kd.head | apply Kd.tail))) (by (repeat' (first | exact Loc.head | apply Loc.tail))))) (ev_ifexp (pt_lt (by (exact pi_loc (by assumption) (by assumption) (by (repeat' (first | exact Kd.head | apply Kd.tail))) (by (repeat' (first | exact Loc.head | apply Loc.tail))))) pi_const rfl) (fun hc => ?_) (fun hc => ?_)) (by omega) (by split <;> omega) (by split <;> omega) (fun _ => rfl) fun _ => rfl) ?_) rfl) ?_) (fun _ => rfl)
  · rw [if_pos (of_decide_eq_true hc)]; exact pi_const
  · rw [if_neg (of_decide_eq_false hc)]; exact pi_const
  · rintro v h₈ ⟨⟨d, t, rfl, d0, d1⟩, S7, S7'⟩
    refine ⟨d, t, rfl, d0, by split at d1 <;> omega, xs6, ts6, n6, tt6.mono S7'.tup, tv6, by omega, S7.mono (by omega)⟩
  rintro v h₈ ⟨kk, h₉, rr, t, u, w, rfl, ⟨k0, k1, W7⟩, hr, kp⟩
  refine ⟨kk, t, u, w, rr, h₉, none, rfl, hr, by omega, W7.mono (by omega) (by omega), kp, ?_, ?_⟩
  · intro i tn h₅ h₆ hi W3
    obtain ⟨xs, ts, n, tt, tv, tl, S3⟩ := W3
    have Sx := S3
    obtain ⟨⟨o3, _, So⟩, _⟩ := Sx
    refine xs_extendT (m := 6) (B' := B + 35 + 5 * (i + 1 : Nat)) C S3 tt (by omega) (by omega) (pv_locD C S3 (by (repeat' (first | exact Kd.head | apply Kd.tail))) (by (repeat' (first | exact Loc.head | apply Loc.tail)))) (EV.mono (ev_drawList (D' := 5) (U' := 15) (m := 6) (n := 5) C (by omega) (by omega) S3 (pv_glob C So (by (repeat' (first | exact Kd.head | apply Kd.tail))) (gl_law_piece _)) (fn_law_piece _) (ea_cons (EV.mono (pv_loc C So (by (repeat' (first | exact Kd.head | apply Kd.tail))) (by (repeat' (first | exact Loc.head | apply Loc.tail)))) ?_) rfl) rfl) ?_) rfl rfl rfl ?_
    · rintro v h₄ ⟨rfl, rfl⟩
      refine ea_cons (EV.mono (pv_loc C So (by (repeat' (first | exact Kd.head | apply Kd.tail))) (by (repeat' (first | exact Loc.head | apply Loc.tail)))) ?_) rfl
      rintro v h₄ ⟨rfl, rfl⟩
      refine ea_cons (EV.mono pi_const ?_) rfl
      rintro v h₄ ⟨⟨t3, rfl⟩, rfl⟩
      exact ea_nil ⟨rfl, fun o so => piece_spec so (by omega) hm.1 hm.2⟩
    · rintro v h₇ ⟨a, xs', nn', ts', rfl, na, tt', tv', tl', S4, S5⟩
      exact ⟨a, xs', _, ts', rfl, na, tt', tv', by omega, S4.mono (by omega), S5.tup⟩
    · intro h₇ xs' ts' nn' tt' tv' tl' S4
      refine xs_nil ⟨rfl, xs', _, nn', tt', by simp only [List.all_append, Bool.and_eq_true]; exact ⟨tv, tv'⟩, by rw [List.length_append]; omega, S4⟩
  intro zk h₅ W8
  have W8 := W8.mono (B' := B + 55) (m' := 56) (by omega) (by omega)
  clear W7 So S6 W6 kp hr tt6 tv6 tl6
  obtain ⟨xs, ts, n, tt, tv, tl, ⟨o3, so3, So⟩, up⟩ := W8
  have la1 : (xs.length : Int) ≤ 56 := by rw [tt.length]; exact tl
  refine xs_assign_i2 C So (ev_len C So (by (repeat' (first | exact Kd.head | apply Kd.tail))) (by (exact pv_loc (by assumption) (by assumption) (by (repeat' (first | exact Kd.head | apply Kd.tail))) (by (repeat' (first | exact Loc.head | apply Loc.tail))))) (isL (So.N _ (.head _)).1) (by omega) rfl) (by (repeat' (first | exact Kd.head | apply Kd.tail))) (fun t => by (repeat' (first | exact SetL.head | apply SetL.tail))) rfl fun tl h₆ S5 k5 => ?_
  have W5 : Wr src fa L g [some (.ref src), some (.int many tm), some (.ref fa), zn, some (.int hd th), zk, some (.int xs.length tl)] (B + 55) 56 h h₆ := ⟨xs, ts, n, tt.mono k5, tv, by assumption, ⟨o3, so3, S5⟩, up⟩
  have la0 : (0 : Int) ≤ xs.length := by omega
  generalize (xs.length : Int) = la at W5 la0 la1
  clear So S5 k5 tt tv up so3
  refine xs_wrAppend (n := 1) C W5 (fun F S => pv_locD C S (by (repeat' (first | exact Kd.head | apply Kd.tail))) (by (repeat' (first | exact Loc.head | apply Loc.tail)))) (fun F B r h hB S => ev_pick (ts := [(2, 125), (2, 41)]) C (by decide) (by decide) S (by (repeat' (first | exact Kd.head | apply Kd.tail))) (by rfl) (by decide +kernel) (by decide) (fun h F r S => pv_locD C S (by (repeat' (first | exact Kd.head | apply Kd.tail))) (by (repeat' (first | exact Loc.head | apply Loc.tail)))) (fun h => by exact pi_const) (by omega) (by decide) (fun _ => rfl) (fun _ => rfl) (fun _ _ _ => by with_unfolding_all rfl)) (by omega) (by omega) rfl rfl rfl fun h₇ W6 => ?_
  obtain ⟨xs6, ts6, n6, tt6, tv6, tl6, S6⟩ := id W6
  have Sx := S6
  obtain ⟨⟨o6, _, So⟩, _⟩ := Sx
  refine xs_for_wr (r := h) (fa := fa) (src := src) (g := g) C (by (repeat' (first | exact Kd.head | apply Kd.tail))) (fun z => [some (.ref src), some (.int many tm), some (.ref fa), zn, some (.int hd th), z, some (.int la tl)]) (fun i => B + 57 + 1 * i) (fun i => 57 + 1 * i) (fun z v => by (repeat' (first | exact SetL.head | apply SetL.tail))) (EV.mono (ev_range1 (P := fun k h' => 0 ≤ k ∧ k < 3 ∧ Wr src fa L g [some (.ref src), some (.int many tm), some (.ref fa), zn, some (.int hd th), zk, some (.int la tl)] (B + 57) 57 h h') C So (by (repeat' (first | exact Kd.head | apply Kd.tail))) (EV.mono (ev_take (i := 3) C (by decide) (by decide) S6 (by (repeat' (first | exact Kd.head | apply Kd.tail))) (by (exact pv_loc (by assumption) (by assumption) (by (repeat' (first | exact Kd.head | apply Kd.tail))) (by (repeat' (first | exact Loc.head | apply Loc.tail))))) pi_const (by omega) (by omega) (by omega) (fun _ => rfl) fun _ => rfl) ?_) rfl) ?_) (fun _ => rfl)
  · rintro v h₈ ⟨⟨d, t, rfl, d0, d1⟩, S7, S7'⟩
    exact ⟨d, t, rfl, d0, by omega, xs6, ts6, n6, tt6.mono S7'.tup, tv6, by omega, S7.mono (by omega)⟩
  rintro v h₈ ⟨kk, h₉, rr, t, u, w, rfl, ⟨k0, k1, W7⟩, hr, kp⟩
  refine ⟨kk, t, u, w, rr, h₉, zk, rfl, hr, by omega, W7.mono (by omega) (by omega), kp, ?_, ?_⟩
  · intro i tn h₅ h₆ hi W3
    refine xs_wrAppend (n := 1) C W3 (fun F S => pv_locD C S (by (repeat' (first | exact Kd.head | apply Kd.tail))) (by (repeat' (first | exact Loc.head | apply Loc.tail)))) (et_tok C (by omega) (by omega) (by (repeat' (first | exact Kd.head | apply Kd.tail))) (gl_law_any _) (fn_law_any _) (fun h B o so hB => any_spec so hB) (by (repeat' (first | exact Kd.head | apply Kd.tail))) (by (repeat' (first | exact Loc.head | apply Loc.tail)))) (by omega) (by omega) rfl rfl rfl fun h₇ W5 => xs_nil ⟨rfl, W5.mono (by omega) (by omega)⟩
  intro z2 h₅ W8
  obtain ⟨xs, ts, n, tt, tv, tl2, S⟩ := W8
  refine xs_ret (ev_tuple (ea_cons (EV.mono (pv_locD C S (by (repeat' (first | exact Kd.head | apply Kd.tail))) (by (repeat' (first | exact Loc.head | apply Loc.tail)))) ?_) rfl))
  rintro v h₆ ⟨rfl, rfl⟩
  refine ea_cons (EV.mono (pv_locD C S (by (repeat' (first | exact Kd.head | apply Kd.tail))) (by (repeat' (first | exact Loc.head | apply Loc.tail)))) ?_) rfl
  rintro v h₆ ⟨rfl, rfl⟩
  refine ea_cons (EV.mono (pv_locD C S (by (repeat' (first | exact Kd.head | apply Kd.tail))) (by (repeat' (first | exact Loc.head | apply Loc.tail)))) ?_) rfl
  rintro v h₆ ⟨rfl, rfl⟩
  refine ea_cons (EV.mono (pv_locD C S (by (repeat' (first | exact Kd.head | apply Kd.tail))) (by (repeat' (first | exact Loc.head | apply Loc.tail)))) ?_) rfl
  rintro v h₆ ⟨rfl, rfl⟩
  obtain ⟨⟨o8, so8, S⟩, up⟩ := S
  refine ea_nil ⟨_, _, _, _, _, _, S, by simp [hsl], fun a h₆ na ia S9 S10 => ⟨S9.fin, ?_⟩⟩
  exact ⟨o8, a, fa, xs, n, ts, hd, la, many, th, tl, tm, (S9.N _ (.tail _ (.head _))).1, so8.mono (by omega), rfl, ia, nf0, (S9.N _ (.head _)).1, tt.mono S10.go.T, tv, by omega, h0, by omega, la0, by omega, hm.1, hm.2⟩

/-! ## comprehensions -/
abbrev inC (c : Cx) (scope : Scope) (cl : List (Str × Addr)) (Ca : Addr) : Cx := { c with env := compEnvC scope cl Ca c.env, E := fun _ _ => False }
/-- the tests of a clause: none or one -/
def TES (c : Cx) (h : Heap) : List Expr → (Bool → Heap → Prop) → Prop
  | [], K => K true h
  | [t], K => TE c h t K
  | _, _ => False
/-- what a turn of a comprehension leaves -/
def CDn (g' : Heap) (Ca : Addr) (nsc : List Str) (vs : List (Option Value)) (Dd : Addr) (ys : List Value) (m : Nat) (ks : List Addr) (Y : List Value → List (Addr × Obj) → Heap → Prop) (h₃ : Heap) (ys' : List Value) (h' : Heap) : Prop :=
  ∃ led'', St g' Ca nsc vs ((Dd, listOf ys.toArray m) :: led'') h₃ h' ∧ led''.map (·.1) = ks ∧ Y ys' led'' h'
def CompOK (c : Cx) (g : Heap) (mg mb : Str → Option Value) (D U : Nat) (scope : Scope) (cl : List (Str × Addr)) (snc : List (Str × NameKind)) (nsc : List Str) (vz : Option Value → List (Option Value)) (ifs : List Expr) (elt : Expr) (K : Addr → Addr → Heap → Prop) (it : Value) (h₂ : Heap) : Prop :=
  Ex8 fun (h₀ : Heap) (own : List (Addr × Obj)) (n : Nat) (It : Addr) (fp : List Addr) (Pw : Nat → Value → Prop) (Sw : Nat → Heap → Prop) (Y : Nat → List Value → List (Addr × Obj) → Heap → Prop) =>
    it = .ref It ∧ Walks c.prog c.w c.A It fp [It] n Pw Sw ∧ Sw 0 h₂ ∧ h₀.get? It = none ∧ (∀ b o, h₀.get? b = some o → h₂.get? b = some o) ∧ g.StaysIn h₀ ∧ (∀ p ∈ own, h₀.get? p.1 = some p.2 ∧ g.get? p.1 = none) ∧
    (own.map (·.1)).Nodup ∧ (∀ p ∈ own, ¬ IsT p.2) ∧ (∀ b ∈ fp, b = It ∨ (h₀.get? b ≠ none ∧ b ∉ own.map (·.1))) ∧ (∀ i h, Sw i h → ∃ o, h.get? It = some o ∧ ¬ IsT o) ∧ n ≤ sizeLine ∧ Y 0 [] own h₂ ∧
    (∀ i ys led h h', Y i ys led h → TupK h h' → Y i ys led h') ∧
    (∀ i v ys m Dd led' h₃ Ca g', i < n → Pw i v → Fc (inC c scope cl Ca) Ca snc mg mb g' D U → (∀ b o, b ∉ own.map (·.1) → h₀.get? b = some o → g'.get? b = some o) → St g' Ca nsc (vz (some v)) ((Dd, listOf ys.toArray m) :: led') h₃ h₃ → led'.map (·.1) = own.map (·.1) → Y i ys led' h₃ → ys.length ≤ i →
      TES (inC c scope cl Ca) h₃ ifs fun p h₄ => if p then EV (inC c scope cl Ca) h₄ elt fun y h₅ => CDn g' Ca nsc (vz (some v)) Dd ys m (own.map (·.1)) (Y (i + 1)) h₃ (ys ++ [y]) h₅ else CDn g' Ca nsc (vz (some v)) Dd ys m (own.map (·.1)) (Y (i + 1)) h₃ ys h₄) ∧
    (∀ Dd Ca h' ys m led', h₀.get? Ca = none → Dd ≠ Ca → Go (own.map (·.1)) h₀ h' → h₀.get? Dd = none → h'.get? Dd = some (listOf ys.toArray m) → ys.length ≤ n → led'.map (·.1) = own.map (·.1) → (∀ p ∈ led', h'.get? p.1 = some p.2) → Y n ys led' h' → K Dd Ca h')
theorem gF {α : Type} {M : Model} {A : Around} {t : Sem α} {Q : α → Shared → Prop} {E : Value → Shared → Prop} {s : Shared} (h : wpAny M A t Q (fun _ _ => False) s) : wpAny M A t Q E s := wpAny_mono h (fun _ _ q => q) fun _ _ q => q.elim
theorem tes_run {c : Cx} {h : Heap} {ifs : List Expr} {K : Bool → Heap → Prop} (q : TES c h ifs K) (tk : Nat) (Q : Bool → Shared → Prop) (hQ : ∀ b h' tk', K b h' → Q b (mk c.s h' tk')) :
    wpAny (model c.prog c.w) c.A (forIn ifs true fun e r => if r = true then do let ok ← isTrue e c.env (eval e c.env); pure (ForInStep.yield ok) else pure (ForInStep.yield r)) Q c.E (mk c.s h tk) :=
  match ifs, q with
  | [], q => wpAny_tests_nil (hQ _ _ _ q)
  | [t], q => wpAny_tests_one (q.run tk Q hQ)
theorem comp_block {c : Cx} {L : Addr} {sn snc : List (Str × NameKind)} {mg mb : Str → Option Value} {g h₂ : Heap} {D U : Nat} {nsc : List Str} {scope : Scope} {cl : List (Str × Addr)} {elt iter : Expr} {ifs : List Expr} {x : Str} {px pos : Pos} {K : Addr → Addr → Heap → Prop} {it : Value} {vz : Option Value → List (Option Value)}
    (C : Fc c L sn mg mb g D U) (hsn : (relabel scope c.env).names = snc) (hsnd : (snc.map (·.1)).Nodup) (hdbg : ∀ p ∈ snc, (p.1 == ("__debug__" : Str)) = false) (hnd : nsc.Nodup) (hkind : scope.kind = .function) (hcell : ∀ y ∈ scope.names, y.2 ≠ .cell)
    (hvz : vz none = nsc.map fun _ => none) (hset : ∀ z v, SetL nsc (vz z) x v (vz (some v))) (kx : Kd snc x .local) (q : CompOK c g mg mb D U scope cl snc nsc vz ifs elt K it h₂) {RR : Value → Addr → Result → Shared → Prop} {tk : Nat}
    (hRR : ∀ Dd Ca h' tk' m', h₂.get? Ca = none → Dd ≠ Ca → h'.Ns Ca m' → (∀ h'', Heap.SameBut Ca h' h'' → K Dd Ca h'') → (∀ b o, g.get? b = some o → h'.get? b = some o) → RR (.ref Dd) Ca (.ok .next) (mk c.s h' tk')) :
    wpAny (model c.prog c.w) c.A (newList []) (fun acc s₃ => wpAny (model c.prog c.w) c.A (newFunctionEnv scope c.env.globals cl [] c.env.qual none .none (some c.env)) (fun cenv s₄ =>
      codeAny (model c.prog c.w) c.A (.compStart (.ListComp elt [⟨.Name x px, iter, ifs, 0⟩] scope pos) 0 it acc { cenv with scope := relabel scope c.env }) (RR acc cenv.locals) s₄) c.E s₃) c.E (mk c.s h₂ tk) := by
  obtain ⟨h₀, own, n, It, fp, Pw, Sw, Y, rfl, W, sw, n0, k02, gk, hown, hod, hot, hfp, hsw, hsz, y0, yst, turn, done⟩ := q
  refine wpAny_newObj_type (wpAny_newFunctionEnv hcell (by intro y hy; simp at hy) (fun h₁ hns₁ hsb₁ => ?_) hkind)
  dsimp only at hns₁ hsb₁ ⊢
  generalize hH2 : h₂.push { cls := .type "list", dict := none, data := .seq ([] : List Value).toArray } = H2 at hns₁ hsb₁ ⊢
  have hCa : H2.objs.size = h₂.objs.size + 1 := by rw [← hH2, Heap.size_push]
  have hDC : h₂.objs.size ≠ H2.objs.size := by rw [hCa]; exact Nat.ne_of_lt (Nat.lt_succ_self _)
  have fresh : ∀ a, h₂.objs.size ≤ a → h₂.get? a = none := fun a ha => fresh_ge ha
  have old : ∀ b o, h₂.get? b = some o → h₁.get? b = some o := fun b o e => hsb₁.extBut b o (by rw [hCa]; exact Nat.ne_of_lt (Nat.lt_succ_of_lt (Heap.lt_size e))) (Heap.get?_push_of_some _ (hH2 ▸ Heap.get?_push_of_some _ e))
  have hD1 : h₁.get? h₂.objs.size = some (listOf ([] : List Value).toArray 0) := hsb₁.extBut _ _ hDC (Heap.get?_push_of_some _ (hH2 ▸ Heap.get?_push_size _ rfl))
  have D0 : h₂.get? h₂.objs.size = none := fresh_size
  have C0 : h₂.get? H2.objs.size = none := fresh _ (by rw [hCa]; exact Nat.le_succ _)
  have no0 : ∀ a, h₂.get? a = none → h₀.get? a = none := fun a e => none_at e k02
  generalize hDd : h₂.objs.size = Dd at *
  have sw1 : Sw 0 h₁ := W.frame _ _ _ sw fun b _ o e => old b o e
  let g' := hideAll h₂ (It :: own.map (·.1))
  have ownI : It ∉ own.map (·.1) := fun hm => by
    obtain ⟨p, hp, e⟩ := List.mem_map.mp hm
    have := (hown p hp).1
    rw [e, n0] at this; cases this
  have ownD : Dd ∉ own.map (·.1) := fun hm => by
    obtain ⟨p, hp, e⟩ := List.mem_map.mp hm
    have := k02 _ _ (hown p hp).1
    rw [e, D0] at this; cases this
  obtain ⟨oI, eI, _⟩ := hsw _ _ sw
  have ID : It ≠ Dd := fun q => by rw [q, D0] at eI; cases eI
  have IC : H2.objs.size ≠ It := fun q => by rw [← q, C0] at eI; cases eI
  have gI : g'.get? It = none := hideAll_none _ (.head _)
  have keepG : ∀ b o, b ∉ own.map (·.1) → h₀.get? b = some o → g'.get? b = some o := fun b o n e => hideAll_get _ (k02 b o e) fun hm => by
    rcases List.mem_cons.mp hm with q | q
    · rw [q, n0] at e; cases e
    · exact n q
  have gg : g.StaysIn g' := fun b o e => keepG b o (fun hm => by
    obtain ⟨p, hp, q⟩ := List.mem_map.mp hm
    rw [← q, (hown p hp).2] at e; cases e) (gk b o e)
  have FcI : Fc (inC c scope cl H2.objs.size) H2.objs.size snc mg mb g' D U := ⟨C.hh, C.hd, C.hu, C.G.keeps gg, ⟨hkind, rfl, C.fe.glob, C.fe.bi, hsn, hsnd, hdbg⟩, PassesOwn.never⟩
  have S1 : St g' H2.objs.size nsc (vz none) ((Dd, listOf ([] : List Value).toArray 0) :: own) h₀ h₁ := by
    refine ⟨hnd, ⟨?_, fun b o e => old b o (of_hideAll _ e), ?_⟩, fun p hp => ?_, ?_, ?_, .keep fun b o e => old b o (k02 b o e)⟩
    · have e : (fun x => ([] : List (Str × Value)).reverse.lookup x) = lkp nsc (vz none) := by
        funext y
        rw [hvz, lkp_none]; rfl
      rw [← e]; exact hns₁
    · show (hideAll h₂ _).objs.size ≤ _
      rw [hideAll_size, hCa, hDd]; exact Nat.le_succ _
    · rcases List.mem_cons.mp hp with rfl | hp
      · refine ⟨hD1, hDC, ?_⟩
        cases q : g'.get? Dd with
        | none => rfl
        | some o => have := of_hideAll _ q; rw [D0] at this; cases this
      · refine ⟨old _ _ (k02 _ _ (hown p hp).1), fun q => ?_, hideAll_none _ (.tail _ (List.mem_map_of_mem hp))⟩
        have := k02 _ _ (hown p hp).1
        rw [q, C0] at this; cases this
    · rw [List.map_cons, List.nodup_cons]; exact ⟨ownD, hod⟩
    · intro p hp
      rcases List.mem_cons.mp hp with rfl | hp
      · exact not_isT_list
      · exact hot p hp
  have hp' : ((compEnvC scope cl H2.objs.size c.env).scope.kind == .class || ((compEnvC scope cl H2.objs.size c.env).scope.kind == .module && (compEnvC scope cl H2.objs.size c.env).locals != (compEnvC scope cl H2.objs.size c.env).globals)) = false := by
    have : (compEnvC scope cl H2.objs.size c.env).scope.kind = .function := hkind
    rw [this]; rfl
  have tup : ∀ {i : Nat} {ha hb : Heap}, Sw i ha → (∀ b o, b ∉ [It] → ha.get? b = some o → hb.get? b = some o) → TupK ha hb := fun sw' kp a o e t => kp a o (fun hm => by
    obtain ⟨o', e2, n2⟩ := hsw _ _ sw'
    rw [List.mem_singleton.mp hm, e2] at e
    cases e; exact n2 t) e
  have loop : ∀ tk', codeAny (model c.prog c.w) c.A (.compLoop (.ListComp elt [⟨.Name x px, iter, ifs, 0⟩] scope pos) 0 (.ref It) (.ref Dd) (compEnvC scope cl H2.objs.size c.env))
        (RR (.ref Dd) H2.objs.size) (mk c.s h₁ tk') := by
    intro tk'
    refine codeAny_compLoop_tests (fun k s' => Ex7 fun i ys m led' h' tk' z => s' = mk c.s h' tk' ∧ k = n + 1 - i ∧ i ≤ n ∧ Sw i h' ∧ St g' H2.objs.size nsc (vz z) ((Dd, listOf ys.toArray m) :: led') h₀ h' ∧ led'.map (·.1) = own.map (·.1) ∧ Y i ys led' h' ∧ ys.length ≤ i) ?_ (n + 1)
      ⟨0, [], 0, own, h₁, tk', none, rfl, rfl, Nat.zero_le _, sw1, S1, rfl, yst _ _ _ _ _ y0 fun a o e _ => old a o e, Nat.le_refl _⟩
    rintro k s' ⟨i, ys, m, led', h', tk₁, z, rfl, rfl, hi, sw', S', e', y', hl⟩
    have nIt : It ∉ ((Dd, listOf ys.toArray m) :: led').map (·.1) := by
      rw [List.map_cons, List.mem_cons, e', not_or]; exact ⟨ID, ownI⟩
    by_cases hlt : i < n
    · refine W.item i _ _ _ hlt sw' fun v ha tka pv swa kpa => ?_
      have S₂ := S'.stab (h' := ha) (fun b o n e => kpa b o (by simpa using n) e) gI IC nIt n0
      have y₂ := yst _ _ _ _ _ y' (tup sw' kpa)
      refine wpAny_assign_Name (gF (r_store (s := c.s) FcI.fe S₂ kx (hset z v) fun hb tkb S₃ S₃' => ?_))
      have ti := turn i v ys m Dd led' hb H2.objs.size g' hlt pv FcI keepG S₃'.re e' (yst _ _ _ _ _ y₂ S₃'.go.T) hl
      have fr : ∀ {led'' : List (Addr × Obj)} {vs : List (Option Value)} {hc : Heap}, St g' H2.objs.size nsc vs ((Dd, listOf ys.toArray m) :: led'') ha hc → led''.map (·.1) = own.map (·.1) → Sw (i + 1) hc := fun S e => W.frame _ _ _ swa fun b hb o e2 => S.go.K b o (fun hm => by
        rcases hfp b hb with rfl | ⟨n1, n2⟩
        · rcases List.mem_cons.mp hm with q | q
          · exact IC q.symm
          · rw [List.map_cons, List.mem_cons, e] at q
            rcases q with q | q
            · exact ID q
            · exact ownI q
        · rcases List.mem_cons.mp hm with q | q
          · exact n1 (no0 _ (q ▸ C0))
          · rw [List.map_cons, List.mem_cons, e] at q
            rcases q with q | q
            · exact n1 (no0 _ (q ▸ D0))
            · exact n2 q) e2
      have sub : ∀ {led'' : List (Addr × Obj)}, led''.map (·.1) = own.map (·.1) → ∀ a ∈ ((Dd, listOf ys.toArray m) :: led').map (·.1), a ∈ ((Dd, listOf ys.toArray m) :: led'').map (·.1) := fun e a ha => by
        rw [List.map_cons, e'] at ha
        rw [List.map_cons, e]; exact ha
      refine gF (tes_run ti tkb _ fun p hc tkc pk => ?_)
      cases p with
      | false =>
        rw [if_neg (by decide)] at pk ⊢
        obtain ⟨led'', S₄, e₄, y₄⟩ := pk
        have S₅ := S₃'.then S₄ (sub e₄)
        exact ⟨n + 1 - (i + 1), by omega, i + 1, ys, m, led'', hc, tkc, some v, rfl, rfl, hlt, fr S₅ e₄, S₂.then S₅ (sub e₄), e₄, y₄, Nat.le_succ_of_le hl⟩
      | true =>
        rw [if_pos rfl] at pk ⊢
        refine gF (pk.run tkc _ fun y hd tkd p => ?_)
        obtain ⟨led'', S₄, e₄, y₄⟩ := p
        have S₅ := S₃'.then S₄ (sub e₄)
        refine gF (m_append (s := c.s) S₄.re .head (by omega) fun he tke S₆ => ?_)
        have S₇ := S₅.then S₆ (fun _ h => h)
        refine ⟨n + 1 - (i + 1), by omega, i + 1, ys ++ [y], m + 1, led'', he, tke, some v, rfl, rfl, hlt, W.frame _ _ _ (fr S₅ e₄) fun b hb o e2 => S₆.go.K b o (fun hm => ?_) e2, S₂.then S₇ (sub e₄), e₄, yst _ _ _ _ _ y₄ S₆.go.T, by simp; exact hl⟩
        rcases hfp b hb with rfl | ⟨n1, n2⟩
        · rcases List.mem_cons.mp hm with q | q
          · exact IC q.symm
          · rw [List.map_cons, List.mem_cons, e₄] at q
            rcases q with q | q
            · exact ID q
            · exact ownI q
        · rcases List.mem_cons.mp hm with q | q
          · exact n1 (no0 _ (q ▸ C0))
          · rw [List.map_cons, List.mem_cons, e₄] at q
            rcases q with q | q
            · exact n1 (no0 _ (q ▸ D0))
            · exact n2 q
    · have hin : i = n := by omega
      subst hin
      refine W.done _ _ _ sw' fun ha tka kpa => ?_
      have S₂ := S'.stab (h' := ha) (fun b o n e => kpa b o (by simpa using n) e) gI IC nIt n0
      have y₂ := yst _ _ _ _ _ y' (tup sw' kpa)
      refine hRR Dd H2.objs.size ha tka _ C0 hDC S₂.F.ns (fun h'' sb => ?_) fun b o e => S₂.F.keep b o (gg b o e)
      have ne : ∀ {b o}, h₀.get? b = some o → b ≠ H2.objs.size := fun e q => by rw [q, no0 _ C0] at e; cases e
      have eb : ∀ b o, b ≠ H2.objs.size → ha.get? b = some o → h''.get? b = some o := fun b o n e => sb.extBut b o n e
      refine done Dd H2.objs.size h'' ys m led' (no0 _ C0) hDC ⟨fun b o n e => eb b o (ne e) (S₂.go.K b o (fun hm => ?_) e), fun b e => ?_, fun a o e t => eb a o (ne e) (S₂.go.T a o e t)⟩ (no0 _ D0) (eb _ _ hDC (S₂.N _ (.head _)).1) hl e' (fun p hp => eb _ _ (S₂.N p (.tail _ hp)).2.1 (S₂.N p (.tail _ hp)).1) (yst _ _ _ _ _ y₂ fun a o e t => eb a o (fun q => not_isT_ns S₂.F.ns (q ▸ e) t) e)
      · rcases List.mem_cons.mp hm with q | q
        · exact ne e q
        · rw [List.map_cons, List.mem_cons, e'] at q
          rcases q with q | q
          · rw [q, no0 _ D0] at e; cases e
          · exact n q
      · by_cases q : b = H2.objs.size
        · rw [q]; exact no0 _ C0
        · exact S₂.go.D b (by rw [← sb.2 b q]; exact e)
  exact codeAny_compStart_list (loop _) (W.self 0 _ _ _ sw1 (loop _))

/-! ## sources of loops and comprehensions -/
/-- xv is walked in n turns -/
def SrcOK (c : Cx) (xv : Value) (h₁ : Heap) (n : Nat) (Pw : Nat → Value → Prop) : Prop :=
  TR c h₁ (pyIter xv) fun it h₂ => Ex3 fun (It : Addr) (fp : List Addr) (Sw : Nat → Heap → Prop) => it = .ref It ∧ Walks c.prog c.w c.A It fp [It] n Pw Sw ∧ Sw 0 h₂ ∧ h₁.get? It = none ∧ (∀ b o, h₁.get? b = some o → h₂.get? b = some o) ∧
    (∀ b ∈ fp, b = It ∨ (h₁.get? b ≠ none ∧ xv = .ref b)) ∧ (∀ i h, Sw i h → ∃ o, h.get? It = some o ∧ ¬ IsT o)
section
variable {c : Cx} {h h' h₁ h₂ : Heap} {a b : Int} {t u w : Tok} {rr la : Addr} {xs : List Value}
theorem notT_of_type {o : Obj} {T : String} (e : o.cls = .type T) (n : T ≠ "tuple") : ¬ IsT o := fun q => by
  have := q.1
  rw [e] at this
  exact n (by injection this)
theorem rng_ok {a b : Nat} (ha : a ≤ 2000) (hb : b ≤ 2000) : -(2 ^ 62) ≤ (a : Int) ∧ (a : Int) < 2 ^ 62 ∧ -(2 ^ 62) ≤ (b : Int) ∧ (b : Int) < 2 ^ 62 :=
  have k : ∀ {n : Nat}, n ≤ 2000 → -(2 ^ 62) ≤ (n : Int) ∧ (n : Int) < 2 ^ 62 := fun {n} h => ⟨Int.le_trans (by decide) (Int.natCast_nonneg n), Int.lt_of_le_of_lt (Int.ofNat_le.mpr h) (by decide)⟩
  ⟨(k ha).1, (k ha).2, (k hb).1, (k hb).2⟩
theorem rng0 {b : Nat} (hb : b ≤ 2000) : -(2 ^ 62) ≤ (0 : Int) ∧ (0 : Int) < 2 ^ 62 ∧ -(2 ^ 62) ≤ (b : Int) ∧ (b : Int) < 2 ^ 62 := rng_ok (a := 0) (Nat.zero_le _) hb
theorem n0 (n : Nat) : ((n : Int) - 0).toNat = n := by rw [Int.sub_zero, Int.toNat_natCast]
theorem min_cast (a b : Nat) : min (a : Int) (b : Int) = ((min a b : Nat) : Int) := by
  rcases Nat.le_total a b with h | h
  · rw [Nat.min_eq_left h, Int.min_eq_left (Int.ofNat_le.mpr h)]
  · rw [Nat.min_eq_right h, Int.min_eq_right (Int.ofNat_le.mpr h)]
theorem src_range (hh : c.A.handled = none) (hr : IsRange h₁ rr a b 1 t u w) (hb : -(2 ^ 62) ≤ a ∧ a < 2 ^ 62 ∧ -(2 ^ 62) ≤ b ∧ b < 2 ^ 62) : SrcOK c (.ref rr) h₁ (b - a).toNat fun i v => ∃ t, v = .int (a + i) t := by
  obtain ⟨b1, b2, b3, b4⟩ := hb
  refine ⟨fun tk Q hQ => wpAny_pyIter_range (s := mk c.s h₁ tk) hr (small_one b1 b2 b3 b4) (hQ _ _ _ ⟨h₁.objs.size, _, _, rfl, by simpa using Walks.range hh h₁.objs.size a 1 (b - a).toNat, ?_, fresh_size, fun _ _ e => Heap.get?_push_of_some _ e, fun b hb => .inl (by simpa using hb), fun i h e => ⟨_, e, fun q => ?_⟩⟩)⟩
  · show IsRangeIter _ _ _ _ _
    rw [rangeSize_nat]
    simpa using Heap.get?_push_size _ rfl
  · exact absurd (show Value.type "range_iterator" = Value.type "tuple" from q.1) (by decide)
theorem src_list (hh : c.A.handled = none) (hl : h₁.IsList la xs.toArray) : SrcOK c (.ref la) h₁ xs.length fun i v => xs[i]? = some v := by
  have hne : la ≠ h₁.objs.size := fun q => by
    obtain ⟨o, e, _⟩ := hl
    rw [q, fresh_size] at e; cases e
  refine ⟨fun tk Q hQ => wpAny_pyIter_list (s := mk c.s h₁ tk) hl (hQ _ _ _ ⟨h₁.objs.size, [h₁.objs.size, la], fun i h => h.IsListIter h₁.objs.size la i ∧ h.IsList la xs.toArray, rfl, by simpa using Walks.list hh h₁.objs.size la hne xs.toArray, ⟨⟨_, Heap.get?_push_size _ rfl, rfl, rfl⟩, ?_⟩, fresh_size, fun _ _ e => Heap.get?_push_of_some _ e, fun b hb => ?_, fun i h q => ?_⟩)⟩
  · obtain ⟨o, e, q⟩ := hl
    exact ⟨o, Heap.get?_push_of_some _ e, q⟩
  · rcases List.mem_cons.mp hb with q | q
    · exact .inl q
    · rw [List.mem_singleton.mp q]
      obtain ⟨o, e, _⟩ := hl
      exact .inr ⟨by rw [e]; simp, rfl⟩
  · obtain ⟨⟨o, e, e1, _⟩, _⟩ := q
    exact ⟨o, e, notT_of_type e1 (by decide)⟩
theorem src_tup (hh : c.A.handled = none) (hl : IsTup h₁ la xs.toArray) : SrcOK c (.ref la) h₁ xs.length fun i v => xs[i]? = some v := by
  have hne : la ≠ h₁.objs.size := fun q => by
    obtain ⟨o, e, _⟩ := hl
    rw [q, fresh_size] at e; cases e
  refine ⟨fun tk Q hQ => wpAny_pyIter_tuple (s := mk c.s h₁ tk) hl (hQ _ _ _ ⟨h₁.objs.size, [h₁.objs.size, la], fun i h => h.IsTupleIter h₁.objs.size la i ∧ h.IsTuple la xs.toArray, rfl, by simpa using Walks.tuple hh h₁.objs.size la hne xs.toArray, ⟨⟨_, Heap.get?_push_size _ rfl, rfl, rfl⟩, ?_⟩, fresh_size, fun _ _ e => Heap.get?_push_of_some _ e, fun b hb => ?_, fun i h q => ?_⟩)⟩
  · obtain ⟨o, e, q⟩ := hl
    exact ⟨o, Heap.get?_push_of_some _ e, q⟩
  · rcases List.mem_cons.mp hb with q | q
    · exact .inl q
    · rw [List.mem_singleton.mp q]
      obtain ⟨o, e, _⟩ := hl
      exact .inr ⟨by rw [e]; simp, rfl⟩
  · obtain ⟨⟨o, e, e1, _⟩, _⟩ := q
    exact ⟨o, e, notT_of_type e1 (by decide)⟩
end
/-- what is fixed of a comprehension's scope -/
structure CSc (c : Cx) (scope : Scope) (cl : List (Str × Addr)) (snc : List (Str × NameKind)) (nsc : List Str) (x : Str) (vz : Option Value → List (Option Value)) : Prop where
  sn : (relabel scope c.env).names = snc
  nd : (snc.map (·.1)).Nodup
  dbg : ∀ p ∈ snc, (p.1 == ("__debug__" : Str)) = false
  nsd : nsc.Nodup
  kind : scope.kind = .function
  cell : ∀ y ∈ scope.names, y.2 ≠ .cell
  z : vz none = nsc.map fun _ => none
  set : ∀ z v, SetL nsc (vz z) x v (vz (some v))
  k : Kd snc x .local
  clos : closureFor scope c.env = pure cl
  names : ∀ y ∈ scope.names, y.2 = .local → scope.names.lookup y.1 = some .local
theorem ev_comp {c : Cx} {L : Addr} {sn snc : List (Str × NameKind)} {mg mb : Str → Option Value} {g h : Heap} {D U : Nat} {nsc : List Str} {scope : Scope} {cl : List (Str × Addr)} {elt iter : Expr} {ifs : List Expr} {x : Str} {px pos : Pos} {P : Value → Heap → Prop} {vz : Option Value → List (Option Value)}
    (C : Fc c L sn mg mb g D U) (X : CSc c scope cl snc nsc x vz) (hs : ∀ x, foldedSetIterable iter c.env x = pure x)
    (q : EV c h iter fun xv h₁ => TR c h₁ (pyIter xv) (CompOK c g mg mb D U scope cl snc nsc vz ifs elt fun Dd _ h' => P (.ref Dd) h')) : EV c h (.ListComp elt [⟨.Name x px, iter, ifs, 0⟩] scope pos) P :=
  ⟨fun tk Q hQ => by
    rw [eval_ListComp]
    refine wpAny_comprehension_free (use := none) rfl hs X.clos X.kind X.names (q.run tk _ fun xv h₁ tk₁ p => p.run tk₁ _ fun it h₂ tk₂ p => ?_)
    refine comp_block (RR := fun acc C => compPost (model c.prog c.w) c.A c.E none Q acc C) C X.sn X.nd X.dbg X.nsd X.kind X.cell X.z X.set X.k p ?_
    intro Dd Ca h' tk' m' n1 n2 hn hK _
    exact ⟨m', hn, fun h'' sb => hQ _ h'' _ (hK h'' sb)⟩⟩
structure Abs (g : Heap) (L : Addr) (led : List (Addr × Obj)) (r : Heap) (Ca : Addr) : Prop where
  g : g.get? Ca = none
  L : L ≠ Ca
  led : Ca ∉ led.map (·.1)
  r : r.get? Ca = none
theorem St.abs {g L ns vs led r h} (S : St g L ns vs led r h) {Ca : Addr} (n : h.get? Ca = none) : Abs g L led r Ca := by
  refine ⟨none_at n S.F.keep, ?_, fun hm => ?_, S.go.D _ n⟩
  · rintro rfl
    obtain ⟨o, _, _, e, _⟩ := S.F.ns
    rw [n] at e; cases e
  · obtain ⟨p, hp, q⟩ := List.mem_map.mp hm
    have := (S.N p hp).1
    rw [q, n] at this; cases this
theorem xs_assignComp {c : Cx} {L : Addr} {sn snc : List (Str × NameKind)} {mg mb : Str → Option Value} {g h : Heap} {D U : Nat} {ns nsc : List Str} {scope : Scope} {cl : List (Str × Addr)} {elt iter : Expr} {ifs : List Expr} {x y : Str} {px py pos spos : Pos} {rest : List Stmt} {R : Flow → Heap → Prop} {vz : Option Value → List (Option Value)}
    (C : Fc c L sn mg mb g D U) (X : CSc c scope cl snc nsc x vz) (hs : ∀ x, foldedSetIterable iter c.env x = pure x) (hsw : swapsWith (.ListComp elt [⟨.Name x px, iter, ifs, 0⟩] scope pos) (some (.Name y py)) spos.line c.env = pure true) (ky : Kd sn y .local)
    (q : EV c h iter fun xv h₁ => TR c h₁ (pyIter xv) (CompOK c g mg mb D U scope cl snc nsc vz ifs elt fun Dd Ca h' => Ex4 fun vs vs' led r => St g L ns vs led r h' ∧ SetL ns vs y (.ref Dd) vs' ∧ Abs g L led r Ca ∧ ∀ h'', St g L ns vs' led r h'' → TupK h' h'' → XS c h'' rest R)) : XS c h (.Assign [.Name y py] (.ListComp elt [⟨.Name x px, iter, ifs, 0⟩] scope pos) spos :: rest) R := by
  refine ⟨fun tk Q hQ => wpAny_execs_cons ?_⟩
  rw [exec_Assign_Name_used _ _ _ _ hsw]
  refine wpAny_bind (wpAny_standAt (wpAny_bind ?_))
  show wpAny _ c.A (do let _ ← comprehension (.ListComp elt [⟨.Name x px, iter, ifs, 0⟩] scope pos) scope c.env _ (newList []) false (eval iter c.env) (some (assign (.Name y py) c.env))) _ _ _
  refine wpAny_bind (wpAny_mono (wpAny_comprehension_free (use := some (assign (.Name y py) c.env)) (Q := fun _ s' => Ex2 fun h' tk' => s' = mk c.s h' tk' ∧ XS c h' rest R) rfl hs X.clos X.kind X.names (q.run tk _ fun xv h₁ tk₁ p => p.run tk₁ _ fun it h₂ tk₂ p => ?_)) (fun _ s' hq => wpAny_pure (wpAny_pure ?_)) fun _ _ e => e)
  · refine comp_block (RR := fun acc C => compPost (model c.prog c.w) c.A c.E (some (assign (.Name y py) c.env)) (fun _ s' => Ex2 fun h' tk' => s' = mk c.s h' tk' ∧ XS c h' rest R) acc C) C X.sn X.nd X.dbg X.nsd X.kind X.cell X.z X.set X.k p ?_
    intro Dd Ca h' tk' m' n1 n2 hn hK _
    obtain ⟨vs, vs', led, r, S, l, ab, k⟩ := hK h' ⟨rfl, fun _ _ => rfl⟩
    refine wpAny_assign_Name (r_store C.fe S ky l fun h₂ tk₂ S₂ S₃ => ?_)
    have kC : ∀ o, h'.get? Ca = some o → h₂.get? Ca = some o := fun o e => S₃.go.K _ _ (fun hm => by
      rcases List.mem_cons.mp hm with q | q
      · exact ab.L q.symm
      · exact ab.led q) e
    refine ⟨m', hn.at' kC, fun h₃ sb => ⟨h₃, tk₂, rfl, k h₃ (S₂.stab (fun b o n e => sb.extBut b o n e) ab.g ab.L ab.led ab.r) fun a o e t => sb.extBut a o (fun q => not_isT_ns hn (q ▸ e) t) (S₃.go.T a o e t)⟩⟩
  · obtain ⟨h', tk', rfl, x⟩ := hq
    exact x.run tk' _ hQ
/-- a comprehension that changes nothing of the frame's -/
theorem tr_compQ {c : Cx} {L : Addr} {sn snc : List (Str × NameKind)} {mg mb : Str → Option Value} {g h₁ r : Heap} {D U n : Nat} {ns nsc : List Str} {vs : List (Option Value)} {led : List (Addr × Obj)} {scope : Scope} {cl : List (Str × Addr)} {elt : Expr} {ifs : List Expr} {vz : Option Value → List (Option Value)} {K : Addr → Addr → Heap → Prop} {xv : Value} {Pw : Nat → Value → Prop}
    (C : Fc c L sn mg mb g D U) (S : St g L ns vs led r h₁) (src : SrcOK c xv h₁ n Pw) (hsz : n ≤ sizeLine) (Yp : Nat → List Value → Heap → Prop) (y0 : Yp 0 [] h₁) (yst : ∀ i ys h h', Yp i ys h → TupK h h' → Yp i ys h')
    (turn : ∀ i v ys m Dd h₃ Ca g', i < n → Pw i v → Fc (inC c scope cl Ca) Ca snc mg mb g' D U → (∀ b o, h₁.get? b = some o → g'.get? b = some o) → St g' Ca nsc (vz (some v)) [(Dd, listOf ys.toArray m)] h₃ h₃ → Yp i ys h₃ → ys.length ≤ i →
      TES (inC c scope cl Ca) h₃ ifs fun p h₄ => if p then EV (inC c scope cl Ca) h₄ elt fun y h₅ => St g' Ca nsc (vz (some v)) [(Dd, listOf ys.toArray m)] h₃ h₅ ∧ Yp (i + 1) (ys ++ [y]) h₅ else St g' Ca nsc (vz (some v)) [(Dd, listOf ys.toArray m)] h₃ h₄ ∧ Yp (i + 1) ys h₄)
    (done : ∀ Dd Ca h' ys m, St g L ns vs ((Dd, listOf ys.toArray m) :: led) r h' → St g L ns vs ((Dd, listOf ys.toArray m) :: led) h₁ h' → h₁.get? Dd = none → Abs g L ((Dd, listOf ys.toArray m) :: led) r Ca → ys.length ≤ n → Yp n ys h' → K Dd Ca h') :
    TR c h₁ (pyIter xv) (CompOK c g mg mb D U scope cl snc nsc vz ifs elt K) := by
  refine ⟨fun tk Q hQ => src.run tk _ fun it h₂ tk₂ p => hQ _ _ _ ?_⟩
  obtain ⟨It, fp, Sw, rfl, W, sw, n0, k12, hfp, hsw⟩ := p
  refine ⟨h₁, [], n, It, fp, Pw, Sw, fun i ys _ h => Yp i ys h, rfl, W, sw, n0, k12, S.F.keep, fun p hp => (nomatch hp), .nil, fun p hp => (nomatch hp), fun b hb => (hfp b hb).imp_right fun q => ⟨q.1, by simp⟩, hsw, hsz, yst _ _ _ _ y0 fun a o e _ => k12 a o e, fun i ys _ h h' => yst i ys h h', ?_, ?_⟩
  · intro i v ys m Dd led' h₃ Ca g' hi pv F kg S' el y hl
    have : led' = [] := by simpa using el
    subst this
    have ti := turn i v ys m Dd h₃ Ca g' hi pv F (fun b o e => kg b o (by simp) e) S' y hl
    have conv : ∀ (p : Bool) (h₄ : Heap), (if p then EV (inC c scope cl Ca) h₄ elt fun y h₅ => St g' Ca nsc (vz (some v)) [(Dd, listOf ys.toArray m)] h₃ h₅ ∧ Yp (i + 1) (ys ++ [y]) h₅ else St g' Ca nsc (vz (some v)) [(Dd, listOf ys.toArray m)] h₃ h₄ ∧ Yp (i + 1) ys h₄) →
        (if p then EV (inC c scope cl Ca) h₄ elt fun y h₅ => CDn g' Ca nsc (vz (some v)) Dd ys m (([] : List (Addr × Obj)).map (·.1)) (fun ys _ h => Yp (i + 1) ys h) h₃ (ys ++ [y]) h₅ else CDn g' Ca nsc (vz (some v)) Dd ys m (([] : List (Addr × Obj)).map (·.1)) (fun ys _ h => Yp (i + 1) ys h) h₃ ys h₄) := by
      intro p h₄ q
      cases p
      · rw [if_neg (by decide)] at q ⊢
        exact ⟨[], q.1, rfl, q.2⟩
      · rw [if_pos rfl] at q ⊢
        exact q.mono fun y h₅ q => ⟨[], q.1, rfl, q.2⟩
    match ifs, ti with
    | [], ti => exact conv true h₃ ti
    | [t], ti => exact ⟨fun tk Q hQ => ti.run tk Q fun b h' tk' p => hQ _ _ _ (conv _ _ p)⟩
  · intro Dd Ca h' ys m led' nC nDC go nD eD hl el _ y
    have S1 := S.after0 go
    have S2 := S.re.after0 go
    refine done Dd Ca h' ys m (S1.add eD nD S (fun _ h => h) not_isT_list) (S2.add eD nD S.re (fun _ h => h) not_isT_list) nD ?_ hl y
    have ab := S.abs nC
    refine ⟨ab.g, ab.L, ?_, ab.r⟩
    rw [List.map_cons, List.mem_cons, not_or]
    exact ⟨Ne.symm nDC, ab.led⟩

theorem relab {c : Cx} {L : Addr} {sn snc : List (Str × NameKind)} {mg mb : Str → Option Value} {g : Heap} {D U : Nat} {scope : Scope} (C : Fc c L sn mg mb g D U) (h : (scope.names.map fun p => if (p.2 == .free && sn.lookup p.1 == some .cell) then (p.1, .cell) else p) = snc) : (relabel scope c.env).names = snc := by
  have k : (c.env.scope.kind == ScopeKind.function) = true := by rw [C.fe.kind]; rfl
  have e : ∀ x, c.env.kindOf x = sn.lookup x := fun x => by unfold Env.kindOf; rw [C.fe.names]
  unfold relabel
  simp only [k, e, Bool.and_true]
  exact h

/-! ## frames with cells -/
section
variable {c : Cx} {L ca : Addr} {sn : List (Str × NameKind)} {mg mb : Str → Option Value} {g h h' : Heap} {D U : Nat} {ns : List Str} {vs vs' : List (Option Value)} {led led' : List (Addr × Obj)} {r : Heap} {x : Str} {pos p' : Pos} {v : Value} {o : Obj} {R : Flow → Heap → Prop} {e : Expr}
theorem notT_cell {ov : Option Value} (hd : o.data = .cell ov) : ¬ IsT o := by
  rintro ⟨_, xs, n, e⟩
  rw [hd] at e; cases e
theorem St.addCell {ov : Option Value} (S : St g L ns vs led r h) (hc : h.IsCell ca ov) (ne : ca ≠ L) (gn : g.get? ca = none) (nl : ca ∉ led.map (·.1)) : ∃ o, o.data = .cell ov ∧ St g L ns vs ((ca, o) :: led) r h := by
  obtain ⟨o, ho, hd⟩ := hc
  refine ⟨o, hd, S.nd, S.F, fun p hp => ?_, ?_, S.freshLt (notT_cell hd), S.go.mono fun w hw => ?_⟩
  · rcases List.mem_cons.mp hp with rfl | hp
    · exact ⟨ho, ne, gn⟩
    · exact S.N p hp
  · rw [List.map_cons, List.nodup_cons]; exact ⟨nl, S.ld⟩
  · rcases List.mem_cons.mp hw with rfl | hw
    · exact List.mem_cons_self
    · exact List.mem_cons_of_mem _ (List.mem_cons_of_mem _ hw)
theorem pv_cellH (C : Fc c L sn mg mb g D U) (k : Kd sn x .cell) (hc : c.env.cells.lookup x = some ca) (hv : h.IsCell ca (some v)) : PV c h (.Name x pos) v :=
  ⟨fun tk Q hQ => wpAny_Name (wpAny_loadName_cell (s := mk c.s h tk) (by rw [← C.fe.kind]) (C.fe.kindOf k) hc hv (hQ _ _ _ ⟨rfl, rfl⟩)) (C.fe.nodbg k)⟩
theorem pv_cell (C : Fc c L sn mg mb g D U) (S : St g L ns vs led r h) (k : Kd sn x .cell) (hc : c.env.cells.lookup x = some ca) (hm : (ca, o) ∈ led) (hd : o.data = .cell (some v)) : PV c h (.Name x pos) v :=
  pv_cellH C k hc ⟨o, (S.N _ hm).1, hd⟩
theorem go_same {a : Addr} {o' : Obj} (sb : Heap.SameBut a h h') (e : h.get? a = some o) (e' : h'.get? a = some o') (nt : ¬ IsT o) : Go [a] h h' :=
  ⟨fun b o n e => sb.extBut b o (by simpa using n) e, fun b e2 => by
    by_cases q : b = a
    · rw [q, e'] at e2; cases e2
    · rw [← sb.2 b q]; exact e2, fun b o2 e2 t => sb.extBut b o2 (fun q => by
      rw [q, e] at e2; cases e2; exact nt t) e2⟩
theorem r_storeC {prog : Program} {w : World} {A : Around} {env : Env} {s : Shared} {tk : Nat} {E : Value → Shared → Prop} {f : Obj → List (Addr × Obj)} {ov : Option Value} (Fe : FnEnv env L sn) (S : St g L ns vs led r h) (k : Kd sn x .cell) (hc : env.cells.lookup x = some ca) (up : Up led ca o f) (hd : o.data = .cell ov) {Q : Unit → Shared → Prop}
    (hQ : ∀ o' h' tk', o'.data = .cell (some v) → St g L ns vs (f o') r h' → St g L ns vs (f o') h h' → Q () (mk s h' tk')) : wpAny (model prog w) A (storeName env x v) Q E (mk s h tk) := by
  have ho := (S.N _ up.mem).1
  refine wpAny_storeName_cell (s := mk s h tk) (by rw [← Fe.kind]) (Fe.kindOf k) hc ⟨o, ho, hd⟩ fun h' ⟨o', e', hd'⟩ sb => ?_
  have go := go_same sb ho e' (notT_cell hd)
  exact hQ o' h' tk hd' (S.after1 up go e' (notT_cell hd')) (S.re.after1 up go e' (notT_cell hd'))
inductive AcQ (c : Cx) (g : Heap) (L : Addr) (ns : List Str) (ca : Addr) (rest : List Stmt) (R : Flow → Heap → Prop) (v : Value) (h₁ : Heap) : Prop
  | mk (vs₁ : List (Option Value)) (led₁ : List (Addr × Obj)) (r₁ : Heap) (o : Obj) (f : Obj → List (Addr × Obj)) (ov : Option Value) : St g L ns vs₁ led₁ r₁ h₁ → Up led₁ ca o f → o.data = .cell ov → (∀ o' h', o'.data = .cell (some v) → St g L ns vs₁ (f o') r₁ h' → St g L ns vs₁ (f o') h₁ h' → XS c h' rest R) → AcQ c g L ns ca rest R v h₁
theorem xs_assignC {rest : List Stmt} (q : EV c h e (AcQ c g L ns ca rest R)) (C : Fc c L sn mg mb g D U) (k : Kd sn x .cell) (hc : c.env.cells.lookup x = some ca)
    (hs : swapsWith e (some (.Name x p')) pos.line c.env = pure false) : XS c h (.Assign [.Name x p'] e pos :: rest) R :=
  ⟨fun tk Q hQ => x_assign (hs := hs) (q.run tk _ fun v h₁ tk' p => by
    obtain ⟨vs₁, led₁, r₁, o, f, ov, S, up, hd, k'⟩ := p
    exact r_storeC C.fe S k hc up hd fun o' h' tk'' hd' S' S'' => (k' o' h' hd' S' S'').run tk'' _ hQ)⟩
end
theorem spec_cells {w : World} {f : Addr} {args : List Value} {own : List (Addr × Obj)} {D U : Nat} {h : Heap} {Post : Heap → Value → Prop} {oc : Value} {od : Option Addr} {osl : Array (Option Value)}
    {name qual : Str} {params : Arguments} {body : List Stmt} {scope : Scope} {dV kV doc pm cdv ct : Value} {an : Option Addr} (binds : List (Str × Value)) (ns : List Str) (vs : List (Option Value)) (cm : Str → Option Value)
    (ho : (KF w).lookup f = some ⟨oc, od, .func (fnOf name qual params body scope dV kV doc pm an cdv ct), osl⟩) (hcd : codeIn (KF w) cdv qual = true)
    (hbind : bindArgs (fnOf name qual params body scope dV kV doc pm an cdv ct) ⟨args, []⟩ = pure binds)
    (hkd : ∀ x ∈ binds, scope.names.lookup x.1 = some .local ∨ scope.names.lookup x.1 = some .cell)
    (hL : ∀ env : Env, env.scope = scope → bindL env.kindOf binds (fun _ => none) = lkp ns vs) (hC : ∀ env : Env, env.scope = scope → bindC env.kindOf binds (fun _ => none) = cm)
    (hsnd : (scope.names.map (·.1)).Nodup) (hdbg : ∀ p ∈ scope.names, (p.1 == ("__debug__" : Str)) = false) (hnd : ns.Nodup)
    (hod : (own.map (·.1)).Nodup) (hown : ∀ p ∈ own, ¬ IsT p.2)
    (hb : ∀ (c : Cx) (mg mb : Str → Option Value) (g h₁ : Heap) (L : Addr), c.w = w → Fc c L scope.names mg mb g D U → c.env.cells = cellsFrom (L + 1) scope.names [] → (∀ b o, b ∉ own.map (·.1) → h.get? b = some o → g.get? b = some o) → (∀ a, L ≤ a → h.get? a = none ∧ g.get? a = none) → (∀ p ∈ own, p.1 < L) →
      (∀ n ca, c.env.cells.lookup n = some ca → h₁.IsCell ca (cm n)) →
      St g L ns vs own h h₁ → XS c h₁ body (Fin g h Post))
    (hclo : (fnOf name qual params body scope dV kV doc pm an cdv ct).closure = [] := by rfl)
    (hco : scope.isCoroutine = false := by rfl) (hgen : scope.isGenerator = false := by rfl) (hk : scope.kind = .function := by rfl) : Spec w f args own (D + 1) (U + 3) h Post := by
  refine ⟨?_⟩
  intro prog A s tk mg mb g R hh hd hu G hg hw hQ
  have X : (KF w).In h := G.X.keeps hg
  refine codeAny_call_cells (s := mk s h tk) (fd := fnOf name qual params body scope dV kV doc pm an cdv ct) (body := body) (binds := binds) (by omega) (X _ _ ho) rfl (G.lim.keeps hg) (codeRec_of X hcd) rfl hbind hclo (fun x hx => (hkd x hx).imp_right fun q => ⟨q, cellsFrom_some _ _ _ (.inl q)⟩) (fun s₁ Y => ?_) hco hgen hk
  obtain ⟨h₁, tk₁, rfl, hk₁⟩ := Y.done
  have hnn : ∀ p ∈ own, ∀ b o, g.get? b = some o → b ≠ p.1 := fun p hp b o e q => by
    rw [q, (hw p hp).2] at e; cases e
  have st : g.StaysIn (hideAll h (own.map (·.1))) := fun b o e => hideAll_get _ (hg b o e) fun hm => by
    obtain ⟨p, hp, rfl⟩ := List.mem_map.mp hm
    exact hnn p hp _ o e rfl
  have Fe : FnEnv (callEnvC (fnOf name qual params body scope dV kV doc pm an cdv ct) h.objs.size f) h.objs.size scope.names := ⟨hk, rfl, rfl, rfl, rfl, hsnd, hdbg⟩
  have key := (hb ⟨prog, w, A.deeper (callEnvC (fnOf name qual params body scope dV kV doc pm an cdv ct) h.objs.size f), callEnvC (fnOf name qual params body scope dV kV doc pm an cdv ct) h.objs.size f, s, fun _ _ => False⟩ mg mb (hideAll h (own.map (·.1))) h₁ h.objs.size rfl
    ⟨hh, by show A.depth + 1 + D < _; omega, by show A.units + 3 + U < _; omega, G.keeps fun b o e => st b o e, Fe, PassesOwn.never⟩ rfl (fun b o n e => hideAll_get _ e n) (fun a ha => ⟨fresh_ge ha, by
      cases q : (hideAll h (own.map (·.1))).get? a with
      | none => rfl
      | some o => have := of_hideAll _ q; rw [fresh_ge ha] at this; cases this⟩) (fun p hp => Heap.lt_size (hw p hp).1) (fun n ca e => by
        have := Y.cell n ca e
        rw [hC _ rfl] at this; exact this)
    ⟨hnd, ⟨?_, fun b o e => hk₁ b o (of_hideAll _ e), Nat.le_of_eq (hideAll_size _ _)⟩, fun p hp => ⟨hk₁ _ _ (hw p hp).1, Nat.ne_of_lt (Heap.lt_size (hw p hp).1), hideAll_none _ (List.mem_map_of_mem hp)⟩, hod, hown, .keep hk₁⟩).run tk₁ (fun fl s' => Ex2 fun h' tk' => s' = mk s h' tk' ∧ (g.StaysIn h' ∧ Go (own.map (·.1)) h h') ∧ Post h' (match fl with | .ret v => v | _ => .none)) (fun fl h' tk' p => ⟨h', tk', rfl, ⟨fun b o e => p.1.1 b o (st b o e), fun b o n e => p.1.1 b o (hideAll_get _ e n), p.1.2.1, p.1.2.2⟩, p.2⟩)
  · refine wpAny_mono key (fun fl s' q => ?_) fun _ _ q => q.elim
    obtain ⟨h', tk', rfl, ⟨_, go⟩, post⟩ := q
    exact hQ h' tk' _ go post
  · have := Y.toInCall.ns
    rw [hL _ rfl] at this
    exact this

/-! ## _law_spoilt -/
def LstAt (m : Nat) (h₀ h : Heap) (v : Value) : Prop := Ex4 fun a xs n ts => v = .ref a ∧ h₀.get? a = none ∧ h.get? a = some (listOf xs.toArray n) ∧ Toks h xs ts ∧ ts.all tokV = true ∧ ts.length ≤ m
section
variable {c : Cx} {src L : Addr} {sn : List (Str × NameKind)} {mg mb : Str → Option Value} {g h h₁ h' : Heap} {D U m : Nat} {ns : List Str} {vs vs' : List (Option Value)} {led led' : List (Addr × Obj)} {r : Heap} {x : Str} {pos p' fp : Pos} {v : Value} {e e1 e2 : Expr} {F F' : Obj → List (Addr × Obj)} {B B' n1 n2 : Int}
theorem DS.keyIn (S : DS src g L ns vs F B r h) (o : Obj) : ∀ a ∈ (F o).map (·.1), h.get? a ≠ none := fun a ha => by
  obtain ⟨⟨o', so, S⟩, up⟩ := S
  rw [← (up o).keys o'] at ha
  obtain ⟨p, hp, rfl⟩ := List.mem_map.mp ha
  rw [(S.N p hp).1]; exact fun q => nomatch q
theorem DS.Lin (S : DS src g L ns vs F B r h) : h.get? L ≠ none := by
  obtain ⟨⟨o', so, S⟩, up⟩ := S
  obtain ⟨o, _, _, e, _⟩ := S.F.ns
  rw [e]; exact fun q => nomatch q
theorem LstAt.go (l : LstAt m h h₁ v) (S₀ : DS src g L ns vs F B r h) (S : DS src g L ns vs' F' B' h₁ h') (hk : ∀ o a, a ∈ (F' o).map (·.1) → a ∈ (F o).map (·.1) ∨ h₁.get? a = none ∨ v ≠ .ref a) : LstAt m h h' v := by
  obtain ⟨a, xs, n, ts, rfl, na, ea, tt, tv, tl⟩ := l
  have k2 := S.tup
  obtain ⟨⟨o', so, S⟩, up⟩ := S
  refine ⟨a, xs, n, ts, rfl, na, S.go.K _ _ (fun hm => ?_) ea, tt.mono k2, tv, tl⟩
  rcases List.mem_cons.mp hm with q | q
  · exact S₀.Lin (q ▸ na)
  · rcases hk _ _ q with q | q
    · exact S₀.keyIn _ _ q na
    · rcases q with q | q
      · rw [ea] at q; cases q
      · exact q rfl
def ELs (c : Cx) (src : Addr) (g : Heap) (L : Addr) (ns : List Str) (vs : List (Option Value)) (F : Obj → List (Addr × Obj)) (B : Int) (m : Nat) (e : Expr) : Prop :=
  ∀ r h, DS src g L ns vs F B r h → EV c h e fun v h' => LstAt m h h' v ∧ DS src g L ns vs F B r h' ∧ DS src g L ns vs F B h h'
inductive ELL (c : Cx) (src : Addr) (g : Heap) (L : Addr) (ns : List Str) (vs : List (Option Value)) (F : Obj → List (Addr × Obj)) (B : Int) (m : Nat) : List Expr → Prop
  | nil : ELL c src g L ns vs F B m []
  | cons {e es} : ELs c src g L ns vs F B m e → (∀ es, starEach (e :: es) c.env = (false, eval e c.env) :: starEach es c.env) → ELL c src g L ns vs F B m es → ELL c src g L ns vs F B m (e :: es)
theorem ea_ELL {es : List Expr} (q : ELL c src g L ns vs F B m es) : ∀ {h r}, DS src g L ns vs F B r h → EA c h es fun xs h' => (∀ x ∈ xs, LstAt m h h' x) ∧ xs.length = es.length ∧ DS src g L ns vs F B r h' ∧ DS src g L ns vs F B h h' := by
  induction q with
  | nil => intro h r S; exact ea_nil ⟨fun x hx => (nomatch hx), rfl, S, S.re⟩
  | @cons e es q1 q2 _ ih =>
    intro h r S
    refine ea_cons ((q1 r h S).mono fun v h₁ p => ?_) (q2 _)
    obtain ⟨l, S1, S2⟩ := p
    refine fun pos => ⟨fun tk Q hQ => (ih S1 pos).run tk _ fun xs h₂ tk' p => hQ _ _ _ ?_⟩
    obtain ⟨ls, len, S3, S4⟩ := p
    refine ⟨fun x hx => ?_, by simp [len], S3, S2.then S4 fun _ _ h => h⟩
    rcases List.mem_cons.mp hx with rfl | hx
    · exact l.go S S4 fun _ _ h => .inl h
    · obtain ⟨a, xs, n, ts, e, na, y⟩ := ls x hx
      exact ⟨a, xs, n, ts, e, S2.dom _ na, y⟩
theorem els_toks {es : List Expr} {ts : List (Int × Int)} {lp : Pos} (q : toksOf? es = some ts) (hv : ts.all tokV = true) (hm : ts.length ≤ m) (h100 : m ≤ 100) : ELs c src g L ns vs F B m (.List es lp) := fun r h S => by
  have hsl : sizeLine = 16777216 := sizeLine_eq
  obtain ⟨⟨o, so, S⟩, up⟩ := S
  refine (ev_toks q S (by omega)).mono fun v h₁ p => ?_
  obtain ⟨a, xs, rfl, na, px, S1, S2⟩ := p
  exact ⟨⟨a, xs, 0, ts, rfl, na, (S1.N _ (.head _)).1, px, hv, hm⟩, ⟨⟨o, so, S1.dropHead (S.go.D _ na)⟩, up⟩, ⟨o, so, S2.dropHead na⟩, up⟩
theorem els_two {lp : Pos} (h1 : ET c src g L ns vs e1 0) (h2 : ET c src g L ns vs e2 0) (hB : B ≤ 1000000) (h2m : 2 ≤ m) (he1 : ∀ es, starEach (e1 :: es) c.env = (false, eval e1 c.env) :: starEach es c.env) (he2 : ∀ es, starEach (e2 :: es) c.env = (false, eval e2 c.env) :: starEach es c.env) : ELs c src g L ns vs F B m (.List [e1, e2] lp) := fun r h S => by
  refine (el_two S h1 h2 (by decide) (by omega) he1 he2).mono fun v h₁ p => ?_
  obtain ⟨a, xs, ts, rfl, na, tt, tv, tl, S1, S2⟩ := p
  rw [Int.add_zero, Int.add_zero] at S1 S2
  refine ⟨⟨a, xs, 0, ts, rfl, na, ?_, tt, tv, by omega⟩, S1.dropHead (S.dom _ na) S.up, S2.dropHead na S.up⟩
  obtain ⟨⟨o, so, S1⟩, _⟩ := S1
  exact (S1.N _ (.head _)).1
theorem ev_listL {es : List Expr} (q : ELL c src g L ns vs F B m es) (S : DS src g L ns vs F B r h) (hl : es.length ≤ 1000) :
    EV c h (.List es pos) fun v h₂ => Ex2 fun (a : Addr) (xs : List Value) => v = .ref a ∧ h.get? a = none ∧ (∀ x ∈ xs, LstAt m h h₂ x ∧ x ≠ .ref a) ∧ xs.length = es.length ∧ DS src g L ns vs (fun o => (a, listOf xs.toArray 0) :: F o) B r h₂ ∧ DS src g L ns vs (fun o => (a, listOf xs.toArray 0) :: F o) B h h₂ := by
  have hsl : sizeLine = 16777216 := sizeLine_eq
  refine ev_list fun pos => ⟨fun tk Q hQ => (ea_ELL q S pos).run tk _ fun xs h₂ tk' p => hQ _ _ _ ?_⟩
  obtain ⟨ls, len, S1, S2⟩ := p
  have S0 := S
  obtain ⟨⟨o1, so1, S1⟩, up⟩ := S1
  refine ⟨_, _, _, _, _, _, S1, by rw [len]; omega, fun a h₃ na S3 S4 => ⟨a, xs, rfl, S2.dom _ na, fun x hx => ⟨(ls x hx).go S0 (F' := fun o => (a, listOf xs.toArray 0) :: F o) (B' := B) ⟨⟨o1, so1, S4⟩, fun o => .tail (up o)⟩ ?_, ?_⟩, len, ⟨⟨o1, so1, S3⟩, fun o => .tail (up o)⟩, ?_⟩⟩
  · intro o a' ha
    rcases List.mem_cons.mp ha with q | q
    · exact .inr (.inl (q ▸ na))
    · exact .inl q
  · rintro rfl
    obtain ⟨a', _, _, _, e, _, e2, _⟩ := ls _ hx
    cases e; rw [na] at e2; cases e2
  · exact S2.then ⟨⟨o1, so1, S4⟩, fun o => .tail (up o)⟩ fun _ _ h => List.mem_cons_of_mem _ h
end
theorem spoilt_spec {w : World} {h : Heap} {src : Addr} {many B : Int} {tm : Tok} {o : Obj} (so : SrcO o B) (hB : B < 1000000) (hm0 : 0 ≤ many) (hm9 : many ≤ 9) : Spec w 306 [.ref src, .int many tm] [(src, o)] 2 6 h (ListPost src (B + 1) 2 h) := by
  refine spec_xs (D := 1) (U := 3) [Str.ofString "source", Str.ofString "many"] 2 rfl (by kernel_rfl) (fun _ _ => BindsTo.of_eq rfl) rfl (by decide +kernel) (by decide) (by decide +kernel) (by decide +kernel) (by decide +kernel) (by simp) (by simpa using so.notT) ?_
  intro c mg mb g h₁ L hw C hk hL S
  dsimp only at C
  subst hw
  have S0 : DS src g L _ [some (.ref src), some (.int many tm)] (fun o => [(src, o)]) B h h₁ := ⟨⟨o, so, S⟩, fun o => .head⟩
  clear S
  have hsl : sizeLine = 16777216 := sizeLine_eq
  refine xs_ret (ev_subG (EV.mono (ev_listL (m := 2) ?_ S0 (by decide)) ?_))
  · clear hsl hk hL so
    refine .cons (els_toks (ts := [(5, 1)]) (by rfl) (by decide +kernel) (by decide) (by decide)) (fun _ => rfl) ?_
    refine .cons (els_toks (ts := [(12, 49)]) (by rfl) (by decide +kernel) (by decide) (by decide)) (fun _ => rfl) ?_
    refine .cons (els_toks (ts := [(6, 35), (12, 48)]) (by rfl) (by decide +kernel) (by decide) (by decide)) (fun _ => rfl) ?_
    refine .cons (els_two (et_const (t := (6, 64)) rfl (by decide +kernel)) (et_pair12 (i := 49 + many) (fun h F r B S => pi_add pi_const (pi_locD C S (by (repeat' (first | exact Kd.head | apply Kd.tail))) (by (repeat' (first | exact Loc.head | apply Loc.tail))))) (by omega) (by omega) fun _ => rfl) (by omega) (by decide) (fun _ => rfl) fun _ => rfl) (fun _ => rfl) ?_
    refine .cons (els_toks (ts := [(6, 35), (11, 49)]) (by rfl) (by decide +kernel) (by decide) (by decide)) (fun _ => rfl) ?_
    refine .cons (els_toks (ts := [(9, 1)]) (by rfl) (by decide +kernel) (by decide) (by decide)) (fun _ => rfl) ?_
    refine .cons (els_toks (ts := [(15, 0)]) (by rfl) (by decide +kernel) (by decide) (by decide)) (fun _ => rfl) ?_
    refine .cons (els_toks (ts := [(0, 9)]) (by rfl) (by decide +kernel) (by decide) (by decide)) (fun _ => rfl) ?_
    refine .cons (els_toks (ts := [(6, 35)]) (by rfl) (by decide +kernel) (by decide) (by decide)) (fun _ => rfl) ?_
    refine .cons (els_toks (ts := [(6, 64)]) (by rfl) (by decide +kernel) (by decide) (by decide)) (fun _ => rfl) ?_
    refine .cons (els_toks (ts := [(2, 125)]) (by rfl) (by decide +kernel) (by decide) (by decide)) (fun _ => rfl) ?_
    refine .cons (els_toks (ts := [(1, 123)]) (by rfl) (by decide +kernel) (by decide) (by decide)) (fun _ => rfl) ?_
    exact .nil
  · rintro v h₂ ⟨a, xs, rfl, na, ls, len, S1, S2⟩
    have len : xs.length = 12 := len
    refine EV.mono (ev_take (i := 12) C (by decide) (by decide) S1 (by (repeat' (first | exact Kd.head | apply Kd.tail))) (pv_locD C S1 (by (repeat' (first | exact Kd.head | apply Kd.tail))) (by (repeat' (first | exact Loc.head | apply Loc.tail)))) pi_const (by omega) (by decide) (by decide) (fun _ => rfl) fun _ => rfl) ?_
    rintro v h₃ ⟨⟨d, t, rfl, d0, d1⟩, S3, S4⟩
    have hx : xs[d.toNat]? = some (xs[d.toNat]'(by omega)) := List.getElem?_eq_getElem _
    have l := ls _ (List.getElem_mem (by omega : d.toNat < xs.length))
    have l2 := l.1.go S0 S4 (fun o a' ha => by
      rcases List.mem_cons.mp ha with q | q
      · exact .inr (.inr (q ▸ l.2))
      · exact .inl q)
    obtain ⟨a2, xs2, n2, ts2, e2, na2, ea2, tt, tv, tl⟩ := l2
    obtain ⟨⟨o3, so3, S3⟩, _⟩ := S3
    refine ⟨fun tk Q hQ => i_list (S3.N _ (.head _)).1 d0 (by omega) hx (hQ _ _ _ ⟨S3.fin, ?_⟩) (by with_unfolding_all rfl)⟩
    rw [e2]
    exact ⟨o3, a2, xs2, n2, ts2, (S3.N _ (.tail _ (.head _))).1, so3, rfl, S0.dom _ na2, ea2, tt, tv, tl⟩

/-! ## slices, unpacking -/
/-- the items from lo to hi -/
def pk {α : Type} (lo hi : Option Int) (l : List α) : List α := (l.drop (kms_lo lo l.length)).take (kms_hi hi l.length - kms_lo lo l.length)
theorem Toks.pk {h : Heap} {xs : List Value} {ts : List (Int × Int)} (tt : Toks h xs ts) (lo hi : Option Int) : Toks h (pk lo hi xs) (pk lo hi ts) := by
  unfold Mine.pk
  rw [tt.length]
  exact (tt.drop _).take _
theorem pk_length {α : Type} (lo hi : Option Int) (l : List α) : (pk lo hi l).length ≤ l.length := by
  unfold pk; simp; omega
theorem pk_mem {α : Type} {lo hi : Option Int} {l : List α} {x : α} (h : x ∈ pk lo hi l) : x ∈ l := List.mem_of_mem_drop (List.mem_of_mem_take h)
theorem pk_all {α : Type} {lo hi : Option Int} {l : List α} {p : α → Bool} (h : l.all p = true) : (pk lo hi l).all p = true := by
  rw [List.all_eq_true] at h ⊢
  exact fun x hx => h x (pk_mem hx)
theorem pk_to {α : Type} {n : Nat} (l : List α) : pk none (some (n : Int)) l = l.take n := by
  have : ¬ ((n : Int) < 0) := by omega
  simp only [pk, kms_lo, kms_hi, this, if_false, Int.toNat_natCast, List.drop_zero, Nat.sub_zero]
  rw [List.take_eq_take_iff]; omega
theorem pk_from {α : Type} {n : Nat} (l : List α) : pk (some (n : Int)) none l = l.drop n := by
  have : ¬ ((n : Int) < 0) := by omega
  simp only [pk, kms_lo, kms_hi, this, if_false, Int.toNat_natCast]
  by_cases h : n ≤ l.length
  · rw [Nat.min_eq_left h]; apply List.take_of_length_le; rw [List.length_drop]; omega
  · rw [List.drop_eq_nil_of_le (by omega : l.length ≤ n)]
    simp; omega
/-- names = a tuple: one at a time -/
inductive SetAll (ns : List Str) : List (Option Value) → List Str → List Value → List (Option Value) → Prop
  | nil {vs} : SetAll ns vs [] [] vs
  | cons {vs vs₁ vs₂ : List (Option Value)} {y : Str} {ys : List Str} {v : Value} {ws : List Value} : SetL ns vs y v vs₁ → SetAll ns vs₁ ys ws vs₂ → SetAll ns vs (y :: ys) (v :: ws) vs₂
inductive KdAll (sn : List (Str × NameKind)) : List Expr → List Str → Prop
  | nil : KdAll sn [] []
  | cons {y : Str} {py : Pos} {es : List Expr} {ns : List Str} : Kd sn y .local → KdAll sn es ns → KdAll sn (.Name y py :: es) (y :: ns)
section
variable {c : Cx} {src L : Addr} {sn : List (Str × NameKind)} {mg mb : Str → Option Value} {g h h₁ h' : Heap} {D U m : Nat} {ns : List Str} {vs vs' : List (Option Value)} {led led' : List (Addr × Obj)} {r : Heap} {x : Str} {pos p' fp sp : Pos} {v : Value} {e e1 e2 : Expr} {F F' : Obj → List (Addr × Obj)} {B B' n1 n2 : Int}
  {P : Value → Heap → Prop} {R : Flow → Heap → Prop} {i j : Int}
inductive SlQ (la : Addr) (xs : List Value) (P : Value → Heap → Prop) (vl vu : Value) (h₂ : Heap) : Prop
  | mk (g' : Heap) (L' : Addr) (ns' : List Str) (vs' : List (Option Value)) (led' : List (Addr × Obj)) (r' : Heap) (ol oh : Option Int) : St g' L' ns' vs' led' r' h₂ → h₂.IsList la xs.toArray → IsPart vl ol → IsPart vu oh → xs.length ≤ sizeLine →
      (∀ d h', h₂.get? d = none → St g' L' ns' vs' ((d, listOf (pk ol oh xs).toArray 0) :: led') r' h' → St g' L' ns' vs' ((d, listOf (pk ol oh xs).toArray 0) :: led') h₂ h' → P (.ref d) h') → SlQ la xs P vl vu h₂
abbrev SlA (c : Cx) (hi : Option Expr) (la : Addr) (xs : List Value) (P : Value → Heap → Prop) (vl : Value) : Heap → Prop := fun h₁ => TR c h₁ (evalPart hi c.env) (SlQ la xs P vl)
/-- l[lo:hi] -/
theorem ev_slice {value : Expr} {lo hi : Option Expr} {la : Addr} {xs : List Value} (hv : PV c h value (.ref la))
    (q : TR c h (evalPart lo c.env) (SlA c hi la xs P))
    (hs : ∀ a, subscripted (.Slice lo hi none sp) false (.ref la) (.ref a) = operate [.ref a, .ref la] (getItem (.ref la) (.ref a))) (ht : ∀ r, letTemporaryGo value (.ref la) r = pure ()) : EV c h (.Subscript value (.Slice lo hi none sp) pos) P := by
  refine ⟨fun tk Q hQ => e_sub (hv.run tk _ fun v h' tk' p => ?_)⟩
  obtain ⟨rfl, rfl⟩ := p
  refine wpAny_Slice (q.run tk' _ fun vl h₁ tk₁ p => p.run tk₁ _ fun vu h₂ tk₂ p => ?_)
  obtain ⟨g', L', ns', vs', led', r', ol, oh, S, hl, pl, pu, hz, k⟩ := p
  refine wpAny_pure ?_
  refine e_slice (s := c.s) (tk := tk₂) S.re hl pl pu hz (fun d h' tk' n S' => hQ _ _ _ ?_) (hs _) ht
  rw [kms_pick_eq] at S'
  exact k d h' n (S.then S' fun _ h => List.mem_cons_of_mem _ h) S'
theorem tr_none : TR c h (evalPart none c.env) fun v h' => v = .none ∧ h' = h := ⟨fun tk Q hQ => wpAny_pure (hQ _ _ _ ⟨rfl, rfl⟩)⟩
theorem tr_some (q : EV c h e P) : TR c h (evalPart (some e) c.env) P := ⟨fun tk Q hQ => q.run tk Q hQ⟩
theorem TR.mono {α : Type} {t : Sem α} {P P' : α → Heap → Prop} (q : TR c h t P) (i : ∀ v h', P v h' → P' v h') : TR c h t P' := ⟨fun tk Q hQ => q.run tk Q fun v h' tk' p => hQ v h' tk' (i v h' p)⟩
theorem r_all {prog : Program} {w : World} {A : Around} {env : Env} {s : Shared} {E : Value → Shared → Prop} (Fe : FnEnv env L sn) {names : List (Str × Pos)} {ws : List Value} : ∀ {vs r h tk} {Q : Unit → Shared → Prop}, St g L ns vs led r h → (∀ x ∈ names, Kd sn x.1 .local) → SetAll ns vs (names.map (·.1)) ws vs' →
    (∀ h' tk', St g L ns vs' led r h' → St g L ns vs' led h h' → Q () (mk s h' tk')) → wpAny (model prog w) A (assignInOrder (names.map fun x => assign (.Name x.1 x.2) env) ws) Q E (mk s h tk) := by
  induction names generalizing ws with
  | nil =>
    intro vs r h tk Q S k sa hQ
    cases sa
    exact assignInOrder_nil (hQ _ _ S S.re)
  | cons x names ih =>
    intro vs r h tk Q S k sa hQ
    cases sa with
    | cons sl sa =>
      refine assignInOrder_cons (wpAny_assign_Name (r_store Fe S (k x (.head _)) sl fun h₁ tk₁ S₁ S₂ => ?_))
      exact ih S₁ (fun y hy => k y (.tail _ hy)) sa fun h' tk' S3 S4 => hQ h' tk' S3 (S₂.then S4 fun _ h => h)
theorem KdAll.each {env : Env} {elts : List Expr} {names : List Str} (k : KdAll sn elts names) : ∃ nps : List (Str × Pos), nps.map (·.1) = names ∧ (∀ x ∈ nps, Kd sn x.1 .local) ∧ assignEach elts env = nps.map fun x => (false, assign (.Name x.1 x.2) env) := by
  induction k with
  | nil => exact ⟨[], rfl, fun x hx => (nomatch hx), rfl⟩
  | @cons y py es ns k _ ih =>
    obtain ⟨nps, e1, e2, e3⟩ := ih
    refine ⟨(y, py) :: nps, by simp [e1], fun x hx => ?_, ?_⟩
    · rcases List.mem_cons.mp hx with rfl | hx
      · exact k
      · exact e2 x hx
    · show (false, assign (.Name y py) env) :: assignEach es env = _
      rw [e3]; rfl
inductive UnQ (c : Cx) (g : Heap) (L : Addr) (ns : List Str) (names : List Str) (rest : List Stmt) (R : Flow → Heap → Prop) (v : Value) (h₁ : Heap) : Prop
  | mk (ta : Addr) (ws : List Value) (vs₁ vs' : List (Option Value)) (led₁ : List (Addr × Obj)) (r₁ : Heap) : v = .ref ta → IsTup h₁ ta ws.toArray → St g L ns vs₁ led₁ r₁ h₁ → SetAll ns vs₁ names ws vs' → ws.length = names.length → (∀ h', St g L ns vs' led₁ r₁ h' → St g L ns vs' led₁ h₁ h' → XS c h' rest R) → UnQ c g L ns names rest R v h₁
theorem xs_unpack {names : List Str} {kt : Nat} {tp : Pos} {rest : List Stmt} {elts : List Expr} (C : Fc c L sn mg mb g D U) (ka : KdAll sn elts names)
    (q : EV c h e (UnQ c g L ns names rest R))
    (hs : swapsWithSole [.Tuple elts kt tp] e pos.line c.env = pure false) (hw : swappedStores [.Tuple elts kt tp] e c.env = pure none) : XS c h (.Assign [.Tuple elts kt tp] e pos :: rest) R := by
  refine ⟨fun tk Q hQ => wpAny_execs_cons (PyProof.Rows.Assign_Tuple (hs := hs) (hw := hw) (q.run tk _ fun v h₁ tk₁ p => ?_))⟩
  obtain ⟨ta, ws, vs₁, vs', led₁, r₁, rfl, ht, S, sa, hl, k⟩ := p
  obtain ⟨nps, e1, e2, hae⟩ := ka.each (env := c.env)
  subst e1
  refine assign_Tuple_tuple (s := mk c.s h₁ tk₁) C.hh ht (by rw [hae]; simp at hl; simp [hl]) (by rw [hae]; exact List.findIdx?_eq_none_iff.mpr (by simp)) fun h₂ he => ?_
  have S2 : St g L ns vs₁ led₁ r₁ h₂ := S.keepAll fun b o e => he b o (Nat.ne_of_lt (Heap.lt_size e)) e
  have S3 : St g L ns vs₁ led₁ h₁ h₂ := S.re.keepAll fun b o e => he b o (Nat.ne_of_lt (Heap.lt_size e)) e
  rw [hae, List.map_map]
  refine r_all (s := c.s) C.fe S2 e2 sa fun h' tk' S4 S5 => (k h' S4 (S3.then S5 fun _ h => h)).run tk' _ hQ
end

/-! ## _law_row -/
theorem bindL_none {kindOf : Str → Option NameKind} : ∀ {binds : List (Str × Value)} {m : Str → Option Value}, (∀ x ∈ binds, kindOf x.1 ≠ some .local) → bindL kindOf binds m = m
  | [], _, _ => rfl
  | (n, v) :: r, m, h => by
    unfold bindL
    rw [if_neg (h (n, v) (.head _))]
    exact bindL_none fun x hx => h x (.tail _ hx)
theorem lkp_none' (ns : List Str) : lkp ns (ns.map fun _ => none) = fun _ => none := funext fun x => lkp_none ns x
section
variable {c : Cx} {src L ca : Addr} {sn : List (Str × NameKind)} {mg mb : Str → Option Value} {g h : Heap} {D U : Nat} {ns : List Str} {vs : List (Option Value)} {r : Heap} {x : Str} {pos : Pos} {v : Value} {F : Obj → List (Addr × Obj)} {B : Int} {oc : Obj}
theorem pv_cellD (C : Fc c L sn mg mb g D U) (S : DS src g L ns vs F B r h) (k : Kd sn x .cell) (hc : c.env.cells.lookup x = some ca) (hm : ∀ o, (ca, oc) ∈ F o) (hd : oc.data = .cell (some v)) : PV c h (.Name x pos) v := by
  obtain ⟨⟨o, _, S⟩, _⟩ := S
  exact pv_cell C S k hc (hm o) hd
theorem St.dropNew {led led' : List (Addr × Obj)} (S : St g L ns vs led r h) (l : led'.Sublist led) (x : ∀ a ∈ led.map (·.1), a ∈ led'.map (·.1) ∨ r.get? a = none) : St g L ns vs led' r h :=
  ⟨S.nd, S.F, fun p hp => S.N p (l.subset hp), (l.map (·.1)).nodup S.ld, fun p hp => S.lt p (l.subset hp), ⟨fun b o n e => S.go.K b o (fun hm => by
    rcases List.mem_cons.mp hm with q | q
    · exact n (q ▸ List.mem_cons_self)
    · rcases x b q with q | q
      · exact n (List.mem_cons_of_mem _ q)
      · rw [q] at e; cases e) e, S.go.D, S.go.T⟩⟩
theorem DS.drop2 {d b2 b1 : Addr} {od o2 o1 : Obj} (S : DS src g L ns vs (fun o => (d, od) :: (b2, o2) :: (b1, o1) :: F o) B r h) (n2 : r.get? b2 = none) (n1 : r.get? b1 = none) (up : ∀ o, Up (F o) src o F) : DS src g L ns vs (fun o => (d, od) :: F o) B r h := by
  obtain ⟨⟨o, so, S⟩, _⟩ := S
  refine ⟨⟨o, so, S.dropNew (.cons_cons _ (.cons _ (.cons _ (.refl _)))) fun a ha => ?_⟩, fun o => .tail (up o)⟩
  rcases List.mem_cons.mp ha with q | q
  · exact .inl (q ▸ List.mem_cons_self)
  · rcases List.mem_cons.mp q with q | q
    · exact .inr (q ▸ n2)
    · rcases List.mem_cons.mp q with q | q
      · exact .inr (q ▸ n1)
      · exact .inl (List.mem_cons_of_mem _ q)
theorem DS.st (S : DS src g L ns vs F B r h) : ∃ led, St g L ns vs led r h := by
  obtain ⟨⟨o, _, S⟩, _⟩ := S
  exact ⟨_, S⟩
end
theorem row_spec {w : World} {h : Heap} {src : Addr} {B : Int} {o : Obj} (so : SrcO o B) (hB : B < 900000) : Spec w 311 [.ref src] [(src, o)] 7 21 h (ListPost src (B + 300) 130 h) := by
  refine spec_cells (D := 6) (U := 18) [(Str.ofString "source", .ref src)] [Str.ofString "found", Str.ofString "head", Str.ofString "last", Str.ofString "many", Str.ofString "spot"] [none, none, none, none, none] (fun y => if y = Str.ofString "source" then some (.ref src) else none) rfl (by kernel_rfl) rfl ?_ ?_ ?_ (by decide +kernel) (by decide +kernel) (by decide +kernel) (by simp) (by simpa using so.notT) ?_
  · intro x hx
    rw [List.mem_singleton.mp hx]
    exact .inr (by dsimp only; decide +kernel)
  · intro env he
    rw [bindL_none, ← lkp_none' [Str.ofString "found", Str.ofString "head", Str.ofString "last", Str.ofString "many", Str.ofString "spot"]]
    · rfl
    · intro x hx
      rw [List.mem_singleton.mp hx]
      unfold Env.kindOf
      rw [he]
      dsimp only
      decide +kernel
  · intro env he
    show bindC env.kindOf _ _ = _
    have : ¬ env.kindOf (Str.ofString "source") = some .local := by
      unfold Env.kindOf
      rw [he]
      decide +kernel
    unfold bindC bindC
    rw [if_neg this]
  intro c mg mb g h₁ L hw C hc hk hL hown hcm S
  dsimp only at C hc
  subst hw
  have hc1 : c.env.cells = [(Str.ofString "source", L + 1)] := by rw [hc]; rfl
  clear hc
  have hlk : c.env.cells.lookup (Str.ofString "source") = some (L + 1) := by rw [hc1]; rfl
  have hs1 := hown _ (.head _)
  dsimp only at hs1
  obtain ⟨oc, hoc, S⟩ := S.addCell (hcm _ _ hlk) (Nat.succ_ne_self L) (hL _ (Nat.le_succ _)).2 (fun hm => Nat.lt_irrefl L (Nat.lt_of_succ_lt (show L + 1 < L from (List.mem_singleton.mp hm : L + 1 = src) ▸ hs1)))
  rw [if_pos rfl] at hoc
  have S0 : DS src g L [Str.ofString "found", Str.ofString "head", Str.ofString "last", Str.ofString "many", Str.ofString "spot"] [none, none, none, none, none] (fun o => [(L + 1, oc), (src, o)]) B h h₁ := ⟨⟨o, so, S⟩, fun o => .tail .head⟩
  clear S
  have hsl : sizeLine = 16777216 := sizeLine_eq
  have psrc : ∀ {vs B r h p}, DS src g L [Str.ofString "found", Str.ofString "head", Str.ofString "last", Str.ofString "many", Str.ofString "spot"] vs (fun o => [(L + 1, oc), (src, o)]) B r h → PV c h (.Name (Str.ofString "source") p) (.ref src) := fun S => pv_cellD C S (by (repeat' (first | exact Kd.head | apply Kd.tail))) hlk (fun o => .head _) hoc
  refine xs_ifE (te_take C (by decide) (by decide) S0 (by (repeat' (first | exact Kd.head | apply Kd.tail))) (psrc S0) pi_const (by omega) (by decide) (by decide) (fun b h₂ S1 _ => xs_ifb (fun _ => ?_) fun _ => xs_nil ?_) (fun _ => rfl) fun _ => rfl)
  · obtain ⟨led, So⟩ := S1.st
    refine xs_ret (ev_comp (L := L) (snc := [(Str.ofString ".0", .local), (Str.ofString "k", .local), (Str.ofString "_law_any", .globalImplicit), (Str.ofString "source", .cell)]) (nsc := [Str.ofString "k"]) (cl := [(Str.ofString "source", L + 1)]) (vz := fun z => [z]) C ⟨relab C (by decide +kernel), by decide +kernel, by decide +kernel, by decide +kernel, rfl, by decide +kernel, rfl, fun z v => .head, by (repeat' (first | exact Kd.head | apply Kd.tail)), ?_, by decide +kernel⟩ (fun _ => rfl) (EV.mono (ev_range1 (P := fun k h' => 0 ≤ k ∧ k < 15 ∧ DS src g L [Str.ofString "found", Str.ofString "head", Str.ofString "last", Str.ofString "many", Str.ofString "spot"] [none, none, none, none, none] (fun o => [(L + 1, oc), (src, o)]) (B + 2) h h') C So (by (repeat' (first | exact Kd.head | apply Kd.tail))) (EV.mono (ev_take (i := 15) C (by decide) (by decide) S1 (by (repeat' (first | exact Kd.head | apply Kd.tail))) (psrc S1) pi_const (by omega) (by omega) (by omega) (fun _ => rfl) fun _ => rfl) ?_) rfl) ?_))
    · unfold closureFor cellOf
      rw [hc1]; rfl
    · rintro v h₃ ⟨⟨d, t, rfl, d0, d1⟩, S7, S7'⟩
      exact ⟨d, t, rfl, d0, d1, S7.mono (by omega)⟩
    rintro v h₃ ⟨kk, h₄, rr, t, u, w, rfl, ⟨k0, k1, S2⟩, hr, kp⟩
    refine ⟨fun tk Q hQ => (src_range C.hh hr (by omega)).run tk _ fun it h₅ tk₅ p => hQ _ _ _ ?_⟩
    obtain ⟨It, fp, Sw, rfl, W, sw, n0, k12, hfp, hsw⟩ := p
    obtain ⟨⟨o2, so2, S2⟩, up⟩ := S2
    have S3 := S2.keepAll kp
    refine ⟨h₃, [(src, o2)], _, It, fp, _, Sw, fun i ys led h => Ex2 fun o ts => led = [(src, o)] ∧ SrcO o (B + 2 + i) ∧ Toks h ys ts ∧ ts.all tokV = true ∧ ts.length = i, rfl, W, sw, n0, k12, S3.F.keep, fun p hp => ?_, by simp, fun p hp => ?_, fun b hb => ?_, hsw, by omega, ⟨o2, [], rfl, by simpa using so2, .nil, rfl, rfl⟩, ?_, ?_, ?_⟩
    · rw [List.mem_singleton.mp hp]
      have := S3.N _ (.tail _ (.head _))
      exact ⟨this.1, this.2.2⟩
    · rw [List.mem_singleton.mp hp]; exact so2.notT
    · refine (hfp b hb).imp_right fun q => ?_
      cases q.2
      refine ⟨q.1, fun hm => ?_⟩
      have e1 : rr = src := List.mem_singleton.mp hm
      have e2 := (S3.N _ (.tail _ (.head _))).1
      rw [← e1] at e2
      obtain ⟨_, _, _, _, _, _, _, eo, _⟩ := so2
      rw [eo] at e2
      have e3 : Value.type "list" = Value.type "range" := congrArg Obj.cls (Option.some.inj (e2.symm.trans hr))
      exact absurd e3 (by decide)
    · rintro i ys led h h' ⟨o, ts, e1, so, tt, tv, tl⟩ k
      exact ⟨o, ts, e1, so, tt.mono k, tv, tl⟩
    · rintro i v ys m Dd led' h₆ Ca g' hi pv Fi kg S4 el ⟨o3, ts, rfl, so3, tt, tv, tl⟩ hl
      have S5 : DS src g' Ca [Str.ofString "k"] [some v] (fun o => [(Dd, listOf ys.toArray m), (src, o)]) (B + 2 + i) h₆ h₆ := ⟨⟨o3, so3, S4⟩, fun o => .tail .head⟩
      refine EV.mono (ev_drawTok (D' := 2) (U' := 6) (n := 1) Fi (by decide) (by decide) S5 (pv_glob Fi S4 (by (repeat' (first | exact Kd.head | apply Kd.tail))) (gl_law_any _)) (fn_law_any _) (fun o so => any_spec so (by omega)) (pv_cellH Fi (by (repeat' (first | exact Kd.head | apply Kd.tail))) rfl ⟨oc, ?_, hoc⟩) (fun _ => rfl)) ?_
      · refine S4.F.keep _ _ (kg _ _ (fun hm => ?_) (S3.N _ (.head _)).1)
        exact Nat.lt_irrefl L (Nat.lt_of_succ_lt (show L + 1 < L from (List.mem_singleton.mp hm : L + 1 = src) ▸ hs1))
      · rintro v' h₇ ⟨⟨t, tt', tv'⟩, S6, _⟩
        obtain ⟨⟨o7, so7, S6⟩, _⟩ := S6
        exact ⟨[(src, o7)], S6, rfl, o7, ts ++ [t], rfl, so7.mono (by omega), (tt.mono S6.go.T).append (.cons tt' .nil), by simp [tv, tv'], by simp [tl]⟩
    · rintro Dd Ca h' ys m led' nC nDC go nD eD hl el eled ⟨o7, ts, rfl, so7, tt, tv, tl⟩
      have e7 := eled _ (.head _)
      have S8 := S3.after1 (up o2) go e7 so7.notT
      exact ⟨S8.fin, o7, Dd, ys, m, ts, e7, so7.mono (by omega), rfl, S3.go.D _ nD, eD, tt, tv, by omega⟩
  obtain ⟨led, So⟩ := S1.st
  show XS _ _ _ _
  refine xs_unpack (ns := [Str.ofString "found", Str.ofString "head", Str.ofString "last", Str.ofString "many", Str.ofString "spot"]) (L := L) (g := g) C (.cons (by (repeat' (first | exact Kd.head | apply Kd.tail))) (.cons (by (repeat' (first | exact Kd.head | apply Kd.tail))) (.cons (by (repeat' (first | exact Kd.head | apply Kd.tail))) (.cons (by (repeat' (first | exact Kd.head | apply Kd.tail))) .nil)))) (EV.mono (P := fun v h' => Ex11 fun tp a xs n ts hd la many t1 t2 t3 => v = .ref tp ∧ IsTup h' tp [Value.ref a, .int hd t1, .int la t2, .int many t3].toArray ∧ h₂.get? a = none ∧ Toks h' xs ts ∧ ts.all tokV = true ∧ ts.length ≤ 60 ∧ (0 ≤ hd ∧ hd ≤ 60 ∧ 0 ≤ la ∧ la ≤ 60 ∧ 0 ≤ many ∧ many ≤ 9) ∧ DS src g L [Str.ofString "found", Str.ofString "head", Str.ofString "last", Str.ofString "many", Str.ofString "spot"] [none, none, none, none, none] (fun o => [(a, listOf xs.toArray n), (L + 1, oc), (src, o)]) (B + 201) h h') ?_ ?_) rfl rfl
  · obtain ⟨⟨o2, so2, S2⟩, up⟩ := S1
    refine ev_call (pv_glob C S2 (by (repeat' (first | exact Kd.head | apply Kd.tail))) (gl_law_written _)) (fn_law_written _) C S2 (ea_cons (EV.mono (psrc ⟨⟨o2, so2, S2⟩, up⟩) ?_) rfl) rfl
    rintro v h₃ ⟨rfl, rfl⟩
    refine ea_nil ⟨S2.F.keep, tr_spec (written_spec so2 (by omega)) C S2 (by decide) (by decide) (fun p hp => by rw [List.mem_singleton.mp hp]; exact .tail _ (.head _)) fun h' v go post => ?_⟩
    obtain ⟨o3, tp, a, xs, n, ts, hd, la, many, t1, t2, t3, e3, so3, rfl, it, na, ea, tt, tv, tl, b1, b2, b3, b4, b5, b6⟩ := post
    refine ⟨tp, a, xs, n, ts, hd, la, many, t1, t2, t3, rfl, it, na, tt, tv, tl, ⟨b1, b2, b3, b4, b5, b6⟩, ⟨o3, so3.mono (by omega), ?_⟩, fun o => .tail (.tail .head)⟩
    exact (S2.after1 (up o2) go e3 so3.notT).add ea na S2 (fun x hx => hx) not_isT_list
  · rintro v h₃ ⟨tp, a, xs, n, ts, hd, la, many, t1, t2, t3, rfl, it, na, tt, tv, tl, bb, S2⟩
    obtain ⟨⟨o3, so3, S3⟩, up3⟩ := S2
    refine ⟨tp, _, _, _, _, _, rfl, it, S3, .cons (by (repeat' (first | exact SetL.head | apply SetL.tail))) (.cons (by (repeat' (first | exact SetL.head | apply SetL.tail))) (.cons (by (repeat' (first | exact SetL.head | apply SetL.tail))) (.cons (by (repeat' (first | exact SetL.head | apply SetL.tail))) .nil))), rfl, fun h₄ S4 S5 => ?_⟩
    have tt := tt.mono S5.go.T
    have S2 : DS src g L [Str.ofString "found", Str.ofString "head", Str.ofString "last", Str.ofString "many", Str.ofString "spot"] [some (.ref a), some (.int hd t1), some (.int la t2), some (.int many t3), none] (fun o => [(a, listOf xs.toArray n), (L + 1, oc), (src, o)]) (B + 201) h h₄ := ⟨⟨o3, so3, S4⟩, fun o => .tail (.tail .head)⟩
    have na0 := S1.dom _ na
    clear S5 S4 S3 so3 up3 it S1 So S0 S
    have psrc : ∀ {vs F B r h p}, DS src g L [Str.ofString "found", Str.ofString "head", Str.ofString "last", Str.ofString "many", Str.ofString "spot"] vs F B r h → (∀ o, (L + 1, oc) ∈ F o) → PV c h (.Name (Str.ofString "source") p) (.ref src) := fun S m => pv_cellD C S (by (repeat' (first | exact Kd.head | apply Kd.tail))) hlk m hoc
    refine xs_ifE (te_lt (EV.mono (ev_take (i := 4) C (by decide) (by decide) S2 (by (repeat' (first | exact Kd.head | apply Kd.tail))) (psrc S2 fun o => .tail _ (.head _)) pi_const (by omega) (by decide) (by decide) (fun _ => rfl) fun _ => rfl) ?_) rfl)
    rintro v h₅ ⟨⟨d, td, rfl, _⟩, S6, S6'⟩
    refine ⟨d, td, rfl, 2, pi_const, xs_ifb (fun _ => xs_ret (EV.mono (pv_locD C S6 (by (repeat' (first | exact Kd.head | apply Kd.tail))) (by (repeat' (first | exact Loc.head | apply Loc.tail)))) ?_)) fun _ => xs_nil ?_⟩
    · rintro v h₆ ⟨rfl, rfl⟩
      exact S6.finL na0 (tt.mono S6'.tup) tv (by omega) (by omega)
    have tt := tt.mono S6'.tup
    clear S2 S6'
    show XS _ _ _ _
    have hxs : xs.length ≤ 60 := by rw [tt.length]; exact tl
    refine xs_assignD (src := src) (g := g) (ns := [Str.ofString "found", Str.ofString "head", Str.ofString "last", Str.ofString "many", Str.ofString "spot"]) (vs := [some (.ref a), some (.int hd t1), some (.int la t2), some (.int many t3), none]) (vs' := fun v => [some (.ref a), some (.int hd t1), some (.int la t2), some (.int many t3), some v]) (B' := B + 204) (F := fun o => [(a, listOf xs.toArray n), (L + 1, oc), (src, o)]) (r := h) (X := fun v h' => (Ex2 fun i t => v = .int i t ∧ 0 ≤ i ∧ i ≤ 200) ∧ TupK h₅ h') C (ev_subG (EV.mono (P := fun v h' => Ex3 fun b ys is => v = .ref b ∧ h₅.get? b = none ∧ IV ys is ∧ is.length = 4 ∧ (∀ i ∈ is, 0 ≤ i ∧ i ≤ 200) ∧ TupK h₅ h' ∧ DS src g L [Str.ofString "found", Str.ofString "head", Str.ofString "last", Str.ofString "many", Str.ofString "spot"] [some (.ref a), some (.int hd t1), some (.int la t2), some (.int many t3), none] (fun o => [(b, listOf ys.toArray 0), (a, listOf xs.toArray n), (L + 1, oc), (src, o)]) (B + 203) h h') (ev_list (ea_cons (EV.mono (ev_take (i := xs.length + 1) C (by decide) (by decide) S6 (by (repeat' (first | exact Kd.head | apply Kd.tail))) (psrc S6 fun o => .tail _ (.head _)) ?_ (by omega) (by omega) (by omega) (fun _ => rfl) fun _ => rfl) ?_) rfl)) ?_)) (by (repeat' (first | exact Kd.head | apply Kd.tail))) (fun v => by (repeat' (first | exact SetL.head | apply SetL.tail))) rfl ?_
    · obtain ⟨⟨o6, so6, So⟩, _⟩ := S6
      exact pi_add (ev_len C So (by (repeat' (first | exact Kd.head | apply Kd.tail))) (pv_loc C So (by (repeat' (first | exact Kd.head | apply Kd.tail))) (by (repeat' (first | exact Loc.head | apply Loc.tail)))) (isL (So.N _ (.head _)).1) (by omega) rfl) pi_const
    · rintro v h₆ ⟨⟨d2, td2, rfl, d0, d1⟩, S7, S7'⟩
      refine ea_cons (EV.mono (pi_locD C S7 (by (repeat' (first | exact Kd.head | apply Kd.tail))) (by (repeat' (first | exact Loc.head | apply Loc.tail)))) ?_) rfl
      rintro v h₇ ⟨⟨tv1, rfl⟩, rfl⟩
      refine ea_cons (EV.mono (pi_locD C S7 (by (repeat' (first | exact Kd.head | apply Kd.tail))) (by (repeat' (first | exact Loc.head | apply Loc.tail)))) ?_) rfl
      rintro v h₇ ⟨⟨tv2, rfl⟩, rfl⟩
      refine ea_cons (EV.mono (pi_add (pi_locD C S7 (by (repeat' (first | exact Kd.head | apply Kd.tail))) (by (repeat' (first | exact Loc.head | apply Loc.tail)))) pi_const) ?_) rfl
      rintro v h₇ ⟨⟨tv3, rfl⟩, rfl⟩
      obtain ⟨⟨o7, so7, S7⟩, up7⟩ := S7
      refine ea_nil ⟨_, _, _, _, _, _, S7, by simp [hsl], fun b h₈ nb S8 S9 => ⟨b, _, [d2, la, hd, hd + 1], rfl, S7'.dom _ nb, .cons (.cons (.cons (.cons .nil))), rfl, ?_, S7'.tup.trans S9.go.T, ⟨o7, so7.mono (by omega), S8⟩, fun o => .tail (up7 o)⟩⟩
      intro i hi
      simp only [List.mem_cons, List.not_mem_nil, or_false] at hi
      omega
    · rintro v h₆ ⟨b, ys, is, rfl, nb, iv, il, ib, k6, S7⟩
      refine EV.mono (ev_take (i := 4) C (by decide) (by decide) S7 (by (repeat' (first | exact Kd.head | apply Kd.tail))) (psrc S7 fun o => .tail _ (.tail _ (.head _))) pi_const (by omega) (by decide) (by decide) (fun _ => rfl) fun _ => rfl) ?_
      rintro v h₇ ⟨⟨d2, td2, rfl, d0, d1⟩, S8, S8'⟩
      have hx : is[d2.toNat]? = some (is[d2.toNat]'(by omega)) := List.getElem?_eq_getElem _
      obtain ⟨tt2, hw⟩ := iv.get hx
      have S9 := S8.dropHead (S6.dom _ nb) fun o => .tail (.tail .head)
      obtain ⟨⟨o3, _, S8⟩, _⟩ := S8
      exact ⟨fun tk Q hQ => i_list (S8.N _ (.head _)).1 d0 (by omega) hw (hQ _ _ _ ⟨⟨⟨_, _, rfl, ib _ (List.getElem_mem _)⟩, k6.trans S8'.tup⟩, S9.mono (by omega)⟩) (by with_unfolding_all rfl)⟩
    rintro _ h₆ h₇ ⟨⟨sp, tsp, rfl, sp0, sp1⟩, k6⟩ S7 S8
    have tt := (tt.mono k6).mono S7.tup
    clear S7 S6 k6
    have ph : ∀ lo hi, (pk lo hi xs).length ≤ 60 := fun lo hi => Nat.le_trans (pk_length ..) hxs
    refine xs_ret (ev_binG (EV.mono (P := fun v h' => Ex4 fun b ys ts' n' => v = .ref b ∧ h₇.get? b = none ∧ Toks h' ys ts' ∧ ts'.all tokV = true ∧ ts'.length ≤ 62 ∧ Toks h' xs ts ∧ DS src g L [Str.ofString "found", Str.ofString "head", Str.ofString "last", Str.ofString "many", Str.ofString "spot"] [some (.ref a), some (.int hd t1), some (.int la t2), some (.int many t3), some (.int sp tsp)] (fun o => [(b, listOf ys.toArray n'), (a, listOf xs.toArray n), (L + 1, oc), (src, o)]) (B + 205) h h') (ev_binG (EV.mono (P := fun v h' => ∃ b, v = .ref b ∧ h₇.get? b = none ∧ TupK h₇ h' ∧ (∀ b, h'.get? b = none → h₇.get? b = none) ∧ DS src g L [Str.ofString "found", Str.ofString "head", Str.ofString "last", Str.ofString "many", Str.ofString "spot"] [some (.ref a), some (.int hd t1), some (.int la t2), some (.int many t3), some (.int sp tsp)] (fun o => [(b, listOf (pk none (some sp) xs).toArray 0), (a, listOf xs.toArray n), (L + 1, oc), (src, o)]) (B + 204) h h') (ev_slice (xs := xs) (pv_locD C S8 (by (repeat' (first | exact Kd.head | apply Kd.tail))) (by (repeat' (first | exact Loc.head | apply Loc.tail)))) (tr_none.mono ?_) ?_ ?_) ?_)) ?_))
    · rintro vl h₈ ⟨rfl, rfl⟩
      refine tr_some (EV.mono (pi_locD C S8 (by (repeat' (first | exact Kd.head | apply Kd.tail))) (by (repeat' (first | exact Loc.head | apply Loc.tail)))) ?_)
      rintro vu h₉ ⟨⟨tu, rfl⟩, rfl⟩
      obtain ⟨⟨o8, so8, S8⟩, up8⟩ := S8
      exact ⟨_, _, _, _, _, _, none, some sp, S8, isL (S8.N _ (.head _)).1, .none, .int _ _, by omega, fun d h' nd S9 S10 => ⟨d, rfl, nd, S10.go.T, S10.go.D, ⟨o8, so8, S9⟩, fun o => .tail (up8 o)⟩⟩
    · intro a; with_unfolding_all rfl
    · intro a; with_unfolding_all rfl
    · rintro v h₈ ⟨b, rfl, nb, k8, d8, S9⟩
      obtain ⟨led9, So⟩ := S9.st
      refine EV.mono (ev_drawList (D' := 2) (U' := 6) (m := 2) (n := 1) C (by decide) (by decide) S9 (pv_glob C So (by (repeat' (first | exact Kd.head | apply Kd.tail))) (gl_law_spoilt _)) (fn_law_spoilt _) (ea_cons (EV.mono (psrc S9 fun o => .tail _ (.tail _ (.head _))) ?_) rfl) rfl) ?_
      · rintro v h₉ ⟨rfl, rfl⟩
        refine ea_cons (EV.mono (pv_locD C S9 (by (repeat' (first | exact Kd.head | apply Kd.tail))) (by (repeat' (first | exact Loc.head | apply Loc.tail)))) ?_) rfl
        rintro v h₉ ⟨rfl, rfl⟩
        exact ea_nil ⟨rfl, fun o so => spoilt_spec so (by omega) (by omega) (by omega)⟩
      · rintro v h₉ ⟨b2, ys2, n2, ts2, rfl, nb2, tt2, tv2, tl2, S10, S10'⟩
        refine ⟨fun tk Q hQ => (tr_catD S10 (fun o => .tail _ (.head _)) (fun o => .head _) (by have := ph none (some sp); rw [tt2.length]; omega)).run tk Q fun v h₁₀ tk' p => hQ _ _ _ ?_⟩
        obtain ⟨d, rfl, nd, S11, k11⟩ := p
        have ttp := ((tt.pk none (some sp)).mono k8).mono S10'.tup
        refine ⟨d, _, pk none (some sp) ts ++ ts2, 0, rfl, ?_, (ttp.append tt2).mono k11, by rw [List.all_append, Bool.and_eq_true]; exact ⟨pk_all tv, tv2⟩, ?_, ((tt.mono k8).mono S10'.tup).mono k11, ?_⟩
        · exact d8 _ (S10'.dom _ nd)
        · have := pk_length none (some sp) ts
          rw [List.length_append]; omega
        · exact (S11.drop2 (S9.dom _ nb2) (S8.dom _ nb) fun o => .tail (.tail .head)).mono (by omega)
    · rintro v h₈ ⟨b, ys, ts', n', rfl, nb, tt', tv', tl', tt, S9⟩
      refine EV.mono (P := fun v h' => Ex2 fun lo d => v = .ref d ∧ h₈.get? d = none ∧ TupK h₈ h' ∧ DS src g L [Str.ofString "found", Str.ofString "head", Str.ofString "last", Str.ofString "many", Str.ofString "spot"] [some (.ref a), some (.int hd t1), some (.int la t2), some (.int many t3), some (.int sp tsp)] (fun o => [(d, listOf (pk (some lo) none xs).toArray 0), (b, listOf ys.toArray n'), (a, listOf xs.toArray n), (L + 1, oc), (src, o)]) (B + 206) h h') ?_ ?_
      · refine ev_slice (xs := xs) (pv_locD C S9 (by (repeat' (first | exact Kd.head | apply Kd.tail))) (by (repeat' (first | exact Loc.head | apply Loc.tail)))) (tr_some (ev_binG (EV.mono (pi_add (pi_locD C S9 (by (repeat' (first | exact Kd.head | apply Kd.tail))) (by (repeat' (first | exact Loc.head | apply Loc.tail)))) pi_const) ?_))) ?_ ?_
        · rintro vl h₉ ⟨⟨tl3, rfl⟩, rfl⟩
          refine EV.mono (ev_take (i := 2) C (by decide) (by decide) S9 (by (repeat' (first | exact Kd.head | apply Kd.tail))) (psrc S9 fun o => .tail _ (.tail _ (.head _))) pi_const (by omega) (by decide) (by decide) (fun _ => rfl) fun _ => rfl) ?_
          rintro v h₁₀ ⟨⟨d2, td2, rfl, d0, d1⟩, S10, S10'⟩
          refine ⟨fun tk Q hQ => o_sub fun t tk' => hQ _ _ _ (tr_none.mono ?_)⟩
          rintro v h₁₁ ⟨rfl, rfl⟩
          obtain ⟨⟨o8, so8, S11⟩, up8⟩ := S10
          exact ⟨_, _, _, _, _, _, some (sp + 1 - d2), none, S11, isL (S11.N _ (.tail _ (.head _))).1, .int _ _, .none, by omega, fun d h' nd S12 S13 => ⟨_, d, rfl, S10'.dom _ nd, S10'.tup.trans S13.go.T, ⟨o8, so8.mono (by omega), S12⟩, fun o => .tail (up8 o)⟩⟩
        · intro a; with_unfolding_all rfl
        · intro a; with_unfolding_all rfl
      · rintro v h₉ ⟨lo, d, rfl, nd, k9, S10⟩
        have := ph (some lo) none
        refine ⟨fun tk Q hQ => (tr_catD S10 (fun o => .tail _ (.head _)) (fun o => .head _) (by rw [tt'.length]; omega)).run tk Q fun v h₁₀ tk' p => hQ _ _ _ ?_⟩
        obtain ⟨d2, rfl, nd2, S11, k11⟩ := p
        have tt3 := ((tt'.mono k9).append ((tt.pk (some lo) none).mono k9)).mono k11
        refine DS.finL S11 (S10.dom _ nd2) tt3 ?_ ?_ (by omega)
        · rw [List.all_append, Bool.and_eq_true]; exact ⟨tv', pk_all tv⟩
        · have := pk_length (some lo) none ts
          rw [List.length_append]; omega

/-! ## while, augmented assignment; _law_run -/
section
variable {c : Cx} {L : Addr} {sn : List (Str × NameKind)} {mg mb : Str → Option Value} {g h h' : Heap} {D U : Nat} {ns : List Str} {vs vs' : List (Option Value)} {led led' : List (Addr × Obj)} {r : Heap} {x : Str} {pos p' : Pos} {v : Value} {R : Flow → Heap → Prop} {e : Expr} {i j : Int}
theorem TE.mono {test : Expr} {P P' : Bool → Heap → Prop} (q : TE c h test P) (i : ∀ b h', P b h' → P' b h') : TE c h test P' := ⟨fun tk Q hQ => q.run tk Q fun b h' tk' p => hQ b h' tk' (i b h' p)⟩
theorem xs_while {test : Expr} {body rest : List Stmt} (C : Fc c L sn mg mb g D U) (I : Nat → Heap → Prop) (n₀ : Nat) (i0 : I n₀ h)
    (turn : ∀ n h₁, I n h₁ → TE c h₁ test fun b h₂ => if b then XS c h₂ body fun f h₃ => match f with | .next | .cont => ∃ m, m < n ∧ I m h₃ | .ret v => R (.ret v) h₃ | .brk => False else XS c h₂ rest R) : XS c h (.While test body [] pos :: rest) R := by
  refine ⟨fun tk Q hQ => wpAny_execs_cons (wpAny_While (codeAny_whileLoop (fun n s' => Ex2 fun h₁ tk₁ => s' = mk c.s h₁ tk₁ ∧ I n h₁) ?_ n₀ ⟨h, tk, rfl, i0⟩))⟩
  rintro n s' ⟨h₁, tk₁, rfl, i1⟩
  have gE : ∀ {α : Type} {t : Sem α} {Q : α → Shared → Prop} {s : Shared}, wpAny (model c.prog c.w) c.A t Q c.E s → wpAny (model c.prog c.w) c.A t Q (notedBy (model c.prog c.w) c.A c.env fun e s' => cameBackBy (model c.prog c.w) c.A c.env c.E e s') s := fun h => wpAny_passesOwn C.po h
  refine gE ((turn n h₁ i1).run tk₁ _ fun b h₂ tk₂ p => ?_)
  cases b with
  | false =>
    simp only [Bool.false_eq_true, if_false] at p ⊢
    exact wpAny_execs_nil (p.run tk₂ _ hQ)
  | true =>
    simp only [if_true] at p ⊢
    refine gE (p.run tk₂ _ fun f h₃ tk₃ p => ?_)
    cases f with
    | next =>
      obtain ⟨m, hm, im⟩ := p
      exact ⟨m, hm, h₃, tk₃, rfl, im⟩
    | cont =>
      obtain ⟨m, hm, im⟩ := p
      exact ⟨m, hm, h₃, tk₃, rfl, im⟩
    | brk => exact p.elim
    | ret v => exact hQ _ _ _ p
theorem xs_augAdd {t : Tok} {rest : List Stmt} {vs' : Tok → List (Option Value)} (C : Fc c L sn mg mb g D U) (S : St g L ns vs led r h) (k : Kd sn x .local) (l : Loc ns vs x (.int i t)) (q : PI c h e j) (l' : ∀ t, SetL ns vs x (.int (i + j) t) (vs' t))
    (hr : ∀ t h', St g L ns (vs' t) led r h' → St g L ns (vs' t) led h h' → XS c h' rest R) : XS c h (.AugAssign (.Name x p') .Add e pos :: rest) R :=
  ⟨fun tk Q hQ => wpAny_execs_cons (wpAny_AugAssign_Name (wpAny_loadName_local C.fe.kind (C.fe.kindOf k) (C.fe.loc ▸ S.F.ns) (l.get S.nd) (q.run tk _ fun v h' tk' p => by
    obtain ⟨⟨u, rfl⟩, rfl⟩ := p
    exact PySem.AutoIntOps.iadd_0 (s := mk c.s h' tk') (r_store C.fe S k (l' _) fun h₂ tk₂ S₂ S₃ => (hr _ h₂ S₂ S₃).run tk₂ _ hQ))))⟩
theorem xs_augSub {t : Tok} {rest : List Stmt} {vs' : Tok → List (Option Value)} (C : Fc c L sn mg mb g D U) (S : St g L ns vs led r h) (k : Kd sn x .local) (l : Loc ns vs x (.int i t)) (q : PI c h e j) (l' : ∀ t, SetL ns vs x (.int (i - j) t) (vs' t))
    (hr : ∀ t h', St g L ns (vs' t) led r h' → St g L ns (vs' t) led h h' → XS c h' rest R) : XS c h (.AugAssign (.Name x p') .Sub e pos :: rest) R :=
  ⟨fun tk Q hQ => wpAny_execs_cons (wpAny_AugAssign_Name (wpAny_loadName_local C.fe.kind (C.fe.kindOf k) (C.fe.loc ▸ S.F.ns) (l.get S.nd) (q.run tk _ fun v h' tk' p => by
    obtain ⟨⟨u, rfl⟩, rfl⟩ := p
    exact PySem.AutoIntOps.isub_0 (s := mk c.s h' tk') (r_store C.fe S k (l' _) fun h₂ tk₂ S₂ S₃ => (hr _ h₂ S₂ S₃).run tk₂ _ hQ))))⟩
end
/-- a list of tokens in a heap -/
def TL (h : Heap) (a : Addr) (ts : List (Int × Int)) : Prop := Ex2 fun xs n => h.get? a = some (listOf xs.toArray n) ∧ Toks h xs ts
theorem TL.keep {h h' : Heap} {a : Addr} {ts : List (Int × Int)} (t : TL h a ts) (k : ∀ b o, h.get? b = some o → h'.get? b = some o) : TL h' a ts := by
  obtain ⟨xs, n, e, tt⟩ := t
  exact ⟨xs, n, k _ _ e, tt.mono fun a o e _ => k a o e⟩
/-- e is the token t -/
abbrev PK (c : Cx) (h : Heap) (e : Expr) (t : Int × Int) : Prop := EV c h e fun v h' => TokAt h v t ∧ h' = h
section
variable {c : Cx} {h : Heap} {e o ix : Expr} {t : Int × Int} {pos p' : Pos} {kk : Nat} {i : Int} {ta : Addr} {ts : List (Int × Int)} {j : Nat}
theorem pi_k0 (q : PK c h e t) : PI c h (.Subscript e (.Constant (.int 0) kk p') pos) t.1 := ev_subG (q.mono fun v h₁ p => by
  obtain ⟨⟨a, t1, t2, rfl, it⟩, rfl⟩ := p
  exact pi_const.mono fun v h₂ p => by
    obtain ⟨⟨u, rfl⟩, rfl⟩ := p
    exact ⟨fun tk Q hQ => i_tup (xs := [.int t.1 t1, .int t.2 t2]) (j := 0) it (by decide) (by decide) rfl rfl (hQ _ _ _ ⟨⟨t1, rfl⟩, rfl⟩) (by with_unfolding_all rfl)⟩)
theorem pi_k1 (q : PK c h e t) : PI c h (.Subscript e (.Constant (.int 1) kk p') pos) t.2 := ev_subG (q.mono fun v h₁ p => by
  obtain ⟨⟨a, t1, t2, rfl, it⟩, rfl⟩ := p
  exact pi_const.mono fun v h₂ p => by
    obtain ⟨⟨u, rfl⟩, rfl⟩ := p
    exact ⟨fun tk Q hQ => i_tup (xs := [.int t.1 t1, .int t.2 t2]) (j := 1) it (by decide) (by decide) rfl rfl (hQ _ _ _ ⟨⟨t2, rfl⟩, rfl⟩) (by with_unfolding_all rfl)⟩)
theorem pk_item (hv : PV c h o (.ref ta)) (hT : TL h ta ts) (hi : PI c h ix i) (hj : i = (j : Nat)) (hx : ts[j]? = some t) (hz : ts.length < 1000)
    (hs : ∀ t, subscripted ix false (.ref ta) (.int i t) = operate [.ref ta, .int i t] (getItem (.ref ta) (.int i t))) : PK c h (.Subscript o ix pos) t := by
  obtain ⟨xs, n, ea, tt⟩ := hT
  obtain ⟨w, hw, tw⟩ := tt.get hx
  have hl : j < ts.length := by
    rcases Nat.lt_or_ge j ts.length with q | q
    · exact q
    · rw [List.getElem?_eq_none q] at hx; cases hx
  subst hj
  exact (pv_item hv hi ea (by omega) (by omega) (by simpa using hw) hs).mono fun v h' p => ⟨by rw [p.1]; exact tw, p.2⟩
end
/-- how many marks stand right ahead of p, from b on -/
def runF (ts : List (Int × Int)) (b : Nat) : Nat → Nat
  | 0 => 0
  | p + 1 => if b ≤ p ∧ (ts[p]?.map (·.1)) = some 6 then runF ts b p + 1 else 0
theorem runF_le (ts : List (Int × Int)) (b : Nat) : ∀ p, runF ts b p ≤ p
  | 0 => Nat.le_refl _
  | p + 1 => by
    unfold runF
    split
    · have := runF_le ts b p; omega
    · omega
/-- m marks were seen; the rest is still to count -/
theorem runF_step {ts : List (Int × Int)} {b p m : Nat} (hm : m < p) (h1 : b < p - m) (h2 : (ts[p - m - 1]?.map (·.1)) = some 6) : runF ts b (p - m) = runF ts b (p - (m + 1)) + 1 := by
  obtain ⟨q, hq⟩ : ∃ q, p - m = q + 1 := ⟨p - m - 1, by omega⟩
  have e1 : p - (m + 1) = q := by omega
  have e2 : p - m - 1 = q := by omega
  rw [hq, e1]
  rw [e2] at h2
  show (if b ≤ q ∧ _ then _ else _) = _
  rw [if_pos ⟨by omega, h2⟩]
theorem runF_stop {ts : List (Int × Int)} {b p m : Nat} (h : ¬ (b < p - m ∧ (ts[p - m - 1]?.map (·.1)) = some 6)) : runF ts b (p - m) = 0 := by
  cases hq : p - m with
  | zero => rfl
  | succ q =>
    show (if b ≤ q ∧ _ then _ else _) = _
    rw [if_neg]
    rintro ⟨h1, h2⟩
    refine h ⟨by omega, ?_⟩
    have e2 : p - m - 1 = q := by omega
    rw [e2]; exact h2
theorem run_spec {w : World} {h : Heap} {ta : Addr} {ts : List (Int × Int)} {b p : Nat} {tb tp : Tok} (hT : TL h ta ts) (hp : p ≤ ts.length) (hz : ts.length < 1000) (hb : b ≤ 1000) : Spec w 318 [.ref ta, .int b tb, .int p tp] [] 1 3 h fun _ v => ∃ t, v = .int (runF ts b p) t := by
  refine spec_xs (D := 0) (U := 0) [Str.ofString "tokens", Str.ofString "begin", Str.ofString "place", Str.ofString "many"] 3 rfl (by kernel_rfl) (fun _ _ => BindsTo.of_eq rfl) rfl (by decide +kernel) (by decide) (by decide +kernel) (by decide +kernel) (by decide +kernel) (by simp) (by simp) ?_
  intro c mg mb g h₁ L hw C hk hL S
  dsimp only at C
  subst hw
  have hg : TL g ta ts := hT.keep fun b o e => hk b o (by simp) e
  refine xs_assign_i C S pi_const (by (repeat' (first | exact Kd.head | apply Kd.tail))) (fun t => by (repeat' (first | exact SetL.head | apply SetL.tail))) rfl fun t0 h₂ S => ?_
  refine xs_while C (fun n h' => Ex2 fun m t => St g L [Str.ofString "tokens", Str.ofString "begin", Str.ofString "place", Str.ofString "many"] [some (.ref ta), some (.int b tb), some (.int p tp), some (.int (m : Nat) t)] [] h h' ∧ m ≤ p ∧ n = p - m ∧ runF ts b p = m + runF ts b (p - m)) p ⟨0, t0, S, Nat.zero_le _, rfl, by simp⟩ ?_
  rintro n h₃ ⟨m, t, S, hmp, rfl, hrun⟩
  have hT3 := hg.keep S.F.keep
  refine TE.mono (te_and2 (PB' := fun q h' => h' = h₃ ∧ q = decide (b < p - m ∧ (ts[p - m - 1]?.map (·.1)) = some 6)) (pt_gt (pi_sub (pi_loc C S (by (repeat' (first | exact Kd.head | apply Kd.tail))) (by (repeat' (first | exact Loc.head | apply Loc.tail)))) (pi_loc C S (by (repeat' (first | exact Kd.head | apply Kd.tail))) (by (repeat' (first | exact Loc.head | apply Loc.tail))))) (pi_loc C S (by (repeat' (first | exact Kd.head | apply Kd.tail))) (by (repeat' (first | exact Loc.head | apply Loc.tail)))) rfl) (fun hc => ?_) fun hc => ⟨rfl, ?_⟩) ?_
  · have hc := of_decide_eq_true hc
    obtain ⟨tt, htt⟩ : ∃ tt, ts[p - m - 1]? = some tt := ⟨_, List.getElem?_eq_getElem (by omega)⟩
    refine te_pt (pt_eq (pi_k0 (pk_item (j := p - m - 1) (pv_loc C S (by (repeat' (first | exact Kd.head | apply Kd.tail))) (by (repeat' (first | exact Loc.head | apply Loc.tail)))) hT3 (pi_sub (pi_sub (pi_loc C S (by (repeat' (first | exact Kd.head | apply Kd.tail))) (by (repeat' (first | exact Loc.head | apply Loc.tail)))) (pi_loc C S (by (repeat' (first | exact Kd.head | apply Kd.tail))) (by (repeat' (first | exact Loc.head | apply Loc.tail))))) pi_const) (by omega) htt hz (fun _ => by with_unfolding_all rfl))) pi_const rfl) ⟨rfl, ?_⟩
    rw [htt]
    simp only [Option.map_some, Option.some.injEq]
    exact decide_eq_decide.mpr ⟨fun q => ⟨by omega, q⟩, fun q => q.2⟩
  · have hc := of_decide_eq_false hc
    exact (decide_eq_false fun q => hc (by omega)).symm
  · rintro q h₄ ⟨rfl, rfl⟩
    by_cases hq : b < p - m ∧ (ts[p - m - 1]?.map (·.1)) = some 6
    · rw [if_pos (decide_eq_true hq)]
      refine xs_augAdd C S (by (repeat' (first | exact Kd.head | apply Kd.tail))) (by (repeat' (first | exact Loc.head | apply Loc.tail))) pi_const (fun t => by (repeat' (first | exact SetL.head | apply SetL.tail))) fun t' h₅ S' _ => xs_nil ?_
      exact ⟨p - (m + 1), by omega, m + 1, t', S', by omega, rfl, by rw [hrun, runF_step (by omega) hq.1 hq.2]; omega⟩
    · rw [if_neg (by simpa using hq)]
      refine xs_ret (EV.mono (pi_loc C S (by (repeat' (first | exact Kd.head | apply Kd.tail))) (by (repeat' (first | exact Loc.head | apply Loc.tail)))) ?_)
      rintro v h' ⟨⟨t2, rfl⟩, rfl⟩
      exact ⟨S.fin, t2, by rw [hrun, runF_stop hq, Nat.add_zero]⟩

/-! ## comparing data -/
def tokD (t : Int × Int) : PyData := .tuple [.int t.1, .int t.2]
theorem TokAt.reads {h : Heap} {v : Value} {t : Int × Int} (x : TokAt h v t) : Reads h v (tokD t) [] := by
  obtain ⟨a, t1, t2, rfl, o, ho, hc, n, hd⟩ := x
  exact .tuple ho hc hd (.cons (.int _ _) (.cons (.int _ _) .nil))
theorem Toks.reads {h : Heap} {xs : List Value} {ts : List (Int × Int)} (x : Toks h xs ts) : ReadsAll h xs (ts.map tokD) [] := by
  induction x with
  | nil => exact .nil
  | cons q _ ih => exact .cons (as := []) (bs := []) q.reads ih
theorem eqv_tok (a b : Int × Int) : PyData.eqv (tokD a) (tokD b) = decide (a = b) := by
  obtain ⟨a1, a2⟩ := a
  obtain ⟨b1, b2⟩ := b
  simp only [tokD, PyData.eqv, PyData.eqvAll, Bool.and_true, Prod.mk.injEq]
  by_cases h1 : a1 = b1 <;> by_cases h2 : a2 = b2 <;> simp [h1, h2]
theorem lay_toks : ∀ ts : List (Int × Int), PyData.canLayAll0 (ts.map tokD) = true
  | [] => rfl
  | t :: ts => by
    show (PyData.canLay0 (tokD t) && _) = true
    rw [lay_toks ts]; rfl
theorem depth_toks : ∀ ts : List (Int × Int), PyData.depthAll (ts.map tokD) ≤ 1
  | [] => Nat.zero_le _
  | t :: ts => by
    show max (PyData.depth (tokD t)) _ ≤ 1
    exact Nat.max_le.mpr ⟨Nat.le_of_eq rfl, depth_toks ts⟩
theorem any_toks (t : Int × Int) : ∀ ts : List (Int × Int), ((ts.map tokD).any fun y => PyData.eqv y (tokD t)) = decide (t ∈ ts)
  | [] => by simp
  | u :: ts => by
    rw [List.map_cons, List.any_cons, any_toks t ts, eqv_tok]
    by_cases h : u = t
    · subst h; simp
    · have h' : ¬ t = u := fun q => h q.symm
      simp [h, h']
theorem eqv_toks : ∀ as bs : List (Int × Int), PyData.eqvAll (as.map tokD) (bs.map tokD) = decide (as = bs)
  | [], [] => rfl
  | [], b :: bs => rfl
  | a :: as, [] => rfl
  | a :: as, b :: bs => by
    show (PyData.eqv (tokD a) (tokD b) && PyData.eqvAll (as.map tokD) (bs.map tokD)) = _
    rw [eqv_tok, eqv_toks as bs]
    by_cases h1 : a = b <;> by_cases h2 : as = bs <;> simp [h1, h2]
/-- e reads as the datum d -/
abbrev RD (c : Cx) (h : Heap) (e : Expr) (d : PyData) : Prop := EV c h e fun v h' => (∃ as, Reads h v d as) ∧ h' = h
section
variable {c : Cx} {L : Addr} {sn : List (Str × NameKind)} {mg mb : Str → Option Value} {g h : Heap} {D U : Nat} {e l r' : Expr} {pos : Pos} {d d1 d2 : PyData} {t : Int × Int} {ds : List PyData} {i : Int}
theorem rd_pk (q : PK c h e t) : RD c h e (tokD t) := q.mono fun _ _ p => ⟨⟨_, p.1.reads⟩, p.2⟩
theorem rd_pi (q : PI c h e i) : RD c h e (.int i) := q.mono fun _ _ p => by
  obtain ⟨⟨t, rfl⟩, e⟩ := p
  exact ⟨⟨_, .int _ _⟩, e⟩
theorem rd_str {x : Str} {k : Nat} : RD c h (.Constant (.str x) k pos) (.str x) := pv_str.mono fun _ _ p => by
  obtain ⟨⟨t, rfl⟩, e⟩ := p
  exact ⟨⟨_, .str _ _⟩, e⟩
theorem tr_eqD {a b : Value} {as bs : List Addr} (C : Fc c L sn mg mb g D U) (hU : 64 ≤ U) (ra : Reads h a d1 as) (rb : Reads h b d2 bs) (ha : PySem.SeqAt.shaped d1 = true) (hb : PySem.SeqAt.shaped d2 = true) : TR c h (compareOp .Eq a b) fun v h' => v = .bool (PyData.eqv d1 d2) ∧ h' = h :=
  ⟨fun tk Q hQ => eq_dataH (s := mk c.s h tk) ra rb ha hb (by have := C.hu; omega) (hQ _ _ _ ⟨rfl, rfl⟩)⟩
theorem tr_neD {a b : Value} {as bs : List Addr} (C : Fc c L sn mg mb g D U) (hU : 64 ≤ U) (ra : Reads h a d1 as) (rb : Reads h b d2 bs) (ha : PySem.SeqAt.shaped d1 = true) (hb : PySem.SeqAt.shaped d2 = true) : TR c h (compareOp .NotEq a b) fun v h' => v = .bool (!PyData.eqv d1 d2) ∧ h' = h :=
  ⟨fun tk Q hQ => ne_dataH (s := mk c.s h tk) ra rb ha hb (by have := C.hu; omega) (hQ _ _ _ ⟨rfl, rfl⟩)⟩
theorem pt_eqD (C : Fc c L sn mg mb g D U) (hU : 64 ≤ U) (hl : RD c h l d1) (hr : RD c h r' d2) (ha : PySem.SeqAt.shaped d1 = true) (hb : PySem.SeqAt.shaped d2 = true) (hm : behindInMarks .Eq r' = false) : PT c h (.Compare l [.Eq] [r'] pos) (PyData.eqv d1 d2) :=
  pt_cmp hl hr (fun va vb pa pb => by
    obtain ⟨as, pa⟩ := pa
    obtain ⟨bs, pb⟩ := pb
    exact tr_eqD C hU pa pb ha hb) hm
theorem pt_neD (C : Fc c L sn mg mb g D U) (hU : 64 ≤ U) (hl : RD c h l d1) (hr : RD c h r' d2) (ha : PySem.SeqAt.shaped d1 = true) (hb : PySem.SeqAt.shaped d2 = true) (hm : behindInMarks .NotEq r' = false) : PT c h (.Compare l [.NotEq] [r'] pos) (!PyData.eqv d1 d2) :=
  pt_cmp hl hr (fun va vb pa pb => by
    obtain ⟨as, pa⟩ := pa
    obtain ⟨bs, pb⟩ := pb
    exact tr_neD C hU pa pb ha hb) hm
/-- t in ts, a tuple of tokens -/
theorem tr_inT {a : Value} {oa : Addr} {ws : List Value} {os : List (Int × Int)} (C : Fc c L sn mg mb g D U) (hU : 4 ≤ U) (ra : TokAt h a t) (it : IsTup h oa ws.toArray) (tt : Toks h ws os) : TR c h (compareOp .In a (.ref oa)) fun v h' => v = .bool (decide (t ∈ os)) ∧ h' = h := by
  refine ⟨fun tk Q hQ => SeqAt.in_tuple_reads (s := mk c.s h tk) (xs := os.map tokD) (as := []) (bs := []) ?_ ra.reads (lay_toks os) rfl ?_ ?_⟩
  · obtain ⟨o, ho, hc, n, hd⟩ := it
    exact .tuple ho hc hd (by simpa using tt.reads)
  · have := C.hu
    have h2 := depth_toks os
    show c.A.units + 1 + min _ _ < _
    omega
  · rw [any_toks]; exact hQ _ _ _ ⟨rfl, rfl⟩
theorem pt_inT {oa : Addr} {ws : List Value} {os : List (Int × Int)} (C : Fc c L sn mg mb g D U) (hU : 4 ≤ U) (hl : PK c h l t) (hr : PV c h r' (.ref oa)) (it : IsTup h oa ws.toArray) (tt : Toks h ws os) (hm : behindInMarks .In r' = false) : PT c h (.Compare l [.In] [r'] pos) (decide (t ∈ os)) :=
  pt_cmp (PA := fun v => TokAt h v t) (PB' := fun v => v = .ref oa) hl hr (fun va vb pa pb => by
    subst pb
    exact tr_inT C hU pa it tt) hm
end

/-! ## builtins -/
section
variable {c : Cx} {L : Addr} {sn : List (Str × NameKind)} {mg mb : Str → Option Value} {g h : Heap} {D U : Nat} {ns : List Str} {vs : List (Option Value)} {led : List (Addr × Obj)} {r : Heap} {pos fp : Pos} {e1 e2 : Expr} {a b : Int}
theorem ev_min2 (C : Fc c L sn mg mb g D U) (S : St g L ns vs led r h) (k : Kd sn (Str.ofString "min") .globalImplicit) (h1 : PI c h e1 a) (h2 : PI c h e2 b)
    (he1 : starEach [e1, e2] c.env = (false, eval e1 c.env) :: starEach [e2] c.env) (he2 : starEach [e2] c.env = (false, eval e2 c.env) :: starEach [] c.env) : EV c h (.Call (.Name (Str.ofString "min") fp) [e1, e2] [] pos) fun v h' => (∃ t, v = .int (min a b) t) ∧ St g L ns vs led r h' ∧ St g L ns vs led h h' :=
  ⟨fun tk Q hQ => Call_ ((pv_bi C S k (gl_min _) (by boot_fast) (by decide)).run tk _ fun v h' tk' p => by
    obtain ⟨rfl, rfl⟩ := p
    refine PyProof.Rows.callWith_builtin1 ?_ he1 (by simp [backTo, he2]; exact fun _ h => nomatch h)
    refine spliced_more (he := he1) (h1.run tk' _ fun v h₁ tk₁ p => ?_)
    obtain ⟨⟨t, rfl⟩, rfl⟩ := p
    refine spliced_more (he := he2) (h2.run tk₁ _ fun v h₁ tk₁ p => spliced_none ?_)
    obtain ⟨⟨u, rfl⟩, rfl⟩ := p
    refine min_two_ints (s := mk c.s h₁ tk₁) C.hh fun h' tk' hk => ?_
    have := hQ (if b < a then .int b u else .int a t) h' tk' ⟨by
      split
      · exact ⟨u, by congr 1; omega⟩
      · exact ⟨t, by congr 1; omega⟩, S.keepAll hk, S.re.keepAll hk⟩
    exact this)⟩
theorem ev_max2 (C : Fc c L sn mg mb g D U) (S : St g L ns vs led r h) (k : Kd sn (Str.ofString "max") .globalImplicit) {h₁ : Heap} (h1 : PI c h e1 a) (h2 : EV c h e2 fun v h' => (∃ t, v = .int b t) ∧ St g L ns vs led r h' ∧ St g L ns vs led h h')
    (he1 : starEach [e1, e2] c.env = (false, eval e1 c.env) :: starEach [e2] c.env) (he2 : starEach [e2] c.env = (false, eval e2 c.env) :: starEach [] c.env) : EV c h (.Call (.Name (Str.ofString "max") fp) [e1, e2] [] pos) fun v h' => (∃ t, v = .int (max a b) t) ∧ St g L ns vs led r h' ∧ St g L ns vs led h h' :=
  ⟨fun tk Q hQ => Call_ ((pv_bi C S k (gl_max _) (by boot_fast) (by decide)).run tk _ fun v h' tk' p => by
    obtain ⟨rfl, rfl⟩ := p
    refine PyProof.Rows.callWith_builtin1 ?_ he1 (by simp [backTo, he2]; exact fun _ h => nomatch h)
    refine spliced_more (he := he1) (h1.run tk' _ fun v h₁ tk₁ p => ?_)
    obtain ⟨⟨t, rfl⟩, rfl⟩ := p
    refine spliced_more (he := he2) (h2.run tk₁ _ fun v h₁ tk₁ p => spliced_none ?_)
    obtain ⟨⟨u, rfl⟩, S1, S2⟩ := p
    refine max_two_ints (s := mk c.s h₁ tk₁) C.hh fun h' tk' hk => ?_
    have := hQ (if b > a then .int b u else .int a t) h' tk' ⟨by
      split
      · exact ⟨u, by congr 1; omega⟩
      · exact ⟨t, by congr 1; omega⟩, S1.keepAll hk, S2.then (S1.re.keepAll hk) fun _ h => h⟩
    exact this)⟩
end

/-! ## and, or, chains: as values, and as tests that change the heap -/
section
variable {c : Cx} {L : Addr} {sn : List (Str × NameKind)} {mg mb : Str → Option Value} {g h : Heap} {D U : Nat} {ns : List Str} {vs : List (Option Value)} {led : List (Addr × Obj)} {r : Heap} {pos fp : Pos} {e e1 e2 l m r' : Expr} {a b : Int} {P : Value → Heap → Prop} {PB' : Bool → Heap → Prop}
theorem ev_one {op : BoolOp} (q : EV c h e P) : EV c h (.BoolOp op [e] pos) P := ⟨fun tk Q hQ => PyProof.Rows.BoolOp_one (q.run tk Q hQ)⟩
theorem ev_andC {rest : List Expr} (q : EV c h e1 fun v h₁ => ∃ b, v = .bool b ∧ (b = false → P (.bool false) h₁) ∧ (b = true → EV c h₁ (.BoolOp .And (e2 :: rest) pos) P)) : EV c h (.BoolOp .And (e1 :: e2 :: rest) pos) P :=
  ⟨fun tk Q hQ => PyProof.Rows.BoolOp_and (q.run tk _ fun v h₁ tk₁ p => by
    obtain ⟨b, rfl, p1, p2⟩ := p
    refine t_bool ?_
    cases b
    · exact hQ _ _ _ (p1 rfl)
    · exact (p2 rfl).run tk₁ Q hQ)⟩
theorem ev_orC {rest : List Expr} (q : EV c h e1 fun v h₁ => ∃ b, v = .bool b ∧ (b = true → P (.bool true) h₁) ∧ (b = false → EV c h₁ (.BoolOp .Or (e2 :: rest) pos) P)) : EV c h (.BoolOp .Or (e1 :: e2 :: rest) pos) P :=
  ⟨fun tk Q hQ => PyProof.Rows.BoolOp_or (q.run tk _ fun v h₁ tk₁ p => by
    obtain ⟨b, rfl, p1, p2⟩ := p
    refine t_bool ?_
    cases b
    · exact (p2 rfl).run tk₁ Q hQ
    · exact hQ _ _ _ (p1 rfl))⟩
theorem pb_and2 {p q : Bool} (h1 : PB c h e1 p) (h2 : p = true → PB c h e2 q) : PB c h (.BoolOp .And [e1, e2] pos) (p && q) := ev_andC (h1.mono fun v h₁ x => by
  obtain ⟨rfl, rfl⟩ := x
  exact ⟨p, rfl, fun q => by rw [q]; exact ⟨rfl, rfl⟩, fun q => ev_one (by have := h2 q; rw [q]; exact this)⟩)
/-- a < b <= c and the like -/
theorem ev_chain2 {op1 op2 : CmpOp} {p1 : Bool} (hl : PI c h l a) (hm : PI c h m b) (c1 : ∀ t u, TR c h (compareOp op1 (.int a t) (.int b u)) fun v h' => v = .bool p1 ∧ h' = h) (f1 : p1 = false → P (.bool false) h)
    (f2 : p1 = true → EV c h r' fun v h₁ => ∀ u, TR c h₁ (compareOp op2 (.int b u) v) P) (hk : lastMarks [op1, op2] [m, r'] = false) : EV c h (.Compare l [op1, op2] [m, r'] pos) P :=
  ⟨fun tk Q hQ => PyProof.Rows.Compare_chain (hm := hk) (hl.run tk _ fun v h₁ tk₁ p => by
    obtain ⟨⟨t, rfl⟩, rfl⟩ := p
    refine PyProof.Rows.chain_link (hm.run tk₁ _ fun v h₁ tk₂ p => ?_)
    obtain ⟨⟨u, rfl⟩, rfl⟩ := p
    refine (c1 t u).run tk₂ _ fun v h₁ tk₃ p => ?_
    obtain ⟨rfl, rfl⟩ := p
    refine t_bool ?_
    cases p1
    · exact hQ _ _ _ (f1 rfl)
    · exact PyProof.Rows.chain_last ((f2 rfl).run tk₃ _ fun v h₁ tk₄ p => (p u).run tk₄ Q hQ))⟩
theorem te_ev (q : EV c h e fun v h₁ => ∃ b, v = .bool b ∧ PB' b h₁) (he : PySem.isTrue e c.env (eval e c.env) = (do let v ← eval e c.env; standAt e.pos; holding [v] (truthy v))) : TE c h e PB' :=
  ⟨fun tk Q hQ => PyProof.Rows.isTrue_plain (q.run tk _ fun v h' tk' p => by
    obtain ⟨b, rfl, p⟩ := p
    exact t_bool (hQ _ _ _ p)) he⟩
abbrev TbP (PB' : Bool → Heap → Prop) : Value → Heap → Prop := fun v h' => ∃ b, v = .bool b ∧ PB' b h'
abbrev CmpR (c : Cx) (op : CmpOp) (P : Value → Heap → Prop) (a : Value) : Value → Heap → Prop := fun b h₂ => TR c h₂ (compareOp op a b) P
abbrev CmpQ (c : Cx) (r' : Expr) (op : CmpOp) (P : Value → Heap → Prop) : Value → Heap → Prop := fun a h₁ => EV c h₁ r' (CmpR c op P a)
theorem te_cmp {op : CmpOp} (q : EV c h l (CmpQ c r' op (TbP PB'))) (hm : behindInMarks op r' = false) : TE c h (.Compare l [op] [r'] pos) PB' :=
  ⟨fun tk Q hQ => t_cmp (hm := hm) (q.run tk _ fun v h' tk' p => p.run tk' _ fun v h' tk' p => p.run tk' _ fun v h' tk' p => by
    obtain ⟨b, rfl, p⟩ := p
    exact t_bool (hQ _ _ _ p))⟩
abbrev OrQ (c : Cx) (e2 : Expr) (PB' : Bool → Heap → Prop) : Bool → Heap → Prop := fun b h₁ => if b then PB' true h₁ else TE c h₁ e2 PB'
abbrev AndQ (c : Cx) (e2 : Expr) (PB' : Bool → Heap → Prop) : Bool → Heap → Prop := fun b h₁ => if b then TE c h₁ e2 PB' else PB' false h₁
theorem te_or2 (q : TE c h e1 (OrQ c e2 PB')) : TE c h (.BoolOp .Or [e1, e2] pos) PB' := ⟨fun tk Q hQ => PyProof.Rows.isTrue_or (q.run tk _ fun b h₁ tk' p => by
  cases b
  · refine PyProof.Rows.isTrue_or (p.run tk' _ fun b h' tk' p => ?_)
    cases b
    · exact PyProof.Rows.isTrue_or_nil (hQ _ _ _ p)
    · exact hQ _ _ _ p
  · exact hQ _ _ _ p)⟩
theorem te_and2E (q : TE c h e1 (AndQ c e2 PB')) : TE c h (.BoolOp .And [e1, e2] pos) PB' := ⟨fun tk Q hQ => PyProof.Rows.isTrue_and (q.run tk _ fun b h₁ tk' p => by
  cases b
  · exact hQ _ _ _ p
  · refine PyProof.Rows.isTrue_and (p.run tk' _ fun b h' tk' p => ?_)
    cases b
    · exact hQ _ _ _ p
    · exact PyProof.Rows.isTrue_and_nil (hQ _ _ _ p))⟩
abbrev IfeQ (c : Cx) (body orelse : Expr) (P : Value → Heap → Prop) : Bool → Heap → Prop := fun b h₁ => if b then EV c h₁ body P else EV c h₁ orelse P
theorem ev_ifexpE {test body orelse : Expr} (q : TE c h test (IfeQ c body orelse P)) : EV c h (.IfExp test body orelse pos) P :=
  ⟨fun tk Q hQ => PyProof.Rows.IfExp_ (q.run tk _ fun b h₁ tk' p => by
    cases b
    · exact p.run tk' Q hQ
    · exact p.run tk' Q hQ)⟩
/-- i in is, a tuple of ints -/
theorem IV.reads {h : Heap} {xs : List Value} {is : List Int} (x : IV xs is) : ReadsAll h xs (is.map .int) [] := by
  induction x with
  | nil => exact .nil
  | cons _ ih => exact .cons (as := []) (bs := []) (.int _ _) ih
theorem tr_inI {t : Tok} {oa : Addr} {ws : List Value} {is : List Int} (C : Fc c L sn mg mb g D U) (hU : 4 ≤ U) (it : IsTup h oa ws.toArray) (tt : IV ws is) : TR c h (compareOp .In (.int a t) (.ref oa)) fun v h' => v = .bool (decide (a ∈ is)) ∧ h' = h := by
  refine ⟨fun tk Q hQ => SeqAt.in_tuple_reads (s := mk c.s h tk) (xs := is.map .int) (as := []) (bs := []) ?_ (.int a t) ?_ rfl ?_ ?_⟩
  · obtain ⟨o, ho, hc, n, hd⟩ := it
    exact .tuple ho hc hd (by simpa using tt.reads)
  · clear tt it hQ
    induction is with
    | nil => rfl
    | cons i is ih => show (PyData.canLay0 (.int i) && _) = true; rw [ih]; rfl
  · have := C.hu
    show c.A.units + 1 + min _ (PyData.depth (.int a)) < _
    have : PyData.depth (.int a) = 0 := rfl
    omega
  · have e : ((is.map PyData.int).any fun y => PyData.eqv y (.int a)) = decide (a ∈ is) := by
      clear tt it hQ
      induction is with
      | nil => simp
      | cons i is ih =>
        rw [List.map_cons, List.any_cons, ih]
        show ((i == a) || _) = _
        by_cases q : i = a
        · subst q; simp
        · have q' : ¬ a = i := fun z => q z.symm
          simp [q, q']
    rw [e]; exact hQ _ _ _ ⟨rfl, rfl⟩
end

/-! ## _law_wrong -/
/-- a tuple of tokens in a heap -/
def TT (h : Heap) (a : Addr) (ts : List (Int × Int)) : Prop := ∃ ws, IsTup h a ws.toArray ∧ Toks h ws ts
theorem TT.keep {h h' : Heap} {a : Addr} {ts : List (Int × Int)} (t : TT h a ts) (k : ∀ b o, h.get? b = some o → h'.get? b = some o) : TT h' a ts := by
  obtain ⟨ws, e, tt⟩ := t
  exact ⟨ws, e.keeps k, tt.mono fun a o e _ => k a o e⟩
def marksF (ts : List (Int × Int)) (n : Nat) : Nat := ((ts.take n).filter fun t => decide (t.1 = 6)).length
def wellF (ts : List (Int × Int)) (head place : Nat) (t : Int × Int) : Bool :=
  if place < head then decide (t.1 = 12) && (decide (t.2 = 48 + (marksF ts (min place head) : Int)) && decide ((marksF ts (min place head) : Int) < 10))
  else decide (t.1 = 6) || (decide (t.1 = 12) && (decide (48 < t.2) && decide (t.2 ≤ 48 + (marksF ts (min place head) : Int) - (runF ts 0 head : Int))))
def wrongF (ts os : List (Int × Int)) (head place : Nat) (t : Int × Int) : Str :=
  if t ∈ os then Str.ofString "outer" else if place = head then Str.ofString ""
  else if runF ts (if place < head then 0 else head + 1) place % 2 = 0 then (if t.1 = 5 ∨ t.1 = 9 ∨ t.1 = 15 ∨ (t.1 = 2 ∧ place < head) then Str.ofString "wrong" else Str.ofString "")
  else if wellF ts head place t then Str.ofString "" else Str.ofString "wrong"
section
variable {c : Cx} {L : Addr} {sn : List (Str × NameKind)} {mg mb : Str → Option Value} {g h : Heap} {D U : Nat} {ns : List Str} {vs : List (Option Value)} {led : List (Addr × Obj)} {r : Heap} {x : Str} {pos fp : Pos} {e e1 e2 e3 : Expr} {P : Value → Heap → Prop} {ta : Addr} {ts : List (Int × Int)} {b p : Nat} {v : Value} {t : Int × Int}
theorem ev_run (C : Fc c L sn mg mb g D U) (hD : 1 ≤ D) (hU : 3 ≤ U) (S : St g L ns vs led r h) (k : Kd sn (Str.ofString "_law_run") .globalImplicit) (h1 : PV c h e1 (.ref ta)) (h2 : PI c h e2 b) (h3 : PI c h e3 p) (hT : TL h ta ts) (hp : p ≤ ts.length) (hz : ts.length < 1000) (hb : b ≤ 1000)
    (he1 : ∀ es, starEach (e1 :: es) c.env = (false, eval e1 c.env) :: starEach es c.env) (he2 : ∀ es, starEach (e2 :: es) c.env = (false, eval e2 c.env) :: starEach es c.env) (he3 : ∀ es, starEach (e3 :: es) c.env = (false, eval e3 c.env) :: starEach es c.env) :
    EV c h (.Call (.Name (Str.ofString "_law_run") fp) [e1, e2, e3] [] pos) fun v h' => (∃ t, v = .int (runF ts b p) t) ∧ St g L ns vs led r h' ∧ St g L ns vs led h h' := by
  refine ev_call (pv_glob C S k (gl_law_run _)) (fn_law_run _) C S (ea_cons (h1.mono ?_) (he1 _)) (he1 _)
  rintro v h₁ ⟨rfl, rfl⟩
  refine ea_cons (h2.mono ?_) (he2 _)
  rintro v h₁ ⟨⟨t2, rfl⟩, rfl⟩
  refine ea_cons (h3.mono ?_) (he3 _)
  rintro v h₁ ⟨⟨t3, rfl⟩, rfl⟩
  exact ea_nil ⟨S.F.keep, tr_spec (run_spec hT hp hz hb) C S hD hU (by simp) fun h' v go post => ⟨post, S.after0 go, S.re.after0 go⟩⟩
theorem ev_lenG {es : Expr} (C : Fc c L sn mg mb g D U) (S : St g L ns vs led r h) (kl : Kd sn (Str.ofString "len") .globalImplicit) (q : EV c h es fun v h₁ => Ex2 fun (la : Addr) (xs : List Value) => v = .ref la ∧ (h₁.IsList la xs.toArray ∨ IsTup h₁ la xs.toArray) ∧ xs.length < 2 ^ 62 ∧ ∀ t, P (.int xs.length t) h₁)
    (he : starEach [es] c.env = (false, eval es c.env) :: starEach [] c.env) : EV c h (.Call (.Name (Str.ofString "len") fp) [es] [] pos) P :=
  ⟨fun tk Q hQ => Call_ ((pv_bi C S kl (gl_len _) (by boot_fast) (by decide)).run tk _ fun v h' tk' p => by
    obtain ⟨rfl, rfl⟩ := p
    refine PyProof.Rows.callWith_builtin1 ?_ he
    refine spliced_more (he := he) (q.run tk' _ fun v h₁ tk₁ p => spliced_none ?_)
    obtain ⟨la, xs, rfl, hl, hz, k⟩ := p
    rcases hl with hl | hl
    · exact len_list (s := mk c.s h₁ tk₁) hl (by rw [List.size_toArray]; omega) (hQ _ _ _ (by rw [List.size_toArray]; exact k _))
    · exact len_tuple (s := mk c.s h₁ tk₁) hl (by rw [List.size_toArray]; omega) (hQ _ _ _ (by rw [List.size_toArray]; exact k _)))⟩
theorem ev_tupI {es : List Expr} {is : List Int} {kt : Nat} (S : St g L ns vs led r h) (q : intsOf? es = some is) (hz : is.length ≤ 1000) : EV c h (.Tuple es kt pos) fun v h' => Ex2 fun (oa : Addr) (ws : List Value) => v = .ref oa ∧ IsTup h' oa ws.toArray ∧ IV ws is ∧ St g L ns vs led r h' ∧ St g L ns vs led h h' := by
  have hsl : sizeLine = 16777216 := sizeLine_eq
  refine ev_tuple fun pos => ⟨fun tk Q hQ => (ea_ints q pos).run tk _ fun xs h₁ tk' p => hQ _ _ _ ?_⟩
  obtain ⟨iv, rfl⟩ := p
  exact ⟨_, _, _, _, _, _, S, by rw [iv.length]; omega, fun a h₂ na it S1 S2 => ⟨a, xs, rfl, it, iv, S1, S2⟩⟩
theorem pk_loc (C : Fc c L sn mg mb g D U) (S : St g L ns vs led r h) (k : Kd sn x .local) (l : Loc ns vs x v) (tt : TokAt h v t) : PK c h (.Name x pos) t := (pv_loc C S k l).mono fun _ _ p => ⟨by rw [p.1]; exact tt, p.2⟩
end
theorem wrong_spec {w : World} {h : Heap} {ta oa : Addr} {ts os : List (Int × Int)} {head place : Nat} {t : Int × Int} {th tp : Tok} (hT : TL h ta ts) (hO : TT h oa os) (ht : ts[place]? = some t) (hh : head ≤ ts.length) (hz : ts.length < 1000) : Spec w 323 [.ref ta, .ref oa, .int head th, .int place tp] [] 2 8 h fun _ v => ∃ t', v = .str (wrongF ts os head place t) t' := by
  refine spec_xs (D := 1) (U := 5) [Str.ofString "tokens", Str.ofString "outers", Str.ofString "head", Str.ofString "place", Str.ofString "category", Str.ofString "code", Str.ofString "marks", Str.ofString "well"] 4 rfl (by kernel_rfl) (fun _ _ => BindsTo.of_eq rfl) rfl (by decide +kernel) (by decide) (by decide +kernel) (by decide +kernel) (by decide +kernel) (by simp) (by simp) ?_
  intro c mg mb g h₁ L hw C hk hL S
  dsimp only at C
  subst hw
  have hpl : place < ts.length := by
    rcases Nat.lt_or_ge place ts.length with q | q
    · exact q
    · rw [List.getElem?_eq_none q] at ht; cases ht
  have hg : TL g ta ts := hT.keep fun b o e => hk b o (by simp) e
  have og : TT g oa os := hO.keep fun b o e => hk b o (by simp) e
  clear hT hO hk hL
  refine xs_unpack (ns := [Str.ofString "tokens", Str.ofString "outers", Str.ofString "head", Str.ofString "place", Str.ofString "category", Str.ofString "code", Str.ofString "marks", Str.ofString "well"]) (L := L) (g := g) C (.cons (by (repeat' (first | exact Kd.head | apply Kd.tail))) (.cons (by (repeat' (first | exact Kd.head | apply Kd.tail))) .nil)) (EV.mono (pk_item (j := place) (pv_loc C S (by (repeat' (first | exact Kd.head | apply Kd.tail))) (by (repeat' (first | exact Loc.head | apply Loc.tail)))) (hg.keep S.F.keep) (pi_loc C S (by (repeat' (first | exact Kd.head | apply Kd.tail))) (by (repeat' (first | exact Loc.head | apply Loc.tail)))) rfl ht hz (fun _ => by with_unfolding_all rfl)) ?_) rfl rfl
  rintro v h₂ ⟨⟨a, t1, t2, rfl, it⟩, rfl⟩
  refine ⟨a, _, _, _, _, _, rfl, it, S, .cons (by (repeat' (first | exact SetL.head | apply SetL.tail))) (.cons (by (repeat' (first | exact SetL.head | apply SetL.tail))) .nil), rfl, fun h₃ S1 _ => ?_⟩
  clear S it
  refine xs_if (pt_inT C (by decide) (pk_item (j := place) (pv_loc C S1 (by (repeat' (first | exact Kd.head | apply Kd.tail))) (by (repeat' (first | exact Loc.head | apply Loc.tail)))) (hg.keep S1.F.keep) (pi_loc C S1 (by (repeat' (first | exact Kd.head | apply Kd.tail))) (by (repeat' (first | exact Loc.head | apply Loc.tail)))) rfl ht hz (fun _ => by with_unfolding_all rfl)) (pv_loc C S1 (by (repeat' (first | exact Kd.head | apply Kd.tail))) (by (repeat' (first | exact Loc.head | apply Loc.tail)))) (og.keep S1.F.keep).choose_spec.1 (og.keep S1.F.keep).choose_spec.2 rfl) (fun q => ?_) fun q => xs_nil ?_
  · refine xs_ret (EV.mono pv_str ?_)
    rintro v h' ⟨⟨t', rfl⟩, rfl⟩
    exact ⟨S1.fin, t', by rw [wrongF, if_pos (of_decide_eq_true q)]⟩
  have w1 := of_decide_eq_false q
  show XS _ _ _ _
  refine xs_if (pt_eq (pi_loc C S1 (by (repeat' (first | exact Kd.head | apply Kd.tail))) (by (repeat' (first | exact Loc.head | apply Loc.tail)))) (pi_loc C S1 (by (repeat' (first | exact Kd.head | apply Kd.tail))) (by (repeat' (first | exact Loc.head | apply Loc.tail)))) rfl) (fun q => ?_) fun q => xs_nil ?_
  · refine xs_ret (EV.mono pv_str ?_)
    rintro v h' ⟨⟨t', rfl⟩, rfl⟩
    have := of_decide_eq_true q
    exact ⟨S1.fin, t', by rw [wrongF, if_neg w1, if_pos (by omega)]⟩
  have w2 : ¬ place = head := by have := of_decide_eq_false q; omega
  show XS _ _ _ _
  refine xs_ifE (te_eq (ev_binG (EV.mono (ev_run (b := if place < head then 0 else head + 1) C (by decide) (by decide) S1 (by (repeat' (first | exact Kd.head | apply Kd.tail))) (pv_loc C S1 (by (repeat' (first | exact Kd.head | apply Kd.tail))) (by (repeat' (first | exact Loc.head | apply Loc.tail)))) (ev_ifexp (pt_lt (pi_loc C S1 (by (repeat' (first | exact Kd.head | apply Kd.tail))) (by (repeat' (first | exact Loc.head | apply Loc.tail)))) (pi_loc C S1 (by (repeat' (first | exact Kd.head | apply Kd.tail))) (by (repeat' (first | exact Loc.head | apply Loc.tail)))) rfl) (fun q => ?_) fun q => ?_) (pi_loc C S1 (by (repeat' (first | exact Kd.head | apply Kd.tail))) (by (repeat' (first | exact Loc.head | apply Loc.tail)))) (hg.keep S1.F.keep) (by omega) hz (by split <;> omega) (fun _ => rfl) (fun _ => rfl) fun _ => rfl) ?_)) rfl)
  · rw [if_pos (by have := of_decide_eq_true q; omega)]; exact pi_const
  · rw [if_neg (by have := of_decide_eq_false q; omega)]
    exact (pi_add (pi_loc C S1 (by (repeat' (first | exact Kd.head | apply Kd.tail))) (by (repeat' (first | exact Loc.head | apply Loc.tail)))) pi_const).mono fun v h p => by simpa using p
  rintro v h₄ ⟨⟨t4, rfl⟩, S2, _⟩
  clear S1
  refine pi_const.mono ?_
  rintro v h₅ ⟨⟨t5, rfl⟩, rfl⟩
  refine ⟨fun tk Q hQ => o_mod (by decide) fun tq tk' => hQ _ _ _ ⟨_, _, rfl, 0, pi_const, xs_ifb (fun q => ?_) fun q => xs_nil ?_⟩⟩
  · have w3 : runF ts (if place < head then 0 else head + 1) place % 2 = 0 := by
      have := of_decide_eq_true q
      rw [Int.fmod_eq_emod_of_nonneg _ (by decide)] at this
      omega
    refine xs_ret (ev_ifexpE (TE.mono (P := fun b h' => St g L [Str.ofString "tokens", Str.ofString "outers", Str.ofString "head", Str.ofString "place", Str.ofString "category", Str.ofString "code", Str.ofString "marks", Str.ofString "well"] [some (.ref ta), some (.ref oa), some (.int head th), some (.int place tp), some (.int t.1 t1), some (.int t.2 t2), none, none] [] h h' ∧ b = decide (t.1 = 5 ∨ t.1 = 9 ∨ t.1 = 15 ∨ (t.1 = 2 ∧ place < head))) (te_or2 (te_cmp (EV.mono (pi_loc C S2 (by (repeat' (first | exact Kd.head | apply Kd.tail))) (by (repeat' (first | exact Loc.head | apply Loc.tail)))) ?_) rfl)) ?_))
    · rintro v h₆ ⟨⟨u, rfl⟩, rfl⟩
      refine EV.mono (ev_tupI (is := [5, 9, 15]) S2 rfl (by decide)) ?_
      rintro v h₇ ⟨oa2, ws, rfl, it, iv, S3, _⟩
      refine (tr_inI C (by decide) it iv).mono ?_
      rintro v h₈ ⟨rfl, rfl⟩
      refine ⟨_, rfl, ?_⟩
      unfold OrQ
      by_cases q : t.1 ∈ [(5 : Int), 9, 15]
      · rw [if_pos (decide_eq_true q)]
        refine ⟨S3, (decide_eq_true ?_).symm⟩
        simp only [List.mem_cons, List.not_mem_nil, or_false] at q
        exact q.imp_right (Or.imp_right .inl)
      · rw [if_neg (by simpa using q)]
        refine te_pt (pt_and2 (pt_eq (pi_loc C S3 (by (repeat' (first | exact Kd.head | apply Kd.tail))) (by (repeat' (first | exact Loc.head | apply Loc.tail)))) pi_const rfl) fun _ => pt_lt (pi_loc C S3 (by (repeat' (first | exact Kd.head | apply Kd.tail))) (by (repeat' (first | exact Loc.head | apply Loc.tail)))) (pi_loc C S3 (by (repeat' (first | exact Kd.head | apply Kd.tail))) (by (repeat' (first | exact Loc.head | apply Loc.tail)))) rfl) ⟨S3, ?_⟩
        simp only [List.mem_cons, List.not_mem_nil, or_false] at q
        rw [← Bool.decide_and]
        exact decide_eq_decide.mpr ⟨fun z => .inr (.inr (.inr ⟨z.1, Int.ofNat_lt.mp z.2⟩)), fun z => z.elim (fun z => absurd (.inl z) q) fun z => z.elim (fun z => absurd (.inr (.inl z)) q) fun z => z.elim (fun z => absurd (.inr (.inr z)) q) fun z => ⟨z.1, Int.ofNat_lt.mpr z.2⟩⟩
    · rintro b h₆ ⟨S3, rfl⟩
      unfold IfeQ
      by_cases q : t.1 = 5 ∨ t.1 = 9 ∨ t.1 = 15 ∨ (t.1 = 2 ∧ place < head)
      · rw [if_pos (decide_eq_true q)]
        refine EV.mono pv_str ?_
        rintro v h' ⟨⟨t', rfl⟩, rfl⟩
        exact ⟨S3.fin, t', by rw [wrongF, if_neg w1, if_neg w2, if_pos w3, if_pos q]⟩
      · rw [if_neg (by simpa using q)]
        refine EV.mono pv_str ?_
        rintro v h' ⟨⟨t', rfl⟩, rfl⟩
        exact ⟨S3.fin, t', by rw [wrongF, if_neg w1, if_neg w2, if_pos w3, if_neg q]⟩
  · have w3 : ¬ runF ts (if place < head then 0 else head + 1) place % 2 = 0 := by
      have := of_decide_eq_false q
      rw [Int.fmod_eq_emod_of_nonneg _ (by decide)] at this
      omega
    show XS _ _ _ _
    obtain ⟨xs, nn, ea, tt⟩ := id hg
    have hxl := tt.length
    have emin : min (place : Int) (head : Int) = ((min place head : Nat) : Int) := by omega
    refine xs_assign (ns := [Str.ofString "tokens", Str.ofString "outers", Str.ofString "head", Str.ofString "place", Str.ofString "category", Str.ofString "code", Str.ofString "marks", Str.ofString "well"]) (ev_lenG C S2 (by (repeat' (first | exact Kd.head | apply Kd.tail))) (EV.mono (P := fun v h' => Ex3 fun (la : Addr) (ys : List Value) (m : Nat) => v = .ref la ∧ ys.length = marksF ts (min place head) ∧ h.get? la = none ∧ St g L [Str.ofString "tokens", Str.ofString "outers", Str.ofString "head", Str.ofString "place", Str.ofString "category", Str.ofString "code", Str.ofString "marks", Str.ofString "well"] [some (.ref ta), some (.ref oa), some (.int head th), some (.int place tp), some (.int t.1 t1), some (.int t.2 t2), none, none] [(la, listOf ys.toArray m)] h h') (ev_comp (L := L) (snc := [(Str.ofString ".0", .local), (Str.ofString "one", .local)]) (nsc := [Str.ofString "one"]) (cl := []) (vz := fun z => [z]) C ⟨relab C (by decide +kernel), by decide +kernel, by decide +kernel, by decide +kernel, rfl, by decide +kernel, rfl, fun z v => .head, by (repeat' (first | exact Kd.head | apply Kd.tail)), ?_, by decide +kernel⟩ (fun _ => rfl) (ev_slice (xs := xs) (pv_loc C S2 (by (repeat' (first | exact Kd.head | apply Kd.tail))) (by (repeat' (first | exact Loc.head | apply Loc.tail)))) (tr_none.mono ?_) ?_ ?_)) ?_) rfl) C (by (repeat' (first | exact Kd.head | apply Kd.tail))) rfl
    · unfold closureFor; rfl
    · rintro vl h₅ ⟨rfl, rfl⟩
      refine tr_some (EV.mono (ev_min2 C S2 (by (repeat' (first | exact Kd.head | apply Kd.tail))) (pi_loc C S2 (by (repeat' (first | exact Kd.head | apply Kd.tail))) (by (repeat' (first | exact Loc.head | apply Loc.tail)))) (pi_loc C S2 (by (repeat' (first | exact Kd.head | apply Kd.tail))) (by (repeat' (first | exact Loc.head | apply Loc.tail)))) rfl rfl) ?_)
      rintro vu h₆ ⟨⟨tu, rfl⟩, S3, S3'⟩
      rw [emin] at *
      have hsl : sizeLine = 16777216 := sizeLine_eq
      refine ⟨_, _, _, _, _, _, none, some _, S3, isL (S3.F.keep _ _ ea), .none, .int _ _, by omega, fun d h' nd S4 S4' => ?_⟩
      rw [pk_to] at S4 S4'
      have tz : Toks h' (xs.take (min place head)) (ts.take (min place head)) := (tt.take _).mono fun a o e _ => S4.F.keep a o e
      have lz := tz.length
      refine tr_compQ C S4 (src_list C.hh (isL (S4.N _ (.head _)).1)) (by rw [List.length_take]; omega) (fun i ys _ => ys.length = (((ts.take (min place head)).take i).filter fun t => decide (t.1 = 6)).length) rfl (fun _ _ _ _ y _ => y) ?_ ?_
      · intro i v ys m Dd h₃ Ca g' hi pv Fi kg S5 y hl
        have hti : (ts.take (min place head))[i]? = some ((ts.take (min place head))[i]'(by omega)) := List.getElem?_eq_getElem _
        generalize ((ts.take (min place head))[i]'(by omega)) = t' at hti
        obtain ⟨w, hw, tw⟩ := tz.get hti
        rw [pv] at hw
        cases hw
        have tw3 : TokAt h₃ v t' := tw.mono fun a o e _ => S5.F.keep a o (kg a o e)
        refine te_pt (pt_eq (pi_k0 (pk_loc Fi S5 (by (repeat' (first | exact Kd.head | apply Kd.tail))) (by (repeat' (first | exact Loc.head | apply Loc.tail))) tw3)) pi_const rfl) ?_
        by_cases q : t'.1 = 6
        · rw [if_pos (decide_eq_true q)]
          refine EV.mono (pv_loc Fi S5 (by (repeat' (first | exact Kd.head | apply Kd.tail))) (by (repeat' (first | exact Loc.head | apply Loc.tail)))) ?_
          rintro v2 h₈ ⟨rfl, rfl⟩
          refine ⟨S5, ?_⟩
          rw [List.take_add_one, List.filter_append, List.length_append, List.length_append, y, hti]
          simp [q]
        · rw [if_neg (by simpa using q)]
          refine ⟨S5, ?_⟩
          rw [List.take_add_one, List.filter_append, List.length_append, y, hti]
          simp [q]
      · intro Dd Ca h'' ys m S6 S6' nD ab hl y
        refine ⟨Dd, ys, m, rfl, ?_, S4.go.D _ nD, S6.dropNew (.cons_cons _ (.cons _ (.refl _))) fun a ha => ?_⟩
        · rw [y, List.take_of_length_le (by omega)]; rfl
        · rcases List.mem_cons.mp ha with q | q
          · exact .inl (q ▸ List.mem_cons_self)
          · rw [List.mem_singleton.mp q]; exact .inr (S3.go.D _ nd)
    · intro a; with_unfolding_all rfl
    · intro a; with_unfolding_all rfl
    · rintro v h₅ ⟨la, ys, m, rfl, hlen, nla, S3⟩
      refine ⟨la, ys, rfl, .inl (isL (S3.N _ (.head _)).1), ?_, fun tm => ⟨g, _, _, h, _, S3.dropHead nla, by (repeat' (first | exact SetL.head | apply SetL.tail)), fun h₆ S4 _ => ?_⟩⟩
      · have : marksF ts (min place head) ≤ ts.length := by unfold marksF; exact Nat.le_trans (List.length_filter_le _ _) (by rw [List.length_take]; omega)
        omega
      rw [hlen] at S4
      clear S3
      refine xs_if_join (fun h' => ∃ h0, St g L [Str.ofString "tokens", Str.ofString "outers", Str.ofString "head", Str.ofString "place", Str.ofString "category", Str.ofString "code", Str.ofString "marks", Str.ofString "well"] [some (.ref ta), some (.ref oa), some (.int head th), some (.int place tp), some (.int t.1 t1), some (.int t.2 t2), some (.int (marksF ts (min place head)) tm), some (.bool (wellF ts head place t))] [] h h' ∧ h0 = h') (pt_lt (pi_loc C S4 (by (repeat' (first | exact Kd.head | apply Kd.tail))) (by (repeat' (first | exact Loc.head | apply Loc.tail)))) (pi_loc C S4 (by (repeat' (first | exact Kd.head | apply Kd.tail))) (by (repeat' (first | exact Loc.head | apply Loc.tail)))) rfl) (fun q => ?_) (fun q => ?_) ?_
      · have q : place < head := by have := of_decide_eq_true q; omega
        have e : wellF ts head place t = (decide (t.1 = 12) && (decide (t.2 = 48 + (marksF ts (min place head) : Int)) && decide ((marksF ts (min place head) : Int) < 10))) := by rw [wellF, if_pos q]
        rw [e]
        refine xs_assign_v C S4 (ev_andC ((pb_eq (pi_loc C S4 (by (repeat' (first | exact Kd.head | apply Kd.tail))) (by (repeat' (first | exact Loc.head | apply Loc.tail)))) pi_const rfl).mono fun v h₁ x => ?_)) (by (repeat' (first | exact Kd.head | apply Kd.tail))) (by (repeat' (first | exact SetL.head | apply SetL.tail))) rfl fun h₇ S5 => xs_nil ⟨rfl, _, S5, rfl⟩
        obtain ⟨rfl, rfl⟩ := x
        refine ⟨_, rfl, fun q => by rw [q]; exact ⟨rfl, rfl⟩, fun q => ?_⟩
        rw [q]
        simp only [Bool.true_and]
        refine pb_and2 (pb_eq (pi_loc C S4 (by (repeat' (first | exact Kd.head | apply Kd.tail))) (by (repeat' (first | exact Loc.head | apply Loc.tail)))) (pi_add pi_const (pi_loc C S4 (by (repeat' (first | exact Kd.head | apply Kd.tail))) (by (repeat' (first | exact Loc.head | apply Loc.tail))))) rfl) fun _ => pb_lt (pi_loc C S4 (by (repeat' (first | exact Kd.head | apply Kd.tail))) (by (repeat' (first | exact Loc.head | apply Loc.tail)))) pi_const rfl
      · have q : ¬ place < head := by have := of_decide_eq_false q; omega
        have e : wellF ts head place t = (decide (t.1 = 6) || (decide (t.1 = 12) && (decide (48 < t.2) && decide (t.2 ≤ 48 + (marksF ts (min place head) : Int) - (runF ts 0 head : Int))))) := by rw [wellF, if_neg q]
        refine xs_assign (ns := [Str.ofString "tokens", Str.ofString "outers", Str.ofString "head", Str.ofString "place", Str.ofString "category", Str.ofString "code", Str.ofString "marks", Str.ofString "well"]) (EV.mono (P := fun v h' => v = .bool (wellF ts head place t) ∧ St g L [Str.ofString "tokens", Str.ofString "outers", Str.ofString "head", Str.ofString "place", Str.ofString "category", Str.ofString "code", Str.ofString "marks", Str.ofString "well"] [some (.ref ta), some (.ref oa), some (.int head th), some (.int place tp), some (.int t.1 t1), some (.int t.2 t2), some (.int (marksF ts (min place head)) tm), none] [] h h') ?_ ?_) C (by (repeat' (first | exact Kd.head | apply Kd.tail))) rfl
        · rw [e]
          refine ev_orC ((pb_eq (pi_loc C S4 (by (repeat' (first | exact Kd.head | apply Kd.tail))) (by (repeat' (first | exact Loc.head | apply Loc.tail)))) pi_const rfl).mono fun v h₁ x => ?_)
          obtain ⟨rfl, rfl⟩ := x
          refine ⟨_, rfl, fun q => by rw [q]; exact ⟨rfl, S4⟩, fun q => ev_one ?_⟩
          rw [q]
          refine ev_andC ((pb_eq (pi_loc C S4 (by (repeat' (first | exact Kd.head | apply Kd.tail))) (by (repeat' (first | exact Loc.head | apply Loc.tail)))) pi_const rfl).mono fun v h₁ x => ?_)
          obtain ⟨rfl, rfl⟩ := x
          refine ⟨_, rfl, fun q => by rw [q]; exact ⟨rfl, S4⟩, fun q => ev_one ?_⟩
          rw [q]
          refine ev_chain2 (p1 := decide (48 < t.2)) pi_const (pi_loc C S4 (by (repeat' (first | exact Kd.head | apply Kd.tail))) (by (repeat' (first | exact Loc.head | apply Loc.tail)))) (fun _ _ => tr_lt) (fun q => by rw [q]; exact ⟨rfl, S4⟩) (fun q => ev_binG (EV.mono (pi_add pi_const (pi_loc C S4 (by (repeat' (first | exact Kd.head | apply Kd.tail))) (by (repeat' (first | exact Loc.head | apply Loc.tail))))) ?_)) (by with_unfolding_all rfl)
          rw [q]
          rintro v h₇ ⟨⟨u1, rfl⟩, rfl⟩
          refine EV.mono (ev_run (b := 0) (p := head) C (by decide) (by decide) S4 (by (repeat' (first | exact Kd.head | apply Kd.tail))) (pv_loc C S4 (by (repeat' (first | exact Kd.head | apply Kd.tail))) (by (repeat' (first | exact Loc.head | apply Loc.tail)))) pi_const (pi_loc C S4 (by (repeat' (first | exact Kd.head | apply Kd.tail))) (by (repeat' (first | exact Loc.head | apply Loc.tail)))) (hg.keep S4.F.keep) hh hz (by decide) (fun _ => rfl) (fun _ => rfl) fun _ => rfl) ?_
          rintro v h₈ ⟨⟨u2, rfl⟩, S5, _⟩
          refine ⟨fun tk Q hQ => o_sub fun t3 tk' => hQ _ _ _ fun u => tr_le.mono ?_⟩
          rintro v h₉ ⟨rfl, rfl⟩
          exact ⟨rfl, S5⟩
        · rintro v h₇ ⟨rfl, S5⟩
          exact ⟨g, _, _, h, _, S5, by (repeat' (first | exact SetL.head | apply SetL.tail)), fun h₈ S6 _ => xs_nil ⟨rfl, _, S6, rfl⟩⟩
      · rintro h₇ ⟨_, S5, rfl⟩
        refine xs_ret (ev_ifexp (pt_val (pv_loc C S5 (by (repeat' (first | exact Kd.head | apply Kd.tail))) (by (repeat' (first | exact Loc.head | apply Loc.tail)))) rfl) (fun q => EV.mono pv_str ?_) fun q => EV.mono pv_str ?_)
        · rintro v h' ⟨⟨t', rfl⟩, rfl⟩
          exact ⟨S5.fin, t', by rw [wrongF, if_neg w1, if_neg w2, if_neg w3, if_pos q]⟩
        · rintro v h' ⟨⟨t', rfl⟩, rfl⟩
          exact ⟨S5.fin, t', by rw [wrongF, if_neg w1, if_neg w2, if_neg w3, if_neg (by rw [q]; decide)]⟩

/-! ## _law_stretch -/
section
variable {c : Cx} {L : Addr} {sn : List (Str × NameKind)} {mg mb : Str → Option Value} {g h : Heap} {D U : Nat} {ns : List Str} {vs : List (Option Value)} {led : List (Addr × Obj)} {r : Heap} {pos fp : Pos} {e : Expr} {P : Value → Heap → Prop}
/-- tuple(a list) -/
theorem ev_tupleL (C : Fc c L sn mg mb g D U) (S : St g L ns vs led r h) (k : Kd sn (Str.ofString "tuple") .globalImplicit) (q : EV c h e fun v h₁ => Ex8 fun (la : Addr) (xs : List Value) (g' : Heap) (L' : Addr) (ns' : List Str) (vs' : List (Option Value)) (led' : List (Addr × Obj)) (r' : Heap) => v = .ref la ∧ h₁.IsList la xs.toArray ∧ xs.length ≤ sizeLine ∧ St g' L' ns' vs' led' r' h₁ ∧
      ∀ a h₂, h₁.get? a = none → IsTup h₂ a xs.toArray → St g' L' ns' vs' led' r' h₂ → St g' L' ns' vs' led' h₁ h₂ → P (.ref a) h₂)
    (he : starEach [e] c.env = (false, eval e c.env) :: starEach [] c.env) : EV c h (.Call (.Name (Str.ofString "tuple") fp) [e] [] pos) P :=
  ⟨fun tk Q hQ => Call_ ((pv_bi C S k (gl_tuple _) (by boot_fast) (by decide)).run tk _ fun v h' tk' p => by
    obtain ⟨rfl, rfl⟩ := p
    refine PyProof.Rows.callWith_type1 ?_ he
    refine spliced_more (he := he) (q.run tk' _ fun v h₁ tk₁ p => spliced_none ?_)
    obtain ⟨la, xs, g', L', ns', vs', led', r', rfl, hl, hz, S1, kk⟩ := p
    refine call_tuple_list (s := mk c.s h₁ tk₁) hl (fun h' hk => ?_) (by simpa using hz)
    have hp : ∀ b o, h₁.get? b = some o → (h'.push { cls := .type "tuple", data := .seq xs.toArray }).get? b = some o := fun b o e => Heap.get?_push_of_some _ (hk b o e)
    exact hQ _ _ _ (kk h'.objs.size _ (none_at fresh_size hk) ⟨_, Heap.get?_push_size _ rfl, rfl, _, rfl⟩ (S1.keepAll hp) (S1.re.keepAll hp)))⟩
end
section
variable {c : Cx} {L : Addr} {sn : List (Str × NameKind)} {mg mb : Str → Option Value} {g h : Heap} {D U : Nat} {ns : List Str} {vs : List (Option Value)} {led : List (Addr × Obj)} {r : Heap} {pos ap sp : Pos} {e l r' o : Expr} {P : Value → Heap → Prop} {R : Flow → Heap → Prop} {rest : List Stmt}
theorem ev_cmpG {op : CmpOp} (q : EV c h l (CmpQ c r' op P)) (hm : behindInMarks op r' = false) : EV c h (.Compare l [op] [r'] pos) P :=
  ⟨fun tk Q hQ => e_cmp (hm := hm) (q.run tk _ fun v h' tk' p => p.run tk' _ fun v h' tk' p => p.run tk' _ hQ)⟩
/-- found.append(e), e a token -/
theorem xs_appendS {fa : Addr} {xs : List Value} {n : Nat} {t : Int × Int} {f : Obj → List (Addr × Obj)} (C : Fc c L sn mg mb g D U) (S : St g L ns vs led r h) (U' : Up led fa (listOf xs.toArray n) f) (hz : xs.length ≤ 1000) (qo : PV c h o (.ref fa)) (q : EV c h e fun v h' => TokAt h' v t ∧ St g L ns vs led r h' ∧ St g L ns vs led h h')
    (he : starEach [e] c.env = (false, eval e c.env) :: starEach [] c.env) {pl : Sem Bool}
    (hmc : eval (.Call (.Attribute o (Str.ofString "append") ap) [e] [] pos) c.env = (do
      let ov ← eval o c.env
      standAt ap.atName
      let (f, first) ← holding [ov] (getMethod ov (Str.ofString "append") pl)
      callWith pos f first (backTo pos (starEach [e] c.env)) [])) (hs : swapsWith (.Call (.Attribute o (Str.ofString "append") ap) [e] [] pos) none sp.line c.env = pure false)
    (hr : ∀ h' v, TokAt h' v t → St g L ns vs (f (listOf (xs ++ [v]).toArray (n + 1))) r h' → TupK h h' → XS c h' rest R) : XS c h (.Expr (.Call (.Attribute o (Str.ofString "append") ap) [e] [] pos) sp :: rest) R := by
  have hsl : sizeLine = 16777216 := sizeLine_eq
  refine xs_expr (ev_meth1 S qo U'.mem PySem.F.slot_list_append PySem.F.type_list_append (q.mono fun v h₁ p => ?_) he hmc) C hs
  obtain ⟨tt, S1, S2⟩ := p
  refine ⟨fun tk Q hQ => (tr_append S1 U' (by omega)).run tk Q fun v' h' tk' p => hQ _ _ _ ?_⟩
  obtain ⟨rfl, S3, S4⟩ := p
  exact ⟨rfl, hr h' _ (tt.mono S4.go.T) S3 (S2.go.T.trans S4.go.T)⟩
end
def oneF (ts : List (Int × Int)) (b : Nat) (s : Int) (p : Nat) : List (Int × Int) :=
  match ts[p]? with
  | none => []
  | some t => if runF ts b p % 2 = 1 ∧ t.1 = 12 then [(s, t.2 - 48)] else if runF ts b p % 2 = 1 ∨ t.1 ≠ 6 then [t] else []
def stretchF (ts : List (Int × Int)) (b : Nat) (s : Int) : Nat → List (Int × Int)
  | 0 => []
  | n + 1 => stretchF ts b s n ++ oneF ts b s (b + n)
theorem stretchF_len (ts : List (Int × Int)) (b : Nat) (s : Int) : ∀ n, (stretchF ts b s n).length ≤ n
  | 0 => Nat.le_refl _
  | n + 1 => by
    have := stretchF_len ts b s n
    have h1 : (oneF ts b s (b + n)).length ≤ 1 := by
      unfold oneF
      split
      · simp
      · split
        · simp
        · split <;> simp
    show (stretchF ts b s n ++ oneF ts b s (b + n)).length ≤ _
    rw [List.length_append]; omega
theorem stretch_spec {w : World} {h : Heap} {ta : Addr} {ts : List (Int × Int)} {b e : Nat} {s : Int} {tb te tS : Tok} (hT : TL h ta ts) (he : e ≤ ts.length) (hb : b ≤ 1000) (hz : ts.length < 1000) :
    Spec w 335 [.ref ta, .int b tb, .int e te, .int s tS] [] 2 6 h fun h' v => ∃ a, v = .ref a ∧ TT h' a (stretchF ts b s (e - b)) := by
  refine spec_xs (D := 1) (U := 3) [Str.ofString "tokens", Str.ofString "begin", Str.ofString "end", Str.ofString "sort", Str.ofString "found", Str.ofString "place", Str.ofString "is_told"] 4 rfl (by kernel_rfl) (fun _ _ => BindsTo.of_eq rfl) rfl (by decide +kernel) (by decide) (by decide +kernel) (by decide +kernel) (by decide +kernel) (by simp) (by simp) ?_
  intro c mg mb g h₁ L hw C hk hL S
  dsimp only at C
  subst hw
  have hsl : sizeLine = 16777216 := sizeLine_eq
  have hg : TL g ta ts := hT.keep fun b o e => hk b o (by simp) e
  clear hT hk hL
  refine xs_assign (ns := [Str.ofString "tokens", Str.ofString "begin", Str.ofString "end", Str.ofString "sort", Str.ofString "found", Str.ofString "place", Str.ofString "is_told"]) (ev_list (ea_nil ⟨_, _, _, _, _, _, S, by simp [hsl], fun fa h₂ nf S1 _ => ⟨g, _, _, _, _, S1, by (repeat' (first | exact SetL.head | apply SetL.tail)), fun h₃ S2 S2' => ?_⟩⟩)) C (by (repeat' (first | exact Kd.head | apply Kd.tail))) rfl
  clear S1 S
  refine xs_for_range (L := L) (g := g) (r := h) (ns := [Str.ofString "tokens", Str.ofString "begin", Str.ofString "end", Str.ofString "sort", Str.ofString "found", Str.ofString "place", Str.ofString "is_told"]) C (by (repeat' (first | exact Kd.head | apply Kd.tail))) (EV.mono (ev_range2 (P := fun a b' h' => a = (b : Int) ∧ b' = (e : Int) ∧ h' = h₃) C S2 (by (repeat' (first | exact Kd.head | apply Kd.tail))) (EV.mono (pi_loc C S2 (by (repeat' (first | exact Kd.head | apply Kd.tail))) (by (repeat' (first | exact Loc.head | apply Loc.tail)))) ?_) rfl rfl) ?_) (fun _ => rfl)
  · rintro v h' ⟨⟨t, rfl⟩, rfl⟩
    refine ⟨_, t, rfl, EV.mono (pi_loc C S2 (by (repeat' (first | exact Kd.head | apply Kd.tail))) (by (repeat' (first | exact Loc.head | apply Loc.tail)))) ?_⟩
    rintro v h' ⟨⟨t, rfl⟩, rfl⟩
    exact ⟨_, t, rfl, rfl, rfl, rfl⟩
  rintro v h₄ ⟨_, _, _, rr, t, u, w, rfl, ⟨rfl, rfl, rfl⟩, hr, kp⟩
  refine ⟨b, e, t, u, w, rr, _, _, fun i vs led h' => Ex4 fun z1 z2 xs n => vs = [some (.ref ta), some (.int b tb), some (.int e te), some (.int s tS), some (.ref fa), z1, z2] ∧ led = [(fa, listOf xs.toArray n)] ∧ Toks h' xs (stretchF ts b s i), rfl, hr, by omega, S2.keepAll kp, ⟨none, none, [], 0, rfl, rfl, .nil⟩, ?_, ?_, ?_⟩
  · rintro i vs led h h' ⟨z1, z2, xs, n, e1, e2, tt⟩ k
    exact ⟨z1, z2, xs, n, e1, e2, tt.mono k⟩
  · rintro i tp vs led' h₅ hi S3 e3 ⟨z1, z2, xs, n, rfl, rfl, tt⟩
    refine ⟨_, by (repeat' (first | exact SetL.head | apply SetL.tail)), fun h₆ S4 => ?_⟩
    have e0 : (b : Int) + (i : Int) = ((b + i : Nat) : Int) := by omega
    rw [e0] at S4
    have hp : b + i < ts.length := by omega
    have hlen := stretchF_len ts b s i
    obtain ⟨t', ht'⟩ : ∃ t', ts[b + i]? = some t' := ⟨_, List.getElem?_eq_getElem hp⟩
    have tt := tt.mono S4.go.T
    have hxl := tt.length
    refine xs_assign (ns := [Str.ofString "tokens", Str.ofString "begin", Str.ofString "end", Str.ofString "sort", Str.ofString "found", Str.ofString "place", Str.ofString "is_told"]) (EV.mono (P := fun v h' => v = .bool (decide (runF ts b (b + i) % 2 = 1)) ∧ St g L [Str.ofString "tokens", Str.ofString "begin", Str.ofString "end", Str.ofString "sort", Str.ofString "found", Str.ofString "place", Str.ofString "is_told"] [some (.ref ta), some (.int b tb), some (.int e te), some (.int s tS), some (.ref fa), some (.int ((b + i : Nat) : Int) tp), z2] [(fa, listOf xs.toArray n)] h₅ h' ∧ TupK h₆ h') (ev_cmpG (ev_binG (EV.mono (ev_run (b := b) (p := b + i) C (by decide) (by decide) S4 (by (repeat' (first | exact Kd.head | apply Kd.tail))) (pv_loc C S4 (by (repeat' (first | exact Kd.head | apply Kd.tail))) (by (repeat' (first | exact Loc.head | apply Loc.tail)))) (pi_loc C S4 (by (repeat' (first | exact Kd.head | apply Kd.tail))) (by (repeat' (first | exact Loc.head | apply Loc.tail)))) (pi_loc C S4 (by (repeat' (first | exact Kd.head | apply Kd.tail))) (by (repeat' (first | exact Loc.head | apply Loc.tail)))) (hg.keep S4.F.keep) (by omega) hz hb (fun _ => rfl) (fun _ => rfl) fun _ => rfl) ?_)) rfl) ?_) C (by (repeat' (first | exact Kd.head | apply Kd.tail))) rfl
    · rintro v h₇ ⟨⟨t1, rfl⟩, S5, S6⟩
      refine pi_const.mono ?_
      rintro v h₈ ⟨⟨t2, rfl⟩, rfl⟩
      refine ⟨fun tk Q hQ => o_mod (by decide) fun tq tk' => hQ _ _ _ (pi_const.mono ?_)⟩
      rintro v h₉ ⟨⟨t3, rfl⟩, rfl⟩
      refine tr_eq.mono ?_
      rintro v h₁₀ ⟨rfl, rfl⟩
      refine ⟨?_, S5, S6.go.T⟩
      rw [Int.fmod_eq_emod_of_nonneg _ (by decide)]
      exact congrArg _ (decide_eq_decide.mpr (by omega))
    rintro v h₇ ⟨rfl, S5, k5⟩
    refine ⟨g, _, _, _, _, S5, by (repeat' (first | exact SetL.head | apply SetL.tail)), fun h₈ S6 S7 => ?_⟩
    have tt := (tt.mono k5).mono S7.go.T
    clear S4 S5 S7 k5
    refine xs_if (pt_and2 (pt_val (pv_loc C S6 (by (repeat' (first | exact Kd.head | apply Kd.tail))) (by (repeat' (first | exact Loc.head | apply Loc.tail)))) rfl) fun _ => pt_eq (pi_k0 (pk_item (j := b + i) (pv_loc C S6 (by (repeat' (first | exact Kd.head | apply Kd.tail))) (by (repeat' (first | exact Loc.head | apply Loc.tail)))) (hg.keep S6.F.keep) (pi_loc C S6 (by (repeat' (first | exact Kd.head | apply Kd.tail))) (by (repeat' (first | exact Loc.head | apply Loc.tail)))) rfl ht' hz (fun _ => by with_unfolding_all rfl))) pi_const rfl) (fun q => ?_) fun q => ?_
    · simp only [Bool.and_eq_true, decide_eq_true_eq] at q
      refine xs_appendS C S6 .head (by omega) (pv_loc C S6 (by (repeat' (first | exact Kd.head | apply Kd.tail))) (by (repeat' (first | exact Loc.head | apply Loc.tail)))) (ev_pair S6 (pi_loc C S6 (by (repeat' (first | exact Kd.head | apply Kd.tail))) (by (repeat' (first | exact Loc.head | apply Loc.tail)))) (pi_sub (pi_k1 (pk_item (j := b + i) (pv_loc C S6 (by (repeat' (first | exact Kd.head | apply Kd.tail))) (by (repeat' (first | exact Loc.head | apply Loc.tail)))) (hg.keep S6.F.keep) (pi_loc C S6 (by (repeat' (first | exact Kd.head | apply Kd.tail))) (by (repeat' (first | exact Loc.head | apply Loc.tail)))) rfl ht' hz (fun _ => by with_unfolding_all rfl))) pi_const) (fun _ => rfl) fun _ => rfl) rfl rfl rfl fun h₉ v tv S8 k8 => xs_nil ?_
      refine xs_nil ⟨_, _, S8, rfl, _, _, _, _, rfl, rfl, ?_⟩
      show Toks _ _ (stretchF ts b s i ++ oneF ts b s (b + i))
      unfold oneF
      rw [ht']
      dsimp only
      rw [if_pos q]
      exact (tt.mono k8).append (.cons tv .nil)
    · have q1 : ¬ (runF ts b (b + i) % 2 = 1 ∧ t'.1 = 12) := by simpa using q
      refine xs_if (pt_or2 (pt_val (pv_loc C S6 (by (repeat' (first | exact Kd.head | apply Kd.tail))) (by (repeat' (first | exact Loc.head | apply Loc.tail)))) rfl) fun _ => pt_ne (pi_k0 (pk_item (j := b + i) (pv_loc C S6 (by (repeat' (first | exact Kd.head | apply Kd.tail))) (by (repeat' (first | exact Loc.head | apply Loc.tail)))) (hg.keep S6.F.keep) (pi_loc C S6 (by (repeat' (first | exact Kd.head | apply Kd.tail))) (by (repeat' (first | exact Loc.head | apply Loc.tail)))) rfl ht' hz (fun _ => by with_unfolding_all rfl))) pi_const rfl) (fun q => ?_) fun q => xs_nil (xs_nil (xs_nil ?_))
      · have q2 : runF ts b (b + i) % 2 = 1 ∨ t'.1 ≠ 6 := by simpa using q
        refine xs_appendS (t := t') C S6 .head (by omega) (pv_loc C S6 (by (repeat' (first | exact Kd.head | apply Kd.tail))) (by (repeat' (first | exact Loc.head | apply Loc.tail)))) ((pk_item (j := b + i) (pv_loc C S6 (by (repeat' (first | exact Kd.head | apply Kd.tail))) (by (repeat' (first | exact Loc.head | apply Loc.tail)))) (hg.keep S6.F.keep) (pi_loc C S6 (by (repeat' (first | exact Kd.head | apply Kd.tail))) (by (repeat' (first | exact Loc.head | apply Loc.tail)))) rfl ht' hz (fun _ => by with_unfolding_all rfl)).mono fun v h p => by
          obtain ⟨tv, rfl⟩ := p
          exact ⟨tv, S6, S6.re⟩) rfl rfl rfl fun h₉ v tv S8 k8 => xs_nil (xs_nil ?_)
        refine xs_nil ⟨_, _, S8, rfl, _, _, _, _, rfl, rfl, ?_⟩
        show Toks _ _ (stretchF ts b s i ++ oneF ts b s (b + i))
        unfold oneF
        rw [ht']
        dsimp only
        rw [if_neg q1, if_pos q2]
        exact (tt.mono k8).append (.cons tv .nil)
      · have q2 : ¬ (runF ts b (b + i) % 2 = 1 ∨ t'.1 ≠ 6) := by simpa using q
        refine ⟨_, _, S6, rfl, _, _, _, _, rfl, rfl, ?_⟩
        show Toks _ _ (stretchF ts b s i ++ oneF ts b s (b + i))
        unfold oneF
        rw [ht']
        dsimp only
        rw [if_neg q1, if_neg q2, List.append_nil]
        exact tt
  · rintro vs led' h₅ S3 e3 ⟨z1, z2, xs, n, rfl, rfl, tt⟩
    have e1 : ((e : Int) - (b : Int)).toNat = e - b := Int.toNat_sub _ _
    rw [e1] at tt
    have hlen := stretchF_len ts b s (e - b)
    refine xs_ret (ev_tupleL C S3 (by (repeat' (first | exact Kd.head | apply Kd.tail))) (EV.mono (pv_loc C S3 (by (repeat' (first | exact Kd.head | apply Kd.tail))) (by (repeat' (first | exact Loc.head | apply Loc.tail)))) ?_) rfl)
    rintro v h₆ ⟨rfl, rfl⟩
    refine ⟨fa, xs, _, _, _, _, _, _, rfl, isL (S3.N _ (.head _)).1, by rw [tt.length]; omega, S3, fun a h₇ na it S5 S6 => ⟨S5.fin, a, rfl, xs, it, tt.mono S6.go.T⟩⟩

/-! ## _law_cell -/
section
variable {c : Cx} {L : Addr} {sn : List (Str × NameKind)} {mg mb : Str → Option Value} {g h : Heap} {D U : Nat} {ns : List Str} {vs : List (Option Value)} {led : List (Addr × Obj)} {r : Heap} {pos fp : Pos} {e : Expr} {P : Value → Heap → Prop} {i : Int}
theorem pi_abs (C : Fc c L sn mg mb g D U) (S : St g L ns vs led r h) (k : Kd sn (Str.ofString "abs") .globalImplicit) (q : PI c h e i) (he : starEach [e] c.env = (false, eval e c.env) :: starEach [] c.env) : PI c h (.Call (.Name (Str.ofString "abs") fp) [e] [] pos) (if i < 0 then -i else i) :=
  ⟨fun tk Q hQ => Call_ ((pv_bi C S k (gl_abs _) (by boot_fast) (by decide)).run tk _ fun v h' tk' p => by
    obtain ⟨rfl, rfl⟩ := p
    refine PyProof.Rows.callWith_builtin1 ?_ he
    refine spliced_more (he := he) (q.run tk' _ fun v h₁ tk₁ p => spliced_none ?_)
    obtain ⟨⟨t, rfl⟩, rfl⟩ := p
    exact PyProof.Rows.call_abs_int (s := mk c.s h₁ tk₁) fun u tk => hQ _ _ _ ⟨⟨u, rfl⟩, rfl⟩)⟩
theorem pi_intB {b : Bool} (C : Fc c L sn mg mb g D U) (S : St g L ns vs led r h) (k : Kd sn (Str.ofString "int") .globalImplicit) (q : PB c h e b) (he : starEach [e] c.env = (false, eval e c.env) :: starEach [] c.env) : PI c h (.Call (.Name (Str.ofString "int") fp) [e] [] pos) (if b then 1 else 0) :=
  ⟨fun tk Q hQ => Call_ ((pv_bi C S k (gl_int _) (by boot_fast) (by decide)).run tk _ fun v h' tk' p => by
    obtain ⟨rfl, rfl⟩ := p
    refine PyProof.Rows.callWith_type1 ?_ he
    refine spliced_more (he := he) (q.run tk' _ fun v h₁ tk₁ p => spliced_none ?_)
    obtain ⟨rfl, rfl⟩ := p
    exact call_int_bool (s := mk c.s h₁ tk₁) (hQ _ _ _ ⟨⟨_, rfl⟩, rfl⟩))⟩
theorem IV.snoc {xs : List Value} {is : List Int} (x : IV xs is) (i : Int) (t : Tok) : IV (xs ++ [.int i t]) (is ++ [i]) := by
  induction x with
  | nil => exact .cons .nil
  | cons _ ih => exact .cons ih
theorem IV.items {xs : List Value} {is : List Int} (x : IV xs is) : ∃ ys : Array (Int × Tok), intItems ys = xs.toArray := by
  induction x with
  | nil => exact ⟨#[], by simp [intItems]⟩
  | @cons i t xs is _ ih =>
    obtain ⟨ys, e⟩ := ih
    refine ⟨((i, t) :: ys.toList).toArray, ?_⟩
    have e' : (ys.toList.map fun p => Value.int p.1 p.2) = xs := by
      have := congrArg Array.toList e
      simpa [intItems] using this
    apply Array.toList_inj.mp
    simp [intItems, ← e']
theorem ev_sumI (C : Fc c L sn mg mb g D U) (S : St g L ns vs led r h) (k : Kd sn (Str.ofString "sum") .globalImplicit) (q : EV c h e fun v h₁ => Ex3 fun (la : Addr) (xs : List Value) (is : List Int) => v = .ref la ∧ h₁.IsList la xs.toArray ∧ IV xs is ∧ ∀ j t h₂, (∀ b o, h₁.get? b = some o → h₂.get? b = some o) → P (.int j t) h₂)
    (he : starEach [e] c.env = (false, eval e c.env) :: starEach [] c.env) : EV c h (.Call (.Name (Str.ofString "sum") fp) [e] [] pos) P :=
  ⟨fun tk Q hQ => Call_ ((pv_bi C S k (gl_sum _) (by boot_fast) (by decide)).run tk _ fun v h' tk' p => by
    obtain ⟨rfl, rfl⟩ := p
    refine PyProof.Rows.callWith_builtin1 ?_ he
    refine spliced_more (he := he) (q.run tk' _ fun v h₁ tk₁ p => spliced_none ?_)
    obtain ⟨la, xs, is, rfl, hl, iv, kk⟩ := p
    obtain ⟨ys, ey⟩ := iv.items
    rw [← ey] at hl
    exact sum_intListG (s := mk c.s h₁ tk₁) C.hh hl fun h' tk' t' hk => hQ _ _ _ (kk _ _ _ hk))⟩
end
theorem cell_spec {w : World} {h : Heap} {sa : Addr} {xs : List Value} {n : Nat} {is : List Int} {k : Nat} {tk : Tok} (hS : h.get? sa = some (listOf xs.toArray n)) (iv : IV xs is) (hz : is.length ≤ 1000) (hk9 : k ≤ 1000) :
    Spec w 257 [.ref sa, .int k tk] [] 1 3 h fun h' v => Ex2 fun a o => v = .ref a ∧ h.get? a = none ∧ h'.get? a = some o ∧ SrcO o 0 := by
  refine spec_xs (D := 0) (U := 0) [Str.ofString "script", Str.ofString "k", Str.ofString "cell", Str.ofString "whole"] 2 rfl (by kernel_rfl) (fun _ _ => BindsTo.of_eq rfl) rfl (by decide +kernel) (by decide) (by decide +kernel) (by decide +kernel) (by decide +kernel) (by simp) (by simp) ?_
  intro c mg mb g h₁ L hw C hk hL S
  dsimp only at C
  subst hw
  have hsl : sizeLine = 16777216 := sizeLine_eq
  have hg : g.get? sa = some (listOf xs.toArray n) := hk _ _ (by simp) hS
  clear hS hk hL
  have hxl := iv.length
  have eS := S.F.keep _ _ hg
  refine xs_assign (ns := [Str.ofString "script", Str.ofString "k", Str.ofString "cell", Str.ofString "whole"]) (EV.mono (P := fun v h' => (Ex2 fun i t => v = .int i t) ∧ St g L [Str.ofString "script", Str.ofString "k", Str.ofString "cell", Str.ofString "whole"] [some (.ref sa), some (.int k tk), none, none] [] h h') (ev_ifexp (pt_lt (pi_loc C S (by (repeat' (first | exact Kd.head | apply Kd.tail))) (by (repeat' (first | exact Loc.head | apply Loc.tail)))) (ev_len C S (by (repeat' (first | exact Kd.head | apply Kd.tail))) (pv_loc C S (by (repeat' (first | exact Kd.head | apply Kd.tail))) (by (repeat' (first | exact Loc.head | apply Loc.tail)))) (isL eS) (by omega) rfl) rfl) (fun q => ?_) fun q => ?_) ?_) C (by (repeat' (first | exact Kd.head | apply Kd.tail))) rfl
  · have q := of_decide_eq_true q
    have hx : is[k]? = some (is[k]'(by omega)) := List.getElem?_eq_getElem _
    obtain ⟨t', hw⟩ := iv.get hx
    refine (pi_item (i := k) (pv_loc C S (by (repeat' (first | exact Kd.head | apply Kd.tail))) (by (repeat' (first | exact Loc.head | apply Loc.tail)))) (pi_loc C S (by (repeat' (first | exact Kd.head | apply Kd.tail))) (by (repeat' (first | exact Loc.head | apply Loc.tail)))) eS (by omega) (by omega) (by simpa using hw) (fun _ => by with_unfolding_all rfl)).mono fun v h' p => ⟨?_, ?_⟩
    · obtain ⟨⟨t, rfl⟩, rfl⟩ := p
      exact ⟨_, t, rfl⟩
    · rw [p.2]; exact S
  · refine ev_binG (EV.mono (pi_add (pi_mul pi_const (pi_loc C S (by (repeat' (first | exact Kd.head | apply Kd.tail))) (by (repeat' (first | exact Loc.head | apply Loc.tail)))) (PySem.IntMulOk.of_left (by decide))) pi_const) ?_)
    rintro v h₂ ⟨⟨t1, rfl⟩, rfl⟩
    refine ev_binG (ev_binG (EV.mono (P := fun v h' => (Ex2 fun i t => v = .int i t) ∧ St g L [Str.ofString "script", Str.ofString "k", Str.ofString "cell", Str.ofString "whole"] [some (.ref sa), some (.int k tk), none, none] [] h h') (ev_sumI C S (by (repeat' (first | exact Kd.head | apply Kd.tail))) (ev_comp (L := L) (snc := [(Str.ofString ".0", .local), (Str.ofString "one", .local), (Str.ofString "abs", .globalImplicit)]) (nsc := [Str.ofString "one"]) (cl := []) (vz := fun z => [z]) C ⟨relab C (by decide +kernel), by decide +kernel, by decide +kernel, by decide +kernel, rfl, by decide +kernel, rfl, fun z v => .head, by (repeat' (first | exact Kd.head | apply Kd.tail)), ?_, by decide +kernel⟩ (fun _ => rfl) (EV.mono (pv_loc C S (by (repeat' (first | exact Kd.head | apply Kd.tail))) (by (repeat' (first | exact Loc.head | apply Loc.tail)))) ?_)) rfl) ?_))
    · unfold closureFor; rfl
    · rintro v h₃ ⟨rfl, rfl⟩
      refine tr_compQ C S (src_list C.hh (isL eS)) (by omega) (fun i ys _ => ∃ js, IV ys js) ⟨[], .nil⟩ (fun _ _ _ _ y _ => y) ?_ ?_
      · rintro i v ys m Dd h₅ Ca g' hi pv Fi kg S5 ⟨js, ivs⟩ hl
        have hx : is[i]? = some (is[i]'(by omega)) := List.getElem?_eq_getElem _
        obtain ⟨t', hw⟩ := iv.get hx
        rw [pv] at hw
        cases hw
        show EV _ _ _ _
        refine (pi_abs Fi S5 (by (repeat' (first | exact Kd.head | apply Kd.tail))) (pi_loc Fi S5 (by (repeat' (first | exact Kd.head | apply Kd.tail))) (by (repeat' (first | exact Loc.head | apply Loc.tail)))) rfl).mono ?_
        rintro v h₆ ⟨⟨t6, rfl⟩, rfl⟩
        exact ⟨S5, _, ivs.snoc _ _⟩
      · rintro Dd Ca h' ys m S6 S6' nD ab hl ⟨js, ivs⟩
        refine ⟨Dd, ys, js, rfl, isL (S6.N _ (.head _)).1, ivs, fun j t h₂ hk => ⟨⟨j, t, rfl⟩, (S6.dropHead (S.go.D _ nD)).keepAll hk⟩⟩
    · rintro v h₃ ⟨⟨i, t, rfl⟩, S2⟩
      refine pi_const.mono ?_
      rintro v h₄ ⟨⟨t4, rfl⟩, rfl⟩
      refine ⟨fun tk Q hQ => o_mod (by decide) fun tq tk' => hQ _ _ _ (pi_const.mono ?_)⟩
      rintro v h₅ ⟨⟨t5, rfl⟩, rfl⟩
      refine ⟨fun tk Q hQ => o_mul (PySem.IntMulOk.of_right (by decide)) fun tq tk' => hQ _ _ _ ⟨fun tk Q hQ => o_add fun tq tk' => hQ _ _ _ ⟨⟨_, _, rfl⟩, S2⟩⟩⟩
  rintro v h₂ ⟨⟨i, t, rfl⟩, S2⟩
  refine ⟨g, _, _, h, _, S2, by (repeat' (first | exact SetL.head | apply SetL.tail)), fun h₃ S3 _ => ?_⟩
  clear S2 S eS
  have sgn : (if decide (i < 0) = true then (1 : Int) else 0) = if i < 0 then 1 else 0 := by by_cases q : i < 0 <;> simp [q]
  refine xs_assign_i C S3 (pi_add (pi_mul pi_const (pi_abs C S3 (by (repeat' (first | exact Kd.head | apply Kd.tail))) (pi_loc C S3 (by (repeat' (first | exact Kd.head | apply Kd.tail))) (by (repeat' (first | exact Loc.head | apply Loc.tail)))) rfl) (PySem.IntMulOk.of_left (by decide))) (pi_intB C S3 (by (repeat' (first | exact Kd.head | apply Kd.tail))) (pb_lt (pi_loc C S3 (by (repeat' (first | exact Kd.head | apply Kd.tail))) (by (repeat' (first | exact Loc.head | apply Loc.tail)))) pi_const rfl) rfl)) (by (repeat' (first | exact Kd.head | apply Kd.tail))) (fun t => by (repeat' (first | exact SetL.head | apply SetL.tail))) rfl fun t2 h₄ S4 => ?_
  rw [sgn] at S4
  have w0 : 0 ≤ 2 * (if i < 0 then -i else i) + (if i < 0 then (1 : Int) else 0) := by split <;> omega
  generalize 2 * (if i < 0 then -i else i) + (if i < 0 then (1 : Int) else 0) = wh at S4 w0
  refine xs_ret (ev_list (ea_cons (EV.mono (pi_loc C S4 (by (repeat' (first | exact Kd.head | apply Kd.tail))) (by (repeat' (first | exact Loc.head | apply Loc.tail)))) ?_) rfl))
  rintro v h₅ ⟨⟨t5, rfl⟩, rfl⟩
  refine ea_cons (EV.mono pi_const ?_) rfl
  rintro v h₆ ⟨⟨t6, rfl⟩, rfl⟩
  refine ea_cons (EV.mono (pi_mod (pi_loc C S4 (by (repeat' (first | exact Kd.head | apply Kd.tail))) (by (repeat' (first | exact Loc.head | apply Loc.tail)))) pi_const (by decide)) ?_) rfl
  rintro v h₇ ⟨⟨t7, rfl⟩, rfl⟩
  refine ea_nil ⟨_, _, _, _, _, _, S4, by simp [hsl], fun a h₈ na S5 S6 => ⟨S5.fin, a, _, rfl, S4.go.D _ na, (S5.N _ (.head _)).1, wh, 0, _, t5, t6, t7, 0, rfl, w0, Int.le_refl _, Int.le_refl _, ?_, ?_⟩⟩
  · rw [Int.fmod_eq_emod_of_nonneg _ (by decide)]; omega
  · rw [Int.fmod_eq_emod_of_nonneg _ (by decide)]; omega

/-! ## a slice t[a:b] of a tuple -/
section
variable {prog : Program} {w : World} {A : Around} {E : Value → Shared → Prop} {s : Shared}
theorem sliceApplied_ab {sl : Addr} {a b n : Nat} {u u2 : Tok} {Q : Int × Int × Nat → Shared → Prop} (hs : s.heap.IsSliceOf sl (.int a u) (.int b u2) .none) (ha : a ≤ b) (hb : b ≤ n) (h : Q ((a : Int), 1, b - a) s) :
    wpAny (model prog w) A (Builtin.Slice.sliceApplied (.ref sl) (pure (n : Int))) Q E s := by
  obtain ⟨os, hos, hcs, hds⟩ := id hs
  unfold Builtin.Slice.sliceApplied Builtin.Slice.sliceFields
  refine wpAny_bind (wpAny_bind (wpAny_field hos hds (x := .int a u) rfl (wpAny_bind (wpAny_field hos hds (x := .int b u2) rfl (wpAny_bind (wpAny_field hos hds (x := .none) rfl (wpAny_pure ?_)))))))
  refine wpAny_bind (slicePart_none ?_)
  show wpAny _ _ (if ((1 : Int) == 0) = true then _ else _) _ _ s
  rw [if_neg (by decide)]
  refine wpAny_bind (slicePart_int (wpAny_bind (slicePart_int (wpAny_bind (wpAny_pure ?_)))))
  show wpAny _ _ (match Builtin.Slice.sliceAdjust (some (a : Int)) (some (b : Int)) 1 (n : Int) with | (lo, hi) => pure (lo, (1 : Int), Builtin.Slice.slicePlaces lo hi 1)) _ _ s
  have e : Builtin.Slice.sliceAdjust (some (a : Int)) (some (b : Int)) 1 (n : Int) = ((a : Int), (b : Int)) := by
    unfold Builtin.Slice.sliceAdjust
    have h1 : ¬ ((1 : Int) < 0) := by omega
    have h2 : ¬ ((a : Int) < 0) := by omega
    have h3 : ¬ ((b : Int) < 0) := by omega
    simp only [h1, h2, h3, if_false]
    congr 1 <;> omega
  rw [e]
  show wpAny _ _ (pure ((a : Int), (1 : Int), Builtin.Slice.slicePlaces (a : Int) (b : Int) 1)) _ _ s
  have e2 : Builtin.Slice.slicePlaces (a : Int) (b : Int) 1 = b - a := by
    unfold Builtin.Slice.slicePlaces
    have h1 : (1 : Int) > 0 := by omega
    simp only [h1, if_true, Int.ediv_one]
    split <;> omega
  rw [e2]
  exact wpAny_pure h
theorem pick_ab (xs : Array Value) (a b : Nat) : ((List.range (b - a)).filterMap fun (k : Nat) => xs[((a : Int) + (k : Int) * 1).toNat]?).toArray = ((xs.toList.drop a).take (b - a)).toArray := by
  have e : (fun (k : Nat) => xs[((a : Int) + (k : Int) * 1).toNat]?) = fun k => xs[a + k]? := by
    funext k
    have : ((a : Int) + (k : Int) * 1).toNat = a + k := by omega
    rw [this]
  rw [e]
  have := pick_run xs a (b - a)
  rw [List.filterMap_map] at this
  have e2 : ((fun x => xs[x]?) ∘ fun x => a + x) = fun k => xs[a + k]? := rfl
  rw [e2] at this
  rw [this]
theorem getItem_tuple_ab {t sl : Addr} {items : Array Value} {a b : Nat} {u u2 : Tok} {Q : Value → Shared → Prop} (ht : IsTup s.heap t items) (hs : s.heap.IsSliceOf sl (.int a u) (.int b u2) .none) (h1 : a ≤ b) (h2 : b ≤ items.size)
    (h : Q (.ref s.heap.objs.size) { s with heap := s.heap.push { cls := .type "tuple", data := .seq ((items.toList.drop a).take (b - a)).toArray } }) (hsame : a = 0 → b = items.size → Q (.ref t) s)
    (hsz : items.size ≤ sizeLine) : wpAny (model prog w) A (getItem (.ref t) (.ref sl)) Q E s := by
  have hdrop : sizeOk (.seq ((items.toList.drop a).take (b - a)).toArray) := by
    show ((items.toList.drop a).take (b - a)).toArray.size ≤ sizeLine
    rw [List.size_toArray, List.length_take, List.length_drop, Array.length_toList]
    omega
  obtain ⟨os, hos, hcs, hds⟩ := id hs
  have hTs : s.TypeIs (.ref sl) "slice" := ⟨os, hos, hcs⟩
  unfold getItem
  try with_reducible refine wpAny_holding ?_
  first | refine wpAny_bind (wpAny_pure ?_) | skip
  refine wpAny_bind (wpAny_sequenceKey ht.typeIs (by decide) ?_)
  refine wpAny_bind (wpAny_callSpecial?_slot (name := Str.ofString "__getitem__") ht.typeIs slot_tuple_getitem
    (wpAny_call_entry slot_tuple_getitem ht.typeIs entry_tuple_getitem ?_ (args_tuple_getitem _ _)))
  show wpAny _ _ (Builtin.Tuple.tupleItemsOf (.ref t) >>= _) _ _ s
  refine wpAny_bind (tupleItemsOf_ ht ?_)
  refine wpAny_bind (wpAny_typeOf hTs ?_)
  rw [if_pos (by decide)]
  refine wpAny_bind (sliceApplied_ab hs h1 h2 ?_)
  show wpAny _ _ (if ((a : Int) == 0 && (1 : Int) == 1 && (b - a) == items.size) = true then _ else _) _ _ s
  split
  · rename_i hc
    simp only [Bool.and_eq_true, beq_iff_eq] at hc
    refine wpAny_bind (m := Builtin.Tuple.tupleIsExact _) (wpAny_bind (wpAny_typeOf ht.typeIs (wpAny_pure ?_)))
    rw [if_pos (by decide)]
    exact wpAny_bind (wpAny_rule (wpAny_pure ⟨_, rfl, wpAny_pure (hsame (by omega) (by omega))⟩))
  · rw [pick_ab items a b]
    first
      | exact wpAny_bind (m := Builtin.Tuple.tupleExact _) (wpAny_newObj_type (wpAny_pure ⟨_, rfl, wpAny_pure h⟩) hdrop)
      | exact wpAny_bind (m := Builtin.Tuple.tupleExact _) (wpAny_newObj_type (wpAny_bind (wpAny_pure (wpAny_pure ⟨_, rfl, wpAny_pure h⟩))) hdrop)
      | exact wpAny_bind (wpAny_bind (m := Builtin.Tuple.tupleExact _) (wpAny_newObj_type (wpAny_pure (wpAny_pure ⟨_, rfl, wpAny_pure h⟩)) hdrop))
      | exact wpAny_bind (wpAny_bind (m := Builtin.Tuple.tupleExact _) (wpAny_newObj_type (wpAny_pure ⟨_, rfl, wpAny_pure h⟩) hdrop))
end
theorem ev_tslice {c : Cx} {L : Addr} {g h : Heap} {ns : List Str} {vs : List (Option Value)} {led : List (Addr × Obj)} {r : Heap} {pos sp : Pos} {value lo hi : Expr} {ta : Addr} {xs : List Value} {a b : Nat} (S : St g L ns vs led r h) (hv : PV c h value (.ref ta)) (h1 : PI c h lo a) (h2 : PI c h hi b) (it : IsTup h ta xs.toArray) (ab : a ≤ b) (bn : b ≤ xs.length) (hz : xs.length ≤ 1000)
    (hs : ∀ x, subscripted (.Slice (some lo) (some hi) none sp) false (.ref ta) (.ref x) = operate [.ref x, .ref ta] (getItem (.ref ta) (.ref x))) (ht : ∀ r, letTemporaryGo value (.ref ta) r = pure ()) :
    EV c h (.Subscript value (.Slice (some lo) (some hi) none sp) pos) fun v h' => (∃ d, v = .ref d ∧ IsTup h' d ((xs.drop a).take (b - a)).toArray) ∧ St g L ns vs led r h' ∧ St g L ns vs led h h' := by
  have hsl : sizeLine = 16777216 := sizeLine_eq
  refine ⟨fun tk Q hQ => e_sub (hv.run tk _ fun v h' tk' p => ?_)⟩
  obtain ⟨rfl, rfl⟩ := p
  refine wpAny_Slice (h1.run tk' _ fun vl h₁ tk₁ p => ?_)
  obtain ⟨⟨t1, rfl⟩, rfl⟩ := p
  refine h2.run tk₁ _ fun vu h₁ tk₂ p => ?_
  obtain ⟨⟨t2, rfl⟩, rfl⟩ := p
  refine wpAny_pure ?_
  have k1 : ∀ x o, h₁.get? x = some o → (h₁.push { cls := .type "slice", data := .fields #[.int (a : Int) t1, .int (b : Int) t2, .none] }).get? x = some o := fun x o e => Heap.get?_push_of_some _ e
  have it' : IsTup (h₁.push { cls := .type "slice", data := .fields #[.int (a : Int) t1, .int (b : Int) t2, .none] }) ta xs.toArray := IsTup.keeps it fun x o e => k1 x o e
  refine subscriptTail_ops (s := mk c.s (h₁.push { cls := .type "slice", data := .fields #[.int (a : Int) t1, .int (b : Int) t2, .none] }) tk₂) it'.typeIs slot_tuple_getitem.lookup (getItem_tuple_ab it' (Heap.IsSliceOf.new ..) ab (by simpa using bn) ?_ ?_ (by simp; omega)) (hs _) ht
  · exact hQ _ _ _ ⟨⟨_, rfl, ⟨_, Heap.get?_push_size _ rfl, rfl, _, rfl⟩⟩, S.keepAll fun b o e => Heap.get?_push_of_some _ (k1 b o e), S.re.keepAll fun b o e => Heap.get?_push_of_some _ (k1 b o e)⟩
  · intro a0 bl
    have e : (xs.drop a).take (b - a) = xs := by
      subst a0
      rw [List.drop_zero]
      exact List.take_of_length_le (by simp at bl; omega)
    exact hQ _ _ _ ⟨⟨ta, rfl, by rw [e]; exact it'⟩, S.keepAll k1, S.re.keepAll k1⟩

/-! ## _law_macro -/
def is9 (t : Option (Int × Int)) : Bool := decide (t.map (·.1) = some 9)
def idx9 (ps : List (Int × Int)) (n : Nat) : List Nat := (List.range n).filter fun i => is9 ps[i]?
def cutsF (ps : List (Int × Int)) : List Int := (-1 : Int) :: (idx9 ps ps.length).map (fun (i : Nat) => (i : Int)) ++ [(ps.length : Int)]
def delimF (ps : List (Int × Int)) (k : Nat) : List (Int × Int) :=
  match (cutsF ps)[k]?, (cutsF ps)[k + 1]? with
  | some a, some b => (ps.drop (a + 1).toNat).take (b.toNat - (a + 1).toNat)
  | _, _ => []
def delimsF (ps : List (Int × Int)) : List (List (Int × Int)) := (List.range (idx9 ps ps.length).length.succ).map (delimF ps)
/-- a tuple of tuples of tokens -/
inductive TTs (h : Heap) : List Value → List (List (Int × Int)) → Prop
  | nil : TTs h [] []
  | cons {b : Addr} {ts : List (Int × Int)} {xs : List Value} {tss : List (List (Int × Int))} : TT h b ts → TTs h xs tss → TTs h (Value.ref b :: xs) (ts :: tss)
def TTT (h : Heap) (a : Addr) (tss : List (List (Int × Int))) : Prop := ∃ ws : List Value, IsTup h a ws.toArray ∧ TTs h ws tss
theorem TT.mono {h h' : Heap} {a : Addr} {ts : List (Int × Int)} (t : TT h a ts) (k : TupK h h') : TT h' a ts := by
  obtain ⟨ws, it, tt⟩ := t
  obtain ⟨o, ho, hc2, n, hd⟩ := it
  exact ⟨ws, ⟨o, k _ _ ho ⟨hc2, _, _, hd⟩, hc2, n, hd⟩, tt.mono k⟩
theorem TTs.mono {h h' : Heap} {ws : List Value} {tss : List (List (Int × Int))} (t : TTs h ws tss) (k : TupK h h') : TTs h' ws tss := by
  induction t with
  | nil => exact .nil
  | cons t _ ih => exact .cons (t.mono k) ih
theorem TTs.snoc {h : Heap} {ws : List Value} {tss : List (List (Int × Int))} {b : Addr} {ts : List (Int × Int)} (t : TTs h ws tss) (x : TT h b ts) : TTs h (ws ++ [Value.ref b]) (tss ++ [ts]) := by
  induction t with
  | nil => exact .cons x .nil
  | cons t _ ih => exact .cons t ih
theorem TTs.length {h : Heap} {ws : List Value} {tss : List (List (Int × Int))} (t : TTs h ws tss) : ws.length = tss.length := by
  induction t with
  | nil => rfl
  | cons t _ ih => simp [ih]
theorem TTT.mono {h h' : Heap} {a : Addr} {tss : List (List (Int × Int))} (t : TTT h a tss) (k : TupK h h') : TTT h' a tss := by
  obtain ⟨ws, it, tt⟩ := t
  obtain ⟨o, ho, hc2, n, hd⟩ := it
  exact ⟨ws, ⟨o, k _ _ ho ⟨hc2, _, _, hd⟩, hc2, n, hd⟩, tt.mono k⟩
theorem idx9_succ (ps : List (Int × Int)) (n : Nat) : idx9 ps (n + 1) = idx9 ps n ++ (if is9 ps[n]? then [n] else []) := by
  unfold idx9
  rw [List.range_succ, List.filter_append]
  congr 1
  cases h : is9 ps[n]? <;> simp [h]
theorem idx9_mem {ps : List (Int × Int)} {n i : Nat} (h : i ∈ idx9 ps n) : i < n := List.mem_range.mp (List.mem_filter.mp h).1
theorem idx9_sorted (ps : List (Int × Int)) (n : Nat) : (idx9 ps n).Pairwise (· < ·) := List.Pairwise.filter _ List.pairwise_lt_range
theorem cuts_sorted (ps : List (Int × Int)) : (cutsF ps).Pairwise (· < ·) := by
  unfold cutsF
  rw [List.cons_append, List.pairwise_cons]
  refine ⟨fun a ha => ?_, List.pairwise_append.mpr ⟨?_, by simp, fun a ha b hb => ?_⟩⟩
  · rcases List.mem_append.mp ha with q | q
    · obtain ⟨i, _, rfl⟩ := List.mem_map.mp q; omega
    · rw [List.mem_singleton.mp q]; omega
  · exact List.Pairwise.map _ (fun a b h => by omega) (idx9_sorted ps ps.length)
  · obtain ⟨i, hi, rfl⟩ := List.mem_map.mp ha
    have := idx9_mem hi
    rw [List.mem_singleton.mp hb]; omega
theorem cuts_len (ps : List (Int × Int)) : (cutsF ps).length = (idx9 ps ps.length).length + 2 := by simp [cutsF]
theorem cuts_bound {ps : List (Int × Int)} {a : Int} (h : a ∈ cutsF ps) : -1 ≤ a ∧ a ≤ ps.length := by
  unfold cutsF at h
  rw [List.cons_append] at h
  rcases List.mem_cons.mp h with q | q
  · omega
  · rcases List.mem_append.mp q with q | q
    · obtain ⟨i, hi, rfl⟩ := List.mem_map.mp q
      have := idx9_mem hi; omega
    · rw [List.mem_singleton.mp q]; omega
theorem cuts_step {ps : List (Int × Int)} {k : Nat} {a b : Int} (h1 : (cutsF ps)[k]? = some a) (h2 : (cutsF ps)[k + 1]? = some b) : a < b := by
  obtain ⟨l1, e1⟩ := List.getElem?_eq_some_iff.mp h1
  obtain ⟨l2, e2⟩ := List.getElem?_eq_some_iff.mp h2
  have := List.pairwise_iff_getElem.mp (cuts_sorted ps) k (k + 1) l1 l2 (Nat.lt_succ_self k)
  rw [e1, e2] at this
  exact this
theorem bindL_locals {kindOf : Str → Option NameKind} : ∀ {b : List (Str × Value)} {m : Str → Option Value}, (∀ x ∈ b, kindOf x.1 = some .local) → bindL kindOf b m = fun x => (b.reverse.lookup x).or (m x)
  | [], m, _ => by funext x; simp [bindL]
  | (n, v) :: r, m, h => by
    unfold bindL
    rw [if_pos (h (n, v) (.head _)), bindL_locals fun x hx => h x (.tail _ hx)]
    funext x
    rw [List.reverse_cons, List.lookup_append, Option.or_assoc]
    congr 1
    rw [List.lookup_cons, List.lookup_nil]
    by_cases q : x = n
    · subst q; simp
    · rw [beq_eq_false_iff_ne.mpr q, if_neg q]; simp
theorem bindL_lkp {kindOf : Str → Option NameKind} {b : List (Str × Value)} (more : List Str) (nd : (b.map (·.1)).Nodup) (h : ∀ x ∈ b, kindOf x.1 = some .local) : bindL kindOf b (fun _ => none) = lkp (b.map (·.1) ++ more) (b.map (fun p => some p.2) ++ more.map fun _ => none) := by
  rw [bindL_locals h]
  funext x
  rw [lkp_binds, lookup_rev nd, Option.or_none]
theorem bindC_none {kindOf : Str → Option NameKind} : ∀ {b : List (Str × Value)} {m : Str → Option Value}, (∀ x ∈ b, kindOf x.1 = some .local) → bindC kindOf b m = m
  | [], _, _ => rfl
  | (n, v) :: r, m, h => by
    unfold bindC
    rw [if_pos (h (n, v) (.head _))]
    exact bindC_none fun x hx => h x (.tail _ hx)
def paramsF (ts : List (Int × Int)) (head : Nat) : List (Int × Int) := stretchF ts 0 9 (head + runF ts 0 head)
theorem ev_stretch {c : Cx} {L : Addr} {sn : List (Str × NameKind)} {mg mb : Str → Option Value} {g h : Heap} {D U : Nat} {ns : List Str} {vs : List (Option Value)} {led : List (Addr × Obj)} {r : Heap} {pos fp : Pos} {e1 e2 e3 e4 : Expr} {ta : Addr} {ts : List (Int × Int)} {b e : Nat} {s : Int} (C : Fc c L sn mg mb g D U) (hD : 2 ≤ D) (hU : 6 ≤ U) (S : St g L ns vs led r h) (k : Kd sn (Str.ofString "_law_stretch") .globalImplicit) (h1 : PV c h e1 (.ref ta)) (h2 : PI c h e2 b) (h3 : PI c h e3 e) (h4 : PI c h e4 s) (hT : TL h ta ts) (he : e ≤ ts.length) (hb : b ≤ 1000) (hz : ts.length < 1000)
    (he1 : ∀ es, starEach (e1 :: es) c.env = (false, eval e1 c.env) :: starEach es c.env) (he2 : ∀ es, starEach (e2 :: es) c.env = (false, eval e2 c.env) :: starEach es c.env) (he3 : ∀ es, starEach (e3 :: es) c.env = (false, eval e3 c.env) :: starEach es c.env) (he4 : ∀ es, starEach (e4 :: es) c.env = (false, eval e4 c.env) :: starEach es c.env) :
    EV c h (.Call (.Name (Str.ofString "_law_stretch") fp) [e1, e2, e3, e4] [] pos) fun v h' => (∃ a, v = .ref a ∧ TT h' a (stretchF ts b s (e - b))) ∧ St g L ns vs led r h' ∧ St g L ns vs led h h' := by
  refine ev_call (pv_glob C S k (gl_law_stretch _)) (fn_law_stretch _) C S (ea_cons (h1.mono ?_) (he1 _)) (he1 _)
  rintro v h₁ ⟨rfl, rfl⟩
  refine ea_cons (h2.mono ?_) (he2 _)
  rintro v h₁ ⟨⟨t2, rfl⟩, rfl⟩
  refine ea_cons (h3.mono ?_) (he3 _)
  rintro v h₁ ⟨⟨t3, rfl⟩, rfl⟩
  refine ea_cons (h4.mono ?_) (he4 _)
  rintro v h₁ ⟨⟨t4, rfl⟩, rfl⟩
  exact ea_nil ⟨S.F.keep, tr_spec (stretch_spec hT he hb hz) C S hD hU (by simp) fun h' v go post => ⟨post, S.after0 go, S.re.after0 go⟩⟩
theorem pi_neg {c : Cx} {h : Heap} {e : Expr} {pos : Pos} {i : Int} (q : PI c h e i) : PI c h (.UnaryOp .USub e pos) (-i) :=
  ⟨fun tk Q hQ => PyProof.Rows.UnaryOp_ (q.run tk _ fun v h' tk' p => by
    obtain ⟨⟨t, rfl⟩, rfl⟩ := p
    exact PyProof.Rows.neg_int (s := mk c.s h' tk') (hQ _ _ _ ⟨⟨_, rfl⟩, rfl⟩))⟩
theorem pk_titem {c : Cx} {h : Heap} {o ix : Expr} {pos : Pos} {i : Int} {pa : Addr} {ts : List (Int × Int)} {t : Int × Int} {j : Nat} (hv : PV c h o (.ref pa)) (hT : TT h pa ts) (hi : PI c h ix i) (hj : i = (j : Nat)) (hx : ts[j]? = some t) (hz : ts.length ≤ 1000)
    (hs : ∀ t, subscripted ix false (.ref pa) (.int i t) = operate [.ref pa, .int i t] (getItem (.ref pa) (.int i t))) : PK c h (.Subscript o ix pos) t := by
  obtain ⟨xs, it, tt⟩ := hT
  obtain ⟨w, hw, tw⟩ := tt.get hx
  have hxl := tt.length
  have hl : j < ts.length := by
    rcases Nat.lt_or_ge j ts.length with q | q
    · exact q
    · rw [List.getElem?_eq_none q] at hx; cases hx
  subst hj
  have e : seqIndex? (j : Int) xs.length = some j := by
    unfold seqIndex?
    have h1 : ¬ ((j : Int) < 0) := by omega
    have h2 : (0 : Int) ≤ (j : Int) := by omega
    have h3 : (j : Int) < (xs.length : Int) := by omega
    simp [h1, h2, h3]
  exact (pv_titem hv hi it (by omega) (by omega) e hw hs).mono fun v h' p => ⟨by rw [p.1]; exact tw, p.2⟩
/-- what _law_macro hands back -/
def MacPost (ts : List (Int × Int)) (head e : Nat) (h : Heap) (v : Value) : Prop :=
  Ex5 fun tp pa ba da t => v = .ref tp ∧ IsTup h tp [Value.ref pa, .ref ba, .ref da, .int ((idx9 (paramsF ts head) (paramsF ts head).length).length : Nat) t, .bool (decide (runF ts 0 head = 1))].toArray ∧
    TT h pa (paramsF ts head) ∧ TT h ba (stretchF ts (head + 1) 5 (e - (head + 1))) ∧ TTT h da (delimsF (paramsF ts head))
theorem macro_spec {w : World} {h : Heap} {ta : Addr} {ts : List (Int × Int)} {head e : Nat} {th te : Tok} (hT : TL h ta ts) (hh : head + runF ts 0 head ≤ ts.length) (he : e ≤ ts.length) (hz : ts.length < 1000) :
    Spec w 340 [.ref ta, .int head th, .int e te] [] 3 9 h fun h' v => MacPost ts head e h' v := by
  have hkl : ∀ (env : Env), env.scope.names.lookup (Str.ofString "tokens") = some .local → env.scope.names.lookup (Str.ofString "head") = some .local → env.scope.names.lookup (Str.ofString "end") = some .local → ∀ x ∈ [(Str.ofString "tokens", Value.ref ta), (Str.ofString "head", .int head th), (Str.ofString "end", .int e te)], env.kindOf x.1 = some .local := by
    intro env e1 e2 e3 x hx
    unfold Env.kindOf
    simp only [List.mem_cons, List.not_mem_nil, or_false] at hx
    rcases hx with rfl | rfl | rfl
    · exact e1
    · exact e2
    · exact e3
  refine spec_cells (D := 2) (U := 6) [(Str.ofString "tokens", .ref ta), (Str.ofString "head", .int head th), (Str.ofString "end", .int e te)] [Str.ofString "tokens", Str.ofString "head", Str.ofString "end", Str.ofString "braces", Str.ofString "delimiters"] [some (.ref ta), some (.int head th), some (.int e te), none, none] (fun _ => none) rfl (by kernel_rfl) rfl ?_ ?_ ?_ (by decide +kernel) (by decide +kernel) (by decide +kernel) (by simp) (by simp) ?_
  · intro x hx
    simp only [List.mem_cons, List.not_mem_nil, or_false] at hx
    rcases hx with rfl | rfl | rfl <;> exact .inl (by dsimp only; decide +kernel)
  · intro env hs
    refine bindL_lkp [Str.ofString "braces", Str.ofString "delimiters"] (by dsimp only [List.map]; decide +kernel) (hkl env ?_ ?_ ?_) <;> (rw [hs]; dsimp only; decide +kernel)
  · intro env hs
    refine bindC_none (hkl env ?_ ?_ ?_) <;> (rw [hs]; dsimp only; decide +kernel)
  intro c mg mb g h₁ L hw C hc hk hL hown hcm S
  dsimp only at C hc
  subst hw
  have hsl : sizeLine = 16777216 := sizeLine_eq
  have hc1 : c.env.cells = [(Str.ofString "cuts", L + 2), (Str.ofString "parameters", L + 1)] := by rw [hc]; rfl
  clear hc
  have hlp : c.env.cells.lookup (Str.ofString "parameters") = some (L + 1) := by rw [hc1]; rfl
  have hlc : c.env.cells.lookup (Str.ofString "cuts") = some (L + 2) := by rw [hc1]; rfl
  have hg : TL g ta ts := hT.keep fun b o e => hk b o (by simp) e
  obtain ⟨oc, hoc, S⟩ := S.addCell (hcm _ _ hlc) (Nat.ne_of_gt (Nat.lt_add_of_pos_right (by decide : 0 < 2))) (hL _ (by exact Nat.le_add_right _ _)).2 (by simp)
  obtain ⟨op, hop, S⟩ := S.addCell (hcm _ _ hlp) (Nat.succ_ne_self L) (hL _ (Nat.le_succ _)).2 (fun hm => Nat.succ_ne_self (L + 1) (List.mem_singleton.mp hm : L + 1 = L + 2).symm)
  clear hk hown hcm hT
  have hr := runF_le ts 0 head
  refine xs_assign (ns := [Str.ofString "tokens", Str.ofString "head", Str.ofString "end", Str.ofString "braces", Str.ofString "delimiters"]) (EV.mono (ev_run (b := 0) (p := head) C (by decide) (by decide) S (by (repeat' (first | exact Kd.head | apply Kd.tail))) (pv_loc C S (by (repeat' (first | exact Kd.head | apply Kd.tail))) (by (repeat' (first | exact Loc.head | apply Loc.tail)))) pi_const (pi_loc C S (by (repeat' (first | exact Kd.head | apply Kd.tail))) (by (repeat' (first | exact Loc.head | apply Loc.tail)))) (hg.keep S.F.keep) (by omega) hz (by decide) (fun _ => rfl) (fun _ => rfl) fun _ => rfl) ?_) C (by (repeat' (first | exact Kd.head | apply Kd.tail))) rfl
  rintro v h₂ ⟨⟨tb, rfl⟩, S1, _⟩
  refine ⟨g, _, _, h, _, S1, by (repeat' (first | exact SetL.head | apply SetL.tail)), fun h₃ S2 _ => ?_⟩
  clear S S1
  refine xs_assignC (ns := [Str.ofString "tokens", Str.ofString "head", Str.ofString "end", Str.ofString "braces", Str.ofString "delimiters"]) (EV.mono (ev_stretch (b := 0) (e := head + runF ts 0 head) (s := 9) C (by decide) (by decide) S2 (by (repeat' (first | exact Kd.head | apply Kd.tail))) (pv_loc C S2 (by (repeat' (first | exact Kd.head | apply Kd.tail))) (by (repeat' (first | exact Loc.head | apply Loc.tail)))) pi_const ((pi_add (pi_loc C S2 (by (repeat' (first | exact Kd.head | apply Kd.tail))) (by (repeat' (first | exact Loc.head | apply Loc.tail)))) (pi_loc C S2 (by (repeat' (first | exact Kd.head | apply Kd.tail))) (by (repeat' (first | exact Loc.head | apply Loc.tail))))).mono fun v h p => by simpa using p) pi_const (hg.keep S2.F.keep) hh (by decide) hz (fun _ => rfl) (fun _ => rfl) (fun _ => rfl) fun _ => rfl) ?_) C (by (repeat' (first | exact Kd.head | apply Kd.tail))) hlp rfl
  rintro v h₄ ⟨⟨pa, rfl, hpa⟩, S3, _⟩
  rw [Nat.sub_zero] at hpa
  refine ⟨_, _, _, op, _, _, S3, .head, hop, fun o2 h₅ hd2 S4 S4' => ?_⟩
  clear S2 S3 hop
  have hP : TT h₅ pa (paramsF ts head) := by
    obtain ⟨ws, it, tt⟩ := hpa
    obtain ⟨o, ho, hc2, n, hd⟩ := it
    exact ⟨ws, ⟨o, S4'.go.T _ _ ho ⟨hc2, _, _, hd⟩, hc2, n, hd⟩, tt.mono S4'.go.T⟩
  clear S4' hpa
  generalize hps : paramsF ts head = ps at hP
  have hpl : ps.length ≤ 1000 := by
    rw [← hps]
    have := stretchF_len ts 0 9 (head + runF ts 0 head)
    show (stretchF ts 0 9 (head + runF ts 0 head)).length ≤ _
    omega
  refine xs_assignC (ns := [Str.ofString "tokens", Str.ofString "head", Str.ofString "end", Str.ofString "braces", Str.ofString "delimiters"]) (ev_binG (EV.mono (P := fun v h' => Ex3 fun a xs n => v = .ref a ∧ IV xs ((-1 : Int) :: (idx9 ps ps.length).map (fun (i : Nat) => (i : Int))) ∧ TupK h₅ h' ∧ St g L [Str.ofString "tokens", Str.ofString "head", Str.ofString "end", Str.ofString "braces", Str.ofString "delimiters"] [some (.ref ta), some (.int head th), some (.int e te), some (.int (runF ts 0 head) tb), none] [(a, listOf xs.toArray n), (L + 1, o2), (L + 2, oc)] h h') (ev_binG (EV.mono (P := fun v h' => Ex2 fun a t => v = .ref a ∧ h.get? a = none ∧ TupK h₅ h' ∧ St g L [Str.ofString "tokens", Str.ofString "head", Str.ofString "end", Str.ofString "braces", Str.ofString "delimiters"] [some (.ref ta), some (.int head th), some (.int e te), some (.int (runF ts 0 head) tb), none] [(a, listOf [.int (-1) t].toArray 0), (L + 1, o2), (L + 2, oc)] h h') (ev_list (ea_cons (EV.mono (pi_neg pi_const) ?_) rfl)) ?_)) ?_)) C (by (repeat' (first | exact Kd.head | apply Kd.tail))) hlc rfl
  · rintro v h₆ ⟨⟨t, rfl⟩, rfl⟩
    refine ea_nil ⟨_, _, _, _, _, _, S4, by simp [hsl], fun a h₇ na S5 S6 => ⟨a, t, rfl, S4.go.D _ na, S6.go.T, S5⟩⟩
  · rintro v h₆ ⟨a, t, rfl, na, k6, S5⟩
    have hP6 : TT h₆ pa ps := by
      obtain ⟨ws, it, tt⟩ := hP
      obtain ⟨o, ho, hc2, n, hd⟩ := it
      exact ⟨ws, ⟨o, k6 _ _ ho ⟨hc2, _, _, hd⟩, hc2, n, hd⟩, tt.mono k6⟩
    obtain ⟨ws, it, tt⟩ := hP6
    have hwl := tt.length
    refine EV.mono (P := fun v h' => Ex3 fun b ys m => v = .ref b ∧ h₆.get? b = none ∧ IV ys ((idx9 ps ps.length).map (fun (i : Nat) => (i : Int))) ∧ TupK h₅ h' ∧ St g L [Str.ofString "tokens", Str.ofString "head", Str.ofString "end", Str.ofString "braces", Str.ofString "delimiters"] [some (.ref ta), some (.int head th), some (.int e te), some (.int (runF ts 0 head) tb), none] [(b, listOf ys.toArray m), (a, listOf [.int (-1) t].toArray 0), (L + 1, o2), (L + 2, oc)] h h') (ev_comp (L := L) (snc := [(Str.ofString ".0", .local), (Str.ofString "place", .local), (Str.ofString "parameters", .cell)]) (nsc := [Str.ofString "place"]) (cl := [(Str.ofString "parameters", L + 1)]) (vz := fun z => [z]) C ⟨relab C (by decide +kernel), by decide +kernel, by decide +kernel, by decide +kernel, rfl, by decide +kernel, rfl, fun z v => .head, by (repeat' (first | exact Kd.head | apply Kd.tail)), ?_, by decide +kernel⟩ (fun _ => rfl) (EV.mono (ev_range1 (P := fun k h' => k = (ps.length : Int) ∧ h' = h₆) C S5 (by (repeat' (first | exact Kd.head | apply Kd.tail))) (EV.mono (ev_lenT C S5 (by (repeat' (first | exact Kd.head | apply Kd.tail))) (pv_cell C S5 (by (repeat' (first | exact Kd.head | apply Kd.tail))) hlp (.tail _ (.head _)) hd2) it (by omega) rfl) ?_) rfl) ?_)) ?_
    · unfold closureFor cellOf
      rw [hc1]; rfl
    · rintro v h₇ ⟨⟨t3, rfl⟩, rfl⟩
      exact ⟨_, t3, rfl, by rw [hwl], rfl⟩
    · rintro v h₇ ⟨_, _, rr, t4, u4, w4, rfl, ⟨rfl, rfl⟩, hr4, kp⟩
      have S7 := S5.keepAll kp
      have hP7 : TT h₇ pa ps := TT.keep ⟨ws, it, tt⟩ kp
      refine tr_compQ C S7 (src_range C.hh hr4 (rng0 (by omega))) (by omega) (fun i ys _ => IV ys ((idx9 ps i).map fun (i : Nat) => (i : Int))) .nil (fun _ _ _ _ y _ => y) ?_ ?_
      · rintro i v ys m Dd h₈ Ca g' hi ⟨tv, rfl⟩ Fi kg S8 y hl
        have hip : i < ps.length := by omega
        obtain ⟨t', ht'⟩ : ∃ t', ps[i]? = some t' := ⟨_, List.getElem?_eq_getElem hip⟩
        have hP8 : TT h₈ pa ps := hP7.keep fun b o e => S8.F.keep _ _ (kg b o e)
        refine te_pt (pt_eq (pi_k0 (pk_titem (j := i) (pv_cellH Fi (by (repeat' (first | exact Kd.head | apply Kd.tail))) rfl ⟨o2, S8.F.keep _ _ (kg _ _ (S7.N _ (.tail _ (.head _))).1), hd2⟩) hP8 (pi_loc Fi S8 (by (repeat' (first | exact Kd.head | apply Kd.tail))) (by (repeat' (first | exact Loc.head | apply Loc.tail)))) (by omega) ht' hpl (fun _ => by with_unfolding_all rfl))) pi_const rfl) ?_
        by_cases q : t'.1 = 9
        · rw [if_pos (decide_eq_true q)]
          refine EV.mono (pv_loc Fi S8 (by (repeat' (first | exact Kd.head | apply Kd.tail))) (by (repeat' (first | exact Loc.head | apply Loc.tail)))) ?_
          rintro v2 h₉ ⟨rfl, rfl⟩
          refine ⟨S8, ?_⟩
          have e9 : is9 ps[i]? = true := by unfold is9; rw [ht']; simp [q]
          rw [idx9_succ, e9, if_pos rfl, List.map_append, Int.zero_add]
          exact y.snoc _ _
        · rw [if_neg (by simpa using q)]
          refine ⟨S8, ?_⟩
          have e9 : is9 ps[i]? = false := by unfold is9; rw [ht']; simp [q]
          rw [idx9_succ, e9, if_neg (by decide), List.append_nil]
          exact y
      · rintro Dd Ca h' ys m S8 S9 nD ab hl y
        have en : ((ps.length : Int) - 0).toNat = ps.length := n0 _
        rw [en] at y
        exact ⟨Dd, ys, m, rfl, (none_at nD kp), y, (k6.trans fun a o e _ => kp a o e).trans S9.go.T, S8⟩
    · rintro v h₇ ⟨b, ys, m, rfl, nb, iv, k7, S6⟩
      have il := iv.length
      have i9 : (idx9 ps ps.length).length ≤ ps.length := Nat.le_trans (List.length_filter_le _ _) (by simp)
      rw [List.length_map] at il
      refine ⟨fun tk Q hQ => o_cat S6.re (isL (S6.N _ (.tail _ (.head _))).1) (isL (S6.N _ (.head _)).1) (by simp; omega) fun l h' tk' hn S' => hQ _ _ _ ⟨l, .int (-1) t :: ys, 0, rfl, .cons iv, k7.trans S'.go.T, ?_⟩⟩
      refine (S6.then S' fun _ h => List.mem_cons_of_mem _ h).dropNew (.cons_cons _ (.cons _ (.cons _ (.refl _)))) fun x hx => ?_
      rcases List.mem_cons.mp hx with q | q
      · exact .inl (q ▸ List.mem_cons_self)
      · rcases List.mem_cons.mp q with q | q
        · exact .inr (q ▸ S5.go.D _ nb)
        · rcases List.mem_cons.mp q with q | q
          · exact .inr (q ▸ na)
          · exact .inl (List.mem_cons_of_mem _ q)
  · rintro v h₆ ⟨a, xs, n, rfl, iv, k6, S5⟩
    have hP6 : TT h₆ pa ps := by
      obtain ⟨ws, it, tt⟩ := hP
      obtain ⟨o, ho, hc2, n, hd⟩ := it
      exact ⟨ws, ⟨o, k6 _ _ ho ⟨hc2, _, _, hd⟩, hc2, n, hd⟩, tt.mono k6⟩
    obtain ⟨ws, it, tt⟩ := hP6
    have hwl := tt.length
    have il := iv.length
    have i9 : (idx9 ps ps.length).length ≤ ps.length := Nat.le_trans (List.length_filter_le _ _) (by simp)
    rw [List.length_cons, List.length_map] at il
    refine ev_list (ea_cons (EV.mono (ev_lenT C S5 (by (repeat' (first | exact Kd.head | apply Kd.tail))) (pv_cell C S5 (by (repeat' (first | exact Kd.head | apply Kd.tail))) hlp (.tail _ (.head _)) hd2) it (by omega) rfl) ?_) rfl)
    rintro v h₇ ⟨⟨t3, rfl⟩, rfl⟩
    refine ea_nil ⟨_, _, _, _, _, _, S5, by simp [hsl], fun b h₈ nb S6 S7 => ?_⟩
    refine ⟨fun tk Q hQ => o_cat S7.re (isL (S7.N _ (.tail _ (.head _))).1) (isL (S7.N _ (.head _)).1) (by simp; omega) fun l h' tk' hn S' => hQ _ _ _ ?_⟩
    have S8 := (S6.then S' fun _ h => List.mem_cons_of_mem _ h)
    refine ⟨_, _, h, oc, _, none, S8, .tail (.tail (.tail (.tail .head))), hoc, fun o3 h₉ hd3 S9 S9' => ?_⟩
    have kk := k6.trans (S7.go.T.trans (S'.go.T.trans S9'.go.T))
    have hcut : IV (xs ++ [Value.int ws.length t3]) (cutsF ps) := by
      have := iv.snoc (ws.length : Int) t3
      rw [hwl] at this ⊢
      exact this
    have hP9 : TT h₉ pa ps := by
      obtain ⟨ws, it, tt⟩ := hP
      obtain ⟨o, ho, hc2, n, hd⟩ := it
      exact ⟨ws, ⟨o, kk _ _ ho ⟨hc2, _, _, hd⟩, hc2, n, hd⟩, tt.mono kk⟩
    have S10 : St g L [Str.ofString "tokens", Str.ofString "head", Str.ofString "end", Str.ofString "braces", Str.ofString "delimiters"] [some (.ref ta), some (.int head th), some (.int e te), some (.int (runF ts 0 head) tb), none] [(l, listOf (xs ++ [Value.int ws.length t3]).toArray 0), (b, listOf [Value.int ws.length t3].toArray 0), (a, listOf xs.toArray n), (L + 1, o2), (L + 2, o3)] h h₉ := S9
    generalize xs ++ [Value.int ws.length t3] = zs at hcut S10
    clear S9 S9' S8 S7 S6 S5 S4 S' iv hP k6 kk it tt hwl
    have il := hcut.length
    have cl := cuts_len ps
    have i9 : (idx9 ps ps.length).length ≤ ps.length := Nat.le_trans (List.length_filter_le _ _) (by simp)
    refine xs_assign (ns := [Str.ofString "tokens", Str.ofString "head", Str.ofString "end", Str.ofString "braces", Str.ofString "delimiters"]) (ev_tupleL C S10 (by (repeat' (first | exact Kd.head | apply Kd.tail))) (EV.mono (P := fun v h' => Ex3 fun Dd ys m => v = .ref Dd ∧ TTs h' ys (delimsF ps) ∧ TupK h₉ h' ∧ St g L [Str.ofString "tokens", Str.ofString "head", Str.ofString "end", Str.ofString "braces", Str.ofString "delimiters"] [some (.ref ta), some (.int head th), some (.int e te), some (.int (runF ts 0 head) tb), none] [(Dd, listOf ys.toArray m), (l, listOf zs.toArray 0), (b, listOf [Value.int ws.length t3].toArray 0), (a, listOf xs.toArray n), (L + 1, o2), (L + 2, o3)] h h') (ev_comp (L := L) (snc := [(Str.ofString ".0", .local), (Str.ofString "k", .local), (Str.ofString "cuts", .cell), (Str.ofString "parameters", .cell)]) (nsc := [Str.ofString "k"]) (cl := [(Str.ofString "parameters", L + 1), (Str.ofString "cuts", L + 2)]) (vz := fun z => [z]) C ⟨relab C (by decide +kernel), by decide +kernel, by decide +kernel, by decide +kernel, rfl, by decide +kernel, rfl, fun z v => .head, by (repeat' (first | exact Kd.head | apply Kd.tail)), ?_, by decide +kernel⟩ (fun _ => rfl) (EV.mono (ev_range1 (P := fun k h' => k = ((idx9 ps ps.length).length.succ : Int) ∧ h' = h₉) C S10 (by (repeat' (first | exact Kd.head | apply Kd.tail))) (EV.mono (pi_sub (ev_len C S10 (by (repeat' (first | exact Kd.head | apply Kd.tail))) (pv_cell C S10 (by (repeat' (first | exact Kd.head | apply Kd.tail))) hlc (by (repeat' (first | exact List.Mem.head _ | apply List.Mem.tail))) hd3) (isL (S10.N _ (.head _)).1) (by omega) rfl) pi_const) ?_) rfl) ?_)) ?_) rfl) C (by (repeat' (first | exact Kd.head | apply Kd.tail))) rfl
    · unfold closureFor cellOf
      rw [hc1]; rfl
    · rintro v h' ⟨⟨t4, rfl⟩, rfl⟩
      exact ⟨_, t4, rfl, by omega, rfl⟩
    · rintro v h' ⟨_, _, rr, t4, u4, w4, rfl, ⟨rfl, rfl⟩, hr4, kp⟩
      have S11 := S10.keepAll kp
      have hP11 : TT h' pa ps := hP9.keep kp
      refine tr_compQ C S11 (src_range C.hh hr4 (rng0 (by omega))) (by omega) (fun i ys h => TTs h ys ((List.range i).map (delimF ps))) .nil (fun _ _ _ _ y k => y.mono k) ?_ ?_
      · rintro i v ys m Dd h₁₀ Ca g' hi ⟨tv, rfl⟩ Fi kg S12 y hlen
        obtain ⟨ca, hca⟩ : ∃ x, (cutsF ps)[i]? = some x := ⟨_, List.getElem?_eq_getElem (by omega)⟩
        obtain ⟨cb, hcb⟩ : ∃ x, (cutsF ps)[i + 1]? = some x := ⟨_, List.getElem?_eq_getElem (by omega)⟩
        have hab := cuts_step hca hcb
        have hba := cuts_bound (List.mem_of_getElem? hca)
        have hbb := cuts_bound (List.mem_of_getElem? hcb)
        obtain ⟨ua, hwa⟩ := hcut.get hca
        obtain ⟨ub, hwb⟩ := hcut.get hcb
        have hk : ∀ b o, h'.get? b = some o → h₁₀.get? b = some o := fun b o e => S12.F.keep _ _ (kg _ _ e)
        obtain ⟨ws2, it2, tt2⟩ := hP11.keep hk
        have hl2 : h₁₀.get? l = some (listOf zs.toArray 0) := hk _ _ (S11.N _ (.head _)).1
        have pcut : ∀ {p}, PV (inC c _ [(Str.ofString "parameters", L + 1), (Str.ofString "cuts", L + 2)] Ca) h₁₀ (.Name (Str.ofString "cuts") p) (.ref l) := fun {p} => pv_cellH Fi (by (repeat' (first | exact Kd.head | apply Kd.tail))) rfl ⟨o3, hk _ _ (S11.N (L + 2, o3) (by (repeat' (first | exact List.Mem.head _ | apply List.Mem.tail)))).1, hd3⟩
        have pki : ∀ {p}, PI (inC c _ [(Str.ofString "parameters", L + 1), (Str.ofString "cuts", L + 2)] Ca) h₁₀ (.Name (Str.ofString "k") p) ((0 : Int) + i) := fun {p} => pi_loc Fi S12 (by (repeat' (first | exact Kd.head | apply Kd.tail))) (by (repeat' (first | exact Loc.head | apply Loc.tail)))
        refine EV.mono (ev_tslice (a := (ca + 1).toNat) (b := cb.toNat) S12 (pv_cellH Fi (by (repeat' (first | exact Kd.head | apply Kd.tail))) rfl ⟨o2, hk _ _ (S11.N (L + 1, o2) (by (repeat' (first | exact List.Mem.head _ | apply List.Mem.tail)))).1, hd2⟩) ((pi_add (pi_item (j := ca) (t := ua) pcut pki hl2 (by omega) (by omega) (by rw [← hwa]; congr 1; omega) (fun t => by with_unfolding_all rfl)) pi_const).mono fun v h p => ?_) ((pi_item (j := cb) (t := ub) pcut (pi_add pki pi_const) hl2 (by omega) (by omega) (by rw [← hwb]; congr 1; omega) (fun t => by with_unfolding_all rfl)).mono fun v h p => ?_) it2 (by omega) (by have := tt2.length; omega) (by have := tt2.length; omega) (fun x => by with_unfolding_all rfl) (fun r => by with_unfolding_all rfl)) ?_
        · have e1 : ((ca + 1).toNat : Int) = ca + 1 := by omega
          rw [e1]; exact p
        · have e1 : (cb.toNat : Int) = cb := by omega
          rw [e1]; exact p
        · rintro v h₁₁ ⟨⟨d, rfl, itd⟩, S13, S14⟩
          refine ⟨S13, ?_⟩
          rw [List.range_succ, List.map_append, List.map_singleton]
          refine (y.mono S14.go.T).snoc ⟨_, itd, ?_⟩
          unfold delimF
          rw [hca, hcb]
          exact ((tt2.drop _).take _).mono S14.go.T
      · intro Dd Ca h' ys m S12 S13 nD ab hl2 y
        have en : (((idx9 ps ps.length).length.succ : Int) - 0).toNat = (idx9 ps ps.length).length.succ := n0 _
        rw [en] at y
        exact ⟨Dd, ys, m, rfl, y, fun a o e t => S13.go.T _ _ (kp _ _ e) t, S12⟩
    · rintro v h₁₀ ⟨Dd, ys, m, rfl, hys, k10, S11⟩
      have hyl := hys.length
      rw [delimsF, List.length_map, List.length_range] at hyl
      refine ⟨Dd, ys, _, _, _, _, _, _, rfl, isL (S11.N _ (.head _)).1, by omega, S11, fun da h₁₁ nd itd S12 S13 => ?_⟩
      have hD : TTT h₁₁ da (delimsF ps) := ⟨ys, itd, hys.mono S13.go.T⟩
      have hP11 : TT h₁₁ pa ps := (hP9.mono k10).mono S13.go.T
      refine ⟨g, _, _, _, _, S12, by (repeat' (first | exact SetL.head | apply SetL.tail)), fun h₁₂ S14 S15 => ?_⟩
      have hD := hD.mono S15.go.T
      have hP12 := hP11.mono S15.go.T
      clear hP9 hP11 S13 S12 S11 S10 k10 hys itd nd S15
      refine xs_ret (ev_tuple (ea_cons (EV.mono (pv_cell C S14 (by (repeat' (first | exact Kd.head | apply Kd.tail))) hlp (by (repeat' (first | exact List.Mem.head _ | apply List.Mem.tail))) hd2) ?_) rfl))
      rintro v h' ⟨rfl, rfl⟩
      refine ea_cons (EV.mono (ev_stretch (b := head + 1) (e := e) (s := 5) C (by decide) (by decide) S14 (by (repeat' (first | exact Kd.head | apply Kd.tail))) (pv_loc C S14 (by (repeat' (first | exact Kd.head | apply Kd.tail))) (by (repeat' (first | exact Loc.head | apply Loc.tail)))) ((pi_add (pi_loc C S14 (by (repeat' (first | exact Kd.head | apply Kd.tail))) (by (repeat' (first | exact Loc.head | apply Loc.tail)))) pi_const).mono fun v h p => by simpa using p) (pi_loc C S14 (by (repeat' (first | exact Kd.head | apply Kd.tail))) (by (repeat' (first | exact Loc.head | apply Loc.tail)))) pi_const (hg.keep S14.F.keep) he (by omega) hz (fun _ => rfl) (fun _ => rfl) (fun _ => rfl) fun _ => rfl) ?_) rfl
      rintro v h₁₃ ⟨⟨ba, rfl, hba⟩, S16, S17⟩
      have hD := hD.mono S17.go.T
      have hP13 := hP12.mono S17.go.T
      clear S14 S17 hP12
      refine ea_cons (EV.mono (pv_loc C S16 (by (repeat' (first | exact Kd.head | apply Kd.tail))) (by (repeat' (first | exact Loc.head | apply Loc.tail)))) ?_) rfl
      rintro v h' ⟨rfl, rfl⟩
      refine ea_cons (EV.mono (pi_sub (ev_len C S16 (by (repeat' (first | exact Kd.head | apply Kd.tail))) (pv_cell C S16 (by (repeat' (first | exact Kd.head | apply Kd.tail))) hlc (by (repeat' (first | exact List.Mem.head _ | apply List.Mem.tail))) hd3) (isL (S16.N _ (.tail _ (.head _))).1) (by omega) rfl) pi_const) ?_) rfl
      rintro v h' ⟨⟨tq, rfl⟩, rfl⟩
      refine ea_cons (EV.mono (pb_eq (pi_loc C S16 (by (repeat' (first | exact Kd.head | apply Kd.tail))) (by (repeat' (first | exact Loc.head | apply Loc.tail)))) pi_const rfl) ?_) rfl
      rintro v h' ⟨rfl, rfl⟩
      refine ea_nil ⟨_, _, _, _, _, _, S16, by simp [hsl], fun tp h₁₄ nt itp S18 S19 => ⟨S18.fin, tp, pa, ba, da, tq, rfl, ?_, ?_, ?_, ?_⟩⟩
      · have e1 : (zs.length : Int) - 2 = ((idx9 ps ps.length).length : Nat) := by omega
        have e2 : decide ((runF ts 0 head : Int) = 1) = decide (runF ts 0 head = 1) := decide_eq_decide.mpr (by omega)
        rw [e1, e2] at itp
        rw [hps]; exact itp
      · rw [hps]; exact hP13.mono S19.go.T
      · exact hba.mono S19.go.T
      · rw [hps]; exact hD.mono S19.go.T

/-! ## _law_judged -/
def isK (k : Int) (t : Option (Int × Int)) : Bool := decide (t.map (·.1) = some k)
def leftsTo (ts : List (Int × Int)) (n : Nat) : List Nat := (List.range n).filter fun i => isK 1 ts[i]?
def leftsF (ts : List (Int × Int)) : List Nat := leftsTo ts ts.length ++ [ts.length]
def headF (ts : List (Int × Int)) : Nat := (leftsF ts).headD 0
def rightsTo (ts : List (Int × Int)) (l0 n : Nat) : List Nat := ((List.range n).map (l0 + ·)).filter fun i => isK 2 ts[i]?
def rightsF (ts : List (Int × Int)) : List Nat := rightsTo ts (headF ts) (ts.length - headF ts)
def endsTo (ls rs : List Nat) (n : Nat) : List Nat := ((List.range n).filter fun j => decide (rs.getD j 0 < ls.getD (min (j + 1) (ls.length - 1)) 0)).map fun j => rs.getD j 0
def endsF (ts : List (Int × Int)) : List Nat := endsTo (leftsF ts) (rightsF ts) (rightsF ts).length
def lastF (ts : List (Int × Int)) : Nat := ((endsF ts).take 1 ++ [ts.length]).headD 0
def wrongAt (ts os : List (Int × Int)) (head p : Nat) : Str := match ts[p]? with | some t => wrongF ts os head p t | none => Str.ofString ""
def faultsTo (ts os : List (Int × Int)) (n : Nat) : List Nat := (List.range n).filter fun p => decide (wrongAt ts os (headF ts) p ≠ Str.ofString "")
def faultsF (ts os : List (Int × Int)) : List Nat := faultsTo ts os (min (lastF ts + 1) ts.length)
def judgedF (ts os : List (Int × Int)) : Nat × Str × Nat :=
  match faultsF ts os with
  | f :: _ => (f, wrongAt ts os (headF ts) f, headF ts)
  | [] => (lastF ts, if endsF ts ≠ [] then Str.ofString "well" else Str.ofString "open", headF ts)
/-- naturals as values -/
def NV (xs : List Value) (ns : List Nat) : Prop := IV xs (ns.map fun (i : Nat) => (i : Int))
theorem NV.snoc {xs : List Value} {ns : List Nat} (q : NV xs ns) (i : Nat) (t : Tok) : NV (xs ++ [.int (i : Int) t]) (ns ++ [i]) := by
  have := IV.snoc q (i : Int) t
  unfold NV
  rw [List.map_append]; exact this
theorem NV.get {xs : List Value} {ns : List Nat} (q : NV xs ns) {k i : Nat} (h : ns[k]? = some i) : ∃ t, xs[k]? = some (.int (i : Int) t) := IV.get q (by rw [List.getElem?_map, h]; rfl)
theorem NV.length {xs : List Value} {ns : List Nat} (q : NV xs ns) : xs.length = ns.length := by have := IV.length q; rwa [List.length_map] at this
theorem filter_snoc (p : Nat → Bool) (n : Nat) : (List.range (n + 1)).filter p = (List.range n).filter p ++ (if p n then [n] else []) := by
  rw [List.range_succ, List.filter_append]
  congr 1
  cases h : p n <;> simp [h]
theorem rights_snoc (ts : List (Int × Int)) (l0 n : Nat) : rightsTo ts l0 (n + 1) = rightsTo ts l0 n ++ (if isK 2 ts[l0 + n]? then [l0 + n] else []) := by
  unfold rightsTo
  rw [List.range_succ, List.map_append, List.filter_append]
  congr 1
  cases h : isK 2 ts[l0 + n]? <;> simp [h]
theorem ends_snoc (ls rs : List Nat) (n : Nat) : endsTo ls rs (n + 1) = endsTo ls rs n ++ (if rs.getD n 0 < ls.getD (min (n + 1) (ls.length - 1)) 0 then [rs.getD n 0] else []) := by
  unfold endsTo
  rw [filter_snoc, List.map_append]
  congr 1
  by_cases h : rs.getD n 0 < ls.getD (min (n + 1) (ls.length - 1)) 0
  · rw [if_pos h, if_pos (decide_eq_true h)]; rfl
  · rw [if_neg h, if_neg (by simpa using h)]; rfl
theorem lefts_le {ts : List (Int × Int)} {n i : Nat} (h : i ∈ leftsTo ts n) : i < n := List.mem_range.mp (List.mem_filter.mp h).1
theorem leftsF_le {ts : List (Int × Int)} {i : Nat} (h : i ∈ leftsF ts) : i ≤ ts.length := by
  rcases List.mem_append.mp h with q | q
  · exact Nat.le_of_lt (lefts_le q)
  · rw [List.mem_singleton.mp q]; exact Nat.le_refl _
theorem leftsF_len (ts : List (Int × Int)) : 1 ≤ (leftsF ts).length ∧ (leftsF ts).length ≤ ts.length + 1 := by
  have : (leftsTo ts ts.length).length ≤ ts.length := Nat.le_trans (List.length_filter_le _ _) (by simp)
  unfold leftsF
  rw [List.length_append, List.length_singleton]; omega
theorem headF_get (ts : List (Int × Int)) : (leftsF ts)[0]? = some (headF ts) := by
  have := (leftsF_len ts).1
  unfold headF
  cases h : leftsF ts with
  | nil => rw [h] at this; simp at this
  | cons a l => rfl
theorem headF_le (ts : List (Int × Int)) : headF ts ≤ ts.length := leftsF_le (List.mem_of_getElem? (headF_get ts))
theorem rights_lt {ts : List (Int × Int)} {l0 n i : Nat} (h : i ∈ rightsTo ts l0 n) : l0 ≤ i ∧ i < l0 + n := by
  obtain ⟨j, hj, rfl⟩ := List.mem_map.mp (List.mem_filter.mp h).1
  have := List.mem_range.mp hj
  omega
theorem rightsF_len (ts : List (Int × Int)) : (rightsF ts).length ≤ ts.length := by
  unfold rightsF rightsTo
  exact Nat.le_trans (List.length_filter_le _ _) (by simp)
theorem ends_mem {ls rs : List Nat} {n i : Nat} (h : i ∈ endsTo ls rs n) (hn : n ≤ rs.length) : i ∈ rs := by
  obtain ⟨j, hj, rfl⟩ := List.mem_map.mp h
  have := List.mem_range.mp (List.mem_filter.mp hj).1
  rw [List.getD_eq_getElem?_getD, List.getElem?_eq_getElem (by omega)]
  exact List.getElem_mem _
theorem endsF_lt {ts : List (Int × Int)} {i : Nat} (h : i ∈ endsF ts) : i < ts.length := by
  have := rights_lt (ends_mem h (Nat.le_refl _))
  have := headF_le ts
  omega
theorem endsF_len (ts : List (Int × Int)) : (endsF ts).length ≤ ts.length := by
  unfold endsF endsTo
  rw [List.length_map]
  exact Nat.le_trans (List.length_filter_le _ _) (by simpa using rightsF_len ts)
theorem lastF_le (ts : List (Int × Int)) : lastF ts ≤ ts.length := by
  unfold lastF
  cases h : endsF ts with
  | nil => exact Nat.le_refl _
  | cons a l =>
    have : a ∈ endsF ts := by rw [h]; exact .head _
    exact Nat.le_of_lt (endsF_lt this)
section
variable {c : Cx} {L : Addr} {sn : List (Str × NameKind)} {mg mb : Str → Option Value} {g h : Heap} {D U : Nat} {ns : List Str} {vs : List (Option Value)} {led : List (Addr × Obj)} {r : Heap} {pos fp : Pos} {e e1 e2 e3 e4 : Expr} {P : Value → Heap → Prop}
/-- min of a list of naturals -/
theorem ev_minN (C : Fc c L sn mg mb g D U) (S : St g L ns vs led r h) (k : Kd sn (Str.ofString "min") .globalImplicit) (q : EV c h e fun v h₁ => Ex3 fun (la : Addr) (xs : List Value) (is : List Nat) => v = .ref la ∧ h₁.IsList la xs.toArray ∧ NV xs is ∧ 0 < is.length ∧ ∀ (m : Nat) t h₂, m ∈ is → (∀ a ∈ is, m ≤ a) → (∀ b o, h₁.get? b = some o → h₂.get? b = some o) → P (.int (m : Int) t) h₂)
    (he : starEach [e] c.env = (false, eval e c.env) :: starEach [] c.env) : EV c h (.Call (.Name (Str.ofString "min") fp) [e] [] pos) P :=
  ⟨fun tk Q hQ => Call_ ((pv_bi C S k (gl_min _) (by boot_fast) (by decide)).run tk _ fun v h' tk' p => by
    obtain ⟨rfl, rfl⟩ := p
    refine PyProof.Rows.callWith_builtin1 ?_ he
    refine spliced_more (he := he) (q.run tk' _ fun v h₁ tk₁ p => spliced_none ?_)
    obtain ⟨la, xs, is, rfl, hl, iv, hne, kk⟩ := p
    obtain ⟨ys, ey⟩ := IV.items iv
    rw [← ey] at hl
    have hns : is.map (fun (i : Nat) => (i : Int)) = ys.toList.map (·.1) := by
      have e2 : xs = ys.toList.map fun p => Value.int p.1 p.2 := by
        have := congrArg Array.toList ey
        simpa [intItems] using this.symm
      clear hl ey hQ kk hne
      generalize ys.toList = zs at e2
      unfold NV at iv
      generalize (is.map fun (i : Nat) => (i : Int)) = js at iv
      induction iv generalizing zs with
      | nil =>
        cases zs with
        | nil => rfl
        | cons _ _ => cases e2
      | @cons i t xs is iv ih =>
        cases zs with
        | nil => cases e2
        | cons z zs =>
          rw [List.map_cons] at e2 ⊢
          obtain ⟨e3, e4⟩ := List.cons.inj e2
          cases e3
          rw [ih zs e4]
    have hsz : 0 < ys.size := by
      have := congrArg List.length hns
      rw [List.length_map, List.length_map] at this
      rw [← Array.length_toList]
      omega
    refine min_intList (s := mk c.s h₁ tk₁) C.hh hl hsz fun v h' tk hv hk => ?_
    obtain ⟨t, rfl⟩ := intItems_at hv
    obtain ⟨b1, b2⟩ := argBest_lt (numAt ys) (ys.size - 1)
    have hm : numAt ys (argBest (fun i j => decide (numAt ys i < numAt ys j)) (ys.size - 1)) ∈ ys.toList.map (·.1) := by
      rw [numAt_eq]; exact getD_mem (by rw [List.length_map, Array.length_toList]; omega)
    rw [← hns] at hm
    obtain ⟨m, hmm, hme⟩ := List.mem_map.mp hm
    have hme : (m : Int) = numAt ys (argBest (fun i j => decide (numAt ys i < numAt ys j)) (ys.size - 1)) := hme
    rw [← hme] at b2 ⊢
    refine hQ _ h' tk (kk m t h' hmm (fun a ha => ?_) hk)
    have : (a : Int) ∈ ys.toList.map (·.1) := hns ▸ List.mem_map_of_mem (f := fun (i : Nat) => (i : Int)) ha
    obtain ⟨j, hj, hj2⟩ := mem_getD this
    rw [List.length_map, Array.length_toList] at hj
    rw [← numAt_eq] at hj2
    have := b2 j (by omega)
    rw [hj2] at this
    omega)⟩
theorem IV.readsL {h : Heap} {xs : List Value} {is : List Int} (x : IV xs is) : ReadsAll h xs (is.map .int) [] := x.reads
theorem shaped_ints : ∀ is : List Int, PySem.SeqAt.shaped (.list (is.map .int)) = true := by
  intro is
  have h1 : PyData.canLayAll0 (is.map .int) = true := by
    induction is with
    | nil => rfl
    | cons i is ih => show (PyData.canLay0 (.int i) && _) = true; rw [ih]; rfl
  have h2 : PyData.depthAll (is.map .int) ≤ 0 := by
    clear h1
    induction is with
    | nil => exact Nat.le_refl _
    | cons i is ih => show max (PyData.depth (.int i)) _ ≤ 0; exact Nat.max_le.mpr ⟨Nat.le_refl _, ih⟩
  unfold PySem.SeqAt.shaped
  rw [Bool.and_eq_true]
  refine ⟨h1, decide_eq_true ?_⟩
  show PyData.depthAll (is.map .int) + 1 ≤ 64
  omega
/-- a list of ints, tried against [] -/
theorem te_neNil {la : Addr} {xs : List Value} {is : List Nat} {lp : Pos} (C : Fc c L sn mg mb g D U) (hU : 64 ≤ U) (S : St g L ns vs led r h) (q : PV c h e (.ref la)) (hl : h.IsList la xs.toArray) (iv : NV xs is) : TE c h (.Compare e [.NotEq] [.List [] lp] pos) fun b h' => b = decide (is ≠ []) ∧ St g L ns vs led r h' := by
  have hsl : sizeLine = 16777216 := sizeLine_eq
  refine te_cmp (q.mono fun v h₁ p => ?_) rfl
  obtain ⟨rfl, rfl⟩ := p
  refine ev_list (ea_nil ⟨_, _, _, _, _, _, S, by simp [hsl], fun a h₂ na S1 S2 => ?_⟩)
  obtain ⟨o, ho, hc, n, hd⟩ := hl
  have ho2 : ∃ o, h₂.get? la = some o ∧ o.cls = .type "list" ∧ o.data = .seq xs.toArray n := by
    by_cases hm : la ∈ L :: ((a, listOf ([] : List Value).toArray 0) :: led).map (·.1)
    · rcases List.mem_cons.mp hm with q | q
      · obtain ⟨o', _, _, e, d, _⟩ := S.F.ns
        rw [q, e] at ho; cases ho
        rw [hd] at d; cases d
      · rcases List.mem_cons.mp q with q | q
        · have q : la = a := q
          rw [q, na] at ho; cases ho
        · obtain ⟨p, hp, q⟩ := List.mem_map.mp q
          have e1 := (S.N p hp).1
          have e2 := (S1.N p (.tail _ hp)).1
          rw [q, ho] at e1
          rw [q, ← Option.some.inj e1] at e2
          exact ⟨o, e2, hc, hd⟩
    · exact ⟨o, S2.go.K _ _ hm ho, hc, hd⟩
  obtain ⟨o2, ho2, hc2, hd2⟩ := ho2
  refine (tr_neD C hU (.list ho2 hc2 hd2 (by exact IV.reads iv)) (.list (S1.N _ (.head _)).1 rfl rfl (by exact .nil)) (shaped_ints _) (shaped_ints [])).mono ?_
  rintro v h' ⟨rfl, rfl⟩
  refine ⟨_, rfl, ?_, S1.dropHead (S.go.D _ na)⟩
  cases is with
  | nil => rfl
  | cons i is => rfl
theorem ev_wrong {ta oa : Addr} {ts os : List (Int × Int)} {head place : Nat} {t : Int × Int} (C : Fc c L sn mg mb g D U) (hD : 2 ≤ D) (hU : 8 ≤ U) (S : St g L ns vs led r h) (k : Kd sn (Str.ofString "_law_wrong") .globalImplicit) (h1 : PV c h e1 (.ref ta)) (h2 : PV c h e2 (.ref oa)) (h3 : PI c h e3 (head : Nat)) (h4 : PI c h e4 (place : Nat)) (hT : TL h ta ts) (hO : TT h oa os) (ht : ts[place]? = some t) (hh : head ≤ ts.length) (hz : ts.length < 1000)
    (he1 : ∀ es, starEach (e1 :: es) c.env = (false, eval e1 c.env) :: starEach es c.env) (he2 : ∀ es, starEach (e2 :: es) c.env = (false, eval e2 c.env) :: starEach es c.env) (he3 : ∀ es, starEach (e3 :: es) c.env = (false, eval e3 c.env) :: starEach es c.env) (he4 : ∀ es, starEach (e4 :: es) c.env = (false, eval e4 c.env) :: starEach es c.env) :
    EV c h (.Call (.Name (Str.ofString "_law_wrong") fp) [e1, e2, e3, e4] [] pos) fun v h' => (∃ t', v = .str (wrongAt ts os head place) t') ∧ St g L ns vs led r h' ∧ St g L ns vs led h h' := by
  refine ev_call (pv_glob C S k (gl_law_wrong _)) (fn_law_wrong _) C S (ea_cons (h1.mono ?_) (he1 _)) (he1 _)
  rintro v h₁ ⟨rfl, rfl⟩
  refine ea_cons (h2.mono ?_) (he2 _)
  rintro v h₁ ⟨rfl, rfl⟩
  refine ea_cons (h3.mono ?_) (he3 _)
  rintro v h₁ ⟨⟨t3, rfl⟩, rfl⟩
  refine ea_cons (h4.mono ?_) (he4 _)
  rintro v h₁ ⟨⟨t4, rfl⟩, rfl⟩
  refine ea_nil ⟨S.F.keep, tr_spec (wrong_spec hT hO ht hh hz) C S hD hU (by simp) fun h' v go post => ⟨?_, S.after0 go, S.re.after0 go⟩⟩
  unfold wrongAt
  rw [ht]
  exact post
end
theorem addr_ne {L i j : Nat} (h : i ≠ j) : L + i ≠ L + j := fun e => h (Nat.add_left_cancel e)
def JPost (ts os : List (Int × Int)) (h : Heap) (v : Value) : Prop := Ex4 fun tp t1 t2 t3 => v = .ref tp ∧ IsTup h tp [Value.int ((judgedF ts os).1 : Nat) t1, .str (judgedF ts os).2.1 t2, .int ((judgedF ts os).2.2 : Nat) t3].toArray

theorem IV.take {xs : List Value} {is : List Int} (x : IV xs is) : ∀ n, IV (xs.take n) (is.take n) := by
  induction x with
  | nil => intro n; simp; exact .nil
  | cons _ ih =>
    intro n
    cases n with
    | zero => exact .nil
    | succ n => exact .cons (ih n)
theorem NV.take {xs : List Value} {is : List Nat} (x : NV xs is) (n : Nat) : NV (xs.take n) (is.take n) := by
  unfold NV
  rw [List.map_take]
  exact IV.take x n
theorem lastF_min {ts : List (Int × Int)} {m : Nat} (h1 : m ∈ (endsF ts).take 1 ++ [ts.length]) (h2 : ∀ a ∈ (endsF ts).take 1 ++ [ts.length], m ≤ a) : m = lastF ts := by
  unfold lastF
  have hlt : ∀ i ∈ endsF ts, i < ts.length := fun i => endsF_lt
  cases h : endsF ts with
  | nil =>
    rw [h] at h1
    simpa using h1
  | cons a l =>
    rw [h] at h1 h2 hlt
    have ha := hlt a (.head _)
    have h3 := h2 a (by simp)
    simp at h1
    show m = a
    omega
theorem shaped_str {x : Str} (h : PyData.strOk x = true) : PySem.SeqAt.shaped (.str x) = true := by
  unfold PySem.SeqAt.shaped
  rw [Bool.and_eq_true]
  exact ⟨by simpa [PyData.canLay0] using h, by simp [PyData.depth]⟩
theorem wrongF_cases (ts os : List (Int × Int)) (head place : Nat) (t : Int × Int) : wrongF ts os head place t = Str.ofString "outer" ∨ wrongF ts os head place t = Str.ofString "wrong" ∨ wrongF ts os head place t = Str.ofString "" := by
  unfold wrongF
  repeat' split
  all_goals simp
theorem wrongAt_ok (ts os : List (Int × Int)) (head place : Nat) : PyData.strOk (wrongAt ts os head place) = true := by
  unfold wrongAt
  split
  · rename_i t _
    rcases wrongF_cases ts os head place t with q | q | q <;> (rw [q]; decide +kernel)
  · decide +kernel
theorem get_getD {l : List Nat} {k : Nat} (h : k < l.length) : l[k]? = some (l.getD k 0) := by
  rw [List.getD_eq_getElem?_getD, List.getElem?_eq_getElem h]; rfl
theorem swaps_cell {c : Cx} {L : Addr} {sn : List (Str × NameKind)} {mg mb : Str → Option Value} {g : Heap} {D U : Nat} {x : Str} {e : Expr} {gs : List Comprehension} {scope : Scope} {pos p : Pos} {n : Nat} (C : Fc c L sn mg mb g D U) (k : Kd sn x .cell) : swapsWith (.ListComp e gs scope pos) (some (.Name x p)) n c.env = pure false := by
  have h := C.fe.kindOf k
  unfold swapsWith
  dsimp only
  rw [h, show ((some NameKind.cell : Option NameKind) == some NameKind.local) = false from rfl, Bool.and_false, Bool.false_and, Bool.false_and]
theorem swaps_local {c : Cx} {L : Addr} {sn : List (Str × NameKind)} {mg mb : Str → Option Value} {g : Heap} {D U : Nat} {x : Str} {e : Expr} {gs : List Comprehension} {scope : Scope} {pos p : Pos} {n : Nat} (C : Fc c L sn mg mb g D U) (k : Kd sn x .local) (hp : (p.line == pos.line) = true) (hn : (scope.names.any fun y => y.1 == x && (y.2 == .local || y.2 == .cell)) = false) : swapsWith (.ListComp e gs scope pos) (some (.Name x p)) n c.env = pure true := by
  have h := C.fe.kindOf k
  have hb : (c.env.blockKind == ScopeKind.function) = true := by
    unfold Env.blockKind
    rw [C.fe.kind]; rfl
  unfold swapsWith
  dsimp only
  rw [h, hb, hn, show ((some NameKind.local : Option NameKind) == some NameKind.local) = true from rfl, Bool.and_true, Bool.true_and, Bool.not_false, Bool.and_true]
  exact congrArg _ hp
theorem judged_spec {w : World} {h : Heap} {ta oa : Addr} {ts os : List (Int × Int)} (hT : TL h ta ts) (hO : TT h oa os) (hz : ts.length < 1000) : Spec w 328 [.ref ta, .ref oa] [] 3 67 h fun h' v => JPost ts os h' v := by
  refine spec_cells (D := 2) (U := 64) [(Str.ofString "tokens", .ref ta), (Str.ofString "outers", .ref oa)] [Str.ofString "many", Str.ofString "ends", Str.ofString "last", Str.ofString "faults"] [none, none, none, none] (fun y => if y = Str.ofString "outers" then some (.ref oa) else if y = Str.ofString "tokens" then some (.ref ta) else none) rfl (by kernel_rfl) rfl ?_ ?_ ?_ (by decide +kernel) (by decide +kernel) (by decide +kernel) (by simp) (by simp) ?_
  · intro x hx
    simp only [List.mem_cons, List.not_mem_nil, or_false] at hx
    rcases hx with rfl | rfl <;> exact .inr (by dsimp only; decide +kernel)
  · intro env he
    rw [bindL_none, ← lkp_none' [Str.ofString "many", Str.ofString "ends", Str.ofString "last", Str.ofString "faults"]]
    · rfl
    · intro x hx
      unfold Env.kindOf
      rw [he]
      simp only [List.mem_cons, List.not_mem_nil, or_false] at hx
      rcases hx with rfl | rfl <;> (dsimp only; decide +kernel)
  · intro env he
    show bindC env.kindOf _ _ = _
    have n1 : ¬ env.kindOf (Str.ofString "tokens") = some .local := by
      unfold Env.kindOf
      rw [he]
      decide +kernel
    have n2 : ¬ env.kindOf (Str.ofString "outers") = some .local := by
      unfold Env.kindOf
      rw [he]
      decide +kernel
    unfold bindC bindC bindC
    rw [if_neg n1, if_neg n2]
  intro c mg mb g h₁ L hw C hc hk hL hown hcm S
  dsimp only at C hc
  subst hw
  have hsl : sizeLine = 16777216 := sizeLine_eq
  have hc1 : c.env.cells = [(Str.ofString "rights", L + 4), (Str.ofString "lefts", L + 3), (Str.ofString "outers", L + 2), (Str.ofString "tokens", L + 1)] := by rw [hc]; rfl
  clear hc
  have lt : c.env.cells.lookup (Str.ofString "tokens") = some (L + 1) := by rw [hc1]; rfl
  have lo : c.env.cells.lookup (Str.ofString "outers") = some (L + 2) := by rw [hc1]; rfl
  have ll : c.env.cells.lookup (Str.ofString "lefts") = some (L + 3) := by rw [hc1]; rfl
  have lr : c.env.cells.lookup (Str.ofString "rights") = some (L + 4) := by rw [hc1]; rfl
  have hg : TL g ta ts := hT.keep fun b o e => hk b o (by simp) e
  have og : TT g oa os := hO.keep fun b o e => hk b o (by simp) e
  have nL : ∀ {i : Nat}, i ≠ 0 → L + i ≠ L := fun {i} hi => by
    have := addr_ne (L := L) hi
    simpa using this
  obtain ⟨oR, hoR, S⟩ := S.addCell (hcm _ _ lr) (nL (by decide)) (hL _ (by exact Nat.le_add_right _ _)).2 (by simp)
  obtain ⟨oL, hoL, S⟩ := S.addCell (hcm _ _ ll) (nL (by decide)) (hL _ (by exact Nat.le_add_right _ _)).2 (by simpa using addr_ne (by decide))
  obtain ⟨oO, hoO, S⟩ := S.addCell (hcm _ _ lo) (nL (by decide)) (hL _ (by exact Nat.le_add_right _ _)).2 (by simpa using ⟨addr_ne (by decide), addr_ne (by decide)⟩)
  obtain ⟨oT, hoT, S⟩ := S.addCell (hcm _ _ lt) (nL (by decide)) (hL _ (by exact Nat.le_add_right _ _)).2 (by simpa using ⟨addr_ne (by decide), addr_ne (by decide), addr_ne (by decide)⟩)
  rw [if_neg (by decide), if_pos rfl] at hoT
  rw [if_pos rfl] at hoO
  clear hk hown hcm hT hO nL
  obtain ⟨xs, nn, ea, tt⟩ := id hg
  have hxl := tt.length
  have hlF := leftsF_len ts
  have hhF := headF_le ts
  have hrF := rightsF_len ts
  have hlaF := lastF_le ts
  refine xs_assign_i C S (ev_len C S (by (repeat' (first | exact Kd.head | apply Kd.tail))) (pv_cell C S (by (repeat' (first | exact Kd.head | apply Kd.tail))) lt (by (repeat' (first | exact List.Mem.head _ | apply List.Mem.tail))) hoT) (isL (S.F.keep _ _ ea)) (by omega) rfl) (by (repeat' (first | exact Kd.head | apply Kd.tail))) (fun t => by (repeat' (first | exact SetL.head | apply SetL.tail))) rfl fun tm h₂ S1 => ?_
  rw [hxl] at S1
  clear S
  have isk : ∀ (k : Int) (i : Nat) (t : Int × Int), ts[i]? = some t → isK k ts[i]? = decide (t.1 = k) := fun k i t e => by
    unfold isK
    rw [e]
    simp
  refine xs_assignC (ns := [Str.ofString "many", Str.ofString "ends", Str.ofString "last", Str.ofString "faults"]) (ev_binG (EV.mono (P := fun v h' => Ex3 fun a ys m => v = .ref a ∧ h.get? a = none ∧ NV ys (leftsTo ts ts.length) ∧ St g L [Str.ofString "many", Str.ofString "ends", Str.ofString "last", Str.ofString "faults"] [some (.int (ts.length : Nat) tm), none, none, none] [(a, listOf ys.toArray m), (L + 1, oT), (L + 2, oO), (L + 3, oL), (L + 4, oR)] h h') (ev_comp (L := L) (snc := [(Str.ofString ".0", .local), (Str.ofString "place", .local), (Str.ofString "tokens", .cell)]) (nsc := [Str.ofString "place"]) (cl := [(Str.ofString "tokens", L + 1)]) (vz := fun z => [z]) C ⟨relab C (by decide +kernel), by decide +kernel, by decide +kernel, by decide +kernel, rfl, by decide +kernel, rfl, fun z v => .head, by (repeat' (first | exact Kd.head | apply Kd.tail)), ?_, by decide +kernel⟩ (fun _ => rfl) (EV.mono (ev_range1 (P := fun k h' => k = (ts.length : Int) ∧ h' = h₂) C S1 (by (repeat' (first | exact Kd.head | apply Kd.tail))) (EV.mono (pi_loc C S1 (by (repeat' (first | exact Kd.head | apply Kd.tail))) (by (repeat' (first | exact Loc.head | apply Loc.tail)))) ?_) rfl) ?_)) ?_)) C (by (repeat' (first | exact Kd.head | apply Kd.tail))) ll rfl
  · unfold closureFor cellOf
    rw [hc1]; rfl
  · rintro v h' ⟨⟨t, rfl⟩, rfl⟩
    exact ⟨_, t, rfl, rfl, rfl⟩
  · rintro v h₃ ⟨_, _, rr, t4, u4, w4, rfl, ⟨rfl, rfl⟩, hr4, kp⟩
    have S2 := S1.keepAll kp
    refine tr_compQ C S2 (src_range C.hh hr4 (rng0 (Nat.le_trans (Nat.le_of_lt hz) (by decide)))) (by omega) (fun i ys _ => NV ys (leftsTo ts i)) .nil (fun _ _ _ _ y _ => y) ?_ ?_
    · rintro i v ys m Dd h₈ Ca g' hi ⟨tv, rfl⟩ Fi kg S8 y hl
      have hip : i < ts.length := by omega
      obtain ⟨t', ht'⟩ : ∃ t', ts[i]? = some t' := ⟨_, List.getElem?_eq_getElem hip⟩
      have hk8 : ∀ b o, h₃.get? b = some o → h₈.get? b = some o := fun b o e => S8.F.keep _ _ (kg b o e)
      rw [Int.zero_add] at S8
      refine te_pt (pt_eq (pi_k0 (pk_item (j := i) (pv_cellH Fi (by (repeat' (first | exact Kd.head | apply Kd.tail))) rfl ⟨oT, hk8 _ _ (S2.N (L + 1, oT) (by (repeat' (first | exact List.Mem.head _ | apply List.Mem.tail)))).1, hoT⟩) (hg.keep fun b o e => hk8 _ _ (S2.F.keep _ _ e)) (pi_loc Fi S8 (by (repeat' (first | exact Kd.head | apply Kd.tail))) (by (repeat' (first | exact Loc.head | apply Loc.tail)))) rfl ht' hz (fun _ => by with_unfolding_all rfl))) pi_const rfl) ?_
      have e9 := isk 1 i t' ht'
      by_cases q : t'.1 = 1
      · rw [if_pos (decide_eq_true q)]
        refine EV.mono (pv_loc Fi S8 (by (repeat' (first | exact Kd.head | apply Kd.tail))) (by (repeat' (first | exact Loc.head | apply Loc.tail)))) ?_
        rintro v2 h₉ ⟨rfl, rfl⟩
        rw [Int.zero_add]
        refine ⟨S8, ?_⟩
        rw [leftsTo, filter_snoc, e9, if_pos (decide_eq_true q)]
        exact y.snoc _ _
      · rw [if_neg (by simpa using q)]
        rw [Int.zero_add]
        refine ⟨S8, ?_⟩
        rw [leftsTo, filter_snoc, e9, if_neg (by simpa using q), List.append_nil]
        exact y
    · rintro Dd Ca h' ys m S8 S9 nD ab hl y
      have en : ((ts.length : Int) - 0).toNat = ts.length := n0 _
      rw [en] at y
      exact ⟨Dd, ys, m, rfl, S1.go.D _ (none_at nD kp), y, S8⟩
  rintro v h₃ ⟨a, ys, m, rfl, na, iv, S2⟩
  have il := iv.length
  have i9 : (leftsTo ts ts.length).length ≤ ts.length := Nat.le_trans (List.length_filter_le _ _) (by simp)
  refine ev_list (ea_cons (EV.mono (pi_loc C S2 (by (repeat' (first | exact Kd.head | apply Kd.tail))) (by (repeat' (first | exact Loc.head | apply Loc.tail)))) ?_) rfl)
  rintro v h₄ ⟨⟨t3, rfl⟩, rfl⟩
  refine ea_nil ⟨_, _, _, _, _, _, S2, by simp [hsl], fun b h₅ nb S3 _ => ?_⟩
  refine ⟨fun tk Q hQ => o_cat S3.re (isL (S3.N _ (.tail _ (.head _))).1) (isL (S3.N _ (.head _)).1) (by simp; omega) fun l h' tk' hn S' => hQ _ _ _ ?_⟩
  have S4 := (S3.then S' fun _ h => List.mem_cons_of_mem _ h)
  have nb0 := S2.go.D _ nb
  refine ⟨_, [(l, listOf (ys ++ [Value.int (ts.length : Nat) t3]).toArray 0), (L + 1, oT), (L + 2, oO), (L + 3, oL), (L + 4, oR)], h, oL, _, _, S4.dropNew (.cons_cons _ (.cons _ (.cons _ (.refl _)))) (fun x hx => ?_), .tail (.tail (.tail .head)), hoL, fun oL h₆ hoL S5 _ => ?_⟩
  · rcases List.mem_cons.mp hx with q | q
    · exact .inl (q ▸ List.mem_cons_self)
    · rcases List.mem_cons.mp q with q | q
      · exact .inr (q ▸ nb0)
      · rcases List.mem_cons.mp q with q | q
        · exact .inr (q ▸ na)
        · exact .inl (List.mem_cons_of_mem _ q)
  have hls : NV (ys ++ [Value.int (ts.length : Nat) t3]) (leftsF ts) := iv.snoc _ _
  generalize ys ++ [Value.int (ts.length : Nat) t3] = ls at S5 hls
  clear S4 S' S3 S2 iv il i9 S1 na nb0 hn nb
  have hll := hls.length
  obtain ⟨u0, hx0⟩ := hls.get (headF_get ts)
  have pl0 : ∀ {cx : Cx} {h' : Heap} {o : Expr} {p : Pos} {kk : Nat} {kp : Pos}, PV cx h' o (.ref l) → h'.get? l = some (listOf ls.toArray 0) → (∀ t, subscripted (.Constant (.int 0) kk kp) false (.ref l) (.int 0 t) = operate [.ref l, .int 0 t] (getItem (.ref l) (.int 0 t))) → PI cx h' (.Subscript o (.Constant (.int 0) kk kp) p) (headF ts : Nat) := fun q e hs => pi_item q pi_const e (Int.le_refl _) (by decide) (by simpa using hx0) hs
  refine xs_assignC (ns := [Str.ofString "many", Str.ofString "ends", Str.ofString "last", Str.ofString "faults"]) (EV.mono (P := fun v h' => Ex3 fun a ys m => v = .ref a ∧ h.get? a = none ∧ NV ys (rightsF ts) ∧ St g L [Str.ofString "many", Str.ofString "ends", Str.ofString "last", Str.ofString "faults"] [some (.int (ts.length : Nat) tm), none, none, none] [(a, listOf ys.toArray m), (l, listOf ls.toArray 0), (L + 1, oT), (L + 2, oO), (L + 3, oL), (L + 4, oR)] h h') (ev_comp (L := L) (snc := [(Str.ofString ".0", .local), (Str.ofString "place", .local), (Str.ofString "tokens", .cell)]) (nsc := [Str.ofString "place"]) (cl := [(Str.ofString "tokens", L + 1)]) (vz := fun z => [z]) C ⟨relab C (by decide +kernel), by decide +kernel, by decide +kernel, by decide +kernel, rfl, by decide +kernel, rfl, fun z v => .head, by (repeat' (first | exact Kd.head | apply Kd.tail)), ?_, by decide +kernel⟩ (fun _ => rfl) (EV.mono (ev_range2 (P := fun a b' h' => a = (headF ts : Nat) ∧ b' = (ts.length : Int) ∧ h' = h₆) C S5 (by (repeat' (first | exact Kd.head | apply Kd.tail))) (EV.mono (pl0 (pv_cell C S5 (by (repeat' (first | exact Kd.head | apply Kd.tail))) ll (.tail _ (.tail _ (.tail _ (.head _)))) hoL) (S5.N _ (.head _)).1 (fun t => by with_unfolding_all rfl)) ?_) rfl rfl) ?_)) ?_) C (by (repeat' (first | exact Kd.head | apply Kd.tail))) lr (swaps_cell C (by (repeat' (first | exact Kd.head | apply Kd.tail))))
  · unfold closureFor cellOf
    rw [hc1]; rfl
  · rintro v h' ⟨⟨t, rfl⟩, rfl⟩
    refine ⟨_, t, rfl, EV.mono (pi_loc C S5 (by (repeat' (first | exact Kd.head | apply Kd.tail))) (by (repeat' (first | exact Loc.head | apply Loc.tail)))) ?_⟩
    rintro v h' ⟨⟨t, rfl⟩, rfl⟩
    exact ⟨_, t, rfl, rfl, rfl, rfl⟩
  · rintro v h₇ ⟨_, _, _, rr, t4, u4, w4, rfl, ⟨rfl, rfl, rfl⟩, hr4, kp⟩
    have S6 := S5.keepAll kp
    have en : ((ts.length : Int) - (headF ts : Nat)).toNat = ts.length - headF ts := Int.toNat_sub _ _
    refine tr_compQ C S6 (src_range C.hh hr4 (rng_ok (by omega) (Nat.le_trans (Nat.le_of_lt hz) (by decide)))) (by omega) (fun i ys _ => NV ys (rightsTo ts (headF ts) i)) .nil (fun _ _ _ _ y _ => y) ?_ ?_
    · rintro i v ys m Dd h₈ Ca g' hi ⟨tv, rfl⟩ Fi kg S8 y hl
      have hip : headF ts + i < ts.length := by omega
      obtain ⟨t', ht'⟩ : ∃ t', ts[headF ts + i]? = some t' := ⟨_, List.getElem?_eq_getElem hip⟩
      have hk8 : ∀ b o, h₇.get? b = some o → h₈.get? b = some o := fun b o e => S8.F.keep _ _ (kg b o e)
      have e0 : ((headF ts : Nat) : Int) + (i : Int) = ((headF ts + i : Nat) : Int) := by omega
      rw [e0] at S8
      refine te_pt (pt_eq (pi_k0 (pk_item (j := headF ts + i) (pv_cellH Fi (by (repeat' (first | exact Kd.head | apply Kd.tail))) rfl ⟨oT, hk8 _ _ (S6.N (L + 1, oT) (by (repeat' (first | exact List.Mem.head _ | apply List.Mem.tail)))).1, hoT⟩) (hg.keep fun b o e => hk8 _ _ (S6.F.keep _ _ e)) (pi_loc Fi S8 (by (repeat' (first | exact Kd.head | apply Kd.tail))) (by (repeat' (first | exact Loc.head | apply Loc.tail)))) rfl ht' hz (fun _ => by with_unfolding_all rfl))) pi_const rfl) ?_
      have e9 := isk 2 _ t' ht'
      rw [e0]
      by_cases q : t'.1 = 2
      · rw [if_pos (decide_eq_true q)]
        refine EV.mono (pv_loc Fi S8 (by (repeat' (first | exact Kd.head | apply Kd.tail))) (by (repeat' (first | exact Loc.head | apply Loc.tail)))) ?_
        rintro v2 h₉ ⟨rfl, rfl⟩
        refine ⟨S8, ?_⟩
        rw [rights_snoc, e9, if_pos (decide_eq_true q)]
        exact y.snoc _ _
      · rw [if_neg (by simpa using q)]
        refine ⟨S8, ?_⟩
        rw [rights_snoc, e9, if_neg (by simpa using q), List.append_nil]
        exact y
    · rintro Dd Ca h' ys m S8 S9 nD ab hl y
      rw [en] at y
      exact ⟨Dd, ys, m, rfl, S5.go.D _ (none_at nD kp), y, S8⟩
  rintro v h₇ ⟨rb, rs, mr, rfl, nrb, hrs, S6⟩
  refine ⟨_, [(rb, listOf rs.toArray mr), (l, listOf ls.toArray 0), (L + 1, oT), (L + 2, oO), (L + 3, oL), (L + 4, oR)], h, oR, _, _, S6, .tail (.tail (.tail (.tail (.tail .head)))), hoR, fun oR h₈ hoR S7 _ => ?_⟩
  clear S6 S5
  have hrl := hrs.length
  have hrm : ∀ {j p : Nat}, (rightsF ts)[j]? = some p → p < ts.length := fun {j p} e => by
    have := rights_lt (List.mem_of_getElem? e)
    omega
  refine xs_assignComp (L := L) (ns := [Str.ofString "many", Str.ofString "ends", Str.ofString "last", Str.ofString "faults"]) (snc := [(Str.ofString ".0", .local), (Str.ofString "j", .local), (Str.ofString "min", .globalImplicit), (Str.ofString "len", .globalImplicit), (Str.ofString "lefts", .cell), (Str.ofString "rights", .cell)]) (nsc := [Str.ofString "j"]) (cl := [(Str.ofString "rights", L + 4), (Str.ofString "lefts", L + 3)]) (vz := fun z => [z]) C ⟨relab C (by decide +kernel), by decide +kernel, by decide +kernel, by decide +kernel, rfl, by decide +kernel, rfl, fun z v => .head, by (repeat' (first | exact Kd.head | apply Kd.tail)), ?_, by decide +kernel⟩ (fun _ => rfl) (swaps_local C (by (repeat' (first | exact Kd.head | apply Kd.tail))) rfl (by decide +kernel)) (by (repeat' (first | exact Kd.head | apply Kd.tail))) (EV.mono (ev_range1 (P := fun k h' => k = ((rightsF ts).length : Int) ∧ h' = h₈) C S7 (by (repeat' (first | exact Kd.head | apply Kd.tail))) (EV.mono (ev_len C S7 (by (repeat' (first | exact Kd.head | apply Kd.tail))) (pv_cell C S7 (by (repeat' (first | exact Kd.head | apply Kd.tail))) lr (.tail _ (.tail _ (.tail _ (.tail _ (.tail _ (.head _)))))) hoR) (isL (S7.N _ (.head _)).1) (by omega) rfl) ?_) rfl) ?_)
  · unfold closureFor cellOf
    rw [hc1]; rfl
  · rintro v h' ⟨⟨t, rfl⟩, rfl⟩
    exact ⟨_, t, rfl, by rw [hrl], rfl⟩
  rintro v h₉ ⟨_, _, rr, t4, u4, w4, rfl, ⟨rfl, rfl⟩, hr4, kp⟩
  have S8 := S7.keepAll kp
  have en : (((rightsF ts).length : Int) - 0).toNat = (rightsF ts).length := n0 _
  refine tr_compQ C S8 (src_range C.hh hr4 (rng0 (by omega))) (by omega) (fun i ys _ => NV ys (endsTo (leftsF ts) (rightsF ts) i)) .nil (fun _ _ _ _ y _ => y) ?_ ?_
  · rintro i v ys m Dd h₁₀ Ca g' hi ⟨tv, rfl⟩ Fi kg S9 y hl
    rw [Int.zero_add] at S9
    rw [en] at hi
    have hk8 : ∀ b o, h₉.get? b = some o → h₁₀.get? b = some o := fun b o e => S9.F.keep _ _ (kg b o e)
    have hi2 : i < (rightsF ts).length := by omega
    have hmn : min (i + 1) ((leftsF ts).length - 1) < (leftsF ts).length := Nat.lt_of_le_of_lt (Nat.min_le_right _ _) (Nat.sub_lt (by omega) (by decide))
    have hgl := get_getD hmn
    have hgr := get_getD hi2
    have hes := ends_snoc (leftsF ts) (rightsF ts) i
    generalize (leftsF ts).getD (min (i + 1) ((leftsF ts).length - 1)) 0 = av at hgl hes
    generalize (rightsF ts).getD i 0 = bv at hgr hes
    rw [hes]
    obtain ⟨ul, hul⟩ := hls.get hgl
    obtain ⟨ur, hur⟩ := hrs.get hgr
    have nL : (L + 3, oL) ∈ [(rb, listOf rs.toArray mr), (l, listOf ls.toArray 0), (L + 1, oT), (L + 2, oO), (L + 3, oL), (L + 4, oR)] := by (repeat' (first | exact List.Mem.head _ | apply List.Mem.tail))
    have nR : (L + 4, oR) ∈ [(rb, listOf rs.toArray mr), (l, listOf ls.toArray 0), (L + 1, oT), (L + 2, oO), (L + 3, oL), (L + 4, oR)] := by (repeat' (first | exact List.Mem.head _ | apply List.Mem.tail))
    refine te_cmp (ev_subG (EV.mono (pv_cellH Fi (by (repeat' (first | exact Kd.head | apply Kd.tail))) rfl ⟨oL, hk8 _ _ (S8.N _ nL).1, hoL⟩) ?_)) rfl
    rintro v h' ⟨rfl, rfl⟩
    refine EV.mono (ev_min2 Fi S9 (by (repeat' (first | exact Kd.head | apply Kd.tail))) (pi_add (pi_loc Fi S9 (by (repeat' (first | exact Kd.head | apply Kd.tail))) (by (repeat' (first | exact Loc.head | apply Loc.tail)))) pi_const) (pi_sub (ev_len Fi S9 (by (repeat' (first | exact Kd.head | apply Kd.tail))) (pv_cellH Fi (by (repeat' (first | exact Kd.head | apply Kd.tail))) rfl ⟨oL, hk8 _ _ (S8.N _ nL).1, hoL⟩) (isL (hk8 _ _ (S8.N _ (.tail _ (.head _))).1)) (by omega) rfl) pi_const) rfl rfl) ?_
    rintro v h₁₁ ⟨⟨t5, rfl⟩, S10, _⟩
    have hk9 : ∀ b o, h₉.get? b = some o → h₁₁.get? b = some o := fun b o e => S10.F.keep _ _ (kg b o e)
    have emin : min ((i : Int) + 1) ((ls.length : Int) - 1) = ((min (i + 1) ((leftsF ts).length - 1) : Nat) : Int) := by omega
    rw [emin]
    refine ⟨fun tk Q hQ => i_list (hk9 _ _ (S8.N _ (.tail _ (.head _))).1) (by omega) (by omega) (by rw [Int.toNat_natCast]; exact hul) (hQ _ _ _ ?_) (by with_unfolding_all rfl)⟩
    have pr : ∀ {p : Pos}, PI (inC c _ [(Str.ofString "rights", L + 4), (Str.ofString "lefts", L + 3)] Ca) h₁₁ (.Subscript (.Name (Str.ofString "rights") ⟨225, 89, 225, 95⟩) (.Name (Str.ofString "j") ⟨225, 96, 225, 97⟩) p) (bv : Nat) := fun {p} => pi_item (t := ur) (pv_cellH Fi (by (repeat' (first | exact Kd.head | apply Kd.tail))) rfl ⟨oR, hk9 _ _ (S8.N _ nR).1, hoR⟩) (pi_loc Fi S10 (by (repeat' (first | exact Kd.head | apply Kd.tail))) (by (repeat' (first | exact Loc.head | apply Loc.tail)))) (hk9 _ _ (S8.N _ (.head _)).1) (by omega) (by omega) (by rw [Int.toNat_natCast]; exact hur) (fun _ => by with_unfolding_all rfl)
    refine EV.mono pr ?_
    rintro v h' ⟨⟨t6, rfl⟩, rfl⟩
    refine tr_gt.mono ?_
    rintro v h' ⟨rfl, rfl⟩
    refine ⟨_, rfl, ?_⟩
    rw [Int.zero_add]
    show ite _ _ _
    by_cases q : bv < av
    · rw [if_pos (decide_eq_true (by omega)), if_pos q]
      refine EV.mono (pi_item (t := ur) (pv_cellH Fi (by (repeat' (first | exact Kd.head | apply Kd.tail))) rfl ⟨oR, hk9 _ _ (S8.N _ nR).1, hoR⟩) (pi_loc Fi S10 (by (repeat' (first | exact Kd.head | apply Kd.tail))) (by (repeat' (first | exact Loc.head | apply Loc.tail)))) (hk9 _ _ (S8.N _ (.head _)).1) (by omega) (by omega) (by rw [Int.toNat_natCast]; exact hur) (fun _ => by with_unfolding_all rfl)) ?_
      rintro v h' ⟨⟨t7, rfl⟩, rfl⟩
      exact ⟨S10, y.snoc _ _⟩
    · rw [if_neg (by simpa using q), if_neg q, List.append_nil]
      exact ⟨S10, y⟩
  · intro Dd Ca h' es me S9 S10 nD ab hl hes
    rw [en] at hes
    have hes : NV es (endsF ts) := hes
    refine ⟨_, _, _, _, S9, by (repeat' (first | exact SetL.head | apply SetL.tail)), ab, fun h₁₀ S11 _ => ?_⟩
    clear S9 S10 ab S8 kp hr4 nD
    have hel := hes.length
    have heF := endsF_len ts
    have il1 := hlF
    refine xs_assign (ns := [Str.ofString "many", Str.ofString "ends", Str.ofString "last", Str.ofString "faults"]) (ev_minN C S11 (by (repeat' (first | exact Kd.head | apply Kd.tail))) (ev_binG (EV.mono (P := fun v h' => ∃ b, v = .ref b ∧ h.get? b = none ∧ St g L [Str.ofString "many", Str.ofString "ends", Str.ofString "last", Str.ofString "faults"] [some (.int (ts.length : Nat) tm), some (.ref Dd), none, none] [(b, listOf (es.take 1).toArray 0), (Dd, listOf es.toArray me), (rb, listOf rs.toArray mr), (l, listOf ls.toArray 0), (L + 1, oT), (L + 2, oO), (L + 3, oL), (L + 4, oR)] h h') (ev_slice (xs := es) (pv_loc C S11 (by (repeat' (first | exact Kd.head | apply Kd.tail))) (by (repeat' (first | exact Loc.head | apply Loc.tail)))) (tr_none.mono ?_) ?_ ?_) ?_)) rfl) C (by (repeat' (first | exact Kd.head | apply Kd.tail))) rfl
    · rintro vl h' ⟨rfl, rfl⟩
      refine tr_some (EV.mono pi_const ?_)
      rintro vu h' ⟨⟨tu, rfl⟩, rfl⟩
      refine ⟨_, _, _, _, _, _, none, some _, S11, isL (S11.N _ (.head _)).1, .none, .int _ _, by omega, fun d h' nd S12 _ => ⟨d, rfl, S11.go.D _ nd, ?_⟩⟩
      have := pk_to (n := 1) es
      rw [show ((1 : Nat) : Int) = 1 from rfl] at this
      rw [this] at S12
      exact S12
    · intro a; with_unfolding_all rfl
    · intro a; with_unfolding_all rfl
    rintro v h₁₁ ⟨b, rfl, nb, S12⟩
    refine ev_list (ea_cons (EV.mono (pi_loc C S12 (by (repeat' (first | exact Kd.head | apply Kd.tail))) (by (repeat' (first | exact Loc.head | apply Loc.tail)))) ?_) rfl)
    rintro v h₁₂ ⟨⟨t3, rfl⟩, rfl⟩
    refine ea_nil ⟨_, _, _, _, _, _, S12, by simp [hsl], fun b2 h₁₃ nb2 S13 _ => ?_⟩
    refine ⟨fun tk Q hQ => o_cat S13.re (isL (S13.N _ (.tail _ (.head _))).1) (isL (S13.N _ (.head _)).1) (by simp; omega) fun b3 h' tk' hn S' => hQ _ _ _ ?_⟩
    have S14 := (S13.then S' fun _ h => List.mem_cons_of_mem _ h)
    have nb20 := S12.go.D _ nb2
    have nb30 := S13.go.D _ hn
    refine ⟨b3, _, (endsF ts).take 1 ++ [ts.length], rfl, isL (S14.N _ (.head _)).1, (hes.take 1).snoc _ _, by simp, fun mm tmm h₁₄ hm1 hm2 hk14 => ?_⟩
    rw [lastF_min hm1 hm2]
    refine ⟨g, _, _, h, _, (S14.dropNew (led' := [(Dd, listOf es.toArray me), (rb, listOf rs.toArray mr), (l, listOf ls.toArray 0), (L + 1, oT), (L + 2, oO), (L + 3, oL), (L + 4, oR)]) (.cons _ (.cons _ (.cons _ (.refl _)))) fun x hx => ?_).keepAll hk14, by (repeat' (first | exact SetL.head | apply SetL.tail)), fun h₁₅ S15 _ => ?_⟩
    · rcases List.mem_cons.mp hx with q | q
      · exact .inr (q ▸ nb30)
      · rcases List.mem_cons.mp q with q | q
        · exact .inr (q ▸ nb20)
        · rcases List.mem_cons.mp q with q | q
          · exact .inr (q ▸ nb)
          · exact .inl q
    clear S14 S' S13 S12 S11 nb nb20 nb30 nb2 hn hk14 hm1 hm2 S7
    have wget : ∀ {n i : Nat}, i < n → n ≤ ts.length → ∃ t', ts[i]? = some t' := fun h1 h2 => ⟨_, List.getElem?_eq_getElem (by omega)⟩
    have emn : min (((lastF ts : Nat) : Int) + 1) ((ts.length : Nat) : Int) = ((min (lastF ts + 1) ts.length : Nat) : Int) := min_cast (lastF ts + 1) ts.length
    refine xs_assignComp (L := L) (ns := [Str.ofString "many", Str.ofString "ends", Str.ofString "last", Str.ofString "faults"]) (snc := [(Str.ofString ".0", .local), (Str.ofString "place", .local), (Str.ofString "_law_wrong", .globalImplicit), (Str.ofString "lefts", .cell), (Str.ofString "outers", .cell), (Str.ofString "tokens", .cell)]) (nsc := [Str.ofString "place"]) (cl := [(Str.ofString "tokens", L + 1), (Str.ofString "outers", L + 2), (Str.ofString "lefts", L + 3)]) (vz := fun z => [z]) C ⟨relab C (by decide +kernel), by decide +kernel, by decide +kernel, by decide +kernel, rfl, by decide +kernel, rfl, fun z v => .head, by (repeat' (first | exact Kd.head | apply Kd.tail)), ?_, by decide +kernel⟩ (fun _ => rfl) (swaps_local C (by (repeat' (first | exact Kd.head | apply Kd.tail))) rfl (by decide +kernel)) (by (repeat' (first | exact Kd.head | apply Kd.tail))) (EV.mono (ev_range1 (P := fun k h' => k = ((min (lastF ts + 1) ts.length : Nat) : Int) ∧ St g L [Str.ofString "many", Str.ofString "ends", Str.ofString "last", Str.ofString "faults"] [some (.int (ts.length : Nat) tm), some (.ref Dd), some (.int (lastF ts : Nat) tmm), none] [(Dd, listOf es.toArray me), (rb, listOf rs.toArray mr), (l, listOf ls.toArray 0), (L + 1, oT), (L + 2, oO), (L + 3, oL), (L + 4, oR)] h h') C S15 (by (repeat' (first | exact Kd.head | apply Kd.tail))) (EV.mono (ev_min2 C S15 (by (repeat' (first | exact Kd.head | apply Kd.tail))) (pi_add (pi_loc C S15 (by (repeat' (first | exact Kd.head | apply Kd.tail))) (by (repeat' (first | exact Loc.head | apply Loc.tail)))) pi_const) (pi_loc C S15 (by (repeat' (first | exact Kd.head | apply Kd.tail))) (by (repeat' (first | exact Loc.head | apply Loc.tail)))) rfl rfl) ?_) rfl) ?_)
    · unfold closureFor cellOf
      rw [hc1]; rfl
    · rintro v h' ⟨⟨t, rfl⟩, S16, _⟩
      exact ⟨_, t, rfl, emn, S16⟩
    clear S15
    rintro v h₁₆ ⟨_, _, rr, t4, u4, w4, rfl, ⟨rfl, S15⟩, hr4, kp⟩
    have S16 := S15.keepAll kp
    have en : (((min (lastF ts + 1) ts.length : Nat) : Int) - 0).toNat = min (lastF ts + 1) ts.length := n0 _
    refine tr_compQ C S16 (src_range C.hh hr4 (rng0 (Nat.le_trans (Nat.min_le_right _ _) (Nat.le_trans (Nat.le_of_lt hz) (by decide))))) (by omega) (fun i ys _ => NV ys (faultsTo ts os i)) .nil (fun _ _ _ _ y _ => y) ?_ ?_
    · rintro i v ys m Dd2 h₁₇ Ca g' hi ⟨tv, rfl⟩ Fi kg S17 y hl
      rw [Int.zero_add] at S17
      rw [en] at hi
      obtain ⟨t', ht'⟩ := wget hi (Nat.min_le_right _ _)
      have hk8 : ∀ b o, h₁₆.get? b = some o → h₁₇.get? b = some o := fun b o e => S17.F.keep _ _ (kg b o e)
      have nT : (L + 1, oT) ∈ [(Dd, listOf es.toArray me), (rb, listOf rs.toArray mr), (l, listOf ls.toArray 0), (L + 1, oT), (L + 2, oO), (L + 3, oL), (L + 4, oR)] := by (repeat' (first | exact List.Mem.head _ | apply List.Mem.tail))
      have nO : (L + 2, oO) ∈ [(Dd, listOf es.toArray me), (rb, listOf rs.toArray mr), (l, listOf ls.toArray 0), (L + 1, oT), (L + 2, oO), (L + 3, oL), (L + 4, oR)] := by (repeat' (first | exact List.Mem.head _ | apply List.Mem.tail))
      have nL : (L + 3, oL) ∈ [(Dd, listOf es.toArray me), (rb, listOf rs.toArray mr), (l, listOf ls.toArray 0), (L + 1, oT), (L + 2, oO), (L + 3, oL), (L + 4, oR)] := by (repeat' (first | exact List.Mem.head _ | apply List.Mem.tail))
      refine te_cmp (EV.mono (ev_wrong (place := i) Fi (by decide) (by decide) S17 (by (repeat' (first | exact Kd.head | apply Kd.tail))) (pv_cellH Fi (by (repeat' (first | exact Kd.head | apply Kd.tail))) rfl ⟨oT, hk8 _ _ (S16.N _ nT).1, hoT⟩) (pv_cellH Fi (by (repeat' (first | exact Kd.head | apply Kd.tail))) rfl ⟨oO, hk8 _ _ (S16.N _ nO).1, hoO⟩) (pl0 (pv_cellH Fi (by (repeat' (first | exact Kd.head | apply Kd.tail))) rfl ⟨oL, hk8 _ _ (S16.N _ nL).1, hoL⟩) (hk8 _ _ (S16.N _ (.tail _ (.tail _ (.head _)))).1) (fun t => by with_unfolding_all rfl)) (pi_loc Fi S17 (by (repeat' (first | exact Kd.head | apply Kd.tail))) (by (repeat' (first | exact Loc.head | apply Loc.tail)))) (hg.keep fun b o e => hk8 _ _ (S16.F.keep _ _ e)) (og.keep fun b o e => hk8 _ _ (S16.F.keep _ _ e)) ht' hhF hz (fun _ => rfl) (fun _ => rfl) (fun _ => rfl) fun _ => rfl) ?_) rfl
      rintro v h₁₈ ⟨⟨t5, rfl⟩, S18, _⟩
      refine EV.mono pv_str ?_
      rintro v h' ⟨⟨t6, rfl⟩, rfl⟩
      refine (tr_neD Fi (by decide) (.str _ _) (.str _ _) (shaped_str (wrongAt_ok _ _ _ _)) (shaped_str (by decide +kernel))).mono ?_
      rintro v h' ⟨rfl, rfl⟩
      refine ⟨_, rfl, ?_⟩
      have eqs : PyData.eqv (.str (wrongAt ts os (headF ts) i)) (.str (Str.ofString "")) = decide (wrongAt ts os (headF ts) i = Str.ofString "") := by
        show (_ == _) = _
        by_cases q : wrongAt ts os (headF ts) i = Str.ofString ""
        · rw [q]; decide
        · rw [beq_eq_false_iff_ne.mpr q]; simp [q]
      rw [eqs, Int.zero_add]
      show ite _ _ _
      by_cases q : wrongAt ts os (headF ts) i = Str.ofString ""
      · rw [if_neg (by simp [q])]
        refine ⟨S18, ?_⟩
        rw [faultsTo, filter_snoc, if_neg (by simp [q]), List.append_nil]
        exact y
      · rw [if_pos (by simp [q])]
        refine EV.mono (pv_loc Fi S18 (by (repeat' (first | exact Kd.head | apply Kd.tail))) (by (repeat' (first | exact Loc.head | apply Loc.tail)))) ?_
        rintro v2 h₉ ⟨rfl, rfl⟩
        refine ⟨S18, ?_⟩
        rw [faultsTo, filter_snoc, if_pos (by simp [q])]
        exact y.snoc _ _
    · intro Dd2 Ca h' fs mf S17 S18 nD2 ab hl hfs
      rw [en] at hfs
      have hfs : NV fs (faultsF ts os) := hfs
      refine ⟨_, _, _, _, S17, by (repeat' (first | exact SetL.head | apply SetL.tail)), ab, fun h₁₇ S19 _ => ?_⟩
      clear S17 S18 S16 S15 ab kp hr4 nD2
      have hfl := hfs.length
      have hfb : (faultsF ts os).length ≤ ts.length := by
        unfold faultsF faultsTo
        refine Nat.le_trans (List.length_filter_le _ _) ?_
        rw [List.length_range]; omega
      have nT : (L + 1, oT) ∈ [(Dd2, listOf fs.toArray mf), (Dd, listOf es.toArray me), (rb, listOf rs.toArray mr), (l, listOf ls.toArray 0), (L + 1, oT), (L + 2, oO), (L + 3, oL), (L + 4, oR)] := by (repeat' (first | exact List.Mem.head _ | apply List.Mem.tail))
      have nO : (L + 2, oO) ∈ [(Dd2, listOf fs.toArray mf), (Dd, listOf es.toArray me), (rb, listOf rs.toArray mr), (l, listOf ls.toArray 0), (L + 1, oT), (L + 2, oO), (L + 3, oL), (L + 4, oR)] := by (repeat' (first | exact List.Mem.head _ | apply List.Mem.tail))
      have nL : (L + 3, oL) ∈ [(Dd2, listOf fs.toArray mf), (Dd, listOf es.toArray me), (rb, listOf rs.toArray mr), (l, listOf ls.toArray 0), (L + 1, oT), (L + 2, oO), (L + 3, oL), (L + 4, oR)] := by (repeat' (first | exact List.Mem.head _ | apply List.Mem.tail))
      refine xs_ifE (TE.mono (te_neNil C (by decide) S19 (pv_loc C S19 (by (repeat' (first | exact Kd.head | apply Kd.tail))) (by (repeat' (first | exact Loc.head | apply Loc.tail)))) (isL (S19.N _ (.head _)).1) hfs) ?_)
      rintro b h₁₈ ⟨rfl, S20⟩
      clear S19
      refine xs_ifb (fun q => ?_) fun q => xs_nil ?_
      · have q := of_decide_eq_true q
        cases hff : faultsF ts os with
        | nil => exact absurd hff q
        | cons f fl =>
          rw [hff] at hfs hfl hfb
          obtain ⟨uf, huf⟩ := hfs.get (k := 0) (i := f) rfl
          have hfm : f < min (lastF ts + 1) ts.length := by
            have : f ∈ faultsF ts os := by rw [hff]; exact .head _
            exact List.mem_range.mp (List.mem_filter.mp this).1
          obtain ⟨t', ht'⟩ := wget hfm (Nat.min_le_right _ _)
          refine xs_ret (ev_tuple (ea_cons (EV.mono (pi_item (t := uf) (pv_loc C S20 (by (repeat' (first | exact Kd.head | apply Kd.tail))) (by (repeat' (first | exact Loc.head | apply Loc.tail)))) pi_const (S20.N _ (.head _)).1 (by decide) (by decide) (by simpa using huf) (fun t => by with_unfolding_all rfl)) ?_) rfl))
          rintro v h' ⟨⟨t7, rfl⟩, rfl⟩
          refine ea_cons (EV.mono (ev_wrong (place := f) C (by decide) (by decide) S20 (by (repeat' (first | exact Kd.head | apply Kd.tail))) (pv_cell C S20 (by (repeat' (first | exact Kd.head | apply Kd.tail))) lt nT hoT) (pv_cell C S20 (by (repeat' (first | exact Kd.head | apply Kd.tail))) lo nO hoO) (pl0 (pv_cell C S20 (by (repeat' (first | exact Kd.head | apply Kd.tail))) ll nL hoL) (S20.N _ (.tail _ (.tail _ (.tail _ (.head _))))).1 (fun t => by with_unfolding_all rfl)) (pi_item (t := uf) (pv_loc C S20 (by (repeat' (first | exact Kd.head | apply Kd.tail))) (by (repeat' (first | exact Loc.head | apply Loc.tail)))) pi_const (S20.N _ (.head _)).1 (by decide) (by decide) (by simpa using huf) (fun t => by with_unfolding_all rfl)) (hg.keep S20.F.keep) (og.keep S20.F.keep) ht' hhF hz (fun _ => rfl) (fun _ => rfl) (fun _ => rfl) fun _ => rfl) ?_) rfl
          rintro v h₁₉ ⟨⟨t8, rfl⟩, S21, _⟩
          refine ea_cons (EV.mono (pl0 (pv_cell C S21 (by (repeat' (first | exact Kd.head | apply Kd.tail))) ll nL hoL) (S21.N _ (.tail _ (.tail _ (.tail _ (.head _))))).1 (fun t => by with_unfolding_all rfl)) ?_) rfl
          rintro v h' ⟨⟨t9, rfl⟩, rfl⟩
          refine ea_nil ⟨_, _, _, _, _, _, S21, by simp [hsl], fun tp h₂₀ nt itp S22 _ => ⟨S22.fin, tp, t7, t8, t9, rfl, ?_⟩⟩
          rw [judgedF, hff]
          exact itp
      · have q : faultsF ts os = [] := by simpa using q
        show XS _ _ _ _
        refine xs_ret (ev_tuple (ea_cons (EV.mono (pi_loc C S20 (by (repeat' (first | exact Kd.head | apply Kd.tail))) (by (repeat' (first | exact Loc.head | apply Loc.tail)))) ?_) rfl))
        rintro v h' ⟨⟨t7, rfl⟩, rfl⟩
        refine ea_cons (EV.mono (P := fun v h' => (∃ t, v = .str (if endsF ts ≠ [] then Str.ofString "well" else Str.ofString "open") t) ∧ St g L [Str.ofString "many", Str.ofString "ends", Str.ofString "last", Str.ofString "faults"] [some (.int (ts.length : Nat) tm), some (.ref Dd), some (.int (lastF ts : Nat) tmm), some (.ref Dd2)] [(Dd2, listOf fs.toArray mf), (Dd, listOf es.toArray me), (rb, listOf rs.toArray mr), (l, listOf ls.toArray 0), (L + 1, oT), (L + 2, oO), (L + 3, oL), (L + 4, oR)] h h') (ev_ifexpE (TE.mono (te_neNil C (by decide) S20 (pv_loc C S20 (by (repeat' (first | exact Kd.head | apply Kd.tail))) (by (repeat' (first | exact Loc.head | apply Loc.tail)))) (isL (S20.N _ (.tail _ (.head _))).1) hes) ?_)) ?_) rfl
        · rintro b h₁₉ ⟨rfl, S21⟩
          unfold IfeQ
          by_cases qe : endsF ts = []
          · rw [if_neg (by simp [qe])]
            refine EV.mono pv_str ?_
            rintro v h' ⟨⟨t8, rfl⟩, rfl⟩
            exact ⟨⟨t8, by rw [if_neg (by simp [qe])]⟩, S21⟩
          · rw [if_pos (by simp [qe])]
            refine EV.mono pv_str ?_
            rintro v h' ⟨⟨t8, rfl⟩, rfl⟩
            exact ⟨⟨t8, by rw [if_pos qe]⟩, S21⟩
        rintro v h₁₉ ⟨⟨t8, rfl⟩, S21⟩
        refine ea_cons (EV.mono (pl0 (pv_cell C S21 (by (repeat' (first | exact Kd.head | apply Kd.tail))) ll nL hoL) (S21.N _ (.tail _ (.tail _ (.tail _ (.head _))))).1 (fun t => by with_unfolding_all rfl)) ?_) rfl
        rintro v h' ⟨⟨t9, rfl⟩, rfl⟩
        refine ea_nil ⟨_, _, _, _, _, _, S21, by simp [hsl], fun tp h₂₀ nt itp S22 _ => ⟨S22.fin, tp, t7, t8, t9, rfl, ?_⟩⟩
        rw [judgedF, q]
        exact itp

/-! ## raising: frames, what an exception leaves -/
abbrev frs (l : List Env) : List Addr := l.filterMap (·.frame)
/-- the names of each frame are there -/
inductive FrOK (h : Heap) : List Env → Prop
  | nil : FrOK h []
  | cons {env : Env} {l : List Env} {L : Addr} {o : Obj} : env.scope.kind ≠ .module → env.frame = some L → h.get? L = some o → (Ex2 fun es n => o.data = .dict es n) → FrOK h l → FrOK h (env :: l)
theorem dict_nf {o : Obj} (h : Ex2 fun es n => o.data = .dict es n) : ∀ vs, o.data ≠ .fields vs := fun vs q => by
  obtain ⟨es, n, e⟩ := h
  rw [e] at q; cases q
theorem dict_nT {o : Obj} (h : Ex2 fun es n => o.data = .dict es n) : ¬ IsT o := fun q => by
  obtain ⟨es, n, e⟩ := h
  obtain ⟨_, xs, m, q⟩ := q
  rw [e] at q; cases q
/-- all but own stay but for slots -/
def Slo (own : List Addr) (h h' : Heap) : Prop := ∀ b o, b ∉ own → h.get? b = some o → (∀ vs, o.data ≠ .fields vs) → ∃ sl, h'.get? b = some { o with slots := sl }
theorem FrOK.fun {h B : Heap} {l : List Env} (q : FrOK h l) (n : ∀ a ∈ frs l, B.get? a = none) : h.FunFrames B l := by
  induction q with
  | nil => trivial
  | @cons env l L o k hf ho hd _ ih =>
    have e : frs (env :: l) = L :: frs l := by show List.filterMap _ _ = _; rw [List.filterMap_cons, hf]
    rw [e] at n
    exact ⟨k, ⟨L, o, hf, n L (.head _), ho, dict_nf hd⟩, ih fun a ha => n a (.tail _ ha)⟩
theorem FrOK.mem {h : Heap} {l : List Env} (q : FrOK h l) {a : Addr} (ha : a ∈ frs l) : ∃ o, h.get? a = some o ∧ Ex2 fun es n => o.data = .dict es n := by
  induction q with
  | nil => cases ha
  | @cons env l L o k hf ho hd _ ih =>
    have e : frs (env :: l) = L :: frs l := by show List.filterMap _ _ = _; rw [List.filterMap_cons, hf]
    rw [e] at ha
    rcases List.mem_cons.mp ha with rfl | ha
    · exact ⟨o, ho, hd⟩
    · exact ih ha
theorem FrOK.slo {h h' : Heap} {l : List Env} {own : List Addr} (q : FrOK h l) (s : Slo own h h') (n : ∀ a ∈ own, a ∉ frs l) : FrOK h' l := by
  induction q with
  | nil => exact .nil
  | @cons env l L o k hf ho hd _ ih =>
    have e : frs (env :: l) = L :: frs l := by show List.filterMap _ _ = _; rw [List.filterMap_cons, hf]
    rw [e] at n
    obtain ⟨sl, e'⟩ := s L o (fun hm => n L hm (.head _)) ho (dict_nf hd)
    exact .cons k hf e' hd (ih fun a ha hm => n a ha (.tail _ hm))
theorem Slo.trans {own : List Addr} {a b c : Heap} (x : Slo own a b) (y : Slo own b c) : Slo own a c := fun d o n e f => by
  obtain ⟨sl, e1⟩ := x d o n e f
  obtain ⟨sl', e2⟩ := y d _ n e1 f
  exact ⟨sl', e2⟩
theorem Slo.of_keep {own : List Addr} {a b : Heap} (k : ∀ d o, d ∉ own → a.get? d = some o → b.get? d = some o) : Slo own a b := fun d o n e _ => ⟨o.slots, k d o n e⟩
theorem Slo.of_up {own : List Addr} {a b : Heap} (k : a.UpToSlots b) : Slo own a b := fun d o _ e f => k d o e f
/-- an exception of the class C flies, at the frames l; all that h held but own is there -/
structure Rz (own : List Addr) (l : List Env) (e C : Addr) (h h' : Heap) : Prop where
  fl : Ex2 fun B a0 => (∀ b o, b ∉ frs l → b ∉ own → h.get? b = some o → B.get? b = some o) ∧ Heap.FlyingW B l e (.ref C) a0 h'
  up : Slo own h h'
/-- what a frame owes that may be left by an exception -/
structure Ex (c : Cx) (L : Addr) (outer : List Env) (own : List Addr) (r : Heap) (XP : Addr → Prop) : Prop where
  fr : c.A.frames = some (c.env :: outer)
  ef : c.env.frame = some L
  ok : FrOK r outer
  Ln : r.get? L = none
  oo : ∀ a ∈ own, a ∉ frs outer
  on : ∀ C h' tk' e, XP C → Rz own (c.env :: outer) e C r h' → c.E (.ref e) (mk c.s h' tk')
  new : ∀ C h' tk' e oe vs a0, XP C → h'.get? e = some oe → oe.cls = .ref C → oe.data = .fields vs → vs[1]? = some .none → vs[0]? = some a0 → r.get? e = none → FrOK h' (c.env :: outer) →
    (∀ b o, b ∉ own → r.get? b = some o → h'.get? b = some o) → c.E (.ref e) (mk c.s h' tk')
structure SpecE (w : World) (f : Addr) (args : List Value) (own : List (Addr × Obj)) (D U : Nat) (h : Heap) (Post : Heap → Value → Prop) (XP : Addr → Prop) : Prop where
  run : ∀ (prog : Program) (A : Around) (s : Shared) (tk : Nat) (mg mb : Str → Option Value) (g : Heap) (outer : List Env) (Q E : Value → Shared → Prop), A.handled = none → A.depth + D < recursionLimit → A.units + U < cLine →
    Gd w mg mb g → g.StaysIn h → (∀ p ∈ own, h.get? p.1 = some p.2 ∧ g.get? p.1 = none) → A.frames = some outer → FrOK h outer → (∀ p ∈ own, p.1 ∉ frs outer) →
    (∀ h' tk' v, Go (own.map (·.1)) h h' → Post h' v → Q v (mk s h' tk')) → (∀ C h' tk' e, XP C → Rz (own.map (·.1)) outer e C h h' → E (.ref e) (mk s h' tk')) → wpAny (model prog w) A (call (.ref f) args) Q E (mk s h tk)
theorem Spec.toE {w : World} {f : Addr} {args : List Value} {own : List (Addr × Obj)} {D U : Nat} {h : Heap} {Post : Heap → Value → Prop} (sp : Spec w f args own D U h Post) (XP : Addr → Prop) : SpecE w f args own D U h Post XP :=
  ⟨fun prog A s tk mg mb g _ Q E hh hd hu G hg hw _ _ _ hQ _ => sp.run prog A s tk mg mb g Q E hh hd hu G hg hw hQ⟩
/-- entering a def that may raise -/
theorem specE_xs {w : World} {f : Addr} {args : List Value} {own : List (Addr × Obj)} {D U : Nat} {h : Heap} {Post : Heap → Value → Prop} {XP : Addr → Prop} {oc : Value} {od : Option Addr} {osl : Array (Option Value)}
    {name qual : Str} {params : Arguments} {body : List Stmt} {scope : Scope} {dV kV doc pm cdv ct : Value} {an : Option Addr} (ns : List Str) (np : Nat)
    (ho : (KF w).lookup f = some ⟨oc, od, .func (fnOf name qual params body scope dV kV doc pm an cdv ct), osl⟩) (hcd : codeIn (KF w) cdv qual = true)
    (hbind : ∀ s, (KF w).In s.heap → BindsTo s (fnOf name qual params body scope dV kV doc pm an cdv ct) ⟨args, []⟩ ((ns.take np).zip args)) (hlen : args.length = (ns.take np).length)
    (hloc : ((ns.take np).all fun y => decide (scope.names.lookup y = some .local)) = true) (hcell : ∀ x ∈ scope.names, x.2 ≠ .cell)
    (hsnd : (scope.names.map (·.1)).Nodup) (hdbg : ∀ p ∈ scope.names, (p.1 == ("__debug__" : Str)) = false) (hnd : ns.Nodup)
    (hod : (own.map (·.1)).Nodup) (hown : ∀ p ∈ own, ¬ IsT p.2)
    (hb : ∀ (c : Cx) (mg mb : Str → Option Value) (g h₁ : Heap) (L : Addr) (outer : List Env), c.w = w → Fc c L scope.names mg mb g D U → Ex c L outer (own.map (·.1)) h XP → (∀ b o, b ∉ own.map (·.1) → h.get? b = some o → g.get? b = some o) →
      St g L ns (args.map some ++ (ns.drop np).map fun _ => none) own h h₁ → XS c h₁ body fun fl h' => (g.StaysIn h' ∧ (∀ b, h'.get? b = none → h.get? b = none) ∧ TupK h h') ∧ Post h' (match fl with | .ret v => v | _ => .none))
    (hco : scope.isCoroutine = false := by rfl) (hgen : scope.isGenerator = false := by rfl) (hk : scope.kind = .function := by rfl) : SpecE w f args own (D + 1) (U + 3) h Post XP := by
  have z1 : (((ns.take np).zip args).map (·.1)) = ns.take np := List.map_fst_zip (by omega)
  have z2 : (((ns.take np).zip args).map (·.2)) = args := List.map_snd_zip (by omega)
  refine ⟨?_⟩
  intro prog A s tk mg mb g outer Q E hh hd hu G hg hw hfr hok hoo hQ hE
  have X : (KF w).In h := G.X.keeps hg
  refine wpAny_call ?_
  refine codeAny_call_def (s := mk s h tk) (fd := fnOf name qual params body scope dV kV doc pm an cdv ct) (body := body) (binds := (ns.take np).zip args) (by omega) (X _ _ ho) rfl (G.lim.keeps hg) (codeRec_of X hcd) rfl (hbind _ X) hcell (fun y hy => ?_) (fun h₁ hns₁ hk₁ => ?_) hco hgen hk
  · have := List.all_eq_true.mp hloc y.1 (List.of_mem_zip hy).1
    exact of_decide_eq_true this
  have hnn : ∀ p ∈ own, ∀ b o, g.get? b = some o → b ≠ p.1 := fun p hp b o e q => by
    rw [q, (hw p hp).2] at e; cases e
  have st : g.StaysIn (hideAll h (own.map (·.1))) := fun b o e => hideAll_get _ (hg b o e) fun hm => by
    obtain ⟨p, hp, rfl⟩ := List.mem_map.mp hm
    exact hnn p hp _ o e rfl
  have hL : h.get? h.objs.size = none := fresh_size
  generalize henv : callEnv (fnOf name qual params body scope dV kV doc pm an cdv ct) h.objs.size f = env
  have ef : env.frame = some h.objs.size := by rw [← henv]; rfl
  have ek : env.scope.kind ≠ .module := by
    rw [← henv]; show scope.kind ≠ .module; rw [hk]; decide
  have Fe : FnEnv env h.objs.size scope.names := by rw [← henv]; exact ⟨hk, rfl, rfl, rfl, rfl, hsnd, hdbg⟩
  have efr : frs (env :: outer) = h.objs.size :: frs outer := by show List.filterMap _ _ = _; rw [List.filterMap_cons, ef]
  have hfr2 := Around.frames_deeper (env := env) hfr
  show wpAny (model prog w) (A.deeper env) (execs body env) (fun fl s' => Q (match fl with | .ret v => v | _ => .none) s') (fun e s' => wpAny (model prog w) (A.deeper env) (leaving env e) (fun _ s'' => E e s'') (fun e' s'' => E e' s'') s') (mk s h₁ (tk + ((ns.take np).zip args).length))
  refine (hb ⟨prog, w, A.deeper env, env, s, fun e s' => wpAny (model prog w) (A.deeper env) (leaving env e) (fun _ s'' => E e s'') (fun e' s'' => E e' s'') s'⟩ mg mb (hideAll h (own.map (·.1))) h₁ h.objs.size outer rfl
    ⟨hh, by show A.depth + 1 + D < _; omega, by show A.units + 3 + U < _; omega, G.keeps fun b o e => st b o e, Fe, PassesOwn.leaving⟩
    ⟨hfr2, ef, hok, hL, fun a ha => ?_, fun C h' tk' e xp rz => ?_, fun C h' tk' e oe vs a0 xp he hc hd' h1 h0 en ok2 kp => ?_⟩ (fun b o n e => hideAll_get _ e n)
    ⟨hnd, ⟨?_, fun b o e => hk₁ b o (of_hideAll _ e), Nat.le_of_eq (hideAll_size _ _)⟩, fun p hp => ⟨hk₁ _ _ (hw p hp).1, Nat.ne_of_lt (Heap.lt_size (hw p hp).1), hideAll_none _ (List.mem_map_of_mem hp)⟩, hod, hown, .keep hk₁⟩).run _ _ fun fl h' tk' p => ?_
  · obtain ⟨p, hp, rfl⟩ := List.mem_map.mp ha
    exact hoo p hp
  · obtain ⟨⟨B, a0, kB, fl⟩, up⟩ := rz
    refine wpAny_leaves_onW hfr2 ef fl fun h'' fl' up' => hE C h'' tk' e xp ⟨⟨B, a0, fun b o n1 n2 e1 => kB b o ?_ n2 e1, fl'⟩, up.trans (.of_up up')⟩
    rw [efr, List.mem_cons, not_or]
    exact ⟨fun q => (by rw [q, hL] at e1; cases e1), n1⟩
  · have hB : ∀ b o, h'.get? b = some o → b ∉ frs outer → b ≠ h.objs.size → b ≠ e → (hideAll h' (e :: frs (env :: outer))).get? b = some o := fun b o e1 n1 n2 n3 => hideAll_get _ e1 fun hm => by
      rw [efr] at hm
      rcases List.mem_cons.mp hm with q | q
      · exact n3 q
      · rcases List.mem_cons.mp q with q | q
        · exact n2 q
        · exact n1 q
    refine wpAny_leaving_firstW (base := hideAll h' (e :: frs (env :: outer))) hfr2 (ok2.fun fun a ha => hideAll_none _ (.tail _ ha)) ef he (fun b o e1 => of_hideAll _ e1) (hideAll_none _ (.head _)) hd' h1 h0 fun h'' hl => ?_
    obtain ⟨k1, ⟨_, _, k2⟩, k3, k4⟩ := hl
    rw [hc] at k3
    refine hE C h'' tk' e xp ⟨⟨_, a0, fun b o n1 n2 e1 => hB b o (kp b o n2 e1) n1 (fun q => ?_) fun q => ?_, k1, hideAll_none _ (.head _), k2, k3⟩, fun b o n e1 nf => k4 b o (kp b o n e1) nf⟩
    · rw [q, hL] at e1; cases e1
    · rw [q, en] at e1; cases e1
  · have e : (fun x => ((ns.take np).zip args).reverse.lookup x) = lkp ns (args.map some ++ (ns.drop np).map fun _ => none) := by
      funext x
      have e1 := lkp_binds (ns.drop np) ((ns.take np).zip args) x
      rw [z1, List.take_append_drop] at e1
      have e2 : (((ns.take np).zip args).map fun p => some p.2) = args.map some := by
        rw [← z2, List.map_map, z2]; rfl
      rw [e2] at e1
      rw [e1, lookup_rev]
      rw [z1]
      exact (List.take_sublist np ns).nodup hnd
    rw [← e]; exact hns₁
  · obtain ⟨⟨k, d, t⟩, post⟩ := p
    exact hQ h' tk' _ ⟨fun b o n e => k b o (hideAll_get _ e n), d, t⟩ post
section
variable {c : Cx} {L : Addr} {sn : List (Str × NameKind)} {mg mb : Str → Option Value} {g h : Heap} {D U D' U' : Nat} {ns : List Str} {vs : List (Option Value)} {led own : List (Addr × Obj)} {r : Heap} {fa : Addr} {xs : List Value} {Post : Heap → Value → Prop} {P : Value → Heap → Prop}
  {outer : List Env} {oF : List Addr} {XP XP' : Addr → Prop}
theorem not_fields_ns {m : Str → Option Value} (hn : h.Ns L m) {o : Obj} (e : h.get? L = some o) : ∀ vs, o.data ≠ .fields vs := by
  intro vs hd
  obtain ⟨o', es, ep, ho, hd', _⟩ := hn
  rw [e] at ho; cases ho
  rw [hd] at hd'; cases hd'
theorem Ex.here (X : Ex c L outer oF r XP) (C : Fc c L sn mg mb g D U) (S : St g L ns vs led r h) (hled : ∀ a ∈ led.map (·.1), a ∈ oF ∨ r.get? a = none) : FrOK h (c.env :: outer) := by
  obtain ⟨o, es, ep, ho, hd⟩ := S.F.ns
  refine .cons (by rw [C.fe.kind]; decide) X.ef ho ⟨es, ep, hd.1⟩ (X.ok.slo (own := L :: led.map (·.1)) (.of_keep fun d o n e => S.go.K d o n e) fun a ha hm => ?_)
  obtain ⟨o', e', _⟩ := X.ok.mem hm
  rcases List.mem_cons.mp ha with q | q
  · rw [q, X.Ln] at e'; cases e'
  · rcases hled a q with q | q
    · exact X.oo a q hm
    · rw [q] at e'; cases e'
theorem Ex.ledo (X : Ex c L outer oF r XP) (S : St g L ns vs led r h) (hled : ∀ a ∈ led.map (·.1), a ∈ oF ∨ r.get? a = none) : ∀ p ∈ led, p.1 ∉ frs (c.env :: outer) := by
  intro p hp hm
  have e : frs (c.env :: outer) = L :: frs outer := by show List.filterMap _ _ = _; rw [List.filterMap_cons, X.ef]
  rw [e] at hm
  rcases List.mem_cons.mp hm with q | q
  · exact (S.N p hp).2.1 q
  · rcases hled _ (List.mem_map_of_mem hp) with z | z
    · exact X.oo _ z q
    · obtain ⟨o', e', _⟩ := X.ok.mem q
      rw [z] at e'; cases e'
theorem Ex.kp (X : Ex c L outer oF r XP) (S : St g L ns vs led r h) (hled : ∀ a ∈ led.map (·.1), a ∈ oF ∨ r.get? a = none) : ∀ b o, b ∉ oF → r.get? b = some o → h.get? b = some o ∧ b ∉ led.map (·.1) := by
  intro b o n e
  have n2 : b ∉ led.map (·.1) := fun hm => by
    rcases hled b hm with q | q
    · exact n q
    · rw [q] at e; cases e
  refine ⟨S.go.K b o (fun hm => ?_) e, n2⟩
  rcases List.mem_cons.mp hm with q | q
  · rw [q, X.Ln] at e; cases e
  · exact n2 q
theorem tr_specE (sp : SpecE c.w fa xs own D' U' h Post XP') (C : Fc c L sn mg mb g D U) (X : Ex c L outer oF r XP) (S : St g L ns vs led r h) (hd : D' ≤ D) (hu : U' ≤ U) (hown : ∀ p ∈ own, p ∈ led) (hled : ∀ a ∈ led.map (·.1), a ∈ oF ∨ r.get? a = none) (hx : ∀ C, XP' C → XP C)
    (q : ∀ h' v, Go (own.map (·.1)) h h' → Post h' v → P v h') : TR c h (call (.ref fa) xs) P :=
  ⟨fun tk Q hQ => sp.run c.prog c.A c.s tk mg mb g (c.env :: outer) _ _ C.hh (by have := C.hd; omega) (by have := C.hu; omega) C.G S.F.keep (fun p hp => ⟨(S.N p (hown p hp)).1, (S.N p (hown p hp)).2.2⟩) X.fr (X.here C S hled) (fun p hp => X.ledo S hled p (hown p hp))
    (fun h' tk' v go post => hQ _ _ _ (q h' v go post)) fun C' h' tk' e xp rz => X.on C' h' tk' e (hx _ xp) (by
      obtain ⟨⟨B, a0, kB, fl⟩, up⟩ := rz
      have ko : ∀ b, b ∉ led.map (·.1) → b ∉ own.map (·.1) := fun b n hm => by
        obtain ⟨p, hp, e⟩ := List.mem_map.mp hm
        exact n (e ▸ List.mem_map_of_mem (hown p hp))
      refine ⟨⟨B, a0, fun b o n1 n2 e1 => ?_, fl⟩, fun b o n e1 nf => ?_⟩
      · obtain ⟨e2, n3⟩ := X.kp S hled b o n2 e1
        exact kB b o n1 (ko b n3) e2
      · obtain ⟨e2, n3⟩ := X.kp S hled b o n e1
        exact up b o (ko b n3) e2 nf)⟩
end

/-! ## own exceptions with an __init__ -/
section
variable {prog : Program} {w : World} {A : Around} {E : Value → Shared → Prop} {h : Heap} {gs : Array GenState} {d : Drawn} {t : Nat} {os : OsState} {K : Frag} {C x : Addr} {o : Obj} {cd : ClassData} {name : Str} {v : Value} {vs : Array Value}
open Builtin Builtin.ObjectAttr in
/-- the first attribute of an exception -/
theorem exc_store {Q : Unit → Shared → Prop} (X : K.In h) (hx : h.get? x = some o) (hc : o.cls = .ref C) (hd : o.dict = none) (hf : o.data = .fields vs) (hcd : clsIn K C = some cd) (hhas : cd.hasDict = true) (hne : cd.mro.isEmpty = false)
    (hpass : ∀ self, refuseLoop self "__setattr__" cd.mro = pure ()) (hsub : cd.mro.contains (.type "object") = true) (hna : findIn K (.ref C) name = some none) (hsa : findIn K (.ref C) "__setattr__" = some (some (.builtin "object.__setattr__")))
    (hq : ∀ h' tk' dx, h'.get? x = some { o with dict := some dx } → (∀ b o', b ≠ x → h.get? b = some o' → h'.get? b = some o') → (∀ b, h'.get? b = none → h.get? b = none) → Q () ⟨h', gs, d, tk', os⟩) :
    wpAny (model prog w) A (setAttr (.ref x) name v) Q E ⟨h, gs, d, t, os⟩ := by
  have I : InstAt h x o C none := ⟨hx, hc, by unfold notCls; rw [hf], by rw [hd]; trivial⟩
  have SF := PySem.F.store_object
  have sub : Looks (model prog w) h (isInstance (.ref x) (.type "object")) true := I.type.andThen (looks_mroIn X (by unfold mroIn; rw [hcd, Option.bind_some, if_neg (by rw [hne]; decide), hsub]))
  have hm : Looks (model prog w) h (mroOf (.ref C)) cd.mro := (looks_clsIn X hcd).andThen .now
  refine set_plain X I hsa ?_
  refine codeAny_call_builtin SF.slot.plain SF.entry (@check_slot (model prog w) _ _ _ "object.__setattr__" "object" "__setattr__" (.ref x) [.str name t, v] [] _ SF.kind SF.split sub (SF.args (.ref x) (.str name t) v) ?_)
  rw [osa_eq, refuse_eq]
  refine wpAny_bind (wpAny_bind (I.type.here (wpAny_bind (hm.here ?_))))
  rw [hpass]
  refine wpAny_pure (wpAny_bind (I.type.here (wpAny_bind ((looks_findIn X hna).here ?_))))
  refine wpAny_bind (wpAny_pure (a := none) ?_)
  show wpAny _ _ (storeInOwnDict (.ref x) (.ref C) (.str name t) name v false) _ _ _
  unfold storeInOwnDict
  refine wpAny_bind (wpAny_pure (wpAny_bind ?_))
  show wpAny _ _ (instanceDict x true) _ _ _
  unfold instanceDict
  refine wpAny_bind (wpAny_loadPart hx ?_)
  rw [hc]
  refine wpAny_bind ((looks_clsIn X hcd).here ?_)
  rw [hhas, if_neg (by decide)]
  rw [hd]
  rw [if_neg (by simp [typeHasDict])]
  rw [hf]
  have hx₁ : (h.push { cls := .type "dict", data := .dict #[] }).get? x = some o := Heap.get?_push_of_some _ hx
  have hxs : x ≠ h.objs.size := Nat.ne_of_lt (Heap.lt_size hx)
  refine wpAny_bind (wpAny_alloc' ?_)
  refine wpAny_bind (wpAny_update' hx₁ ?_)
  refine wpAny_pure ?_
  have hgd : ((h.push { cls := .type "dict", data := .dict #[] }).update x fun o => { cls := o.cls, dict := some h.objs.size, data := o.data, slots := o.slots }).get? h.objs.size
      = some { cls := .type "dict", data := .dict #[] } :=
    (Heap.get?_update_ne _ _ _ _ hxs.symm).trans (Heap.get?_push_at rfl rfl)
  have hnd : ((h.push { cls := .type "dict", data := .dict #[] }).update x fun o => { cls := o.cls, dict := some h.objs.size, data := o.data, slots := o.slots }).Ns h.objs.size (fun _ => none) :=
    ⟨_, #[], _, hgd, rfl, fun e he => absurd he (by simp), fun _ => rfl⟩
  show wpAny _ _ (storeInDict h.objs.size (.str name t) name v) _ _ _
  unfold storeInDict newKeyGuard
  refine wpAny_bind (wpAny_pure (wpAny_bind (wpAny_nsSet1 (Heap.Ns1.of_empty hnd) fun h' hn' hs => ?_)))
  obtain ⟨oD, esD, epD, hoD, hdD, hcD⟩ := hn'.count (Within.cons name v Within.nil)
  refine wpAny_bind (wpAny_lookBehind hoD (by rw [hdD]; exact pastItsLine_dict (Nat.le_trans hcD (by rw [List.length_cons, List.length_nil, sizeLine_eq]; omega))) ?_)
  refine wpAny_pure ?_
  have hx' : h'.get? x = some { cls := o.cls, dict := some h.objs.size, data := o.data, slots := o.slots } := by
    refine (hs.2 x hxs).trans (Heap.get?_update_self _ hx₁ ?_)
    obtain ⟨oc, od, odt, osl⟩ := o
    cases hf
    rfl
  refine hq h' _ h.objs.size hx' (fun b ob hbx hb => ?_) fun b hb => ?_
  · exact (hs.2 b (Nat.ne_of_lt (Heap.lt_size hb))).trans ((Heap.get?_update_ne _ _ _ _ hbx).trans (Heap.get?_push_of_some _ hb))
  · cases q : h.get? b with
    | none => rfl
    | some ob =>
      by_cases hbx : b = x
      · rw [hbx, hx'] at hb; cases hb
      · rw [(hs.2 b (Nat.ne_of_lt (Heap.lt_size q))).trans ((Heap.get?_update_ne _ _ _ _ hbx).trans (Heap.get?_push_of_some _ q))] at hb; cases hb
end
abbrev bmV : List Value := [.type "ValueError", .type "Exception", .type "BaseException", .type "object"]
/-- a class of the program's below PageError -/
structure ExcC (w : World) (C : Addr) : Prop where
  cd : ∃ cd, clsIn (KF w) C = some cd ∧ cd.hasDict = true ∧ cd.mro = .ref C :: .ref 39 :: bmV
  sa : findIn (KF w) (.ref C) "__setattr__" = some (some (.builtin "object.__setattr__"))
  na : findIn (KF w) (.ref C) (Str.ofString "reason") = some none
  ini : findIn (KF w) (.ref C) "__init__" = some (some (.ref 36))
  fn : typeIn (KF w) (.ref 36) = some (.type "function")
  obj : Ex14 fun nm q N bs sn sub ab col dd k0 k1 k2 k3 k5 => (KF w).lookup C = some (excClassObj nm q C N bs (.ref 39 :: bmV) true sn sub ab col dd k0 k1 k2 k3 k5 "ValueError.__new__")
theorem excC_Runaway (w : World) : ExcC w 64 := ⟨⟨_, rfl, rfl, rfl⟩, by kernel_rfl, by kernel_rfl, by kernel_rfl, by kernel_rfl, ⟨_, _, _, _, _, _, _, _, _, _, _, _, _, _, rfl⟩⟩
theorem excC_OuterRefused (w : World) : ExcC w 76 := ⟨⟨_, rfl, rfl, rfl⟩, by kernel_rfl, by kernel_rfl, by kernel_rfl, by kernel_rfl, ⟨_, _, _, _, _, _, _, _, _, _, _, _, _, _, rfl⟩⟩
theorem excC_BadDefinition (w : World) : ExcC w 88 := ⟨⟨_, rfl, rfl, rfl⟩, by kernel_rfl, by kernel_rfl, by kernel_rfl, by kernel_rfl, ⟨_, _, _, _, _, _, _, _, _, _, _, _, _, _, rfl⟩⟩
section
variable {c : Cx} {h : Heap} {R : Flow → Heap → Prop} {rest : List Stmt} {o value : Expr} {attr : Str} {p' pos : Pos}
theorem xs_setattrG (q : EV c h value fun v h₁ => EV c h₁ o fun ov h₂ => TR c h₂ (setAttr ov attr v) fun _ h₃ => XS c h₃ rest R) (hs : swapsWith value (some (.Attribute o attr p')) pos.line c.env = pure false) : XS c h (.Assign [.Attribute o attr p'] value pos :: rest) R :=
  ⟨fun tk Q hQ => wpAny_execs_cons (plainObj_wpAny_Assign_Attribute (q.run tk _ fun v h₁ tk₁ p => p.run tk₁ _ fun v h₁ tk₁ p => p.run tk₁ _ fun v h₁ tk₁ p => p.run tk₁ Q hQ) hs)⟩
end
/-- binding, read off the written part -/
theorem binds_pk {K : Frag} {s : Shared} {fd : FuncData} {args : Args} {binds : List (Str × Value)} (X : K.In s.heap) (e : ∀ S, peek K S (bindArgs fd args) = some binds) : BindsTo s fd args binds := fun M _ _ _ q => (Looks.of_peek (M := M) X (e _)).here q
theorem page_init {w : World} {h : Heap} {e C : Addr} {oe : Obj} {vs : Array Value} {x : Str} {t : Tok} (EC : ExcC w C) (hc : oe.cls = .ref C) (hd : oe.dict = none) (hf : oe.data = .fields vs) :
    Spec w 36 [.ref e, .str x t] [(e, oe)] 1 4 h fun h' v => v = .none ∧ ∃ dx, h'.get? e = some { oe with dict := some dx } := by
  have nT : ∀ d, ¬ IsT { oe with dict := d } := fun d q => by
    obtain ⟨_, xs, n, q⟩ := q
    rw [show ({ oe with dict := d } : Obj).data = oe.data from rfl, hf] at q; cases q
  refine spec_xs (D := 0) (U := 1) [Str.ofString "self", Str.ofString "reason"] 2 rfl (by kernel_rfl) (fun _ X => binds_pk X fun S => rfl) rfl (by decide +kernel) (by decide) (by decide +kernel) (by decide +kernel) (by decide +kernel) (by simp) (by simpa using nT oe.dict) ?_
  intro c mg mb g h₁ L hw C' hk hL S
  dsimp only at C'
  subst hw
  refine xs_setattrG (EV.mono (pv_loc C' S (by (repeat' (first | exact Kd.head | apply Kd.tail))) (by (repeat' (first | exact Loc.head | apply Loc.tail)))) ?_) rfl
  rintro v h₂ ⟨rfl, rfl⟩
  refine EV.mono (pv_loc C' S (by (repeat' (first | exact Kd.head | apply Kd.tail))) (by (repeat' (first | exact Loc.head | apply Loc.tail)))) ?_
  rintro v h₂ ⟨rfl, rfl⟩
  obtain ⟨cd, hcd, hhas, hmro⟩ := EC.cd
  have he := (S.N _ (.head _)).1
  refine ⟨fun tk Q hQ => exc_store (w := c.w) (C'.G.X.keeps S.F.keep) he hc hd hf hcd hhas (by rw [hmro]; rfl) (fun self => ?_) (by rw [hmro, List.contains_cons, List.contains_cons, show bmV.contains (Value.type "object") = true from by decide, Bool.or_true, Bool.or_true]) EC.na EC.sa fun h' tk' dx e1 k1 d1 => hQ () h' tk' (xs_nil ⟨?_, rfl, dx, e1⟩)⟩
  · rw [hmro, refuseLoop_ref, refuseLoop_ref]
    exact PySem.F.store_ValueError.passes self
  · have go : Go [e] h₂ h' := ⟨fun b o' n e2 => k1 b o' (by simpa using n) e2, d1, fun a o' e2 t2 => k1 a o' (fun q => by
      rw [q, he] at e2; cases e2
      exact nT oe.dict t2) e2⟩
    exact (S.after1 .head go e1 (nT _)).fin
section
variable {prog : Program} {w : World} {A : Around} {E : Value → Shared → Prop} {h : Heap} {gs : Array GenState} {d : Drawn} {t : Nat} {os : OsState} {C : Addr}
variable {nm q : Str} {N : Addr} {bs bm : List Value} {hdct : Bool} {sn : List Str} {sub : List Value} {ab : Bool} {col : Option Bool} {dd : Option Addr} {k0 k1 k2 k3 k5 : Option Value} {B newId initId : String} {bmN : List Value}
theorem exc_check_new (Fn : ExcBaseFacts B newId initId bmN) (hB : bm.contains (.type B) = true) {rest : List Value} {M : Model} {Q : Unit → Shared → Prop} (hC : h.get? C = some (excClassObj nm q C N bs bm hdct sn sub ab col dd k0 k1 k2 k3 k5 newId))
    (hq : Q () ⟨h, gs, d, t, os⟩) : wpAny M A (checkBuiltinCall newId ⟨.ref C :: rest, []⟩) Q E ⟨h, gs, d, t, os⟩ := by
  have hcont : (Value.ref C :: bm).contains (.type B) = true := by rw [List.contains_cons, hB, Bool.or_true]
  have hstar := Fn.noStar
  unfold checkBuiltinCall
  rw [Fn.newKind]
  dsimp only
  rw [Fn.newSplit]
  dsimp only
  rw [Fn.newRow]
  dsimp only
  repeat (first | refine wpAny_loadPart_at hC ?_ | (refine wpAny_isSubtype_exc hC ?_; rw [hcont]) | refine wpAny_staticBase_exc hC ?_ | refine wpAny_madeBy_exc hC ?_ | simp only [bne_self_eq_false, Bool.false_eq_true, if_false] | wp_step)
  exact hq
theorem exc_new {R : Result → Shared → Prop} (Fn : ExcBaseFacts B newId initId bmN) (hB : bm.contains (.type B) = true) (hA : bm.contains (.type "AttributeError") = false) (hN : bm.contains (.type "NameError") = false) {rest : List Value}
    (hC : h.get? C = some (excClassObj nm q C N bs bm hdct sn sub ab col dd k0 k1 k2 k3 k5 newId))
    (hq : R (.ok (.ret (.ref (h.objs.size + 1)))) ⟨(h.push { cls := .type "tuple", data := .seq rest.toArray }).push { cls := .ref C, data := .fields #[.ref h.objs.size, .none, .none, .none, .bool false, .none] }, gs, d, t, os⟩) (hrest : rest.length ≤ sizeLine) :
    codeAny (model prog w) A (.builtin newId ⟨.ref C :: rest, []⟩) R ⟨h, gs, d, t, os⟩ := by
  have hends := Fn.ends
  have hcB : (Value.ref C :: bm).contains (.type B) = true := by rw [List.contains_cons, hB, Bool.or_true]
  have hcA : (Value.ref C :: bm).contains (.type "AttributeError") = false := by rw [List.contains_cons, hA]; rfl
  have hcN : (Value.ref C :: bm).contains (.type "NameError") = false := by rw [List.contains_cons, hN]; rfl
  refine codeAny_builtinAt Fn.entry ?_
  unfold Builtin.«BaseException.__new__»
  refine PySem.wpAt_bind ?_
  show PySem.wpAt _ _ _ (PySem.stack >>= _) _ _ _
  refine PySem.wpAt_bind (PySem.wpAt_stack fun p below => PySem.wpAt_of_wpAny ?_)
  wp_walk
  refine PySem.wpAt_of_wpAny ?_
  rw [Fn.owner]
  repeat (first | with_reducible refine wpAny_madeHere_exc Fn.canon hC ?_ | with_reducible refine wpAny_loadPart_at hC ?_ | (with_reducible refine wpAny_isSubtype_exc hC ?_; first | rw [hcB] | rw [hcA] | rw [hcN]) | wp_step)
  show R _ _
  rw [Heap.size_push]
  exact hq
end
theorem exc_call {prog : Program} {w : World} {A : Around} {E : Value → Shared → Prop} {h : Heap} {gs : Array GenState} {d : Drawn} {t : Nat} {os : OsState} {C : Addr} {rest : List Value} {Q : Value → Shared → Prop} (EC : ExcC w C) (X : (KF w).In h) (hrest : rest.length ≤ sizeLine)
    (hq : ∀ h' e t0, h'.get? e = some { cls := .ref C, data := .fields #[.ref t0, .none, .none, .none, .bool false, .none] } → h.get? e = none → (∀ b o, h.get? b = some o → h'.get? b = some o) →
      wpAny (model prog w) (A.under (.builtin "type.__call__" ⟨.ref C :: rest, []⟩)) (call (.ref 36) (.ref e :: rest)) (fun r s' => r = .none ∧ Q (.ref e) s') E ⟨h', gs, d, t, os⟩) :
    wpAny (model prog w) A (call (.ref C) rest) Q E ⟨h, gs, d, t, os⟩ := by
  obtain ⟨nm, q, N, bs, sn, sub, ab, col, dd, k0, k1, k2, k3, k5, hl⟩ := EC.obj
  have hC := X _ _ hl
  have Fn := PySem.F.excBase_ValueError
  have f1 := tc_lookup
  have f2 := tc_bind (.ref C)
  have hT : (⟨h, gs, d, t, os⟩ : Shared).TypeIs (.ref C) "type" := ⟨_, hC, rfl⟩
  refine wpAny_call (codeAny_of_tree ?_)
  show wpAny _ _ (callAny (.ref C) _) _ _ _
  repeat (any_goals (first | assumption | with_reducible refine wpAny_loadPart_at hC ?_ | wp_step))
  refine ⟨rfl, ?_⟩
  refine codeAny_call_builtin_at (Code.quiet_builtin _ (by decide +kernel)) entry_typeCall (wpAny_check_type_call_sub hC ?_)
  repeat (first | with_reducible refine wpAny_loadPart_at hC ?_ | with_reducible refine wpAny_madeBy_exc hC ?_ | wp_step)
  refine codeAny_call_builtin_code (Code.quiet_builtin _ Fn.quiet) (exc_check_new Fn (by decide) hC ?_)
  refine exc_new Fn (by decide) (by decide) (by decide) hC ?_ hrest
  show wpAny _ _ _ _ _ (⟨(h.push { cls := .type "tuple", data := .seq rest.toArray }).push { cls := .ref C, data := .fields #[.ref h.objs.size, .none, .none, .none, .bool false, .none] }, gs, d, t, os⟩ : Shared)
  have k2' : ∀ b o, h.get? b = some o → ((h.push { cls := .type "tuple", data := .seq rest.toArray }).push { cls := .ref C, data := .fields #[.ref h.objs.size, .none, .none, .none, .bool false, .none] }).get? b = some o := fun b o e => Heap.get?_push_of_some _ (Heap.get?_push_of_some _ e)
  have hget : ((h.push { cls := .type "tuple", data := .seq rest.toArray }).push { cls := .ref C, data := .fields #[.ref h.objs.size, .none, .none, .none, .bool false, .none] }).get? (h.objs.size + 1) = some
      { cls := .ref C, data := .fields #[.ref h.objs.size, .none, .none, .none, .bool false, .none] } := by heap_get
  have hne : h.get? (h.objs.size + 1) = none := Heap.get?_none_of_le (Nat.le_succ _)
  generalize (h.push { cls := .type "tuple", data := .seq rest.toArray }).push { cls := .ref C, data := .fields #[.ref h.objs.size, .none, .none, .none, .bool false, .none] } = h2 at k2' hget
  have X2 := X.keeps k2'
  have hC₁ := k2' _ _ hC
  have hcC : (Value.ref C :: (.ref 39 :: bmV)).contains (.ref C) = true := by simp
  unfold isInstance
  repeat (first | with_reducible refine wpAny_loadPart_at hget ?_ | (with_reducible refine wpAny_isSubtype_exc hC₁ ?_; rw [hcC]) | wp_step)
  show wpAny _ _ (typeLookup (.ref C) _) _ _ _
  refine (looks_findIn X2 EC.ini).here ?_
  refine wpAny_holding (wpAny_bind ((bind_fn X2 _ EC.fn).here ?_))
  refine wpAny_bind (wpAny_mono (hq _ _ _ hget hne k2') (fun r s' hr => ?_) fun _ _ x => x)
  obtain ⟨rfl, hQ⟩ := hr
  wp_walk
  exact hQ

theorem exc_raiseStmt {M : Model} {A : Around} {E : Value → Shared → Prop} {env : Env} {nm q : Str} {C N : Addr} {bs bm : List Value} {hdct : Bool} {sn : List Str} {sub : List Value} {ab : Bool} {col : Option Bool} {dd : Option Addr} {k0 k1 k2 k3 k5 : Option Value} {newId : String}
    {s : Shared} {x : Sem Value} {Q : Flow → Shared → Prop} (hbase : bm.contains (.type "BaseException") = true) (hh : A.handled = none)
    (h : wpAny M A x (fun v s₁ => Ex3 fun e dx t => v = .ref e ∧ s₁.heap.get? C = some (excClassObj nm q C N bs bm hdct sn sub ab col dd k0 k1 k2 k3 k5 newId) ∧ s₁.heap.get? e = some { cls := .ref C, dict := some dx, data := .fields #[.ref t, .none, .none, .none, .bool false, .none] } ∧ E (.ref e) s₁) E s) :
    wpAny M A (raiseStmt env (some x) none) Q E s := by
  have hcB : (Value.ref C :: bm).contains (.type "BaseException") = true := by rw [List.contains_cons, hbase, Bool.or_true]
  unfold raiseStmt
  refine wpAny_bind (wpAny_mono h (fun v s₁ h₁ => ?_) fun _ _ x => x)
  obtain ⟨e, dx, t, rfl, hC, he, hE⟩ := h₁
  obtain ⟨hp, g, d, tk, os⟩ := s₁
  repeat (first | with_reducible refine wpAny_loadPart_at he ?_ | with_reducible refine wpAny_loadPart_at hC ?_ | (with_reducible refine wpAny_isSubtype_exc hC ?_; rw [hcB]) | wp_step)
  exact wpAny_raiseNew_none hh hE
section
variable {c : Cx} {L : Addr} {sn : List (Str × NameKind)} {mg mb : Str → Option Value} {g h : Heap} {D U : Nat} {ns : List Str} {vs : List (Option Value)} {led : List (Addr × Obj)} {r : Heap} {outer : List Env} {oF : List Addr} {XP : Addr → Prop} {R : Flow → Heap → Prop}
theorem xs_raise {x m : Str} {np sp cpos pos : Pos} {kk : Nat} {Ca : Addr} {rest : List Stmt} (C : Fc c L sn mg mb g D U) (X : Ex c L outer oF r XP) (S : St g L ns vs led r h) (hled : ∀ a ∈ led.map (·.1), a ∈ oF ∨ r.get? a = none) (k : Kd sn x .globalImplicit) (gl : nsIn (KF c.w) mainGlobals x = some (some (.ref Ca)))
    (EC : ExcC c.w Ca) (kp : keepIn (KF c.w) (.ref Ca) = true) (xp : XP Ca) (hD : 2 ≤ D) (hU : 5 ≤ U) : XS c h (.Raise (some (.Call (.Name x np) [.Constant (.str m) kk sp] [] cpos)) none pos :: rest) R := by
  obtain ⟨nm, q, N, bs, sn', sub, ab, col, dd, k0, k1, k2, k3, k5, hl⟩ := EC.obj
  have XK := C.G.X.keeps S.F.keep
  have hsl : sizeLine = 16777216 := sizeLine_eq
  refine ⟨fun tk Q hQ => wpAny_execs_cons ?_⟩
  rw [arm_exec_Raise]
  refine wpAny_bind (wpAny_standAt (exc_raiseStmt (C := Ca) (nm := nm) (q := q) (N := N) (bs := bs) (bm := .ref 39 :: bmV) (hdct := true) (sn := sn') (sub := sub) (ab := ab) (col := col) (dd := dd) (k0 := k0) (k1 := k1) (k2 := k2) (k3 := k3) (k5 := k5) (newId := "ValueError.__new__") (by decide) C.hh
    (wpAny_bind (wpAny_mono (wpAny_Call_ofName ((pv_glob C S k gl).run tk _ fun v h' tk' p => ?_)) (fun v s₃ h₃ => wpAny_bind (wpAny_standAt (wpAny_pure h₃))) fun _ _ x => x))))
  obtain ⟨rfl, rfl⟩ := p
  refine callWith_K (h₀ := g) C.G.X kp (spliced_more ((pv_str (c := c) (h := h')).run tk' _ fun v h₁ tk₁ p => spliced_none ?_))
  obtain ⟨⟨t, rfl⟩, rfl⟩ := p
  refine ⟨XK, ?_⟩
  refine exc_call EC XK (by simp [hsl]) fun h₂ e t0 he hn hk => ?_
  have G2 : Gd c.w mg mb (hideAll h₂ [e]) := C.G.keeps fun b o e1 => hideAll_get _ (hk _ _ (S.F.keep b o e1)) fun hm => by
    have := S.F.keep b o e1
    rw [List.mem_singleton.mp hm, hn] at this; cases this
  refine (page_init (oe := { cls := .ref Ca, data := .fields #[.ref t0, .none, .none, .none, .bool false, .none] }) EC rfl rfl rfl).run c.prog _ c.s tk₁ mg mb (hideAll h₂ [e]) _ _ C.hh ?_ ?_ G2 (fun b o e1 => of_hideAll _ e1) (fun p hp => ?_) fun h' tk' v go post => ?_
  · have := C.hd
    show c.A.depth + 1 + 1 < _
    omega
  · have := C.hu
    show c.A.units + 1 + 4 < _
    omega
  · rw [List.mem_singleton.mp hp]
    exact ⟨he, hideAll_none _ (.head _)⟩
  · obtain ⟨rfl, dx, e2⟩ := post
    have hkk : ∀ b o, h₁.get? b = some o → h'.get? b = some o := fun b o e1 => go.K b o (fun hm => by
      have hm : b ∈ [e] := hm
      rw [List.mem_singleton.mp hm, hn] at e1; cases e1) (hk b o e1)
    refine ⟨rfl, e, dx, t0, rfl, hkk _ _ (XK _ _ hl), e2, X.new Ca h' tk' e _ _ (.ref t0) xp e2 rfl rfl rfl rfl (S.go.D _ hn) ((X.here C S hled).slo (own := []) (.of_keep fun d o _ e1 => hkk d o e1) (by simp)) fun b o n e1 => hkk _ _ (X.kp S hled b o n e1).1⟩
end

/-! ## objects of own classes -/
section
variable {c : Cx} {L : Addr} {sn : List (Str × NameKind)} {mg mb : Str → Option Value} {g h : Heap} {D U : Nat} {ns : List Str} {vs : List (Option Value)} {led : List (Addr × Obj)} {r : Heap} {x Ca dx fI : Addr} {es : List DictEntry} {nn : Nat} {attr name n f : Str} {v : Value} {pos np fp p' ap : Pos} {P : Value → Heap → Prop} {R : Flow → Heap → Prop} {rest : List Stmt} {o value e e0 : Expr}
theorem inst_at (hx : h.get? x = some (instObj Ca dx)) (hdx : h.get? dx = some (dictOf es nn)) : InstAt h x (instObj Ca dx) Ca (some (dictOf es nn)) := ⟨hx, rfl, rfl, hdx⟩
/-- a field of an object -/
theorem pv_attr (C : Fc c L sn mg mb g D U) (S : St g L ns vs led r h) (hv : PV c h (.Name n np) (.ref x)) (hx : h.get? x = some (instObj Ca dx)) (hdx : h.get? dx = some (dictOf es nn)) (hg : plainGet (KF c.w) Ca attr = true) (hh : hasDictIn (KF c.w) Ca = true) (ha : findIn (KF c.w) (.ref Ca) attr = some none)
    (hl : getL attr es = some (some v)) (hv' : handedIn v = true) : PV c h (.Attribute (.Name n np) attr pos) v :=
  ⟨fun tk Q hQ => Attribute_name (hv.run tk _ fun v' h' tk' p => by
    obtain ⟨rfl, rfl⟩ := p
    exact get_own (s := mk c.s h' tk') S.F C.G.X (inst_at hx hdx) hg hh ha rfl hl hv' (hQ _ _ _ ⟨rfl, rfl⟩))⟩
/-- a field stored -/
theorem xs_setI (C : Fc c L sn mg mb g D U) (q : EV c h value fun v h₁ => Ex6 fun vs₁ led₁ r₁ es nn f => St g L ns vs₁ led₁ r₁ h₁ ∧ Up led₁ dx (dictOf es nn) f ∧ h₁.get? x = some (instObj Ca dx) ∧ PV c h₁ o (.ref x) ∧ (getL attr es).isSome = true ∧ es.length ≤ 100 ∧
      ∀ t h₂, St g L ns vs₁ (f (dictOf (putL attr (PyData.keyHash c.w.params attr) (.str attr t) v es) (putN attr es nn))) r₁ h₂ → TupK h₁ h₂ → XS c h₂ rest R)
    (hsa : findIn (KF c.w) (.ref Ca) "__setattr__" = some (some (.builtin "object.__setattr__"))) (hp : plainOver (KF c.w) Ca = true) (ht : takerIn (KF c.w) Ca attr = some none) (hh : hasDictIn (KF c.w) Ca = true)
    (hs : swapsWith value (some (.Attribute o attr p')) pos.line c.env = pure false) : XS c h (.Assign [.Attribute o attr p'] value pos :: rest) R := by
  refine xs_setattrG (q.mono fun v h₁ p => ?_) hs
  obtain ⟨vs₁, led₁, r₁, es, nn, f, S, up, hx, qo, hl, hz, k⟩ := p
  refine qo.mono fun v' h₂ p => ?_
  obtain ⟨rfl, rfl⟩ := p
  refine ⟨fun tk Q hQ => ?_⟩
  have hdx := (S.N _ up.mem).1
  have hput : (putL attr (PyData.keyHash c.w.params attr) (.str attr (tk + 1)) v es).length ≤ es.length + 1 := by
    clear k hl hdx
    clear up
    induction es with
    | nil => exact Nat.le_refl _
    | cons e es ih =>
      unfold putL
      split
      · simp
      · simp only [List.length_cons] at hz ⊢
        have := ih (by omega)
        omega
  have nT : ∀ es nn, ¬ IsT (dictOf es nn) := fun es nn q => by
    obtain ⟨q, _⟩ := q
    exact absurd (show Value.type "dict" = Value.type "tuple" from q) (by decide)
  obtain ⟨T, N, hT, back⟩ := S.re.lift
  refine set_dict (s := mk c.s h₂ tk) S.F C.G.X N (inst_at hx hdx) rfl hsa hp ht hh hl rfl (up.upd S.ld _ (up.notin hT)) (Nat.le_trans hput (by omega)) fun h' F' N2 => hQ () h' _ ?_
  have S2 := back F' N2 (by rw [up.keys]; exact S.ld) (up.lt S.lt (nT _ _)) (by rw [up.keys]; exact fun _ h => h)
  exact k _ h' (S.then S2 (by rw [up.keys]; exact fun _ h => h)) S2.go.T
/-- an object made -/
theorem ev_new {es : List Expr} (hf : PV c h (.Name f fp) (.ref Ca)) (kp : keepIn (KF c.w) (.ref Ca) = true) (hm : makesIn (KF c.w) Ca = true) (hi : findIn (KF c.w) (.ref Ca) "__init__" = some (some (.ref fI))) (hfn : isFn (KF c.w) (.ref fI) = true) (C : Fc c L sn mg mb g D U)
    (q : EA c h (e0 :: es) fun xs h₁ => Ex3 fun vs₁ led₁ r₁ => St g L ns vs₁ led₁ r₁ h₁ ∧ ∀ x dx h₂, h₁.get? x = none → h₁.get? dx = none → St g L ns vs₁ ((x, instObj Ca dx) :: (dx, dictOf [] 0) :: led₁) r₁ h₂ → St g L ns vs₁ ((x, instObj Ca dx) :: (dx, dictOf [] 0) :: led₁) h₁ h₂ →
      Ex4 fun (own : List (Addr × Obj)) (Post : Heap → Value → Prop) (D' U' : Nat) => Spec c.w fI (.ref x :: xs) own D' U' h₂ Post ∧ D' + 1 ≤ D ∧ U' + 1 ≤ U ∧ (∀ p ∈ own, p ∈ (x, instObj Ca dx) :: (dx, dictOf [] 0) :: led₁) ∧ ∀ h₃ v, Go (own.map (·.1)) h₂ h₃ → Post h₃ v → v = .none ∧ P (.ref x) h₃)
    (he : starEach (e0 :: es) c.env = (false, eval e0 c.env) :: starEach es c.env) (hpl : (backTo pos (starEach es c.env)).any (·.1) = false) : EV c h (.Call (.Name f fp) (e0 :: es) [] pos) P := by
  refine ⟨fun tk Q hQ => Call_ (hf.run tk _ fun v h' tk' p => ?_) rfl⟩
  obtain ⟨rfl, rfl⟩ := p
  refine callWith_K (h₀ := g) C.G.X kp ((q pos).run tk' _ fun xs h₁ tk₁ p => ?_) he hpl
  obtain ⟨vs₁, led₁, r₁, S, k⟩ := p
  refine ⟨C.G.X.keeps S.F.keep, ?_⟩
  have XK := C.G.X.keeps S.F.keep
  have k1 : ∀ b o, h₁.get? b = some o → ((h₁.push emptyDict).push (instObj Ca h₁.objs.size)).get? b = some o := fun b o e => Heap.get?_push_of_some _ (Heap.get?_push_of_some _ e)
  have hd2 : ((h₁.push emptyDict).push (instObj Ca h₁.objs.size)).get? h₁.objs.size = some emptyDict := Heap.get?_push_of_some _ (Heap.get?_push_size _ rfl)
  have hx2 : ((h₁.push emptyDict).push (instObj Ca h₁.objs.size)).get? (h₁.objs.size + 1) = some (instObj Ca h₁.objs.size) := by
    have := Heap.get?_push_size (h₁.push emptyDict) (o := instObj Ca h₁.objs.size) rfl
    rwa [Heap.size_push] at this
  have nx : h₁.get? (h₁.objs.size + 1) = none := fresh_ge (Nat.le_succ _)
  have nd : h₁.get? h₁.objs.size = none := fresh_size
  have nxd : h₁.objs.size + 1 ≠ h₁.objs.size := Nat.succ_ne_self _
  have nT : ∀ es nn, ¬ IsT (dictOf es nn) := fun es nn q => by
    obtain ⟨q, _⟩ := q
    exact absurd (show Value.type "dict" = Value.type "tuple" from q) (by decide)
  have nTi : ¬ IsT (instObj Ca h₁.objs.size) := fun q => by
    obtain ⟨q, _⟩ := q
    cases q
  refine wpAny_call (make_core (makes_of XK hm) (looks_findIn XK hi) (fun self => bind_fn XK self (beq_iff_eq.mp hfn)) (.inl rfl) ?_)
  generalize (h₁.push emptyDict).push (instObj Ca h₁.objs.size) = h₂ at k1 hd2 hx2
  generalize h₁.objs.size + 1 = x at hx2 nx nxd
  generalize h₁.objs.size = dx at hd2 hx2 nd nxd nTi
  have Sa := (S.keepAll k1).add hd2 nd S (fun _ h => h) (nT [] 0)
  have Sb := (S.re.keepAll k1).add hd2 nd S.re (fun _ h => h) (nT [] 0)
  have fin : ∀ {r}, St g L ns vs₁ ((dx, dictOf [] 0) :: led₁) r h₂ → St g L ns vs₁ ((x, instObj Ca dx) :: (dx, dictOf [] 0) :: led₁) r h₂ := fun {r} Sa => by
    refine ⟨Sa.nd, Sa.F, fun p hp => ?_, ?_, ?_, Sa.go.mono fun w hw => ?_⟩
    · rcases List.mem_cons.mp hp with rfl | hp
      · refine ⟨hx2, ?_, none_at nx S.F.keep⟩
        rintro rfl
        obtain ⟨o, _, _, e, _⟩ := S.F.ns
        rw [nx] at e; cases e
      · exact Sa.N p hp
    · rw [List.map_cons, List.nodup_cons]
      refine ⟨fun hm => ?_, Sa.ld⟩
      rcases List.mem_cons.mp hm with q | q
      · exact nxd q
      · obtain ⟨p, hp, e⟩ := List.mem_map.mp q
        have := (S.N p hp).1
        rw [e] at this
        have : h₁.get? x = some p.2 := this
        rw [nx] at this; cases this
    · intro p hp
      rcases List.mem_cons.mp hp with rfl | hp
      · exact nTi
      · exact Sa.lt p hp
    · rcases List.mem_cons.mp hw with rfl | hw
      · exact List.mem_cons_self
      · exact List.mem_cons_of_mem _ (List.mem_cons_of_mem _ hw)
  obtain ⟨own, Post, D', U', sp, hD, hU, ho, kk⟩ := k x dx h₂ nx nd (fin Sa) (fin Sb)
  refine sp.runC c.prog _ c.s tk₁ mg mb g _ C.hh ?_ ?_ C.G (fin Sa).F.keep (fun p hp => ⟨((fin Sa).N p (ho p hp)).1, ((fin Sa).N p (ho p hp)).2.2⟩) fun h₃ tk₃ v go post => ?_
  · have := C.hd
    show c.A.depth + 1 + D' < _
    omega
  · have := C.hu
    show c.A.units + 1 + U' < _
    omega
  · obtain ⟨rfl, pp⟩ := kk h₃ v go post
    exact ⟨rfl, hQ _ _ _ pp⟩
/-- methods of an object -/
theorem ev_methI0 (C : Fc c L sn mg mb g D U) (S : St g L ns vs led r h) (qo : PV c h o (.ref x)) (hx : h.get? x = some (instObj Ca dx)) (hdx : h.get? dx = some (dictOf es nn)) (hg : plainGet (KF c.w) Ca name = true) (hf : findIn (KF c.w) (.ref Ca) name = some (some (.ref fI))) (ht : isFn (KF c.w) (.ref fI) = true) (hl : getL name es = some none) (kp : keepIn (KF c.w) (.ref fI) = true)
    (q : TR c h (call (.ref fI) [.ref x]) P) {pl : Sem Bool}
    (hmc : eval (.Call (.Attribute o name ap) [] [] pos) c.env = (do
      let ov ← eval o c.env
      standAt ap.atName
      let (f, first) ← holding [ov] (getMethod ov name pl)
      callWith pos f first (backTo pos (starEach [] c.env)) [])) : EV c h (.Call (.Attribute o name ap) [] [] pos) P :=
  ⟨fun tk Q hQ => by
    refine PyProof.Rows.MethodCall_ (he := hmc) ?_
    refine qo.run tk _ ?_
    rintro v h' tk' ⟨rfl, rfl⟩
    refine method_inst (s := mk c.s h' tk') S.F C.G.X (inst_at hx hdx) hg hf ht hl ?_
    exact callWith_K0 (C.G.X.keeps S.F.keep) kp (q.run tk' _ hQ)⟩
theorem ev_methI1 (C : Fc c L sn mg mb g D U) (S : St g L ns vs led r h) (qo : PV c h o (.ref x)) (hx : h.get? x = some (instObj Ca dx)) (hdx : h.get? dx = some (dictOf es nn)) (hg : plainGet (KF c.w) Ca name = true) (hf : findIn (KF c.w) (.ref Ca) name = some (some (.ref fI))) (ht : isFn (KF c.w) (.ref fI) = true) (hl : getL name es = some none) (kp : keepIn (KF c.w) (.ref fI) = true)
    (q : EV c h e fun v h₁ => g.StaysIn h₁ ∧ TR c h₁ (call (.ref fI) [.ref x, v]) P) (he : starEach [e] c.env = (false, eval e c.env) :: starEach [] c.env) {pl : Sem Bool}
    (hmc : eval (.Call (.Attribute o name ap) [e] [] pos) c.env = (do
      let ov ← eval o c.env
      standAt ap.atName
      let (f, first) ← holding [ov] (getMethod ov name pl)
      callWith pos f first (backTo pos (starEach [e] c.env)) [])) : EV c h (.Call (.Attribute o name ap) [e] [] pos) P :=
  ⟨fun tk Q hQ => by
    refine PyProof.Rows.MethodCall_ (he := hmc) ?_
    refine qo.run tk _ ?_
    rintro v h' tk' ⟨rfl, rfl⟩
    refine method_inst (s := mk c.s h' tk') S.F C.G.X (inst_at hx hdx) hg hf ht hl ?_
    exact callWith_K (h₀ := g) C.G.X kp (spliced_more (he := he) (q.run tk' _ fun v h₁ tk₁ p => spliced_none ⟨C.G.X.keeps p.1, p.2.run tk₁ _ hQ⟩)) he⟩
end

/-! ## leaner forms: what follows is asked for at once -/
section
variable {c : Cx} {L : Addr} {sn : List (Str × NameKind)} {mg mb : Str → Option Value} {g h : Heap} {D U : Nat} {ns : List Str} {vs : List (Option Value)} {led : List (Addr × Obj)} {r : Heap} {x n f name : Str} {v : Value} {pos np fp p' ap : Pos} {P : Value → Heap → Prop} {R : Flow → Heap → Prop} {rest body orelse : List Stmt} {o value e e0 e1 e2 e3 test : Expr} {i j : Int} {t : Int × Int} {k : Nat}
theorem EV.pv (q : PV c h e v) (k : P v h) : EV c h e P := ⟨fun tk Q hQ => q.run tk Q fun v' h' tk' p => hQ _ _ _ (by rw [p.1, p.2]; exact k)⟩
theorem EV.pi (q : PI c h e i) (k : ∀ t, P (.int i t) h) : EV c h e P := ⟨fun tk Q hQ => q.run tk Q fun v' h' tk' p => hQ _ _ _ (by
  obtain ⟨⟨t, rfl⟩, rfl⟩ := p
  exact k t)⟩
theorem EV.pk (q : PK c h e t) (k : ∀ v, TokAt h v t → P v h) : EV c h e P := ⟨fun tk Q hQ => q.run tk Q fun v' h' tk' p => hQ _ _ _ (by
  obtain ⟨a, rfl⟩ := p
  exact k _ a)⟩
theorem ev_str {s : Str} (q : ∀ t, P (.str s t) h) : EV c h (.Constant (.str s) k pos) P := ⟨fun tk Q hQ => e_str fun t tk' => hQ _ _ _ (q t)⟩
theorem xs_ifP {p : Prop} {d : Decidable p} (q : PT c h test (decide p)) (q1 : p → XS c h body (andThen c rest R)) (q2 : ¬ p → XS c h orelse (andThen c rest R)) : XS c h (.If test body orelse pos :: rest) R :=
  xs_if q (fun e => q1 (of_decide_eq_true e)) fun e => q2 (of_decide_eq_false e)
theorem xs_thru (q : XS c h rest R) : XS c h [] (andThen c rest R) := xs_nil q
theorem pt_of {p p' : Bool} (q : PT c h test p) (e : p = p') : PT c h test p' := e ▸ q
theorem pt_dec {p q : Prop} {d : Decidable p} [d' : Decidable q] (x : PT c h test (decide p)) (e : p ↔ q) : PT c h test (decide q) := pt_of x (decide_eq_decide.mpr e)
/-- a name set to what is known -/
theorem xs_set {vs' : List (Option Value)} (C : Fc c L sn mg mb g D U) (S : St g L ns vs led r h) (q : PV c h e v) (k : Kd sn x .local) (l : SetL ns vs x v vs') (hs : swapsWith e (some (.Name x p')) pos.line c.env = pure false)
    (hr : ∀ h', St g L ns vs' led r h' → St g L ns vs' led h h' → XS c h' rest R) : XS c h (.Assign [.Name x p'] e pos :: rest) R :=
  xs_assign (ns := ns) (EV.pv q ⟨_, _, _, _, _, S, l, hr⟩) C k hs
inductive LetQ (c : Cx) (g : Heap) (L : Addr) (ns : List Str) (x : Str) (rest : List Stmt) (R : Flow → Heap → Prop) (v : Value) (h₁ : Heap) : Prop
  | mk (vs₁ : List (Option Value)) (led₁ : List (Addr × Obj)) (r₁ : Heap) (vs' : List (Option Value)) : St g L ns vs₁ led₁ r₁ h₁ → SetL ns vs₁ x v vs' → (∀ h', St g L ns vs' led₁ r₁ h' → St g L ns vs' led₁ h₁ h' → XS c h' rest R) → LetQ c g L ns x rest R v h₁
/-- a name set to what an expression with effects gives -/
theorem xs_let (C : Fc c L sn mg mb g D U) (k : Kd sn x .local) (hs : swapsWith e (some (.Name x p')) pos.line c.env = pure false)
    (q : EV c h e (LetQ c g L ns x rest R)) : XS c h (.Assign [.Name x p'] e pos :: rest) R :=
  xs_assign (ns := ns) (q.mono fun v h₁ p => by
    obtain ⟨vs₁, led₁, r₁, vs', S, l, k⟩ := p
    exact ⟨g, vs₁, led₁, r₁, vs', S, l, k⟩) C k hs
/-- calls of defs by name, arguments that change nothing -/
theorem ev_call1 {fa : Addr} {v1 : Value} (C : Fc c L sn mg mb g D U) (S : St g L ns vs led r h) (kf : Kd sn f .globalImplicit) (gl : nsIn (KF c.w) mainGlobals f = some (some (.ref fa))) (fn : IsFn c.w fa) (h1 : PV c h e1 v1) (q : TR c h (call (.ref fa) [v1]) P)
    (he1 : ∀ es, starEach (e1 :: es) c.env = (false, eval e1 c.env) :: starEach es c.env) : EV c h (.Call (.Name f fp) [e1] [] pos) P :=
  ev_call (pv_glob C S kf gl) fn C S (ea_cons (EV.pv h1 (ea_nil ⟨S.F.keep, q⟩)) (he1 _)) (he1 _)
theorem ev_call2 {fa : Addr} {v1 v2 : Value} (C : Fc c L sn mg mb g D U) (S : St g L ns vs led r h) (kf : Kd sn f .globalImplicit) (gl : nsIn (KF c.w) mainGlobals f = some (some (.ref fa))) (fn : IsFn c.w fa) (h1 : PV c h e1 v1) (h2 : PV c h e2 v2) (q : TR c h (call (.ref fa) [v1, v2]) P)
    (he1 : ∀ es, starEach (e1 :: es) c.env = (false, eval e1 c.env) :: starEach es c.env) (he2 : ∀ es, starEach (e2 :: es) c.env = (false, eval e2 c.env) :: starEach es c.env) : EV c h (.Call (.Name f fp) [e1, e2] [] pos) P :=
  ev_call (pv_glob C S kf gl) fn C S (ea_cons (EV.pv h1 (ea_cons (EV.pv h2 (ea_nil ⟨S.F.keep, q⟩)) (he2 _))) (he1 _)) (he1 _)
theorem ev_call3 {fa : Addr} {i1 i2 i3 : Int} (C : Fc c L sn mg mb g D U) (S : St g L ns vs led r h) (kf : Kd sn f .globalImplicit) (gl : nsIn (KF c.w) mainGlobals f = some (some (.ref fa))) (fn : IsFn c.w fa) (h1 : PI c h e1 i1) (h2 : PI c h e2 i2) (h3 : PI c h e3 i3) (q : ∀ t1 t2 t3, TR c h (call (.ref fa) [.int i1 t1, .int i2 t2, .int i3 t3]) P)
    (he1 : ∀ es, starEach (e1 :: es) c.env = (false, eval e1 c.env) :: starEach es c.env) (he2 : ∀ es, starEach (e2 :: es) c.env = (false, eval e2 c.env) :: starEach es c.env) (he3 : ∀ es, starEach (e3 :: es) c.env = (false, eval e3 c.env) :: starEach es c.env) : EV c h (.Call (.Name f fp) [e1, e2, e3] [] pos) P :=
  ev_call (pv_glob C S kf gl) fn C S (ea_cons (EV.pi h1 fun t1 => ea_cons (EV.pi h2 fun t2 => ea_cons (EV.pi h3 fun t3 => ea_nil ⟨S.F.keep, q t1 t2 t3⟩) (he3 _)) (he2 _)) (he1 _)) (he1 _)
/-- isinstance of a value, against a built-in type -/
theorem pb_isi {T : String} {b : Bool} {tn : Str} {tp : Pos} (C : Fc c L sn mg mb g D U) (S : St g L ns vs led r h) (k : Kd sn (Str.ofString "isinstance") .globalImplicit) (kt : Kd sn tn .globalImplicit) (gt : nsIn (KF c.w) mainGlobals tn = some none) (bt : bootBuiltins tn = some (.type T)) (hn : tn ≠ "__name__") (h1 : PV c h e1 v)
    (q : TR c h (call (.builtin "isinstance") [v, .type T]) fun v h' => v = .bool b ∧ h' = h)
    (he1 : ∀ es, starEach (e1 :: es) c.env = (false, eval e1 c.env) :: starEach es c.env) (he2 : starEach [.Name tn tp] c.env = (false, eval (.Name tn tp) c.env) :: starEach [] c.env) : PB c h (.Call (.Name (Str.ofString "isinstance") fp) [e1, .Name tn tp] [] pos) b :=
  ⟨fun tk Q hQ => Call_ ((pv_bi C S k (gl_isinstance _) (by boot_fast) (by decide)).run tk _ fun v h' tk' p => by
    obtain ⟨rfl, rfl⟩ := p
    refine PyProof.Rows.callWith_builtin1 ?_ (he1 _) (by simp [backTo, he2]; exact fun _ h => nomatch h)
    refine spliced_more (he := he1 _) (h1.run tk' _ fun v h₁ tk₁ p => ?_)
    obtain ⟨rfl, rfl⟩ := p
    refine spliced_more (he := he2) ((pv_bi C S kt gt bt hn).run tk₁ _ fun v h₁ tk₁ p => spliced_none ?_)
    obtain ⟨rfl, rfl⟩ := p
    exact q.run tk₁ Q hQ)⟩
theorem pb_not {b : Bool} (q : PB c h e b) : PB c h (.UnaryOp .Not e pos) (!b) := ⟨fun tk Q hQ => PyProof.Rows.UnaryOp_ (q.run tk _ fun v h' tk' p => by
  obtain ⟨rfl, rfl⟩ := p
  exact wpAny_bind (t_bool (wpAny_pure (hQ _ _ _ ⟨rfl, rfl⟩))))⟩
end

/-- entering a def: the end kept apart -/
theorem spec_K {w : World} {f : Addr} {args : List Value} {own : List (Addr × Obj)} {D U : Nat} {h : Heap} {Post : Heap → Value → Prop} {oc : Value} {od : Option Addr} {osl : Array (Option Value)}
    {name qual : Str} {params : Arguments} {body : List Stmt} {scope : Scope} {dV kV doc pm cdv ct : Value} {an : Option Addr} (ns : List Str) (np : Nat)
    (ho : (KF w).lookup f = some ⟨oc, od, .func (fnOf name qual params body scope dV kV doc pm an cdv ct), osl⟩) (hcd : codeIn (KF w) cdv qual = true)
    (hbind : ∀ s, (KF w).In s.heap → BindsTo s (fnOf name qual params body scope dV kV doc pm an cdv ct) ⟨args, []⟩ ((ns.take np).zip args)) (hlen : args.length = (ns.take np).length)
    (hloc : ((ns.take np).all fun y => decide (scope.names.lookup y = some .local)) = true) (hcell : ∀ x ∈ scope.names, x.2 ≠ .cell)
    (hsnd : (scope.names.map (·.1)).Nodup) (hdbg : ∀ p ∈ scope.names, (p.1 == ("__debug__" : Str)) = false) (hnd : ns.Nodup)
    (hod : (own.map (·.1)).Nodup) (hown : ∀ p ∈ own, ¬ IsT p.2)
    (hb : ∀ (c : Cx) (mg mb : Str → Option Value) (g h₁ : Heap) (L : Addr) (R : Flow → Heap → Prop), c.w = w → Fc c L scope.names mg mb g D U → (∀ b o, b ∉ own.map (·.1) → h.get? b = some o → g.get? b = some o) →
      St g L ns (args.map some ++ (ns.drop np).map fun _ => none) own h h₁ → (∀ {vs led h' v}, St g L ns vs led h h' → Post h' v → R (.ret v) h') → (∀ {vs led h'}, St g L ns vs led h h' → Post h' .none → R .next h') → XS c h₁ body R)
    (hco : scope.isCoroutine = false := by rfl) (hgen : scope.isGenerator = false := by rfl) (hk : scope.kind = .function := by rfl) : Spec w f args own (D + 1) (U + 3) h Post :=
  spec_xs ns np ho hcd hbind hlen hloc hcell hsnd hdbg hnd hod hown (fun c mg mb g h₁ L hw C hk _ S => hb c mg mb g h₁ L _ hw C hk S (fun S p => ⟨S.fin, p⟩) fun S p => ⟨S.fin, p⟩) hco hgen hk
theorem specE_K {w : World} {f : Addr} {args : List Value} {own : List (Addr × Obj)} {D U : Nat} {h : Heap} {Post : Heap → Value → Prop} {XP : Addr → Prop} {oc : Value} {od : Option Addr} {osl : Array (Option Value)}
    {name qual : Str} {params : Arguments} {body : List Stmt} {scope : Scope} {dV kV doc pm cdv ct : Value} {an : Option Addr} (ns : List Str) (np : Nat)
    (ho : (KF w).lookup f = some ⟨oc, od, .func (fnOf name qual params body scope dV kV doc pm an cdv ct), osl⟩) (hcd : codeIn (KF w) cdv qual = true)
    (hbind : ∀ s, (KF w).In s.heap → BindsTo s (fnOf name qual params body scope dV kV doc pm an cdv ct) ⟨args, []⟩ ((ns.take np).zip args)) (hlen : args.length = (ns.take np).length)
    (hloc : ((ns.take np).all fun y => decide (scope.names.lookup y = some .local)) = true) (hcell : ∀ x ∈ scope.names, x.2 ≠ .cell)
    (hsnd : (scope.names.map (·.1)).Nodup) (hdbg : ∀ p ∈ scope.names, (p.1 == ("__debug__" : Str)) = false) (hnd : ns.Nodup)
    (hod : (own.map (·.1)).Nodup) (hown : ∀ p ∈ own, ¬ IsT p.2)
    (hb : ∀ (c : Cx) (mg mb : Str → Option Value) (g h₁ : Heap) (L : Addr) (outer : List Env) (R : Flow → Heap → Prop), c.w = w → Fc c L scope.names mg mb g D U → Ex c L outer (own.map (·.1)) h XP → (∀ b o, b ∉ own.map (·.1) → h.get? b = some o → g.get? b = some o) →
      St g L ns (args.map some ++ (ns.drop np).map fun _ => none) own h h₁ → (∀ {vs led h' v}, St g L ns vs led h h' → Post h' v → R (.ret v) h') → (∀ {vs led h'}, St g L ns vs led h h' → Post h' .none → R .next h') → XS c h₁ body R)
    (hco : scope.isCoroutine = false := by rfl) (hgen : scope.isGenerator = false := by rfl) (hk : scope.kind = .function := by rfl) : SpecE w f args own (D + 1) (U + 3) h Post XP :=
  specE_xs ns np ho hcd hbind hlen hloc hcell hsnd hdbg hnd hod hown (fun c mg mb g h₁ L outer hw C X hk S => hb c mg mb g h₁ L outer _ hw C X hk S (fun S p => ⟨S.fin, p⟩) fun S p => ⟨S.fin, p⟩) hco hgen hk
/-! ## is_whole, is_token, check_tokens -/
theorem whole_spec {w : World} {h : Heap} {v lo hi : Int} {t1 t2 t3 : Tok} : Spec w 97 [.int v t1, .int lo t2, .int hi t3] [] 1 3 h fun _ r => r = .bool (decide (lo ≤ v ∧ v ≤ hi)) := by
  refine spec_K (D := 0) (U := 0) [Str.ofString "value", Str.ofString "low", Str.ofString "high"] 3 rfl (by kernel_rfl) (fun _ _ => BindsTo.of_eq rfl) rfl (by decide +kernel) (by decide) (by decide +kernel) (by decide +kernel) (by decide +kernel) (by simp) (by simp) ?_
  intro c mg mb g h₁ L R hw C hk S hR _
  dsimp only at C
  subst hw
  have i1 : ∀ {pos}, PI c h₁ (.Name (Str.ofString "value") pos) v := fun {pos} => pi_loc C S (by (repeat' (first | exact Kd.head | apply Kd.tail))) (by (repeat' (first | exact Loc.head | apply Loc.tail)))
  refine xs_ret (ev_andC (EV.pv (pb_isi (b := true) C S (by (repeat' (first | exact Kd.head | apply Kd.tail))) (by (repeat' (first | exact Kd.head | apply Kd.tail))) (gl_int _) (by boot_fast) (by decide) (pv_loc C S (by (repeat' (first | exact Kd.head | apply Kd.tail))) (by (repeat' (first | exact Loc.head | apply Loc.tail)))) ⟨fun tk Q hQ => PySem.IsiPair.int_int (hQ _ _ _ ⟨rfl, rfl⟩)⟩ (fun _ => rfl) rfl) ⟨true, rfl, fun e => (nomatch e), fun _ =>
    ev_andC (EV.pv (pb_not (pb_isi (b := false) C S (by (repeat' (first | exact Kd.head | apply Kd.tail))) (by (repeat' (first | exact Kd.head | apply Kd.tail))) (gl_bool _) (by boot_fast) (by decide) (pv_loc C S (by (repeat' (first | exact Kd.head | apply Kd.tail))) (by (repeat' (first | exact Loc.head | apply Loc.tail)))) ⟨fun tk Q hQ => PySem.IsiPair.int_bool (hQ _ _ _ ⟨rfl, rfl⟩)⟩ (fun _ => rfl) rfl)) ⟨true, rfl, fun e => (nomatch e), fun _ => ev_one
      (ev_chain2 (p1 := decide (lo ≤ v)) (pi_loc C S (by (repeat' (first | exact Kd.head | apply Kd.tail))) (by (repeat' (first | exact Loc.head | apply Loc.tail)))) i1 (fun _ _ => tr_le) (fun e => hR S ?_) (fun e => EV.pi (pi_loc C S (by (repeat' (first | exact Kd.head | apply Kd.tail))) (by (repeat' (first | exact Loc.head | apply Loc.tail)))) fun t u => tr_le.mono fun v h p => ?_) (by with_unfolding_all rfl))⟩)⟩))
  · have := of_decide_eq_false e
    rw [decide_eq_false (fun q => this q.1)]
  · obtain ⟨rfl, rfl⟩ := p
    have := of_decide_eq_true e
    exact hR S (congrArg _ (decide_eq_decide.mpr ⟨fun q => ⟨this, q⟩, fun q => q.2⟩))
theorem te_or3 {c : Cx} {h : Heap} {e1 e2 e3 : Expr} {pos : Pos} {P : Bool → Heap → Prop} (q : TE c h e1 fun b h₁ => if b then P true h₁ else TE c h₁ e2 fun b h₂ => if b then P true h₂ else TE c h₂ e3 P) : TE c h (.BoolOp .Or [e1, e2, e3] pos) P := ⟨fun tk Q hQ => PyProof.Rows.isTrue_or (q.run tk _ fun b h₁ tk' p => by
  cases b
  · refine PyProof.Rows.isTrue_or (p.run tk' _ fun b h' tk' p => ?_)
    cases b
    · refine PyProof.Rows.isTrue_or (p.run tk' _ fun b h' tk' p => ?_)
      cases b
      · exact PyProof.Rows.isTrue_or_nil (hQ _ _ _ p)
      · exact hQ _ _ _ p
    · exact hQ _ _ _ p
  · exact hQ _ _ _ p)⟩
theorem te_not {c : Cx} {h : Heap} {e : Expr} {pos : Pos} {P : Bool → Heap → Prop} (q : TE c h e fun b h' => P (!b) h') : TE c h (.UnaryOp .Not e pos) P := ⟨fun tk Q hQ => PyProof.Rows.isTrue_not (q.run tk _ fun b h' tk' p => hQ _ _ _ p)⟩
theorem least_tup (w : World) : Ex3 fun o xs n => (KF w).lookup 110 = some o ∧ o.cls = .type "tuple" ∧ o.data = .seq (List.toArray xs) n ∧ IV xs leastL := ⟨_, _, _, rfl, rfl, rfl, by unfold leastL; repeat' constructor⟩
theorem great_tup (w : World) : Ex3 fun o xs n => (KF w).lookup 111 = some o ∧ o.cls = .type "tuple" ∧ o.data = .seq (List.toArray xs) n ∧ IV xs greatL := ⟨_, _, _, rfl, rfl, rfl, by unfold greatL; repeat' constructor⟩
section
variable {c : Cx} {L : Addr} {sn : List (Str × NameKind)} {mg mb : Str → Option Value} {g h : Heap} {D U : Nat} {ns : List Str} {vs : List (Option Value)} {led : List (Addr × Obj)} {r : Heap} {x : Str} {pos : Pos} {o ix : Expr} {i : Int} {a : Addr} {t : Int × Int} {kk : Nat} {kp : Pos} {P : Value → Heap → Prop}
/-- an item of a tuple of ints that the program holds -/
theorem pi_tabI {Ta : Addr} {is : List Int} {j : Nat} (C : Fc c L sn mg mb g D U) (S : St g L ns vs led r h) (k : Kd sn x .globalImplicit) (gl : nsIn (KF c.w) mainGlobals x = some (some (.ref Ta))) (ht : Ex3 fun o xs n => (KF c.w).lookup Ta = some o ∧ o.cls = .type "tuple" ∧ o.data = .seq (List.toArray xs) n ∧ IV xs is)
    (hi : PI c h ix (j : Nat)) (hx : is[j]? = some i) (hz : is.length ≤ 100) (hs : ∀ t, subscripted ix false (.ref Ta) (.int (j : Nat) t) = operate [.ref Ta, .int (j : Nat) t] (getItem (.ref Ta) (.int (j : Nat) t))) : PI c h (.Subscript (.Name x kp) ix pos) i := by
  obtain ⟨ob, xs, n, hl, hc, hd, iv⟩ := ht
  obtain ⟨t, hw⟩ := iv.get hx
  have hlen := iv.length
  have hj : j < is.length := by
    rcases Nat.lt_or_ge j is.length with q | q
    · exact q
    · rw [List.getElem?_eq_none q] at hx; cases hx
  have e : seqIndex? (j : Int) xs.length = some j := by
    unfold seqIndex?
    have h1 : ¬ ((j : Int) < 0) := by omega
    have h2 : (0 : Int) ≤ (j : Int) := by omega
    have h3 : (j : Int) < (xs.length : Int) := by omega
    simp [h1, h2, h3]
  exact pi_titem (pv_glob C S k gl) hi ⟨ob, S.F.keep _ _ (C.G.X _ _ hl), hc, n, hd⟩ (by omega) (by omega) e hw hs
theorem tok_item0 (it : IsTup h a [Value.int t.1 t1, .int t.2 t2].toArray) (hv : PV c h o (.ref a)) (hs : ∀ t, subscripted (.Constant (.int 0) kk kp) false (.ref a) (.int 0 t) = operate [.ref a, .int 0 t] (getItem (.ref a) (.int 0 t))) : PI c h (.Subscript o (.Constant (.int 0) kk kp) pos) t.1 :=
  pi_titem hv pi_const it (by decide) (by decide) (jn := 0) rfl rfl hs
theorem tok_item1 (it : IsTup h a [Value.int t.1 t1, .int t.2 t2].toArray) (hv : PV c h o (.ref a)) (hs : ∀ t, subscripted (.Constant (.int 1) kk kp) false (.ref a) (.int 1 t) = operate [.ref a, .int 1 t] (getItem (.ref a) (.int 1 t))) : PI c h (.Subscript o (.Constant (.int 1) kk kp) pos) t.2 :=
  pi_titem hv pi_const it (by decide) (by decide) (jn := 1) rfl rfl hs
theorem ev_whole {e1 e2 e3 : Expr} {fp : Pos} {v lo hi : Int} (C : Fc c L sn mg mb g D U) (hD : 1 ≤ D) (hU : 3 ≤ U) (S : St g L ns vs led r h) (k : Kd sn (Str.ofString "is_whole") .globalImplicit) (h1 : PI c h e1 v) (h2 : PI c h e2 lo) (h3 : PI c h e3 hi)
    (q : ∀ h', St g L ns vs led r h' → (∀ b o, h.get? b = some o → h'.get? b = some o) → P (.bool (decide (lo ≤ v ∧ v ≤ hi))) h')
    (he1 : ∀ es, starEach (e1 :: es) c.env = (false, eval e1 c.env) :: starEach es c.env) (he2 : ∀ es, starEach (e2 :: es) c.env = (false, eval e2 c.env) :: starEach es c.env) (he3 : ∀ es, starEach (e3 :: es) c.env = (false, eval e3 c.env) :: starEach es c.env) : EV c h (.Call (.Name (Str.ofString "is_whole") fp) [e1, e2, e3] [] pos) P :=
  ev_call3 C S k (gl_is_whole _) (fn_is_whole _) h1 h2 h3 (fun t1 t2 t3 => tr_spec whole_spec C S hD hU (by simp) fun h' v go post => by
    rw [post]
    exact q h' (S.after0 go) fun b o e => go.K b o (by simp) e) he1 he2 he3
end
theorem token_spec {w : World} {h : Heap} {v : Value} {t : Int × Int} (ht : TokAt h v t) (hv : tokV t = true) : Spec w 118 [v] [] 2 6 h fun _ r => r = .bool true := by
  obtain ⟨a, t1, t2, rfl, it⟩ := ht
  refine spec_K (D := 1) (U := 3) [Str.ofString "token"] 1 rfl (by kernel_rfl) (fun _ _ => BindsTo.of_eq rfl) rfl (by decide +kernel) (by decide) (by decide +kernel) (by decide +kernel) (by decide +kernel) (by simp) (by simp) ?_
  intro c mg mb g h₁ L R hw C hk S hR _
  dsimp only at C
  subst hw
  simp only [tokV, Bool.and_eq_true, decide_eq_true_eq] at hv
  obtain ⟨⟨⟨b1, b2⟩, b3⟩, b4⟩ := hv
  have itg : IsTup g a [Value.int t.1 t1, .int t.2 t2].toArray := it.keeps fun b o e => hk b o (by simp) e
  have it1 := itg.keeps S.F.keep
  refine xs_ifE (te_or3 (te_not (te_pt (pt_val (pb_isi (b := true) C S (by (repeat' (first | exact Kd.head | apply Kd.tail))) (by (repeat' (first | exact Kd.head | apply Kd.tail))) (gl_tuple _) (by boot_fast) (by decide) (pv_loc C S (by (repeat' (first | exact Kd.head | apply Kd.tail))) (by (repeat' (first | exact Loc.head | apply Loc.tail)))) ⟨fun tk Q hQ => ?_⟩ (fun _ => rfl) rfl) rfl) ?_)))
  · obtain ⟨o, ho, hc, _⟩ := id it1
    exact PySem.IsiPair.tuple_tuple (s := Mine.mk c.s h₁ tk) ho hc (hQ _ _ _ ⟨rfl, rfl⟩)
  refine te_pt (pt_ne (ev_lenT C S (by (repeat' (first | exact Kd.head | apply Kd.tail))) (pv_loc C S (by (repeat' (first | exact Kd.head | apply Kd.tail))) (by (repeat' (first | exact Loc.head | apply Loc.tail)))) it1 (by show 2 < 2 ^ 62; decide) rfl) pi_const rfl) ?_
  refine te_not (te_ev (ev_whole C (by decide) (by decide) S (by (repeat' (first | exact Kd.head | apply Kd.tail))) (tok_item0 it1 (pv_loc C S (by (repeat' (first | exact Kd.head | apply Kd.tail))) (by (repeat' (first | exact Loc.head | apply Loc.tail)))) fun _ => by with_unfolding_all rfl) pi_const pi_const (fun h₂ S2 k2 => ⟨_, rfl, ?_⟩) (fun _ => rfl) (fun _ => rfl) fun _ => rfl) rfl)
  rw [decide_eq_true (show 0 ≤ t.1 ∧ t.1 ≤ 15 from ⟨b1, by omega⟩)]
  refine xs_thru (xs_ret ?_)
  have it2 := it1.keeps k2
  have e0 : (t.1.toNat : Int) = t.1 := by omega
  have g0 : leastL[t.1.toNat]? = some (leastL.getD t.1.toNat 0) := by
    rw [List.getD_eq_getElem?_getD, List.getElem?_eq_getElem (by show t.1.toNat < 16; omega)]; rfl
  have g1 : greatL[t.1.toNat]? = some (greatL.getD t.1.toNat 0) := by
    rw [List.getD_eq_getElem?_getD, List.getElem?_eq_getElem (by show t.1.toNat < 16; omega)]; rfl
  have i0 : ∀ {p : Pos}, PI c h₂ (.Subscript (.Name (Str.ofString "token") p) (.Constant (.int 0) 0 p) p) t.1 := fun {p} => tok_item0 it2 (pv_loc C S2 (by (repeat' (first | exact Kd.head | apply Kd.tail))) (by (repeat' (first | exact Loc.head | apply Loc.tail)))) fun _ => by with_unfolding_all rfl
  refine ev_whole C (by decide) (by decide) S2 (by (repeat' (first | exact Kd.head | apply Kd.tail))) (tok_item1 it2 (pv_loc C S2 (by (repeat' (first | exact Kd.head | apply Kd.tail))) (by (repeat' (first | exact Loc.head | apply Loc.tail)))) fun _ => by with_unfolding_all rfl)
    (pi_tabI C S2 (by (repeat' (first | exact Kd.head | apply Kd.tail))) (gl_LEAST_CODES _) (least_tup _) (by rw [e0]; exact tok_item0 it2 (pv_loc C S2 (by (repeat' (first | exact Kd.head | apply Kd.tail))) (by (repeat' (first | exact Loc.head | apply Loc.tail)))) fun _ => by with_unfolding_all rfl) g0 (by decide) fun _ => by with_unfolding_all rfl)
    (pi_tabI C S2 (by (repeat' (first | exact Kd.head | apply Kd.tail))) (gl_GREATEST_CODES _) (great_tup _) (by rw [e0]; exact tok_item0 it2 (pv_loc C S2 (by (repeat' (first | exact Kd.head | apply Kd.tail))) (by (repeat' (first | exact Loc.head | apply Loc.tail)))) fun _ => by with_unfolding_all rfl) g1 (by decide) fun _ => by with_unfolding_all rfl) (fun h₃ S3 _ => hR S3 ?_) (fun _ => rfl) (fun _ => rfl) fun _ => rfl
  rw [decide_eq_true ⟨b3, b4⟩]
section
variable {c : Cx} {L : Addr} {sn : List (Str × NameKind)} {mg mb : Str → Option Value} {g h : Heap} {D U : Nat} {ns : List Str} {vs : List (Option Value)} {led : List (Addr × Obj)} {r : Heap} {x : Str} {pos px : Pos} {R : Flow → Heap → Prop}
/-- a for over a list or a tuple: the turn's end is a predicate of its own -/
theorem xs_forT {iter : Expr} {body rest : List Stmt} (C : Fc c L sn mg mb g D U) (k : Kd sn x .local)
    (q : EV c h iter fun xv h₁ => Ex5 fun (n : Nat) (Pw : Nat → Value → Prop) (vs : List (Option Value)) (led : List (Addr × Obj)) (X : Nat → List (Option Value) → List (Addr × Obj) → Heap → Prop) => SrcOK c xv h₁ n Pw ∧ (∀ b, xv = .ref b → b ≠ L ∧ b ∉ led.map (·.1)) ∧ St g L ns vs led r h₁ ∧ X 0 vs led h₁ ∧
      (∀ i vs led h h', X i vs led h → TupK h h' → X i vs led h') ∧
      (∀ i v vs led' h₂ T, i < n → Pw i v → St g L ns vs led' h₂ h₂ → led'.map (·.1) = led.map (·.1) → X i vs led' h₂ → (∀ {vs led' h₃}, St g L ns vs led' h₂ h₃ → led'.map (·.1) = led.map (·.1) → X (i + 1) vs led' h₃ → T .next h₃) → (∀ {v h'}, R (.ret v) h' → T (.ret v) h') →
        ∃ vs', SetL ns vs x v vs' ∧ ∀ h₃, St g L ns vs' led' h₂ h₃ → XS c h₃ body T) ∧
      (∀ vs led' h₅, St g L ns vs led' r h₅ → led'.map (·.1) = led.map (·.1) → X n vs led' h₅ → XS c h₅ rest R))
    (hs : ∀ x, foldedSetIterable iter c.env x = pure x) : XS c h (.For (.Name x px) iter body [] pos :: rest) R := by
  refine xs_for (g := g) (ns := ns) (r := r) C (q.mono fun xv h₁ p => ⟨fun tk Q hQ => ?_⟩) k hs
  obtain ⟨n, Pw, vs, led, X, src, nb, S, x0, xst, turn, done⟩ := p
  refine src.run tk _ fun it h₂ tk₂ p => hQ _ _ _ ?_
  obtain ⟨It, fp, Sw, rfl, W, sw, n0, k12, hfp, hsw⟩ := p
  refine ⟨led.map (·.1), n, It, fp, Pw, Sw, X, rfl, W, sw, fun b hb => (hfp b hb).imp_right fun q => nb b q.2, hsw, ⟨h₁, _, _, _, S, fun b hb => ?_, n0, S.go.D⟩, ⟨vs, led, S.keepAll k12, rfl, xst _ _ _ _ _ x0 fun a o e _ => k12 a o e⟩, xst, ?_, done⟩
  · obtain ⟨p, hp, rfl⟩ := List.mem_map.mp hb
    rw [(S.N p hp).1]; exact fun q => nomatch q
  · intro i v vs led' h₂ hi pv S₂ e₂ x₂
    exact turn i v vs led' h₂ _ hi pv S₂ e₂ x₂ (fun {vs led h₃} S e x => ⟨vs, led, S, e, x⟩) fun {v h'} p => p
end
theorem check_spec {w : World} {h : Heap} {ta : Addr} {ts : List (Int × Int)} (hT : TL h ta ts) (hv : ts.all tokV = true) : Spec w 125 [.ref ta] [] 3 9 h fun _ r => r = .none := by
  refine spec_K (D := 2) (U := 6) [Str.ofString "tokens", Str.ofString "token"] 1 rfl (by kernel_rfl) (fun _ _ => BindsTo.of_eq rfl) rfl (by decide +kernel) (by decide) (by decide +kernel) (by decide +kernel) (by decide +kernel) (by simp) (by simp) ?_
  intro c mg mb g h₁ L R hw C hk S _ hE
  dsimp only at C
  subst hw
  have hg : TL g ta ts := hT.keep fun b o e => hk b o (by simp) e
  obtain ⟨xs, n, ea, tt⟩ := id hg
  have ea1 := S.F.keep _ _ ea
  refine xs_forT C (by (repeat' (first | exact Kd.head | apply Kd.tail))) (EV.pv (pv_loc C S (by (repeat' (first | exact Kd.head | apply Kd.tail))) (by (repeat' (first | exact Loc.head | apply Loc.tail)))) ⟨_, _, _, _, fun _ vs led _ => ∃ z, vs = [some (.ref ta), z] ∧ led = [], src_list C.hh (isL ea1), fun b e => ?_, S, ⟨_, rfl, rfl⟩, fun _ _ _ _ _ x _ => x, ?_, ?_⟩) fun _ => rfl
  · cases e
    exact ⟨fun q => (by rw [q, Fr.lnone S.F] at ea; cases ea), by simp⟩
  · rintro i v vs led h₂ T hi pv S2 e2 ⟨z, rfl, rfl⟩ hN _
    refine ⟨_, by (repeat' (first | exact SetL.head | apply SetL.tail)), fun h₃ S3 => ?_⟩
    have hx : ts[i]? = some (ts[i]'(by rw [← tt.length]; exact hi)) := List.getElem?_eq_getElem _
    obtain ⟨v', hv', tv⟩ := tt.get hx
    rw [pv] at hv'
    cases hv'
    have tv3 : TokAt h₃ v _ := tv.mono fun a o e _ => S3.F.keep a o e
    refine xs_ifE (te_not (te_ev (ev_call1 C S3 (by (repeat' (first | exact Kd.head | apply Kd.tail))) (gl_is_token _) (fn_is_token _) (pv_loc C S3 (by (repeat' (first | exact Kd.head | apply Kd.tail))) (by (repeat' (first | exact Loc.head | apply Loc.tail)))) (tr_spec (token_spec tv3 (List.all_eq_true.mp hv _ (List.getElem_mem _))) C S3 (by decide) (by decide) (by simp) fun h' v go post => ⟨true, post, ?_⟩) fun _ => rfl) rfl))
    exact xs_thru (xs_nil (hN (S3.after0 go) rfl ⟨_, rfl, rfl⟩))
  · rintro vs led h₂ S2 e2 ⟨z, rfl, rfl⟩
    exact xs_nil (hE S2 rfl)

/-! ## TokenFeed -/
theorem range_pick (l : List Value) : (List.range l.length).filterMap (fun k => l[k]?) = l := by
  have h := pick_run l.toArray 0 l.length
  rw [List.filterMap_map] at h
  simpa [Function.comp_def] using h
theorem filterMap_on {α β : Type} {l : List α} {f g : α → Option β} (h : ∀ x ∈ l, f x = g x) : l.filterMap f = l.filterMap g := by
  induction l with
  | nil => rfl
  | cons x l ih => rw [List.filterMap_cons, List.filterMap_cons, h x (.head _), ih fun y hy => h y (.tail _ hy)]
theorem pick_rev (l : List Value) : slicePick l.toArray none none (some (-1)) = l.reverse.toArray := by
  have hb : sliceBounds none none (some (-1)) l.toArray.size = ((l.length : Int) - 1, -1, -1) := rfl
  unfold slicePick
  rw [hb]
  congr 1
  have hr : sliceRange ((l.length : Int) - 1) (-1) (-1) = (List.range l.length).map fun k => l.length - 1 - k := by
    unfold sliceRange
    rcases Nat.eq_zero_or_pos l.length with z | z
    · rw [z]; rfl
    · have h2 : (l.length : Int) - 1 > -1 := by omega
      have h3 : ((l.length : Int) - 1 - -1 - -1 - 1) / (- -1) = (l.length : Int) := by
        have : (- -1 : Int) = 1 := by decide
        rw [this, Int.ediv_one]; omega
      rw [if_neg (by decide), if_pos h2, h3]
      dsimp only
      rw [Int.toNat_natCast]
      refine List.map_congr_left fun k hk => ?_
      have := List.mem_range.mp hk
      omega
  dsimp only
  rw [hr, List.filterMap_map, ← range_pick l.reverse, List.length_reverse]
  refine filterMap_on fun k hk => ?_
  have hk := List.mem_range.mp hk
  show l.toArray[l.length - 1 - k]? = l.reverse[k]?
  rw [List.getElem?_reverse hk, List.getElem?_toArray]
section
variable {c : Cx} {L : Addr} {sn : List (Str × NameKind)} {mg mb : Str → Option Value} {g h : Heap} {D U : Nat} {ns : List Str} {vs : List (Option Value)} {led : List (Addr × Obj)} {r : Heap} {pos fp sp : Pos} {P : Value → Heap → Prop} {value st e : Expr} {xs : List Value} {la : Addr}
/-- l[::-1] -/
theorem ev_rev (q : EV c h value fun v h₁ => Ex8 fun la xs g' L' ns' vs' led' r' => v = .ref la ∧ h₁.IsList la (List.toArray xs) ∧ xs.length ≤ sizeLine ∧ St g' L' ns' vs' led' r' h₁ ∧
      ∀ d h₂, h₁.get? d = none → St g' L' ns' vs' ((d, listOf xs.reverse.toArray 0) :: led') r' h₂ → St g' L' ns' vs' ((d, listOf xs.reverse.toArray 0) :: led') h₁ h₂ → P (.ref d) h₂)
    (hst : ∀ h, PI c h st (-1)) (hs : ∀ la a, ∃ ops, subscripted (.Slice none none (some st) sp) false (.ref la) (.ref a) = operate ops (getItem (.ref la) (.ref a))) : EV c h (.Subscript value (.Slice none none (some st) sp) pos) P := by
  refine ⟨fun tk Q hQ => e_sub (q.run tk _ fun v h₁ tk₁ p => ?_)⟩
  obtain ⟨la, xs, g', L', ns', vs', led', r', rfl, hl, hz, S, k⟩ := p
  refine wpAny_Slice (wpAny_pure (wpAny_pure ((hst h₁).run tk₁ _ fun v h₂ tk₂ p => ?_)))
  obtain ⟨⟨t, rfl⟩, rfl⟩ := p
  have hl1 : (h₂.push { cls := .type "slice", data := .fields #[.none, .none, .int (-1) t] }).IsList la xs.toArray := hl.push _
  unfold subscriptTail
  refine wpAny_bind ?_
  rw [getitemInPython_of_ne (Heap.IsList.typeIs (s := Mine.mk c.s (h₂.push { cls := .type "slice", data := .fields #[.none, .none, .int (-1) t] }) tk₂) hl1).not_modules]
  refine wpAny_bind (wpAny_specialOf (Heap.IsList.typeIs (s := Mine.mk c.s (h₂.push { cls := .type "slice", data := .fields #[.none, .none, .int (-1) t] }) tk₂) hl1) list_getitem_lookup ?_)
  refine wpAny_pure (wpAny_bind ?_)
  obtain ⟨ops, ho⟩ := hs la h₂.objs.size
  rw [ho]
  refine wpAny_operating (wpAny_getItem_list_slice (s := Mine.mk c.s (h₂.push { cls := .type "slice", data := .fields #[.none, .none, .int (-1) t] }) tk₂) hl1 (Heap.IsSliceOf.new ..) .none .none (.int _ _) (by decide) (wpAny_bind (wpAny_letTemporaryGo (wpAny_pure ?_))) (by simpa using hz))
  rw [pick_rev]
  have k1 : ∀ b o, h₂.get? b = some o → ((h₂.push { cls := .type "slice", data := .fields #[.none, .none, .int (-1) t] }).push { cls := .type "list", data := .seq xs.reverse.toArray }).get? b = some o := fun b o e => Heap.get?_push_of_some _ (Heap.get?_push_of_some _ e)
  have hd : ((h₂.push { cls := .type "slice", data := .fields #[.none, .none, .int (-1) t] }).push { cls := .type "list", data := .seq xs.reverse.toArray }).get? (h₂.push { cls := .type "slice", data := .fields #[.none, .none, .int (-1) t] }).objs.size = some (listOf xs.reverse.toArray 0) := Heap.get?_push_size _ rfl
  have nd : h₂.get? (h₂.push { cls := .type "slice", data := .fields #[.none, .none, .int (-1) t] }).objs.size = none := by
    rw [Heap.size_push]; exact fresh_ge (Nat.le_succ _)
  exact hQ _ _ _ (k _ _ nd ((S.keepAll k1).add hd nd S (fun _ h => h) not_isT_list) ((S.re.keepAll k1).add hd nd S.re (fun _ h => h) not_isT_list))
/-- list(l) -/
theorem ev_listOf (C : Fc c L sn mg mb g D U) (S : St g L ns vs led r h) (k : Kd sn (Str.ofString "list") .globalImplicit) (q : PV c h e (.ref la)) {n : Nat} (hl : h.get? la = some (listOf xs.toArray n)) (hz : xs.length ≤ sizeLine)
    (kk : ∀ d n h₂, h.get? d = none → St g L ns vs ((d, listOf xs.toArray n) :: led) r h₂ → St g L ns vs ((d, listOf xs.toArray n) :: led) h h₂ → P (.ref d) h₂)
    (he : starEach [e] c.env = (false, eval e c.env) :: starEach [] c.env) : EV c h (.Call (.Name (Str.ofString "list") fp) [e] [] pos) P :=
  ⟨fun tk Q hQ => Call_ ((pv_bi C S k (gl_list _) (by boot_fast) (by decide)).run tk _ fun v h' tk' p => by
    obtain ⟨rfl, rfl⟩ := p
    refine PyProof.Rows.callWith_type1 ?_ he
    refine spliced_more (he := he) (q.run tk' _ fun v h₁ tk₁ p => spliced_none ?_)
    obtain ⟨rfl, rfl⟩ := p
    refine call_list_seq (s := Mine.mk c.s h₁ tk₁) la (.inl rfl) hl rfl rfl (fun h' c' hk hd => ?_) (by simpa using hz)
    exact hQ _ _ _ (kk _ c' h' fresh_size ((S.keepAll hk).add hd fresh_size S (fun _ h => h) not_isT_list) ((S.re.keepAll hk).add hd fresh_size S.re (fun _ h => h) not_isT_list)))⟩
/-- tuple(t), t a tuple -/
theorem pv_tupleT (C : Fc c L sn mg mb g D U) (S : St g L ns vs led r h) (k : Kd sn (Str.ofString "tuple") .globalImplicit) (q : PV c h e (.ref la)) (it : IsTup h la xs.toArray)
    (he : starEach [e] c.env = (false, eval e c.env) :: starEach [] c.env) : PV c h (.Call (.Name (Str.ofString "tuple") fp) [e] [] pos) (.ref la) :=
  ⟨fun tk Q hQ => Call_ ((pv_bi C S k (gl_tuple _) (by boot_fast) (by decide)).run tk _ fun v h' tk' p => by
    obtain ⟨rfl, rfl⟩ := p
    refine PyProof.Rows.callWith_type1 ?_ he
    refine spliced_more (he := he) (q.run tk' _ fun v h₁ tk₁ p => spliced_none ?_)
    obtain ⟨rfl, rfl⟩ := p
    exact call_tuple_tup (s := Mine.mk c.s h₁ tk₁) it (hQ _ _ _ ⟨rfl, rfl⟩))⟩
/-- l.pop() -/
theorem ev_pop {o : Expr} {ap : Pos} {v : Value} {n : Nat} {f : Obj → List (Addr × Obj)} (S : St g L ns vs led r h) (qo : PV c h o (.ref la)) (up : Up led la (listOf (xs ++ [v]).toArray n) f) (hz : xs.length < sizeLine)
    (q : ∀ h', St g L ns vs (f (listOf xs.toArray (n + 1))) r h' → TupK h h' → P v h') {pl : Sem Bool}
    (hmc : eval (.Call (.Attribute o (Str.ofString "pop") ap) [] [] pos) c.env = (do
      let ov ← eval o c.env
      standAt ap.atName
      let (f, first) ← holding [ov] (getMethod ov (Str.ofString "pop") pl)
      callWith pos f first (backTo pos (starEach [] c.env)) [])) : EV c h (.Call (.Attribute o (Str.ofString "pop") ap) [] [] pos) P :=
  ev_meth0 S qo up.mem PySem.F.slot_list_pop PySem.F.type_list_pop ⟨fun tk Q hQ => m_pop (s := c.s) S.re up hz fun h' tk' S' => hQ _ _ _ (q h' (S.then S' (by rw [up.keys]; exact fun _ h => h)) S'.go.T)⟩ hmc
end

theorem Toks.rev {h : Heap} {xs : List Value} {ts : List (Int × Int)} (q : Toks h xs ts) : Toks h xs.reverse ts.reverse := by
  induction q with
  | nil => exact .nil
  | cons a _ ih =>
    rw [List.reverse_cons, List.reverse_cons]
    exact ih.append (.cons a .nil)
theorem Toks.unappend {h : Heap} {bs : List (Int × Int)} : ∀ {as : List (Int × Int)} {xs : List Value}, Toks h xs (as ++ bs) → Ex2 fun ys zs => xs = ys ++ zs ∧ Toks h ys as ∧ Toks h zs bs
  | [], xs, q => ⟨[], xs, rfl, .nil, q⟩
  | a :: as, _, .cons (v := v) t q => by
    obtain ⟨ys, zs, rfl, p1, p2⟩ := Toks.unappend q
    exact ⟨_ :: ys, zs, rfl, .cons t p1, p2⟩
def feedD (w : World) (t1 t2 : Tok) (la oa : Addr) : List DictEntry := [⟨PyData.keyHash w.params (Str.ofString "rest"), .str (Str.ofString "rest") t1, .ref la⟩, ⟨PyData.keyHash w.params (Str.ofString "outers"), .str (Str.ofString "outers") t2, .ref oa⟩]
/-- a feed: what is left of it lies at la, its outers at oa -/
def FeedIn (w : World) (h : Heap) (x la oa : Addr) : Prop := Ex3 fun dx t1 t2 => h.get? x = some (instObj 179 dx) ∧ h.get? dx = some (dictOf (feedD w t1 t2 la oa) 2)
theorem FeedIn.keep {w : World} {h h' : Heap} {x la oa : Addr} (f : FeedIn w h x la oa) (k : ∀ b o, h.get? b = some o → h'.get? b = some o) : FeedIn w h' x la oa := by
  obtain ⟨dx, t1, t2, e1, e2⟩ := f
  exact ⟨dx, t1, t2, k _ _ e1, k _ _ e2⟩
/-- keeping all but a list -/
theorem FeedIn.but {w : World} {h h' : Heap} {x la oa a : Addr} {xs : List Value} {n : Nat} (f : FeedIn w h x la oa) (e : h.get? a = some (listOf xs.toArray n)) (k : ∀ b o, b ∉ [a] → h.get? b = some o → h'.get? b = some o) : FeedIn w h' x la oa := by
  obtain ⟨dx, t1, t2, e1, e2⟩ := f
  refine ⟨dx, t1, t2, k _ _ (fun q => ?_) e1, k _ _ (fun q => ?_) e2⟩
  · rw [List.mem_singleton.mp q, e] at e1
    have := congrArg Obj.cls (Option.some.inj e1)
    cases this
  · rw [List.mem_singleton.mp q, e] at e2
    have := congrArg Obj.cls (Option.some.inj e2)
    exact absurd (show Value.type "list" = Value.type "dict" from this) (by decide)
section
variable {c : Cx} {L : Addr} {sn : List (Str × NameKind)} {mg mb : Str → Option Value} {g h : Heap} {D U : Nat} {ns : List Str} {vs : List (Option Value)} {led : List (Addr × Obj)} {r : Heap} {n : Str} {np pos : Pos} {x la oa : Addr}
theorem pv_rest (C : Fc c L sn mg mb g D U) (S : St g L ns vs led r h) (hf : FeedIn c.w h x la oa) (hv : PV c h (.Name n np) (.ref x)) : PV c h (.Attribute (.Name n np) (Str.ofString "rest") pos) (.ref la) := by
  obtain ⟨dx, t1, t2, e1, e2⟩ := hf
  exact pv_attr C S hv e1 e2 (by kernel_rfl) (by kernel_rfl) (by kernel_rfl) rfl rfl
theorem pv_outers (C : Fc c L sn mg mb g D U) (S : St g L ns vs led r h) (hf : FeedIn c.w h x la oa) (hv : PV c h (.Name n np) (.ref x)) : PV c h (.Attribute (.Name n np) (Str.ofString "outers") pos) (.ref oa) := by
  obtain ⟨dx, t1, t2, e1, e2⟩ := hf
  exact pv_attr C S hv e1 e2 (by kernel_rfl) (by kernel_rfl) (by kernel_rfl) rfl rfl
end
/-- what next() hands back -/
def NextPost (la : Addr) (ts : List (Int × Int)) (h : Heap) (v : Value) : Prop := match ts with
  | [] => v = .none ∧ ∃ n, h.get? la = some (listOf ([] : List Value).toArray n)
  | t :: ts => TokAt h v t ∧ Ex2 fun xs n => h.get? la = some (listOf (List.toArray xs) n) ∧ Toks h xs ts.reverse
theorem next_spec {w : World} {h : Heap} {x la oa : Addr} {xs : List Value} {n : Nat} {ts : List (Int × Int)} (hf : FeedIn w h x la oa) (ea : h.get? la = some (listOf xs.toArray n)) (tt : Toks h xs ts.reverse) (hz : ts.length ≤ 1000) : Spec w 148 [.ref x] [(la, listOf xs.toArray n)] 1 3 h (NextPost la ts) := by
  refine spec_K (D := 0) (U := 0) [Str.ofString "self"] 1 rfl (by kernel_rfl) (fun _ _ => BindsTo.of_eq rfl) rfl (by decide +kernel) (by decide) (by decide +kernel) (by decide +kernel) (by decide +kernel) (by simp) (by simpa using not_isT_list) ?_
  intro c mg mb g h₁ L R hw C hk S hR _
  dsimp only at C
  subst hw
  have hsl : sizeLine = 16777216 := sizeLine_eq
  have hg : FeedIn c.w g x la oa := hf.but ea hk
  have hxl := tt.length
  rw [List.length_reverse] at hxl
  have tt1 := tt.mono S.go.T
  refine xs_ifP (pt_dec (q := ts = []) (pt_eq (ev_len C S (by (repeat' (first | exact Kd.head | apply Kd.tail))) (pv_rest C S (hg.keep S.F.keep) (pv_loc C S (by (repeat' (first | exact Kd.head | apply Kd.tail))) (by (repeat' (first | exact Loc.head | apply Loc.tail))))) (isL (S.N _ (.head _)).1) (by omega) rfl) pi_const rfl) ?_) (fun q => ?_) fun q => ?_
  · rw [hxl, ← List.length_eq_zero_iff]; omega
  · subst q
    refine xs_ret (EV.pv pv_none (hR S ⟨rfl, n, ?_⟩))
    have : xs = [] := List.length_eq_zero_iff.mp hxl
    subst this
    exact (S.N _ (.head _)).1
  · obtain ⟨t, ts', rfl⟩ : Ex2 fun t ts' => ts = t :: ts' := by
      cases ts with
      | nil => exact absurd rfl q
      | cons t ts' => exact ⟨t, ts', rfl⟩
    rw [List.reverse_cons] at tt1
    obtain ⟨ys, zs, rfl, ty, tz⟩ := tt1.unappend
    cases tz with
    | @cons v _ zs _ tv tz =>
      cases tz
      refine xs_thru (xs_ret (ev_pop S (pv_rest C S (hg.keep S.F.keep) (pv_loc C S (by (repeat' (first | exact Kd.head | apply Kd.tail))) (by (repeat' (first | exact Loc.head | apply Loc.tail))))) .head ?_ (fun h₂ S2 k2 => hR S2 ⟨tv.mono k2, ys, _, (S2.N _ (.head _)).1, ty.mono k2⟩) rfl))
      rw [List.length_append] at hxl
      simp only [List.length_cons] at hxl hz
      omega
theorem left_spec {w : World} {h : Heap} {x la oa : Addr} {xs : List Value} {n : Nat} {ts : List (Int × Int)} (hf : FeedIn w h x la oa) (ea : h.get? la = some (listOf xs.toArray n)) (tt : Toks h xs ts.reverse) (hz : ts.length ≤ 1000) : Spec w 169 [.ref x] [] 1 3 h fun h' v => Ex3 fun d ys m => v = .ref d ∧ h.get? d = none ∧ h'.get? d = some (listOf (List.toArray ys) m) ∧ Toks h' ys ts := by
  refine spec_K (D := 0) (U := 0) [Str.ofString "self"] 1 rfl (by kernel_rfl) (fun _ _ => BindsTo.of_eq rfl) rfl (by decide +kernel) (by decide) (by decide +kernel) (by decide +kernel) (by decide +kernel) (by simp) (by simp) ?_
  intro c mg mb g h₁ L R hw C hk S hR _
  dsimp only at C
  subst hw
  have hsl : sizeLine = 16777216 := sizeLine_eq
  have kk : ∀ b o, h.get? b = some o → h₁.get? b = some o := fun b o e => S.F.keep _ _ (hk b o (by simp) e)
  have hxl := tt.length
  rw [List.length_reverse] at hxl
  refine xs_ret (ev_rev (EV.pv (pv_rest C S (hf.keep kk) (pv_loc C S (by (repeat' (first | exact Kd.head | apply Kd.tail))) (by (repeat' (first | exact Loc.head | apply Loc.tail))))) ⟨la, xs, _, _, _, _, _, _, rfl, isL (kk _ _ ea), by omega, S, fun d h₂ nd S2 S2' => hR S2 ⟨d, _, _, rfl, S.go.D _ nd, (S2.N _ (.head _)).1, ?_⟩⟩) (fun _ => pi_neg pi_const) fun _ _ => ⟨_, by with_unfolding_all rfl⟩)
  have := (tt.mono S2.go.T).rev
  rwa [List.reverse_reverse] at this
theorem outer_spec {w : World} {h : Heap} {x la oa : Addr} {v : Value} {t : Int × Int} {os : List (Int × Int)} (hf : FeedIn w h x la oa) (tv : TokAt h v t) (hO : TT h oa os) : Spec w 176 [.ref x, v] [] 1 7 h fun _ r => r = .bool (decide (t ∈ os)) := by
  refine spec_K (D := 0) (U := 4) [Str.ofString "self", Str.ofString "token"] 2 rfl (by kernel_rfl) (fun _ _ => BindsTo.of_eq rfl) rfl (by decide +kernel) (by decide) (by decide +kernel) (by decide +kernel) (by decide +kernel) (by simp) (by simp) ?_
  intro c mg mb g h₁ L R hw C hk S hR _
  dsimp only at C
  subst hw
  have kk : ∀ b o, h.get? b = some o → h₁.get? b = some o := fun b o e => S.F.keep _ _ (hk b o (by simp) e)
  obtain ⟨ws, it, tt⟩ := hO.keep kk
  refine xs_ret (ev_cmpG (EV.pv (pv_loc C S (by (repeat' (first | exact Kd.head | apply Kd.tail))) (by (repeat' (first | exact Loc.head | apply Loc.tail)))) (EV.pv (pv_outers C S (hf.keep kk) (pv_loc C S (by (repeat' (first | exact Kd.head | apply Kd.tail))) (by (repeat' (first | exact Loc.head | apply Loc.tail))))) ((tr_inT C (by decide) (tv.mono fun a o e _ => kk a o e) it tt).mono fun v h p => ?_))) rfl)
  obtain ⟨rfl, rfl⟩ := p
  exact hR S rfl

def FeedMade (w : World) (dx oa : Addr) (ts : List (Int × Int)) (h h' : Heap) (v : Value) : Prop := v = .none ∧ Ex5 fun t1 t2 la n xs => h'.get? dx = some (dictOf (feedD w t1 t2 la oa) 2) ∧ h.get? la = none ∧ h'.get? la = some (listOf (List.toArray xs) n) ∧ Toks h' xs ts.reverse
theorem feed_init {w : World} {h : Heap} {x dx ta oa : Addr} {ts os : List (Int × Int)} (hx : h.get? x = some (instObj 179 dx)) (hd : h.get? dx = some (dictOf [] 0)) (hT : TL h ta ts) (hO : TT h oa os) (hv : ts.all tokV = true) (hz : ts.length ≤ 1000) :
    Spec w 141 [.ref x, .ref ta, .ref oa] [(dx, dictOf [] 0)] 4 12 h (FeedMade w dx oa ts h) := by
  have nT : ∀ es nn, ¬ IsT (dictOf es nn) := fun es nn q => by
    obtain ⟨q, _⟩ := q
    exact absurd (show Value.type "dict" = Value.type "tuple" from q) (by decide)
  have hnd : ∀ {b o}, h.get? b = some o → o.cls ≠ .type "dict" → b ∉ List.map (·.1) [(dx, dictOf [] 0)] := fun {b o} e n hm => by
    have hm : b = dx := List.mem_singleton.mp hm
    rw [hm, hd] at e; cases e
    exact n rfl
  refine spec_K (D := 3) (U := 9) [Str.ofString "self", Str.ofString "tokens", Str.ofString "outers"] 3 rfl (by kernel_rfl) (fun _ X => binds_pk X fun S => rfl) rfl (by decide +kernel) (by decide) (by decide +kernel) (by decide +kernel) (by decide +kernel) (by simp) (by simpa using nT [] 0) ?_
  intro c mg mb g h₁ L R hw C hk S _ hE
  dsimp only at C
  subst hw
  have hsl : sizeLine = 16777216 := sizeLine_eq
  have gx : g.get? x = some (instObj 179 dx) := hk _ _ (hnd hx (by show Value.ref 179 ≠ _; simp)) hx
  have gT : TL g ta ts := by
    obtain ⟨xs, n, ea, tt⟩ := hT
    exact ⟨xs, n, hk _ _ (hnd ea (by show Value.type "list" ≠ Value.type "dict"; decide)) ea, tt.mono fun a o e t => hk a o (hnd e (by rw [t.1]; decide)) e⟩
  have gO : TT g oa os := by
    obtain ⟨ws, ⟨o, ho, hc, n, hd'⟩, tt⟩ := hO
    exact ⟨ws, ⟨o, hk _ _ (hnd ho (by rw [hc]; decide)) ho, hc, n, hd'⟩, tt.mono fun a o e t => hk a o (hnd e (by rw [t.1]; decide)) e⟩
  refine xs_expr (ev_call1 C S (by (repeat' (first | exact Kd.head | apply Kd.tail))) (gl_check_tokens _) (fn_check_tokens _) (pv_loc C S (by (repeat' (first | exact Kd.head | apply Kd.tail))) (by (repeat' (first | exact Loc.head | apply Loc.tail)))) (tr_spec (check_spec (gT.keep S.F.keep) hv) C S (by decide) (by decide) (by simp) fun h₂ v go post => ⟨post, ?_⟩) fun _ => rfl) C rfl
  have S2 := S.after0 go
  clear S go post
  obtain ⟨xs, n, ea, tt⟩ := gT
  have hxl := tt.length
  refine xs_setI C (ev_rev (ev_listOf C S2 (by (repeat' (first | exact Kd.head | apply Kd.tail))) (pv_loc C S2 (by (repeat' (first | exact Kd.head | apply Kd.tail))) (by (repeat' (first | exact Loc.head | apply Loc.tail)))) (S2.F.keep _ _ ea) (by omega) (fun d n h₃ nd S3 _ => ⟨d, xs, _, _, _, _, _, _, rfl, isL (S3.N _ (.head _)).1, by omega, S3, fun la h₄ nl S4 S4' => ⟨_, _, _, [], 0, _, S4, .tail (.tail .head), S4.F.keep _ _ gx, pv_loc C S4 (by (repeat' (first | exact Kd.head | apply Kd.tail))) (by (repeat' (first | exact Loc.head | apply Loc.tail))), rfl, by decide, fun t1 h₅ S5 _ => ?_⟩⟩) rfl) (fun _ => pi_neg pi_const) fun _ _ => ⟨_, by with_unfolding_all rfl⟩) (by kernel_rfl) (by kernel_rfl) (by kernel_rfl) (by kernel_rfl) rfl
  have nla : h.get? la = none := S3.go.D _ nl
  clear S2 S4 S4' S3 nl nd
  obtain ⟨ws, it, tto⟩ := gO
  refine xs_setI C (EV.pv (pv_tupleT C S5 (by (repeat' (first | exact Kd.head | apply Kd.tail))) (pv_loc C S5 (by (repeat' (first | exact Kd.head | apply Kd.tail))) (by (repeat' (first | exact Loc.head | apply Loc.tail)))) (it.keeps S5.F.keep) rfl) ⟨_, _, _, _, _, _, S5, .tail (.tail .head), S5.F.keep _ _ gx, pv_loc C S5 (by (repeat' (first | exact Kd.head | apply Kd.tail))) (by (repeat' (first | exact Loc.head | apply Loc.tail))), by rfl, by show 1 ≤ 100; decide, fun t2 h₆ S6 _ => xs_nil (hE S6 ⟨rfl, t1, t2, la, _, xs.reverse, (S6.N _ (.tail _ (.tail _ (.head _)))).1, nla, (S6.N _ (.head _)).1, ?_⟩)⟩) (by kernel_rfl) (by kernel_rfl) (by kernel_rfl) (by kernel_rfl) rfl
  exact (tt.mono fun a o e _ => S6.F.keep _ _ e).rev

/-! ## token_wanted -/
section
variable {c : Cx} {h : Heap} {a : Addr}
theorem tr_isNone : TR c h (compareOp .Is .none .none) fun v h' => v = .bool true ∧ h' = h := ⟨fun tk Q hQ => by
  show wpAny _ _ (do return Value.bool (← isSame .none .none)) _ _ _
  exact wpAny_bind (wpAny_pure (wpAny_pure (hQ _ _ _ ⟨rfl, rfl⟩)))⟩
theorem tr_isNoneR : TR c h (compareOp .Is (.ref a) .none) fun v h' => v = .bool false ∧ h' = h := ⟨fun tk Q hQ => by
  show wpAny _ _ (do return Value.bool (← isSame (.ref a) .none)) _ _ _
  exact wpAny_bind (wpAny_pure (wpAny_pure (hQ _ _ _ ⟨rfl, rfl⟩)))⟩
end
/-- what is left in a feed -/
def RestIn (la : Addr) (ts : List (Int × Int)) (h : Heap) : Prop := Ex2 fun xs n => h.get? la = some (listOf (List.toArray xs) n) ∧ Toks h xs ts.reverse
def WantX (os ts : List (Int × Int)) (C : Addr) : Prop := match ts with
  | [] => C = 64
  | t :: _ => t ∈ os ∧ C = 76
def WantPost (la : Addr) (os ts : List (Int × Int)) (h : Heap) (v : Value) : Prop := match ts with
  | [] => False
  | t :: ts' => t ∉ os ∧ TokAt h v t ∧ RestIn la ts' h
theorem want_spec {w : World} {h : Heap} {x la oa : Addr} {xs : List Value} {n : Nat} {ts os : List (Int × Int)} (hf : FeedIn w h x la oa) (hO : TT h oa os) (ea : h.get? la = some (listOf xs.toArray n)) (tt : Toks h xs ts.reverse) (hz : ts.length ≤ 1000) :
    SpecE w 225 [.ref x] [(la, listOf xs.toArray n)] 3 10 h (WantPost la os ts) (WantX os ts) := by
  refine specE_K (D := 2) (U := 7) [Str.ofString "feed", Str.ofString "token"] 1 rfl (by kernel_rfl) (fun _ _ => BindsTo.of_eq rfl) rfl (by decide +kernel) (by decide) (by decide +kernel) (by decide +kernel) (by decide +kernel) (by simp) (by simpa using not_isT_list) ?_
  intro c mg mb g h₁ L outer R hw C X hk S hR _
  dsimp only at C X
  subst hw
  have gf : FeedIn c.w g x la oa := hf.but ea hk
  have gO : TT g oa os := by
    obtain ⟨ws, ⟨o, ho, hc, m, hd'⟩, tto⟩ := hO
    have hne : ∀ {b o}, h.get? b = some o → IsT o → b ∉ List.map (·.1) [(la, listOf xs.toArray n)] := fun {b o} e t hm => by
      have hm : b = la := List.mem_singleton.mp hm
      rw [hm, ea] at e; cases e
      exact not_isT_list t
    exact ⟨ws, ⟨o, hk _ _ (hne ho ⟨hc, _, _, hd'⟩) ho, hc, m, hd'⟩, tto.mono fun a o e t => hk a o (hne e t) e⟩
  obtain ⟨dx, t1, t2, e1, e2⟩ := id gf
  refine xs_let (ns := [Str.ofString "feed", Str.ofString "token"]) C (by (repeat' (first | exact Kd.head | apply Kd.tail))) rfl (ev_methI0 C S (pv_loc C S (by (repeat' (first | exact Kd.head | apply Kd.tail))) (by (repeat' (first | exact Loc.head | apply Loc.tail)))) (S.F.keep _ _ e1) (S.F.keep _ _ e2) (by kernel_rfl) (by kernel_rfl) (by kernel_rfl) (by rfl) (by kernel_rfl) (tr_spec (next_spec (gf.keep S.F.keep) (S.N _ (.head _)).1 (tt.mono S.go.T) hz) C S (by decide) (by decide) (fun p hp => hp) fun h₂ v go post => ?_) rfl)
  cases ts with
  | nil =>
    obtain ⟨rfl, n2, e3⟩ := post
    refine ⟨_, _, _, _, S.after1 .head go e3 not_isT_list, by (repeat' (first | exact SetL.head | apply SetL.tail)), fun h₃ S3 _ => ?_⟩
    refine xs_if (b := true) (pt_cmp (PA := fun v => v = .none) (PB' := fun v => v = .none) (EV.pv (pv_loc C S3 (by (repeat' (first | exact Kd.head | apply Kd.tail))) (by (repeat' (first | exact Loc.head | apply Loc.tail)))) ⟨rfl, rfl⟩) (EV.pv pv_none ⟨rfl, rfl⟩) (fun _ _ a b => by subst a; subst b; exact tr_isNone) rfl) (fun _ => ?_) fun q => nomatch q
    exact xs_raise C X S3 (fun a ha => .inl ha) (by (repeat' (first | exact Kd.head | apply Kd.tail))) (gl_Runaway _) (excC_Runaway _) (by kernel_rfl) rfl (by decide) (by decide)
  | cons t ts =>
    obtain ⟨tv, ys, n2, e3, ty⟩ := post
    refine ⟨_, _, _, _, S.after1 .head go e3 not_isT_list, by (repeat' (first | exact SetL.head | apply SetL.tail)), fun h₃ S3 S3' => ?_⟩
    have tv := tv.mono S3'.go.T
    have ty := ty.mono S3'.go.T
    clear S3' e3 go S
    obtain ⟨va, u1, u2, rfl, itv⟩ := id tv
    refine xs_if (b := false) (pt_cmp (PA := fun v => v = .ref va) (PB' := fun v => v = .none) (EV.pv (pv_loc C S3 (by (repeat' (first | exact Kd.head | apply Kd.tail))) (by (repeat' (first | exact Loc.head | apply Loc.tail)))) ⟨rfl, rfl⟩) (EV.pv pv_none ⟨rfl, rfl⟩) (fun _ _ a b => by subst a; subst b; exact tr_isNoneR) rfl) (fun q => nomatch q) fun _ => xs_thru ?_
    refine xs_ifE (te_ev (ev_methI1 C S3 (pv_loc C S3 (by (repeat' (first | exact Kd.head | apply Kd.tail))) (by (repeat' (first | exact Loc.head | apply Loc.tail)))) (S3.F.keep _ _ e1) (S3.F.keep _ _ e2) (by kernel_rfl) (by kernel_rfl) (by kernel_rfl) (by rfl) (by kernel_rfl) (EV.pv (pv_loc C S3 (by (repeat' (first | exact Kd.head | apply Kd.tail))) (by (repeat' (first | exact Loc.head | apply Loc.tail)))) ⟨S3.F.keep, tr_spec (outer_spec (gf.keep S3.F.keep) tv (gO.keep S3.F.keep)) C S3 (by decide) (by decide) (by simp) fun h₄ v go post => ⟨_, post, ?_⟩⟩) rfl rfl) rfl)
    have S4 := S3.after0 go
    have k4 := go.T
    refine xs_ifb (fun q => ?_) fun q => xs_thru (xs_ret (EV.pv (pv_loc C S4 (by (repeat' (first | exact Kd.head | apply Kd.tail))) (by (repeat' (first | exact Loc.head | apply Loc.tail)))) (hR S4 ⟨of_decide_eq_false q, tv.mono k4, ys, n2, (S4.N _ (.head _)).1, ty.mono k4⟩)))
    exact xs_raise C X S4 (fun a ha => .inl ha) (by (repeat' (first | exact Kd.head | apply Kd.tail))) (gl_OuterRefused _) (excC_OuterRefused _) (by kernel_rfl) ⟨of_decide_eq_true q, rfl⟩ (by decide) (by decide)

/-! ## read_parameters -/
/-- what read_parameters does, from the tokens left, the count, what is found -/
def rp (os : List (Int × Int)) : List (Int × Int) → Nat → List (Int × Int) → Except Addr (List (Int × Int) × Bool × List (Int × Int))
  | [], _, _ => .error 64
  | t :: ts, c, f =>
    if t ∈ os then .error 76 else if t.1 = 1 then .ok (f, false, ts)
    else if t.1 = 6 then (match ts with
      | [] => .error 64
      | u :: us => if u ∈ os then .error 76 else if u.1 = 1 then .ok (f ++ [u], true, us)
        else if c + 1 > 9 ∨ u ≠ (12, 48 + ((c + 1 : Nat) : Int)) then .error 88 else rp os us (c + 1) (f ++ [(9, ((c + 1 : Nat) : Int))]))
    else if t.1 = 2 ∨ t.1 = 5 ∨ t.1 = 9 ∨ t.1 = 15 then .error 88
    else rp os ts c (f ++ [t])
theorem rp_want {os ts : List (Int × Int)} {c : Nat} {f : List (Int × Int)} {C : Addr} (h : WantX os ts C) : rp os ts c f = .error C := by
  unfold WantX at h
  split at h
  · subst h; unfold rp; rfl
  · obtain ⟨h1, rfl⟩ := h
    unfold rp
    rw [if_pos h1]
theorem marks_tup (w : World) : Ex3 fun o xs n => (KF w).lookup 184 = some o ∧ o.cls = .type "tuple" ∧ o.data = .seq (List.toArray xs) n ∧ IV xs [5, 9, 15] := ⟨_, _, _, rfl, rfl, rfl, by repeat' constructor⟩
section
variable {c : Cx} {L : Addr} {sn : List (Str × NameKind)} {mg mb : Str → Option Value} {g h : Heap} {D U : Nat} {ns : List Str} {vs : List (Option Value)} {led : List (Addr × Obj)} {r : Heap} {fp pos np : Pos} {P : Value → Heap → Prop} {R : Flow → Heap → Prop} {e test : Expr} {body rest : List Stmt} {x la oa : Addr} {xs : List Value} {n : Nat} {ts os : List (Int × Int)} {outer : List Env} {oF : List Addr} {XP : Addr → Prop} {nm : Str} {i : Int}
theorem TT.but {a oa : Addr} {h h' : Heap} {xs : List Value} {n : Nat} (hO : TT h oa os) (ea : h.get? a = some (listOf xs.toArray n)) (k : ∀ b o, b ∉ [a] → h.get? b = some o → h'.get? b = some o) : TT h' oa os := by
  have hne : ∀ {b o}, h.get? b = some o → IsT o → b ∉ [a] := fun {b o} e t hm => by
    rw [List.mem_singleton.mp hm, ea] at e; cases e
    exact not_isT_list t
  exact hO.mono fun b o e t => k b o (hne e t) e
theorem ev_want {F : Obj → List (Addr × Obj)} (C : Fc c L sn mg mb g D U) (hD : 3 ≤ D) (hU : 10 ≤ U) (X : Ex c L outer oF r XP) (S : St g L ns vs led r h) (up : Up led la (listOf xs.toArray n) F) (hled : ∀ a ∈ led.map (·.1), a ∈ oF ∨ r.get? a = none) (k : Kd sn (Str.ofString "token_wanted") .globalImplicit) (hv : PV c h e (.ref x))
    (gf : FeedIn c.w g x la oa) (gO : TT g oa os) (tt : Toks h xs ts.reverse) (hz : ts.length ≤ 1000) (hx : ∀ C, WantX os ts C → XP C)
    (q : ∀ t ts' v xs' n' h', ts = t :: ts' → t ∉ os → TokAt h' v t → Toks h' xs' ts'.reverse → St g L ns vs (F (listOf (List.toArray xs') n')) r h' → St g L ns vs (F (listOf xs'.toArray n')) h h' → P v h')
    (he : ∀ es, starEach (e :: es) c.env = (false, eval e c.env) :: starEach es c.env) : EV c h (.Call (.Name (Str.ofString "token_wanted") fp) [e] [] pos) P :=
  ev_call1 C S k (gl_token_wanted _) (fn_token_wanted _) hv (tr_specE (want_spec (gf.keep S.F.keep) (gO.keep S.F.keep) (S.N _ up.mem).1 tt hz) C X S hD hU (fun p hp => by rw [List.mem_singleton.mp hp]; exact up.mem) hled hx fun h' v go post => by
    cases ts with
    | nil => exact post.elim
    | cons t ts' =>
      obtain ⟨no, tv, xs', n', ea, tt'⟩ := post
      exact q t ts' v xs' n' h' rfl no tv tt' (S.after1 up go ea not_isT_list) (S.re.after1 up go ea not_isT_list)) he
theorem xs_whileT (C : Fc c L sn mg mb g D U) (I : Nat → Heap → Prop) (n₀ : Nat) (i0 : I n₀ h)
    (turn : ∀ n h₁ T, I n h₁ → (∀ {m h₃}, m < n → I m h₃ → T .next h₃) → (∀ {v h'}, R (.ret v) h' → T (.ret v) h') → TE c h₁ test fun b h₂ => if b then XS c h₂ body T else XS c h₂ rest R) : XS c h (.While test body [] pos :: rest) R :=
  xs_while C I n₀ i0 fun n h₁ i1 => turn n h₁ _ i1 (fun {m h₃} hm im => ⟨m, hm, im⟩) fun {v h'} p => p
theorem te_ite {p : Prop} {d : Decidable p} {A B : Heap → Prop} (q : PT c h test (decide p)) (h1 : p → A h) (h2 : ¬ p → B h) : TE c h test fun b h' => if b then A h' else B h' := te_pt q (by
  by_cases z : p
  · rw [decide_eq_true z, if_pos rfl]; exact h1 z
  · rw [decide_eq_false z, if_neg (by decide)]; exact h2 z)
theorem pt_neP {a b : Int} {l r' : Expr} (hl : PI c h l a) (hr : PI c h r' b) (hm : behindInMarks .NotEq r' = false) : PT c h (.Compare l [.NotEq] [r'] pos) (decide (a ≠ b)) := pt_of (pt_ne hl hr hm) (by simp)
theorem pt_or2P {p q : Prop} {d : Decidable p} {d' : Decidable q} {e1 e2 : Expr} (h1 : PT c h e1 (decide p)) (h2 : PT c h e2 (decide q)) : PT c h (.BoolOp .Or [e1, e2] pos) (decide (p ∨ q)) := pt_of (pt_or2 h1 fun _ => h2) (by simp)
theorem pt_inMarks (C : Fc c L sn mg mb g D U) (hU : 4 ≤ U) (S : St g L ns vs led r h) (k : Kd sn (Str.ofString "MARKS") .globalImplicit) (hi : PI c h e i) (hm : behindInMarks .In (.Name (Str.ofString "MARKS") np) = false) : PT c h (.Compare e [.In] [.Name (Str.ofString "MARKS") np] pos) (decide (i = 5 ∨ i = 9 ∨ i = 15)) := by
  obtain ⟨ob, xs, n, hl, hc, hd, iv⟩ := marks_tup c.w
  refine pt_cmp (PA := fun v => ∃ t, v = .int i t) (PB' := fun v => v = .ref 184) hi (EV.pv (pv_glob C S k (gl_MARKS _)) ⟨rfl, rfl⟩) (fun va vb pa pb => ?_) hm
  obtain ⟨t, rfl⟩ := pa
  subst pb
  refine (tr_inI C hU ⟨ob, S.F.keep _ _ (C.G.X _ _ hl), hc, n, hd⟩ iv).mono fun v h' p => ?_
  obtain ⟨rfl, rfl⟩ := p
  refine ⟨?_, rfl⟩
  congr 1
  exact decide_eq_decide.mpr (by simp)
/-- a name set to the token wanted -/
theorem xs_want {F : Obj → List (Addr × Obj)} {y : Str} {py : Pos} {vs' : Value → List (Option Value)} (C : Fc c L sn mg mb g D U) (hD : 3 ≤ D) (hU : 10 ≤ U) (X : Ex c L outer oF r XP) (S : St g L ns vs led r h) (up : Up led la (listOf xs.toArray n) F) (hled : ∀ a ∈ led.map (·.1), a ∈ oF ∨ r.get? a = none) (k : Kd sn (Str.ofString "token_wanted") .globalImplicit) (hv : PV c h e (.ref x)) (ky : Kd sn y .local) (l : ∀ v, SetL ns vs y v (vs' v))
    (gf : FeedIn c.w g x la oa) (gO : TT g oa os) (tt : Toks h xs ts.reverse) (hz : ts.length ≤ 1000) (hx : ∀ C, WantX os ts C → XP C) {sp : Pos}
    (q : ∀ t ts' v xs' n' h', ts = t :: ts' → t ∉ os → TokAt h' v t → Toks h' xs' ts'.reverse → St g L ns (vs' v) (F (listOf (List.toArray xs') n')) r h' → TupK h h' → XS c h' rest R)
    (he : ∀ es, starEach (e :: es) c.env = (false, eval e c.env) :: starEach es c.env) : XS c h (.Assign [.Name y py] (.Call (.Name (Str.ofString "token_wanted") fp) [e] [] pos) sp :: rest) R :=
  xs_let (ns := ns) C ky rfl (ev_want C hD hU X S up hled k hv gf gO tt hz hx (fun t ts' v xs' n' h₁ e1 no tv tt' S1 S1' => ⟨_, _, _, _, S1, l v, fun h₂ S2 S2' => q t ts' v xs' n' h₂ e1 no (tv.mono S2'.go.T) (tt'.mono S2'.go.T) S2 (S1'.go.T.trans S2'.go.T)⟩) he)
/-- found.append(v), v a name's value -/
theorem xs_appendV {fa : Addr} {ys : List Value} {m : Nat} {v : Value} {F : Obj → List (Addr × Obj)} {o : Expr} {ap sp : Pos} (C : Fc c L sn mg mb g D U) (S : St g L ns vs led r h) (up : Up led fa (listOf ys.toArray m) F) (hz : ys.length ≤ 10000) (qo : PV c h o (.ref fa)) (q : EV c h e fun v' h' => (v' = v ∧ St g L ns vs led r h' ∧ St g L ns vs led h h'))
    (he : starEach [e] c.env = (false, eval e c.env) :: starEach [] c.env) {pl : Sem Bool}
    (hmc : eval (.Call (.Attribute o (Str.ofString "append") ap) [e] [] pos) c.env = (do
      let ov ← eval o c.env
      standAt ap.atName
      let (f, first) ← holding [ov] (getMethod ov (Str.ofString "append") pl)
      callWith pos f first (backTo pos (starEach [e] c.env)) [])) (hs : swapsWith (.Call (.Attribute o (Str.ofString "append") ap) [e] [] pos) none sp.line c.env = pure false)
    (hr : ∀ h', St g L ns vs (F (listOf (ys ++ [v]).toArray (m + 1))) r h' → TupK h h' → XS c h' rest R) : XS c h (.Expr (.Call (.Attribute o (Str.ofString "append") ap) [e] [] pos) sp :: rest) R := by
  have hsl : sizeLine = 16777216 := sizeLine_eq
  refine xs_expr (ev_meth1 S qo up.mem PySem.F.slot_list_append PySem.F.type_list_append (q.mono fun v' h₁ p => ?_) he hmc) C hs
  obtain ⟨rfl, S1, S2⟩ := p
  refine ⟨fun tk Q hQ => (tr_append S1 up (by omega)).run tk Q fun v' h' tk' p => hQ _ _ _ ?_⟩
  obtain ⟨rfl, S3, S4⟩ := p
  exact ⟨rfl, hr h' S3 (S2.go.T.trans S4.go.T)⟩
end
theorem shaped_tok (t : Int × Int) : PySem.SeqAt.shaped (tokD t) = true := rfl
def rpSix (os : List (Int × Int)) (us : List (Int × Int)) (c : Nat) (f : List (Int × Int)) : Except Addr (List (Int × Int) × Bool × List (Int × Int)) := match us with
  | [] => .error 64
  | u :: us => if u ∈ os then .error 76 else if u.1 = 1 then .ok (f ++ [u], true, us)
    else if c + 1 > 9 ∨ u ≠ (12, 48 + ((c + 1 : Nat) : Int)) then .error 88 else rp os us (c + 1) (f ++ [(9, ((c + 1 : Nat) : Int))])
theorem rp_one {os us f : List (Int × Int)} {t : Int × Int} {c : Nat} (no : t ∉ os) (n1 : t.1 = 1) : rp os (t :: us) c f = .ok (f, false, us) := by
  unfold rp
  rw [if_neg no, if_pos n1]
theorem rp_six {os us f : List (Int × Int)} {t : Int × Int} {c : Nat} (no : t ∉ os) (n1 : ¬ t.1 = 1) (n2 : t.1 = 6) : rp os (t :: us) c f = rpSix os us c f := by
  unfold rp rpSix
  rw [if_neg no, if_neg n1, if_pos n2]
theorem rp_bad {os us f : List (Int × Int)} {t : Int × Int} {c : Nat} (no : t ∉ os) (n1 : ¬ t.1 = 1) (n2 : ¬ t.1 = 6) (n3 : t.1 = 2 ∨ t.1 = 5 ∨ t.1 = 9 ∨ t.1 = 15) : rp os (t :: us) c f = .error 88 := by
  unfold rp
  rw [if_neg no, if_neg n1, if_neg n2, if_pos n3]
theorem rp_go {os us f : List (Int × Int)} {t : Int × Int} {c : Nat} (no : t ∉ os) (n1 : ¬ t.1 = 1) (n2 : ¬ t.1 = 6) (n3 : ¬ (t.1 = 2 ∨ t.1 = 5 ∨ t.1 = 9 ∨ t.1 = 15)) : rp os (t :: us) c f = rp os us c (f ++ [t]) := by
  conv => lhs; unfold rp
  rw [if_neg no, if_neg n1, if_neg n2, if_neg n3]
theorem rpSix_want {os ts : List (Int × Int)} {c : Nat} {f : List (Int × Int)} {C : Addr} (h : WantX os ts C) : rpSix os ts c f = .error C := by
  unfold WantX at h
  split at h
  · subst h; rfl
  · obtain ⟨h1, rfl⟩ := h
    unfold rpSix
    dsimp only
    rw [if_pos h1]
theorem rpSix_cons {os us f : List (Int × Int)} {u : Int × Int} {c : Nat} (no : u ∉ os) : rpSix os (u :: us) c f = if u.1 = 1 then .ok (f ++ [u], true, us)
    else if c + 1 > 9 ∨ u ≠ (12, 48 + ((c + 1 : Nat) : Int)) then .error 88 else rp os us (c + 1) (f ++ [(9, ((c + 1 : Nat) : Int))]) := by
  unfold rpSix
  dsimp only
  rw [if_neg no]

def RpPost (la : Addr) (out : Except Addr (List (Int × Int) × Bool × List (Int × Int))) (h : Heap) (v : Value) : Prop := Ex5 fun f b ts tp fp => out = .ok (f, b, ts) ∧ v = .ref tp ∧ IsTup h tp [Value.ref fp, .bool b].toArray ∧ TT h fp f ∧ RestIn la ts h ∧ f.length ≤ 1000 ∧ ts.length ≤ 999
def RpI (g : Heap) (L x la : Addr) (os ts0 : List (Int × Int)) (r : Heap) (n : Nat) (h : Heap) : Prop := Ex11 fun t ts cn f v tc fa ys m xs k => St g L [Str.ofString "feed", Str.ofString "found", Str.ofString "count", Str.ofString "token"] [some (.ref x), some (.ref fa), some (.int (cn : Nat) tc), some v] [(fa, listOf (List.toArray ys) m), (la, listOf (List.toArray xs) k)] r h ∧ r.get? fa = none ∧
  TokAt h v t ∧ Toks h ys f ∧ Toks h xs ts.reverse ∧ rp os ts0 0 [] = rp os (t :: ts) cn f ∧ t ∉ os ∧ n = ts.length ∧ f.length + ts.length ≤ 999
theorem rp_turn {c : Cx} {L : Addr} {sn : List (Str × NameKind)} {mg mb : Str → Option Value} {g h r : Heap} {D U : Nat} {outer : List Env} {x la oa : Addr} {os ts0 : List (Int × Int)} {R : Flow → Heap → Prop} {np fp py sp cp : Pos} {ts : List (Int × Int)} {cn : Nat} {f : List (Int × Int)} {v0 : Value} {tc : Tok} {fa : Addr} {ys : List Value} {m : Nat} {xs : List Value} {k : Nat}
    (C : Fc c L sn mg mb g D U) (hD : 3 ≤ D) (hU : 10 ≤ U) (X : Ex c L outer [la] r fun C => rp os ts0 0 [] = .error C) (kw : Kd sn (Str.ofString "token_wanted") .globalImplicit) (kf : Kd sn (Str.ofString "feed") .local) (kt : Kd sn (Str.ofString "token") .local)
    (gf : FeedIn c.w g x la oa) (gO : TT g oa os) (S : St g L [Str.ofString "feed", Str.ofString "found", Str.ofString "count", Str.ofString "token"] [some (.ref x), some (.ref fa), some (.int (cn : Nat) tc), some v0] [(fa, listOf (List.toArray ys) m), (la, listOf (List.toArray xs) k)] r h) (nfa : r.get? fa = none) (ty : Toks h ys f) (tx : Toks h xs ts.reverse) (hrp : rp os ts0 0 [] = rp os ts cn f) (hl : f.length + ts.length ≤ 1000)
    (q : ∀ h', RpI g L x la os ts0 r (ts.length - 1) h' → ts ≠ [] → R .next h') : XS c h [.Assign [.Name (Str.ofString "token") py] (.Call (.Name (Str.ofString "token_wanted") fp) [.Name (Str.ofString "feed") np] [] cp) sp] R := by
  refine xs_want (ns := [Str.ofString "feed", Str.ofString "found", Str.ofString "count", Str.ofString "token"]) (vs' := fun v => [some (.ref x), some (.ref fa), some (.int (cn : Nat) tc), some v]) C hD hU X S (.tail .head) (fun a ha => ?_) kw (pv_loc C S kf .head) kt (fun v => by (repeat' (first | exact SetL.head | apply SetL.tail))) gf gO tx (by omega) (fun C hC => by rw [hrp]; exact rp_want hC) (fun t ts' v xs' n' h' e1 no tv tt' S1 k1 => xs_nil (q h' ?_ (by rw [e1]; simp))) fun _ => rfl
  · rcases List.mem_cons.mp ha with q | q
    · exact .inr (q ▸ nfa)
    · exact .inl q
  · subst e1
    simp only [List.length_cons] at hl ⊢
    exact ⟨t, ts', cn, f, v, tc, fa, ys, m, xs', n', S1, nfa, tv, ty.mono k1, tt', hrp, no, by omega, by omega⟩
theorem rp_spec {w : World} {h : Heap} {x la oa : Addr} {xs : List Value} {n : Nat} {ts os : List (Int × Int)} (hf : FeedIn w h x la oa) (hO : TT h oa os) (ea : h.get? la = some (listOf xs.toArray n)) (tt : Toks h xs ts.reverse) (hz : ts.length ≤ 999) :
    SpecE w 232 [.ref x] [(la, listOf xs.toArray n)] 4 67 h (RpPost la (rp os ts 0 [])) fun C => rp os ts 0 [] = .error C := by
  refine specE_K (D := 3) (U := 64) [Str.ofString "feed", Str.ofString "found", Str.ofString "count", Str.ofString "token"] 1 rfl (by kernel_rfl) (fun _ _ => BindsTo.of_eq rfl) rfl (by decide +kernel) (by decide) (by decide +kernel) (by decide +kernel) (by decide +kernel) (by simp) (by simpa using not_isT_list) ?_
  intro c mg mb g h₁ L outer R hw C X hk S hR _
  dsimp only at C
  have X : Ex c L outer [la] h fun C => rp os ts 0 [] = .error C := X
  subst hw
  have hsl : sizeLine = 16777216 := sizeLine_eq
  have gf : FeedIn c.w g x la oa := hf.but ea hk
  have gO : TT g oa os := hO.but ea hk
  refine xs_let (ns := [Str.ofString "feed", Str.ofString "found", Str.ofString "count", Str.ofString "token"]) C (by (repeat' (first | exact Kd.head | apply Kd.tail))) rfl (ev_list (ea_nil ⟨_, _, _, _, _, _, S, by simp [hsl], fun fa h₂ nf S1 S1' => ⟨_, _, _, _, S1, by (repeat' (first | exact SetL.head | apply SetL.tail)), fun h₃ S2 S2' => ?_⟩⟩))
  have tt2 := (tt.mono S.go.T).mono (S1'.go.T.trans S2'.go.T)
  have nfa := S.go.D _ nf
  clear S S1 S1' S2' nf
  refine xs_let (ns := [Str.ofString "feed", Str.ofString "found", Str.ofString "count", Str.ofString "token"]) C (by (repeat' (first | exact Kd.head | apply Kd.tail))) rfl (EV.pi pi_const fun tc => ⟨_, _, _, _, S2, by (repeat' (first | exact SetL.head | apply SetL.tail)), fun h₄ S3 S3' => ?_⟩)
  have tt3 := tt2.mono S3'.go.T
  clear S2 S3' tt2
  refine xs_want (ns := [Str.ofString "feed", Str.ofString "found", Str.ofString "count", Str.ofString "token"]) (vs' := fun v => [some (.ref x), some (.ref fa), some (.int (0 : Nat) tc), some v]) C (by decide) (by decide) X S3 (.tail .head) (fun a ha => ?_) (by (repeat' (first | exact Kd.head | apply Kd.tail))) (pv_loc C S3 (by (repeat' (first | exact Kd.head | apply Kd.tail))) (by (repeat' (first | exact Loc.head | apply Loc.tail)))) (by (repeat' (first | exact Kd.head | apply Kd.tail))) (fun v => by (repeat' (first | exact SetL.head | apply SetL.tail))) gf gO tt3 (by omega) (fun C hC => rp_want hC) (fun t ts' v xs' n' h₅ e1 no tv tt' S4 _ => ?_) fun _ => rfl
  · rcases List.mem_cons.mp ha with q | q
    · exact .inr (q ▸ nfa)
    · exact .inl q
  clear S3 tt3
  have i0 : RpI g L x la os ts h ts'.length h₅ := ⟨t, ts', 0, [], v, tc, fa, [], _, xs', n', S4, nfa, tv, .nil, tt', by rw [e1], no, rfl, by rw [e1] at hz; simp only [List.length_cons, List.length_nil] at hz ⊢; omega⟩
  clear S4 tt' tv e1 nfa no ea tt hk hf hO
  refine xs_whileT C (RpI g L x la os ts h) _ i0 ?_
  clear i0
  rintro i h₁ T ⟨t, us, cn, f, v, tc, fa, ys, m, xs, k, S, nfa, tv, ty, tx, hrp, no, rfl, hl⟩ hN hT
  have hyl := ty.length
  obtain ⟨va, u1, u2, rfl, it⟩ := id tv
  have hled : ∀ a ∈ List.map (·.1) [(fa, listOf ys.toArray m), (la, listOf xs.toArray k)], a ∈ [la] ∨ h.get? a = none := fun a ha => by
    rcases List.mem_cons.mp ha with q | q
    · exact .inr (q ▸ nfa)
    · exact .inl q
  refine te_ite (pt_neP (tok_item0 it (pv_loc C S (by (repeat' (first | exact Kd.head | apply Kd.tail))) (by (repeat' (first | exact Loc.head | apply Loc.tail)))) fun _ => by with_unfolding_all rfl) (pi_glob C S (by (repeat' (first | exact Kd.head | apply Kd.tail))) (gl_BEGIN _)) rfl) (fun n1 => ?_) fun n1 => ?_
  · refine xs_ifP (pt_eq (tok_item0 it (pv_loc C S (by (repeat' (first | exact Kd.head | apply Kd.tail))) (by (repeat' (first | exact Loc.head | apply Loc.tail)))) fun _ => by with_unfolding_all rfl) (pi_glob C S (by (repeat' (first | exact Kd.head | apply Kd.tail))) (gl_PARAMETER _)) rfl) (fun n2 => ?_) fun n2 => ?_
    · rw [rp_six no n1 n2] at hrp
      refine xs_want (ns := [Str.ofString "feed", Str.ofString "found", Str.ofString "count", Str.ofString "token"]) (vs' := fun v => [some (.ref x), some (.ref fa), some (.int (cn : Nat) tc), some v]) C (by decide) (by decide) X S (.tail .head) hled (by (repeat' (first | exact Kd.head | apply Kd.tail))) (pv_loc C S (by (repeat' (first | exact Kd.head | apply Kd.tail))) (by (repeat' (first | exact Loc.head | apply Loc.tail)))) (by (repeat' (first | exact Kd.head | apply Kd.tail))) (fun v => by (repeat' (first | exact SetL.head | apply SetL.tail))) gf gO tx (by omega) (fun C hC => ?_) (fun u us' v xs' n' h₂ e1 no2 uv tx' S2 k2 => ?_) fun _ => rfl
      · rw [hrp]; exact rpSix_want hC
      subst e1
      have ty2 := ty.mono k2
      clear S it tv tx k2 ty
      rw [rpSix_cons no2] at hrp
      simp only [List.length_cons] at hl
      obtain ⟨ub, w1, w2, rfl, itu⟩ := id uv
      refine xs_ifP (pt_eq (tok_item0 itu (pv_loc C S2 (by (repeat' (first | exact Kd.head | apply Kd.tail))) (by (repeat' (first | exact Loc.head | apply Loc.tail)))) fun _ => by with_unfolding_all rfl) (pi_glob C S2 (by (repeat' (first | exact Kd.head | apply Kd.tail))) (gl_BEGIN _)) rfl) (fun n3 => ?_) fun n3 => xs_thru ?_
      · rw [if_pos n3] at hrp
        refine xs_appendV C S2 .head (by omega) (pv_loc C S2 (by (repeat' (first | exact Kd.head | apply Kd.tail))) (by (repeat' (first | exact Loc.head | apply Loc.tail)))) (EV.pv (pv_loc C S2 (by (repeat' (first | exact Kd.head | apply Kd.tail))) (by (repeat' (first | exact Loc.head | apply Loc.tail)))) ⟨rfl, S2, S2.re⟩) rfl rfl rfl fun h₃ S3 k3 => ?_
        have ty3 := (ty2.mono k3).append (.cons (uv.mono k3) .nil)
        have hyl3 := ty3.length
        rw [List.length_append] at hyl3
        refine xs_ret (ev_tuple (ea_cons (ev_tupleL C S3 (by (repeat' (first | exact Kd.head | apply Kd.tail))) (EV.pv (pv_loc C S3 (by (repeat' (first | exact Kd.head | apply Kd.tail))) (by (repeat' (first | exact Loc.head | apply Loc.tail)))) ⟨fa, _, _, _, _, _, _, _, rfl, isL (S3.N _ (.head _)).1, by rw [List.length_append]; simp only [List.length_cons, List.length_nil]; omega, S3, fun fp h₄ nfp itf S4 S4' => ?_⟩) rfl) rfl))
        refine ea_cons (EV.pv pb_const (ea_nil ⟨_, _, _, _, _, _, S4, by simp [hsl], fun tp h₅ ntp itp S5 S5' => hT (hR S5 ?_)⟩)) rfl
        exact ⟨_, true, us', tp, fp, hrp, rfl, itp, TT.mono ⟨_, itf, ty3.mono S4'.go.T⟩ S5'.go.T, ⟨xs', n', (S5.N _ (.tail _ (.head _))).1, ((tx'.mono k3).mono S4'.go.T).mono S5'.go.T⟩, by rw [List.length_append]; simp only [List.length_cons, List.length_nil]; omega, by omega⟩
      · rw [if_neg n3] at hrp
        refine xs_augAdd (ns := [Str.ofString "feed", Str.ofString "found", Str.ofString "count", Str.ofString "token"]) C S2 (by (repeat' (first | exact Kd.head | apply Kd.tail))) (by (repeat' (first | exact Loc.head | apply Loc.tail))) pi_const (fun t => by (repeat' (first | exact SetL.head | apply SetL.tail))) fun tc2 h₃ S3 S3' => ?_
        have ec : (cn : Int) + 1 = ((cn + 1 : Nat) : Int) := by omega
        rw [ec] at S3
        have k3 := S3'.go.T
        clear S3' S2 itu
        have uv3 := uv.mono k3
        have ty3 := ty2.mono k3
        have tx3 := tx'.mono k3
        clear uv ty2 tx' k3
        refine xs_ifE (te_or2 (te_pt (pt_gt (pi_loc C S3 (by (repeat' (first | exact Kd.head | apply Kd.tail))) (by (repeat' (first | exact Loc.head | apply Loc.tail)))) (pi_glob C S3 (by (repeat' (first | exact Kd.head | apply Kd.tail))) (gl_MOST_PARAMETERS _)) rfl) ?_))
        unfold OrQ
        by_cases c1 : cn + 1 > 9
        · rw [decide_eq_true (show (9 : Int) < ((cn + 1 : Nat) : Int) by omega), if_pos rfl]
          rw [if_pos (.inl c1)] at hrp
          exact xs_raise C X S3 (fun a ha => by
            rcases List.mem_cons.mp ha with q | q
            · exact .inr (q ▸ nfa)
            · exact .inl q) (by (repeat' (first | exact Kd.head | apply Kd.tail))) (gl_BadDefinition _) (excC_BadDefinition _) (by kernel_rfl) hrp (by decide) (by decide)
        · rw [decide_eq_false (show ¬ (9 : Int) < ((cn + 1 : Nat) : Int) by omega), if_neg (by decide)]
          refine te_cmp (EV.pv (pv_loc C S3 (by (repeat' (first | exact Kd.head | apply Kd.tail))) (by (repeat' (first | exact Loc.head | apply Loc.tail)))) ((ev_pair S3 (pi_glob C S3 (by (repeat' (first | exact Kd.head | apply Kd.tail))) (gl_OTHER _)) (pi_add (pi_glob C S3 (by (repeat' (first | exact Kd.head | apply Kd.tail))) (gl_DIGIT_NOUGHT _)) (pi_loc C S3 (by (repeat' (first | exact Kd.head | apply Kd.tail))) (by (repeat' (first | exact Loc.head | apply Loc.tail))))) (fun _ => rfl) fun _ => rfl).mono fun v h₄ p => ?_)) rfl
          obtain ⟨tv4, S4, S4'⟩ := p
          have k4 := S4'.go.T
          refine (tr_neD C (by decide) (uv3.mono k4).reads tv4.reads (shaped_tok _) (shaped_tok _)).mono fun v h₅ p => ?_
          obtain ⟨rfl, rfl⟩ := p
          refine ⟨_, rfl, ?_⟩
          rw [eqv_tok]
          by_cases c2 : u = (12, 48 + ((cn + 1 : Nat) : Int))
          · rw [decide_eq_true c2]
            rw [if_neg (by rw [not_or]; exact ⟨c1, fun z => z c2⟩)] at hrp
            show XS c h₅ [] _
            refine xs_thru (xs_appendS (t := (9, ((cn + 1 : Nat) : Int))) C S4 .head (by omega) (pv_loc C S4 (by (repeat' (first | exact Kd.head | apply Kd.tail))) (by (repeat' (first | exact Loc.head | apply Loc.tail)))) (ev_pair S4 (pi_glob C S4 (by (repeat' (first | exact Kd.head | apply Kd.tail))) (gl_MATCH _)) (pi_loc C S4 (by (repeat' (first | exact Kd.head | apply Kd.tail))) (by (repeat' (first | exact Loc.head | apply Loc.tail)))) (fun _ => rfl) fun _ => rfl) rfl rfl rfl fun h₆ v6 tv6 S6 k6 => xs_thru ?_)
            refine rp_turn C (by decide) (by decide) X (by (repeat' (first | exact Kd.head | apply Kd.tail))) (by (repeat' (first | exact Kd.head | apply Kd.tail))) (by (repeat' (first | exact Kd.head | apply Kd.tail))) gf gO S6 nfa (((ty3.mono k4).mono k6).append (.cons tv6 .nil)) ((tx3.mono k4).mono k6) hrp (by rw [List.length_append]; simp only [List.length_cons, List.length_nil]; omega) fun h' I ne => hN ?_ I
            cases us' with
            | nil => exact absurd rfl ne
            | cons _ _ => simp only [List.length_cons]; omega
          · rw [decide_eq_false c2]
            rw [if_pos (.inr c2)] at hrp
            exact xs_raise C X S4 (fun a ha => by
              rcases List.mem_cons.mp ha with q | q
              · exact .inr (q ▸ nfa)
              · exact .inl q) (by (repeat' (first | exact Kd.head | apply Kd.tail))) (gl_BadDefinition _) (excC_BadDefinition _) (by kernel_rfl) hrp (by decide) (by decide)
    · refine xs_ifP (pt_or2P (pt_eq (tok_item0 it (pv_loc C S (by (repeat' (first | exact Kd.head | apply Kd.tail))) (by (repeat' (first | exact Loc.head | apply Loc.tail)))) fun _ => by with_unfolding_all rfl) (pi_glob C S (by (repeat' (first | exact Kd.head | apply Kd.tail))) (gl_END _)) rfl) (pt_inMarks C (by decide) S (by (repeat' (first | exact Kd.head | apply Kd.tail))) (tok_item0 it (pv_loc C S (by (repeat' (first | exact Kd.head | apply Kd.tail))) (by (repeat' (first | exact Loc.head | apply Loc.tail)))) fun _ => by with_unfolding_all rfl) rfl)) (fun n3 => ?_) fun n3 => ?_
      · exact xs_raise C X S hled (by (repeat' (first | exact Kd.head | apply Kd.tail))) (gl_BadDefinition _) (excC_BadDefinition _) (by kernel_rfl) (hrp.trans (rp_bad no n1 n2 n3)) (by decide) (by decide)
      · refine xs_appendV C S .head (by omega) (pv_loc C S (by (repeat' (first | exact Kd.head | apply Kd.tail))) (by (repeat' (first | exact Loc.head | apply Loc.tail)))) (EV.pv (pv_loc C S (by (repeat' (first | exact Kd.head | apply Kd.tail))) (by (repeat' (first | exact Loc.head | apply Loc.tail)))) ⟨rfl, S, S.re⟩) rfl rfl rfl fun h₂ S2 k2 => xs_thru (xs_thru ?_)
        refine rp_turn C (by decide) (by decide) X (by (repeat' (first | exact Kd.head | apply Kd.tail))) (by (repeat' (first | exact Kd.head | apply Kd.tail))) (by (repeat' (first | exact Kd.head | apply Kd.tail))) gf gO S2 nfa ((ty.mono k2).append (.cons (tv.mono k2) .nil)) (tx.mono k2) (hrp.trans (rp_go no n1 n2 n3)) (by rw [List.length_append]; simp only [List.length_cons, List.length_nil]; omega) fun h' I ne => hN ?_ I
        cases us with
        | nil => exact absurd rfl ne
        | cons _ _ => simp only [List.length_cons]; omega
  · have n1 : t.1 = 1 := by simpa using n1
    have hok : rp os ts 0 [] = .ok (f, false, us) := hrp.trans (rp_one no n1)
    refine xs_ret (ev_tuple (ea_cons (ev_tupleL C S (by (repeat' (first | exact Kd.head | apply Kd.tail))) (EV.pv (pv_loc C S (by (repeat' (first | exact Kd.head | apply Kd.tail))) (by (repeat' (first | exact Loc.head | apply Loc.tail)))) ⟨fa, ys, _, _, _, _, _, _, rfl, isL (S.N _ (.head _)).1, by omega, S, fun fp h₂ nfp itf S2 S2' => ?_⟩) rfl) rfl))
    refine ea_cons (EV.pv pb_const (ea_nil ⟨_, _, _, _, _, _, S2, by simp [hsl], fun tp h₃ ntp itp S3 S3' => hR S3 ?_⟩)) rfl
    exact ⟨f, false, us, tp, fp, hok, rfl, itp, TT.mono ⟨ys, itf, ty.mono S2'.go.T⟩ S3'.go.T, ⟨xs, k, (S3.N _ (.tail _ (.head _))).1, (tx.mono S2'.go.T).mono S3'.go.T⟩, by omega, by omega⟩

/-! ## parameter_mark -/
def markF (u : Int × Int) (k : Nat) : Option (Int × Int) := if u.1 = 6 then some u else if u.1 = 12 ∧ 48 < u.2 ∧ u.2 ≤ 48 + (k : Int) then some (5, u.2 - 48) else none
theorem pb_chain2 {c : Cx} {h : Heap} {l m r' : Expr} {a b d : Int} {pos : Pos} (hl : PI c h l a) (hm : PI c h m b) (hr : PI c h r' d) (hk : lastMarks [.Lt, .LtE] [m, r'] = false) : PB c h (.Compare l [.Lt, .LtE] [m, r'] pos) (decide (a < b ∧ b ≤ d)) :=
  ev_chain2 (p1 := decide (a < b)) hl hm (fun _ _ => tr_lt) (fun e => by
    have := of_decide_eq_false e
    exact ⟨by rw [decide_eq_false fun q => this q.1], rfl⟩) (fun e => EV.pi hr fun t u => tr_le.mono fun v h p => by
    obtain ⟨rfl, rfl⟩ := p
    have := of_decide_eq_true e
    exact ⟨congrArg _ (decide_eq_decide.mpr ⟨fun q => ⟨this, q⟩, fun q => q.2⟩), rfl⟩) hk
theorem pt_chain2 {c : Cx} {h : Heap} {l m r' : Expr} {a b d : Int} {pos : Pos} (hl : PI c h l a) (hm : PI c h m b) (hr : PI c h r' d) (hk : lastMarks [.Lt, .LtE] [m, r'] = false) : PT c h (.Compare l [.Lt, .LtE] [m, r'] pos) (decide (a < b ∧ b ≤ d)) := by
  refine ⟨fun tk Q hQ => PyProof.Rows.isTrue_chain (hm := hk) (hl.run tk _ fun v h₁ tk₁ p => ?_)⟩
  obtain ⟨⟨t, rfl⟩, rfl⟩ := p
  refine PyProof.Rows.test_link (hm.run tk₁ _ fun v h₁ tk₂ p => ?_)
  obtain ⟨⟨u, rfl⟩, rfl⟩ := p
  refine (tr_lt (c := c)).run tk₂ _ fun v h₁ tk₃ p => ?_
  obtain ⟨rfl, rfl⟩ := p
  refine t_bool ?_
  by_cases q : a < b
  · rw [decide_eq_true q, if_pos rfl]
    refine PyProof.Rows.test_last (hr.run tk₃ _ fun v h₁ tk₄ p => ?_)
    obtain ⟨⟨u', rfl⟩, rfl⟩ := p
    refine (tr_le (c := c)).run tk₄ _ fun v h₁ tk₅ p => ?_
    obtain ⟨rfl, rfl⟩ := p
    refine t_bool ?_
    rw [show decide (b ≤ d) = decide (a < b ∧ b ≤ d) from decide_eq_decide.mpr ⟨fun z => ⟨q, z⟩, fun z => z.2⟩]
    exact hQ _
  · rw [decide_eq_false q, if_neg (by decide)]
    have := hQ tk₃
    rwa [decide_eq_false fun z => q z.1] at this
theorem pt_and2P {c : Cx} {h : Heap} {pos : Pos} {p q : Prop} {d : Decidable p} {d' : Decidable q} {e1 e2 : Expr} (h1 : PT c h e1 (decide p)) (h2 : PT c h e2 (decide q)) : PT c h (.BoolOp .And [e1, e2] pos) (decide (p ∧ q)) := pt_of (pt_and2 h1 fun _ => h2) (by simp)
theorem pmark_spec {w : World} {h : Heap} {v : Value} {u : Int × Int} {k : Nat} {tk : Tok} (uv : TokAt h v u) : SpecE w 239 [v, .int (k : Nat) tk] [] 3 8 h (fun h' r => ∃ t, markF u k = some t ∧ TokAt h' r t) fun C => markF u k = none ∧ C = 88 := by
  obtain ⟨a, t1, t2, rfl, it⟩ := uv
  refine specE_K (D := 2) (U := 5) [Str.ofString "token", Str.ofString "count"] 2 rfl (by kernel_rfl) (fun _ _ => BindsTo.of_eq rfl) rfl (by decide +kernel) (by decide) (by decide +kernel) (by decide +kernel) (by decide +kernel) (by simp) (by simp) ?_
  intro c mg mb g h₁ L outer R hw C X hk S hR _
  dsimp only at C X
  subst hw
  have it1 := it.keeps fun b o e => S.F.keep _ _ (hk b o (by simp) e)
  have i1 : ∀ {p q : Pos} {kk : Nat} {s : Pos}, PI c h₁ (.Subscript (.Name (Str.ofString "token") p) (.Constant (.int 1) kk q) s) u.2 := fun {p q kk s} => tok_item1 it1 (pv_loc C S (by (repeat' (first | exact Kd.head | apply Kd.tail))) (by (repeat' (first | exact Loc.head | apply Loc.tail)))) fun _ => by with_unfolding_all rfl
  refine xs_ifP (pt_eq (tok_item0 it1 (pv_loc C S (by (repeat' (first | exact Kd.head | apply Kd.tail))) (by (repeat' (first | exact Loc.head | apply Loc.tail)))) fun _ => by with_unfolding_all rfl) (pi_glob C S (by (repeat' (first | exact Kd.head | apply Kd.tail))) (gl_PARAMETER _)) rfl) (fun n1 => xs_ret (EV.pv (pv_loc C S (by (repeat' (first | exact Kd.head | apply Kd.tail))) (by (repeat' (first | exact Loc.head | apply Loc.tail)))) (hR S ⟨u, by rw [markF, if_pos n1], a, t1, t2, rfl, it1⟩))) fun n1 => xs_thru ?_
  refine xs_ifP (pt_and2P (pt_eq (tok_item0 it1 (pv_loc C S (by (repeat' (first | exact Kd.head | apply Kd.tail))) (by (repeat' (first | exact Loc.head | apply Loc.tail)))) fun _ => by with_unfolding_all rfl) (pi_glob C S (by (repeat' (first | exact Kd.head | apply Kd.tail))) (gl_OTHER _)) rfl) (pt_chain2 (pi_glob C S (by (repeat' (first | exact Kd.head | apply Kd.tail))) (gl_DIGIT_NOUGHT _)) (tok_item1 it1 (pv_loc C S (by (repeat' (first | exact Kd.head | apply Kd.tail))) (by (repeat' (first | exact Loc.head | apply Loc.tail)))) fun _ => by with_unfolding_all rfl) (pi_add (pi_glob C S (by (repeat' (first | exact Kd.head | apply Kd.tail))) (gl_DIGIT_NOUGHT _)) (pi_loc C S (by (repeat' (first | exact Kd.head | apply Kd.tail))) (by (repeat' (first | exact Loc.head | apply Loc.tail))))) (by with_unfolding_all rfl))) (fun n2 => ?_) fun n2 => xs_thru ?_
  · refine xs_ret ((ev_pair S (pi_glob C S (by (repeat' (first | exact Kd.head | apply Kd.tail))) (gl_OUT _)) (pi_sub (tok_item1 it1 (pv_loc C S (by (repeat' (first | exact Kd.head | apply Kd.tail))) (by (repeat' (first | exact Loc.head | apply Loc.tail)))) fun _ => by with_unfolding_all rfl) (pi_glob C S (by (repeat' (first | exact Kd.head | apply Kd.tail))) (gl_DIGIT_NOUGHT _))) (fun _ => rfl) fun _ => rfl).mono fun v h p => ?_)
    exact hR p.2.1 ⟨_, by rw [markF, if_neg n1, if_pos n2], p.1⟩
  · exact xs_raise C X S (by simp) (by (repeat' (first | exact Kd.head | apply Kd.tail))) (gl_BadDefinition _) (excC_BadDefinition _) (by kernel_rfl) ⟨by rw [markF, if_neg n1, if_neg n2], rfl⟩ (by decide) (by decide)
/-! ## read_body -/
def rb (os : List (Int × Int)) (k : Nat) : List (Int × Int) → Nat → List (Int × Int) → Except Addr (List (Int × Int) × List (Int × Int))
  | [], _, _ => .error 64
  | t :: ts, d, f =>
    if t ∈ os then .error 76
    else if t.1 = 6 then (match ts with
      | [] => .error 64
      | u :: us => if u ∈ os then .error 76 else match markF u k with
        | none => .error 88
        | some m => rb os k us d (f ++ [m]))
    else if t.1 = 5 ∨ t.1 = 9 ∨ t.1 = 15 then .error 88
    else if t.1 = 1 then rb os k ts (d + 1) (f ++ [t])
    else if t.1 = 2 then (if d = 1 then .ok (f, ts) else rb os k ts (d - 1) (f ++ [t]))
    else rb os k ts d (f ++ [t])
def rbSix (os : List (Int × Int)) (k : Nat) (us : List (Int × Int)) (d : Nat) (f : List (Int × Int)) : Except Addr (List (Int × Int) × List (Int × Int)) := match us with
  | [] => .error 64
  | u :: us => if u ∈ os then .error 76 else match markF u k with
    | none => .error 88
    | some m => rb os k us d (f ++ [m])
section
variable {os us ts f : List (Int × Int)} {t u : Int × Int} {k d : Nat} {C : Addr}
theorem rb_want (h : WantX os ts C) : rb os k ts d f = .error C := by
  unfold WantX at h
  split at h
  · subst h; unfold rb; rfl
  · obtain ⟨h1, rfl⟩ := h
    unfold rb
    rw [if_pos h1]
theorem rbSix_want (h : WantX os ts C) : rbSix os k ts d f = .error C := by
  unfold WantX at h
  split at h
  · subst h; rfl
  · obtain ⟨h1, rfl⟩ := h
    unfold rbSix
    dsimp only
    rw [if_pos h1]
theorem rbSix_cons (no : u ∉ os) : rbSix os k (u :: us) d f = match markF u k with
    | none => .error 88
    | some m => rb os k us d (f ++ [m]) := by
  unfold rbSix
  dsimp only
  rw [if_neg no]
theorem rb_six (no : t ∉ os) (n2 : t.1 = 6) : rb os k (t :: us) d f = rbSix os k us d f := by
  unfold rb rbSix
  rw [if_neg no, if_pos n2]
theorem rb_bad (no : t ∉ os) (n2 : ¬ t.1 = 6) (n3 : t.1 = 5 ∨ t.1 = 9 ∨ t.1 = 15) : rb os k (t :: us) d f = .error 88 := by
  unfold rb
  rw [if_neg no, if_neg n2, if_pos n3]
theorem rb_left (no : t ∉ os) (n2 : ¬ t.1 = 6) (n3 : ¬ (t.1 = 5 ∨ t.1 = 9 ∨ t.1 = 15)) (n4 : t.1 = 1) : rb os k (t :: us) d f = rb os k us (d + 1) (f ++ [t]) := by
  conv => lhs; unfold rb
  rw [if_neg no, if_neg n2, if_neg n3, if_pos n4]
theorem rb_end (no : t ∉ os) (n2 : ¬ t.1 = 6) (n3 : ¬ (t.1 = 5 ∨ t.1 = 9 ∨ t.1 = 15)) (n4 : ¬ t.1 = 1) (n5 : t.1 = 2) : rb os k (t :: us) d f = if d = 1 then .ok (f, us) else rb os k us (d - 1) (f ++ [t]) := by
  conv => lhs; unfold rb
  rw [if_neg no, if_neg n2, if_neg n3, if_neg n4, if_pos n5]
theorem rb_go (no : t ∉ os) (n2 : ¬ t.1 = 6) (n3 : ¬ (t.1 = 5 ∨ t.1 = 9 ∨ t.1 = 15)) (n4 : ¬ t.1 = 1) (n5 : ¬ t.1 = 2) : rb os k (t :: us) d f = rb os k us d (f ++ [t]) := by
  conv => lhs; unfold rb
  rw [if_neg no, if_neg n2, if_neg n3, if_neg n4, if_neg n5]
end

def RbPost (la : Addr) (out : Except Addr (List (Int × Int) × List (Int × Int))) (h : Heap) (v : Value) : Prop := Ex3 fun f ts fp => out = .ok (f, ts) ∧ v = .ref fp ∧ TT h fp f ∧ RestIn la ts h ∧ f.length ≤ 1000 ∧ ts.length ≤ 1000
def RbI (g : Heap) (L x la : Addr) (k : Nat) (tk : Tok) (out : Except Addr (List (Int × Int) × List (Int × Int))) (os : List (Int × Int)) (r : Heap) (n : Nat) (h : Heap) : Prop := Ex10 fun ts d f z td fa ys m xs j => St g L [Str.ofString "feed", Str.ofString "count", Str.ofString "found", Str.ofString "depth", Str.ofString "token"] [some (.ref x), some (.int (k : Nat) tk), some (.ref fa), some (.int (d : Nat) td), z] [(fa, listOf (List.toArray ys) m), (la, listOf (List.toArray xs) j)] r h ∧ r.get? fa = none ∧
  Toks h ys f ∧ Toks h xs ts.reverse ∧ ((0 < d ∧ out = rb os k ts d f) ∨ (d = 0 ∧ out = .ok (f, ts))) ∧ n = ts.length ∧ f.length + ts.length ≤ 999
theorem rb_spec {w : World} {h : Heap} {x la oa : Addr} {xs : List Value} {n : Nat} {ts os : List (Int × Int)} {k : Nat} {tk : Tok} (hf : FeedIn w h x la oa) (hO : TT h oa os) (ea : h.get? la = some (listOf xs.toArray n)) (tt : Toks h xs ts.reverse) (hz : ts.length ≤ 999) (hk9 : k ≤ 9) :
    SpecE w 246 [.ref x, .int (k : Nat) tk] [(la, listOf xs.toArray n)] 4 13 h (RbPost la (rb os k ts 1 [])) fun C => rb os k ts 1 [] = .error C := by
  refine specE_K (D := 3) (U := 10) [Str.ofString "feed", Str.ofString "count", Str.ofString "found", Str.ofString "depth", Str.ofString "token"] 2 rfl (by kernel_rfl) (fun _ _ => BindsTo.of_eq rfl) rfl (by decide +kernel) (by decide) (by decide +kernel) (by decide +kernel) (by decide +kernel) (by simp) (by simpa using not_isT_list) ?_
  intro c mg mb g h₁ L outer R hw C X hk S hR _
  dsimp only at C
  have X : Ex c L outer [la] h fun C => rb os k ts 1 [] = .error C := X
  subst hw
  have hsl : sizeLine = 16777216 := sizeLine_eq
  have gf : FeedIn c.w g x la oa := hf.but ea hk
  have gO : TT g oa os := hO.but ea hk
  refine xs_ifE (te_not (te_ev (ev_whole C (by decide) (by decide) S (by (repeat' (first | exact Kd.head | apply Kd.tail))) (pi_loc C S (by (repeat' (first | exact Kd.head | apply Kd.tail))) (by (repeat' (first | exact Loc.head | apply Loc.tail)))) pi_const (pi_glob C S (by (repeat' (first | exact Kd.head | apply Kd.tail))) (gl_MOST_PARAMETERS _)) (fun h₂ S2 k2 => ⟨_, rfl, ?_⟩) (fun _ => rfl) (fun _ => rfl) fun _ => rfl) rfl))
  rw [decide_eq_true (show (0 : Int) ≤ (k : Int) ∧ (k : Int) ≤ 9 by omega)]
  have tt2 := (tt.mono S.go.T).mono fun a o e _ => k2 a o e
  clear S k2 tt ea hk hf hO
  refine xs_thru (xs_let (ns := [Str.ofString "feed", Str.ofString "count", Str.ofString "found", Str.ofString "depth", Str.ofString "token"]) C (by (repeat' (first | exact Kd.head | apply Kd.tail))) rfl (ev_list (ea_nil ⟨_, _, _, _, _, _, S2, by simp [hsl], fun fa h₃ nf S3 S3' => ⟨_, _, _, _, S3, by (repeat' (first | exact SetL.head | apply SetL.tail)), fun h₄ S4 S4' => ?_⟩⟩)))
  have tt4 := tt2.mono (S3'.go.T.trans S4'.go.T)
  have nfa := S2.go.D _ nf
  clear S2 S3 S3' S4' nf tt2
  refine xs_let (ns := [Str.ofString "feed", Str.ofString "count", Str.ofString "found", Str.ofString "depth", Str.ofString "token"]) C (by (repeat' (first | exact Kd.head | apply Kd.tail))) rfl (EV.pi pi_const fun td => ⟨_, _, _, _, S4, by (repeat' (first | exact SetL.head | apply SetL.tail)), fun h₅ S5 S5' => ?_⟩)
  have i0 : RbI g L x la k tk (rb os k ts 1 []) os h ts.length h₅ := ⟨ts, 1, [], _, td, fa, [], _, xs, n, S5, nfa, .nil, tt4.mono S5'.go.T, .inl ⟨by decide, rfl⟩, rfl, by simpa using hz⟩
  clear S4 S5 S5' nfa tt4
  generalize rb os k ts 1 [] = out at i0 X hR
  refine xs_whileT C (RbI g L x la k tk out os h) _ i0 ?_
  clear i0
  rintro i h₁ T ⟨us, d, f, z, td, fa, ys, m, xs, j, S, nfa, ty, tx, hrb, rfl, hl⟩ hN hT
  have hyl := ty.length
  have hled : ∀ a ∈ List.map (·.1) [(fa, listOf ys.toArray m), (la, listOf xs.toArray j)], a ∈ [la] ∨ h.get? a = none := fun a ha => by
    rcases List.mem_cons.mp ha with q | q
    · exact .inr (q ▸ nfa)
    · exact .inl q
  refine te_ite (pt_gt (pi_loc C S (by (repeat' (first | exact Kd.head | apply Kd.tail))) (by (repeat' (first | exact Loc.head | apply Loc.tail)))) pi_const rfl) (fun n1 => ?_) fun n1 => ?_
  · have hrb : out = rb os k us d f := by
      rcases hrb with q | q
      · exact q.2
      · omega
    refine xs_want (ns := [Str.ofString "feed", Str.ofString "count", Str.ofString "found", Str.ofString "depth", Str.ofString "token"]) (vs' := fun v => [some (.ref x), some (.int (k : Nat) tk), some (.ref fa), some (.int (d : Nat) td), some v]) C (by decide) (by decide) X S (.tail .head) hled (by (repeat' (first | exact Kd.head | apply Kd.tail))) (pv_loc C S (by (repeat' (first | exact Kd.head | apply Kd.tail))) (by (repeat' (first | exact Loc.head | apply Loc.tail)))) (by (repeat' (first | exact Kd.head | apply Kd.tail))) (fun v => by (repeat' (first | exact SetL.head | apply SetL.tail))) gf gO tx (by omega) (fun C hC => hrb.trans (rb_want hC)) (fun t us' v xs' n' h₂ e1 no tv tx' S2 k2 => ?_) fun _ => rfl
    subst e1
    simp only [List.length_cons] at hl hN
    have ty2 := ty.mono k2
    clear S tx k2 ty
    obtain ⟨va, u1, u2, rfl, it⟩ := id tv
    refine xs_ifP (pt_eq (tok_item0 it (pv_loc C S2 (by (repeat' (first | exact Kd.head | apply Kd.tail))) (by (repeat' (first | exact Loc.head | apply Loc.tail)))) fun _ => by with_unfolding_all rfl) (pi_glob C S2 (by (repeat' (first | exact Kd.head | apply Kd.tail))) (gl_PARAMETER _)) rfl) (fun n2 => ?_) fun n2 => ?_
    · have hrb := hrb.trans (rb_six no n2)
      clear it tv
      refine xs_let (ns := [Str.ofString "feed", Str.ofString "count", Str.ofString "found", Str.ofString "depth", Str.ofString "token"]) C (by (repeat' (first | exact Kd.head | apply Kd.tail))) rfl (ev_call (pv_glob C S2 (by (repeat' (first | exact Kd.head | apply Kd.tail))) (gl_parameter_mark _)) (fn_parameter_mark _) C S2 (ea_cons (ev_want C (by decide) (by decide) X S2 (.tail .head) hled (by (repeat' (first | exact Kd.head | apply Kd.tail))) (pv_loc C S2 (by (repeat' (first | exact Kd.head | apply Kd.tail))) (by (repeat' (first | exact Loc.head | apply Loc.tail)))) gf gO tx' (by omega) (fun C hC => hrb.trans (rbSix_want hC)) (fun u vs v xs'' n'' h₃ e2 no2 uv tx2 S3 S3' => ?_) fun _ => rfl) rfl) rfl)
      subst e2
      simp only [List.length_cons] at hl hN
      rw [rbSix_cons no2] at hrb
      have k3 := S3'.go.T
      have ty3 := ty2.mono k3
      clear S2 S3' tx' ty2 k3
      refine ea_cons (EV.pi (pi_loc C S3 (by (repeat' (first | exact Kd.head | apply Kd.tail))) (by (repeat' (first | exact Loc.head | apply Loc.tail)))) fun tk2 => ea_nil ⟨S3.F.keep, tr_specE (pmark_spec uv) C X S3 (by decide) (by decide) (by simp) hled (fun C hC => ?_) fun h₄ v4 go post => ?_⟩) rfl
      · rw [hC.1] at hrb
        rw [hrb, hC.2]
      obtain ⟨mk', hmk, tv4⟩ := post
      rw [hmk] at hrb
      have S4 := S3.after0 go
      have k4 := go.T
      have ty4 := ty3.mono k4
      have tx4 := tx2.mono k4
      clear S3 ty3 tx2 k4 go
      refine ⟨_, _, _, _, S4, by (repeat' (first | exact SetL.head | apply SetL.tail)), fun h₅ S5 S5' => ?_⟩
      have k5 := S5'.go.T
      refine xs_appendV C S5 .head (by omega) (pv_loc C S5 (by (repeat' (first | exact Kd.head | apply Kd.tail))) (by (repeat' (first | exact Loc.head | apply Loc.tail)))) (EV.pv (pv_loc C S5 (by (repeat' (first | exact Kd.head | apply Kd.tail))) (by (repeat' (first | exact Loc.head | apply Loc.tail)))) ⟨rfl, S5, S5.re⟩) rfl rfl rfl fun h₆ S6 k6 => xs_thru (xs_nil (hN (m := vs.length) (by omega) ?_))
      exact ⟨vs, d, f ++ [mk'], _, td, fa, _, _, xs'', n'', S6, nfa, ((ty4.mono k5).mono k6).append (.cons ((tv4.mono k5).mono k6) .nil), (tx4.mono k5).mono k6, .inl ⟨by omega, hrb⟩, rfl, by rw [List.length_append]; simp only [List.length_cons, List.length_nil]; omega⟩
    · refine xs_ifP (pt_inMarks C (by decide) S2 (by (repeat' (first | exact Kd.head | apply Kd.tail))) (tok_item0 it (pv_loc C S2 (by (repeat' (first | exact Kd.head | apply Kd.tail))) (by (repeat' (first | exact Loc.head | apply Loc.tail)))) fun _ => by with_unfolding_all rfl) rfl) (fun n3 => ?_) fun n3 => ?_
      · exact xs_raise C X S2 hled (by (repeat' (first | exact Kd.head | apply Kd.tail))) (gl_BadDefinition _) (excC_BadDefinition _) (by kernel_rfl) (hrb.trans (rb_bad no n2 n3)) (by decide) (by decide)
      · refine xs_if_join (fun h' => Ex2 fun d' td' => St g L [Str.ofString "feed", Str.ofString "count", Str.ofString "found", Str.ofString "depth", Str.ofString "token"] [some (.ref x), some (.int (k : Nat) tk), some (.ref fa), some (.int (d' : Nat) td'), some (.ref va)] [(fa, listOf ys.toArray m), (la, listOf xs'.toArray n')] h h' ∧ TupK h₂ h' ∧ ((0 < d' ∧ out = rb os k us' d' (f ++ [t])) ∨ (d' = 0 ∧ out = .ok (f, us')))) (pt_eq (tok_item0 it (pv_loc C S2 (by (repeat' (first | exact Kd.head | apply Kd.tail))) (by (repeat' (first | exact Loc.head | apply Loc.tail)))) fun _ => by with_unfolding_all rfl) (pi_glob C S2 (by (repeat' (first | exact Kd.head | apply Kd.tail))) (gl_BEGIN _)) rfl) (fun n4 => ?_) (fun n4 => ?_) ?_
        · have n4 := of_decide_eq_true n4
          refine xs_augAdd (ns := [Str.ofString "feed", Str.ofString "count", Str.ofString "found", Str.ofString "depth", Str.ofString "token"]) C S2 (by (repeat' (first | exact Kd.head | apply Kd.tail))) (by (repeat' (first | exact Loc.head | apply Loc.tail))) pi_const (fun t => by (repeat' (first | exact SetL.head | apply SetL.tail))) fun td2 h₃ S3 S3' => xs_nil ⟨rfl, d + 1, td2, ?_, S3'.go.T, .inl ⟨by omega, hrb.trans (rb_left no n2 n3 n4)⟩⟩
          have ec : (d : Int) + 1 = ((d + 1 : Nat) : Int) := by omega
          rwa [ec] at S3
        · have n4 := of_decide_eq_false n4
          refine xs_ifP (pt_eq (tok_item0 it (pv_loc C S2 (by (repeat' (first | exact Kd.head | apply Kd.tail))) (by (repeat' (first | exact Loc.head | apply Loc.tail)))) fun _ => by with_unfolding_all rfl) (pi_glob C S2 (by (repeat' (first | exact Kd.head | apply Kd.tail))) (gl_END _)) rfl) (fun n5 => ?_) fun n5 => xs_thru (xs_nil ⟨rfl, d, td, S2, fun _ _ e _ => e, .inl ⟨by omega, hrb.trans (rb_go no n2 n3 n4 n5)⟩⟩)
          have hrb := hrb.trans (rb_end no n2 n3 n4 n5)
          refine xs_augSub (ns := [Str.ofString "feed", Str.ofString "count", Str.ofString "found", Str.ofString "depth", Str.ofString "token"]) C S2 (by (repeat' (first | exact Kd.head | apply Kd.tail))) (by (repeat' (first | exact Loc.head | apply Loc.tail))) pi_const (fun t => by (repeat' (first | exact SetL.head | apply SetL.tail))) fun td2 h₃ S3 S3' => xs_thru (xs_nil ⟨rfl, d - 1, td2, ?_, S3'.go.T, ?_⟩)
          · have ec : (d : Int) - 1 = ((d - 1 : Nat) : Int) := by omega
            rwa [ec] at S3
          · by_cases e1 : d = 1
            · rw [if_pos e1] at hrb
              exact .inr ⟨by omega, hrb⟩
            · rw [if_neg e1] at hrb
              exact .inl ⟨by omega, hrb⟩
        · rintro h₃ ⟨d', td', S3, k3, hrb'⟩
          have ty3 := ty2.mono k3
          have tx3 := tx'.mono k3
          have tv3 := tv.mono k3
          clear S2 ty2 tx' tv it k3 hrb
          refine xs_ifP (pt_gt (pi_loc C S3 (by (repeat' (first | exact Kd.head | apply Kd.tail))) (by (repeat' (first | exact Loc.head | apply Loc.tail)))) pi_const rfl) (fun n6 => ?_) fun n6 => ?_
          · have hrb : out = rb os k us' d' (f ++ [t]) := by
              rcases hrb' with q | q
              · exact q.2
              · omega
            refine xs_appendV C S3 .head (by omega) (pv_loc C S3 (by (repeat' (first | exact Kd.head | apply Kd.tail))) (by (repeat' (first | exact Loc.head | apply Loc.tail)))) (EV.pv (pv_loc C S3 (by (repeat' (first | exact Kd.head | apply Kd.tail))) (by (repeat' (first | exact Loc.head | apply Loc.tail)))) ⟨rfl, S3, S3.re⟩) rfl rfl rfl fun h₄ S4 k4 => xs_thru (xs_thru (xs_thru (xs_nil (hN (m := us'.length) (by omega) ?_))))
            exact ⟨us', d', f ++ [t], _, td', fa, _, _, xs', n', S4, nfa, (ty3.mono k4).append (.cons (tv3.mono k4) .nil), tx3.mono k4, .inl ⟨by omega, hrb⟩, rfl, by rw [List.length_append]; simp only [List.length_cons, List.length_nil]; omega⟩
          · have hrb : out = .ok (f, us') := by
              rcases hrb' with q | q
              · omega
              · exact q.2
            refine xs_thru (xs_thru (xs_thru (xs_nil (hN (m := us'.length) (by omega) ?_))))
            exact ⟨us', d', f, _, td', fa, _, _, xs', n', S3, nfa, ty3, tx3, .inr ⟨by omega, hrb⟩, rfl, by omega⟩
  · have hrb : out = .ok (f, us) := by
      rcases hrb with q | q
      · omega
      · exact q.2
    refine xs_ret (ev_tupleL C S (by (repeat' (first | exact Kd.head | apply Kd.tail))) (EV.pv (pv_loc C S (by (repeat' (first | exact Kd.head | apply Kd.tail))) (by (repeat' (first | exact Loc.head | apply Loc.tail)))) ⟨fa, ys, _, _, _, _, _, _, rfl, isL (S.N _ (.head _)).1, by omega, S, fun fp h₂ nfp itf S2 S2' => hR S2 ?_⟩) rfl)
    exact ⟨f, us, fp, hrb, rfl, ⟨ys, itf, ty.mono S2'.go.T⟩, ⟨xs, j, (S2.N _ (.tail _ (.head _))).1, tx.mono S2'.go.T⟩, by omega, by omega⟩

/-! ## a for whose body makes objects that it changes later -/
section
variable {c : Cx} {L : Addr} {sn : List (Str × NameKind)} {mg mb : Str → Option Value} {g h : Heap} {D U : Nat} {ns : List Str} {r : Heap} {x : Str} {pos px : Pos} {R : Flow → Heap → Prop}
inductive ForQ (c : Cx) (g : Heap) (L : Addr) (ns : List Str) (r : Heap) (x : Str) (body rest : List Stmt) (R : Flow → Heap → Prop) (xv : Value) (h₁ : Heap) : Prop
  | mk (n : Nat) (Pw : Nat → Value → Prop) (vs : List (Option Value)) (led : List (Addr × Obj)) (X : Nat → List (Option Value) → List (Addr × Obj) → Heap → Prop) : (SrcOK c xv h₁ n Pw) → ((∀ b, xv = .ref b → b ≠ L ∧ b ∉ led.map (·.1))) → (St g L ns vs led r h₁) → (X 0 vs led h₁) → ((∀ i vs led h h', X i vs led h → TupK h h' → X i vs led h')) → ((∀ i v vs led' h₂ T, i < n → Pw i v → St g L ns vs led' h₂ h₂ → X i vs led' h₂ → (∀ {vs led'' h₃}, St g L ns vs led'' h₂ h₃ → (∀ a ∈ led'.map (·.1), a ∈ led''.map (·.1)) → (∀ a ∈ led''.map (·.1), a ∈ led'.map (·.1) ∨ h₂.get? a = none) → X (i + 1) vs led'' h₃ → T .next h₃) →
        ∃ vs', SetL ns vs x v vs' ∧ ∀ h₃, St g L ns vs' led' h₂ h₃ → XS c h₃ body T)) → ((∀ vs led' h₅, St g L ns vs led' r h₅ → (∀ a ∈ led'.map (·.1), a ∈ led.map (·.1) ∨ h₁.get? a = none) → X n vs led' h₅ → XS c h₅ rest R)) → ForQ c g L ns r x body rest R xv h₁
theorem xs_forG {iter : Expr} {body rest : List Stmt} (C : Fc c L sn mg mb g D U) (k : Kd sn x .local)
    (q : EV c h iter (ForQ c g L ns r x body rest R))
    (hs : ∀ x, foldedSetIterable iter c.env x = pure x) : XS c h (.For (.Name x px) iter body [] pos :: rest) R := by
  have hsk : (c.env.scope.kind == .class || (c.env.scope.kind == .module && c.env.locals != c.env.globals)) = false := by rw [C.fe.kind]; rfl
  refine ⟨fun tk Q hQ => wpAny_execs_cons (wpAny_For (hs := hs) (q.run tk _ fun xv h₁ tk₁ p => ?_))⟩
  obtain ⟨n, Pw, vs, led, X, src, nb, S, x0, xst, turn, done⟩ := p
  refine src.run tk₁ _ fun it h₂ tk₂ p => ?_
  obtain ⟨It, fp, Sw, rfl, W, sw, nI, k12, hfp, hsw⟩ := p
  have S₁ := S.re.keepAll k12
  have gI : g.get? It = none := none_at nI S.F.keep
  have LI : L ≠ It := by
    rintro rfl
    obtain ⟨o, _, _, e, _⟩ := S.F.ns
    rw [nI] at e; cases e
  have kI : ∀ {l : List (Addr × Obj)}, (∀ a ∈ l.map (·.1), a ∈ led.map (·.1) ∨ (h₁.get? a = none ∧ a ≠ It)) → It ∉ l.map (·.1) := fun {l} K hm => by
    rcases K _ hm with q | q
    · obtain ⟨p, hp, e⟩ := List.mem_map.mp q
      have := (S.N p hp).1
      rw [e, nI] at this; cases this
    · exact q.2 rfl
  have gE : ∀ {α : Type} {t : Sem α} {Q : α → Shared → Prop} {s : Shared}, wpAny (model c.prog c.w) c.A t Q c.E s → wpAny (model c.prog c.w) c.A t Q (notedBy (model c.prog c.w) c.A c.env fun e s' => cameBackBy (model c.prog c.w) c.A c.env c.E e s') s := fun h => wpAny_passesOwn C.po h
  refine codeAny_forLoop (fun m s' => Ex5 fun i vs led' h' tk' => s' = mk c.s h' tk' ∧ m = n + 1 - i ∧ i ≤ n ∧ Sw i h' ∧ St g L ns vs led' h₁ h' ∧ (∀ a ∈ led.map (·.1), a ∈ led'.map (·.1)) ∧ (∀ a ∈ led'.map (·.1), a ∈ led.map (·.1) ∨ (h₁.get? a = none ∧ a ≠ It)) ∧ X i vs led' h') ?_ (n + 1) ⟨0, vs, led, h₂, tk₂, rfl, rfl, Nat.zero_le _, sw, S₁, fun _ h => h, fun _ h => .inl h, xst _ _ _ _ _ x0 fun a o e _ => k12 a o e⟩
  rintro m s' ⟨i, vs, led', h', tk', rfl, rfl, hi, sw', S', e', K', x'⟩
  have tup : ∀ {h₃ : Heap}, (∀ b o, b ∉ [It] → h'.get? b = some o → h₃.get? b = some o) → TupK h' h₃ := fun kp a o e t => kp a o (fun hm => by
    obtain ⟨o', e2, n2⟩ := hsw _ _ sw'
    rw [List.mem_singleton.mp hm, e2] at e
    cases e; exact n2 t) e
  by_cases hlt : i < n
  · refine W.item i _ _ _ hlt sw' fun v ha tka pv swa kpa => ?_
    have S₂ : St g L ns vs led' h₁ ha := S'.stab (fun b o n e => kpa b o (by simpa using n) e) gI LI (kI K') nI
    have x₂ := xst _ _ _ _ _ x' (tup kpa)
    have frame : ∀ {vs led'' hc}, St g L ns vs led'' h₁ hc → (∀ a ∈ led'.map (·.1), a ∈ led''.map (·.1)) → (∀ a ∈ led''.map (·.1), a ∈ led'.map (·.1) ∨ ha.get? a = none) → St g L ns vs led'' ha hc → X (i + 1) vs led'' hc →
        Sw (i + 1) hc ∧ (∀ a ∈ led''.map (·.1), a ∈ led.map (·.1) ∨ (h₁.get? a = none ∧ a ≠ It)) := fun {vs led'' hc} Sa e1 K1 Sb _ => by
      have K2 : ∀ a ∈ led''.map (·.1), a ∈ led.map (·.1) ∨ (h₁.get? a = none ∧ a ≠ It) := fun a hm => by
        rcases K1 a hm with q | q
        · exact K' a q
        · refine .inr ⟨S₂.go.D _ q, fun z => ?_⟩
          obtain ⟨o, e, _⟩ := hsw _ _ swa
          rw [← z, q] at e; cases e
      refine ⟨W.frame _ _ _ swa fun b hb o e => Sb.go.K b o (fun hm => ?_) e, K2⟩
      rcases List.mem_cons.mp hm with q | q
      · rcases hfp b hb with z | z
        · exact LI (q.symm.trans z)
        · exact (nb b z.2).1 q
      · rcases K2 b q with z | z
        · rcases hfp b hb with y | y
          · exact kI (fun _ h => .inl h) (y ▸ z)
          · exact (nb b y.2).2 z
        · rcases hfp b hb with y | y
          · exact z.2 y
          · exact y.1 z.1
    obtain ⟨vs', sl, tn⟩ := turn i v vs led' ha (fun f h₄ => match f with
      | .next => Ex5 fun i' vs led' h' tk' => i' = i + 1 ∧ h₄ = h' ∧ Sw i' h' ∧ St g L ns vs led' h₁ h' ∧ (∀ a ∈ led.map (·.1), a ∈ led'.map (·.1)) ∧ (∀ a ∈ led'.map (·.1), a ∈ led.map (·.1) ∨ (h₁.get? a = none ∧ a ≠ It)) ∧ X i' vs led' h' ∧ tk' = tk'
      | _ => False) hlt pv S₂.re x₂ (fun {vs led'' h₃} Sb e1 K1 x3 => by
        have Sa := S₂.then Sb e1
        obtain ⟨f1, f2⟩ := frame Sa e1 K1 Sb x3
        exact ⟨_, vs, led'', h₃, 0, rfl, rfl, f1, Sa, fun a ha => e1 a (e' a ha), f2, x3, rfl⟩)
    refine wpAny_assign_Name (gE (r_store C.fe S₂.re k sl fun h₃ tk₃ S₃ S₃' => ?_))
    refine gE ((tn h₃ S₃).run tk₃ _ fun f h₄ tk₄ p => ?_)
    cases f with
    | next =>
      obtain ⟨i', vs, led', h', _, rfl, rfl, f1, Sa, f2, f3, x3, _⟩ := p
      exact ⟨n + 1 - (i + 1), by omega, i + 1, vs, led', h₄, tk₄, rfl, rfl, hlt, f1, Sa, f2, f3, x3⟩
    | cont => exact p.elim
    | brk => exact p.elim
    | ret v => exact p.elim
  · have hin : i = n := by omega
    subst hin
    refine W.done _ _ _ sw' fun ha tka kpa => ?_
    have S₂ : St g L ns vs led' h₁ ha := S'.stab (fun b o n e => kpa b o (by simpa using n) e) gI LI (kI K') nI
    exact wpAny_execs_nil ((done vs led' ha (S.then S₂ e') (fun a ha => (K' a ha).imp_right fun q => q.1) (xst _ _ _ _ _ x' (tup kpa))).run tka _ hQ)
end

/-! ## Macro -/
def spl (acc : List (List (Int × Int))) (t : Int × Int) : List (List (Int × Int)) := if t.1 = 9 then [] :: acc else match acc with
  | r :: rs => (r ++ [t]) :: rs
  | [] => []
/-- the rows, the last first -/
def rowsR (ps : List (Int × Int)) : List (List (Int × Int)) := ps.foldl spl [[]]
def nines (ps : List (Int × Int)) : Nat := (ps.filter fun t => decide (t.1 = 9)).length
theorem rowsR_snoc (ps : List (Int × Int)) (t : Int × Int) : rowsR (ps ++ [t]) = spl (rowsR ps) t := by rw [rowsR, List.foldl_append]; rfl
theorem nines_snoc (ps : List (Int × Int)) (t : Int × Int) : nines (ps ++ [t]) = nines ps + if t.1 = 9 then 1 else 0 := by
  unfold nines
  rw [List.filter_append, List.length_append]
  congr 1
  by_cases q : t.1 = 9 <;> simp [q]
theorem spl_len {acc : List (List (Int × Int))} (t : Int × Int) (h : acc ≠ []) : (spl acc t).length = acc.length + if t.1 = 9 then 1 else 0 := by
  unfold spl
  by_cases q : t.1 = 9
  · rw [if_pos q, if_pos q]; rfl
  · rw [if_neg q, if_neg q]
    cases acc with
    | nil => exact absurd rfl h
    | cons r rs => rfl
theorem rowsR_len : ∀ n (ps : List (Int × Int)), (rowsR (ps.take n)).length = nines (ps.take n) + 1
  | 0, ps => rfl
  | n + 1, ps => by
    have ih := rowsR_len n ps
    rw [List.take_add_one]
    cases h : ps[n]? with
    | none => simpa using ih
    | some t =>
      show (rowsR (ps.take n ++ [t])).length = nines (ps.take n ++ [t]) + 1
      rw [rowsR_snoc, nines_snoc, spl_len t (by intro e; rw [e] at ih; simp at ih), ih]; omega
theorem rowsR_each : ∀ n (ps : List (Int × Int)) (r : List (Int × Int)), r ∈ rowsR (ps.take n) → r.length ≤ n
  | 0, ps, r, h => by
    have h : r ∈ [([] : List (Int × Int))] := h
    rw [List.mem_singleton.mp h]; exact Nat.le_refl _
  | n + 1, ps, r, h => by
    have ih := rowsR_each n ps
    rw [List.take_add_one] at h
    cases e : ps[n]? with
    | none =>
      rw [e, Option.toList_none, List.append_nil] at h
      exact Nat.le_succ_of_le (ih r h)
    | some t =>
      rw [e] at h
      have h : r ∈ rowsR (ps.take n ++ [t]) := h
      rw [rowsR_snoc] at h
      unfold spl at h
      split at h
      · rcases List.mem_cons.mp h with q | q
        · rw [q]; exact Nat.zero_le _
        · exact Nat.le_succ_of_le (ih r q)
      · split at h
        · rename_i r' rs e'
          rcases List.mem_cons.mp h with q | q
          · have := ih r' (by rw [e']; exact .head _)
            rw [q, List.length_append, List.length_singleton]; omega
          · exact Nat.le_succ_of_le (ih r (by rw [e']; exact .tail _ q))
        · cases h
/-- marks numbered from 1 on -/
def okM (ps : List (Int × Int)) : Prop := ∀ i t, ps[i]? = some t → t.1 = 9 → t.2 = ((nines (ps.take i) + 1 : Nat) : Int) ∧ nines (ps.take i) < 9
abbrev Ins := List (Addr × List Value × Nat)
inductive RowsAt (h : Heap) : Ins → List (List (Int × Int)) → Prop
  | nil : RowsAt h [] []
  | cons {a ys n r ins rs} : Toks h ys r → RowsAt h ins rs → RowsAt h ((a, ys, n) :: ins) (r :: rs)
theorem RowsAt.mono {h h' : Heap} {ins : Ins} {rs : List (List (Int × Int))} (q : RowsAt h ins rs) (k : TupK h h') : RowsAt h' ins rs := by
  induction q with
  | nil => exact .nil
  | cons t _ ih => exact .cons (t.mono k) ih
theorem RowsAt.length {h : Heap} {ins : Ins} {rs : List (List (Int × Int))} (q : RowsAt h ins rs) : ins.length = rs.length := by
  induction q with
  | nil => rfl
  | cons t _ ih => simp [ih]
theorem RowsAt.append {h : Heap} {ins ins' : Ins} {rs rs' : List (List (Int × Int))} (q : RowsAt h ins rs) (q' : RowsAt h ins' rs') : RowsAt h (ins ++ ins') (rs ++ rs') := by
  induction q with
  | nil => exact q'
  | cons t _ ih => exact .cons t ih
theorem RowsAt.rev {h : Heap} {ins : Ins} {rs : List (List (Int × Int))} (q : RowsAt h ins rs) : RowsAt h ins.reverse rs.reverse := by
  induction q with
  | nil => exact .nil
  | cons t _ ih =>
    rw [List.reverse_cons, List.reverse_cons]
    exact ih.append (.cons t .nil)
theorem RowsAt.get {h : Heap} {ins : Ins} {rs : List (List (Int × Int))} (q : RowsAt h ins rs) {i : Nat} {p : Addr × List Value × Nat} (e : ins[i]? = some p) : ∃ r, rs[i]? = some r ∧ Toks h p.2.1 r := by
  induction q generalizing i with
  | nil => simp at e
  | @cons a ys n r ins rs t _ ih =>
    cases i with
    | zero => simp at e; subst e; exact ⟨r, rfl, t⟩
    | succ i => exact ih (by simpa using e)
def insL (ins : Ins) : List (Addr × Obj) := ins.map fun p => (p.1, listOf (List.toArray p.2.1) p.2.2)
def insV (ins : Ins) : List Value := ins.reverse.map fun p => Value.ref p.1
theorem insV_cons (p : Addr × List Value × Nat) (ins : Ins) : insV (p :: ins) = insV ins ++ [.ref p.1] := by unfold insV; rw [List.reverse_cons, List.map_append]; rfl
theorem insV_len (ins : Ins) : (insV ins).length = ins.length := by unfold insV; simp
theorem Up.pre {a : Addr} {o : Obj} {f : Obj → List (Addr × Obj)} {led : List (Addr × Obj)} (U : Up led a o f) : ∀ pre : List (Addr × Obj), Up (pre ++ led) a o (fun o' => pre ++ f o')
  | [] => U
  | _ :: pre => .tail (Up.pre U pre)
/-- the last item of a list -/
theorem pv_last {c : Cx} {h : Heap} {o ix : Expr} {pos : Pos} {la : Addr} {xs : List Value} {n : Nat} {v : Value} (hv : PV c h o (.ref la)) (hi : PI c h ix (-1)) (hl : h.get? la = some (listOf (xs ++ [v]).toArray n)) (hz : xs.length ≤ 1000)
    (hs : ∀ t, subscripted ix false (.ref la) (.int (-1) t) = operate [.ref la, .int (-1) t] (getItem (.ref la) (.int (-1) t))) : PV c h (.Subscript o ix pos) v :=
  ev_sub hv hi fun t => ⟨fun tk Q hQ => by
    have hL : h.IsList la (xs ++ [v]).toArray := ⟨_, hl, rfl, n, rfl⟩
    refine tail_any (s := Mine.mk c.s h tk) (Heap.IsList.typeIs (s := Mine.mk c.s h tk) hL) slot_list_getitem.lookup (wpAny_getItem_list_neg (s := Mine.mk c.s h tk) hL (by decide) (by simp; omega) (by decide) (x := v) ?_ (hQ _ _ _ ⟨rfl, rfl⟩)) (hs t)
    have e : (-1 + ((xs ++ [v]).toArray.size : Int)).toNat = xs.length := by simp; omega
    rw [e]; simp⟩
def RwI (x dx pa ba ra : Addr) (il io : Bool) (ps : List (Int × Int)) (i : Nat) (vs : List (Option Value)) (led : List (Addr × Obj)) (h : Heap) : Prop :=
  Ex3 fun z ins m => vs = [some (.ref x), some (.ref pa), some (.ref ba), some (.bool il), some (.bool io), some (.ref ra), z] ∧ led = insL ins ++ [(ra, listOf (insV ins).toArray m), (dx, dictOf [] 0)] ∧ RowsAt h ins (rowsR (ps.take i))
theorem insL_keys (ins : Ins) : (insL ins).map (·.1) = ins.map (·.1) := by unfold insL; rw [List.map_map]; rfl
theorem St.perm {g : Heap} {L : Addr} {ns : List Str} {vs : List (Option Value)} {led led' : List (Addr × Obj)} {r h : Heap} (S : St g L ns vs led r h) (p : led.Perm led') : St g L ns vs led' r h :=
  ⟨S.nd, S.F, fun q hq => S.N q (p.mem_iff.mpr hq), (p.map (·.1)).nodup_iff.mp S.ld, fun q hq => S.lt q (p.mem_iff.mpr hq), S.go.mono fun w hw => by
    rcases List.mem_cons.mp hw with q | q
    · exact q ▸ List.mem_cons_self
    · exact List.mem_cons_of_mem _ ((p.map (·.1)).mem_iff.mp q)⟩
def macD (w : World) (t1 t2 t3 t4 t5 t6 : Tok) (pa ba da : Addr) (il io : Bool) (cn : Int) (tc : Tok) : List DictEntry := [⟨PyData.keyHash w.params (Str.ofString "parameters"), .str (Str.ofString "parameters") t1, .ref pa⟩, ⟨PyData.keyHash w.params (Str.ofString "body"), .str (Str.ofString "body") t2, .ref ba⟩, ⟨PyData.keyHash w.params (Str.ofString "is_long"), .str (Str.ofString "is_long") t3, .bool il⟩,
  ⟨PyData.keyHash w.params (Str.ofString "is_outer"), .str (Str.ofString "is_outer") t4, .bool io⟩, ⟨PyData.keyHash w.params (Str.ofString "count"), .str (Str.ofString "count") t5, .int cn tc⟩, ⟨PyData.keyHash w.params (Str.ofString "delimiters"), .str (Str.ofString "delimiters") t6, .ref da⟩]
def MacMade (w : World) (dx pa ba : Addr) (il io : Bool) (ps : List (Int × Int)) (h' : Heap) (v : Value) : Prop := v = .none ∧ Ex8 fun t1 t2 t3 t4 t5 t6 tc da => h'.get? dx = some (dictOf (macD w t1 t2 t3 t4 t5 t6 pa ba da il io (nines ps : Nat) tc) 6) ∧ TTT h' da (rowsR ps).reverse
theorem macro_init {w : World} {h : Heap} {x dx pa ba : Addr} {il io : Bool} {ps bs : List (Int × Int)} (hx : h.get? x = some (instObj 214 dx)) (hd : h.get? dx = some (dictOf [] 0)) (hP : TT h pa ps) (hB : TT h ba bs) (okm : okM ps) (hps : ps.length ≤ 1000) :
    Spec w 197 [.ref x, .ref pa, .ref ba, .bool il, .bool io] [(dx, dictOf [] 0)] 1 3 h (MacMade w dx pa ba il io ps) := by
  have nT : ∀ es nn, ¬ IsT (dictOf es nn) := fun es nn q => by
    obtain ⟨q, _⟩ := q
    exact absurd (show Value.type "dict" = Value.type "tuple" from q) (by decide)
  have hnd : ∀ {b o}, h.get? b = some o → o.cls ≠ .type "dict" → b ∉ List.map (·.1) [(dx, dictOf [] 0)] := fun {b o} e n hm => by
    have hm : b = dx := List.mem_singleton.mp hm
    rw [hm, hd] at e; cases e
    exact n rfl
  refine spec_K (D := 0) (U := 0) [Str.ofString "self", Str.ofString "parameters", Str.ofString "body", Str.ofString "is_long", Str.ofString "is_outer", Str.ofString "rows", Str.ofString "token"] 5 rfl (by kernel_rfl) (fun _ X => binds_pk X fun S => rfl) rfl (by decide +kernel) (by decide) (by decide +kernel) (by decide +kernel) (by decide +kernel) (by simp) (by simpa using nT [] 0) ?_
  intro c mg mb g h₁ L R hw C hk S _ hE
  dsimp only at C
  subst hw
  have hsl : sizeLine = 16777216 := sizeLine_eq
  have gx : g.get? x = some (instObj 214 dx) := hk _ _ (hnd hx (by show Value.ref 214 ≠ _; simp)) hx
  have gtt : ∀ {a : Addr} {ts : List (Int × Int)}, TT h a ts → TT g a ts := fun {a ts} q => by
    obtain ⟨ws, ⟨o, ho, hc, n, hd'⟩, tt⟩ := q
    exact ⟨ws, ⟨o, hk _ _ (hnd ho (by rw [hc]; decide)) ho, hc, n, hd'⟩, tt.mono fun a o e t => hk a o (hnd e (by rw [t.1]; decide)) e⟩
  have gP := gtt hP
  have gB := gtt hB
  clear hk hP hB gtt hnd
  obtain ⟨pws, pit, ptt⟩ := gP
  obtain ⟨bws, bit, btt⟩ := gB
  refine xs_if (b := false) (pt_of (pt_or2 (pt_not (pt_val (pb_isi (b := true) C S (by (repeat' (first | exact Kd.head | apply Kd.tail))) (by (repeat' (first | exact Kd.head | apply Kd.tail))) (gl_tuple _) (by boot_fast) (by decide) (pv_loc C S (by (repeat' (first | exact Kd.head | apply Kd.tail))) (by (repeat' (first | exact Loc.head | apply Loc.tail)))) ⟨fun tk Q hQ => ?_⟩ (fun _ => rfl) rfl) rfl)) fun _ => pt_not (pt_val (pb_isi (b := true) C S (by (repeat' (first | exact Kd.head | apply Kd.tail))) (by (repeat' (first | exact Kd.head | apply Kd.tail))) (gl_tuple _) (by boot_fast) (by decide) (pv_loc C S (by (repeat' (first | exact Kd.head | apply Kd.tail))) (by (repeat' (first | exact Loc.head | apply Loc.tail)))) ⟨fun tk Q hQ => ?_⟩ (fun _ => rfl) rfl) rfl)) rfl) (fun q => nomatch q) fun _ => xs_thru ?_
  · obtain ⟨o, ho, hc, _⟩ := pit.keeps S.F.keep
    exact PySem.IsiPair.tuple_tuple (s := Mine.mk c.s h₁ tk) ho hc (hQ _ _ _ ⟨rfl, rfl⟩)
  · obtain ⟨o, ho, hc, _⟩ := bit.keeps S.F.keep
    exact PySem.IsiPair.tuple_tuple (s := Mine.mk c.s h₁ tk) ho hc (hQ _ _ _ ⟨rfl, rfl⟩)
  refine xs_let (ns := [Str.ofString "self", Str.ofString "parameters", Str.ofString "body", Str.ofString "is_long", Str.ofString "is_outer", Str.ofString "rows", Str.ofString "token"]) C (by (repeat' (first | exact Kd.head | apply Kd.tail))) rfl (ev_list (ea_cons (ev_list (ea_nil ⟨_, _, _, _, _, _, S, by simp [hsl], fun a0 h₂ n0 S2 _ => ea_nil ⟨_, _, _, _, _, _, S2, by simp [hsl], fun ra h₃ nr S3 S3' => ⟨_, [(a0, listOf ([] : List Value).toArray 0), (ra, listOf [Value.ref a0].toArray 0), (dx, dictOf [] 0)], _, _, S3.perm (List.Perm.swap _ _ _), by (repeat' (first | exact SetL.head | apply SetL.tail)), fun h₄ S4 _ => ?_⟩⟩⟩)) rfl))
  clear S S2 S3 S3' n0 nr
  refine xs_forG (r := h) (ns := [Str.ofString "self", Str.ofString "parameters", Str.ofString "body", Str.ofString "is_long", Str.ofString "is_outer", Str.ofString "rows", Str.ofString "token"]) C (by (repeat' (first | exact Kd.head | apply Kd.tail))) (EV.pv (pv_loc C S4 (by (repeat' (first | exact Kd.head | apply Kd.tail))) (by (repeat' (first | exact Loc.head | apply Loc.tail)))) ⟨ps.length, fun i v => pws[i]? = some v, _, _, RwI x dx pa ba ra il io ps, ?_, fun b e => ?_, S4, ⟨_, [(a0, [], 0)], 0, rfl, rfl, .cons .nil .nil⟩, ?_, ?_, ?_⟩) fun _ => rfl
  · have := src_tup C.hh (pit.keeps S4.F.keep)
    rwa [ptt.length] at this
  · cases e
    obtain ⟨o, ho, hc, n, hd'⟩ := pit
    refine ⟨fun q => ?_, fun hm => ?_⟩
    · rw [q, Fr.lnone S4.F] at ho; cases ho
    · obtain ⟨p, hp, q⟩ := List.mem_map.mp hm
      have := (S4.N p hp).2.2
      rw [q, ho] at this; cases this
  · rintro i vs led h h' ⟨z, ins, m, e1, e2, q⟩ k
    exact ⟨z, ins, m, e1, e2, q.mono k⟩
  · rintro i v vs led' h₂ T hi pv S2 ⟨z, ins, m, rfl, rfl, hrows⟩ hN
    refine ⟨_, by (repeat' (first | exact SetL.head | apply SetL.tail)), fun h₃ S => ?_⟩
    obtain ⟨t, ht⟩ : ∃ t, ps[i]? = some t := ⟨_, List.getElem?_eq_getElem hi⟩
    obtain ⟨v', hv', tv⟩ := ptt.get ht
    rw [pv] at hv'
    cases hv'
    have tv : TokAt h₃ v t := tv.mono fun a o e _ => S.F.keep a o e
    have hlen := hrows.length
    rw [rowsR_len] at hlen
    have hn : nines (ps.take i) ≤ i := by
      unfold nines
      exact Nat.le_trans (List.length_filter_le _ _) (by rw [List.length_take]; omega)
    have hrows3 := hrows.mono S.go.T
    have hstep : rowsR (ps.take (i + 1)) = spl (rowsR (ps.take i)) t := by
      rw [List.take_add_one, ht]; exact rowsR_snoc _ _
    obtain ⟨va, u1, u2, rfl, it⟩ := id tv
    have hra : (ra, listOf (insV ins).toArray m) ∈ insL ins ++ [(ra, listOf (insV ins).toArray m), (dx, dictOf [] 0)] := List.mem_append_right _ (.head _)
    have hvl := insV_len ins
    clear S4 S2 pv hrows
    refine xs_ifP (pt_eq (tok_item0 it (pv_loc C S (by (repeat' (first | exact Kd.head | apply Kd.tail))) (by (repeat' (first | exact Loc.head | apply Loc.tail)))) fun _ => by with_unfolding_all rfl) (pi_glob C S (by (repeat' (first | exact Kd.head | apply Kd.tail))) (gl_MATCH _)) rfl) (fun n1 => ?_) fun n1 => ?_
    · obtain ⟨b1, b2⟩ := okm i t ht n1
      refine xs_if (b := false) (pt_of (pt_or2 (pt_ne (tok_item1 it (pv_loc C S (by (repeat' (first | exact Kd.head | apply Kd.tail))) (by (repeat' (first | exact Loc.head | apply Loc.tail)))) fun _ => by with_unfolding_all rfl) (ev_len C S (by (repeat' (first | exact Kd.head | apply Kd.tail))) (pv_loc C S (by (repeat' (first | exact Kd.head | apply Kd.tail))) (by (repeat' (first | exact Loc.head | apply Loc.tail)))) (isL (S.N _ hra).1) (by omega) rfl) rfl) fun _ => pt_gt (ev_len C S (by (repeat' (first | exact Kd.head | apply Kd.tail))) (pv_loc C S (by (repeat' (first | exact Kd.head | apply Kd.tail))) (by (repeat' (first | exact Loc.head | apply Loc.tail)))) (isL (S.N _ hra).1) (by omega) rfl) (pi_glob C S (by (repeat' (first | exact Kd.head | apply Kd.tail))) (gl_MOST_PARAMETERS _)) rfl) ?_) (fun q => nomatch q) fun _ => xs_thru ?_
      · rw [decide_eq_true (by omega), decide_eq_false (by omega)]; rfl
      · refine xs_expr (ev_meth1 S (pv_loc C S (by (repeat' (first | exact Kd.head | apply Kd.tail))) (by (repeat' (first | exact Loc.head | apply Loc.tail)))) hra PySem.F.slot_list_append PySem.F.type_list_append (ev_list (ea_nil ⟨_, _, _, _, _, _, S, by simp [hsl], fun a h₄ na S5 S5' => ⟨fun tk Q hQ => (tr_append S5 (.tail (Up.pre .head (insL ins))) (by omega)).run tk Q fun v' h' tk' p => hQ _ _ _ ?_⟩⟩)) rfl rfl) C rfl
        obtain ⟨rfl, S6, S6'⟩ := p
        refine ⟨rfl, xs_thru (xs_nil (hN S6 (fun b hb => List.mem_cons_of_mem _ (by simpa using hb)) (fun b hb => ?_) ⟨_, (a, [], 0) :: ins, m + 1, rfl, by rw [insV_cons]; rfl, ?_⟩))⟩
        · rcases List.mem_cons.mp hb with q | q
          · exact .inr (q ▸ S.go.D _ na)
          · exact .inl (by simpa using q)
        · rw [hstep]
          unfold spl
          rw [if_pos n1]
          exact .cons .nil ((hrows3.mono S5'.go.T).mono S6'.go.T)
    · have hb := rowsR_each i ps
      generalize rowsR (ps.take i) = rr at hrows3 hstep hlen hb
      cases hrows3 with
      | nil => simp at hlen
      | @cons a ys nn row ins rws tr hr =>
        have eV := insV_cons (a, ys, nn) ins
        rw [eV] at hra
        have hyz : ys.length ≤ 10000 := by
          have h1 := hb row (.head _)
          have h2 := tr.length
          omega
        refine xs_appendV C S .head hyz (pv_last (pv_loc C S (by (repeat' (first | exact Kd.head | apply Kd.tail))) (by (repeat' (first | exact Loc.head | apply Loc.tail)))) (pi_neg pi_const) (S.N (ra, listOf (insV ins ++ [Value.ref a]).toArray m) (by rw [eV]; exact hra)).1 (by rw [insV_len]; simp only [List.length_cons] at hlen; omega) fun _ => by with_unfolding_all rfl) (EV.pv (pv_loc C S (by (repeat' (first | exact Kd.head | apply Kd.tail))) (by (repeat' (first | exact Loc.head | apply Loc.tail)))) ⟨rfl, S, S.re⟩) rfl rfl rfl fun h₄ S4 k4 => xs_thru (xs_nil (hN S4 (fun b hb => hb) (fun b hb => .inl hb) ⟨_, (a, ys ++ [Value.ref va], nn + 1) :: ins, m, rfl, by rw [eV, insV_cons]; rfl, ?_⟩))
        rw [hstep]
        unfold spl
        rw [if_neg n1]
        exact .cons ((tr.mono k4).append (.cons (tv.mono k4) .nil)) (hr.mono k4)
  · rintro vs led' h₅ S hK ⟨z, ins, m, rfl, rfl, hrows⟩
    rw [List.take_length] at hrows
    clear S4 hK
    have hrl := rowsR_len ps.length ps
    rw [List.take_length] at hrl
    have hil := hrows.length
    have hvl := insV_len ins
    have hn : nines ps ≤ ps.length := List.length_filter_le _ _
    refine xs_setI C (EV.pv (pv_loc C S (by (repeat' (first | exact Kd.head | apply Kd.tail))) (by (repeat' (first | exact Loc.head | apply Loc.tail)))) ⟨_, _, _, _, _, _, S, Up.pre (.tail .head) _, S.F.keep _ _ gx, pv_loc C S (by (repeat' (first | exact Kd.head | apply Kd.tail))) (by (repeat' (first | exact Loc.head | apply Loc.tail))), rfl, by decide, fun t1 h₆ S6 k6 => ?_⟩) (by kernel_rfl) (by kernel_rfl) (by kernel_rfl) (by kernel_rfl) rfl
    have hrows := hrows.mono k6
    clear S k6
    refine xs_setI C (EV.pv (pv_loc C S6 (by (repeat' (first | exact Kd.head | apply Kd.tail))) (by (repeat' (first | exact Loc.head | apply Loc.tail)))) ⟨_, _, _, _, _, _, S6, Up.pre (.tail .head) _, S6.F.keep _ _ gx, pv_loc C S6 (by (repeat' (first | exact Kd.head | apply Kd.tail))) (by (repeat' (first | exact Loc.head | apply Loc.tail))), rfl, by show 1 ≤ 100; decide, fun t2 h₇ S7 k7 => ?_⟩) (by kernel_rfl) (by kernel_rfl) (by kernel_rfl) (by kernel_rfl) rfl
    have hrows := hrows.mono k7
    clear S6 k7
    refine xs_setI C (EV.pv (pv_loc C S7 (by (repeat' (first | exact Kd.head | apply Kd.tail))) (by (repeat' (first | exact Loc.head | apply Loc.tail)))) ⟨_, _, _, _, _, _, S7, Up.pre (.tail .head) _, S7.F.keep _ _ gx, pv_loc C S7 (by (repeat' (first | exact Kd.head | apply Kd.tail))) (by (repeat' (first | exact Loc.head | apply Loc.tail))), rfl, by show 2 ≤ 100; decide, fun t3 h₈ S8 k8 => ?_⟩) (by kernel_rfl) (by kernel_rfl) (by kernel_rfl) (by kernel_rfl) rfl
    have hrows := hrows.mono k8
    clear S7 k8
    refine xs_setI C (EV.pv (pv_loc C S8 (by (repeat' (first | exact Kd.head | apply Kd.tail))) (by (repeat' (first | exact Loc.head | apply Loc.tail)))) ⟨_, _, _, _, _, _, S8, Up.pre (.tail .head) _, S8.F.keep _ _ gx, pv_loc C S8 (by (repeat' (first | exact Kd.head | apply Kd.tail))) (by (repeat' (first | exact Loc.head | apply Loc.tail))), rfl, by show 3 ≤ 100; decide, fun t4 h₉ S9 k9 => ?_⟩) (by kernel_rfl) (by kernel_rfl) (by kernel_rfl) (by kernel_rfl) rfl
    have hrows := hrows.mono k9
    clear S8 k9
    refine xs_setI C (EV.pi (pi_sub (ev_len C S9 (by (repeat' (first | exact Kd.head | apply Kd.tail))) (pv_loc C S9 (by (repeat' (first | exact Kd.head | apply Kd.tail))) (by (repeat' (first | exact Loc.head | apply Loc.tail)))) (isL (S9.N _ (List.mem_append_right _ (.head _))).1) (by omega) rfl) pi_const) fun tc => ⟨_, _, _, _, _, _, S9, Up.pre (.tail .head) _, S9.F.keep _ _ gx, pv_loc C S9 (by (repeat' (first | exact Kd.head | apply Kd.tail))) (by (repeat' (first | exact Loc.head | apply Loc.tail))), rfl, by show 4 ≤ 100; decide, fun t5 h₁₀ S10 k10 => ?_⟩) (by kernel_rfl) (by kernel_rfl) (by kernel_rfl) (by kernel_rfl) rfl
    have hrows := hrows.mono k10
    clear S9 k10
    refine xs_setI (ns := [Str.ofString "self", Str.ofString "parameters", Str.ofString "body", Str.ofString "is_long", Str.ofString "is_outer", Str.ofString "rows", Str.ofString "token"]) (x := x) (dx := dx) (Ca := 214) C (ev_tupleL C S10 (by (repeat' (first | exact Kd.head | apply Kd.tail))) (ev_comp (L := L) (snc := [(Str.ofString ".0", .local), (Str.ofString "row", .local), (Str.ofString "tuple", .globalImplicit)]) (nsc := [Str.ofString "row"]) (cl := []) (vz := fun z => [z]) C ⟨relab C (by decide +kernel), by decide +kernel, by decide +kernel, by decide +kernel, rfl, by decide +kernel, rfl, fun z v => .head, by (repeat' (first | exact Kd.head | apply Kd.tail)), by unfold closureFor; rfl, by decide +kernel⟩ (fun _ => rfl) (EV.pv (pv_loc C S10 (by (repeat' (first | exact Kd.head | apply Kd.tail))) (by (repeat' (first | exact Loc.head | apply Loc.tail)))) (tr_compQ C S10 (src_list C.hh (isL (S10.N _ (List.mem_append_right _ (.head _))).1)) (by omega) (fun i ys h => TTs h ys ((rowsR ps).reverse.take i)) (by rw [List.take_zero]; exact .nil) (fun _ _ _ _ y k => y.mono k) ?_ ?_))) rfl) (by kernel_rfl) (by kernel_rfl) (by kernel_rfl) (by kernel_rfl) rfl
    · intro i v ys m2 Dd h₁₁ Ca g' hi pv Fi kg S11 y hl
      show EV _ _ _ _
      obtain ⟨p, hp, rfl⟩ : ∃ p, ins.reverse[i]? = some p ∧ v = Value.ref p.1 := by
        unfold insV at pv
        rw [List.getElem?_map] at pv
        cases e : ins.reverse[i]? with
        | none => rw [e] at pv; cases pv
        | some p => rw [e] at pv; exact ⟨p, rfl, (Option.some.inj pv).symm⟩
      obtain ⟨row, hrow, tr⟩ := hrows.rev.get hp
      have hpm : p ∈ ins := List.mem_reverse.mp (List.mem_of_getElem? hp)
      have hdp := S11.F.keep _ _ (kg _ _ (S10.N (p.1, listOf p.2.1.toArray p.2.2) (List.mem_append_left _ (List.mem_map_of_mem (f := fun p : Addr × List Value × Nat => (p.1, listOf (List.toArray p.2.1) p.2.2)) hpm))).1)
      have hrl := rowsR_each ps.length ps row (by rw [List.take_length]; exact List.mem_reverse.mp (List.mem_of_getElem? hrow))
      refine ev_tupleL Fi S11 (by (repeat' (first | exact Kd.head | apply Kd.tail))) (EV.pv (pv_loc Fi S11 (by (repeat' (first | exact Kd.head | apply Kd.tail))) (by (repeat' (first | exact Loc.head | apply Loc.tail)))) ⟨p.1, p.2.1, _, _, _, _, _, _, rfl, isL hdp, by rw [tr.length]; omega, S11, fun a h₁₂ na ita S12 S12' => ⟨S12, ?_⟩⟩) rfl
      rw [List.take_add_one, hrow]
      exact (y.mono S12'.go.T).snoc ⟨p.2.1, ita, tr.mono fun a o e t => S12.F.keep _ _ (kg _ _ e)⟩
    · intro Dd Ca h₁₁ ys m2 S11 S11' nD ab hl y
      rw [List.take_of_length_le (by rw [List.length_reverse, hrl, hvl]; omega)] at y
      refine ⟨Dd, ys, _, _, _, _, _, _, rfl, isL (S11.N _ (.head _)).1, by omega, S11, fun da h₁₂ nda ida S12 S12' => ⟨_, _, _, _, _, _, S12, .tail (Up.pre (.tail .head) _), S12.F.keep _ _ gx, pv_loc C S12 (by (repeat' (first | exact Kd.head | apply Kd.tail))) (by (repeat' (first | exact Loc.head | apply Loc.tail))), by rfl, by show 5 ≤ 100; decide, fun t6 h₁₃ S13 k13 => xs_nil (hE S13 ⟨rfl, t1, t2, t3, t4, t5, t6, tc, da, ?_, ?_⟩)⟩⟩
      · have e := (S13.N _ (.tail _ (List.mem_append_right _ (.tail _ (.head _))))).1
        have e2 : ((insV ins).length : Int) - 1 = (nines ps : Nat) := by omega
        rw [e2] at e
        exact e
      · exact TTT.mono ⟨ys, ida, y.mono S12'.go.T⟩ k13

/-! ## definition -/
def defF (os ts : List (Int × Int)) : Except Addr (List (Int × Int) × List (Int × Int) × List (Int × Int)) := match rp os ts 0 [] with
  | .error C => .error C
  | .ok (f, _, us) => match rb os (nines f) us 1 [] with
    | .error C => .error C
    | .ok (bs, rest) => .ok (f, bs, rest)
theorem okM_snoc {f : List (Int × Int)} {t : Int × Int} (h : okM f) (ht : t.1 = 9 → t.2 = ((nines f + 1 : Nat) : Int) ∧ nines f < 9) : okM (f ++ [t]) := by
  intro i u hu h9
  rcases Nat.lt_or_ge i f.length with q | q
  · rw [List.getElem?_append_left q] at hu
    rw [List.take_append_of_le_length (Nat.le_of_lt q)]
    exact h i u hu h9
  · rw [List.getElem?_append_right q] at hu
    have e : i - f.length = 0 := by
      cases z : i - f.length with
      | zero => rfl
      | succ n => rw [z] at hu; simp at hu
    rw [e] at hu
    cases hu
    have e2 : i = f.length := by omega
    rw [e2, List.take_append_of_le_length (Nat.le_refl _), List.take_length]
    exact ht h9
theorem rp_okM {os : List (Int × Int)} : ∀ (n : Nat) (ts : List (Int × Int)) (c : Nat) (f f' : List (Int × Int)) (b : Bool) (us : List (Int × Int)), ts.length ≤ n → okM f → nines f = c → c ≤ 9 → rp os ts c f = .ok (f', b, us) → okM f' ∧ nines f' ≤ 9
  | n, [], c, f, f', b, us, _, _, _, _, h => by unfold rp at h; cases h
  | 0, t :: ts, c, f, f', b, us, hl, _, _, _, h => by simp at hl
  | n + 1, t :: ts, c, f, f', b, us, hl, ok, hn, hc, h => by
    simp only [List.length_cons] at hl
    by_cases no : t ∈ os
    · unfold rp at h; rw [if_pos no] at h; cases h
    by_cases n1 : t.1 = 1
    · rw [rp_one no n1] at h
      cases h
      exact ⟨ok, by omega⟩
    by_cases n2 : t.1 = 6
    · rw [rp_six no n1 n2] at h
      cases ts with
      | nil => cases h
      | cons u vs =>
        simp only [List.length_cons] at hl
        by_cases no2 : u ∈ os
        · unfold rpSix at h; dsimp only at h; rw [if_pos no2] at h; cases h
        rw [rpSix_cons no2] at h
        by_cases n3 : u.1 = 1
        · rw [if_pos n3] at h
          cases h
          refine ⟨okM_snoc ok fun q => by omega, ?_⟩
          rw [nines_snoc, if_neg (by omega)]; omega
        · rw [if_neg n3] at h
          by_cases n4 : c + 1 > 9 ∨ u ≠ (12, 48 + ((c + 1 : Nat) : Int))
          · rw [if_pos n4] at h; cases h
          · rw [if_neg n4] at h
            refine rp_okM n vs (c + 1) _ f' b us (by omega) (okM_snoc ok fun _ => ⟨by rw [hn], by omega⟩) ?_ (by omega) h
            rw [nines_snoc, if_pos rfl, hn]
    by_cases n3 : t.1 = 2 ∨ t.1 = 5 ∨ t.1 = 9 ∨ t.1 = 15
    · rw [rp_bad no n1 n2 n3] at h; cases h
    · rw [rp_go no n1 n2 n3] at h
      refine rp_okM n ts c _ f' b us (by omega) (okM_snoc ok fun q => by omega) ?_ hc h
      rw [nines_snoc, if_neg (by omega), hn]; rfl
def MacIn (w : World) (h : Heap) (x pa ba da : Addr) (il io : Bool) (cn : Nat) : Prop := Ex8 fun dx t1 t2 t3 t4 t5 t6 tc => h.get? x = some (instObj 214 dx) ∧ h.get? dx = some (dictOf (macD w t1 t2 t3 t4 t5 t6 pa ba da il io (cn : Int) tc) 6)
theorem MacIn.keep {w : World} {h h' : Heap} {x pa ba da : Addr} {il io : Bool} {cn : Nat} (f : MacIn w h x pa ba da il io cn) (k : ∀ b o, h.get? b = some o → h'.get? b = some o) : MacIn w h' x pa ba da il io cn := by
  obtain ⟨dx, t1, t2, t3, t4, t5, t6, tc, e1, e2⟩ := f
  exact ⟨dx, t1, t2, t3, t4, t5, t6, tc, k _ _ e1, k _ _ e2⟩
section
variable {c : Cx} {L : Addr} {sn : List (Str × NameKind)} {mg mb : Str → Option Value} {g h : Heap} {D U : Nat} {ns : List Str} {vs : List (Option Value)} {led : List (Addr × Obj)} {r : Heap} {n : Str} {np pos : Pos} {x pa ba da : Addr} {il io : Bool} {cn : Nat}
theorem pv_mpar (C : Fc c L sn mg mb g D U) (S : St g L ns vs led r h) (hf : MacIn c.w h x pa ba da il io cn) (hv : PV c h (.Name n np) (.ref x)) : PV c h (.Attribute (.Name n np) (Str.ofString "parameters") pos) (.ref pa) := by
  obtain ⟨dx, t1, t2, t3, t4, t5, t6, tc, e1, e2⟩ := hf
  exact pv_attr C S hv e1 e2 (by kernel_rfl) (by kernel_rfl) (by kernel_rfl) rfl rfl
end
theorem shaped_toks (ts : List (Int × Int)) : PySem.SeqAt.shaped (.tuple (ts.map tokD)) = true := by
  unfold PySem.SeqAt.shaped
  rw [Bool.and_eq_true]
  refine ⟨lay_toks ts, decide_eq_true ?_⟩
  have := depth_toks ts
  show PyData.depthAll (ts.map tokD) + 1 ≤ 64
  omega
def braceF (ps : List (Int × Int)) : Bool := decide (ps.getLast?.map (·.1) = some 1)
theorem brace_spec {w : World} {h : Heap} {x pa ba da : Addr} {il io : Bool} {cn : Nat} {ps : List (Int × Int)} (hf : MacIn w h x pa ba da il io cn) (hP : TT h pa ps) (hz : ps.length ≤ 1000) : Spec w 204 [.ref x] [] 1 67 h fun _ v => v = .bool (braceF ps) := by
  refine spec_K (D := 0) (U := 64) [Str.ofString "self"] 1 rfl (by kernel_rfl) (fun _ _ => BindsTo.of_eq rfl) rfl (by decide +kernel) (by decide) (by decide +kernel) (by decide +kernel) (by decide +kernel) (by simp) (by simp) ?_
  intro c mg mb g h₁ L R hw C hk S hR _
  dsimp only at C
  subst hw
  have hsl : sizeLine = 16777216 := sizeLine_eq
  have kk : ∀ b o, h.get? b = some o → h₁.get? b = some o := fun b o e => S.F.keep _ _ (hk b o (by simp) e)
  have hf : MacIn c.w g x pa ba da il io cn := hf.keep fun b o e => hk b o (by simp) e
  obtain ⟨ws, it, tt⟩ := hP.keep kk
  obtain ⟨o, ho, hc, n, hd⟩ := id it
  refine xs_ret (ev_andC (ev_cmpG (EV.pv (pv_mpar C S (hf.keep S.F.keep) (pv_loc C S (by (repeat' (first | exact Kd.head | apply Kd.tail))) (by (repeat' (first | exact Loc.head | apply Loc.tail))))) (ev_tuple (ea_nil ⟨_, _, _, _, _, _, S, by simp [hsl], fun ea h₂ ne ite S2 S2' => ?_⟩))) rfl))
  obtain ⟨o2, ho2, hc2, n2, hd2⟩ := ite
  have tt2 := tt.mono S2'.go.T
  have ho' := S2'.go.T _ _ ho ⟨hc, _, _, hd⟩
  refine (tr_neD C (by decide) (.tuple ho' hc hd (by exact tt2.reads)) (.tuple ho2 hc2 hd2 (by exact .nil)) (shaped_toks ps) (shaped_toks [])).mono fun v h₃ p => ?_
  obtain ⟨rfl, rfl⟩ := p
  cases ps with
  | nil => exact ⟨_, rfl, fun _ => hR S2 rfl, fun e => (nomatch e)⟩
  | cons t ps =>
    refine ⟨_, rfl, fun e => (nomatch e), fun _ => ev_one ?_⟩
    have hl : (t :: ps).getLast? = some ((t :: ps).getLast (by simp)) := List.getLast?_eq_some_getLast (by simp)
    generalize (t :: ps).getLast (by simp) = u at hl
    have hu : (t :: ps)[ps.length]? = some u := by rw [← hl, List.getLast?_eq_getElem?]; rfl
    obtain ⟨wv, hw, tw⟩ := tt2.get hu
    have hlen := tt2.length
    simp only [List.length_cons] at hlen hz
    have hj : seqIndex? (-1) ws.length = some ps.length := by
      unfold seqIndex?
      have h1 : ((-1 : Int) < 0) := by decide
      simp only [h1, if_true]
      rw [if_pos (by simp; omega)]
      congr 1; omega
    obtain ⟨va, u1, u2, rfl, itw⟩ := tw
    have hit : IsTup h₃ pa ws.toArray := ⟨o, ho', hc, n, hd⟩
    refine EV.pv (pb_eq (tok_item0 itw (pv_titem (pv_mpar C S2 (hf.keep S2.F.keep) (pv_loc C S2 (by (repeat' (first | exact Kd.head | apply Kd.tail))) (by (repeat' (first | exact Loc.head | apply Loc.tail))))) (pi_neg pi_const) hit (by decide) (by decide) hj hw fun _ => by with_unfolding_all rfl) fun _ => by with_unfolding_all rfl) (pi_glob C S2 (by (repeat' (first | exact Kd.head | apply Kd.tail))) (gl_BEGIN _)) rfl) (hR S2 ?_)
    unfold braceF
    rw [hl]
    congr 1
    exact decide_eq_decide.mpr (by simp)

def DefPost (w : World) (la : Addr) (il io : Bool) (out : Except Addr (List (Int × Int) × List (Int × Int) × List (Int × Int))) (h h' : Heap) (v : Value) : Prop :=
  Ex15 fun f bs rest mx dx pa ba da t1 t2 t3 t4 t5 t6 tc => out = .ok (f, bs, rest) ∧ v = .ref mx ∧ h.get? mx = none ∧ h.get? dx = none ∧ h'.get? mx = some (instObj 214 dx) ∧ h'.get? dx = some (dictOf (macD w t1 t2 t3 t4 t5 t6 pa ba da il io (nines f : Nat) tc) 6) ∧ TT h' pa f ∧ TT h' ba bs ∧ TTT h' da (rowsR f).reverse ∧ RestIn la rest h' ∧ f.length ≤ 1000 ∧ bs.length ≤ 1000 ∧ rest.length ≤ 1000
theorem defn_spec {w : World} {h : Heap} {x la oa : Addr} {xs : List Value} {n : Nat} {ts os : List (Int × Int)} {il io : Bool} (hf : FeedIn w h x la oa) (hO : TT h oa os) (ea : h.get? la = some (listOf xs.toArray n)) (tt : Toks h xs ts.reverse) (hz : ts.length ≤ 999) :
    SpecE w 252 [.ref x, .bool il, .bool io] [(la, listOf xs.toArray n)] 5 70 h (DefPost w la il io (defF os ts) h) fun C => defF os ts = .error C := by
  refine specE_K (D := 4) (U := 67) [Str.ofString "feed", Str.ofString "is_long", Str.ofString "is_outer", Str.ofString "parameters", Str.ofString "has_brace", Str.ofString "count", Str.ofString "body"] 3 rfl (by kernel_rfl) (fun _ X => binds_pk X fun S => rfl) rfl (by decide +kernel) (by decide) (by decide +kernel) (by decide +kernel) (by decide +kernel) (by simp) (by simpa using not_isT_list) ?_
  intro c mg mb g h₁ L outer R hw C X hk S hR _
  dsimp only at C
  have X : Ex c L outer [la] h fun C => defF os ts = .error C := X
  subst hw
  have hsl : sizeLine = 16777216 := sizeLine_eq
  have gf : FeedIn c.w g x la oa := hf.but ea hk
  have gO : TT g oa os := hO.but ea hk
  refine xs_unpack (ns := [Str.ofString "feed", Str.ofString "is_long", Str.ofString "is_outer", Str.ofString "parameters", Str.ofString "has_brace", Str.ofString "count", Str.ofString "body"]) (L := L) (g := g) C (.cons (by (repeat' (first | exact Kd.head | apply Kd.tail))) (.cons (by (repeat' (first | exact Kd.head | apply Kd.tail))) .nil)) (ev_call1 C S (by (repeat' (first | exact Kd.head | apply Kd.tail))) (gl_read_parameters _) (fn_read_parameters _) (pv_loc C S (by (repeat' (first | exact Kd.head | apply Kd.tail))) (by (repeat' (first | exact Loc.head | apply Loc.tail)))) (tr_specE (rp_spec (gf.keep S.F.keep) (gO.keep S.F.keep) (S.N _ (.head _)).1 (tt.mono S.go.T) hz) C X S (by decide) (by decide) (fun p hp => hp) (fun a ha => .inl ha) (fun C hC => ?_) fun h₂ v go post => ?_) fun _ => rfl) rfl rfl
  · unfold defF; rw [hC]
  obtain ⟨f, b, us, tp, fp, hrp, rfl, itp, tf, ⟨ys, m, ey, ty⟩, hfl, hul⟩ := post
  have S2 := S.after1 .head go ey not_isT_list
  clear S go
  refine ⟨tp, _, _, _, _, _, rfl, itp, S2, .cons (by (repeat' (first | exact SetL.head | apply SetL.tail))) (.cons (by (repeat' (first | exact SetL.head | apply SetL.tail))) .nil), rfl, fun h₃ S3 S3' => ?_⟩
  have tf := tf.mono S3'.go.T
  have ty := ty.mono S3'.go.T
  clear S2 S3' itp ey
  obtain ⟨okf, h9⟩ := rp_okM ts.length ts 0 [] f b us (Nat.le_refl _) (fun i t h => by simp at h) rfl (by decide) hrp
  obtain ⟨ws, it, tw⟩ := id tf
  have hwl := tw.length
  refine xs_let (ns := [Str.ofString "feed", Str.ofString "is_long", Str.ofString "is_outer", Str.ofString "parameters", Str.ofString "has_brace", Str.ofString "count", Str.ofString "body"]) C (by (repeat' (first | exact Kd.head | apply Kd.tail))) rfl (ev_lenG C S3 (by (repeat' (first | exact Kd.head | apply Kd.tail))) (ev_comp (L := L) (snc := [(Str.ofString ".0", .local), (Str.ofString "token", .local), (Str.ofString "MATCH", .globalImplicit)]) (nsc := [Str.ofString "token"]) (cl := []) (vz := fun z => [z]) C ⟨relab C (by decide +kernel), by decide +kernel, by decide +kernel, by decide +kernel, rfl, by decide +kernel, rfl, fun z v => .head, by (repeat' (first | exact Kd.head | apply Kd.tail)), by unfold closureFor; rfl, by decide +kernel⟩ (fun _ => rfl) (EV.pv (pv_loc C S3 (by (repeat' (first | exact Kd.head | apply Kd.tail))) (by (repeat' (first | exact Loc.head | apply Loc.tail)))) (tr_compQ C S3 (src_tup C.hh it) (by omega) (fun i ys _ => ys.length = nines (f.take i)) rfl (fun _ _ _ _ y _ => y) ?_ ?_))) rfl)
  · intro i v zs m2 Dd h₄ Ca g' hi pv Fi kg S4 y hl
    obtain ⟨t, ht⟩ : ∃ t, f[i]? = some t := ⟨_, List.getElem?_eq_getElem (by omega)⟩
    obtain ⟨v', hv', tv⟩ := tw.get ht
    rw [pv] at hv'
    cases hv'
    obtain ⟨va, u1, u2, rfl, itv⟩ := tv.mono fun a o e _ => S4.F.keep a o (kg a o e)
    have hst : nines (f.take (i + 1)) = nines (f.take i) + if t.1 = 9 then 1 else 0 := by
      rw [List.take_add_one, ht]; exact nines_snoc _ _
    refine te_pt (pt_eq (tok_item0 itv (pv_loc Fi S4 (by (repeat' (first | exact Kd.head | apply Kd.tail))) (by (repeat' (first | exact Loc.head | apply Loc.tail)))) fun _ => by with_unfolding_all rfl) (pi_glob Fi S4 (by (repeat' (first | exact Kd.head | apply Kd.tail))) (gl_MATCH _)) rfl) ?_
    by_cases q : t.1 = 9
    · rw [if_pos (decide_eq_true q)]
      refine EV.pv (pv_loc Fi S4 (by (repeat' (first | exact Kd.head | apply Kd.tail))) (by (repeat' (first | exact Loc.head | apply Loc.tail)))) ⟨S4, ?_⟩
      rw [hst, if_pos q, List.length_append, y]; rfl
    · rw [if_neg (by simpa using q)]
      refine ⟨S4, ?_⟩
      rw [hst, if_neg q, y]; rfl
  · intro Dd Ca h₄ zs m2 S4 S4' nD ab hl y
    rw [hwl, List.take_length] at y
    refine ⟨Dd, zs, rfl, .inl (isL (S4.N _ (.head _)).1), by omega, fun tc => ⟨_, _, _, _, S4.dropHead (S3.go.D _ nD), by (repeat' (first | exact SetL.head | apply SetL.tail)), fun h₅ S5 S5' => ?_⟩⟩
    rw [y] at S5
    have k5 : TupK h₃ h₅ := S4'.go.T.trans S5'.go.T
    have tf := tf.mono k5
    have ty := ty.mono k5
    clear S3 S4 S4' S5' k5 it tw nD ab
    refine xs_let (ns := [Str.ofString "feed", Str.ofString "is_long", Str.ofString "is_outer", Str.ofString "parameters", Str.ofString "has_brace", Str.ofString "count", Str.ofString "body"]) C (by (repeat' (first | exact Kd.head | apply Kd.tail))) rfl (ev_call2 C S5 (by (repeat' (first | exact Kd.head | apply Kd.tail))) (gl_read_body _) (fn_read_body _) (pv_loc C S5 (by (repeat' (first | exact Kd.head | apply Kd.tail))) (by (repeat' (first | exact Loc.head | apply Loc.tail)))) (pv_loc C S5 (by (repeat' (first | exact Kd.head | apply Kd.tail))) (by (repeat' (first | exact Loc.head | apply Loc.tail)))) (tr_specE (rb_spec (gf.keep S5.F.keep) (gO.keep S5.F.keep) (S5.N _ (.head _)).1 ty hul h9) C X S5 (by decide) (by decide) (fun p hp => hp) (fun a ha => .inl ha) (fun C hC => ?_) fun h₆ v go post => ?_) (fun _ => rfl) fun _ => rfl)
    · unfold defF; rw [hrp]; dsimp only; rw [hC]
    obtain ⟨bs, rest, bp, hrb, rfl, tb, ⟨xs2, m3, ex, tx⟩, hbl, hsl2⟩ := post
    have S6 := S5.after1 .head go ex not_isT_list
    have tf := tf.mono go.T
    have hok : defF os ts = .ok (f, bs, rest) := by unfold defF; rw [hrp]; dsimp only; rw [hrb]
    clear S5 go ex
    refine ⟨_, _, _, _, S6, by (repeat' (first | exact SetL.head | apply SetL.tail)), fun h₇ S7 S7' => ?_⟩
    have tf := tf.mono S7'.go.T
    have tb := tb.mono S7'.go.T
    have tx := tx.mono S7'.go.T
    clear S6 S7' ty
    refine xs_ret (ev_new (fI := 197) (pv_glob C S7 (by (repeat' (first | exact Kd.head | apply Kd.tail))) (gl_Macro _)) (by kernel_rfl) (by kernel_rfl) (by kernel_rfl) (by kernel_rfl) C (ea_cons (EV.pv (pv_loc C S7 (by (repeat' (first | exact Kd.head | apply Kd.tail))) (by (repeat' (first | exact Loc.head | apply Loc.tail)))) (ea_cons (EV.pv (pv_loc C S7 (by (repeat' (first | exact Kd.head | apply Kd.tail))) (by (repeat' (first | exact Loc.head | apply Loc.tail)))) (ea_cons (EV.pv (pv_loc C S7 (by (repeat' (first | exact Kd.head | apply Kd.tail))) (by (repeat' (first | exact Loc.head | apply Loc.tail)))) (ea_cons (EV.pv (pv_loc C S7 (by (repeat' (first | exact Kd.head | apply Kd.tail))) (by (repeat' (first | exact Loc.head | apply Loc.tail)))) (ea_nil ⟨_, _, _, S7, fun mx dx h₈ nx nd S8 S8' => ?_⟩)) rfl)) rfl)) rfl)) rfl) rfl rfl)
    refine ⟨[(dx, dictOf [] 0)], _, 1, 3, macro_init (S8.N _ (.head _)).1 (S8.N _ (.tail _ (.head _))).1 (tf.mono S8'.go.T) (tb.mono S8'.go.T) okf hfl, by decide, by decide, fun p hp => by rw [List.mem_singleton.mp hp]; exact .tail _ (.head _), fun h₉ v go post => ?_⟩
    obtain ⟨rfl, t1, t2, t3, t4, t5, t6, tc, da, ed, td⟩ := post
    have S9 := S8.after1 (.tail .head) go ed (fun q => by
      obtain ⟨q, _⟩ := q
      exact absurd (show Value.type "dict" = Value.type "tuple" from q) (by decide))
    have k9 := S8'.go.T.trans go.T
    exact ⟨rfl, hR S9 ⟨f, bs, rest, mx, dx, fp, bp, da, t1, t2, t3, t4, t5, t6, tc, hok, rfl, S7.go.D _ nx, S7.go.D _ nd, (S9.N _ (.head _)).1, ed, tf.mono k9, tb.mono k9, td, ⟨xs2, m3, (S9.N _ (.tail _ (.tail _ (.head _)))).1, tx.mono k9⟩, hfl, hbl, hsl2⟩⟩

/-! ## catching -/
section
variable {M : Model} {A : Around} {E : Value → Shared → Prop} {h : Heap} {gs : Array GenState} {d : Drawn} {t : Nat} {os : OsState}
variable {nm q nm' q' : Str} {C N Ci N' : Addr} {bs bm bs' bm' : List Value} {hdct hdct' : Bool} {sn sn' : List Str} {sub sub' : List Value} {ab ab' : Bool} {col col' : Option Bool} {dd dd' : Option Addr} {k0 k1 k2 k3 k5 k0' k1' k2' k3' k5' : Option Value} {newId newId' : String}
theorem exc_match {e : Addr} {oe : Obj} {b : Bool} {Q : Bool → Shared → Prop} (hC : h.get? C = some (excClassObj nm q C N bs bm hdct sn sub ab col dd k0 k1 k2 k3 k5 newId)) (hCi : h.get? Ci = some (excClassObj nm' q' Ci N' bs' bm' hdct' sn' sub' ab' col' dd' k0' k1' k2' k3' k5' newId'))
    (he : h.get? e = some oe) (hcls : oe.cls = .ref C) (hbase : bm'.contains (.type "BaseException") = true) (hb : (Value.ref C :: bm).contains (.ref Ci) = b) (hq : Q b ⟨h, gs, d, t, os⟩) : wpAny M A (excMatches (.ref e) (.ref Ci)) Q E ⟨h, gs, d, t, os⟩ := by
  have hcB : (Value.ref Ci :: bm').contains (.type "BaseException") = true := by rw [List.contains_cons, hbase, Bool.or_true]
  have f := tc_notTuple
  unfold excMatches
  repeat (first | (with_reducible refine wpAny_loadPart_at he ?_; rw [hcls]) | with_reducible refine wpAny_loadPart_at hCi ?_ | (with_reducible refine wpAny_isSubtype_exc hCi ?_; rw [hcB]) | (with_reducible refine wpAny_isSubtype_exc hC ?_; rw [hb]) | wp_step)
  cases b
  · repeat (first | exact hq | wp_step)
  · repeat (first | exact hq | wp_step)
end
theorem Rz.up2 {own : List Addr} {l : List Env} {e C : Addr} {h h' h₂ : Heap} {B : Heap} {a0 : Value} (up : Slo own h h') (kB : ∀ b o, b ∉ frs l → b ∉ own → h.get? b = some o → B.get? b = some o) (fl : Heap.FlyingW B l e (.ref C) a0 h₂) (sm : h'.UpToSlots h₂) : Rz own l e C h h₂ := ⟨⟨B, a0, kB, fl⟩, up.trans (.of_up sm)⟩
theorem frs_cons {env : Env} {L : Addr} {l : List Env} (ef : env.frame = some L) : frs (env :: l) = L :: frs l := by show List.filterMap _ _ = _; rw [List.filterMap_cons, ef]
section
variable {c : Cx} {L : Addr} {sn : List (Str × NameKind)} {mg mb : Str → Option Value} {g h h' : Heap} {D U : Nat} {ns : List Str} {vs : List (Option Value)} {led : List (Addr × Obj)} {r : Heap} {outer : List Env} {own : List Addr} {e Ca Ci : Addr} {y m : Str} {np cp rp pos : Pos} {k : Nat} {rest : List ExceptHandler} {Q : Flow → Shared → Prop} {E : Value → Shared → Prop} {tk : Nat}
/-- what g holds is there behind a catch -/
theorem Rz.keep (rz : Rz own (c.env :: outer) e Ca h h') (ef : c.env.frame = some L) (S : St g L ns vs led r h) (go : ∀ a ∈ frs outer, g.get? a = none) (gw : ∀ a ∈ own, g.get? a = none) : g.StaysIn h' := by
  obtain ⟨⟨B, a0, kB, fl⟩, up⟩ := rz
  intro b o eb
  refine fl.1 b o (kB b o (fun hm => ?_) (fun hm => ?_) (S.F.keep b o eb))
  · rw [frs_cons ef] at hm
    rcases List.mem_cons.mp hm with q | q
    · rw [q, Fr.lnone S.F] at eb; cases eb
    · rw [go b q] at eb; cases eb
  · rw [gw b hm] at eb; cases eb
theorem hb_ret (C : Fc c L sn mg mb g D U) (ef : c.env.frame = some L) (S : St g L ns vs led r h) (go : ∀ a ∈ frs outer, g.get? a = none) (gw : ∀ a ∈ own, g.get? a = none) (rz : Rz own (c.env :: outer) e Ca h h') (EC : ExcC c.w Ca) (ECi : ExcC c.w Ci)
    (ky : Kd sn y .globalImplicit) (gl : nsIn (KF c.w) mainGlobals y = some (some (.ref Ci))) (hn39 : Ci ≠ 39)
    (hQ : Ca = Ci → ∀ h₆ tk' t, Rz own (c.env :: outer) e Ca h h₆ → Q (.ret (.str m t)) (mk c.s h₆ tk')) (hR : Ca ≠ Ci → wpAny (model c.prog c.w) c.A (handleBy (.ref e) c.env rest) Q E (mk c.s h' tk)) :
    wpAny (model c.prog c.w) c.A (handleBy (.ref e) c.env (.ExceptHandler (some (.Name y np)) none [.Return (some (.Constant (.str m) k cp)) rp] pos :: rest)) Q E (mk c.s h' tk) := by
  have keep := rz.keep ef S go gw
  have XK := C.G.X.keeps keep
  refine wpAny_handleBy_cons (codeAny_handlers_test (Name_function_global C.fe.kind (C.fe.kindOf ky) (loadGlobal_global (by rw [C.fe.glob]; exact C.G.g.keeps keep) (mg_of C.G.X C.G.g gl) ?_) (C.fe.nodbg ky))) (by intro q; cases q)
  obtain ⟨nm, q, N, bs, sn1, sub, ab, col, dd, k0, k1, k2, k3, k5, hl⟩ := EC.obj
  obtain ⟨nm', q', N', bs', sn', sub', ab', col', dd', k0', k1', k2', k3', k5', hl'⟩ := ECi.obj
  obtain ⟨⟨B, a0, kB, fl⟩, up⟩ := id rz
  obtain ⟨ob, hob, hobc⟩ := fl.there
  refine exc_match (b := decide (Ca = Ci)) (XK _ _ hl) (XK _ _ hl') hob hobc (by decide) ?_ ?_
  · rw [List.contains_cons, List.contains_cons]
    have e1 : (Value.ref Ci == Value.ref Ca) = decide (Ca = Ci) := by
      by_cases z : Ca = Ci
      · subst z; simp
      · rw [decide_eq_false z, beq_eq_false_iff_ne]; rintro ⟨⟩; exact z rfl
    have e2 : (Value.ref Ci == Value.ref 39) = false := by rw [beq_eq_false_iff_ne]; rintro ⟨⟩; exact hn39 rfl
    have e3 : bmV.contains (Value.ref Ci) = false := by simp [bmV]
    rw [e1, e2, e3]; simp
  · by_cases z : Ca = Ci
    · rw [decide_eq_true z, if_pos rfl]
      refine codeAny_handlers_suite (lands_againW fl fun h₆ fl₆ sm₆ => ?_)
      exact x_ret (s := c.s) (e_str fun t tk' => hQ z h₆ tk' t (.up2 up kB fl₆ sm₆))
    · rw [decide_eq_false z, if_neg (by decide)]
      exact hR z
/-- from the flight to the handlers -/
theorem to_handlers {hs : List ExceptHandler} (fr : c.A.frames = some (c.env :: outer)) (ef : c.env.frame = some L) (rz : Rz own (c.env :: outer) e Ca h h') (hQ : ∀ h₂, Rz own (c.env :: outer) e Ca h h₂ → wpAny (model c.prog c.w) c.A (handleBy (.ref e) c.env hs) Q E (mk c.s h₂ tk)) :
    wpAny (model c.prog c.w) c.A (noteFrame (.ref e) c.env) (fun _ s₂ => wpAny (model c.prog c.w) c.A (setFlight (.ref e) none) (fun _ s₃ => wpAny (model c.prog c.w) c.A (handleBy (.ref e) c.env hs) Q E s₃) E s₂) E (mk c.s h' tk) := by
  obtain ⟨⟨B, a0, kB, fl⟩, up⟩ := rz
  refine wpAny_looks_onW fr ef fl fun h₄ held sm => ?_
  refine wpAny_landsW held fun h₅ fl₅ sm₅ => ?_
  exact hQ h₅ (.up2 up kB fl₅ (sm.trans sm₅))
end
/-- try .. except .. whose handlers return -/
theorem xs_tryE {c : Cx} {h : Heap} {R : Flow → Heap → Prop} {body rest : List Stmt} {h0 : ExceptHandler} {hs : List ExceptHandler} {pos : Pos}
    (q : ∀ E' : Value → Shared → Prop, PassesOwn (model c.prog c.w) c.A c.env E' → (∀ e h' tk', (∀ QQ : Flow → Shared → Prop, (∀ v h₂ tk₂, R (.ret v) h₂ → QQ (.ret v) (mk c.s h₂ tk₂)) → wpAny (model c.prog c.w) c.A (noteFrame (.ref e) c.env) (fun _ s₂ => wpAny (model c.prog c.w) c.A (setFlight (.ref e) none) (fun _ s₃ => wpAny (model c.prog c.w) c.A (handleBy (.ref e) c.env (h0 :: hs)) QQ c.E s₃) c.E s₂) c.E (mk c.s h' tk')) → E' (.ref e) (mk c.s h' tk')) →
      XS ⟨c.prog, c.w, c.A, c.env, c.s, E'⟩ h body fun f h' => f = .next ∧ XS c h' rest R) : XS c h (.Try body (h0 :: hs) [] [] pos :: rest) R :=
  ⟨fun tk Q hQ => wpAny_execs_cons (wpAny_Try_except ((q _ PassesOwn.looking (fun e h' tk' H => H (fun f s' => match f with | .next => wpAny (model c.prog c.w) c.A (execs rest c.env) Q c.E s' | f => Q f s') fun v h₂ tk₂ r => hQ _ _ _ r)).run tk _ fun f h' tk' p => by
    obtain ⟨rfl, p⟩ := p
    exact wpAny_execs_nil (p.run tk' _ hQ)))⟩

/-! ## defs in which an exception is caught: the slots of the frames below change -/
structure GoT (own fr : List Addr) (h h' : Heap) : Prop where
  K : ∀ b o, b ∉ own → b ∉ fr → h.get? b = some o → h'.get? b = some o
  D : ∀ b, h'.get? b = none → h.get? b = none
  S : ∀ b ∈ fr, ∀ o, h.get? b = some o → ∃ sl, h'.get? b = some { o with slots := sl }
structure SpecT (w : World) (f : Addr) (args : List Value) (own : List (Addr × Obj)) (D U : Nat) (h : Heap) (Post : Heap → Value → Prop) : Prop where
  run : ∀ (prog : Program) (A : Around) (s : Shared) (tk : Nat) (mg mb : Str → Option Value) (g : Heap) (outer : List Env) (Q E : Value → Shared → Prop), A.handled = none → A.depth + D < recursionLimit → A.units + U < cLine →
    Gd w mg mb g → g.StaysIn h → (∀ p ∈ own, h.get? p.1 = some p.2 ∧ g.get? p.1 = none) → A.frames = some outer → FrOK h outer → (frs outer).Nodup → (∀ p ∈ own, p.1 ∉ frs outer) → (∀ a ∈ frs outer, g.get? a = none) →
    (∀ h' tk' v, GoT (own.map (·.1)) (frs outer) h h' → Post h' v → Q v (mk s h' tk')) → wpAny (model prog w) A (call (.ref f) args) Q E (mk s h tk)
/-- the objects of the frames below -/
structure FoOK (h : Heap) (outer : List Env) (fo : List (Addr × Obj)) : Prop where
  keys : fo.map (·.1) = frs outer
  at_ : ∀ p ∈ fo, h.get? p.1 = some p.2
  nt : ∀ p ∈ fo, Ex2 fun es n => p.2.data = .dict es n
  fr : ∀ h', (∀ p ∈ fo, ∃ sl, h'.get? p.1 = some { p.2 with slots := sl }) → FrOK h' outer
theorem FrOK.objs {h : Heap} {l : List Env} (q : FrOK h l) : ∃ fo, FoOK h l fo := by
  induction q with
  | nil => exact ⟨[], rfl, fun p hp => (nomatch hp), fun p hp => (nomatch hp), fun _ _ => .nil⟩
  | @cons env l L o k hf ho hd _ ih =>
    obtain ⟨fo, k1, k2, k3, k4⟩ := ih
    refine ⟨(L, o) :: fo, by rw [frs_cons hf, List.map_cons, k1], fun p hp => ?_, fun p hp => ?_, fun h' hh => ?_⟩
    · rcases List.mem_cons.mp hp with rfl | hp
      · exact ho
      · exact k2 p hp
    · rcases List.mem_cons.mp hp with rfl | hp
      · exact hd
      · exact k3 p hp
    · obtain ⟨sl, e⟩ := hh (L, o) (.head _)
      exact .cons k hf e hd (k4 h' fun p hp => hh p (.tail _ hp))
theorem specT_K {w : World} {f : Addr} {args : List Value} {own : List (Addr × Obj)} {D U : Nat} {h : Heap} {Post : Heap → Value → Prop} {oc : Value} {od : Option Addr} {osl : Array (Option Value)}
    {name qual : Str} {params : Arguments} {body : List Stmt} {scope : Scope} {dV kV doc pm cdv ct : Value} {an : Option Addr} (ns : List Str) (np : Nat)
    (ho : (KF w).lookup f = some ⟨oc, od, .func (fnOf name qual params body scope dV kV doc pm an cdv ct), osl⟩) (hcd : codeIn (KF w) cdv qual = true)
    (hbind : ∀ s, (KF w).In s.heap → BindsTo s (fnOf name qual params body scope dV kV doc pm an cdv ct) ⟨args, []⟩ ((ns.take np).zip args)) (hlen : args.length = (ns.take np).length)
    (hloc : ((ns.take np).all fun y => decide (scope.names.lookup y = some .local)) = true) (hcell : ∀ x ∈ scope.names, x.2 ≠ .cell)
    (hsnd : (scope.names.map (·.1)).Nodup) (hdbg : ∀ p ∈ scope.names, (p.1 == ("__debug__" : Str)) = false) (hnd : ns.Nodup)
    (hod : (own.map (·.1)).Nodup) (hown : ∀ p ∈ own, ¬ IsT p.2)
    (hb : ∀ (c : Cx) (mg mb : Str → Option Value) (g h₁ : Heap) (L : Addr) (outer : List Env) (fo : List (Addr × Obj)) (R : Flow → Heap → Prop), c.w = w → Fc c L scope.names mg mb g D U → c.A.frames = some (c.env :: outer) → c.env.frame = some L → FoOK h outer fo → (frs (c.env :: outer)).Nodup →
      (∀ b o, b ∉ own.map (·.1) → b ∉ frs outer → h.get? b = some o → g.get? b = some o) → (∀ a ∈ frs outer, g.get? a = none) → St g L ns (args.map some ++ (ns.drop np).map fun _ => none) (own ++ fo) h h₁ →
      (∀ {h' v}, g.StaysIn h' → (∀ b, h'.get? b = none → h.get? b = none) → (∀ p ∈ fo, ∃ sl, h'.get? p.1 = some { p.2 with slots := sl }) → Post h' v → R (.ret v) h') → XS c h₁ body R)
    (hco : scope.isCoroutine = false := by rfl) (hgen : scope.isGenerator = false := by rfl) (hk : scope.kind = .function := by rfl) : SpecT w f args own (D + 1) (U + 3) h Post := by
  have z1 : (((ns.take np).zip args).map (·.1)) = ns.take np := List.map_fst_zip (by omega)
  have z2 : (((ns.take np).zip args).map (·.2)) = args := List.map_snd_zip (by omega)
  refine ⟨?_⟩
  intro prog A s tk mg mb g outer Q E hh hd hu G hg hw hfr hok hfn hoo hgf hQ
  have X : (KF w).In h := G.X.keeps hg
  obtain ⟨fo, FO⟩ := hok.objs
  refine wpAny_call ?_
  refine codeAny_call_def (s := mk s h tk) (fd := fnOf name qual params body scope dV kV doc pm an cdv ct) (body := body) (binds := (ns.take np).zip args) (by omega) (X _ _ ho) rfl (G.lim.keeps hg) (codeRec_of X hcd) rfl (hbind _ X) hcell (fun y hy => ?_) (fun h₁ hns₁ hk₁ => ?_) hco hgen hk
  · have := List.all_eq_true.mp hloc y.1 (List.of_mem_zip hy).1
    exact of_decide_eq_true this
  have hL : h.get? h.objs.size = none := fresh_size
  generalize henv : callEnv (fnOf name qual params body scope dV kV doc pm an cdv ct) h.objs.size f = env
  have ef : env.frame = some h.objs.size := by rw [← henv]; rfl
  have Fe : FnEnv env h.objs.size scope.names := by rw [← henv]; exact ⟨hk, rfl, rfl, rfl, rfl, hsnd, hdbg⟩
  have hfr2 := Around.frames_deeper (env := env) hfr
  have st : g.StaysIn (hideAll h (own.map (·.1) ++ frs outer)) := fun b o e => hideAll_get _ (hg b o e) fun hm => by
    rcases List.mem_append.mp hm with hm | hm
    · obtain ⟨p, hp, rfl⟩ := List.mem_map.mp hm
      rw [(hw p hp).2] at e; cases e
    · rw [hgf b hm] at e; cases e
  have hmem : ∀ p ∈ own ++ fo, p.1 ∈ own.map (·.1) ++ frs outer ∧ h.get? p.1 = some p.2 := fun p hp => by
    rcases List.mem_append.mp hp with hp | hp
    · exact ⟨List.mem_append_left _ (List.mem_map_of_mem hp), (hw p hp).1⟩
    · exact ⟨List.mem_append_right _ (FO.keys ▸ List.mem_map_of_mem hp), FO.at_ p hp⟩
  refine wpAny_mono ((hb ⟨prog, w, A.deeper env, env, s, fun _ _ => False⟩ mg mb (hideAll h (own.map (·.1) ++ frs outer)) h₁ h.objs.size outer fo (fun fl h' => match fl with
      | .ret v => (hideAll h (own.map (·.1) ++ frs outer)).StaysIn h' ∧ (∀ b, h'.get? b = none → h.get? b = none) ∧ (∀ p ∈ fo, ∃ sl, h'.get? p.1 = some { p.2 with slots := sl }) ∧ Post h' v
      | _ => False) rfl
    ⟨hh, by show A.depth + 1 + D < _; omega, by show A.units + 3 + U < _; omega, G.keeps fun b o e => st b o e, Fe, PassesOwn.never⟩ hfr2 ef FO ?_ (fun b o n1 n2 e => hideAll_get _ e fun hm => (List.mem_append.mp hm).elim n1 n2) (fun a ha => hideAll_none _ (List.mem_append_right _ ha))
    ⟨hnd, ⟨?_, fun b o e => hk₁ b o (of_hideAll _ e), Nat.le_of_eq (hideAll_size _ _)⟩, fun p hp => ⟨hk₁ _ _ (hmem p hp).2, Nat.ne_of_lt (Heap.lt_size (hmem p hp).2), hideAll_none _ (hmem p hp).1⟩, ?_, fun p hp => ?_, .keep hk₁⟩ (fun {h' v} a b c d => ⟨a, b, c, d⟩)).run (tk + ((ns.take np).zip args).length) (fun fl s' => Ex2 fun h' tk' => s' = mk s h' tk' ∧ match fl with
      | .ret v => (hideAll h (own.map (·.1) ++ frs outer)).StaysIn h' ∧ (∀ b, h'.get? b = none → h.get? b = none) ∧ (∀ p ∈ fo, ∃ sl, h'.get? p.1 = some { p.2 with slots := sl }) ∧ Post h' v
      | _ => False) fun f h' tk' p => ⟨h', tk', rfl, p⟩) (fun fl s' q => ?_) fun _ _ q => q.elim
  · rw [frs_cons ef, List.nodup_cons]
    refine ⟨fun hm => ?_, hfn⟩
    obtain ⟨o, e, _⟩ := hok.mem hm
    rw [hL] at e; cases e
  · have e : (fun x => ((ns.take np).zip args).reverse.lookup x) = lkp ns (args.map some ++ (ns.drop np).map fun _ => none) := by
      funext x
      have e1 := lkp_binds (ns.drop np) ((ns.take np).zip args) x
      rw [z1, List.take_append_drop] at e1
      have e2 : (((ns.take np).zip args).map fun p => some p.2) = args.map some := by
        rw [← z2, List.map_map, z2]; rfl
      rw [e2] at e1
      rw [e1, lookup_rev]
      rw [z1]
      exact (List.take_sublist np ns).nodup hnd
    rw [← e]; exact hns₁
  · rw [List.map_append, FO.keys]
    refine List.nodup_append.mpr ⟨hod, hfn, fun a ha b hb e => ?_⟩
    obtain ⟨p, hp, rfl⟩ := List.mem_map.mp ha
    exact hoo p hp (e ▸ hb)
  · rcases List.mem_append.mp hp with hp | hp
    · exact hown p hp
    · exact dict_nT (FO.nt p hp)
  · obtain ⟨h', tk', rfl, q⟩ := q
    cases fl with
    | ret v =>
      obtain ⟨q1, q2, q3, q4⟩ := q
      refine hQ h' tk' v ⟨fun b o n1 n2 e => q1 b o (hideAll_get _ e fun hm => (List.mem_append.mp hm).elim n1 n2), q2, fun b hb o e => ?_⟩ q4
      rw [← FO.keys] at hb
      obtain ⟨p, hp, rfl⟩ := List.mem_map.mp hb
      have := FO.at_ p hp
      rw [e] at this; cases this
      exact q3 p hp
    | _ => exact q.elim

/-! ## _law_told -/
theorem TT.reads {h : Heap} {a : Addr} {ts : List (Int × Int)} (t : TT h a ts) : Reads h (.ref a) (.tuple (ts.map tokD)) [] := by
  obtain ⟨ws, ⟨o, ho, hc, n, hd⟩, tt⟩ := t
  exact .tuple ho hc hd (by exact tt.reads)
theorem TTs.reads {h : Heap} {ws : List Value} {tss : List (List (Int × Int))} (t : TTs h ws tss) : ReadsAll h ws (tss.map fun r => .tuple (r.map tokD)) [] := by
  induction t with
  | nil => exact .nil
  | cons t _ ih => exact .cons (as := []) (bs := []) t.reads ih
theorem TTT.reads {h : Heap} {a : Addr} {tss : List (List (Int × Int))} (t : TTT h a tss) : Reads h (.ref a) (.tuple (tss.map fun r => .tuple (r.map tokD))) [] := by
  obtain ⟨ws, ⟨o, ho, hc, n, hd⟩, tt⟩ := t
  exact .tuple ho hc hd (by exact tt.reads)
def exName (C : Addr) : Str := if C = 76 then Str.ofString "outer" else if C = 88 then Str.ofString "wrong" else Str.ofString "runaway"
def fullD (f bs : List (Int × Int)) (ds : List (List (Int × Int))) (cn : Nat) (br il io : Bool) (rest : List (Int × Int)) : PyData :=
  .tuple [.tuple (f.map tokD), .tuple (bs.map tokD), .tuple (ds.map fun r => .tuple (r.map tokD)), .int (cn : Nat), .bool br, .tuple [.bool il, .bool io], .list (rest.map tokD)]
def toldD (out : Except Addr (List (Int × Int) × List (Int × Int) × List (Int × Int))) (il io : Bool) : PyData := match out with
  | .error C => .str (exName C)
  | .ok (f, bs, rest) => fullD f bs (rowsR f).reverse (nines f) (braceF f) il io rest
theorem rp_err {os : List (Int × Int)} : ∀ (n : Nat) (ts : List (Int × Int)) (c : Nat) (f : List (Int × Int)) (C : Addr), ts.length ≤ n → rp os ts c f = .error C → C = 64 ∨ C = 76 ∨ C = 88
  | n, [], c, f, C, _, h => by unfold rp at h; cases h; exact .inl rfl
  | 0, t :: ts, c, f, C, hl, h => by simp at hl
  | n + 1, t :: ts, c, f, C, hl, h => by
    simp only [List.length_cons] at hl
    by_cases no : t ∈ os
    · unfold rp at h; rw [if_pos no] at h; cases h; exact .inr (.inl rfl)
    by_cases n1 : t.1 = 1
    · rw [rp_one no n1] at h; cases h
    by_cases n2 : t.1 = 6
    · rw [rp_six no n1 n2] at h
      cases ts with
      | nil => cases h; exact .inl rfl
      | cons u vs =>
        simp only [List.length_cons] at hl
        by_cases no2 : u ∈ os
        · unfold rpSix at h; dsimp only at h; rw [if_pos no2] at h; cases h; exact .inr (.inl rfl)
        rw [rpSix_cons no2] at h
        split at h
        · cases h
        · split at h
          · cases h; exact .inr (.inr rfl)
          · exact rp_err n vs _ _ C (by omega) h
    by_cases n3 : t.1 = 2 ∨ t.1 = 5 ∨ t.1 = 9 ∨ t.1 = 15
    · rw [rp_bad no n1 n2 n3] at h; cases h; exact .inr (.inr rfl)
    · rw [rp_go no n1 n2 n3] at h
      exact rp_err n ts c _ C (by omega) h
theorem rb_err {os : List (Int × Int)} {k : Nat} : ∀ (n : Nat) (ts : List (Int × Int)) (d : Nat) (f : List (Int × Int)) (C : Addr), ts.length ≤ n → rb os k ts d f = .error C → C = 64 ∨ C = 76 ∨ C = 88
  | n, [], c, f, C, _, h => by unfold rb at h; cases h; exact .inl rfl
  | 0, t :: ts, c, f, C, hl, h => by simp at hl
  | n + 1, t :: ts, d, f, C, hl, h => by
    simp only [List.length_cons] at hl
    by_cases no : t ∈ os
    · unfold rb at h; rw [if_pos no] at h; cases h; exact .inr (.inl rfl)
    by_cases n2 : t.1 = 6
    · rw [rb_six no n2] at h
      cases ts with
      | nil => cases h; exact .inl rfl
      | cons u vs =>
        simp only [List.length_cons] at hl
        by_cases no2 : u ∈ os
        · unfold rbSix at h; dsimp only at h; rw [if_pos no2] at h; cases h; exact .inr (.inl rfl)
        rw [rbSix_cons no2] at h
        split at h
        · cases h; exact .inr (.inr rfl)
        · exact rb_err n vs _ _ C (by omega) h
    by_cases n3 : t.1 = 5 ∨ t.1 = 9 ∨ t.1 = 15
    · rw [rb_bad no n2 n3] at h; cases h; exact .inr (.inr rfl)
    by_cases n4 : t.1 = 1
    · rw [rb_left no n2 n3 n4] at h; exact rb_err n ts _ _ C (by omega) h
    by_cases n5 : t.1 = 2
    · rw [rb_end no n2 n3 n4 n5] at h
      split at h
      · cases h
      · exact rb_err n ts _ _ C (by omega) h
    · rw [rb_go no n2 n3 n4 n5] at h; exact rb_err n ts _ _ C (by omega) h
theorem defF_err {os ts : List (Int × Int)} {C : Addr} (h : defF os ts = .error C) : C = 64 ∨ C = 76 ∨ C = 88 := by
  unfold defF at h
  split at h
  · rename_i C' e
    cases h
    exact rp_err ts.length ts 0 [] C (Nat.le_refl _) e
  · rename_i f b us e
    split at h
    · rename_i C' e2
      cases h
      exact rb_err us.length us 1 [] C (Nat.le_refl _) e2
    · cases h
theorem FoOK.keep {h g : Heap} {outer : List Env} {fo : List (Addr × Obj)} (FO : FoOK h outer fo) (hk : ∀ b o, b ∉ ([] : List Addr) → b ∉ frs outer → h.get? b = some o → g.get? b = some o) : ∀ b o, h.get? b = some o → (∀ es n, o.data ≠ .dict es n) → g.get? b = some o := fun b o e nd => hk b o (by simp) (fun hm => by
  rw [← FO.keys] at hm
  obtain ⟨p, hp, rfl⟩ := List.mem_map.mp hm
  rw [FO.at_ p hp] at e; cases e
  obtain ⟨es, n, q⟩ := FO.nt p hp
  exact nd es n q) e
theorem IsT.nd {o : Obj} (t : IsT o) : ∀ es n, o.data ≠ .dict es n := fun es n q => by
  obtain ⟨_, xs, m, e⟩ := t
  rw [e] at q; cases q
theorem TT.via {h g : Heap} {a : Addr} {ts : List (Int × Int)} (t : TT h a ts) (k : ∀ b o, h.get? b = some o → (∀ es n, o.data ≠ .dict es n) → g.get? b = some o) : TT g a ts := by
  obtain ⟨ws, ⟨o, ho, hc, n, hd⟩, tt⟩ := t
  exact ⟨ws, ⟨o, k _ _ ho (IsT.nd ⟨hc, _, _, hd⟩), hc, n, hd⟩, tt.mono fun a o e t => k a o e t.nd⟩
theorem TL.via {h g : Heap} {a : Addr} {ts : List (Int × Int)} (t : TL h a ts) (k : ∀ b o, h.get? b = some o → (∀ es n, o.data ≠ .dict es n) → g.get? b = some o) : TL g a ts := by
  obtain ⟨xs, n, e, tt⟩ := t
  exact ⟨xs, n, k _ _ e (fun es m q => by cases q), tt.mono fun a o e t => k a o e t.nd⟩
theorem St.put {g h r : Heap} {L a : Addr} {ns : List Str} {vs : List (Option Value)} {led : List (Addr × Obj)} {o : Obj} (S : St g L ns vs led r h) (e : h.get? a = some o) (ne : a ≠ L) (gn : g.get? a = none) (nl : a ∉ led.map (·.1)) (ht : ¬ IsT o) : St g L ns vs ((a, o) :: led) r h := by
  refine ⟨S.nd, S.F, fun p hp => ?_, ?_, fun p hp => ?_, S.go.mono fun w hw => ?_⟩
  · rcases List.mem_cons.mp hp with rfl | hp
    · exact ⟨e, ne, gn⟩
    · exact S.N p hp
  · rw [List.map_cons, List.nodup_cons]; exact ⟨nl, S.ld⟩
  · rcases List.mem_cons.mp hp with rfl | hp
    · exact ht
    · exact S.lt p hp
  · rcases List.mem_cons.mp hw with rfl | hw
    · exact List.mem_cons_self
    · exact List.mem_cons_of_mem _ (List.mem_cons_of_mem _ hw)
section
variable {c : Cx} {L : Addr} {sn : List (Str × NameKind)} {mg mb : Str → Option Value} {g h : Heap} {D U : Nat} {ns : List Str} {vs : List (Option Value)} {led : List (Addr × Obj)} {r : Heap} {n : Str} {np pos : Pos} {x pa ba da : Addr} {il io : Bool} {cn : Nat}
theorem pv_mbody (C : Fc c L sn mg mb g D U) (S : St g L ns vs led r h) (hf : MacIn c.w h x pa ba da il io cn) (hv : PV c h (.Name n np) (.ref x)) : PV c h (.Attribute (.Name n np) (Str.ofString "body") pos) (.ref ba) := by
  obtain ⟨dx, t1, t2, t3, t4, t5, t6, tc, e1, e2⟩ := hf
  exact pv_attr C S hv e1 e2 (by kernel_rfl) (by kernel_rfl) (by kernel_rfl) rfl rfl
theorem pv_mdelims (C : Fc c L sn mg mb g D U) (S : St g L ns vs led r h) (hf : MacIn c.w h x pa ba da il io cn) (hv : PV c h (.Name n np) (.ref x)) : PV c h (.Attribute (.Name n np) (Str.ofString "delimiters") pos) (.ref da) := by
  obtain ⟨dx, t1, t2, t3, t4, t5, t6, tc, e1, e2⟩ := hf
  exact pv_attr C S hv e1 e2 (by kernel_rfl) (by kernel_rfl) (by kernel_rfl) rfl rfl
theorem pi_mcount (C : Fc c L sn mg mb g D U) (S : St g L ns vs led r h) (hf : MacIn c.w h x pa ba da il io cn) (hv : PV c h (.Name n np) (.ref x)) : PI c h (.Attribute (.Name n np) (Str.ofString "count") pos) (cn : Nat) := by
  obtain ⟨dx, t1, t2, t3, t4, t5, t6, tc, e1, e2⟩ := hf
  exact ⟨fun tk Q hQ => (pv_attr C S hv e1 e2 (attr := Str.ofString "count") (v := .int cn tc) (by kernel_rfl) (by kernel_rfl) (by kernel_rfl) rfl rfl).run tk Q fun v' h' tk' p => hQ _ _ _ ⟨⟨tc, p.1⟩, p.2⟩⟩
theorem pv_mlong (C : Fc c L sn mg mb g D U) (S : St g L ns vs led r h) (hf : MacIn c.w h x pa ba da il io cn) (hv : PV c h (.Name n np) (.ref x)) : PV c h (.Attribute (.Name n np) (Str.ofString "is_long") pos) (.bool il) := by
  obtain ⟨dx, t1, t2, t3, t4, t5, t6, tc, e1, e2⟩ := hf
  exact pv_attr C S hv e1 e2 (by kernel_rfl) (by kernel_rfl) (by kernel_rfl) rfl rfl
theorem pv_mouter (C : Fc c L sn mg mb g D U) (S : St g L ns vs led r h) (hf : MacIn c.w h x pa ba da il io cn) (hv : PV c h (.Name n np) (.ref x)) : PV c h (.Attribute (.Name n np) (Str.ofString "is_outer") pos) (.bool io) := by
  obtain ⟨dx, t1, t2, t3, t4, t5, t6, tc, e1, e2⟩ := hf
  exact pv_attr C S hv e1 e2 (by kernel_rfl) (by kernel_rfl) (by kernel_rfl) rfl rfl
end
theorem full_reads {h : Heap} {ra pa ba da fl d : Addr} {cn m : Nat} {t : Tok} {br il io : Bool} {ys : List Value} {f bs rest : List (Int × Int)} {ds : List (List (Int × Int))} (ita : IsTup h ra [Value.ref pa, .ref ba, .ref da, .int (cn : Nat) t, .bool br, .ref fl, .ref d].toArray) (tf : TT h pa f) (tb : TT h ba bs) (td : TTT h da ds) (itf : IsTup h fl [Value.bool il, .bool io].toArray) (ed : h.get? d = some (listOf ys.toArray m)) (ty : Toks h ys rest) :
    ∃ as, Reads h (.ref ra) (fullD f bs ds cn br il io rest) as := by
  obtain ⟨o, ho, hc, n, hd⟩ := ita
  obtain ⟨o2, ho2, hc2, n2, hd2⟩ := itf
  exact ⟨_, .tuple ho hc hd (by exact .cons tf.reads (.cons tb.reads (.cons td.reads (.cons (.int _ _) (.cons (.bool _) (.cons (.tuple ho2 hc2 hd2 (by exact .cons (.bool _) (.cons (.bool _) .nil))) (.cons (.list ed rfl rfl (by exact ty.reads)) .nil)))))))⟩
theorem told_spec {w : World} {h : Heap} {ta oa fa : Addr} {ts os : List (Int × Int)} {il io : Bool} (hT : TL h ta ts) (hO : TT h oa os) (hF : IsTup h fa [Value.bool il, .bool io].toArray) (hv : ts.all tokV = true) (hz : ts.length ≤ 999) :
    SpecT w 347 [.ref ta, .ref oa, .ref fa] [] 6 73 h fun h' v => ∃ as, Reads h' v (toldD (defF os ts) il io) as := by
  refine specT_K (D := 5) (U := 70) [Str.ofString "tokens", Str.ofString "outers", Str.ofString "flags", Str.ofString "feed", Str.ofString "macro"] 3 rfl (by kernel_rfl) (fun _ _ => BindsTo.of_eq rfl) rfl (by decide +kernel) (by decide) (by decide +kernel) (by decide +kernel) (by decide +kernel) (by simp) (by simp) ?_
  intro c mg mb g h₁ L outer fo R hw C fr ef FO fnd hk gfr S hR
  dsimp only at C
  subst hw
  have hsl : sizeLine = 16777216 := sizeLine_eq
  have kg := FO.keep hk
  have gT := hT.via kg
  have gO := hO.via kg
  have gF : IsTup g fa [Value.bool il, .bool io].toArray := by
    obtain ⟨o, ho, hc, n, hd⟩ := hF
    exact ⟨o, kg _ _ ho (IsT.nd ⟨hc, _, _, hd⟩), hc, n, hd⟩
  have kgD : ∀ b o, b ∉ frs outer → h.get? b = some o → g.get? b = some o := fun b o n e => hk b o (by simp) n e
  clear hk kg hT hO hF
  rw [List.nil_append] at S
  have hfl : ∀ p ∈ fo, h.get? p.1 = some p.2 := FO.at_
  refine xs_let (ns := [Str.ofString "tokens", Str.ofString "outers", Str.ofString "flags", Str.ofString "feed", Str.ofString "macro"]) C (by (repeat' (first | exact Kd.head | apply Kd.tail))) rfl (ev_new (fI := 141) (pv_glob C S (by (repeat' (first | exact Kd.head | apply Kd.tail))) (gl_TokenFeed _)) (by kernel_rfl) (by kernel_rfl) (by kernel_rfl) (by kernel_rfl) C (ea_cons (EV.pv (pv_loc C S (by (repeat' (first | exact Kd.head | apply Kd.tail))) (by (repeat' (first | exact Loc.head | apply Loc.tail)))) (ea_cons (EV.pv (pv_loc C S (by (repeat' (first | exact Kd.head | apply Kd.tail))) (by (repeat' (first | exact Loc.head | apply Loc.tail)))) (ea_nil ⟨_, _, _, S, fun x dx h₂ nx nd S2 S2' => ?_⟩)) rfl)) rfl) rfl rfl)
  refine ⟨[(dx, dictOf [] 0)], _, 4, 12, feed_init (S2.N _ (.head _)).1 (S2.N _ (.tail _ (.head _))).1 (gT.keep S2.F.keep) (gO.keep S2.F.keep) hv (by omega), by decide, by decide, fun p hp => by rw [List.mem_singleton.mp hp]; exact .tail _ (.head _), fun h₃ v go post => ?_⟩
  obtain ⟨rfl, t1, t2, la, n, xs, ed, nla, ea, tx⟩ := post
  have S3 := (S2.after1 (.tail .head) go ed (fun q => by
    obtain ⟨q, _⟩ := q
    exact absurd (show Value.type "dict" = Value.type "tuple" from q) (by decide))).add ea nla S2 (fun _ h => h) not_isT_list
  refine ⟨rfl, _, _, _, _, S3, by (repeat' (first | exact SetL.head | apply SetL.tail)), fun h₄ S4 S4' => ?_⟩
  have tx := tx.mono S4'.go.T
  clear S S2 S2' S3 S4' go ed ea nla nx nd
  have hFeed : FeedIn c.w h₄ x la oa := ⟨dx, t1, t2, (S4.N _ (.tail _ (.head _))).1, (S4.N _ (.tail _ (.tail _ (.head _)))).1⟩
  have hfo4 : ∀ p ∈ fo, h₄.get? p.1 = some p.2 := fun p hp => (S4.N p (.tail _ (.tail _ (.tail _ hp)))).1
  have gla : ∀ a ∈ [la], g.get? a = none := fun a ha => by rw [List.mem_singleton.mp ha]; exact (S4.N _ (.head _)).2.2
  have hok4 : FrOK h₄ (c.env :: outer) := by
    obtain ⟨o, es, ep, ho, hd⟩ := S4.F.ns
    exact .cons (by rw [C.fe.kind]; decide) ef ho ⟨es, ep, hd.1⟩ (FO.fr _ fun p hp => ⟨p.2.slots, hfo4 p hp⟩)
  have itF := gF.keeps S4.F.keep
  refine xs_tryE fun E' po hE => ?_
  have C' : Fc ⟨c.prog, c.w, c.A, c.env, c.s, E'⟩ L _ mg mb g 5 70 := ⟨C.hh, C.hd, C.hu, C.G, C.fe, po⟩
  refine xs_let (ns := [Str.ofString "tokens", Str.ofString "outers", Str.ofString "flags", Str.ofString "feed", Str.ofString "macro"]) C' (by (repeat' (first | exact Kd.head | apply Kd.tail))) rfl (ev_call (pv_glob C' S4 (by (repeat' (first | exact Kd.head | apply Kd.tail))) (gl_definition _)) (fn_definition _) C' S4 (ea_cons (EV.pv (pv_loc C' S4 (by (repeat' (first | exact Kd.head | apply Kd.tail))) (by (repeat' (first | exact Loc.head | apply Loc.tail)))) (ea_cons (EV.pv (pv_titem (jn := 0) (pv_loc C' S4 (by (repeat' (first | exact Kd.head | apply Kd.tail))) (by (repeat' (first | exact Loc.head | apply Loc.tail)))) pi_const itF (by decide) (by decide) rfl rfl fun _ => by with_unfolding_all rfl) (ea_cons (EV.pv (pv_titem (jn := 1) (pv_loc C' S4 (by (repeat' (first | exact Kd.head | apply Kd.tail))) (by (repeat' (first | exact Loc.head | apply Loc.tail)))) pi_const itF (by decide) (by decide) rfl rfl fun _ => by with_unfolding_all rfl) (ea_nil ⟨S4.F.keep, ⟨fun tk Q hQ => ?_⟩⟩)) rfl)) rfl)) rfl) rfl)
  refine (defn_spec hFeed (gO.keep S4.F.keep) (S4.N _ (.head _)).1 tx hz).run c.prog c.A c.s tk mg mb g (c.env :: outer) _ _ C.hh (by have := C.hd; omega) (by have := C.hu; omega) C.G S4.F.keep (fun p hp => ?_) fr hok4 (fun p hp hm => ?_) (fun h₅ tk₅ v go post => hQ _ _ _ ?_) fun Ce h₅ tk₅ e xp rz => ?_
  · rw [List.mem_singleton.mp hp]
    exact ⟨(S4.N _ (.head _)).1, (S4.N _ (.head _)).2.2⟩
  · rw [List.mem_singleton.mp hp, frs_cons ef] at hm
    rcases List.mem_cons.mp hm with q | q
    · exact (S4.N _ (.head _)).2.1 q
    · have := S4.ld
      rw [List.map_cons, List.nodup_cons] at this
      exact this.1 (List.mem_cons_of_mem _ (List.mem_cons_of_mem _ (by rw [FO.keys]; exact q)))
  · obtain ⟨f, bs, rest, mx, mdx, pa, ba, da, s1, s2, s3, s4, s5, s6, tc, hok, rfl, nmx, nmd, emx, emd, tf, tb, td, ⟨xs2, n2, el, tl⟩, b1, b2, b3⟩ := post
    have S5 := S4.after1 .head go el not_isT_list
    have hne : ∀ {a : Addr}, h₄.get? a = none → a ≠ L ∧ g.get? a = none ∧ ∀ {l : List (Addr × Obj)}, (∀ p ∈ l, p.1 ∈ ((la, listOf xs.toArray n) :: (x, instObj 179 dx) :: (dx, dictOf (feedD c.w t1 t2 la oa) 2) :: fo).map (·.1)) → a ∉ l.map (·.1) := fun {a} na => by
      refine ⟨?_, none_at na S4.F.keep, fun {l} hl hm => ?_⟩
      · rintro rfl
        obtain ⟨o, _, _, e, _⟩ := S4.F.ns
        rw [na] at e; cases e
      · obtain ⟨p, hp, rfl⟩ := List.mem_map.mp hm
        obtain ⟨p', hp', e⟩ := List.mem_map.mp (hl p hp)
        have := (S4.N p' hp').1
        rw [e, na] at this; cases this
    have S6 := S5.put emd (hne nmd).1 (hne nmd).2.1 ((hne nmd).2.2 fun p hp => by
      rcases List.mem_cons.mp hp with rfl | hp
      · exact List.mem_cons_self
      · exact List.mem_cons_of_mem _ (List.mem_map_of_mem hp)) (dict_nT ⟨_, _, rfl⟩)
    have S7 := S6.put emx (hne nmx).1 (hne nmx).2.1 (fun hm => by
      rcases List.mem_cons.mp hm with q | q
      · rw [q, emd] at emx; cases emx
      · refine (hne nmx).2.2 (l := (la, listOf xs2.toArray n2) :: (x, instObj 179 dx) :: (dx, dictOf (feedD c.w t1 t2 la oa) 2) :: fo) (fun p hp => ?_) q
        rcases List.mem_cons.mp hp with rfl | hp
        · exact List.mem_cons_self
        · exact List.mem_cons_of_mem _ (List.mem_map_of_mem hp)) (fun q => by
      obtain ⟨q, _⟩ := q
      cases q)
    have tD : toldD (defF os ts) il io = fullD f bs (rowsR f).reverse (nines f) (braceF f) il io rest := by rw [hok]; rfl
    clear S4 S5 S6 hne emx emd nmx nmd el go hfo4 hok4 gla itF hFeed hE po
    refine ⟨_, _, _, _, S7, by (repeat' (first | exact SetL.head | apply SetL.tail)), fun h₆ S8 S8' => xs_nil ⟨rfl, ?_⟩⟩
    have k8 := S8'.go.T
    have tf := tf.mono k8
    have tb := tb.mono k8
    have td := td.mono k8
    have tl := tl.mono k8
    clear S7 S8' k8 C'
    have M : ∀ {h r : Heap} {vs}, St g L [Str.ofString "tokens", Str.ofString "outers", Str.ofString "flags", Str.ofString "feed", Str.ofString "macro"] vs ((mx, instObj 214 mdx) :: (mdx, dictOf (macD c.w s1 s2 s3 s4 s5 s6 pa ba da il io (nines f : Nat) tc) 6) :: (la, listOf xs2.toArray n2) :: (x, instObj 179 dx) :: (dx, dictOf (feedD c.w t1 t2 la oa) 2) :: fo) r h → MacIn c.w h mx pa ba da il io (nines f) := fun S => ⟨_, _, _, _, _, _, _, _, (S.N _ (.head _)).1, (S.N _ (.tail _ (.head _))).1⟩
    refine xs_ret (ev_tuple (ea_cons (EV.pv (pv_mpar C S8 (M S8) (pv_loc C S8 (by (repeat' (first | exact Kd.head | apply Kd.tail))) (by (repeat' (first | exact Loc.head | apply Loc.tail))))) (ea_cons (EV.pv (pv_mbody C S8 (M S8) (pv_loc C S8 (by (repeat' (first | exact Kd.head | apply Kd.tail))) (by (repeat' (first | exact Loc.head | apply Loc.tail))))) (ea_cons (EV.pv (pv_mdelims C S8 (M S8) (pv_loc C S8 (by (repeat' (first | exact Kd.head | apply Kd.tail))) (by (repeat' (first | exact Loc.head | apply Loc.tail))))) (ea_cons (EV.pi (pi_mcount C S8 (M S8) (pv_loc C S8 (by (repeat' (first | exact Kd.head | apply Kd.tail))) (by (repeat' (first | exact Loc.head | apply Loc.tail))))) fun t => ea_cons (ev_methI0 C S8 (pv_loc C S8 (by (repeat' (first | exact Kd.head | apply Kd.tail))) (by (repeat' (first | exact Loc.head | apply Loc.tail)))) (S8.N _ (.head _)).1 (S8.N _ (.tail _ (.head _))).1 (by kernel_rfl) (by kernel_rfl) (by kernel_rfl) (by rfl) (by kernel_rfl) (tr_spec (brace_spec (M S8) tf (by omega)) C S8 (by decide) (by decide) (by simp) fun h₇ v go post => ?_) rfl) rfl) rfl)) rfl)) rfl)) rfl))
    subst post
    have S9 := S8.after0 go
    have k9 := go.T
    have tf := tf.mono k9
    have tb := tb.mono k9
    have td := td.mono k9
    have tl := tl.mono k9
    clear S8 k9 go
    refine ea_cons (ev_tuple (ea_cons (EV.pv (pv_mlong C S9 (M S9) (pv_loc C S9 (by (repeat' (first | exact Kd.head | apply Kd.tail))) (by (repeat' (first | exact Loc.head | apply Loc.tail))))) (ea_cons (EV.pv (pv_mouter C S9 (M S9) (pv_loc C S9 (by (repeat' (first | exact Kd.head | apply Kd.tail))) (by (repeat' (first | exact Loc.head | apply Loc.tail))))) (ea_nil ⟨_, _, _, _, _, _, S9, by simp [hsl], fun fl h₈ nfl itf S10 S10' => ?_⟩)) rfl)) rfl)) rfl
    have k10 := S10'.go.T
    have tf := tf.mono k10
    have tb := tb.mono k10
    have td := td.mono k10
    have tl := tl.mono k10
    clear S9 S10' k10
    refine ea_cons (ev_methI0 C S10 (pv_loc C S10 (by (repeat' (first | exact Kd.head | apply Kd.tail))) (by (repeat' (first | exact Loc.head | apply Loc.tail)))) (S10.N _ (.tail _ (.tail _ (.tail _ (.head _))))).1 (S10.N _ (.tail _ (.tail _ (.tail _ (.tail _ (.head _)))))).1 (by kernel_rfl) (by kernel_rfl) (by kernel_rfl) (by rfl) (by kernel_rfl) (tr_spec (left_spec ⟨dx, t1, t2, (S10.N _ (.tail _ (.tail _ (.tail _ (.head _))))).1, (S10.N _ (.tail _ (.tail _ (.tail _ (.tail _ (.head _)))))).1⟩ (S10.N _ (.tail _ (.tail _ (.head _)))).1 tl (by omega)) C S10 (by decide) (by decide) (by simp) fun h₉ v go post => ?_) rfl) rfl
    obtain ⟨d, ys, m, rfl, nd, ed, ty⟩ := post
    have S11 := S10.after0 go
    have k11 := go.T
    have tf := tf.mono k11
    have tb := tb.mono k11
    have td := td.mono k11
    have itf := Mine.IsTup.mono itf k11
    have S12 := S11.add ed nd S10 (fun _ h => h) not_isT_list
    clear S10 S11 k11 go
    refine ea_nil ⟨_, _, _, _, _, _, S12, by simp [hsl], fun ra ha nra ita S13 S13' => hR S13.F.keep S13.go.D (fun p hp => ⟨p.2.slots, (S13.N p (by simp [hp])).1⟩) ?_⟩
    have k13 := S13'.go.T
    rw [tD]
    exact full_reads ita (tf.mono k13) (tb.mono k13) (td.mono k13) (Mine.IsTup.mono itf k13) (S13.N _ (.head _)).1 (ty.mono k13)
  · refine hE e h₅ tk₅ fun QQ hQQ => ?_
    have done : ∀ {h₆ : Heap} {v : Value}, Rz [la] (c.env :: outer) e Ce h₄ h₆ → (∃ as, Reads h₆ v (toldD (defF os ts) il io) as) → R (.ret v) h₆ := fun {h₆ v} rz post => by
      have keep := rz.keep ef S4 gfr gla
      have slots : ∀ p ∈ fo, ∃ sl, h₆.get? p.1 = some { p.2 with slots := sl } := fun p hp => rz.up p.1 p.2 (fun hm => by
        have := S4.ld
        rw [List.map_cons, List.nodup_cons] at this
        have q : p.1 = la := List.mem_singleton.mp hm
        refine this.1 ?_
        show la ∈ _
        rw [← q]
        exact List.mem_cons_of_mem _ (List.mem_cons_of_mem _ (List.mem_map_of_mem hp))) (hfo4 p hp) (dict_nf (FO.nt p hp))
      refine hR keep (fun b e => ?_) slots post
      cases q : h.get? b with
      | none => rfl
      | some o =>
        exfalso
        by_cases hm : b ∈ frs outer
        · rw [← FO.keys] at hm
          obtain ⟨p, hp, rfl⟩ := List.mem_map.mp hm
          obtain ⟨sl, e2⟩ := slots p hp
          rw [e] at e2; cases e2
        · rw [keep b o (kgD b o hm q)] at e; cases e
    have xn : ∀ {h₆ : Heap} {t : Tok} {s : Str}, exName Ce = s → ∃ as, Reads h₆ (.str s t) (toldD (defF os ts) il io) as := fun {h₆ t s} e => ⟨[], by rw [xp]; show Reads _ _ (.str (exName Ce)) _; rw [e]; exact .str _ _⟩
    refine to_handlers fr ef rz fun h₆ rz6 => ?_
    have XC : ExcC c.w Ce := by
      rcases defF_err xp with q | q | q <;> subst q
      · exact excC_Runaway _
      · exact excC_OuterRefused _
      · exact excC_BadDefinition _
    refine hb_ret C ef S4 gfr gla rz6 XC (excC_OuterRefused _) (by (repeat' (first | exact Kd.head | apply Kd.tail))) (gl_OuterRefused _) (by decide) (fun q h₇ tk' t rz7 => hQQ _ _ _ (done rz7 (xn (by rw [q]; rfl)))) fun q1 => ?_
    refine hb_ret C ef S4 gfr gla rz6 XC (excC_BadDefinition _) (by (repeat' (first | exact Kd.head | apply Kd.tail))) (gl_BadDefinition _) (by decide) (fun q h₇ tk' t rz7 => hQQ _ _ _ (done rz7 (xn (by rw [q]; rfl)))) fun q2 => ?_
    refine hb_ret C ef S4 gfr gla rz6 XC (excC_Runaway _) (by (repeat' (first | exact Kd.head | apply Kd.tail))) (gl_Runaway _) (by decide) (fun q h₇ tk' t rz7 => hQQ _ _ _ (done rz7 (xn (by rw [q]; rfl)))) fun q3 => ?_
    rcases defF_err xp with q | q | q
    · exact absurd q q3
    · exact absurd q q1
    · exact absurd q q2

/-! ## what is due; frames whose slots change -/
def dueD (ts os : List (Int × Int)) (il io : Bool) (size : Nat) : PyData :=
  if (ts.take size).length ≤ (judgedF ts os).1 then .str (Str.ofString "runaway")
  else if (judgedF ts os).2.1 ≠ Str.ofString "well" then .str (judgedF ts os).2.1
  else fullD (paramsF ts (judgedF ts os).2.2) (stretchF ts ((judgedF ts os).2.2 + 1) 5 ((judgedF ts os).1 - ((judgedF ts os).2.2 + 1))) (delimsF (paramsF ts (judgedF ts os).2.2))
    (idx9 (paramsF ts (judgedF ts os).2.2) (paramsF ts (judgedF ts os).2.2).length).length (decide (runF ts 0 (judgedF ts os).2.2 = 1)) il io ((ts.take size).drop ((judgedF ts os).1 + 1))
theorem judged_ok (ts os : List (Int × Int)) : PyData.strOk (judgedF ts os).2.1 = true := by
  unfold judgedF
  split
  · exact wrongAt_ok ..
  · dsimp only
    split <;> decide +kernel
theorem canLay_toks (ts : List (Int × Int)) : PyData.canLay0 (.tuple (ts.map tokD)) = true := lay_toks ts
theorem lay_rows : ∀ ds : List (List (Int × Int)), PyData.canLayAll0 (ds.map fun r => .tuple (r.map tokD)) = true
  | [] => rfl
  | d :: ds => by
    show (PyData.canLay0 (.tuple (d.map tokD)) && _) = true
    rw [lay_rows ds, canLay_toks]; rfl
theorem depth_tup (ts : List (Int × Int)) : PyData.depth (.tuple (ts.map tokD)) ≤ 2 := by
  show PyData.depthAll _ + 1 ≤ 2
  have := depth_toks ts; omega
theorem depth_rows : ∀ ds : List (List (Int × Int)), PyData.depthAll (ds.map fun r => .tuple (r.map tokD)) ≤ 2
  | [] => Nat.zero_le _
  | d :: ds => by
    show max (PyData.depth (.tuple (d.map tokD))) _ ≤ 2
    exact Nat.max_le.mpr ⟨depth_tup d, depth_rows ds⟩
theorem shaped_full (f bs : List (Int × Int)) (ds : List (List (Int × Int))) (cn : Nat) (br il io : Bool) (rest : List (Int × Int)) : PySem.SeqAt.shaped (fullD f bs ds cn br il io rest) = true := by
  unfold PySem.SeqAt.shaped
  rw [Bool.and_eq_true]
  constructor
  · show (PyData.canLay0 (.tuple (f.map tokD)) && (PyData.canLay0 (.tuple (bs.map tokD)) && (PyData.canLayAll0 (ds.map fun r => .tuple (r.map tokD)) && (true && (true && (true && (PyData.canLayAll0 (rest.map tokD) && true))))))) = true
    rw [canLay_toks, canLay_toks, lay_rows, lay_toks]; rfl
  · refine decide_eq_true ?_
    show max (PyData.depth (.tuple (f.map tokD))) (max (PyData.depth (.tuple (bs.map tokD))) (max (PyData.depthAll (ds.map fun r => .tuple (r.map tokD)) + 1) (max (PyData.depth (.int cn)) (max (PyData.depth (.bool br)) (max (PyData.depth (.tuple [.bool il, .bool io])) (max (PyData.depthAll (rest.map tokD) + 1) 0)))))) + 1 ≤ 64
    have le : ∀ {n k : Nat}, n ≤ k → k ≤ 63 → n ≤ 63 := fun h1 h2 => Nat.le_trans h1 h2
    exact Nat.succ_le_succ (Nat.max_le.mpr ⟨le (depth_tup f) (by decide), Nat.max_le.mpr ⟨le (depth_tup bs) (by decide), Nat.max_le.mpr ⟨le (Nat.succ_le_succ (depth_rows ds)) (by decide), Nat.max_le.mpr ⟨Nat.zero_le _, Nat.max_le.mpr ⟨Nat.zero_le _, Nat.max_le.mpr ⟨le (Nat.le_of_eq rfl : PyData.depth (.tuple [.bool il, .bool io]) ≤ 1) (by decide), Nat.max_le.mpr ⟨le (Nat.succ_le_succ (depth_toks rest)) (by decide), Nat.zero_le _⟩⟩⟩⟩⟩⟩⟩)
theorem shaped_due (ts os : List (Int × Int)) (il io : Bool) (size : Nat) : PySem.SeqAt.shaped (dueD ts os il io size) = true := by
  unfold dueD
  split
  · exact shaped_str (by decide +kernel)
  · split
    · exact shaped_str (judged_ok ..)
    · exact shaped_full ..
theorem shaped_list (ts : List (Int × Int)) : PySem.SeqAt.shaped (.list (ts.map tokD)) = true := shaped_toks ts
theorem eqv_shaped {d : PyData} (h : PySem.SeqAt.shaped d = true) : PyData.eqv d d = true := PySem.SeqAt.eqv_refl d (Bool.and_eq_true_iff.mp h).1
theorem nz_cases {p q : Addr × Obj} (e : ((q.1, { q.2 with slots := #[] }) : Addr × Obj) = (p.1, { p.2 with slots := #[] })) : q.1 = p.1 ∧ ∃ sl, q.2 = { p.2 with slots := sl } := by
  obtain ⟨a, ⟨c, d, x, s⟩⟩ := p
  obtain ⟨a', ⟨c', d', x', s'⟩⟩ := q
  simp only [Prod.mk.injEq, Obj.mk.injEq, and_true] at e
  obtain ⟨rfl, rfl, rfl, rfl⟩ := e
  exact ⟨rfl, s', rfl⟩
/-- the same objects but for slots -/
def Sl (fo fo' : List (Addr × Obj)) : Prop := (fo'.map fun p => ((p.1, { p.2 with slots := #[] }) : Addr × Obj)) = fo.map fun p => (p.1, { p.2 with slots := #[] })
theorem Sl.trans {a b c : List (Addr × Obj)} (x : Sl a b) (y : Sl b c) : Sl a c := Eq.trans y x
theorem Sl.keys {a b : List (Addr × Obj)} (x : Sl a b) : b.map (·.1) = a.map (·.1) := by
  have := congrArg (List.map Prod.fst) x
  rwa [List.map_map, List.map_map] at this
theorem Sl.of {a b : List (Addr × Obj)} (x : Sl a b) {p : Addr × Obj} (hp : p ∈ a) : ∃ sl, (p.1, { p.2 with slots := sl }) ∈ b := by
  have hm : ((p.1, { p.2 with slots := #[] }) : Addr × Obj) ∈ b.map fun p => ((p.1, { p.2 with slots := #[] }) : Addr × Obj) := by
    rw [x]; exact List.mem_map_of_mem (f := fun p => ((p.1, { p.2 with slots := #[] }) : Addr × Obj)) hp
  obtain ⟨q, hq, e⟩ := List.mem_map.mp hm
  obtain ⟨e1, sl, e2⟩ := nz_cases e
  refine ⟨sl, ?_⟩
  rw [← e1, ← e2]; exact hq
theorem Sl.back {a b : List (Addr × Obj)} (x : Sl a b) {p : Addr × Obj} (hp : p ∈ b) : ∃ q ∈ a, q.2.data = p.2.data := by
  obtain ⟨sl, h⟩ := Sl.of (a := b) (b := a) x.symm hp
  exact ⟨_, h, rfl⟩
theorem sl_at {h' : Heap} : ∀ {fo : List (Addr × Obj)}, (∀ p ∈ fo, ∃ sl, h'.get? p.1 = some { p.2 with slots := sl }) → ∃ fo', Sl fo fo' ∧ ∀ p ∈ fo', h'.get? p.1 = some p.2
  | [], _ => ⟨[], rfl, fun p hp => (nomatch hp)⟩
  | (a, o) :: fo, hh => by
    obtain ⟨fo', s, e⟩ := sl_at fun p hp => hh p (.tail _ hp)
    obtain ⟨sl, ea⟩ := hh (a, o) (.head _)
    refine ⟨(a, { o with slots := sl }) :: fo', ?_, fun p hp => ?_⟩
    · show _ :: _ = _ :: _
      rw [s]
    · rcases List.mem_cons.mp hp with rfl | hp
      · exact ea
      · exact e p hp
theorem St.afterT {g h h' r : Heap} {L : Addr} {ns : List Str} {vs : List (Option Value)} {led fo : List (Addr × Obj)} (S : St g L ns vs (led ++ fo) r h) (nt : ∀ p ∈ fo, Ex2 fun es n => p.2.data = .dict es n) (k : GoT [] (L :: fo.map (·.1)) h h') :
    ∃ fo', Sl fo fo' ∧ (∀ p ∈ fo', Ex2 fun es n => p.2.data = .dict es n) ∧ St g L ns vs (led ++ fo') r h' ∧ St g L ns vs (led ++ fo') h h' := by
  have hfo : ∀ p ∈ fo, h.get? p.1 = some p.2 := fun p hp => (S.N p (List.mem_append_right _ hp)).1
  obtain ⟨oL, es, ep, eL, dL, q⟩ := S.F.ns
  obtain ⟨slL, eL'⟩ := k.S L (.head _) oL eL
  obtain ⟨fo', sl, hfo'⟩ := sl_at fun p hp => k.S p.1 (.tail _ (List.mem_map_of_mem hp)) p.2 (hfo p hp)
  have nt' : ∀ p ∈ fo', Ex2 fun es n => p.2.data = .dict es n := fun p hp => by
    obtain ⟨q, hq, e⟩ := sl.back hp
    obtain ⟨es, n, ed⟩ := nt q hq
    exact ⟨es, n, e ▸ ed⟩
  have nin : ∀ {b}, g.get? b ≠ none → b ∉ L :: fo.map (·.1) := fun {b} e hm => by
    rcases List.mem_cons.mp hm with rfl | hm
    · exact e (Fr.lnone S.F)
    · obtain ⟨p, hp, rfl⟩ := List.mem_map.mp hm
      exact e (S.N p (List.mem_append_right _ hp)).2.2
  have T : TupK h h' := fun a o e t => k.K a o (by simp) (fun hm => by
    rcases List.mem_cons.mp hm with rfl | hm
    · rw [eL] at e; cases e
      exact t.nd _ _ dL
    · obtain ⟨p, hp, rfl⟩ := List.mem_map.mp hm
      rw [hfo p hp] at e; cases e
      exact S.lt p (List.mem_append_right _ hp) t) e
  have go : Go (L :: (led ++ fo').map (·.1)) h h' := ⟨fun b o n e => k.K b o (by simp) (fun hm => n (by
    rw [List.map_append, sl.keys]
    rcases List.mem_cons.mp hm with rfl | hm
    · exact .head _
    · exact .tail _ (List.mem_append_right _ hm))) e, k.D, T⟩
  have nd := S.ld
  rw [List.map_append] at nd
  have S' : St g L ns vs (led ++ fo') h h' := by
    refine ⟨S.nd, ⟨⟨_, es, ep, eL', dL, q⟩, fun b o e => k.K b o (by simp) (nin (by rw [e]; simp)) (S.F.keep b o e), S.F.above⟩, fun p hp => ?_, by rw [List.map_append, sl.keys]; exact nd, fun p hp => ?_, go⟩
    · rcases List.mem_append.mp hp with hp | hp
      · refine ⟨k.K p.1 p.2 (by simp) (fun hm => ?_) (S.N p (List.mem_append_left _ hp)).1, (S.N p (List.mem_append_left _ hp)).2⟩
        rcases List.mem_cons.mp hm with q | q
        · exact (S.N p (List.mem_append_left _ hp)).2.1 q
        · exact (List.nodup_append.mp nd).2.2 _ (List.mem_map_of_mem hp) _ q rfl
      · have hk : p.1 ∈ fo.map (·.1) := by rw [← sl.keys]; exact List.mem_map_of_mem hp
        obtain ⟨p', hp', e⟩ := List.mem_map.mp hk
        refine ⟨hfo' p hp, ?_⟩
        rw [← e]
        exact (S.N p' (List.mem_append_right _ hp')).2
    · rcases List.mem_append.mp hp with hp | hp
      · exact S.lt p (List.mem_append_left _ hp)
      · exact dict_nT (nt' p hp)
  refine ⟨fo', sl, nt', S.then S' (fun a ha => ?_), S'⟩
  rw [List.map_append, sl.keys, ← List.map_append]; exact ha
/-- t + u, tuples that are not empty -/
theorem tr_catT {c : Cx} {g h r : Heap} {L : Addr} {ns : List Str} {vs : List (Option Value)} {led : List (Addr × Obj)} {a b : Addr} {xs ys : List Value} (S : St g L ns vs led r h) (ha : IsTup h a xs.toArray) (hb : IsTup h b ys.toArray) (h1 : xs ≠ []) (h2 : ys ≠ []) (hz : xs.length + ys.length ≤ sizeLine) {P : Value → Heap → Prop}
    (hP : ∀ d h', h.get? d = none → IsTup h' d (xs ++ ys).toArray → St g L ns vs led r h' → St g L ns vs led h h' → P (.ref d) h') : TR c h (binaryOp .Add (.ref a) (.ref b)) P := by
  refine ⟨fun tk Q hQ => ?_⟩
  obtain ⟨T, N, hT, back⟩ := S.re.lift
  refine add_tuples (s := mk c.s h tk) S.F N ha hb (fun e => absurd e h1) (fun _ e => absurd e h2) (fun _ _ h' F' N' => ?_) hz
  have S2 := back F' (fun p hp => N' p (.tail _ hp)) S.ld S.lt fun _ q => q
  exact hQ _ h' _ (hP _ h' fresh_size ⟨_, (N' _ (.head _)).1, rfl, _, rfl⟩ (S.then S2 fun _ h => h) S2)

/-! ## rules for _law_row_right -/
theorem Reads.but {h h' : Heap} (hk : ∀ b o, h.get? b = some o → (∀ es n, o.data ≠ .dict es n) → h'.get? b = some o) {v : Value} {d : PyData} {as : List Addr} (hl : PyData.canLay0 d = true) (q : Reads h v d as) : Reads h' v d as :=
  Reads.rec (motive_1 := fun v d as _ => PyData.canLay0 d = true → Reads h' v d as) (motive_2 := fun vs ds as _ => PyData.canLayAll0 ds = true → ReadsAll h' vs ds as)
    (fun _ => .none) (fun b _ => .bool b) (fun i t _ => .int i t) (fun x t _ => .str x t)
    (fun h1 h2 h3 _ ih l => .list (hk _ _ h1 fun _ _ q => by rw [h3] at q; cases q) h2 h3 (ih l)) (fun h1 h2 h3 _ ih l => .tuple (hk _ _ h1 fun _ _ q => by rw [h3] at q; cases q) h2 h3 (ih l))
    (fun _ _ _ _ _ _ _ l => nomatch l) (fun _ => .nil) (fun _ _ i1 i2 l => .cons (i1 (Bool.and_eq_true_iff.mp l).1) (i2 (Bool.and_eq_true_iff.mp l).2)) q hl
theorem eqv_str (a b : Str) : PyData.eqv (.str a) (.str b) = decide (a = b) := by
  show (a == b) = _
  by_cases h : a = b
  · subst h; simp
  · rw [decide_eq_false h]; simpa using h
section
variable {c : Cx} {src L : Addr} {sn : List (Str × NameKind)} {mg mb : Str → Option Value} {g h h' : Heap} {D U : Nat} {ns : List Str} {vs vs' : List (Option Value)} {led led' fo : List (Addr × Obj)} {r : Heap} {x : Str} {pos p' fp : Pos} {v : Value} {outer : List Env}
  {P P' : Value → Heap → Prop} {R : Flow → Heap → Prop} {e l r' e1 e2 : Expr} {a b i j : Int} {k : Nat} {F : Obj → List (Addr × Obj)} {B B' n n1 n2 : Int}
theorem ev_takeP (C : Fc c L sn mg mb g D U) (hD : 1 ≤ D) (hU : 3 ≤ U) (S : DS src g L ns vs F B r h) (k : Kd sn (Str.ofString "_law_take") .globalImplicit) (h1 : PV c h e1 (.ref src)) (h2 : PI c h e2 i) (hB : B < 1000000) (hi : 0 < i) (hi2 : i ≤ 1000)
    (hP : ∀ d t h', 0 ≤ d → d < i → DS src g L ns vs F (B + 1) r h' → DS src g L ns vs F (B + 1) h h' → P (.int d t) h')
    (he1 : ∀ es, starEach (e1 :: es) c.env = (false, eval e1 c.env) :: starEach es c.env) (he2 : ∀ es, starEach (e2 :: es) c.env = (false, eval e2 c.env) :: starEach es c.env) : EV c h (.Call (.Name (Str.ofString "_law_take") fp) [e1, e2] [] pos) P :=
  (ev_take C hD hU S k h1 h2 hB hi hi2 he1 he2).mono fun v h' p => by
    obtain ⟨⟨d, t, rfl, d0, d1⟩, S1, S2⟩ := p
    exact hP d t h' d0 d1 S1 S2
theorem tt_one {kk : Nat} (S : DS src g L ns vs F B r h) (h1 : ET c src g L ns vs e1 n1) (hB : B + n1 ≤ 1000000) (he1 : ∀ es, starEach (e1 :: es) c.env = (false, eval e1 c.env) :: starEach es c.env) :
    EV c h (.Tuple [e1] kk pos) fun v h' => Ex2 fun a t => v = .ref a ∧ TT h' a [t] ∧ DS src g L ns vs F (B + n1) r h' := by
  have hsl : sizeLine = 16777216 := sizeLine_eq
  refine ev_tuple (ea_cons ((h1 F B r h (by omega) S).mono ?_) (he1 _))
  rintro v h₁ ⟨⟨t, tt, tv⟩, ⟨⟨o, so, S1⟩, up⟩, S1'⟩
  exact ea_nil ⟨_, _, _, _, _, _, S1, by simp [hsl], fun a h₃ hn it S3 S4 => ⟨a, t, rfl, ⟨_, it, .cons (tt.mono S4.go.T) .nil⟩, ⟨o, so, S3⟩, up⟩⟩
theorem tt_two {kk : Nat} (S : DS src g L ns vs F B r h) (h1 : ET c src g L ns vs e1 n1) (h2 : ET c src g L ns vs e2 n2) (hn2 : 0 ≤ n2) (hB : B + n1 + n2 ≤ 1000000) (he1 : ∀ es, starEach (e1 :: es) c.env = (false, eval e1 c.env) :: starEach es c.env) (he2 : ∀ es, starEach (e2 :: es) c.env = (false, eval e2 c.env) :: starEach es c.env) :
    EV c h (.Tuple [e1, e2] kk pos) fun v h' => Ex3 fun a t t2 => v = .ref a ∧ TT h' a [t, t2] ∧ DS src g L ns vs F (B + n1 + n2) r h' := by
  have hsl : sizeLine = 16777216 := sizeLine_eq
  refine ev_tuple (ea_cons ((h1 F B r h (by omega) S).mono ?_) (he1 _))
  rintro v h₁ ⟨⟨t, tt, tv⟩, S1, S1'⟩
  refine ea_cons ((h2 F _ r h₁ hB S1).mono ?_) (he2 _)
  rintro v2 h₂ ⟨⟨t2, tt2, tv2⟩, S2, S2'⟩
  have hT := S2'.tup
  obtain ⟨⟨o, so, S2⟩, up⟩ := S2
  exact ea_nil ⟨_, _, _, _, _, _, S2, by simp [hsl], fun a h₃ hn it S3 S4 => ⟨a, t, t2, rfl, ⟨_, it, .cons ((tt.mono hT).mono S4.go.T) (.cons (tt2.mono S4.go.T) .nil)⟩, ⟨o, so, S3⟩, up⟩⟩
/-- _law_take(source, n) == 0, as a value -/
theorem ev_takeEq {e3 : Expr} (C : Fc c L sn mg mb g D U) (hD : 1 ≤ D) (hU : 3 ≤ U) (S : DS src g L ns vs F B r h) (k : Kd sn (Str.ofString "_law_take") .globalImplicit) (h1 : PV c h e1 (.ref src)) (h2 : PI c h e2 i) (hB : B < 1000000) (hi : 0 < i) (hi2 : i ≤ 1000) (h3 : ∀ h, PI c h e3 j)
    (hP : ∀ b h', DS src g L ns vs F (B + 1) r h' → TupK h h' → P (.bool b) h')
    (he1 : ∀ es, starEach (e1 :: es) c.env = (false, eval e1 c.env) :: starEach es c.env) (he2 : ∀ es, starEach (e2 :: es) c.env = (false, eval e2 c.env) :: starEach es c.env) (hm : behindInMarks .Eq e3 = false) : EV c h (.Compare (.Call (.Name (Str.ofString "_law_take") fp) [e1, e2] [] p') [.Eq] [e3] pos) P :=
  ev_cmpG (ev_takeP C hD hU S k h1 h2 hB hi hi2 (fun d t h' _ _ S1 S1' => EV.pi (h3 h') fun t2 => tr_eq.mono fun v h₂ p => by
    obtain ⟨rfl, rfl⟩ := p
    exact hP _ _ S1 S1'.tup) he1 he2) hm
/-- a call of a def that catches -/
theorem tr_specT {fa : Addr} {xs : List Value} {D' U' : Nat} {Post : Heap → Value → Prop} (sp : SpecT c.w fa xs [] D' U' h Post) (C : Fc c L sn mg mb g D U) (fr : c.A.frames = some (c.env :: outer)) (ef : c.env.frame = some L) (kd : c.env.scope.kind ≠ .module) (S : St g L ns vs (led ++ fo) r h)
    (hd : D' ≤ D) (hu : U' ≤ U) (ok : ∀ h', (∀ p ∈ fo, ∃ sl, h'.get? p.1 = some { p.2 with slots := sl }) → FrOK h' outer) (keys : fo.map (·.1) = frs outer) (nt : ∀ p ∈ fo, Ex2 fun es n => p.2.data = .dict es n) (fnd : (frs (c.env :: outer)).Nodup) (gfr : ∀ a ∈ frs outer, g.get? a = none)
    (q : ∀ h' v fo', Sl fo fo' → (∀ p ∈ fo', Ex2 fun es n => p.2.data = .dict es n) → St g L ns vs (led ++ fo') r h' → St g L ns vs (led ++ fo') h h' → (∀ b o, h.get? b = some o → (∀ es n, o.data ≠ .dict es n) → h'.get? b = some o) → Post h' v → P v h') : TR c h (call (.ref fa) xs) P := by
  refine ⟨fun tk Q hQ => ?_⟩
  have hfo : ∀ p ∈ fo, h.get? p.1 = some p.2 := fun p hp => (S.N p (List.mem_append_right _ hp)).1
  have hok : FrOK h (c.env :: outer) := by
    obtain ⟨o, es, ep, ho, hd⟩ := S.F.ns
    exact .cons kd ef ho ⟨es, ep, hd.1⟩ (ok _ fun p hp => ⟨p.2.slots, hfo p hp⟩)
  refine sp.run c.prog c.A c.s tk mg mb g (c.env :: outer) _ _ C.hh (by have := C.hd; omega) (by have := C.hu; omega) C.G S.F.keep (fun p hp => (nomatch hp)) fr hok fnd (fun p hp => (nomatch hp)) (fun a ha => ?_) fun h' tk' v go post => ?_
  · rw [frs_cons ef] at ha
    rcases List.mem_cons.mp ha with rfl | ha
    · exact Fr.lnone S.F
    · exact gfr a ha
  · have go' : GoT [] (L :: fo.map (·.1)) h h' := by
      rw [keys, ← frs_cons ef]; exact go
    obtain ⟨fo', sl, nt', S1, S2⟩ := S.afterT nt go'
    refine hQ v h' tk' (q h' v fo' sl nt' S1 S2 (fun b o e nd => go.K b o (by simp) (fun hm => ?_) e) post)
    obtain ⟨o2, e2, es, n, q⟩ := hok.mem hm
    rw [e] at e2; cases e2
    exact nd _ _ q
end

/-! ## _law_row_right -/
theorem pv_boolC {c : Cx} {h : Heap} {b : Bool} {k : Nat} {pos : Pos} : PV c h (.Constant (.bool b) k pos) (.bool b) := ⟨fun tk Q hQ => e_bool (hQ _ _ _ ⟨rfl, rfl⟩)⟩
theorem rd_pv {c : Cx} {h : Heap} {e : Expr} {s : Str} {t : Tok} (q : PV c h e (.str s t)) : RD c h e (.str s) := q.mono fun _ _ p => ⟨⟨[], by rw [p.1]; exact .str _ _⟩, p.2⟩
theorem St.keepND {g h h' r : Heap} {L : Addr} {ns : List Str} {vs vs' : List (Option Value)} {led : List (Addr × Obj)} (S : St g L ns vs led r h) (S' : St g L ns vs' led h h') : ∀ b o, h.get? b = some o → (∀ es n, o.data ≠ .dict es n) → h'.get? b = some o := fun b o e nd => by
  by_cases hm : b ∈ led.map (·.1)
  · obtain ⟨p, hp, rfl⟩ := List.mem_map.mp hm
    rw [(S.N p hp).1] at e; cases e
    exact (S'.N p hp).1
  · refine S'.go.K b o (fun q => ?_) e
    rcases List.mem_cons.mp q with rfl | q
    · obtain ⟨o2, es, ep, e2, d, _⟩ := S.F.ns
      rw [e] at e2; cases e2
      exact nd _ _ d
    · exact hm q
/-- what parts holds -/
def PartsIn (ts os : List (Int × Int)) (fa : Addr) (h : Heap) (pa : Addr) : Prop := (judgedF ts os).2.1 = Str.ofString "well" → Ex4 fun p1 p2 p3 t =>
  IsTup h pa [Value.ref p1, .ref p2, .ref p3, .int ((idx9 (paramsF ts (judgedF ts os).2.2) (paramsF ts (judgedF ts os).2.2).length).length : Nat) t, .bool (decide (runF ts 0 (judgedF ts os).2.2 = 1)), .ref fa].toArray ∧
    TT h p1 (paramsF ts (judgedF ts os).2.2) ∧ TT h p2 (stretchF ts ((judgedF ts os).2.2 + 1) 5 ((judgedF ts os).1 - ((judgedF ts os).2.2 + 1))) ∧ TTT h p3 (delimsF (paramsF ts (judgedF ts os).2.2))
theorem PartsIn.mono {ts os : List (Int × Int)} {fa pa : Addr} {h h' : Heap} (q : PartsIn ts os fa h pa) (k : TupK h h') : PartsIn ts os fa h' pa := fun e => by
  obtain ⟨p1, p2, p3, t, it, a, b, c⟩ := q e
  exact ⟨p1, p2, p3, t, Mine.IsTup.mono it k, a.mono k, b.mono k, c.mono k⟩
def RRX (ts os : List (Int × Int)) (src oa fa ta pa : Addr) (il io : Bool) (sp wy hd : Value) (xs : List Value) (n : Nat) (o5 : Obj) (fo : List (Addr × Obj)) : Nat → List (Option Value) → List (Addr × Obj) → Heap → Prop := fun _ vs led h => Ex4 fun u1 u2 u3 fo' =>
  vs = [some (.ref src), some (.ref oa), some (.ref fa), some (.ref ta), some sp, some wy, some hd, some (.ref pa), u1, u2, u3] ∧ led = [(ta, listOf xs.toArray n), (src, o5)] ++ fo' ∧ Sl fo fo' ∧ (∀ p ∈ fo', Ex2 fun es n => p.2.data = .dict es n) ∧
  TT h oa os ∧ IsTup h fa [Value.bool il, .bool io].toArray ∧ Toks h xs ts ∧ PartsIn ts os fa h pa
theorem four_vals {sp ln d : Nat} {i1 i2 i3 i4 : Tok} {i : Nat} {v : Value} (e : [Value.int (sp : Nat) i1, .int ((sp : Int) + 1) i2, .int (ln : Nat) i3, .int (d : Nat) i4][i]? = some v) : Ex2 fun (z : Nat) (t : Tok) => v = .int (z : Nat) t := by
  match i, e with
  | 0, e => cases e; exact ⟨_, _, rfl⟩
  | 1, e => cases e; exact ⟨sp + 1, _, rfl⟩
  | 2, e => cases e; exact ⟨_, _, rfl⟩
  | 3, e => cases e; exact ⟨_, _, rfl⟩
theorem row_right_spec (hlaw : ∀ ts os il io size, ts.all tokV = true → toldD (defF os (ts.take size)) il io = dueD ts os il io size) (hwell : ∀ ts os, (judgedF ts os).2.1 = Str.ofString "well" → (judgedF ts os).2.2 + runF ts 0 (judgedF ts os).2.2 ≤ ts.length ∧ (judgedF ts os).1 ≤ ts.length)
    {w : World} {h : Heap} {src : Addr} {o : Obj} (so : SrcO o 0) : SpecT w 354 [.ref src] [(src, o)] 8 76 h fun _ v => v = .bool true := by
  refine specT_K (D := 7) (U := 73) [Str.ofString "source", Str.ofString "outers", Str.ofString "flags", Str.ofString "tokens", Str.ofString "spot", Str.ofString "way", Str.ofString "head", Str.ofString "parts", Str.ofString "size", Str.ofString "given", Str.ofString "due"] 1 rfl (by kernel_rfl) (fun _ _ => BindsTo.of_eq rfl) rfl (by decide +kernel) (by decide) (by decide +kernel) (by decide +kernel) (by decide +kernel) (by simp) (by simpa using so.notT) ?_
  intro c mg mb g h₁ L outer fo R hw C fr ef FO fnd hk gfr S hR
  dsimp only at C
  subst hw
  have hsl : sizeLine = 16777216 := sizeLine_eq
  have kd : c.env.scope.kind ≠ .module := by rw [C.fe.kind]; decide
  have S0 : DS src g L [Str.ofString "source", Str.ofString "outers", Str.ofString "flags", Str.ofString "tokens", Str.ofString "spot", Str.ofString "way", Str.ofString "head", Str.ofString "parts", Str.ofString "size", Str.ofString "given", Str.ofString "due"] [some (.ref src), none, none, none, none, none, none, none, none, none, none] (fun o => (src, o) :: fo) 0 h h₁ := ⟨⟨o, so, S⟩, fun o => .head⟩
  clear S hk so
  refine xs_assignD (src := src) (g := g) (ns := [Str.ofString "source", Str.ofString "outers", Str.ofString "flags", Str.ofString "tokens", Str.ofString "spot", Str.ofString "way", Str.ofString "head", Str.ofString "parts", Str.ofString "size", Str.ofString "given", Str.ofString "due"]) (vs := [some (.ref src), none, none, none, none, none, none, none, none, none, none]) (vs' := fun v => [some (.ref src), some v, none, none, none, none, none, none, none, none, none]) (B' := 2) (F := fun o => (src, o) :: fo) (r := h) (X := fun v h' => Ex2 fun oa os => v = .ref oa ∧ TT h' oa os) C
    (ev_ifexpE (te_eq (ev_takeP C (by decide) (by decide) S0 (by (repeat' (first | exact Kd.head | apply Kd.tail))) (pv_locD C S0 (by (repeat' (first | exact Kd.head | apply Kd.tail))) (by (repeat' (first | exact Loc.head | apply Loc.tail)))) pi_const (by decide) (by decide) (by decide) (fun d t h₂ _ _ S1 _ => ⟨d, t, rfl, 1, pi_const, ?_⟩) (fun _ => rfl) fun _ => rfl) rfl)) (by (repeat' (first | exact Kd.head | apply Kd.tail))) (fun v => by (repeat' (first | exact SetL.head | apply SetL.tail))) rfl fun v h₂ h₃ hx S3 S4 => ?_
  · unfold IfeQ
    split
    · refine (tt_two (n1 := 0) (n2 := 1) S1 (et_const rfl (by decide +kernel)) (et_tok C (by decide) (by decide) (by (repeat' (first | exact Kd.head | apply Kd.tail))) (gl_law_any _) (fn_law_any _) (fun h B o so hB => any_spec so hB) (by (repeat' (first | exact Kd.head | apply Kd.tail))) (by (repeat' (first | exact Loc.head | apply Loc.tail)))) (by decide) (by decide) (fun _ => rfl) fun _ => rfl).mono fun v h' p => ?_
      obtain ⟨a, t, t2, rfl, tt, S2⟩ := p
      exact ⟨⟨a, _, rfl, tt⟩, S2⟩
    · refine (tt_one (n1 := 0) S1 (et_const rfl (by decide +kernel)) (by decide) fun _ => rfl).mono fun v h' p => ?_
      obtain ⟨a, t, rfl, tt, S2⟩ := p
      exact ⟨⟨a, _, rfl, tt⟩, S2.mono (by decide)⟩
  obtain ⟨oa, os, rfl, tO⟩ := hx
  have tO := tO.mono S3.tup
  clear S0 S3
  refine xs_assignD (src := src) (g := g) (ns := [Str.ofString "source", Str.ofString "outers", Str.ofString "flags", Str.ofString "tokens", Str.ofString "spot", Str.ofString "way", Str.ofString "head", Str.ofString "parts", Str.ofString "size", Str.ofString "given", Str.ofString "due"]) (vs := [some (.ref src), some (.ref oa), none, none, none, none, none, none, none, none, none]) (vs' := fun v => [some (.ref src), some (.ref oa), some v, none, none, none, none, none, none, none, none]) (B' := 4) (F := fun o => (src, o) :: fo) (r := h) (X := fun v h' => Ex3 fun fa il io => v = .ref fa ∧ IsTup h' fa [Value.bool il, .bool io].toArray ∧ TT h' oa os) C
    (ev_tuple (ea_cons (ev_takeEq C (by decide) (by decide) S4 (by (repeat' (first | exact Kd.head | apply Kd.tail))) (pv_locD C S4 (by (repeat' (first | exact Kd.head | apply Kd.tail))) (by (repeat' (first | exact Loc.head | apply Loc.tail)))) pi_const (by decide) (by decide) (by decide) (fun _ => pi_const) (fun il h₅ S5 k5 => ea_cons (ev_takeEq C (by decide) (by decide) S5 (by (repeat' (first | exact Kd.head | apply Kd.tail))) (pv_locD C S5 (by (repeat' (first | exact Kd.head | apply Kd.tail))) (by (repeat' (first | exact Loc.head | apply Loc.tail)))) pi_const (by decide) (by decide) (by decide) (fun _ => pi_const) (fun io h₆ S6 k6 => ?_) (fun _ => rfl) (fun _ => rfl) rfl) rfl) (fun _ => rfl) (fun _ => rfl) rfl) rfl)) (by (repeat' (first | exact Kd.head | apply Kd.tail))) (fun v => by (repeat' (first | exact SetL.head | apply SetL.tail))) rfl fun v h₅ h₆ hx S5 S6 => ?_
  · obtain ⟨⟨o6, so6, S6⟩, up6⟩ := S6
    exact ea_nil ⟨_, _, _, _, _, _, S6, by simp [hsl], fun a h₇ na it S7 S7' => ⟨⟨a, il, io, rfl, it, ((tO.mono k5).mono k6).mono S7'.go.T⟩, ⟨o6, so6, S7⟩, up6⟩⟩
  obtain ⟨fa, il, io, rfl, itF, tO⟩ := hx
  have itF := Mine.IsTup.mono itF S5.tup
  have tO := tO.mono S5.tup
  clear S4 S5
  obtain ⟨led6, So⟩ := S6.st
  refine xs_let (ns := [Str.ofString "source", Str.ofString "outers", Str.ofString "flags", Str.ofString "tokens", Str.ofString "spot", Str.ofString "way", Str.ofString "head", Str.ofString "parts", Str.ofString "size", Str.ofString "given", Str.ofString "due"]) C (by (repeat' (first | exact Kd.head | apply Kd.tail))) rfl (EV.mono (ev_drawList (D' := 7) (U' := 21) (m := 130) (n := 300) C (by decide) (by decide) S6 (pv_glob C So (by (repeat' (first | exact Kd.head | apply Kd.tail))) (gl_law_row _)) (fn_law_row _) (ea_cons (EV.pv (pv_locD C S6 (by (repeat' (first | exact Kd.head | apply Kd.tail))) (by (repeat' (first | exact Loc.head | apply Loc.tail)))) (ea_nil ⟨rfl, fun o so => row_spec so (by decide)⟩)) rfl) rfl) fun v h₇ p => ?_)
  obtain ⟨ta, xs, n, ts, rfl, nta, tt, tv, tl, ⟨⟨o5, so5, S7⟩, _⟩, S7'⟩ := p
  refine ⟨_, _, _, _, S7, by (repeat' (first | exact SetL.head | apply SetL.tail)), fun h₈ S8 S8' => ?_⟩
  have k8 := S7'.tup.trans S8'.go.T
  have tO := tO.mono k8
  have itF := Mine.IsTup.mono itF k8
  have tt := tt.mono S8'.go.T
  have hxl := tt.length
  clear S6 So S7 S7' S8' k8 nta
  refine xs_unpack (ns := [Str.ofString "source", Str.ofString "outers", Str.ofString "flags", Str.ofString "tokens", Str.ofString "spot", Str.ofString "way", Str.ofString "head", Str.ofString "parts", Str.ofString "size", Str.ofString "given", Str.ofString "due"]) (L := L) (g := g) C (.cons (by (repeat' (first | exact Kd.head | apply Kd.tail))) (.cons (by (repeat' (first | exact Kd.head | apply Kd.tail))) (.cons (by (repeat' (first | exact Kd.head | apply Kd.tail))) .nil))) (ev_call2 C S8 (by (repeat' (first | exact Kd.head | apply Kd.tail))) (gl_law_judged _) (fn_law_judged _) (pv_loc C S8 (by (repeat' (first | exact Kd.head | apply Kd.tail))) (by (repeat' (first | exact Loc.head | apply Loc.tail)))) (pv_loc C S8 (by (repeat' (first | exact Kd.head | apply Kd.tail))) (by (repeat' (first | exact Loc.head | apply Loc.tail)))) (tr_spec (judged_spec ⟨xs, n, (S8.N _ (.head _)).1, tt⟩ tO (by omega)) C S8 (by decide) (by decide) (by simp) fun h₉ v go post => ?_) (fun _ => rfl) fun _ => rfl) rfl rfl
  obtain ⟨tp, t1, t2, t3, rfl, it⟩ := post
  refine ⟨tp, _, _, _, _, _, rfl, it, S8.after0 go, .cons (by (repeat' (first | exact SetL.head | apply SetL.tail))) (.cons (by (repeat' (first | exact SetL.head | apply SetL.tail))) (.cons (by (repeat' (first | exact SetL.head | apply SetL.tail))) .nil)), rfl, fun h₁₀ S10 S10' => ?_⟩
  have k10 := go.T.trans S10'.go.T
  have tO := tO.mono k10
  have itF := Mine.IsTup.mono itF k10
  have tt := tt.mono k10
  clear S8 S10' k10 go it
  refine xs_let (ns := [Str.ofString "source", Str.ofString "outers", Str.ofString "flags", Str.ofString "tokens", Str.ofString "spot", Str.ofString "way", Str.ofString "head", Str.ofString "parts", Str.ofString "size", Str.ofString "given", Str.ofString "due"]) C (by (repeat' (first | exact Kd.head | apply Kd.tail))) rfl (EV.mono (P := fun v h' => ∃ pa, v = .ref pa ∧ PartsIn ts os fa h' pa ∧ St g L [Str.ofString "source", Str.ofString "outers", Str.ofString "flags", Str.ofString "tokens", Str.ofString "spot", Str.ofString "way", Str.ofString "head", Str.ofString "parts", Str.ofString "size", Str.ofString "given", Str.ofString "due"] [some (.ref src), some (.ref oa), some (.ref fa), some (.ref ta), some (.int ((judgedF ts os).1 : Nat) t1), some (.str (judgedF ts os).2.1 t2), some (.int ((judgedF ts os).2.2 : Nat) t3), none, none, none, none] ((ta, listOf xs.toArray n) :: (src, o5) :: fo) h h' ∧ TupK h₁₀ h') (ev_ifexp (pt_eqD C (by decide) (rd_pv (pv_loc C S10 (by (repeat' (first | exact Kd.head | apply Kd.tail))) (by (repeat' (first | exact Loc.head | apply Loc.tail))))) rd_str (shaped_str (judged_ok ..)) (shaped_str (by decide +kernel)) rfl) (fun q => ?_) fun q => ?_) fun v h₁₁ p => ?_)
  · rw [eqv_str] at q
    have q := of_decide_eq_true q
    obtain ⟨w1, w2⟩ := hwell ts os q
    refine ev_binG (ev_call (pv_glob C S10 (by (repeat' (first | exact Kd.head | apply Kd.tail))) (gl_law_macro _)) (fn_law_macro _) C S10 (ea_cons (EV.pv (pv_loc C S10 (by (repeat' (first | exact Kd.head | apply Kd.tail))) (by (repeat' (first | exact Loc.head | apply Loc.tail)))) (ea_cons (EV.pv (pv_loc C S10 (by (repeat' (first | exact Kd.head | apply Kd.tail))) (by (repeat' (first | exact Loc.head | apply Loc.tail)))) (ea_cons (EV.pv (pv_loc C S10 (by (repeat' (first | exact Kd.head | apply Kd.tail))) (by (repeat' (first | exact Loc.head | apply Loc.tail)))) (ea_nil ⟨S10.F.keep, tr_spec (macro_spec ⟨xs, n, (S10.N _ (.head _)).1, tt⟩ w1 w2 (by omega)) C S10 (by decide) (by decide) (by simp) fun h₁₁ v go post => ?_⟩)) rfl)) rfl)) rfl) rfl)
    obtain ⟨tp, pa, ba, da, t, rfl, it, tp1, tp2, tp3⟩ := post
    have S11 := S10.after0 go
    refine ev_tuple (ea_cons (EV.pv (pv_loc C S11 (by (repeat' (first | exact Kd.head | apply Kd.tail))) (by (repeat' (first | exact Loc.head | apply Loc.tail)))) (ea_nil ⟨_, _, _, _, _, _, S11, by simp [hsl], fun ua h₁₂ nua itu S12 S12' => ?_⟩)) rfl)
    refine tr_catT S12 (Mine.IsTup.mono it S12'.go.T) itu (by simp) (by simp) (by simp [hsl]) fun d h₁₃ nd itd S13 S13' => ⟨d, rfl, fun _ => ?_, S13, (go.T.trans S12'.go.T).trans S13'.go.T⟩
    have k := S12'.go.T.trans S13'.go.T
    exact ⟨pa, ba, da, t, itd, tp1.mono k, tp2.mono k, tp3.mono k⟩
  · rw [eqv_str] at q
    exact ev_tuple (ea_nil ⟨_, _, _, _, _, _, S10, by simp [hsl], fun ua h₁₂ nua itu S12 S12' => ⟨ua, rfl, fun e => absurd e (of_decide_eq_false q), S12, S12'.go.T⟩⟩)
  obtain ⟨pa, rfl, pin, S11, k11⟩ := p
  refine ⟨_, _, _, _, S11, by (repeat' (first | exact SetL.head | apply SetL.tail)), fun h₁₂ S12 S12' => ?_⟩
  have k12 := k11.trans S12'.go.T
  have tO := tO.mono k12
  have itF := Mine.IsTup.mono itF k12
  have tt := tt.mono k12
  have pin := pin.mono S12'.go.T
  clear S10 S11 S12' k11 k12
  have hTs : ∀ z, (ts.take z).length = min z ts.length := fun z => List.length_take
  refine xs_forG (r := h) (ns := [Str.ofString "source", Str.ofString "outers", Str.ofString "flags", Str.ofString "tokens", Str.ofString "spot", Str.ofString "way", Str.ofString "head", Str.ofString "parts", Str.ofString "size", Str.ofString "given", Str.ofString "due"]) C (by (repeat' (first | exact Kd.head | apply Kd.tail))) (ev_list (ea_cons (EV.pi (pi_loc C S12 (by (repeat' (first | exact Kd.head | apply Kd.tail))) (by (repeat' (first | exact Loc.head | apply Loc.tail)))) fun i1 => ea_cons (EV.pi (pi_add (pi_loc C S12 (by (repeat' (first | exact Kd.head | apply Kd.tail))) (by (repeat' (first | exact Loc.head | apply Loc.tail)))) pi_const) fun i2 => ea_cons (EV.pi (ev_len C S12 (by (repeat' (first | exact Kd.head | apply Kd.tail))) (pv_loc C S12 (by (repeat' (first | exact Kd.head | apply Kd.tail))) (by (repeat' (first | exact Loc.head | apply Loc.tail)))) (isL (S12.N _ (.head _)).1) (by omega) rfl) fun i3 => ea_cons (ev_takeP (B := 304) (F := fun o => (ta, listOf xs.toArray n) :: (src, o) :: fo) C (by decide) (by decide) ⟨⟨o5, so5, S12⟩, fun o => .tail .head⟩ (by (repeat' (first | exact Kd.head | apply Kd.tail))) (pv_loc C S12 (by (repeat' (first | exact Kd.head | apply Kd.tail))) (by (repeat' (first | exact Loc.head | apply Loc.tail)))) (pi_add (ev_len C S12 (by (repeat' (first | exact Kd.head | apply Kd.tail))) (pv_loc C S12 (by (repeat' (first | exact Kd.head | apply Kd.tail))) (by (repeat' (first | exact Loc.head | apply Loc.tail)))) (isL (S12.N _ (.head _)).1) (by omega) rfl) pi_const) (by decide) (by omega) (by omega) (fun d t h₁₃ d0 d1 S13 S13' => ?_) (fun _ => rfl) fun _ => rfl) rfl) rfl) rfl) rfl)) fun _ => rfl
  have k13 := S13'.tup
  obtain ⟨⟨o6, so6, S13⟩, _⟩ := S13
  clear S13' S12 so5
  obtain ⟨dn, rfl⟩ : ∃ dn : Nat, d = (dn : Nat) := ⟨d.toNat, by omega⟩
  refine ea_nil ⟨_, _, _, _, _, _, S13, by simp [hsl], fun ia h₁₄ nia S14 S14' => ?_⟩
  have k14 := k13.trans S14'.go.T
  have S15 := S14.dropHead (S13.go.D _ nia)
  refine ⟨4, fun i v => _, _, _, RRX ts os src oa fa ta pa il io (.int ((judgedF ts os).1 : Nat) t1) (.str (judgedF ts os).2.1 t2) (.int ((judgedF ts os).2.2 : Nat) t3) xs n o6 fo, src_list C.hh (isL (S14.N _ (.head _)).1), fun b e => ?_, S15, ⟨none, none, none, fo, rfl, rfl, rfl, FO.nt, tO.mono k14, Mine.IsTup.mono itF k14, tt.mono k14, pin.mono k14⟩, ?_, ?_, ?_⟩
  · cases e
    have nd := S14.ld
    rw [List.map_cons, List.nodup_cons] at nd
    exact ⟨(S14.N _ (.head _)).2.1, nd.1⟩
  · rintro i vs led h h' ⟨u1, u2, u3, fo', e1, e2, sl, nt, tO, itF, tt, pin⟩ k
    exact ⟨u1, u2, u3, fo', e1, e2, sl, nt, tO.mono k, Mine.IsTup.mono itF k, tt.mono k, pin.mono k⟩
  · rintro i v vs led' h₂ T hi pv S2 ⟨u1, u2, u3, fo', rfl, rfl, sl, nt, tO, itF, tt, pin⟩ hN
    obtain ⟨z, tz, rfl⟩ := four_vals pv
    clear pv hR S13 S14 S14' S15 nia k13 k14 hi
    refine ⟨_, by (repeat' (first | exact SetL.head | apply SetL.tail)), fun h₃ S => ?_⟩
    have S : St g L [Str.ofString "source", Str.ofString "outers", Str.ofString "flags", Str.ofString "tokens", Str.ofString "spot", Str.ofString "way", Str.ofString "head", Str.ofString "parts", Str.ofString "size", Str.ofString "given", Str.ofString "due"] [some (.ref src), some (.ref oa), some (.ref fa), some (.ref ta), some (.int ((judgedF ts os).1 : Nat) t1), some (.str (judgedF ts os).2.1 t2), some (.int ((judgedF ts os).2.2 : Nat) t3), some (.ref pa), some (.int (z : Nat) tz), u2, u3] ((ta, listOf xs.toArray n) :: (src, o6) :: fo') h₂ h₃ := S
    have tO := tO.mono S.go.T
    have itF := Mine.IsTup.mono itF S.go.T
    have tt := tt.mono S.go.T
    have pin := pin.mono S.go.T
    refine xs_let (ns := [Str.ofString "source", Str.ofString "outers", Str.ofString "flags", Str.ofString "tokens", Str.ofString "spot", Str.ofString "way", Str.ofString "head", Str.ofString "parts", Str.ofString "size", Str.ofString "given", Str.ofString "due"]) C (by (repeat' (first | exact Kd.head | apply Kd.tail))) rfl (ev_slice (xs := xs) (pv_loc C S (by (repeat' (first | exact Kd.head | apply Kd.tail))) (by (repeat' (first | exact Loc.head | apply Loc.tail)))) (tr_none.mono ?_) (fun a => by with_unfolding_all rfl) fun a => by with_unfolding_all rfl)
    rintro vl h₄ ⟨rfl, rfl⟩
    refine tr_some (EV.pi (pi_loc C S (by (repeat' (first | exact Kd.head | apply Kd.tail))) (by (repeat' (first | exact Loc.head | apply Loc.tail)))) fun tu => ⟨_, _, _, _, _, _, none, some (z : Int), S, isL (S.N _ (.head _)).1, .none, .int _ _, by omega, fun ga h₅ nga S5 S5' => ?_⟩)
    rw [pk_to] at S5 S5'
    have nga := S.go.D _ nga
    refine ⟨_, _, _, _, S5, by (repeat' (first | exact SetL.head | apply SetL.tail)), fun h₆ S6 S6' => ?_⟩
    have k6 := S5'.go.T.trans S6'.go.T
    have tO := tO.mono k6
    have itF := Mine.IsTup.mono itF k6
    have tt := tt.mono k6
    have pin := pin.mono k6
    clear S S5 S5' S6' k6
    have hxt : (xs.take z).length = (ts.take z).length := by rw [List.length_take, List.length_take, hxl]
    have hzl : (xs.take z).length ≤ 130 := by rw [List.length_take]; omega
    have ttz := tt.take z
    refine xs_let (ns := [Str.ofString "source", Str.ofString "outers", Str.ofString "flags", Str.ofString "tokens", Str.ofString "spot", Str.ofString "way", Str.ofString "head", Str.ofString "parts", Str.ofString "size", Str.ofString "given", Str.ofString "due"]) C (by (repeat' (first | exact Kd.head | apply Kd.tail))) rfl (EV.mono (P := fun v h' => (∃ as, Reads h' v (dueD ts os il io z) as) ∧ St g L [Str.ofString "source", Str.ofString "outers", Str.ofString "flags", Str.ofString "tokens", Str.ofString "spot", Str.ofString "way", Str.ofString "head", Str.ofString "parts", Str.ofString "size", Str.ofString "given", Str.ofString "due"] [some (.ref src), some (.ref oa), some (.ref fa), some (.ref ta), some (.int ((judgedF ts os).1 : Nat) t1), some (.str (judgedF ts os).2.1 t2), some (.int ((judgedF ts os).2.2 : Nat) t3), some (.ref pa), some (.int (z : Nat) tz), some (.ref ga), u3] ((ga, listOf (xs.take z).toArray 0) :: (ta, listOf xs.toArray n) :: (src, o6) :: fo') h₂ h' ∧ TupK h₆ h') (ev_ifexp (pt_le (ev_len C S6 (by (repeat' (first | exact Kd.head | apply Kd.tail))) (pv_loc C S6 (by (repeat' (first | exact Kd.head | apply Kd.tail))) (by (repeat' (first | exact Loc.head | apply Loc.tail)))) (isL (S6.N _ (.head _)).1) (by omega) rfl) (pi_loc C S6 (by (repeat' (first | exact Kd.head | apply Kd.tail))) (by (repeat' (first | exact Loc.head | apply Loc.tail)))) rfl) (fun q => ev_str fun t => ⟨⟨[], ?_⟩, S6, .refl⟩) fun q => ev_ifexp (pt_neD C (by decide) (rd_pv (pv_loc C S6 (by (repeat' (first | exact Kd.head | apply Kd.tail))) (by (repeat' (first | exact Loc.head | apply Loc.tail))))) rd_str (shaped_str (judged_ok ..)) (shaped_str (by decide +kernel)) rfl) (fun q2 => EV.pv (pv_loc C S6 (by (repeat' (first | exact Kd.head | apply Kd.tail))) (by (repeat' (first | exact Loc.head | apply Loc.tail)))) ⟨⟨[], ?_⟩, S6, .refl⟩) fun q2 => ev_binG (EV.pv (pv_loc C S6 (by (repeat' (first | exact Kd.head | apply Kd.tail))) (by (repeat' (first | exact Loc.head | apply Loc.tail)))) (ev_tuple (ea_cons (ev_slice (xs := xs.take z) (pv_loc C S6 (by (repeat' (first | exact Kd.head | apply Kd.tail))) (by (repeat' (first | exact Loc.head | apply Loc.tail)))) (tr_some (EV.pi (pi_add (pi_loc C S6 (by (repeat' (first | exact Kd.head | apply Kd.tail))) (by (repeat' (first | exact Loc.head | apply Loc.tail)))) pi_const) fun tl => tr_none.mono ?_)) (fun a => by with_unfolding_all rfl) fun a => by with_unfolding_all rfl) rfl)))) fun v7 h₇ p => ?_)
    · have q := of_decide_eq_true q
      unfold dueD
      rw [if_pos (by omega)]; exact .str _ _
    · have q := of_decide_eq_false q
      rw [eqv_str] at q2
      unfold dueD
      rw [if_neg (by omega), if_pos (by simpa using q2)]; exact .str _ _
    · have q := of_decide_eq_false q
      rw [eqv_str] at q2
      have q2 : (judgedF ts os).2.1 = Str.ofString "well" := by simpa using q2
      rintro vu h₇ ⟨rfl, rfl⟩
      refine ⟨_, _, _, _, _, _, some ((((judgedF ts os).1 + 1 : Nat)) : Int), none, S6, isL (S6.N _ (.head _)).1, .int _ _, .none, by omega, fun ra h₈ nra S8 S8' => ea_nil ⟨_, _, _, _, _, _, S8, by simp [hsl], fun ua h₉ nua itu S9 S9' => ?_⟩⟩
      obtain ⟨p1, p2, p3, t, itp, tp1, tp2, tp3⟩ := (pin.mono S8'.go.T).mono S9'.go.T q2
      refine tr_catT S9 itp itu (by simp) (by simp) (by simp [hsl]) fun d h₁₀ nd itd S10 S10' => ⟨?_, S10.dropHead (S6.go.D _ nra), (S8'.go.T.trans S9'.go.T).trans S10'.go.T⟩
      rw [pk_from] at S10
      have k := S10'.go.T
      have ttd := (((ttz.drop ((judgedF ts os).1 + 1)).mono S8'.go.T).mono S9'.go.T).mono k
      unfold dueD
      rw [if_neg (by omega), if_neg (by simpa using q2)]
      exact full_reads itd (tp1.mono k) (tp2.mono k) (tp3.mono k) (Mine.IsTup.mono itF ((S8'.go.T.trans S9'.go.T).trans k)) (S10.N _ (.head _)).1 ttd
    obtain ⟨⟨as, rd⟩, S7, k7⟩ := p
    refine ⟨_, _, _, _, S7, by (repeat' (first | exact SetL.head | apply SetL.tail)), fun h₈ S8 S8' => ?_⟩
    have lay := (Bool.and_eq_true_iff.mp (shaped_due ts os il io z)).1
    have rd := Reads.but (S7.keepND S8') lay rd
    have k8 := k7.trans S8'.go.T
    have tO := tO.mono k8
    have itF := Mine.IsTup.mono itF k8
    have tt := tt.mono k8
    have pin := pin.mono k8
    have ttz := ttz.mono k8
    have hlaw := hlaw ts os il io z tv
    clear S6 S7 S8' k7 k8
    refine xs_ifE (te_or2 (te_cmp (ev_call (pv_glob C S8 (by (repeat' (first | exact Kd.head | apply Kd.tail))) (gl_law_told _)) (fn_law_told _) C S8 (ea_cons (EV.pv (pv_loc C S8 (by (repeat' (first | exact Kd.head | apply Kd.tail))) (by (repeat' (first | exact Loc.head | apply Loc.tail)))) (ea_cons (EV.pv (pv_loc C S8 (by (repeat' (first | exact Kd.head | apply Kd.tail))) (by (repeat' (first | exact Loc.head | apply Loc.tail)))) (ea_cons (EV.pv (pv_loc C S8 (by (repeat' (first | exact Kd.head | apply Kd.tail))) (by (repeat' (first | exact Loc.head | apply Loc.tail)))) (ea_nil ⟨S8.F.keep, tr_specT (led := [(ga, listOf (xs.take z).toArray 0), (ta, listOf xs.toArray n), (src, o6)]) (fo := fo') (told_spec ⟨xs.take z, 0, (S8.N _ (.head _)).1, ttz⟩ tO itF (List.all_eq_true.mpr fun t ht => List.all_eq_true.mp tv t (List.mem_of_mem_take ht)) (by omega)) C fr ef kd S8 (by decide) (by decide) (fun h' hh => FO.fr h' fun p hp => ?_) (sl.keys.trans FO.keys) nt fnd gfr fun h₉ v fo'' sl' nt' S9 S9' kp post => ?_⟩)) rfl)) rfl)) rfl) rfl) rfl))
    · obtain ⟨s, hs⟩ := sl.of hp
      obtain ⟨s2, e⟩ := hh _ hs
      exact ⟨s2, e⟩
    have S9 : St g L [Str.ofString "source", Str.ofString "outers", Str.ofString "flags", Str.ofString "tokens", Str.ofString "spot", Str.ofString "way", Str.ofString "head", Str.ofString "parts", Str.ofString "size", Str.ofString "given", Str.ofString "due"] [some (.ref src), some (.ref oa), some (.ref fa), some (.ref ta), some (.int ((judgedF ts os).1 : Nat) t1), some (.str (judgedF ts os).2.1 t2), some (.int ((judgedF ts os).2.2 : Nat) t3), some (.ref pa), some (.int (z : Nat) tz), some (.ref ga), some v7] ((ga, listOf (xs.take z).toArray 0) :: (ta, listOf xs.toArray n) :: (src, o6) :: fo'') h₂ h₉ := S9
    have k9 := S9'.go.T
    have tt := tt.mono k9
    have ttz := ttz.mono k9
    obtain ⟨as', rt⟩ := post
    rw [hlaw] at rt
    refine EV.pv (pv_loc C S9 (by (repeat' (first | exact Kd.head | apply Kd.tail))) (by (repeat' (first | exact Loc.head | apply Loc.tail)))) ((tr_neD C (by decide) rt (Reads.but kp lay rd) (shaped_due ..) (shaped_due ..)).mono fun v h₁₀ p => ?_)
    obtain ⟨rfl, rfl⟩ := p
    refine ⟨_, rfl, ?_⟩
    rw [eqv_shaped (shaped_due ..)]
    have tO := tO.mono k9
    have itF := Mine.IsTup.mono itF k9
    have pin := pin.mono k9
    clear rd rt kp S8 S9'
    show TE _ _ _ _
    refine te_cmp (EV.pv (pv_loc C S9 (by (repeat' (first | exact Kd.head | apply Kd.tail))) (by (repeat' (first | exact Loc.head | apply Loc.tail)))) (ev_slice (xs := xs) (pv_loc C S9 (by (repeat' (first | exact Kd.head | apply Kd.tail))) (by (repeat' (first | exact Loc.head | apply Loc.tail)))) (tr_none.mono ?_) (fun a => by with_unfolding_all rfl) fun a => by with_unfolding_all rfl)) rfl
    rintro vl h₁₁ ⟨rfl, rfl⟩
    refine tr_some (EV.pi (pi_loc C S9 (by (repeat' (first | exact Kd.head | apply Kd.tail))) (by (repeat' (first | exact Loc.head | apply Loc.tail)))) fun tu => ⟨_, _, _, _, _, _, none, some (z : Int), S9, isL (S9.N _ (.tail _ (.head _))).1, .none, .int _ _, by omega, fun ga2 h₁₂ nga2 S12 S12' => ?_⟩)
    rw [pk_to] at S12
    have k12 := S12'.go.T
    have ttz := ttz.mono k12
    refine (tr_neD C (by decide) (.list (S12.N _ (.tail _ (.head _))).1 rfl rfl (by exact ttz.reads)) (.list (S12.N _ (.head _)).1 rfl rfl (by exact ttz.reads)) (shaped_list (ts.take z)) (shaped_list (ts.take z))).mono fun v h₁₃ p => ?_
    obtain ⟨rfl, rfl⟩ := p
    refine ⟨_, rfl, ?_⟩
    rw [eqv_shaped (shaped_list _)]
    show XS _ _ [] _
    have ke : ((ta, listOf xs.toArray n) :: (src, o6) :: fo'').map (·.1) = ([(ta, listOf xs.toArray n), (src, o6)] ++ fo').map (·.1) := congrArg (fun l => ta :: src :: l) sl'.keys
    exact xs_thru (xs_nil (hN ((S12.dropHead (S9.go.D _ nga2)).dropHead nga) (fun a ha => by rw [ke]; exact ha) (fun a ha => .inl (by rw [← ke]; exact ha)) ⟨_, _, _, fo'', rfl, rfl, sl.trans sl', nt', tO.mono k12, Mine.IsTup.mono itF k12, tt.mono k12, pin.mono k12⟩))
  · rintro vs led' h₅ S5 _ ⟨u1, u2, u3, fo', rfl, rfl, sl, nt, _⟩
    refine xs_ret (EV.pv pv_boolC (hR S5.F.keep S5.go.D (fun p hp => ?_) rfl))
    obtain ⟨s, hs⟩ := sl.of hp
    exact ⟨s, (S5.N _ (List.mem_append_right _ hs)).1⟩

/-! ## law -/
theorem St.afterR {g h h' r : Heap} {L a : Addr} {ns : List Str} {vs : List (Option Value)} {led : List (Addr × Obj)} {o : Obj} (S : St g L ns vs ((a, o) :: led) r h) (na : r.get? a = none) (k : GoT [a] [L] h h') : St g L ns vs led r h' := by
  obtain ⟨oL, es, ep, eL, dL, q⟩ := S.F.ns
  obtain ⟨slL, eL'⟩ := k.S L (.head _) oL eL
  have nd := S.ld
  rw [List.map_cons, List.nodup_cons] at nd
  have kk : ∀ b o, b ≠ a → b ≠ L → h.get? b = some o → h'.get? b = some o := fun b o n1 n2 e => k.K b o (fun hm => n1 (List.mem_singleton.mp hm)) (fun hm => n2 (List.mem_singleton.mp hm)) e
  refine ⟨S.nd, ⟨⟨_, es, ep, eL', dL, q⟩, fun b o e => kk b o (fun hm => ?_) (fun hm => ?_) (S.F.keep b o e), S.F.above⟩, fun p hp => ?_, nd.2, fun p hp => S.lt p (.tail _ hp), ⟨fun b o n e => ?_, fun b e => S.go.D b (k.D b e), fun b o e t => ?_⟩⟩
  · rw [hm, (S.N _ (.head _)).2.2] at e; cases e
  · rw [hm, Fr.lnone S.F] at e; cases e
  · have N := S.N p (.tail _ hp)
    exact ⟨kk _ _ (fun q => nd.1 (by show a ∈ _; rw [← q]; exact List.mem_map_of_mem hp)) N.2.1 N.1, N.2⟩
  · have n1 : b ≠ a := fun q => by rw [q, na] at e; cases e
    have n2 : b ≠ L := fun q => n (q ▸ .head _)
    exact kk b o n1 n2 (S.go.K b o (fun hm => by
      rcases List.mem_cons.mp hm with q | q
      · exact n2 q
      · rcases List.mem_cons.mp q with q | q
        · exact n1 q
        · exact n (.tail _ q)) e)
  · have n1 : b ≠ a := fun q => by rw [q, na] at e; cases e
    have e2 := S.go.T b o e t
    refine kk b o n1 (fun q => ?_) e2
    rw [q, eL] at e2; cases e2
    exact t.nd _ _ dL
/-- a call, at the top, of a def that catches; it may change the object at a -/
theorem tr_specR {c : Cx} {L a fa : Addr} {sn : List (Str × NameKind)} {mg mb : Str → Option Value} {g h r : Heap} {D U D' U' : Nat} {ns : List Str} {vs : List (Option Value)} {led : List (Addr × Obj)} {o : Obj} {xs : List Value} {Post : Heap → Value → Prop} {P : Value → Heap → Prop} (sp : SpecT c.w fa xs [(a, o)] D' U' h Post) (C : Fc c L sn mg mb g D U) (fr : c.A.frames = some [c.env]) (ef : c.env.frame = some L)
    (S : St g L ns vs ((a, o) :: led) r h) (na : r.get? a = none) (hd : D' ≤ D) (hu : U' ≤ U) (q : ∀ h' v, St g L ns vs led r h' → Post h' v → P v h') : TR c h (call (.ref fa) xs) P := by
  refine ⟨fun tk Q hQ => ?_⟩
  have kd : c.env.scope.kind ≠ .module := by rw [C.fe.kind]; decide
  have e1 : frs [c.env] = [L] := frs_cons ef
  have hok : FrOK h [c.env] := by
    obtain ⟨o, es, ep, ho, hd⟩ := S.F.ns
    exact .cons kd ef ho ⟨es, ep, hd.1⟩ .nil
  refine sp.run c.prog c.A c.s tk mg mb g [c.env] _ _ C.hh (by have := C.hd; omega) (by have := C.hu; omega) C.G S.F.keep (fun p hp => ?_) fr hok (by rw [e1]; simp) (fun p hp => ?_) (fun b hb => ?_) fun h' tk' v go post => hQ _ _ _ (q h' v (S.afterR na (e1 ▸ go)) post)
  · rw [List.mem_singleton.mp hp]
    exact ⟨(S.N _ (.head _)).1, (S.N _ (.head _)).2.2⟩
  · rw [List.mem_singleton.mp hp, e1]
    exact fun hm => (S.N _ (.head _)).2.1 (List.mem_singleton.mp hm)
  · rw [e1] at hb
    rw [List.mem_singleton.mp hb]
    exact Fr.lnone S.F
theorem IV.of {xs : List Value} {is : List Int} (h : IntsAre xs is) : IV xs is := by
  induction h with
  | nil => exact .nil
  | cons n t _ ih => exact .cons ih
theorem top_run {prog : Program} {w : World} {A : Around} {env : Env} {s : Shared} {g h : Heap} {L : Addr} {tk : Nat} {body : List Stmt} {Q : Flow → Shared → Prop} {E : Value → Shared → Prop} {mg mb : Str → Option Value} {sn : List (Str × NameKind)} (D U : Nat) (G : Gd w mg mb g) (fe : FnEnv env L sn) (hh : A.handled = none) (hd : A.depth + D < recursionLimit) (hu : A.units + U < cLine) (fr : A.frames = some [env]) (ef : env.frame = some L)
    (hx : ∀ c : Cx, c.w = w → Fc c L sn mg mb g D U → c.A.frames = some [c.env] → c.env.frame = some L → XS c h body fun f h' => f = .ret (.bool true) ∧ ∃ m, Fr g L h' m)
    (hQ : ∀ h' tk' m, Fr g L h' m → Q (.ret (.bool true)) (mk s h' tk')) : wpAny (model prog w) A (execs body env) Q E (mk s h tk) := by
  refine wpAny_mono ((hx ⟨prog, w, A, env, s, fun _ _ => False⟩ rfl ⟨hh, hd, hu, G, fe, PassesOwn.never⟩ fr ef).run tk (fun f s' => Ex2 fun h' tk' => s' = mk s h' tk' ∧ f = .ret (.bool true) ∧ ∃ m, Fr g L h' m) fun f h' tk' p => ⟨h', tk', rfl, p⟩) (fun f s' q => ?_) fun _ _ q => q.elim
  obtain ⟨h', tk', rfl, rfl, m, F⟩ := q
  exact hQ h' tk' m F

/-! ## the plain law: places -/
def sel (P : Nat → Bool) (n : Nat) : List Nat := (List.range n).filter P
def cnt (P : Nat → Bool) (n : Nat) : Nat := (sel P n).length
section
variable {P : Nat → Bool} {n p q j : Nat}
theorem sel_succ (P : Nat → Bool) (n : Nat) : sel P (n + 1) = sel P n ++ (if P n then [n] else []) := filter_snoc P n
theorem cnt_succ (P : Nat → Bool) (n : Nat) : cnt P (n + 1) = cnt P n + if P n then 1 else 0 := by
  unfold cnt
  rw [sel_succ, List.length_append]
  split <;> rfl
theorem cnt_mono (h : p ≤ q) : cnt P p ≤ cnt P q := by
  induction q with
  | zero => rw [Nat.le_zero.mp h]; exact Nat.le_refl _
  | succ q ih =>
    rcases Nat.lt_or_ge q p with z | z
    · rw [Nat.le_antisymm h z]; exact Nat.le_refl _
    · rw [cnt_succ]; exact Nat.le_trans (ih z) (Nat.le_add_right _ _)
theorem cnt_lt (h : p < q) (hp : P p = true) : cnt P p < cnt P q := by
  have := cnt_mono (P := P) (p := p + 1) (q := q) h
  rw [cnt_succ, if_pos hp] at this
  exact this
theorem sel_inv (n : Nat) : ∀ {j p : Nat}, (sel P n)[j]? = some p → P p = true ∧ p < n ∧ cnt P p = j := by
  induction n with
  | zero => intro j p h; cases h
  | succ n ih =>
    intro j p h
    rw [sel_succ] at h
    rcases Nat.lt_or_ge j (sel P n).length with z | z
    · rw [List.getElem?_append_left z] at h
      obtain ⟨a, b, c⟩ := ih h
      exact ⟨a, Nat.lt_succ_of_lt b, c⟩
    · rw [List.getElem?_append_right z] at h
      split at h
      · rename_i hn
        cases e : j - (sel P n).length with
        | zero =>
          rw [e] at h
          cases h
          exact ⟨hn, Nat.lt_succ_self _, Nat.le_antisymm z (Nat.sub_eq_zero_iff_le.mp e)⟩
        | succ k => rw [e] at h; cases h
      · cases h
theorem sel_get (hp : P p = true) (h : p < n) : (sel P n)[cnt P p]? = some p := by
  have hl : cnt P p < (sel P n).length := cnt_lt h hp
  obtain ⟨x, hx⟩ : ∃ x, (sel P n)[cnt P p]? = some x := ⟨_, List.getElem?_eq_getElem hl⟩
  obtain ⟨a, b, c⟩ := sel_inv n hx
  rcases Nat.lt_trichotomy x p with z | z | z
  · exact absurd c (Nat.ne_of_lt (cnt_lt z a))
  · rw [hx, z]
  · exact absurd c (Nat.ne_of_gt (cnt_lt z hp))
theorem cnt_zero (h : ∀ x, x < n → P x = false) : cnt P n = 0 := by
  unfold cnt sel
  rw [List.filter_eq_nil_iff.mpr]; rfl
  intro a ha
  rw [h a (List.mem_range.mp ha)]; decide
/-- the first of the places -/
theorem sel_first (hp : P p = true) (h : p < n) (hz : ∀ x, x < p → P x = false) : ∃ l, sel P n = p :: l := by
  have := sel_get hp h
  rw [cnt_zero hz] at this
  cases e : sel P n with
  | nil => rw [e] at this; cases this
  | cons a l => rw [e] at this; cases this; exact ⟨l, rfl⟩
theorem sel_cons {a : Nat} {l : List Nat} (e : sel P n = a :: l) : P a = true ∧ a < n ∧ ∀ x, x < a → P x = false := by
  obtain ⟨h1, h2, h3⟩ := sel_inv (P := P) n (j := 0) (p := a) (by rw [e]; rfl)
  refine ⟨h1, h2, fun x hx => ?_⟩
  cases q : P x with
  | false => rfl
  | true =>
    have := cnt_lt hx q
    rw [h3] at this
    exact absurd this (Nat.not_lt_zero _)
theorem sel_nil (e : sel P n = []) : ∀ x, x < n → P x = false := fun x hx => by
  cases q : P x with
  | false => rfl
  | true =>
    have := sel_get q hx
    rw [e] at this
    cases this
end
section
variable (ts : List (Int × Int))
theorem leftsTo_sel (n : Nat) : leftsTo ts n = sel (fun i => isK 1 ts[i]?) n := rfl
theorem rightsTo_sel (l0 n : Nat) : rightsTo ts l0 n = (sel (fun i => isK 2 ts[l0 + i]?) n).map (l0 + ·) := by
  unfold rightsTo sel
  rw [List.filter_map]; rfl
theorem isK_iff {k : Int} {t : Int × Int} : isK k (some t) = decide (t.1 = k) := by
  unfold isK
  show decide (some t.1 = some k) = _
  exact decide_eq_decide.mpr ⟨fun h => Option.some.inj h, fun h => by rw [h]⟩
theorem head_facts : headF ts ≤ ts.length ∧ (∀ x, x < headF ts → isK 1 ts[x]? = false) ∧ (headF ts < ts.length → isK 1 ts[headF ts]? = true) := by
  unfold headF leftsF
  rw [leftsTo_sel]
  cases e : sel (fun i => isK 1 ts[i]?) ts.length with
  | nil => exact ⟨Nat.le_refl _, sel_nil e, fun h => absurd h (Nat.lt_irrefl _)⟩
  | cons a l =>
    obtain ⟨h1, h2, h3⟩ := sel_cons e
    exact ⟨Nat.le_of_lt h2, h3, fun _ => h1⟩
/-- left braces ahead of p; right ones from the head on -/
def Lc (p : Nat) : Nat := cnt (fun i => isK 1 ts[i]?) p
def Rc (q : Nat) : Nat := cnt (fun i => isK 2 ts[headF ts + i]?) q
theorem Lc_succ (p : Nat) : Lc ts (p + 1) = Lc ts p + if isK 1 ts[p]? then 1 else 0 := cnt_succ _ p
theorem Rc_succ (q : Nat) : Rc ts (q + 1) = Rc ts q + if isK 2 ts[headF ts + q]? then 1 else 0 := cnt_succ _ q
theorem isK_lt {k : Int} {x : Nat} (h : isK k ts[x]? = true) : x < ts.length := by
  rcases Nat.lt_or_ge x ts.length with q | q
  · exact q
  · rw [List.getElem?_eq_none q] at h
    simp [isK] at h
theorem lefts_gt {i e : Nat} (hi : i ≤ Lc ts ts.length) (he : e < ts.length) : e < (leftsF ts).getD i 0 ↔ Lc ts (e + 1) ≤ i := by
  have hl : (leftsTo ts ts.length).length = Lc ts ts.length := rfl
  unfold leftsF
  rw [List.getD_eq_getElem?_getD]
  rcases Nat.lt_or_ge i (leftsTo ts ts.length).length with z | z
  · rw [List.getElem?_append_left z]
    obtain ⟨x, hx⟩ : ∃ x, (leftsTo ts ts.length)[i]? = some x := ⟨_, List.getElem?_eq_getElem z⟩
    rw [hx]
    obtain ⟨a, b, c⟩ := sel_inv ts.length hx
    show e < x ↔ _
    constructor
    · intro h
      rw [← c]
      exact cnt_mono h
    · intro h
      rcases Nat.lt_or_ge e x with q | q
      · exact q
      · have := cnt_lt (P := fun i => isK 1 ts[i]?) (Nat.lt_succ_of_le q) a
        rw [c] at this
        exact absurd h (Nat.not_le.mpr this)
  · rw [List.getElem?_append_right z]
    have e1 : i - (leftsTo ts ts.length).length = 0 := by omega
    rw [e1]
    show e < ts.length ↔ _
    refine ⟨fun _ => Nat.le_trans (cnt_mono he) (by rw [hl] at z; exact z), fun _ => he⟩
theorem ends_cond {j q : Nat} (hq : headF ts + q < ts.length) (hk : isK 2 ts[headF ts + q]? = true) (hj : Rc ts q = j) : (headF ts + q < (leftsF ts).getD (min (j + 1) ((leftsF ts).length - 1)) 0) ↔ Lc ts (headF ts + q) ≤ Rc ts q + 1 := by
  have hl : (leftsF ts).length = Lc ts ts.length + 1 := by
    unfold leftsF
    rw [List.length_append]; rfl
  have h1 : isK 1 ts[headF ts + q]? = false := by
    revert hk
    unfold isK
    cases ts[headF ts + q]? with
    | none => exact fun h => by simp at h
    | some t => simp only [Option.map_some, Option.some.injEq, decide_eq_true_eq]; intro h; simp [h]
  rw [lefts_gt ts (by rw [hl]; exact Nat.min_le_right _ _) hq, Lc_succ, h1, hl, hj]
  have := cnt_mono (P := fun i => isK 1 ts[i]?) (Nat.le_of_lt hq)
  have : Lc ts (headF ts + q) ≤ Lc ts ts.length := this
  simp only [Bool.false_eq_true, if_false, Nat.add_zero, Nat.add_sub_cancel]
  exact ⟨fun h => Nat.le_trans h (Nat.min_le_left _ _), fun h => Nat.le_min.mpr ⟨h, this⟩⟩
theorem mem_ends {e : Nat} (h : e ∈ endsF ts) : ∃ q, e = headF ts + q ∧ e < ts.length ∧ isK 2 ts[e]? = true ∧ Lc ts e ≤ Rc ts q + 1 := by
  unfold endsF endsTo at h
  obtain ⟨j, hj, rfl⟩ := List.mem_map.mp h
  obtain ⟨hj, hc⟩ := List.mem_filter.mp hj
  have hj := List.mem_range.mp hj
  have hc := of_decide_eq_true hc
  obtain ⟨x, hx⟩ : ∃ x, (rightsF ts)[j]? = some x := ⟨_, List.getElem?_eq_getElem hj⟩
  have ex : (rightsF ts).getD j 0 = x := by rw [List.getD_eq_getElem?_getD, hx]; rfl
  rw [ex] at hc ⊢
  unfold rightsF at hx
  rw [rightsTo_sel, List.getElem?_map] at hx
  cases es : (sel (fun i => isK 2 ts[headF ts + i]?) (ts.length - headF ts))[j]? with
  | none => rw [es] at hx; cases hx
  | some q =>
    rw [es] at hx
    cases hx
    obtain ⟨a, b, c⟩ := sel_inv _ es
    exact ⟨q, rfl, isK_lt ts a, a, (ends_cond ts (isK_lt ts a) a c).mp hc⟩
theorem mk_ends {q : Nat} (hk : isK 2 ts[headF ts + q]? = true) (hl : Lc ts (headF ts + q) ≤ Rc ts q + 1) : headF ts + q ∈ endsF ts := by
  have hq := isK_lt ts hk
  have hx : (rightsF ts)[Rc ts q]? = some (headF ts + q) := by
    unfold rightsF
    rw [rightsTo_sel, List.getElem?_map]
    exact congrArg (Option.map _) (sel_get (P := fun i => isK 2 ts[headF ts + i]?) (n := ts.length - headF ts) hk (by omega))
  have ex : (rightsF ts).getD (Rc ts q) 0 = headF ts + q := by rw [List.getD_eq_getElem?_getD, hx]; rfl
  have hj : Rc ts q < (rightsF ts).length := by
    rcases Nat.lt_or_ge (Rc ts q) (rightsF ts).length with z | z
    · exact z
    · rw [List.getElem?_eq_none z] at hx; cases hx
  unfold endsF endsTo
  refine List.mem_map.mpr ⟨Rc ts q, List.mem_filter.mpr ⟨List.mem_range.mpr hj, ?_⟩, ex⟩
  rw [ex]
  exact decide_eq_true ((ends_cond ts hq hk rfl).mpr hl)
theorem ends_sorted : (endsF ts).Pairwise (· < ·) := by
  unfold endsF endsTo
  refine List.pairwise_map.mpr (List.Pairwise.imp_of_mem (fun {i j} hi hj h => ?_) (List.Pairwise.filter _ (List.pairwise_lt_range (n := (rightsF ts).length))))
  have hi := List.mem_range.mp (List.mem_filter.mp hi).1
  have hj := List.mem_range.mp (List.mem_filter.mp hj).1
  have hs : (rightsF ts).Pairwise (· < ·) := by
    unfold rightsF
    rw [rightsTo_sel]
    exact List.Pairwise.map _ (fun a b h => Nat.add_lt_add_left h _) (List.Pairwise.filter _ List.pairwise_lt_range)
  have := List.pairwise_iff_getElem.mp hs i j hi hj h
  rw [List.getD_eq_getElem?_getD, List.getD_eq_getElem?_getD, List.getElem?_eq_getElem hi, List.getElem?_eq_getElem hj]
  exact this
/-- the first end -/
theorem last_of {e : Nat} (he : e ∈ endsF ts) (hm : ∀ x ∈ endsF ts, e ≤ x) : lastF ts = e := by
  have hs := ends_sorted ts
  unfold lastF
  cases q : endsF ts with
  | nil => rw [q] at he; cases he
  | cons a l =>
    show a = e
    rw [q] at he hm hs
    rcases List.mem_cons.mp he with z | z
    · exact z.symm
    · have h1 := (List.pairwise_cons.mp hs).1 e z
      exact absurd (hm a (.head _)) (Nat.not_le.mpr h1)
theorem last_ge {m : Nat} (hm : ∀ x ∈ endsF ts, m ≤ x) (hl : m ≤ ts.length) : m ≤ lastF ts := by
  unfold lastF
  cases q : endsF ts with
  | nil => exact hl
  | cons a l => exact hm a (by rw [q]; exact .head _)
end

/-! ## the plain law: the parameter text -/
def Nw (ts os : List (Int × Int)) (p : Nat) : Prop := wrongAt ts os (headF ts) p = Str.ofString ""
/-- how a walk over the first m tokens ends in a refusal -/
def Ref (ts os : List (Int × Int)) (m : Nat) (C : Addr) : Prop := (C = 64 ∧ (∀ q, q < m → Nw ts os q) ∧ ∀ e ∈ endsF ts, m ≤ e) ∨
  ∃ s, s < m ∧ (∀ q, q < s → Nw ts os q) ∧ (∀ e ∈ endsF ts, s ≤ e) ∧ wrongAt ts os (headF ts) s = exName C ∧ (C = 76 ∨ C = 88)
def OutP (ts os : List (Int × Int)) (m : Nat) (gs : List (Int × Int)) (out : Except Addr (List (Int × Int) × Bool × List (Int × Int))) : Prop := match out with
  | .error C => Ref ts os m C
  | .ok (f, _, us) => headF ts < m ∧ (∀ q, q ≤ headF ts → Nw ts os q) ∧ us = gs.drop (headF ts + 1) ∧ f = paramsF ts (headF ts) ∧ runF ts 0 (headF ts) ≤ 1 ∧ nines f + runF ts 0 (headF ts) = marksF ts (headF ts) ∧ braceF f = decide (runF ts 0 (headF ts) = 1)
section
variable {ts os : List (Int × Int)} {p b m : Nat} {t u : Int × Int} {s : Int}
theorem run_six (h : ts[p]? = some t) (h6 : t.1 = 6) (hb : b ≤ p) : runF ts b (p + 1) = runF ts b p + 1 := by
  show (if b ≤ p ∧ _ then _ else _) = _
  rw [if_pos ⟨hb, by rw [h, ← h6]; rfl⟩]
theorem run_not (h : ts[p]? = some t) (h6 : ¬ t.1 = 6) : runF ts b (p + 1) = 0 := by
  show (if b ≤ p ∧ _ then _ else _) = _
  rw [if_neg]
  rintro ⟨_, q⟩
  rw [h] at q
  exact h6 (Option.some.inj q)
theorem one_mark (h : ts[p]? = some t) (h6 : t.1 = 6) (hr : runF ts b p % 2 = 0) : oneF ts b s p = [] := by
  unfold oneF
  rw [h]
  show (if _ then _ else _) = _
  rw [if_neg (by rw [hr]; exact fun q => absurd q.1 (by decide)), if_neg (by rw [hr, h6]; exact fun q => q.elim (by decide) fun q => q rfl)]
theorem one_plain (h : ts[p]? = some t) (h6 : ¬ t.1 = 6) (hr : runF ts b p % 2 = 0) : oneF ts b s p = [t] := by
  unfold oneF
  rw [h]
  show (if _ then _ else _) = _
  rw [if_neg (by rw [hr]; exact fun q => absurd q.1 (by decide)), if_pos (.inr h6)]
theorem one_told (h : ts[p]? = some t) (h12 : t.1 = 12) (hr : runF ts b p % 2 = 1) : oneF ts b s p = [(s, t.2 - 48)] := by
  unfold oneF
  rw [h]
  show (if _ then _ else _) = _
  rw [if_pos ⟨hr, h12⟩]
theorem one_told' (h : ts[p]? = some t) (h12 : ¬ t.1 = 12) (hr : runF ts b p % 2 = 1) : oneF ts b s p = [t] := by
  unfold oneF
  rw [h]
  show (if _ then _ else _) = _
  rw [if_neg fun q => h12 q.2, if_pos (.inl hr)]
theorem marks_succ (h : ts[p]? = some t) : marksF ts (p + 1) = marksF ts p + if t.1 = 6 then 1 else 0 := by
  unfold marksF
  rw [List.take_add_one, h, List.filter_append, List.length_append]
  congr 1
  show (List.filter _ [t]).length = _
  rw [List.filter_cons, List.filter_nil]
  split <;> rename_i q
  · rw [if_pos (of_decide_eq_true q)]; rfl
  · rw [if_neg fun z => q (decide_eq_true z)]; rfl
theorem wrong_some (h : ts[p]? = some t) : wrongAt ts os (headF ts) p = wrongF ts os (headF ts) p t := by unfold wrongAt; rw [h]
theorem w_outer (h : ts[p]? = some t) (ho : t ∈ os) : wrongAt ts os (headF ts) p = exName 76 := by
  rw [wrong_some h]; unfold wrongF; rw [if_pos ho]; rfl
theorem w_head (h : ts[p]? = some t) (ho : t ∉ os) (e : p = headF ts) : Nw ts os p := by
  unfold Nw
  rw [wrong_some h]; unfold wrongF; rw [if_neg ho, if_pos e]
theorem w_untold (h : ts[p]? = some t) (ho : t ∉ os) (e : ¬ p = headF ts) (hr : runF ts (if p < headF ts then 0 else headF ts + 1) p % 2 = 0) (hn : ¬ (t.1 = 5 ∨ t.1 = 9 ∨ t.1 = 15 ∨ (t.1 = 2 ∧ p < headF ts))) : Nw ts os p := by
  unfold Nw
  rw [wrong_some h]; unfold wrongF; rw [if_neg ho, if_neg e, if_pos hr, if_neg hn]
theorem w_bad (h : ts[p]? = some t) (ho : t ∉ os) (e : ¬ p = headF ts) (hr : runF ts (if p < headF ts then 0 else headF ts + 1) p % 2 = 0) (hn : t.1 = 5 ∨ t.1 = 9 ∨ t.1 = 15 ∨ (t.1 = 2 ∧ p < headF ts)) : wrongAt ts os (headF ts) p = exName 88 := by
  rw [wrong_some h]; unfold wrongF; rw [if_neg ho, if_neg e, if_pos hr, if_pos hn]; rfl
theorem w_told (h : ts[p]? = some t) (ho : t ∉ os) (e : ¬ p = headF ts) (hr : ¬ runF ts (if p < headF ts then 0 else headF ts + 1) p % 2 = 0) : wrongAt ts os (headF ts) p = if wellF ts (headF ts) p t then Str.ofString "" else exName 88 := by
  rw [wrong_some h]; unfold wrongF; rw [if_neg ho, if_neg e, if_neg hr]; rfl
theorem cat_ne {k : Int} (h : ts[p]? = some t) (q : isK k ts[p]? = false) : ¬ t.1 = k := by
  rw [h, isK_iff] at q
  exact of_decide_eq_false q
theorem cat_eq {k : Int} (h : ts[p]? = some t) (q : isK k ts[p]? = true) : t.1 = k := by
  rw [h, isK_iff] at q
  exact of_decide_eq_true q
theorem ends_head {e : Nat} (h : e ∈ endsF ts) : headF ts ≤ e := by
  obtain ⟨q, rfl, _⟩ := mem_ends ts h
  exact Nat.le_add_right _ _
theorem nines_one {f : List (Int × Int)} {t : Int × Int} (h : ¬ t.1 = 9) : nines (f ++ [t]) = nines f := by rw [nines_snoc, if_neg h]; rfl
/-- the tokens of the first m, from p on -/
theorem drop_cons (hm : m ≤ ts.length) (h : p < m) : ∃ t, ts[p]? = some t ∧ (ts.take m).drop p = t :: (ts.take m).drop (p + 1) := by
  have hp : p < (ts.take m).length := by rw [List.length_take]; omega
  refine ⟨(ts.take m)[p], ?_, List.drop_eq_getElem_cons hp⟩
  rw [← List.getElem?_eq_getElem hp, List.getElem?_take, if_pos h]
theorem drop_none (h : m ≤ p) : (ts.take m).drop p = [] := List.drop_eq_nil_of_le (by rw [List.length_take]; omega)
theorem below_succ {P : Nat → Prop} (h : ∀ q, q < p → P q) (hp : P p) : ∀ q, q < p + 1 → P q := fun q hq => by
  rcases Nat.lt_succ_iff_lt_or_eq.mp hq with z | z
  · exact h q z
  · rw [z]; exact hp
theorem brace_none {f : List (Int × Int)} (h : ∀ x ∈ f, ¬ x.1 = 1) : braceF f = false := by
  unfold braceF
  refine decide_eq_false fun q => ?_
  cases e : f.getLast? with
  | none => rw [e] at q; cases q
  | some x =>
    rw [e] at q
    exact h x (List.mem_of_getLast? e) (Option.some.inj q)
theorem brace_some {f : List (Int × Int)} (h : u.1 = 1) : braceF (f ++ [u]) = true := by
  unfold braceF
  rw [List.getLast?_append]
  exact decide_eq_true (by show some u.1 = some 1; rw [h])
theorem rp_walk (hm : m ≤ ts.length) : ∀ (k p : Nat) (f : List (Int × Int)), m ≤ p + k → p ≤ m → p ≤ headF ts → runF ts 0 p = 0 → (∀ q, q < p → Nw ts os q) → nines f = marksF ts p → f = stretchF ts 0 9 p → (∀ x ∈ f, ¬ x.1 = 1) → OutP ts os m (ts.take m) (rp os ((ts.take m).drop p) (marksF ts p) f) := by
  obtain ⟨hh1, hh2, hh3⟩ := head_facts ts
  have stop : ∀ {p}, m ≤ p → p ≤ headF ts → (∀ q, q < p → Nw ts os q) → Ref ts os m 64 := fun {p} h1 h2 h3 => .inl ⟨rfl, fun q hq => h3 q (Nat.lt_of_lt_of_le hq h1), fun e he => Nat.le_trans h1 (Nat.le_trans h2 (ends_head he))⟩
  have fault : ∀ {p C}, p < m → p ≤ headF ts → (∀ q, q < p → Nw ts os q) → wrongAt ts os (headF ts) p = exName C → (C = 76 ∨ C = 88) → Ref ts os m C := fun {p C} h1 h2 h3 h4 h5 => .inr ⟨p, h1, h3, fun e he => Nat.le_trans h2 (ends_head he), h4, h5⟩
  intro k
  induction k with
  | zero =>
    intro p f hk hp hh hr hN hn hf h1
    rw [drop_none (show m ≤ p from hk)]
    unfold rp
    exact stop hk hh hN
  | succ k ih =>
    intro p f hk hp hh hr hN hn hf h1
    rcases Nat.lt_or_ge p m with hpm | hpm
    case inr =>
      rw [drop_none hpm]
      unfold rp
      exact stop hpm hh hN
    obtain ⟨t, ht, e⟩ := drop_cons hm hpm
    rw [e]
    by_cases ho : t ∈ os
    · unfold rp; rw [if_pos ho]
      exact fault hpm hh hN (w_outer ht ho) (.inl rfl)
    by_cases c1 : t.1 = 1
    · rw [rp_one ho c1]
      have eh : p = headF ts := by
        rcases Nat.lt_or_ge p (headF ts) with z | z
        · exact absurd c1 (cat_ne ht (hh2 p z))
        · exact Nat.le_antisymm hh z
      subst eh
      refine ⟨hpm, fun q hq => ?_, rfl, ?_, by rw [hr]; exact Nat.zero_le _, by rw [hr]; exact hn, by rw [brace_none h1, hr]; rfl⟩
      · rcases Nat.lt_or_eq_of_le hq with z | z
        · exact hN q z
        · rw [z]; exact w_head ht ho rfl
      · unfold paramsF; rw [hr]; exact hf
    have hph : p < headF ts := by
      rcases Nat.lt_or_eq_of_le hh with z | z
      · exact z
      · exact absurd (cat_eq ht (by rw [z]; exact hh3 (by rw [← z]; exact Nat.lt_of_lt_of_le hpm hm))) c1
    have hne : ¬ p = headF ts := Nat.ne_of_lt hph
    have hr0 : runF ts (if p < headF ts then 0 else headF ts + 1) p % 2 = 0 := by rw [if_pos hph, hr]
    have hre : runF ts 0 p % 2 = 0 := by rw [hr]
    by_cases c6 : t.1 = 6
    · rw [rp_six ho c1 c6]
      have hNp : Nw ts os p := w_untold ht ho hne hr0 (by rw [c6]; rintro (q | q | q | ⟨q, _⟩) <;> exact absurd q (by decide))
      have hN1 := below_succ hN hNp
      have hm1 : marksF ts (p + 1) = marksF ts p + 1 := by rw [marks_succ ht, if_pos c6]
      have hr1 : runF ts 0 (p + 1) = 1 := by rw [run_six ht c6 (Nat.zero_le _), hr]
      rcases Nat.lt_or_ge (p + 1) m with hpm1 | hpm1
      case inr =>
        rw [drop_none hpm1]
        exact stop hpm1 hph hN1
      obtain ⟨u, hu, e1⟩ := drop_cons hm hpm1
      rw [e1]
      by_cases ho1 : u ∈ os
      · unfold rpSix; dsimp only; rw [if_pos ho1]
        exact fault hpm1 hph hN1 (w_outer hu ho1) (.inl rfl)
      rw [rpSix_cons ho1]
      have s1 : stretchF ts 0 9 (p + 1) = f := by
        show stretchF ts 0 9 p ++ oneF ts 0 9 (0 + p) = f
        rw [Nat.zero_add, one_mark ht c6 hre, List.append_nil, hf]
      by_cases u1 : u.1 = 1
      · rw [if_pos u1]
        have eh : p + 1 = headF ts := by
          rcases Nat.lt_or_ge (p + 1) (headF ts) with z | z
          · exact absurd u1 (cat_ne hu (hh2 _ z))
          · exact Nat.le_antisymm hph z
        have hrH : runF ts 0 (headF ts) = 1 := by rw [← eh]; exact hr1
        have hmH : marksF ts (headF ts) = marksF ts p + 1 := by rw [← eh]; exact hm1
        refine ⟨by rw [← eh]; exact hpm1, fun q hq => ?_, by rw [← eh], ?_, by rw [hrH]; exact Nat.le_refl _, by rw [hrH, hmH, nines_one (by rw [u1]; decide), hn], by rw [brace_some u1, hrH]; rfl⟩
        · rcases Nat.lt_or_eq_of_le hq with z | z
          · exact hN1 q (by rw [eh]; exact z)
          · rw [z]; exact w_head (by rw [← eh]; exact hu) ho1 rfl
        · unfold paramsF
          rw [hrH, ← eh]
          show _ = stretchF ts 0 9 (p + 1) ++ oneF ts 0 9 (0 + (p + 1))
          rw [s1, Nat.zero_add, one_told' hu (by rw [u1]; decide) (by rw [hr1])]
      rw [if_neg u1]
      have hph1 : p + 1 < headF ts := by
        rcases Nat.lt_or_eq_of_le hph with z | z
        · exact z
        · have z : p + 1 = headF ts := z
          exact absurd (cat_eq hu (by rw [z]; exact hh3 (by rw [← z]; exact Nat.lt_of_lt_of_le hpm1 hm))) u1
      have hw := w_told (os := os) hu ho1 (Nat.ne_of_lt hph1) (by rw [if_pos hph1, hr1]; decide)
      unfold wellF at hw
      rw [if_pos hph1, Nat.min_eq_left (Nat.le_of_lt hph1), hm1] at hw
      by_cases cu : marksF ts p + 1 > 9 ∨ u ≠ (12, 48 + ((marksF ts p + 1 : Nat) : Int))
      · rw [if_pos cu]
        refine fault hpm1 hph hN1 ?_ (.inr rfl)
        rw [hw, if_neg]
        simp only [Bool.and_eq_true, decide_eq_true_eq]
        rintro ⟨a, b, c⟩
        rcases cu with q | q
        · omega
        · exact q (Prod.ext a b)
      · rw [if_neg cu]
        have c9 : ¬ marksF ts p + 1 > 9 := fun q => cu (.inl q)
        have cu : u = (12, 48 + ((marksF ts p + 1 : Nat) : Int)) := Classical.not_not.mp fun q => cu (.inr q)
        have u12 : u.1 = 12 := by rw [cu]
        have u2 : u.2 = 48 + ((marksF ts p + 1 : Nat) : Int) := by rw [cu]
        have hNu : Nw ts os (p + 1) := by
          unfold Nw
          rw [hw, if_pos]
          simp only [Bool.and_eq_true, decide_eq_true_eq]
          exact ⟨u12, u2, by omega⟩
        have hm2 : marksF ts (p + 2) = marksF ts p + 1 := by rw [marks_succ hu, if_neg (by rw [u12]; decide), hm1]
        have := ih (p + 2) (f ++ [(9, ((marksF ts p + 1 : Nat) : Int))]) (by omega) hpm1 hph1 (run_not hu (by rw [u12]; decide)) (below_succ hN1 hNu) (by rw [nines_snoc, if_pos rfl, hn, hm2]) ?_ ?_
        · rw [hm2] at this; exact this
        · show _ = stretchF ts 0 9 (p + 1) ++ oneF ts 0 9 (0 + (p + 1))
          rw [s1, Nat.zero_add, one_told hu u12 (by rw [hr1]), u2]
          congr 3
          omega
        · intro x hx
          rcases List.mem_append.mp hx with hx | hx
          · exact h1 x hx
          · rw [List.mem_singleton.mp hx]; exact (by decide : ¬ (9 : Int) = 1)
    by_cases cb : t.1 = 2 ∨ t.1 = 5 ∨ t.1 = 9 ∨ t.1 = 15
    · rw [rp_bad ho c1 c6 cb]
      refine fault hpm hh hN (w_bad ht ho hne hr0 ?_) (.inr rfl)
      rcases cb with q | q | q | q
      · exact .inr (.inr (.inr ⟨q, hph⟩))
      · exact .inl q
      · exact .inr (.inl q)
      · exact .inr (.inr (.inl q))
    · rw [rp_go ho c1 c6 cb]
      have hm1 : marksF ts (p + 1) = marksF ts p := by rw [marks_succ ht, if_neg c6]; rfl
      have := ih (p + 1) (f ++ [t]) (by omega) hpm hph (run_not ht c6) (below_succ hN (w_untold ht ho hne hr0 fun q => cb ?_)) (by rw [nines_one fun q => cb (.inr (.inr (.inl q))), hn, hm1]) ?_ ?_
      · rw [hm1] at this; exact this
      · rcases q with q | q | q | q
        · exact .inr (.inl q)
        · exact .inr (.inr (.inl q))
        · exact .inr (.inr (.inr q))
        · exact .inl q.1
      · show _ = stretchF ts 0 9 p ++ oneF ts 0 9 (0 + p)
        rw [Nat.zero_add, one_plain ht c6 hre, hf]
      · intro x hx
        rcases List.mem_append.mp hx with hx | hx
        · exact h1 x hx
        · rw [List.mem_singleton.mp hx]; exact c1
end

/-! ## the plain law: the body -/
def OutB (ts os : List (Int × Int)) (m : Nat) (gs : List (Int × Int)) (out : Except Addr (List (Int × Int) × List (Int × Int))) : Prop := match out with
  | .error C => Ref ts os m C
  | .ok (f, us) => ∃ i, headF ts + 1 + i < m ∧ (∀ q, q < headF ts + 1 + i + 1 → Nw ts os q) ∧ headF ts + 1 + i ∈ endsF ts ∧ (∀ e ∈ endsF ts, headF ts + 1 + i ≤ e) ∧ us = gs.drop (headF ts + 1 + i + 1) ∧ f = stretchF ts (headF ts + 1) 5 i
section
variable {ts os : List (Int × Int)} {p b m : Nat} {t u : Int × Int} {s : Int}
theorem ends_next (ht : ts[p]? = some t) (h2 : ¬ t.1 = 2) (h : ∀ e ∈ endsF ts, p ≤ e) : ∀ e ∈ endsF ts, p + 1 ≤ e := fun e he => by
  rcases Nat.lt_or_eq_of_le (h e he) with z | z
  · exact z
  · obtain ⟨q, _, _, hk, _⟩ := mem_ends ts he
    rw [← z] at hk
    exact absurd (cat_eq ht hk) h2
theorem well_body {K : Nat} (hK : K + runF ts 0 (headF ts) = marksF ts (headF ts)) (hp : headF ts < p) : wellF ts (headF ts) p u = (markF u K).isSome := by
  unfold wellF markF
  rw [if_neg (Nat.not_lt.mpr (Nat.le_of_lt hp)), Nat.min_eq_right (Nat.le_of_lt hp)]
  have e : (48 : Int) + (marksF ts (headF ts) : Int) - (runF ts 0 (headF ts) : Int) = 48 + (K : Int) := by omega
  rw [e]
  by_cases h6 : u.1 = 6
  · rw [if_pos h6, decide_eq_true h6]; rfl
  · rw [if_neg h6, decide_eq_false h6, Bool.false_or]
    by_cases h : u.1 = 12 ∧ 48 < u.2 ∧ u.2 ≤ 48 + (K : Int)
    · rw [if_pos h, decide_eq_true h.1, decide_eq_true h.2.1, decide_eq_true h.2.2]; rfl
    · rw [if_neg h]
      simp only [Option.isSome_none, Bool.and_eq_false_iff, decide_eq_false_iff_not]
      by_cases a : u.1 = 12
      · by_cases b : 48 < u.2
        · exact .inr (.inr fun c => h ⟨a, b, c⟩)
        · exact .inr (.inl b)
      · exact .inl a
theorem rb_walk (hm : m ≤ ts.length) {K : Nat} (hK : K + runF ts 0 (headF ts) = marksF ts (headF ts)) : ∀ (k i d : Nat) (f : List (Int × Int)), m ≤ headF ts + 1 + i + k → headF ts + 1 + i ≤ m → runF ts (headF ts + 1) (headF ts + 1 + i) % 2 = 0 → (∀ q, q < headF ts + 1 + i → Nw ts os q) →
    Lc ts (headF ts + 1 + i) = Rc ts (i + 1) + d → 1 ≤ d → (∀ e ∈ endsF ts, headF ts + 1 + i ≤ e) → f = stretchF ts (headF ts + 1) 5 i → OutB ts os m (ts.take m) (rb os K ((ts.take m).drop (headF ts + 1 + i)) d f) := by
  have stop : ∀ {p}, m ≤ p → (∀ q, q < p → Nw ts os q) → (∀ e ∈ endsF ts, p ≤ e) → Ref ts os m 64 := fun {p} h1 h2 h3 => .inl ⟨rfl, fun q hq => h2 q (Nat.lt_of_lt_of_le hq h1), fun e he => Nat.le_trans h1 (h3 e he)⟩
  have fault : ∀ {p C}, p < m → (∀ q, q < p → Nw ts os q) → (∀ e ∈ endsF ts, p ≤ e) → wrongAt ts os (headF ts) p = exName C → (C = 76 ∨ C = 88) → Ref ts os m C := fun {p C} h1 h2 h3 h4 h5 => .inr ⟨p, h1, h2, h3, h4, h5⟩
  have hne : ∀ i, ¬ headF ts + 1 + i = headF ts := fun i q => by omega
  have hif : ∀ i, (if headF ts + 1 + i < headF ts then 0 else headF ts + 1) = headF ts + 1 := fun i => if_neg (by omega)
  have hlt : ∀ i, headF ts < headF ts + 1 + i := fun i => by omega
  have hge : ∀ i, headF ts + 1 ≤ headF ts + 1 + i := fun i => Nat.le_add_right _ _
  have hR : ∀ i, Rc ts (i + 1 + 1) = Rc ts (i + 1) + if isK 2 ts[headF ts + 1 + i]? then 1 else 0 := fun i => by
    rw [Rc_succ, show headF ts + (i + 1) = headF ts + 1 + i from by omega]
  intro k
  induction k with
  | zero =>
    intro i d f hk hp hr hN hL hd hE hf
    rw [drop_none (show m ≤ headF ts + 1 + i from hk)]
    unfold rb
    exact stop hk hN hE
  | succ k ih =>
    intro i d f hk hp hr hN hL hd hE hf
    rcases Nat.lt_or_ge (headF ts + 1 + i) m with hpm | hpm
    case inr =>
      rw [drop_none hpm]
      unfold rb
      exact stop hpm hN hE
    obtain ⟨t, ht, e⟩ := drop_cons hm hpm
    rw [e]
    have hru : runF ts (if headF ts + 1 + i < headF ts then 0 else headF ts + 1) (headF ts + 1 + i) % 2 = 0 := by rw [hif]; exact hr
    have isk : ∀ {k : Int}, isK k ts[headF ts + 1 + i]? = decide (t.1 = k) := fun {k} => by rw [ht]; exact isK_iff
    have step : ∀ {d'}, ¬ t.1 = 6 → t ∉ os → ¬ (t.1 = 5 ∨ t.1 = 9 ∨ t.1 = 15) → Lc ts (headF ts + 1 + (i + 1)) = Rc ts (i + 1 + 1) + d' → 1 ≤ d' → (∀ e ∈ endsF ts, headF ts + 1 + (i + 1) ≤ e) → OutB ts os m (ts.take m) (rb os K ((ts.take m).drop (headF ts + 1 + i + 1)) d' (f ++ [t])) := fun {d'} n6 no nb hL hd hE => by
      refine ih (i + 1) d' (f ++ [t]) (by omega) hpm (by rw [← Nat.add_assoc, run_not ht n6]) (below_succ hN (w_untold ht no (hne i) hru ?_)) hL hd hE ?_
      · rintro (q | q | q | q)
        · exact nb (.inl q)
        · exact nb (.inr (.inl q))
        · exact nb (.inr (.inr q))
        · exact absurd q.2 (Nat.not_lt.mpr (Nat.le_of_lt (hlt i)))
      · show _ = stretchF ts (headF ts + 1) 5 i ++ oneF ts (headF ts + 1) 5 (headF ts + 1 + i)
        rw [one_plain ht n6 hr, hf]
    have l1 : Lc ts (headF ts + 1 + (i + 1)) = Lc ts (headF ts + 1 + i) + if t.1 = 1 then 1 else 0 := by
      rw [← Nat.add_assoc, Lc_succ, isk]
      by_cases q : t.1 = 1
      · rw [decide_eq_true q, if_pos rfl, if_pos q]
      · rw [decide_eq_false q, if_neg (by decide), if_neg q]
    have r1 : Rc ts (i + 1 + 1) = Rc ts (i + 1) + if t.1 = 2 then 1 else 0 := by
      rw [hR, isk]
      by_cases q : t.1 = 2
      · rw [decide_eq_true q, if_pos rfl, if_pos q]
      · rw [decide_eq_false q, if_neg (by decide), if_neg q]
    by_cases ho : t ∈ os
    · unfold rb; rw [if_pos ho]
      exact fault hpm hN hE (w_outer ht ho) (.inl rfl)
    by_cases c6 : t.1 = 6
    · rw [rb_six ho c6]
      have hNp : Nw ts os (headF ts + 1 + i) := w_untold ht ho (hne i) hru (by rw [c6]; rintro (q | q | q | ⟨q, _⟩) <;> exact absurd q (by decide))
      have hN1 := below_succ hN hNp
      have hr1 := run_six ht c6 (hge i)
      have hE1 := ends_next ht (by rw [c6]; decide) hE
      rcases Nat.lt_or_ge (headF ts + 1 + i + 1) m with hpm1 | hpm1
      case inr =>
        rw [drop_none hpm1]
        exact stop hpm1 hN1 hE1
      obtain ⟨u, hu, e1⟩ := drop_cons hm hpm1
      rw [e1]
      by_cases ho1 : u ∈ os
      · unfold rbSix; dsimp only; rw [if_pos ho1]
        exact fault hpm1 hN1 hE1 (w_outer hu ho1) (.inl rfl)
      rw [rbSix_cons ho1]
      have odd : runF ts (headF ts + 1) (headF ts + 1 + i + 1) % 2 = 1 := by rw [hr1]; omega
      have hw := w_told (os := os) hu ho1 (hne (i + 1)) (by rw [show (if headF ts + 1 + i + 1 < headF ts then 0 else headF ts + 1) = headF ts + 1 from hif (i + 1), odd]; decide)
      rw [well_body hK (show headF ts < headF ts + 1 + i + 1 from hlt (i + 1))] at hw
      cases em : markF u K with
      | none =>
        rw [em] at hw
        exact fault hpm1 hN1 hE1 hw (.inr rfl)
      | some mk =>
        rw [em] at hw
        have u612 : u.1 = 6 ∧ mk = u ∨ u.1 = 12 ∧ mk = (5, u.2 - 48) := by
          unfold markF at em
          split at em
          · rename_i q; exact .inl ⟨q, (Option.some.inj em).symm⟩
          · split at em
            · rename_i q; exact .inr ⟨q.1, (Option.some.inj em).symm⟩
            · cases em
        have n1 : ¬ u.1 = 1 := by rcases u612 with ⟨q, _⟩ | ⟨q, _⟩ <;> (rw [q]; decide)
        have n2 : ¬ u.1 = 2 := by rcases u612 with ⟨q, _⟩ | ⟨q, _⟩ <;> (rw [q]; decide)
        have c1 : ¬ t.1 = 1 := by rw [c6]; decide
        have c2 : ¬ t.1 = 2 := by rw [c6]; decide
        rw [if_neg c1] at l1
        rw [if_neg c2] at r1
        have isu : ∀ {k : Int}, ¬ u.1 = k → isK k ts[headF ts + 1 + (i + 1)]? = false := fun {k} q => by
          rw [← Nat.add_assoc, hu, isK_iff]; exact decide_eq_false q
        have l2 : Lc ts (headF ts + 1 + (i + 2)) = Lc ts (headF ts + 1 + (i + 1)) := by
          show Lc ts (headF ts + 1 + (i + 1) + 1) = _
          rw [Lc_succ, isu n1]; rfl
        have r2 : Rc ts (i + 2 + 1) = Rc ts (i + 1 + 1) := by
          show Rc ts (i + 1 + 1 + 1) = _
          rw [hR, isu n2]; rfl
        refine ih (i + 2) d (f ++ [mk]) (by omega) hpm1 ?_ (below_succ hN1 hw) (by rw [l2, r2, l1, r1]; exact hL) hd (ends_next hu n2 hE1) ?_
        · show runF ts (headF ts + 1) (headF ts + 1 + i + 1 + 1) % 2 = 0
          rcases u612 with ⟨q, _⟩ | ⟨q, _⟩
          · rw [run_six hu q (hge (i + 1)), hr1]; omega
          · rw [run_not hu (by rw [q]; decide)]
        · show _ = (stretchF ts (headF ts + 1) 5 i ++ oneF ts (headF ts + 1) 5 (headF ts + 1 + i)) ++ oneF ts (headF ts + 1) 5 (headF ts + 1 + (i + 1))
          rw [one_mark ht c6 hr, List.append_nil, ← hf]
          congr 1
          show [mk] = oneF ts (headF ts + 1) 5 (headF ts + 1 + i + 1)
          rcases u612 with ⟨q, z⟩ | ⟨q, z⟩
          · rw [one_told' hu (by rw [q]; decide) odd, z]
          · rw [one_told hu q odd, z]
    by_cases cb : t.1 = 5 ∨ t.1 = 9 ∨ t.1 = 15
    · rw [rb_bad ho c6 cb]
      refine fault hpm hN hE (w_bad ht ho (hne i) hru ?_) (.inr rfl)
      rcases cb with q | q | q
      · exact .inl q
      · exact .inr (.inl q)
      · exact .inr (.inr (.inl q))
    by_cases c1 : t.1 = 1
    · rw [rb_left ho c6 cb c1]
      have c2 : ¬ t.1 = 2 := by rw [c1]; decide
      rw [if_pos c1] at l1
      rw [if_neg c2] at r1
      exact step c6 ho cb (by rw [l1, r1, hL]; rfl) (Nat.le_add_left _ _) (ends_next ht c2 hE)
    by_cases c2 : t.1 = 2
    · rw [rb_end ho c6 cb c1 c2]
      rw [if_neg c1] at l1
      rw [if_pos c2] at r1
      by_cases d1 : d = 1
      · rw [if_pos d1]
        have hk2 : isK 2 ts[headF ts + (i + 1)]? = true := by
          rw [show headF ts + (i + 1) = headF ts + 1 + i from by omega, isk]; exact decide_eq_true c2
        have he := mk_ends ts hk2 (by rw [show headF ts + (i + 1) = headF ts + 1 + i from by omega, hL, d1]; exact Nat.le_refl _)
        rw [show headF ts + (i + 1) = headF ts + 1 + i from by omega] at he
        refine ⟨i, hpm, below_succ hN (w_untold ht ho (hne i) hru ?_), he, hE, rfl, hf⟩
        rintro (q | q | q | q)
        · exact cb (.inl q)
        · exact cb (.inr (.inl q))
        · exact cb (.inr (.inr q))
        · exact absurd q.2 (Nat.not_lt.mpr (Nat.le_of_lt (hlt i)))
      · rw [if_neg d1]
        refine step c6 ho cb (by rw [l1, r1, hL]; omega) (by omega) fun e he => ?_
        rcases Nat.lt_or_eq_of_le (hE e he) with z | z
        · exact z
        · obtain ⟨q, e1, _, _, hl⟩ := mem_ends ts he
          have eq : q = i + 1 := by omega
          rw [← z, eq, hL] at hl
          omega
    · rw [rb_go ho c6 cb c1 c2]
      rw [if_neg c1] at l1
      rw [if_neg c2] at r1
      exact step c6 ho cb (by rw [l1, r1]; exact hL) hd (ends_next ht c2 hE)
end

/-! ## the plain law -/
def seg (ps : List (Int × Int)) (a b : Int) : List (Int × Int) := (ps.drop (a + 1).toNat).take (b.toNat - (a + 1).toNat)
def segs (ps : List (Int × Int)) : List Int → List (List (Int × Int))
  | [] => []
  | [_] => []
  | a :: b :: l => seg ps a b :: segs ps (b :: l)
def segO (ps : List (Int × Int)) : Option Int → Option Int → List (Int × Int)
  | some a, some b => seg ps a b
  | _, _ => []
theorem segs_map (ps : List (Int × Int)) : ∀ l : List Int, ((List.range (l.length - 1)).map fun k => segO ps l[k]? l[k + 1]?) = segs ps l
  | [] => rfl
  | [_] => rfl
  | a :: b :: l => by
    show (List.range (l.length + 1)).map _ = seg ps a b :: segs ps (b :: l)
    rw [List.range_succ_eq_map, List.map_cons, List.map_map, ← segs_map ps (b :: l)]
    rfl
theorem delims_segs (ps : List (Int × Int)) : delimsF ps = segs ps (cutsF ps) := by
  rw [← segs_map, cuts_len]
  unfold delimsF
  refine List.map_congr_left fun k _ => ?_
  unfold delimF segO
  rfl
theorem segs_snoc (ps : List (Int × Int)) (a b : Int) : ∀ l : List Int, segs ps (l ++ [a] ++ [b]) = segs ps (l ++ [a]) ++ [seg ps a b]
  | [] => rfl
  | [x] => rfl
  | x :: y :: l => by
    show seg ps x y :: segs ps (y :: l ++ [a] ++ [b]) = seg ps x y :: (segs ps (y :: l ++ [a]) ++ [seg ps a b])
    rw [segs_snoc ps a b (y :: l)]
theorem seg_more {ps : List (Int × Int)} {t : Int × Int} {a b : Int} (h : b ≤ ps.length) : seg (ps ++ [t]) a b = seg ps a b := by
  unfold seg
  rcases Nat.lt_or_ge ps.length (a + 1).toNat with q | q
  · rw [show b.toNat - (a + 1).toNat = 0 from by omega, List.take_zero, List.take_zero]
  · rw [List.drop_append_of_le_length q, List.take_append_of_le_length (by rw [List.length_drop]; omega)]
theorem segs_more {ps : List (Int × Int)} {t : Int × Int} : ∀ {l : List Int}, (∀ b ∈ l, b ≤ ps.length) → segs (ps ++ [t]) l = segs ps l
  | [], _ => rfl
  | [_], _ => rfl
  | a :: b :: l, h => by
    show seg _ a b :: segs _ (b :: l) = seg _ a b :: segs _ (b :: l)
    rw [seg_more (h b (.tail _ (.head _))), segs_more fun x hx => h x (.tail _ hx)]
theorem seg_last {ps : List (Int × Int)} {t : Int × Int} {a : Int} (h : a < ps.length) (h1 : -1 ≤ a) : seg (ps ++ [t]) a ((ps ++ [t]).length : Nat) = seg ps a (ps.length : Nat) ++ [t] := by
  unfold seg
  have q : (a + 1).toNat ≤ ps.length := by omega
  rw [List.drop_append_of_le_length q, List.take_of_length_le, List.take_of_length_le]
  · rw [List.length_drop]; omega
  · rw [List.length_append, List.length_append, List.length_drop]; simp only [List.length_cons, List.length_nil]; omega
theorem idx9_more (ps : List (Int × Int)) (t : Int × Int) : idx9 (ps ++ [t]) (ps ++ [t]).length = idx9 ps ps.length ++ if t.1 = 9 then [ps.length] else [] := by
  rw [List.length_append, List.length_cons, List.length_nil, idx9_succ]
  congr 1
  · unfold idx9
    refine List.filter_congr fun i hi => ?_
    rw [List.getElem?_append_left (List.mem_range.mp hi)]
  · rw [List.getElem?_append_right (Nat.le_refl _), Nat.sub_self]
    show (if is9 (some t) then _ else _) = _
    unfold is9
    by_cases q : t.1 = 9
    · rw [if_pos q, if_pos (decide_eq_true (by show some t.1 = some 9; rw [q]))]
    · rw [if_neg q, if_neg]
      exact fun z => q (Option.some.inj (of_decide_eq_true z))
theorem rows_delims : ∀ (n : Nat) (ps : List (Int × Int)), ps.length = n → (rowsR ps).reverse = delimsF ps ∧ nines ps = (idx9 ps ps.length).length
  | 0, ps, h => by
    rw [List.length_eq_zero_iff.mp h]
    exact ⟨rfl, rfl⟩
  | n + 1, ps, h => by
    obtain ⟨qs, t, rfl⟩ : Ex2 fun qs t => ps = qs ++ [t] := ⟨ps.dropLast, ps.getLast (by intro q; rw [q] at h; cases h), (List.dropLast_concat_getLast _).symm⟩
    obtain ⟨ih1, ih2⟩ := rows_delims n qs (by simpa using h)
    have e := idx9_more qs t
    rw [nines_snoc, rowsR_snoc]
    have hb : ∀ b ∈ cutsF qs, b ≤ (qs.length : Int) := fun b hb => (cuts_bound hb).2
    rw [delims_segs] at ih1 ⊢
    by_cases q : t.1 = 9
    · rw [if_pos q] at e ⊢
      refine ⟨?_, by rw [e, List.length_append, ih2]; rfl⟩
      have ec : cutsF (qs ++ [t]) = ((-1 : Int) :: (idx9 qs qs.length).map fun (i : Nat) => (i : Int)) ++ [(qs.length : Int)] ++ [((qs ++ [t]).length : Int)] := by
        show ((-1 : Int) :: (idx9 (qs ++ [t]) (qs ++ [t]).length).map fun (i : Nat) => (i : Int)) ++ [((qs ++ [t]).length : Int)] = _
        rw [e, List.map_append]; rfl
      rw [ec, segs_snoc]
      show (spl (rowsR qs) t).reverse = segs (qs ++ [t]) (cutsF qs) ++ [_]
      rw [segs_more hb, ← ih1]
      unfold spl
      rw [if_pos q, List.reverse_cons]
      congr 2
      unfold seg
      rw [show ((qs ++ [t]).length : Int).toNat - ((qs.length : Int) + 1).toNat = 0 from by rw [List.length_append, List.length_cons, List.length_nil]; omega, List.take_zero]
    · rw [if_neg q, List.append_nil] at e
      rw [if_neg q]
      refine ⟨?_, by rw [e, ih2]; rfl⟩
      obtain ⟨l, x, hl⟩ : Ex2 fun l x => ((-1 : Int) :: (idx9 qs qs.length).map fun (i : Nat) => (i : Int)) = l ++ [x] := ⟨_, _, (List.dropLast_concat_getLast (List.cons_ne_nil _ _)).symm⟩
      have hx : x ∈ ((-1 : Int) :: (idx9 qs qs.length).map fun (i : Nat) => (i : Int)) := by rw [hl]; exact List.mem_append_right _ (.head _)
      have hx2 : -1 ≤ x ∧ x < qs.length := by
        rcases List.mem_cons.mp hx with z | z
        · omega
        · obtain ⟨i, hi, rfl⟩ := List.mem_map.mp z
          have := idx9_mem hi
          omega
      have ec : cutsF (qs ++ [t]) = l ++ [x] ++ [((qs ++ [t]).length : Int)] := by
        show ((-1 : Int) :: (idx9 (qs ++ [t]) (qs ++ [t]).length).map fun (i : Nat) => (i : Int)) ++ [((qs ++ [t]).length : Int)] = _
        rw [e, hl]
      have ec0 : cutsF qs = l ++ [x] ++ [(qs.length : Int)] := by
        show ((-1 : Int) :: (idx9 qs qs.length).map fun (i : Nat) => (i : Int)) ++ [(qs.length : Int)] = _
        rw [hl]
      rw [ec0, segs_snoc] at ih1
      rw [ec, segs_snoc, seg_last hx2.2 hx2.1, segs_more fun b hb' => hb b (by rw [ec0]; exact List.mem_append_left _ hb')]
      have ih1 := congrArg List.reverse ih1
      rw [List.reverse_reverse, List.reverse_append] at ih1
      rw [ih1]
      unfold spl
      rw [if_neg q]
      show ((seg qs x qs.length ++ [t]) :: (segs qs (l ++ [x])).reverse).reverse = _
      rw [List.reverse_cons, List.reverse_reverse]
section
variable {ts os : List (Int × Int)} {m s : Nat} {C : Addr}
theorem judged_stop (hm : m ≤ ts.length) (h : ∀ q, q < m → Nw ts os q) (hE : ∀ e ∈ endsF ts, m ≤ e) : m ≤ (judgedF ts os).1 := by
  unfold judgedF
  cases e : faultsF ts os with
  | nil => exact last_ge ts hE hm
  | cons f l =>
    obtain ⟨h1, _, _⟩ := sel_cons (P := fun p => decide (wrongAt ts os (headF ts) p ≠ Str.ofString "")) e
    rcases Nat.lt_or_ge f m with z | z
    · exact absurd (h f z) (of_decide_eq_true (p := wrongAt ts os (headF ts) f ≠ Str.ofString "") h1)
    · exact z
theorem judged_fault (hm : m ≤ ts.length) (hs : s < m) (h : ∀ q, q < s → Nw ts os q) (hE : ∀ e ∈ endsF ts, s ≤ e) (hw : wrongAt ts os (headF ts) s = exName C) (hC : C = 76 ∨ C = 88) : judgedF ts os = (s, exName C, headF ts) := by
  have hn : exName C ≠ Str.ofString "" := by rcases hC with rfl | rfl <;> decide +kernel
  obtain ⟨l, e⟩ := sel_first (P := fun p => decide (wrongAt ts os (headF ts) p ≠ Str.ofString "")) (p := s) (n := min (lastF ts + 1) ts.length) (decide_eq_true (by rw [hw]; exact hn)) (Nat.lt_min.mpr ⟨Nat.lt_succ_of_le (last_ge ts hE (Nat.le_trans (Nat.le_of_lt hs) hm)), Nat.lt_of_lt_of_le hs hm⟩) (fun x hx => decide_eq_false fun z => z (h x hx))
  have e : faultsF ts os = s :: l := e
  unfold judgedF
  rw [e]
  show (s, _, _) = _
  rw [hw]
theorem judged_end {e : Nat} (h : ∀ q, q < e + 1 → Nw ts os q) (he : e ∈ endsF ts) (hE : ∀ x ∈ endsF ts, e ≤ x) : judgedF ts os = (e, Str.ofString "well", headF ts) := by
  have hl := last_of ts he hE
  have ef : faultsF ts os = [] := by
    refine List.filter_eq_nil_iff.mpr fun x hx => ?_
    have hx := List.mem_range.mp hx
    rw [hl] at hx
    rw [decide_eq_false fun z => z (h x (Nat.lt_of_lt_of_le hx (Nat.min_le_left _ _)))]
    decide
  have hne : endsF ts ≠ [] := fun q => by rw [q] at he; cases he
  unfold judgedF
  rw [ef]
  show (lastF ts, _, _) = _
  rw [hl, if_pos hne]
def OutD (ts os : List (Int × Int)) (m : Nat) (out : Except Addr (List (Int × Int) × List (Int × Int) × List (Int × Int))) : Prop := match out with
  | .error C => Ref ts os m C
  | .ok (f, bs, rest) => f = paramsF ts (headF ts) ∧ runF ts 0 (headF ts) ≤ 1 ∧ braceF f = decide (runF ts 0 (headF ts) = 1) ∧ OutB ts os m (ts.take m) (.ok (bs, rest))
theorem def_out (hm : m ≤ ts.length) : OutD ts os m (defF os (ts.take m)) := by
  obtain ⟨hh1, hh2, hh3⟩ := head_facts ts
  have A := rp_walk (os := os) hm m 0 [] (by omega) (Nat.zero_le _) (Nat.zero_le _) rfl (fun q hq => absurd hq (Nat.not_lt_zero _)) rfl rfl (fun x hx => (nomatch hx))
  rw [List.drop_zero, show marksF ts 0 = 0 from rfl] at A
  unfold defF
  cases e : rp os (ts.take m) 0 [] with
  | error C => rw [e] at A; exact A
  | ok r =>
    obtain ⟨f, br, us⟩ := r
    rw [e] at A
    obtain ⟨a1, a2, rfl, a4, a5, a6, a7⟩ := A
    have hk := hh3 (Nat.lt_of_lt_of_le a1 hm)
    have hk2 : isK 2 ts[headF ts]? = false := by
      obtain ⟨t, ht⟩ : ∃ t, ts[headF ts]? = some t := ⟨_, List.getElem?_eq_getElem (Nat.lt_of_lt_of_le a1 hm)⟩
      have := cat_eq ht hk
      rw [ht, isK_iff, this]; decide
    have B := rb_walk (os := os) (K := nines f) hm a6 m 0 1 [] (by omega) a1 (by rw [runF, if_neg (fun q => absurd q.1 (Nat.not_succ_le_self _))]) (fun q hq => a2 q (Nat.le_of_lt_succ hq)) (by
      have l0 : Lc ts (headF ts) = 0 := cnt_zero hh2
      show Lc ts (headF ts + 1) = Rc ts (0 + 1) + 1
      rw [Lc_succ, hk, l0, Rc_succ]
      show _ = (Rc ts 0 + if isK 2 ts[headF ts]? then 1 else 0) + 1
      rw [hk2]; rfl) (Nat.le_refl _) (fun x hx => by
      rcases Nat.lt_or_eq_of_le (ends_head hx) with z | z
      · exact z
      · obtain ⟨_, _, _, h2, _⟩ := mem_ends ts hx
        rw [← z, hk2] at h2; cases h2) rfl
    rw [Nat.add_zero] at B
    show OutD ts os m (match rb os (nines f) ((ts.take m).drop (headF ts + 1)) 1 [] with | .error C => .error C | .ok (bs, rest) => .ok (f, bs, rest))
    cases e2 : rb os (nines f) ((ts.take m).drop (headF ts + 1)) 1 [] with
    | error C => rw [e2] at B; exact B
    | ok r =>
      obtain ⟨bs, rest⟩ := r
      rw [e2] at B
      exact ⟨a4, a5, a7, B⟩
end
theorem plain_law (ts os : List (Int × Int)) (il io : Bool) (size : Nat) : toldD (defF os (ts.take size)) il io = dueD ts os il io size := by
  obtain ⟨m, hm, e⟩ : ∃ m, m ≤ ts.length ∧ ts.take size = ts.take m := ⟨min size ts.length, Nat.min_le_right _ _, by rw [List.take_eq_take_iff]; omega⟩
  have hl : (ts.take m).length = m := by rw [List.length_take]; exact Nat.min_eq_left hm
  unfold dueD
  rw [e, hl]
  have D := def_out (os := os) hm
  cases ed : defF os (ts.take m) with
  | error C =>
    rw [ed] at D
    rcases D with ⟨rfl, h1, h2⟩ | ⟨s, h1, h2, h3, h4, h5⟩
    · rw [if_pos (judged_stop hm h1 h2)]; rfl
    · rw [judged_fault hm h1 h2 h3 h4 h5, if_neg (Nat.not_le.mpr h1), if_pos]
      · rfl
      · show exName C ≠ Str.ofString "well"
        rcases h5 with rfl | rfl <;> decide +kernel
  | ok r =>
    obtain ⟨f, bs, rest⟩ := r
    rw [ed] at D
    obtain ⟨rfl, d2, d3, i, h1, h2, h3, h4, rfl, rfl⟩ := D
    rw [judged_end h2 h3 h4, if_neg (Nat.not_le.mpr h1), if_neg (fun q => q rfl)]
    obtain ⟨r1, r2⟩ := rows_delims _ (paramsF ts (headF ts)) rfl
    show fullD _ _ _ _ _ _ _ _ = fullD _ _ _ _ _ _ _ _
    rw [r1, r2, d3, Nat.add_sub_cancel_left]
theorem well_law (ts os : List (Int × Int)) (hw : (judgedF ts os).2.1 = Str.ofString "well") : (judgedF ts os).2.2 + runF ts 0 (judgedF ts os).2.2 ≤ ts.length ∧ (judgedF ts os).1 ≤ ts.length := by
  have D := def_out (os := os) (Nat.le_refl ts.length)
  cases ed : defF os (ts.take ts.length) with
  | error C =>
    rw [ed] at D
    exfalso
    rcases D with ⟨rfl, h1, h2⟩ | ⟨s, h1, h2, h3, h4, h5⟩
    · have he : endsF ts = [] := by
        cases q : endsF ts with
        | nil => rfl
        | cons a l =>
          obtain ⟨_, _, hx, _⟩ := mem_ends ts (e := a) (by rw [q]; exact .head _)
          exact absurd (h2 a (by rw [q]; exact .head _)) (Nat.not_le.mpr hx)
      have hf : faultsF ts os = [] := List.filter_eq_nil_iff.mpr fun x hx => by
        rw [decide_eq_false fun z => z (h1 x (Nat.lt_of_lt_of_le (List.mem_range.mp hx) (Nat.min_le_right _ _)))]; decide
      unfold judgedF at hw
      rw [hf, he] at hw
      exact absurd (show Str.ofString "open" = Str.ofString "well" from hw) (by decide +kernel)
    · rw [judged_fault (Nat.le_refl _) h1 h2 h3 h4 h5] at hw
      have hw : exName C = Str.ofString "well" := hw
      revert hw
      rcases h5 with rfl | rfl <;> decide +kernel
  | ok r =>
    obtain ⟨f, bs, rest⟩ := r
    rw [ed] at D
    obtain ⟨_, d2, _, i, h1, h2, h3, h4, _, _⟩ := D
    rw [judged_end h2 h3 h4]
    show headF ts + runF ts 0 (headF ts) ≤ ts.length ∧ headF ts + 1 + i ≤ ts.length
    omega

/-! The head would lay a quick twin beside each of its own pieces (40 MB of proofs that it can do without). With their names,
all of them under the law's own, taken beforehand it goes on without twins. -/
def law_holds.tw11846676642670509255 : Unit := ()
def law_holds.tw9499421288289455938 : Unit := ()
def law_holds.tw1414043511812021011 : Unit := ()
def law_holds.tw14160533322030094474 : Unit := ()
def law_holds.tw447027507633508388 : Unit := ()
def law_holds.tw18340598423539479173 : Unit := ()
def law_holds.tw8720880381367431298 : Unit := ()
def law_holds.tw6860709855171689206 : Unit := ()
def law_holds.tw9168033884955339765 : Unit := ()
def law_holds.tw3974387499553966400 : Unit := ()
def law_holds.tw9288214680346807717 : Unit := ()
def law_holds.tw10028117763298573888 : Unit := ()
def law_holds.tw4992725456586698614 : Unit := ()
def law_holds.tw8514742172934523775 : Unit := ()
def law_holds.tw7696488724909661519 : Unit := ()
def law_holds.tw11097350217990362986 : Unit := ()
def law_holds.tw2503670479209048990 : Unit := ()
def law_holds.tw1096898596823417342 : Unit := ()
def law_holds.tw12278605571752782370 : Unit := ()
def law_holds.tw2887050238494874643 : Unit := ()
def law_holds.tw18326849912455186884 : Unit := ()
def law_holds.tw3253568177066640346 : Unit := ()
def law_holds.tw16893121556090616931 : Unit := ()
def law_holds.tw1557749455177014741 : Unit := ()
def law_holds.tw10007947361888340627 : Unit := ()
def law_holds.tw14872900085578418628 : Unit := ()
def law_holds.tw3756308257209627903 : Unit := ()
def law_holds.tw18261290160731607033 : Unit := ()
def law_holds.tw6727219029552735585 : Unit := ()
def law_holds.tw2907507879108658156 : Unit := ()
def law_holds.tw6371614458559412218 : Unit := ()
def law_holds.tw12134408205421670959 : Unit := ()
def law_holds.tw7495221243884187115 : Unit := ()
def law_holds.tw1341266762083198811 : Unit := ()
def law_holds.tw4524032621918665186 : Unit := ()
def law_holds.tw2090888555730037645 : Unit := ()
def law_holds.tw9889521400790421688 : Unit := ()
def law_holds.tw1921953547329036461 : Unit := ()
def law_holds.tw14928284104357054422 : Unit := ()
def law_holds.tw11133525997344109421 : Unit := ()
def law_holds.tw6265907326580845545 : Unit := ()
def law_holds.tw18388893480867403737 : Unit := ()
def law_holds.tw7769649832755249146 : Unit := ()
def law_holds.tw5858263632927829637 : Unit := ()
def law_holds.tw13536078969547264968 : Unit := ()
def law_holds.tw5506821171919863439 : Unit := ()
def law_holds.tw6667284449218939238 : Unit := ()
def law_holds.tw17713402740875732926 : Unit := ()
def law_holds.tw11484002064277903863 : Unit := ()
def law_holds.tw14774650325386425613 : Unit := ()
def law_holds.tw12022615750976362421 : Unit := ()
def law_holds.tw2269544990204364226 : Unit := ()
def law_holds.tw179590077315354965 : Unit := ()
def law_holds.tw6896717019858035522 : Unit := ()
def law_holds.tw18135211599370774712 : Unit := ()
def law_holds.tw11653573277977807760 : Unit := ()
def law_holds.tw15472126771306010800 : Unit := ()
def law_holds.tw16947615914383616782 : Unit := ()
def law_holds.tw3850334171643177529 : Unit := ()
def law_holds.tw15609566024721092083 : Unit := ()
def law_holds.tw9606376775287448836 : Unit := ()
def law_holds.tw1496123403401453975 : Unit := ()
def law_holds.tw3186734533307500241 : Unit := ()
def law_holds.tw1385162719727133579 : Unit := ()
def law_holds.tw14326059299131336239 : Unit := ()
def law_holds.tw907578622648922086 : Unit := ()
def law_holds.tw16009327648451700120 : Unit := ()
def law_holds.tw15732109348078318572 : Unit := ()
def law_holds.tw5672799075271041237 : Unit := ()
def law_holds.tw16760957895259694429 : Unit := ()
def law_holds.tw15661869461025623997 : Unit := ()
def law_holds.tw15333956030411951890 : Unit := ()
def law_holds.tw2152083551845799040 : Unit := ()
def law_holds.tw18090433342136740992 : Unit := ()
def law_holds.tw1724926542741425601 : Unit := ()
def law_holds.tw15150646450996357022 : Unit := ()
def law_holds.tw4581845663705801772 : Unit := ()
def law_holds.tw9423440377400516374 : Unit := ()
def law_holds.tw5769158387606399586 : Unit := ()
def law_holds.tw11426015686315989412 : Unit := ()
def law_holds.tw6499956759230125245 : Unit := ()
def law_holds.tw11100686419730198450 : Unit := ()
def law_holds.tw2078624436916829710 : Unit := ()
def law_holds.tw15154110283740273250 : Unit := ()
def law_holds.tw3682559726232862161 : Unit := ()
def law_holds.tw14822640431511872941 : Unit := ()
def law_holds.tw13956741780833797525 : Unit := ()
def law_holds.tw8266603773606604290 : Unit := ()
def law_holds.tw3438298445031660282 : Unit := ()
def law_holds.tw14925382992726071281 : Unit := ()
def law_holds.tw1905533677188600702 : Unit := ()
def law_holds.tw6507877686720480950 : Unit := ()
def law_holds.tw4370086069003782432 : Unit := ()
def law_holds.tw4329158554759489670 : Unit := ()
def law_holds.tw16470317323979864763 : Unit := ()
def law_holds.tw1762888911704233025 : Unit := ()
def law_holds.tw11017292853192552079 : Unit := ()
def law_holds.tw8249079356659094474 : Unit := ()
def law_holds.tw9849722394096787677 : Unit := ()
def law_holds.tw12296726922439171297 : Unit := ()
def law_holds.tw8857742495270377987 : Unit := ()
def law_holds.tw8570087061310353148 : Unit := ()
def law_holds.tw6159533029260741167 : Unit := ()
def law_holds.tw2006301483956418059 : Unit := ()
def law_holds.tw2075624079617657780 : Unit := ()
def law_holds.tw9875236377963488844 : Unit := ()
def law_holds.tw3494445600050047599 : Unit := ()
def law_holds.tw10371022188087798493 : Unit := ()
def law_holds.tw10958410103948607464 : Unit := ()
def law_holds.tw11677100312832694166 : Unit := ()
def law_holds.tw545109181885906688 : Unit := ()
def law_holds.tw5117662029339320154 : Unit := ()
def law_holds.tw9779807473162285230 : Unit := ()
def law_holds.tw12456547296908542839 : Unit := ()
def law_holds.tw1819975233463548508 : Unit := ()
def law_holds.tw12626328134170644701 : Unit := ()
def law_holds.tw13182730311906835528 : Unit := ()
def law_holds.tw13220211186989608806 : Unit := ()
def law_holds.tw2842810181116790245 : Unit := ()
def law_holds.tw784011647948385275 : Unit := ()
def law_holds.tw602461330855297101 : Unit := ()
def law_holds.tw4037582482628031876 : Unit := ()
def law_holds.tw15274831704391544125 : Unit := ()
def law_holds.tw926570990666696690 : Unit := ()
def law_holds.tw7120836010843673076 : Unit := ()
def law_holds.tw699380112222796084 : Unit := ()
def law_holds.tw6333624483447246961 : Unit := ()
def law_holds.tw13800757232730249582 : Unit := ()
def law_holds.tw3742325753681652743 : Unit := ()
def law_holds.tw17255088995462705879 : Unit := ()
def law_holds.tw10264638600885302300 : Unit := ()
def law_holds.tw1689763614830377041 : Unit := ()
def law_holds.tw14440539054361745573 : Unit := ()
def law_holds.tw3253820488102484341 : Unit := ()
def law_holds.tw575232530192455986 : Unit := ()
def law_holds.tw3943428198234077543 : Unit := ()
def law_holds.tw11881114122080957857 : Unit := ()
def law_holds.tw3426384778480675251 : Unit := ()
def law_holds.tw1909877003179415225 : Unit := ()
def law_holds.tw10566571302883470556 : Unit := ()
def law_holds.tw14354538779393863138 : Unit := ()
def law_holds.tw10817052189556005596 : Unit := ()
def law_holds.tw14983226153234331074 : Unit := ()
def law_holds.tw13280740594461564331 : Unit := ()
def law_holds.tw11966672015165255308 : Unit := ()
def law_holds.tw6564709946809587534 : Unit := ()
def law_holds.tw4054605426343851304 : Unit := ()
def law_holds.tw17180001009569633970 : Unit := ()
def law_holds.tw10024239376800412576 : Unit := ()
def law_holds.tw3896150654470677357 : Unit := ()
def law_holds.tw15607887362523206001 : Unit := ()
def law_holds.tw8472228645029834797 : Unit := ()
def law_holds.tw6911747868599837429 : Unit := ()
def law_holds.tw2124134355350193313 : Unit := ()
def law_holds.tw7408322871517469003 : Unit := ()
def law_holds.tw7472407996622490835 : Unit := ()
def law_holds.tw8970147916757833333 : Unit := ()
def law_holds.tw519298541982818421 : Unit := ()
def law_holds.tw16883458599210261866 : Unit := ()
def law_holds.tw16406091861079842607 : Unit := ()
def law_holds.tw17253903310271361901 : Unit := ()
def law_holds.tw14498155544194170393 : Unit := ()
def law_holds.tw4072507727158212662 : Unit := ()
def law_holds.tw8441880690091102137 : Unit := ()
def law_holds.tw13478230802861573701 : Unit := ()
def law_holds.tw12889673554181485818 : Unit := ()
def law_holds.tw15006436103509636135 : Unit := ()
def law_holds.tw15883345262158282383 : Unit := ()
def law_holds.tw2578278018795888234 : Unit := ()
def law_holds.tw11126432536435168541 : Unit := ()
def law_holds.tw10188763426450519768 : Unit := ()
def law_holds.tw11615390640924946992 : Unit := ()
def law_holds.tw14571795756577361901 : Unit := ()
def law_holds.tw9843604407834444796 : Unit := ()
def law_holds.tw14289194402921355359 : Unit := ()
def law_holds.tw1377309892636839040 : Unit := ()
def law_holds.tw4818577856007422655 : Unit := ()
def law_holds.tw8909828626151137519 : Unit := ()
def law_holds.tw16273140198857503625 : Unit := ()
def law_holds.tw12780804625047726367 : Unit := ()
def law_holds.tw18254337876149969668 : Unit := ()
def law_holds.tw3005452535816212104 : Unit := ()
def law_holds.tw4593294709026258786 : Unit := ()
def law_holds.tw15162217921772873613 : Unit := ()
def law_holds.tw653560878884961445 : Unit := ()
def law_holds.tw6719018230134327050 : Unit := ()
def law_holds.tw4916342969005030805 : Unit := ()
def law_holds.tw11182679623053108816 : Unit := ()
def law_holds.tw2143268655074302082 : Unit := ()
def law_holds.tw5112083995522966620 : Unit := ()
def law_holds.tw3910120701321347557 : Unit := ()
def law_holds.tw14883556706271630602 : Unit := ()
def law_holds.tw10242277825702978295 : Unit := ()
def law_holds.tw17911580528928914924 : Unit := ()
def law_holds.tw3044157190286280182 : Unit := ()
def law_holds.tw4614512636035447770 : Unit := ()
def law_holds.tw8634839017697508684 : Unit := ()
def law_holds.tw4515466672771955728 : Unit := ()
def law_holds.tw9529696498207198238 : Unit := ()
def law_holds.tw4323815956820902445 : Unit := ()
def law_holds.tw15829985883664642994 : Unit := ()
def law_holds.tw3850404396616230974 : Unit := ()
def law_holds.tw8835965917227929528 : Unit := ()
def law_holds.tw7356724547972884604 : Unit := ()
def law_holds.tw9013377322688217293 : Unit := ()
def law_holds.tw8666519363043736892 : Unit := ()
def law_holds.tw1973129929022764952 : Unit := ()
def law_holds.tw8191475993861738794 : Unit := ()
def law_holds.tw5451054884063135654 : Unit := ()
def law_holds.tw13958071646730322851 : Unit := ()
def law_holds.tw17499823404086765753 : Unit := ()
def law_holds.tw18234560199702728603 : Unit := ()
def law_holds.tw8328929384466249927 : Unit := ()
def law_holds.tw3882201998751590657 : Unit := ()
def law_holds.tw8854015012368427407 : Unit := ()
def law_holds.tw16720094985154256693 : Unit := ()
def law_holds.tw11223184984439025696 : Unit := ()
def law_holds.tw15617896438947887921 : Unit := ()
def law_holds.tw15452448965706171373 : Unit := ()
def law_holds.tw18430954121086234272 : Unit := ()
def law_holds.tw8984712037535005518 : Unit := ()
def law_holds.tw2558664710541493025 : Unit := ()
def law_holds.tw8652346329174877282 : Unit := ()
def law_holds.tw13650905803964671038 : Unit := ()
def law_holds.tw1622690429015379626 : Unit := ()
def law_holds.tw7311554392007033315 : Unit := ()
def law_holds.tw2446358144275080391 : Unit := ()
def law_holds.tw11404014056486942332 : Unit := ()
def law_holds.tw7304591109411159013 : Unit := ()
def law_holds.tw14904137174637212347 : Unit := ()
def law_holds.tw4146061822495498468 : Unit := ()
def law_holds.tw2643271747718453845 : Unit := ()
def law_holds.tw5212653520564569363 : Unit := ()
def law_holds.tw17974257514489008736 : Unit := ()
def law_holds.tw5731563423909890137 : Unit := ()
def law_holds.tw4439653461905209652 : Unit := ()
def law_holds.tw10296202853966499060 : Unit := ()
def law_holds.tw16648777254622569455 : Unit := ()
def law_holds.tw123295346585929383 : Unit := ()
def law_holds.tw10609929442622069884 : Unit := ()
def law_holds.tw2043166853727251185 : Unit := ()
def law_holds.tw16563099163409725306 : Unit := ()
def law_holds.tw2644310842459337959 : Unit := ()
def law_holds.tw13402424001964919149 : Unit := ()
def law_holds.tw5640673133297012132 : Unit := ()
def law_holds.tw14828999820898988419 : Unit := ()
def law_holds.tw8549365171731915398 : Unit := ()
def law_holds.tw17274716441693411508 : Unit := ()
def law_holds.tw498061464947678834 : Unit := ()
def law_holds.tw10465528174321978529 : Unit := ()
def law_holds.tw15293083901398250104 : Unit := ()
def law_holds.tw9992725586745946429 : Unit := ()
def law_holds.tw445335354869643106 : Unit := ()
def law_holds.tw12932701723140870399 : Unit := ()
def law_holds.tw10442559174759676424 : Unit := ()
def law_holds.tw9634471323475708679 : Unit := ()
def law_holds.tw14991590004735058009 : Unit := ()
def law_holds.tw13431030151845061361 : Unit := ()
def law_holds.tw14596297492920191028 : Unit := ()
def law_holds.tw16098122237329998606 : Unit := ()
def law_holds.tw12977093529070104392 : Unit := ()
def law_holds.tw8330938851228082562 : Unit := ()
def law_holds.tw1685627985566243432 : Unit := ()
def law_holds.tw14335913921861858828 : Unit := ()
def law_holds.tw8176227357466254829 : Unit := ()
def law_holds.tw18006792725990754497 : Unit := ()
def law_holds.tw14545874151571354728 : Unit := ()
def law_holds.tw1767730674963353768 : Unit := ()
def law_holds.tw8763168800255643514 : Unit := ()
def law_holds.tw2139172203440323022 : Unit := ()
def law_holds.tw11609493526922420660 : Unit := ()
def law_holds.tw11924911360389889469 : Unit := ()
def law_holds.tw16836969012518115619 : Unit := ()
def law_holds.tw12476058986133298565 : Unit := ()
def law_holds.tw14051398506283589457 : Unit := ()
def law_holds.tw3049941959672503198 : Unit := ()
def law_holds.tw1778412455037948541 : Unit := ()
def law_holds.tw10812634152524527747 : Unit := ()
def law_holds.tw9682718004065560343 : Unit := ()
def law_holds.tw11098625913536864229 : Unit := ()
def law_holds.tw18221428039690301666 : Unit := ()
def law_holds.tw6317479115527610633 : Unit := ()
def law_holds.tw10876394233666535175 : Unit := ()
def law_holds.tw7080125749870532296 : Unit := ()
def law_holds.tw15802469936163623734 : Unit := ()
def law_holds.tw8785698371604719795 : Unit := ()
def law_holds.tw1186782194237197914 : Unit := ()
def law_holds.tw1989176631692091739 : Unit := ()
def law_holds.tw15527639110640922598 : Unit := ()
def law_holds.tw4995542688137877417 : Unit := ()
def law_holds.tw13190408463805328480 : Unit := ()
def law_holds.tw9552830710289189752 : Unit := ()
def law_holds.tw9184033795430018204 : Unit := ()
def law_holds.tw15448297888555860652 : Unit := ()
def law_holds.tw724200737284857819 : Unit := ()
def law_holds.tw4464252984393422682 : Unit := ()
def law_holds.tw11764581739189218997 : Unit := ()
def law_holds.tw4273555757443719353 : Unit := ()
def law_holds.tw1285599515219305098 : Unit := ()
def law_holds.tw6410668804425169698 : Unit := ()
def law_holds.tw11289095316329951393 : Unit := ()
def law_holds.tw17028624522117568015 : Unit := ()
def law_holds.tw6778142800826368289 : Unit := ()
def law_holds.tw7820799176418779761 : Unit := ()
def law_holds.tw13780023080261437657 : Unit := ()
def law_holds.tw6765152471904792315 : Unit := ()
def law_holds.tw576407869801174206 : Unit := ()
def law_holds.tw13301187468288870568 : Unit := ()
def law_holds.tw455179833554555240 : Unit := ()
def law_holds.tw3756957479349018193 : Unit := ()
def law_holds.tw13709617746848070560 : Unit := ()
def law_holds.tw3595789414353437717 : Unit := ()
def law_holds.tw4103306797374686269 : Unit := ()
def law_holds.tw3801589014035127680 : Unit := ()
def law_holds.tw7407239408455114201 : Unit := ()
def law_holds.tw15806970514647361693 : Unit := ()
def law_holds.tw11470271118054631628 : Unit := ()
def law_holds.tw16099233806120587224 : Unit := ()
def law_holds.tw12223724995276690173 : Unit := ()
def law_holds.tw18269650602155537469 : Unit := ()
def law_holds.tw12732824653754844360 : Unit := ()
def law_holds.tw7497986649931050792 : Unit := ()
def law_holds.tw9069877914133315304 : Unit := ()
def law_holds.tw8369274380968253667 : Unit := ()
def law_holds.tw981846192996546977 : Unit := ()
def law_holds.tw2295933128562542503 : Unit := ()
def law_holds.tw9255152265573255198 : Unit := ()
def law_holds.tw7566432030715092817 : Unit := ()
def law_holds.tw15544829507116839252 : Unit := ()
def law_holds.tw3158129796062787159 : Unit := ()
def law_holds.tw1035469204868569938 : Unit := ()
def law_holds.tw16614716721108272449 : Unit := ()
def law_holds.tw745255978533919091 : Unit := ()
def law_holds.tw10362271348294423435 : Unit := ()
def law_holds.tw12115171985352901274 : Unit := ()
def law_holds.tw14892801356780361778 : Unit := ()
def law_holds.tw8417186165934385351 : Unit := ()
def law_holds.tw18203989763732354715 : Unit := ()
def law_holds.tw3886952913131894933 : Unit := ()
def law_holds.tw12419048959643632839 : Unit := ()
def law_holds.tw13882729330811710610 : Unit := ()
def law_holds.tw4030767218360268280 : Unit := ()
def law_holds.tw11347954631545130290 : Unit := ()
def law_holds.tw14390095281932903014 : Unit := ()
def law_holds.tw16978406815995349258 : Unit := ()
def law_holds.tw16381176275627223697 : Unit := ()
def law_holds.tw16015401734918298211 : Unit := ()
def law_holds.tw11803358882649189518 : Unit := ()
def law_holds.tw8285764192309689115 : Unit := ()
def law_holds.tw5123404419316150 : Unit := ()
def law_holds.tw7636989558263936852 : Unit := ()
set_option maxHeartbeats 8000000 in
set_option Elab.async true in
theorem law_holds : PySem.Challenge.rw_xm0371_01.Holds := by
  w_on; o_law
  o_head (kHook objs0.1 [2, 3, 15, 17, 18, 20, 21, 22, 29, 30, 32, 33, 35, 36, 37, 38, 39, 40, 43, 50, 51, 52, 55, 62, 63, 64, 67, 74, 75, 76, 79, 86, 87, 88, 91, 93, 94, 96, 97, 110, 111, 112, 114, 115, 117, 118, 119, 121, 122, 124, 125, 133, 134, 135, 137, 138, 140, 141, 142, 144, 145, 147, 148, 149, 151, 152, 154, 155, 156, 158, 159, 161, 162, 163, 165, 166, 168, 169, 170, 172, 173, 175, 176, 177, 178, 179, 180, 181, 184, 192, 193, 196, 197, 198, 200, 201, 203, 204, 205, 207, 208, 210, 211, 212, 213, 214, 215, 216, 219, 221, 222, 224, 225, 226, 228, 229, 231, 232, 233, 235, 236, 238, 239, 240, 242, 243, 245, 246, 247, 248, 251, 252, 253, 256, 257, 258, 260, 261, 263, 264, 265, 267, 268, 270, 271, 272, 274, 275, 277, 278, 279, 281, 282, 284, 285, 286, 288, 289, 291, 292, 293, 295, 296, 298, 299, 300, 302, 303, 305, 306, 307, 310, 311, 312, 314, 315, 317, 318, 319, 322, 323, 324, 327, 328, 329, 331, 332, 334, 335, 336, 339, 340, 341, 343, 344, 346, 347, 348, 350, 351, 353, 354, 355, 357, 358, 360, 361] (fun _ => by kernel_rfl))
  (case hw => w_witness2)
  k_go0
  rename_i w s₀ s₁ mg mb G Y fa o pm doc kV ho hg KX X V GL T B TE TW w9 w8 M w7 w6 hcd is hs hlay0 hL1 hr1 hl2 w4 w3 sa xs wa hL ra w1 r0 hI hr hc1 hc2 K0 hD h₁ F N0
  have hlaw : ∀ (ts os : List (Int × Int)) (il io : Bool) (size : Nat), ts.all tokV = true → toldD (defF os (ts.take size)) il io = dueD ts os il io size := fun ts os il io size _ => plain_law ts os il io size
  have hwell := well_law
  have iv := IV.of hI
  have hxl := iv.length
  have hz : is.length ≤ 63 := by omega
  have Gd0 : Gd w mg mb s₁.heap := ⟨KX, T.g, T.b, T.nolimit, T.builtins⟩
  clear G Y ho X V GL T B TE TW M hcd hs hlay0 hL1 hr1 hl2 ra w1 r0 hI hr hc1 hc2 K0 hD KX N0
  refine top_run (s := s₁) (L := s₁.heap.objs.size) (sn := [(Str.ofString "script", .local), (Str.ofString "k", .local), (Str.ofString "range", .globalImplicit), (Str.ofString "max", .globalImplicit), (Str.ofString "min", .globalImplicit), (Str.ofString "len", .globalImplicit), (Str.ofString "_law_row_right", .globalImplicit), (Str.ofString "_law_cell", .globalImplicit)]) 9 80 Gd0 ⟨rfl, rfl, rfl, rfl, rfl, by decide +kernel, by decide +kernel⟩ rfl (by show 1 + claimMargin + 1 + 9 < _; decide +kernel) (by show 4 + 3 + 80 < _; decide +kernel) rfl rfl (fun c hw C fr ef => ?_) fun h' tk' m F' => goodW_bool F' hg (fun _ => rfl) (by first | with_unfolding_all rfl | kernel_rfl | decide)
  subst hw
  have hsl : sizeLine = 16777216 := sizeLine_eq
  have S : St s₁.heap s₁.heap.objs.size [Str.ofString "script", Str.ofString "k"] [some (.ref sa), none] [] s₁.heap h₁ := by
    refine ⟨by decide +kernel, ?_, fun p hp => (nomatch hp), .nil, fun p hp => (nomatch hp), .keep F.keep⟩
    have e : (fun x => List.lookup x [(Str.ofString "script", Value.ref sa)].reverse) = lkp [Str.ofString "script", Str.ofString "k"] [some (.ref sa), none] := by
      funext x
      show (match x == Str.ofString "script" with | true => some (Value.ref sa) | false => none) = if x = Str.ofString "script" then some (Value.ref sa) else if x = Str.ofString "k" then none else none
      by_cases q : x = Str.ofString "script"
      · subst q; simp
      · rw [beq_eq_false_iff_ne.mpr q, if_neg q]; simp
    rw [← e]; exact F
  clear F
  have hL1 : h₁.IsList sa xs.toArray := by
    obtain ⟨o', ho', q⟩ := hL
    exact ⟨o', S.F.keep _ _ ho', q⟩
  clear hL
  refine xs_let (ns := [Str.ofString "script", Str.ofString "k"]) C (by (repeat' (first | exact Kd.head | apply Kd.tail))) rfl (ev_slice (xs := xs) (pv_loc C S (by (repeat' (first | exact Kd.head | apply Kd.tail))) (by (repeat' (first | exact Loc.head | apply Loc.tail)))) (tr_none.mono ?_) (fun a => by with_unfolding_all rfl) fun a => by with_unfolding_all rfl)
  rintro vl h₂ ⟨rfl, rfl⟩
  refine tr_some (EV.pi pi_const fun tu => ⟨_, _, _, _, _, _, none, some ((40 : Nat) : Int), S, hL1, .none, .int _ _, by omega, fun da h₃ nda S3 S3' => ?_⟩)
  rw [pk_to] at S3
  refine ⟨_, _, _, _, S3, by (repeat' (first | exact SetL.head | apply SetL.tail)), fun h₄ S4 S4' => ?_⟩
  have iv := iv.take 40
  have hxt : (xs.take 40).length ≤ 40 := by rw [List.length_take]; omega
  have hit : (is.take 40).length ≤ 40 := by rw [List.length_take]; omega
  generalize xs.take 40 = ys at *
  generalize is.take 40 = js at *
  clear S S3 S3' S4' nda hL1 hxl hz
  refine xs_forG (r := s₁.heap) (ns := [Str.ofString "script", Str.ofString "k"]) C (by (repeat' (first | exact Kd.head | apply Kd.tail))) (EV.mono (ev_range1 (P := fun k h' => 0 ≤ k ∧ k ≤ 4 ∧ St s₁.heap s₁.heap.objs.size [Str.ofString "script", Str.ofString "k"] [some (.ref da), none] [(da, listOf ys.toArray 0)] s₁.heap h') C S4 (by (repeat' (first | exact Kd.head | apply Kd.tail))) (EV.mono (ev_max2 (h₁ := h₄) C S4 (by (repeat' (first | exact Kd.head | apply Kd.tail))) pi_const (ev_min2 C S4 (by (repeat' (first | exact Kd.head | apply Kd.tail))) pi_const (ev_len C S4 (by (repeat' (first | exact Kd.head | apply Kd.tail))) (pv_loc C S4 (by (repeat' (first | exact Kd.head | apply Kd.tail))) (by (repeat' (first | exact Loc.head | apply Loc.tail)))) (isL (S4.N _ (.head _)).1) (by omega) rfl) rfl rfl) rfl rfl) fun v h p => ?_) rfl) fun v h₅ p => ?_) fun _ => rfl
  · obtain ⟨⟨t, rfl⟩, S5, _⟩ := p
    exact ⟨_, t, rfl, by omega, by omega, S5⟩
  obtain ⟨k, h₆, rr, t, u, w', rfl, ⟨k0, k4, S6⟩, hr, kp⟩ := p
  refine ⟨(k - 0).toNat, _, _, _, fun _ vs led _ => (∃ u, vs = [some (.ref da), u]) ∧ led = [(da, listOf ys.toArray 0)], src_range C.hh hr (by omega), fun b e => ?_, S6.keepAll kp, ⟨⟨_, rfl⟩, rfl⟩, fun _ _ _ _ _ x _ => x, ?_, ?_⟩
  · cases e
    refine ⟨fun q => ?_, fun hm => ?_⟩
    · obtain ⟨o', es, ep, e, d, _⟩ := S6.F.ns
      have e := kp _ _ e
      rw [← q] at e
      have := congrArg Obj.data (Option.some.inj (e.symm.trans hr))
      rw [d] at this
      cases this
    · have e1 : rr = da := List.mem_singleton.mp hm
      have e2 := kp _ _ (S6.N _ (.head _)).1
      rw [← e1] at e2
      have e3 : Value.type "list" = Value.type "range" := congrArg Obj.cls (Option.some.inj (e2.symm.trans hr))
      exact absurd e3 (by decide)
  · rintro i v vs led' h₇ T hi pv S2 ⟨⟨u, rfl⟩, rfl⟩ hN
    obtain ⟨t, rfl⟩ : ∃ t, v = .int (i : Nat) t := by
      obtain ⟨t, e⟩ := pv
      exact ⟨t, by rw [e, Int.zero_add]⟩
    refine ⟨_, by (repeat' (first | exact SetL.head | apply SetL.tail)), fun h₈ S => ?_⟩
    refine xs_ifE (te_not (te_ev (ev_call (pv_glob C S (by (repeat' (first | exact Kd.head | apply Kd.tail))) (gl_law_row_right _)) (fn_law_row_right _) C S (ea_cons (ev_call (pv_glob C S (by (repeat' (first | exact Kd.head | apply Kd.tail))) (gl_law_cell _)) (fn_law_cell _) C S (ea_cons (EV.pv (pv_loc C S (by (repeat' (first | exact Kd.head | apply Kd.tail))) (by (repeat' (first | exact Loc.head | apply Loc.tail)))) (ea_cons (EV.pv (pv_loc C S (by (repeat' (first | exact Kd.head | apply Kd.tail))) (by (repeat' (first | exact Loc.head | apply Loc.tail)))) (ea_nil ⟨S.F.keep, tr_spec (cell_spec (S.N _ (.head _)).1 iv (by omega) (by omega)) C S (by decide) (by decide) (by simp) fun h₉ v go post => ?_⟩)) rfl)) rfl) rfl) rfl) rfl) rfl))
    obtain ⟨a, oa, rfl, na, ea, so⟩ := post
    have S9 := (S.after0 go).add ea na S (fun _ h => h) so.notT
    refine ea_nil ⟨S9.F.keep, tr_specR (row_right_spec hlaw hwell so) C fr ef S9 (S.go.D _ na) (by decide) (by decide) fun h₁₀ v S10 post => ⟨true, post, ?_⟩⟩
    show XS _ _ [] _
    exact xs_thru (xs_nil (hN S10 (fun _ h => h) (fun _ h => .inl h) ⟨⟨_, rfl⟩, rfl⟩))
  · rintro vs led' h₅ S5 _ ⟨⟨u, rfl⟩, rfl⟩
    exact xs_ret (EV.pv pv_boolC ⟨rfl, _, S5.F⟩)

end Mine
theorem PySem.Challenge.cw_xm0371_01_holds : PySem.Challenge.rw_xm0371_01.Holds :=
  Mine.law_holds
