import PyProof.Rows.All
import Wide.All
import OpenK.AllK
import Wide.FinOn
import PySem.Challenge.RW_rh0269_01
open PySem PySem.W PyProof.Rows PySem.Calls
set_option Elab.async false
set_option maxRecDepth 100000
set_option maxHeartbeats 3000000
set_option linter.all false
namespace Mine
section
/- the head of the law, by hand: the part of the heap that the walk knows (printed by a program of my own from what the kit's head had written out; the functions' bodies are named, not copied), and that the top leaves it so -/
noncomputable abbrev PgT : Program := PySem.Challenge.rw_rh0269_01.row.toRowW.1
noncomputable def stAt (i : Nat) : Option Stmt := PgT.main.body[i]?
noncomputable def clsFn (i : Nat) : Option Stmt := match PgT.main.body[i]? with
  | some (.ClassDef _ _ _ b ..) => b.head?
  | _ => none
noncomputable def fnO (st : Option Stmt) (qn : Str) (md : Value) (cd : Addr) : Obj := match st with
  | some (.FunctionDef n ps b _ _ _ sc _ _ _) => { cls := .type "function", data := .func { name := n, qualname := qn, params := ps, body := .stmts b, scope := sc, globals := 3, closure := [], defaults := .none, kwdefaults := .none, pyModule := md, code := .ref cd } }
  | _ => { cls := .none, data := .seq #[] }
noncomputable def hd.heap_39 : Params → Frag := fun P =>
  (nat_lit 2, { cls := Value.none, data := Data.dict #[{ hash := PyData.keyHash P (Str.ofString "type.__subclasses__.Exception.0"), key := Value.str (Str.ofString "type.__subclasses__.Exception.0") 285, val := Value.int 33 0 }, { hash := PyData.keyHash P (Str.ofString "type.__subclasses__.Exception.n"), key := Value.str (Str.ofString "type.__subclasses__.Exception.n") 286, val := Value.int 1 0 }] 2 }) ::
  (nat_lit 3, { cls := Value.type "dict", data := Data.dict #[{ hash := PyData.keyHash P (Str.ofString "__name__"), key := Value.str (Str.ofString "__name__") 165, val := Value.str (Str.ofString "law_rh0269_01") 546 }, { hash := PyData.keyHash P (Str.ofString "__doc__"), key := Value.str (Str.ofString "__doc__") 166, val := Value.none }, { hash := PyData.keyHash P (Str.ofString "__package__"), key := Value.str (Str.ofString "__package__") 167, val := Value.none }, { hash := PyData.keyHash P (Str.ofString "__loader__"), key := Value.str (Str.ofString "__loader__") 168, val := Value.builtin "__main__.__loader__#opaque" }, { hash := PyData.keyHash P (Str.ofString "__spec__"), key := Value.str (Str.ofString "__spec__") 169, val := Value.none }, { hash := PyData.keyHash P (Str.ofString "__annotations__"), key := Value.str (Str.ofString "__annotations__") 170, val := Value.ref 6 }, { hash := PyData.keyHash P (Str.ofString "__builtins__"), key := Value.str (Str.ofString "__builtins__") 171, val := Value.ref 4 }, { hash := PyData.keyHash P (Str.ofString "__file__"), key := Value.str (Str.ofString "__file__") 173, val := Value.str (Str.ofString "/claim/cut.py") 172 }, { hash := PyData.keyHash P (Str.ofString "__cached__"), key := Value.str (Str.ofString "__cached__") 174, val := Value.none }, { hash := PyData.keyHash P (Str.ofString "WORDS"), key := Value.str (Str.ofString "WORDS") 233, val := Value.ref 15 }, { hash := PyData.keyHash P (Str.ofString "SIGNS"), key := Value.str (Str.ofString "SIGNS") 251, val := Value.ref 16 }, { hash := PyData.keyHash P (Str.ofString "DIGITS"), key := Value.str (Str.ofString "DIGITS") 253, val := Value.str (Str.ofString "0123456789") 252 }, { hash := PyData.keyHash P (Str.ofString "LETTERS"), key := Value.str (Str.ofString "LETTERS") 255, val := Value.str (Str.ofString "ABCDEFGHIJKLMNOPQRSTUVWXYZ") 254 }, { hash := PyData.keyHash P (Str.ofString "BLANKS"), key := Value.str (Str.ofString "BLANKS") 257, val := Value.str (Str.ofString " \t") 256 }, { hash := PyData.keyHash P (Str.ofString "MOST_NUMBER"), key := Value.str (Str.ofString "MOST_NUMBER") 259, val := Value.int 65535 258 }, { hash := PyData.keyHash P (Str.ofString "BasicError"), key := Value.str (Str.ofString "BasicError") 288, val := Value.ref 33 }, { hash := PyData.keyHash P (Str.ofString "great_sign"), key := Value.str (Str.ofString "great_sign") 295, val := Value.ref 43 }, { hash := PyData.keyHash P (Str.ofString "great_text"), key := Value.str (Str.ofString "great_text") 301, val := Value.ref 48 }, { hash := PyData.keyHash P (Str.ofString "word_at"), key := Value.str (Str.ofString "word_at") 311, val := Value.ref 55 }, { hash := PyData.keyHash P (Str.ofString "sign_at"), key := Value.str (Str.ofString "sign_at") 320, val := Value.ref 62 }, { hash := PyData.keyHash P (Str.ofString "behind_blanks"), key := Value.str (Str.ofString "behind_blanks") 328, val := Value.ref 69 }, { hash := PyData.keyHash P (Str.ofString "read_number"), key := Value.str (Str.ofString "read_number") 337, val := Value.ref 76 }, { hash := PyData.keyHash P (Str.ofString "read_name"), key := Value.str (Str.ofString "read_name") 346, val := Value.ref 83 }, { hash := PyData.keyHash P (Str.ofString "read_quoted"), key := Value.str (Str.ofString "read_quoted") 355, val := Value.ref 90 }, { hash := PyData.keyHash P (Str.ofString "read_item"), key := Value.str (Str.ofString "read_item") 366, val := Value.ref 97 }, { hash := PyData.keyHash P (Str.ofString "read_items"), key := Value.str (Str.ofString "read_items") 376, val := Value.ref 104 }, { hash := PyData.keyHash P (Str.ofString "read_token"), key := Value.str (Str.ofString "read_token") 392, val := Value.ref 111 }, { hash := PyData.keyHash P (Str.ofString "tokens_of"), key := Value.str (Str.ofString "tokens_of") 403, val := Value.ref 118 }, { hash := PyData.keyHash P (Str.ofString "GREATEST"), key := Value.str (Str.ofString "GREATEST") 407, val := Value.int 65529 406 }, { hash := PyData.keyHash P (Str.ofString "JUMPS"), key := Value.str (Str.ofString "JUMPS") 414, val := Value.ref 119 }, { hash := PyData.keyHash P (Str.ofString "Program"), key := Value.str (Str.ofString "Program") 443, val := Value.ref 136 }, { hash := PyData.keyHash P (Str.ofString "place_of"), key := Value.str (Str.ofString "place_of") 454, val := Value.ref 147 }, { hash := PyData.keyHash P (Str.ofString "has_line"), key := Value.str (Str.ofString "has_line") 463, val := Value.ref 154 }, { hash := PyData.keyHash P (Str.ofString "put_line"), key := Value.str (Str.ofString "put_line") 474, val := Value.ref 161 }, { hash := PyData.keyHash P (Str.ofString "split_number"), key := Value.str (Str.ofString "split_number") 484, val := Value.ref 168 }, { hash := PyData.keyHash P (Str.ofString "enter_row"), key := Value.str (Str.ofString "enter_row") 494, val := Value.ref 175 }, { hash := PyData.keyHash P (Str.ofString "enter_all"), key := Value.str (Str.ofString "enter_all") 503, val := Value.ref 182 }, { hash := PyData.keyHash P (Str.ofString "targets"), key := Value.str (Str.ofString "targets") 509, val := Value.ref 187 }, { hash := PyData.keyHash P (Str.ofString "is_whole_target"), key := Value.str (Str.ofString "is_whole_target") 517, val := Value.ref 194 }, { hash := PyData.keyHash P (Str.ofString "lost_targets"), key := Value.str (Str.ofString "lost_targets") 523, val := Value.ref 199 }, { hash := PyData.keyHash P (Str.ofString "new_numbers"), key := Value.str (Str.ofString "new_numbers") 529, val := Value.ref 204 }, { hash := PyData.keyHash P (Str.ofString "led_row"), key := Value.str (Str.ofString "led_row") 539, val := Value.ref 211 }, { hash := PyData.keyHash P (Str.ofString "renumber"), key := Value.str (Str.ofString "renumber") 545, val := Value.ref 216 }, { hash := PyData.keyHash P (Str.ofString "_law_ladled"), key := Value.str (Str.ofString "_law_ladled") 555, val := Value.ref 223 }, { hash := PyData.keyHash P (Str.ofString "_law_due"), key := Value.str (Str.ofString "_law_due") 561, val := Value.ref 228 }, { hash := PyData.keyHash P (Str.ofString "law"), key := Value.str (Str.ofString "law") 567, val := Value.ref 233 }] 46 }) ::
  (nat_lit 15, { cls := Value.type "list", data := Data.seq #[Value.str (Str.ofString "END") 189, Value.str (Str.ofString "FOR") 190, Value.str (Str.ofString "NEXT") 191, Value.str (Str.ofString "DATA") 192, Value.str (Str.ofString "INPUT") 193, Value.str (Str.ofString "DIM") 194, Value.str (Str.ofString "READ") 195, Value.str (Str.ofString "LET") 196, Value.str (Str.ofString "GOTO") 197, Value.str (Str.ofString "RUN") 198, Value.str (Str.ofString "IF") 199, Value.str (Str.ofString "RESTORE") 200, Value.str (Str.ofString "GOSUB") 201, Value.str (Str.ofString "RETURN") 202, Value.str (Str.ofString "REM") 203, Value.str (Str.ofString "STOP") 204, Value.str (Str.ofString "ON") 205, Value.str (Str.ofString "PRINT") 206, Value.str (Str.ofString "LIST") 207, Value.str (Str.ofString "DELETE") 208, Value.str (Str.ofString "RENUM") 209, Value.str (Str.ofString "NEW") 210, Value.str (Str.ofString "CONT") 211, Value.str (Str.ofString "TO") 212, Value.str (Str.ofString "THEN") 213, Value.str (Str.ofString "ELSE") 214, Value.str (Str.ofString "STEP") 215, Value.str (Str.ofString "AND") 216, Value.str (Str.ofString "OR") 217, Value.str (Str.ofString "NOT") 218, Value.str (Str.ofString "MOD") 219, Value.str (Str.ofString "TAB") 220, Value.str (Str.ofString "SGN") 221, Value.str (Str.ofString "ABS") 222, Value.str (Str.ofString "LEN") 223, Value.str (Str.ofString "STR$") 224, Value.str (Str.ofString "VAL") 225, Value.str (Str.ofString "ASC") 226, Value.str (Str.ofString "CHR$") 227, Value.str (Str.ofString "LEFT$") 228, Value.str (Str.ofString "RIGHT$") 229, Value.str (Str.ofString "MID$") 230, Value.str (Str.ofString "RND") 231, Value.str (Str.ofString "INSTR") 232] }) ::
  (nat_lit 16, { cls := Value.type "list", data := Data.seq #[Value.str (Str.ofString "<=") 234, Value.str (Str.ofString ">=") 235, Value.str (Str.ofString "<>") 236, Value.str (Str.ofString "(") 237, Value.str (Str.ofString ")") 238, Value.str (Str.ofString ",") 239, Value.str (Str.ofString ";") 240, Value.str (Str.ofString ":") 241, Value.str (Str.ofString "=") 242, Value.str (Str.ofString "<") 243, Value.str (Str.ofString ">") 244, Value.str (Str.ofString "+") 245, Value.str (Str.ofString "-") 246, Value.str (Str.ofString "*") 247, Value.str (Str.ofString "/") 248, Value.str (Str.ofString "^") 249, Value.str (Str.ofString "#") 250] }) ::
  (nat_lit 17, { cls := Value.type "tuple", data := Data.seq #[Value.type "Exception"] }) ::
  (nat_lit 24, { cls := Value.type "tuple", data := Data.seq #[] }) ::
  (nat_lit 26, { cls := Value.type "tuple", data := Data.seq #[Value.str (Str.ofString "self") 275, Value.str (Str.ofString "kind") 276] }) ::
  (nat_lit 27, { cls := Value.type "tuple", data := Data.seq #[] }) ::
  (nat_lit 29, { cls := Value.type "code", data := Data.fields #[Value.str (Str.ofString "__init__") 272, Value.str (Str.ofString "BasicError.__init__") 273, Value.str (Str.ofString "/claim/cut.py") 274, Value.int 10 0, Value.int 2 0, Value.int 0 0, Value.int 0 0, Value.int 3 0, Value.ref 24, Value.bool true, Value.int 181 0, Value.ref 25, Value.none, Value.ref 26, Value.ref 27, Value.ref 28, Value.int 277 0, Value.int 10 0, Value.str (Str.ofString "/claim/cut.py") 278] }) ::
  (nat_lit 30, (fnO (clsFn 7) (Str.ofString "BasicError.__init__") (Value.str (Str.ofString "z80.btokens") 187) 29)) ::
  (nat_lit 31, { cls := Value.type "tuple", data := Data.seq #[Value.str (Str.ofString "kind") 280] }) ::
  (nat_lit 32, { cls := Value.type "dict", data := Data.dict #[{ hash := PyData.keyHash P (Str.ofString "__module__"), key := Value.str (Str.ofString "__module__") 267, val := Value.str (Str.ofString "z80.btokens") 187 }, { hash := PyData.keyHash P (Str.ofString "__firstlineno__"), key := Value.str (Str.ofString "__firstlineno__") 271, val := Value.int 8 270 }, { hash := PyData.keyHash P (Str.ofString "__init__"), key := Value.str (Str.ofString "__init__") 279, val := Value.ref 30 }, { hash := PyData.keyHash P (Str.ofString "__static_attributes__"), key := Value.str (Str.ofString "__static_attributes__") 281, val := Value.ref 31 }, { hash := PyData.keyHash P (Str.ofString "__weakref__"), key := Value.str (Str.ofString "__weakref__") 283, val := Value.ref 34 }, { hash := PyData.keyHash P (Str.ofString "__doc__"), key := Value.str (Str.ofString "__doc__") 284, val := Value.none }] 3 }) ::
  (nat_lit 33, { cls := Value.type "type", data := Data.cls { name := Str.ofString "BasicError", bases := [Value.type "Exception"], mro := [Value.ref 33, Value.type "Exception", Value.type "BaseException", Value.type "object"], ns := 32, qualname := Str.ofString "BasicError" }, slots := #[some (Value.ref 17), none, some (Value.str (Str.ofString "BasicError") 260), some (Value.str (Str.ofString "BasicError") 268), some (Value.builtin "Exception.__new__"), some (Value.bool true)] }) ::
  (nat_lit 34, { cls := Value.type "getset_descriptor", data := Data.fields #[Value.str (Str.ofString "__weakref__") 282, Value.ref 33, Value.builtin "ExceptionGroup.__weakref__", Value.none] }) ::
  (nat_lit 37, { cls := Value.type "tuple", data := Data.seq #[] }) ::
  (nat_lit 39, { cls := Value.type "tuple", data := Data.seq #[Value.str (Str.ofString "sign") 292] }) ::
  (nat_lit 40, { cls := Value.type "tuple", data := Data.seq #[] }) ::
  (nat_lit 42, { cls := Value.type "code", data := Data.fields #[Value.str (Str.ofString "great_sign") 289, Value.str (Str.ofString "great_sign") 290, Value.str (Str.ofString "/claim/cut.py") 291, Value.int 12 0, Value.int 1 0, Value.int 0 0, Value.int 0 0, Value.int 3 0, Value.ref 37, Value.bool true, Value.int 181 0, Value.ref 38, Value.none, Value.ref 39, Value.ref 40, Value.ref 41, Value.int 293 0, Value.int 12 0, Value.str (Str.ofString "/claim/cut.py") 294] }) ::
  (nat_lit 43, (fnO (stAt 8) (Str.ofString "great_sign") (Value.str (Str.ofString "z80.btokens") 187) 42)) ::
  (nat_lit 44, { cls := Value.type "tuple", data := Data.seq #[] }) ::
  (nat_lit 47, { cls := Value.type "code", data := Data.fields #[Value.str (Str.ofString "great_text") 296, Value.str (Str.ofString "great_text") 297, Value.str (Str.ofString "/claim/cut.py") 298, Value.int 14 0, Value.int 1 0, Value.int 0 0, Value.int 0 0, Value.int 3 0, Value.ref 44, Value.bool true, Value.int 181 0, Value.ref 45, Value.none, Value.none, Value.none, Value.ref 46, Value.int 299 0, Value.int 14 0, Value.str (Str.ofString "/claim/cut.py") 300] }) ::
  (nat_lit 48, (fnO (stAt 9) (Str.ofString "great_text") (Value.str (Str.ofString "z80.btokens") 187) 47)) ::
  (nat_lit 49, { cls := Value.type "tuple", data := Data.seq #[] }) ::
  (nat_lit 51, { cls := Value.type "tuple", data := Data.seq #[Value.str (Str.ofString "text") 305, Value.str (Str.ofString "at") 306, Value.str (Str.ofString "found") 307, Value.str (Str.ofString "word") 308] }) ::
  (nat_lit 52, { cls := Value.type "tuple", data := Data.seq #[] }) ::
  (nat_lit 54, { cls := Value.type "code", data := Data.fields #[Value.str (Str.ofString "word_at") 302, Value.str (Str.ofString "word_at") 303, Value.str (Str.ofString "/claim/cut.py") 304, Value.int 16 0, Value.int 2 0, Value.int 0 0, Value.int 0 0, Value.int 3 0, Value.ref 49, Value.bool true, Value.int 181 0, Value.ref 50, Value.none, Value.ref 51, Value.ref 52, Value.ref 53, Value.int 309 0, Value.int 16 0, Value.str (Str.ofString "/claim/cut.py") 310] }) ::
  (nat_lit 55, (fnO (stAt 10) (Str.ofString "word_at") (Value.str (Str.ofString "z80.btokens") 187) 54)) ::
  (nat_lit 56, { cls := Value.type "tuple", data := Data.seq #[] }) ::
  (nat_lit 58, { cls := Value.type "tuple", data := Data.seq #[Value.str (Str.ofString "text") 315, Value.str (Str.ofString "at") 316, Value.str (Str.ofString "sign") 317] }) ::
  (nat_lit 59, { cls := Value.type "tuple", data := Data.seq #[] }) ::
  (nat_lit 61, { cls := Value.type "code", data := Data.fields #[Value.str (Str.ofString "sign_at") 312, Value.str (Str.ofString "sign_at") 313, Value.str (Str.ofString "/claim/cut.py") 314, Value.int 22 0, Value.int 2 0, Value.int 0 0, Value.int 0 0, Value.int 3 0, Value.ref 56, Value.bool true, Value.int 181 0, Value.ref 57, Value.none, Value.ref 58, Value.ref 59, Value.ref 60, Value.int 318 0, Value.int 22 0, Value.str (Str.ofString "/claim/cut.py") 319] }) ::
  (nat_lit 62, (fnO (stAt 11) (Str.ofString "sign_at") (Value.str (Str.ofString "z80.btokens") 187) 61)) ::
  (nat_lit 63, { cls := Value.type "tuple", data := Data.seq #[] }) ::
  (nat_lit 65, { cls := Value.type "tuple", data := Data.seq #[Value.str (Str.ofString "text") 324, Value.str (Str.ofString "at") 325] }) ::
  (nat_lit 66, { cls := Value.type "tuple", data := Data.seq #[] }) ::
  (nat_lit 68, { cls := Value.type "code", data := Data.fields #[Value.str (Str.ofString "behind_blanks") 321, Value.str (Str.ofString "behind_blanks") 322, Value.str (Str.ofString "/claim/cut.py") 323, Value.int 27 0, Value.int 2 0, Value.int 0 0, Value.int 0 0, Value.int 3 0, Value.ref 63, Value.bool true, Value.int 181 0, Value.ref 64, Value.none, Value.ref 65, Value.ref 66, Value.ref 67, Value.int 326 0, Value.int 27 0, Value.str (Str.ofString "/claim/cut.py") 327] }) ::
  (nat_lit 69, (fnO (stAt 12) (Str.ofString "behind_blanks") (Value.str (Str.ofString "z80.btokens") 187) 68)) ::
  (nat_lit 70, { cls := Value.type "tuple", data := Data.seq #[] }) ::
  (nat_lit 72, { cls := Value.type "tuple", data := Data.seq #[Value.str (Str.ofString "text") 332, Value.str (Str.ofString "at") 333, Value.str (Str.ofString "found") 334] }) ::
  (nat_lit 73, { cls := Value.type "tuple", data := Data.seq #[] }) ::
  (nat_lit 75, { cls := Value.type "code", data := Data.fields #[Value.str (Str.ofString "read_number") 329, Value.str (Str.ofString "read_number") 330, Value.str (Str.ofString "/claim/cut.py") 331, Value.int 31 0, Value.int 2 0, Value.int 0 0, Value.int 0 0, Value.int 3 0, Value.ref 70, Value.bool true, Value.int 181 0, Value.ref 71, Value.none, Value.ref 72, Value.ref 73, Value.ref 74, Value.int 335 0, Value.int 31 0, Value.str (Str.ofString "/claim/cut.py") 336] }) ::
  (nat_lit 76, (fnO (stAt 13) (Str.ofString "read_number") (Value.str (Str.ofString "z80.btokens") 187) 75)) ::
  (nat_lit 77, { cls := Value.type "tuple", data := Data.seq #[] }) ::
  (nat_lit 79, { cls := Value.type "tuple", data := Data.seq #[Value.str (Str.ofString "whole") 341, Value.str (Str.ofString "at") 342, Value.str (Str.ofString "begin") 343] }) ::
  (nat_lit 80, { cls := Value.type "tuple", data := Data.seq #[] }) ::
  (nat_lit 82, { cls := Value.type "code", data := Data.fields #[Value.str (Str.ofString "read_name") 338, Value.str (Str.ofString "read_name") 339, Value.str (Str.ofString "/claim/cut.py") 340, Value.int 39 0, Value.int 2 0, Value.int 0 0, Value.int 0 0, Value.int 3 0, Value.ref 77, Value.bool true, Value.int 181 0, Value.ref 78, Value.none, Value.ref 79, Value.ref 80, Value.ref 81, Value.int 344 0, Value.int 39 0, Value.str (Str.ofString "/claim/cut.py") 345] }) ::
  (nat_lit 83, (fnO (stAt 14) (Str.ofString "read_name") (Value.str (Str.ofString "z80.btokens") 187) 82)) ::
  (nat_lit 84, { cls := Value.type "tuple", data := Data.seq #[] }) ::
  (nat_lit 86, { cls := Value.type "tuple", data := Data.seq #[Value.str (Str.ofString "text") 350, Value.str (Str.ofString "at") 351, Value.str (Str.ofString "end") 352] }) ::
  (nat_lit 87, { cls := Value.type "tuple", data := Data.seq #[] }) ::
  (nat_lit 89, { cls := Value.type "code", data := Data.fields #[Value.str (Str.ofString "read_quoted") 347, Value.str (Str.ofString "read_quoted") 348, Value.str (Str.ofString "/claim/cut.py") 349, Value.int 47 0, Value.int 2 0, Value.int 0 0, Value.int 0 0, Value.int 3 0, Value.ref 84, Value.bool true, Value.int 181 0, Value.ref 85, Value.none, Value.ref 86, Value.ref 87, Value.ref 88, Value.int 353 0, Value.int 47 0, Value.str (Str.ofString "/claim/cut.py") 354] }) ::
  (nat_lit 90, (fnO (stAt 15) (Str.ofString "read_quoted") (Value.str (Str.ofString "z80.btokens") 187) 89)) ::
  (nat_lit 91, { cls := Value.type "tuple", data := Data.seq #[] }) ::
  (nat_lit 93, { cls := Value.type "tuple", data := Data.seq #[Value.str (Str.ofString "text") 359, Value.str (Str.ofString "at") 360, Value.str (Str.ofString "found") 361, Value.str (Str.ofString "begin") 362, Value.str (Str.ofString "end") 363] }) ::
  (nat_lit 94, { cls := Value.type "tuple", data := Data.seq #[] }) ::
  (nat_lit 96, { cls := Value.type "code", data := Data.fields #[Value.str (Str.ofString "read_item") 356, Value.str (Str.ofString "read_item") 357, Value.str (Str.ofString "/claim/cut.py") 358, Value.int 52 0, Value.int 2 0, Value.int 0 0, Value.int 0 0, Value.int 3 0, Value.ref 91, Value.bool true, Value.int 181 0, Value.ref 92, Value.none, Value.ref 93, Value.ref 94, Value.ref 95, Value.int 364 0, Value.int 52 0, Value.str (Str.ofString "/claim/cut.py") 365] }) ::
  (nat_lit 97, (fnO (stAt 16) (Str.ofString "read_item") (Value.str (Str.ofString "z80.btokens") 187) 96)) ::
  (nat_lit 98, { cls := Value.type "tuple", data := Data.seq #[] }) ::
  (nat_lit 100, { cls := Value.type "tuple", data := Data.seq #[Value.str (Str.ofString "text") 370, Value.str (Str.ofString "at") 371, Value.str (Str.ofString "item") 372, Value.str (Str.ofString "found") 373] }) ::
  (nat_lit 101, { cls := Value.type "tuple", data := Data.seq #[] }) ::
  (nat_lit 103, { cls := Value.type "code", data := Data.fields #[Value.str (Str.ofString "read_items") 367, Value.str (Str.ofString "read_items") 368, Value.str (Str.ofString "/claim/cut.py") 369, Value.int 67 0, Value.int 2 0, Value.int 0 0, Value.int 0 0, Value.int 3 0, Value.ref 98, Value.bool true, Value.int 181 0, Value.ref 99, Value.none, Value.ref 100, Value.ref 101, Value.ref 102, Value.int 374 0, Value.int 67 0, Value.str (Str.ofString "/claim/cut.py") 375] }) ::
  (nat_lit 104, (fnO (stAt 17) (Str.ofString "read_items") (Value.str (Str.ofString "z80.btokens") 187) 103)) ::
  (nat_lit 105, { cls := Value.type "tuple", data := Data.seq #[] }) ::
  (nat_lit 107, { cls := Value.type "tuple", data := Data.seq #[Value.str (Str.ofString "text") 380, Value.str (Str.ofString "whole") 381, Value.str (Str.ofString "at") 382, Value.str (Str.ofString "sign") 383, Value.str (Str.ofString "found") 384, Value.str (Str.ofString "number") 385, Value.str (Str.ofString "word") 386, Value.str (Str.ofString "size") 387, Value.str (Str.ofString "items") 388, Value.str (Str.ofString "name") 389] }) ::
  (nat_lit 108, { cls := Value.type "tuple", data := Data.seq #[] }) ::
  (nat_lit 110, { cls := Value.type "code", data := Data.fields #[Value.str (Str.ofString "read_token") 377, Value.str (Str.ofString "read_token") 378, Value.str (Str.ofString "/claim/cut.py") 379, Value.int 74 0, Value.int 3 0, Value.int 0 0, Value.int 0 0, Value.int 3 0, Value.ref 105, Value.bool true, Value.int 181 0, Value.ref 106, Value.none, Value.ref 107, Value.ref 108, Value.ref 109, Value.int 390 0, Value.int 74 0, Value.str (Str.ofString "/claim/cut.py") 391] }) ::
  (nat_lit 111, (fnO (stAt 18) (Str.ofString "read_token") (Value.str (Str.ofString "z80.btokens") 187) 110)) ::
  (nat_lit 112, { cls := Value.type "tuple", data := Data.seq #[] }) ::
  (nat_lit 114, { cls := Value.type "tuple", data := Data.seq #[Value.str (Str.ofString "text") 396, Value.str (Str.ofString "found") 397, Value.str (Str.ofString "whole") 398, Value.str (Str.ofString "at") 399, Value.str (Str.ofString "some") 400] }) ::
  (nat_lit 115, { cls := Value.type "tuple", data := Data.seq #[] }) ::
  (nat_lit 117, { cls := Value.type "code", data := Data.fields #[Value.str (Str.ofString "tokens_of") 393, Value.str (Str.ofString "tokens_of") 394, Value.str (Str.ofString "/claim/cut.py") 395, Value.int 101 0, Value.int 1 0, Value.int 0 0, Value.int 0 0, Value.int 3 0, Value.ref 112, Value.bool true, Value.int 181 0, Value.ref 113, Value.none, Value.ref 114, Value.ref 115, Value.ref 116, Value.int 401 0, Value.int 101 0, Value.str (Str.ofString "/claim/cut.py") 402] }) ::
  (nat_lit 118, (fnO (stAt 19) (Str.ofString "tokens_of") (Value.str (Str.ofString "z80.btokens") 187) 117)) ::
  (nat_lit 119, { cls := Value.type "tuple", data := Data.seq #[Value.str (Str.ofString "GOTO") 408, Value.str (Str.ofString "GOSUB") 409, Value.str (Str.ofString "THEN") 410, Value.str (Str.ofString "ELSE") 411, Value.str (Str.ofString "RESTORE") 412, Value.str (Str.ofString "RUN") 413] }) ::
  (nat_lit 127, { cls := Value.type "tuple", data := Data.seq #[] }) ::
  (nat_lit 129, { cls := Value.type "tuple", data := Data.seq #[Value.str (Str.ofString "self") 430] }) ::
  (nat_lit 130, { cls := Value.type "tuple", data := Data.seq #[] }) ::
  (nat_lit 132, { cls := Value.type "code", data := Data.fields #[Value.str (Str.ofString "__init__") 427, Value.str (Str.ofString "Program.__init__") 428, Value.str (Str.ofString "/claim/cut.py") 429, Value.int 114 0, Value.int 1 0, Value.int 0 0, Value.int 0 0, Value.int 3 0, Value.ref 127, Value.bool true, Value.int 181 0, Value.ref 128, Value.none, Value.ref 129, Value.ref 130, Value.ref 131, Value.int 431 0, Value.int 114 0, Value.str (Str.ofString "/claim/cut.py") 432] }) ::
  (nat_lit 133, (fnO (clsFn 23) (Str.ofString "Program.__init__") (Value.str (Str.ofString "z80.bprogram") 404) 132)) ::
  (nat_lit 134, { cls := Value.type "tuple", data := Data.seq #[Value.str (Str.ofString "numbers") 434, Value.str (Str.ofString "rows") 435] }) ::
  (nat_lit 135, { cls := Value.type "dict", data := Data.dict #[{ hash := PyData.keyHash P (Str.ofString "__module__"), key := Value.str (Str.ofString "__module__") 422, val := Value.str (Str.ofString "z80.bprogram") 404 }, { hash := PyData.keyHash P (Str.ofString "__firstlineno__"), key := Value.str (Str.ofString "__firstlineno__") 426, val := Value.int 112 425 }, { hash := PyData.keyHash P (Str.ofString "__init__"), key := Value.str (Str.ofString "__init__") 433, val := Value.ref 133 }, { hash := PyData.keyHash P (Str.ofString "__static_attributes__"), key := Value.str (Str.ofString "__static_attributes__") 436, val := Value.ref 134 }, { hash := PyData.keyHash P (Str.ofString "__dict__"), key := Value.str (Str.ofString "__dict__") 438, val := Value.ref 137 }, { hash := PyData.keyHash P (Str.ofString "__weakref__"), key := Value.str (Str.ofString "__weakref__") 440, val := Value.ref 138 }, { hash := PyData.keyHash P (Str.ofString "__doc__"), key := Value.str (Str.ofString "__doc__") 441, val := Value.none }] 4 }) ::
  (nat_lit 136, { cls := Value.type "type", data := Data.cls { name := Str.ofString "Program", bases := [Value.type "object"], mro := [Value.ref 136, Value.type "object"], ns := 135, qualname := Str.ofString "Program" }, slots := #[none, none, some (Value.str (Str.ofString "Program") 415), some (Value.str (Str.ofString "Program") 423), some (Value.builtin "object.__new__"), some (Value.bool true)] }) ::
  (nat_lit 137, { cls := Value.type "getset_descriptor", data := Data.fields #[Value.str (Str.ofString "__dict__") 437, Value.ref 136, Value.builtin "function.__dict__", Value.builtin "function.__dict__#set"] }) ::
  (nat_lit 138, { cls := Value.type "getset_descriptor", data := Data.fields #[Value.str (Str.ofString "__weakref__") 439, Value.ref 136, Value.builtin "ExceptionGroup.__weakref__", Value.none] }) ::
  (nat_lit 141, { cls := Value.type "tuple", data := Data.seq #[] }) ::
  (nat_lit 143, { cls := Value.type "tuple", data := Data.seq #[Value.str (Str.ofString "program") 447, Value.str (Str.ofString "number") 448, Value.str (Str.ofString "least") 449, Value.str (Str.ofString "most") 450, Value.str (Str.ofString "middle") 451] }) ::
  (nat_lit 144, { cls := Value.type "tuple", data := Data.seq #[] }) ::
  (nat_lit 146, { cls := Value.type "code", data := Data.fields #[Value.str (Str.ofString "place_of") 444, Value.str (Str.ofString "place_of") 445, Value.str (Str.ofString "/claim/cut.py") 446, Value.int 117 0, Value.int 2 0, Value.int 0 0, Value.int 0 0, Value.int 3 0, Value.ref 141, Value.bool true, Value.int 181 0, Value.ref 142, Value.none, Value.ref 143, Value.ref 144, Value.ref 145, Value.int 452 0, Value.int 117 0, Value.str (Str.ofString "/claim/cut.py") 453] }) ::
  (nat_lit 147, (fnO (stAt 24) (Str.ofString "place_of") (Value.str (Str.ofString "z80.bprogram") 404) 146)) ::
  (nat_lit 148, { cls := Value.type "tuple", data := Data.seq #[] }) ::
  (nat_lit 150, { cls := Value.type "tuple", data := Data.seq #[Value.str (Str.ofString "program") 458, Value.str (Str.ofString "number") 459, Value.str (Str.ofString "at") 460] }) ::
  (nat_lit 151, { cls := Value.type "tuple", data := Data.seq #[] }) ::
  (nat_lit 153, { cls := Value.type "code", data := Data.fields #[Value.str (Str.ofString "has_line") 455, Value.str (Str.ofString "has_line") 456, Value.str (Str.ofString "/claim/cut.py") 457, Value.int 126 0, Value.int 2 0, Value.int 0 0, Value.int 0 0, Value.int 3 0, Value.ref 148, Value.bool true, Value.int 181 0, Value.ref 149, Value.none, Value.ref 150, Value.ref 151, Value.ref 152, Value.int 461 0, Value.int 126 0, Value.str (Str.ofString "/claim/cut.py") 462] }) ::
  (nat_lit 154, (fnO (stAt 25) (Str.ofString "has_line") (Value.str (Str.ofString "z80.bprogram") 404) 153)) ::
  (nat_lit 155, { cls := Value.type "tuple", data := Data.seq #[] }) ::
  (nat_lit 157, { cls := Value.type "tuple", data := Data.seq #[Value.str (Str.ofString "program") 467, Value.str (Str.ofString "number") 468, Value.str (Str.ofString "row") 469, Value.str (Str.ofString "at") 470, Value.str (Str.ofString "is_there") 471] }) ::
  (nat_lit 158, { cls := Value.type "tuple", data := Data.seq #[] }) ::
  (nat_lit 160, { cls := Value.type "code", data := Data.fields #[Value.str (Str.ofString "put_line") 464, Value.str (Str.ofString "put_line") 465, Value.str (Str.ofString "/claim/cut.py") 466, Value.int 129 0, Value.int 3 0, Value.int 0 0, Value.int 0 0, Value.int 3 0, Value.ref 155, Value.bool true, Value.int 181 0, Value.ref 156, Value.none, Value.ref 157, Value.ref 158, Value.ref 159, Value.int 472 0, Value.int 129 0, Value.str (Str.ofString "/claim/cut.py") 473] }) ::
  (nat_lit 161, (fnO (stAt 26) (Str.ofString "put_line") (Value.str (Str.ofString "z80.bprogram") 404) 160)) ::
  (nat_lit 162, { cls := Value.type "tuple", data := Data.seq #[] }) ::
  (nat_lit 164, { cls := Value.type "tuple", data := Data.seq #[Value.str (Str.ofString "text") 478, Value.str (Str.ofString "begin") 479, Value.str (Str.ofString "number") 480, Value.str (Str.ofString "at") 481] }) ::
  (nat_lit 165, { cls := Value.type "tuple", data := Data.seq #[] }) ::
  (nat_lit 167, { cls := Value.type "code", data := Data.fields #[Value.str (Str.ofString "split_number") 475, Value.str (Str.ofString "split_number") 476, Value.str (Str.ofString "/claim/cut.py") 477, Value.int 144 0, Value.int 1 0, Value.int 0 0, Value.int 0 0, Value.int 3 0, Value.ref 162, Value.bool true, Value.int 181 0, Value.ref 163, Value.none, Value.ref 164, Value.ref 165, Value.ref 166, Value.int 482 0, Value.int 144 0, Value.str (Str.ofString "/claim/cut.py") 483] }) ::
  (nat_lit 168, (fnO (stAt 27) (Str.ofString "split_number") (Value.str (Str.ofString "z80.bprogram") 404) 167)) ::
  (nat_lit 169, { cls := Value.type "tuple", data := Data.seq #[] }) ::
  (nat_lit 171, { cls := Value.type "tuple", data := Data.seq #[Value.str (Str.ofString "program") 488, Value.str (Str.ofString "text") 489, Value.str (Str.ofString "number") 490, Value.str (Str.ofString "rest") 491] }) ::
  (nat_lit 172, { cls := Value.type "tuple", data := Data.seq #[] }) ::
  (nat_lit 174, { cls := Value.type "code", data := Data.fields #[Value.str (Str.ofString "enter_row") 485, Value.str (Str.ofString "enter_row") 486, Value.str (Str.ofString "/claim/cut.py") 487, Value.int 151 0, Value.int 2 0, Value.int 0 0, Value.int 0 0, Value.int 3 0, Value.ref 169, Value.bool true, Value.int 181 0, Value.ref 170, Value.none, Value.ref 171, Value.ref 172, Value.ref 173, Value.int 492 0, Value.int 151 0, Value.str (Str.ofString "/claim/cut.py") 493] }) ::
  (nat_lit 175, (fnO (stAt 28) (Str.ofString "enter_row") (Value.str (Str.ofString "z80.bprogram") 404) 174)) ::
  (nat_lit 176, { cls := Value.type "tuple", data := Data.seq #[] }) ::
  (nat_lit 178, { cls := Value.type "tuple", data := Data.seq #[Value.str (Str.ofString "program") 498, Value.str (Str.ofString "text") 499, Value.str (Str.ofString "typed") 500] }) ::
  (nat_lit 179, { cls := Value.type "tuple", data := Data.seq #[] }) ::
  (nat_lit 181, { cls := Value.type "code", data := Data.fields #[Value.str (Str.ofString "enter_all") 495, Value.str (Str.ofString "enter_all") 496, Value.str (Str.ofString "/claim/cut.py") 497, Value.int 157 0, Value.int 2 0, Value.int 0 0, Value.int 0 0, Value.int 3 0, Value.ref 176, Value.bool true, Value.int 181 0, Value.ref 177, Value.none, Value.ref 178, Value.ref 179, Value.ref 180, Value.int 501 0, Value.int 157 0, Value.str (Str.ofString "/claim/cut.py") 502] }) ::
  (nat_lit 182, (fnO (stAt 29) (Str.ofString "enter_all") (Value.str (Str.ofString "z80.bprogram") 404) 181)) ::
  (nat_lit 183, { cls := Value.type "tuple", data := Data.seq #[] }) ::
  (nat_lit 186, { cls := Value.type "code", data := Data.fields #[Value.str (Str.ofString "targets") 504, Value.str (Str.ofString "targets") 505, Value.str (Str.ofString "/claim/cut.py") 506, Value.int 161 0, Value.int 1 0, Value.int 0 0, Value.int 0 0, Value.int 3 0, Value.ref 183, Value.bool true, Value.int 181 0, Value.ref 184, Value.none, Value.none, Value.none, Value.ref 185, Value.int 507 0, Value.int 161 0, Value.str (Str.ofString "/claim/cut.py") 508] }) ::
  (nat_lit 187, (fnO (stAt 30) (Str.ofString "targets") (Value.str (Str.ofString "z80.bprogram") 404) 186)) ::
  (nat_lit 188, { cls := Value.type "tuple", data := Data.seq #[] }) ::
  (nat_lit 190, { cls := Value.type "tuple", data := Data.seq #[Value.str (Str.ofString "row") 513, Value.str (Str.ofString "at") 514] }) ::
  (nat_lit 191, { cls := Value.type "tuple", data := Data.seq #[] }) ::
  (nat_lit 193, { cls := Value.type "code", data := Data.fields #[Value.str (Str.ofString "is_whole_target") 510, Value.str (Str.ofString "is_whole_target") 511, Value.str (Str.ofString "/claim/cut.py") 512, Value.int 169 0, Value.int 2 0, Value.int 0 0, Value.int 0 0, Value.int 3 0, Value.ref 188, Value.bool true, Value.int 181 0, Value.ref 189, Value.none, Value.ref 190, Value.ref 191, Value.ref 192, Value.int 515 0, Value.int 169 0, Value.str (Str.ofString "/claim/cut.py") 516] }) ::
  (nat_lit 194, (fnO (stAt 31) (Str.ofString "is_whole_target") (Value.str (Str.ofString "z80.bprogram") 404) 193)) ::
  (nat_lit 195, { cls := Value.type "tuple", data := Data.seq #[] }) ::
  (nat_lit 198, { cls := Value.type "code", data := Data.fields #[Value.str (Str.ofString "lost_targets") 518, Value.str (Str.ofString "lost_targets") 519, Value.str (Str.ofString "/claim/cut.py") 520, Value.int 173 0, Value.int 1 0, Value.int 0 0, Value.int 0 0, Value.int 3 0, Value.ref 195, Value.bool true, Value.int 181 0, Value.ref 196, Value.none, Value.none, Value.none, Value.ref 197, Value.int 521 0, Value.int 173 0, Value.str (Str.ofString "/claim/cut.py") 522] }) ::
  (nat_lit 199, (fnO (stAt 32) (Str.ofString "lost_targets") (Value.str (Str.ofString "z80.bprogram") 404) 198)) ::
  (nat_lit 200, { cls := Value.type "tuple", data := Data.seq #[] }) ::
  (nat_lit 203, { cls := Value.type "code", data := Data.fields #[Value.str (Str.ofString "new_numbers") 524, Value.str (Str.ofString "new_numbers") 525, Value.str (Str.ofString "/claim/cut.py") 526, Value.int 178 0, Value.int 4 0, Value.int 0 0, Value.int 0 0, Value.int 3 0, Value.ref 200, Value.bool true, Value.int 181 0, Value.ref 201, Value.none, Value.none, Value.none, Value.ref 202, Value.int 527 0, Value.int 178 0, Value.str (Str.ofString "/claim/cut.py") 528] }) ::
  (nat_lit 204, (fnO (stAt 33) (Str.ofString "new_numbers") (Value.str (Str.ofString "z80.bprogram") 404) 203)) ::
  (nat_lit 205, { cls := Value.type "tuple", data := Data.seq #[] }) ::
  (nat_lit 207, { cls := Value.type "tuple", data := Data.seq #[Value.str (Str.ofString "row") 533, Value.str (Str.ofString "ways") 534, Value.str (Str.ofString "found") 535, Value.str (Str.ofString "at") 536] }) ::
  (nat_lit 208, { cls := Value.type "tuple", data := Data.seq #[] }) ::
  (nat_lit 210, { cls := Value.type "code", data := Data.fields #[Value.str (Str.ofString "led_row") 530, Value.str (Str.ofString "led_row") 531, Value.str (Str.ofString "/claim/cut.py") 532, Value.int 185 0, Value.int 2 0, Value.int 0 0, Value.int 0 0, Value.int 3 0, Value.ref 205, Value.bool true, Value.int 181 0, Value.ref 206, Value.none, Value.ref 207, Value.ref 208, Value.ref 209, Value.int 537 0, Value.int 185 0, Value.str (Str.ofString "/claim/cut.py") 538] }) ::
  (nat_lit 211, (fnO (stAt 34) (Str.ofString "led_row") (Value.str (Str.ofString "z80.bprogram") 404) 210)) ::
  (nat_lit 212, { cls := Value.type "tuple", data := Data.seq #[] }) ::
  (nat_lit 215, { cls := Value.type "code", data := Data.fields #[Value.str (Str.ofString "renumber") 540, Value.str (Str.ofString "renumber") 541, Value.str (Str.ofString "/claim/cut.py") 542, Value.int 190 0, Value.int 4 0, Value.int 0 0, Value.int 0 0, Value.int 3 0, Value.ref 212, Value.bool true, Value.int 181 0, Value.ref 213, Value.none, Value.none, Value.none, Value.ref 214, Value.int 543 0, Value.int 190 0, Value.str (Str.ofString "/claim/cut.py") 544] }) ::
  (nat_lit 216, (fnO (stAt 35) (Str.ofString "renumber") (Value.str (Str.ofString "z80.bprogram") 404) 215)) ::
  (nat_lit 217, { cls := Value.type "tuple", data := Data.seq #[] }) ::
  (nat_lit 219, { cls := Value.type "tuple", data := Data.seq #[Value.str (Str.ofString "pot") 551, Value.str (Str.ofString "many") 552] }) ::
  (nat_lit 220, { cls := Value.type "tuple", data := Data.seq #[] }) ::
  (nat_lit 222, { cls := Value.type "code", data := Data.fields #[Value.str (Str.ofString "_law_ladled") 548, Value.str (Str.ofString "_law_ladled") 549, Value.str (Str.ofString "/claim/cut.py") 550, Value.int 199 0, Value.int 2 0, Value.int 0 0, Value.int 0 0, Value.int 3 0, Value.ref 217, Value.bool true, Value.int 181 0, Value.ref 218, Value.none, Value.ref 219, Value.ref 220, Value.ref 221, Value.int 553 0, Value.int 199 0, Value.str (Str.ofString "/claim/cut.py") 554] }) ::
  (nat_lit 223, (fnO (stAt 37) (Str.ofString "_law_ladled") (Value.str (Str.ofString "law_rh0269_01") 546) 222)) ::
  (nat_lit 224, { cls := Value.type "tuple", data := Data.seq #[] }) ::
  (nat_lit 227, { cls := Value.type "code", data := Data.fields #[Value.str (Str.ofString "_law_due") 556, Value.str (Str.ofString "_law_due") 557, Value.str (Str.ofString "/claim/cut.py") 558, Value.int 202 0, Value.int 4 0, Value.int 0 0, Value.int 0 0, Value.int 3 0, Value.ref 224, Value.bool true, Value.int 181 0, Value.ref 225, Value.none, Value.none, Value.none, Value.ref 226, Value.int 559 0, Value.int 202 0, Value.str (Str.ofString "/claim/cut.py") 560] }) ::
  (nat_lit 228, (fnO (stAt 38) (Str.ofString "_law_due") (Value.str (Str.ofString "law_rh0269_01") 546) 227)) ::
  (nat_lit 229, { cls := Value.type "tuple", data := Data.seq #[] }) ::
  (nat_lit 232, { cls := Value.type "code", data := Data.fields #[Value.str (Str.ofString "law") 562, Value.str (Str.ofString "law") 563, Value.str (Str.ofString "/claim/cut.py") 564, Value.int 210 0, Value.int 1 0, Value.int 0 0, Value.int 0 0, Value.int 3 0, Value.ref 229, Value.bool true, Value.int 181 0, Value.ref 230, Value.none, Value.none, Value.none, Value.ref 231, Value.int 565 0, Value.int 210 0, Value.str (Str.ofString "/claim/cut.py") 566] }) ::
  (nat_lit 233, (fnO (stAt 39) (Str.ofString "law") (Value.str (Str.ofString "law_rh0269_01") 546) 232)) ::
  []
noncomputable def hd.view_39 : Program := { PgT with main := { PgT.main with body := [7, 39].filterMap fun i => PgT.main.body[i]? } }
noncomputable def looL : List Str := [Str.ofString "WORDS", Str.ofString "SIGNS", Str.ofString "DIGITS", Str.ofString "LETTERS", Str.ofString "BLANKS", Str.ofString "MOST_NUMBER", Str.ofString "great_sign", Str.ofString "great_text", Str.ofString "word_at", Str.ofString "sign_at", Str.ofString "behind_blanks", Str.ofString "read_number", Str.ofString "read_name", Str.ofString "read_quoted", Str.ofString "read_item", Str.ofString "read_items", Str.ofString "read_token", Str.ofString "tokens_of", Str.ofString "GREATEST", Str.ofString "JUMPS", Str.ofString "Program", Str.ofString "place_of", Str.ofString "has_line", Str.ofString "put_line", Str.ofString "split_number", Str.ofString "enter_row", Str.ofString "enter_all", Str.ofString "targets", Str.ofString "is_whole_target", Str.ofString "lost_targets", Str.ofString "new_numbers", Str.ofString "led_row", Str.ofString "renumber", Str.ofString "_law_ladled", Str.ofString "_law_due"]
noncomputable def asL : List Addr := [2, 3, 15, 16, 17, 24, 26, 27, 29, 30, 31, 32, 33, 34, 37, 39, 40, 42, 43, 44, 47, 48, 49, 51, 52, 54, 55, 56, 58, 59, 61, 62, 63, 65, 66, 68, 69, 70, 72, 73, 75, 76, 77, 79, 80, 82, 83, 84, 86, 87, 89, 90, 91, 93, 94, 96, 97, 98, 100, 101] ++ [103, 104, 105, 107, 108, 110, 111, 112, 114, 115, 117, 118, 119, 127, 129, 130, 132, 133, 134, 135, 136, 137, 138, 141, 143, 144, 146, 147, 148, 150, 151, 153, 154, 155, 157, 158, 160, 161, 162, 164, 165, 167, 168, 169, 171, 172, 174, 175, 176, 178, 179, 181, 182, 183, 186, 187, 188, 190, 191, 193] ++ [194, 195, 198, 199, 200, 203, 204, 205, 207, 208, 210, 211, 212, 215, 216, 217, 219, 220, 222, 223, 224, 227, 228, 229, 232, 233]
theorem asL_is : ∀ P, asL = (hd.heap_39 P).map (·.1) := fun P => by kernel_rfl
noncomputable abbrev hookL : Hook := kHook hd.heap_39 asL asL_is
theorem hd_run1 : ∀ (w : World) (os : OsState), (PySem.W.Fast.tw14082659384304107361 PySem.W.Fast.tw14364793385576792824 PgT w 11 (some (Value.ref 6)) 1455
   ⟨boot_heap w.params, Array.mk [], boot_drawn, boot_toks, os⟩ (topStub PgT)).map (fun s => 
    (staticsOk (importedModules PgT.main.body) (boot_heap w.params) s.heap && namesBound PgT s.heap && gensDone s && laidKept (boot_heap w.params) s.heap, PySem.W.Fast.tw4187177175401517315 hd.view_39 looL (importedModules PgT.main.body) (fun s => PySem.W.xlAt hd.view_39 [] s && PySem.W.recOk PySem.Challenge.rw_rh0269_01.row.records s) true s, hookL.obs s)) =
   some (true, openGood hd.view_39 looL, hookL.val w) := fun w os => by kernel_rfl
theorem hd_run (w : World) (os : OsState) :
   (topRun treeTable PgT w 11 (some (Value.ref 6)) 1455 ⟨boot_heap w.params, Array.mk [], boot_drawn, boot_toks, os⟩ (topStub PgT)).map (fun s => 
    (staticsOk (importedModules PgT.main.body) (boot_heap w.params) s.heap && namesBound PgT s.heap && gensDone s && laidKept (boot_heap w.params) s.heap, openSeen hd.view_39 looL (importedModules PgT.main.body) (fun s => PySem.W.xlAt hd.view_39 [] s && PySem.W.recOk PySem.Challenge.rw_rh0269_01.row.records s) true s, hookL.obs s)) =
   some (true, openGood hd.view_39 looL, hookL.val w) := by
  rw [PySem.W.Fast.te14082659384304107361, PySem.W.Fast.te14364793385576792824, PySem.W.Fast.te4187177175401517315]
  exact hd_run1 w os
theorem left_of {p q : Program} {loose : List Str} {Xt : Shared → Bool} {α : Type} {Yf : Shared → α} {Ya : World → α} {N M : Nat}
    (open_ : ∀ w : World, (fencedOpening treeTable p w N).map (fun s => (s.heap, s.gens, s.drawn, s.toks)) = some (boot_heap w.params, Array.mk [], boot_drawn, boot_toks))
    (size : ∀ w : World, ((boot_heap w.params).isNs mainGlobals && (Array.mk [] : Array GenState).size == 0, (boot_heap w.params).objs.size, (boot_heap w.params).nsMap mainGlobals "__annotations__") = (true, 11, some (Value.ref 6)))
    (run : ∀ (w : World) (os : OsState), (topRun treeTable p w 11 (some (Value.ref 6)) M ⟨boot_heap w.params, Array.mk [], boot_drawn, boot_toks, os⟩ (topStub p)).map (fun s => 
        (staticsOk (importedModules p.main.body) (boot_heap w.params) s.heap && namesBound p s.heap && gensDone s && laidKept (boot_heap w.params) s.heap, openSeen q loose (importedModules p.main.body) Xt true s, Yf s)) = some (true, openGood q loose, Ya w)) (le : Nat.ble M N = true) :
    LeftO p q loose Xt Yf Ya N := by
  intro w
  have ho := open_ w
  have hz := size w
  cases he : fencedOpening treeTable p w N with
  | none => simp [he] at ho
  | some s₀ =>
    simp only [he, Option.map_some, Option.some.injEq, Prod.mk.injEq] at ho hz
    obtain ⟨os, rfl⟩ : ∃ os, s₀ = ⟨boot_heap w.params, Array.mk [], boot_drawn, boot_toks, os⟩ := ⟨s₀.os, by cases s₀; simp_all only⟩
    have hr := run w os
    cases ht : topRun treeTable p w 11 (some (Value.ref 6)) M ⟨boot_heap w.params, Array.mk [], boot_drawn, boot_toks, os⟩ (topStub p) with
    | none => simp [ht] at hr
    | some s =>
      simp only [ht, Option.map_some, Option.some.injEq, Prod.mk.injEq] at hr
      have hN := topRun_mono (N - M) M _ _ _ ht
      rw [Nat.add_sub_cancel' (Nat.le_of_ble_eq_true le)] at hN
      have hs : topFrom treeTable p w N ⟨boot_heap w.params, Array.mk [], boot_drawn, boot_toks, os⟩ = some s := by
        simp only [topFrom, hz.1, hz.2.1, hz.2.2, hN, Option.bind_some, hr.1]
      simp only [openEnds, he, Option.bind_some, hs, Option.map_some, hr.2.1, hr.2.2]
theorem hd_size (w : World) : ((boot_heap w.params).isNs mainGlobals && (Array.mk [] : Array GenState).size == 0, (boot_heap w.params).objs.size, (boot_heap w.params).nsMap mainGlobals "__annotations__") = (true, 11, some (Value.ref 6)) := by kernel_rfl
theorem hd_said1 : PySem.W.Fast.tw9446332074065402090 PySem.Challenge.rw_rh0269_01 = true := by kernel_rfl
theorem hd_said : PySem.Challenge.rw_rh0269_01.wellSaid = true := (congrFun PySem.W.Fast.te9446332074065402090 _).trans hd_said1
noncomputable def lawP : { d : DefRec // defOf hd.view_39 (Str.ofString "law") = some (d, []) } := ⟨_, rfl⟩
theorem hd_open1 : opening PgT = plainProg PgT.main.scope.names := by kernel_rfl
theorem hd_open2 : ∀ s, fenceModules? PgT s = some s := fun s => by kernel_rfl
theorem hd_ok : (chainsOk hd.view_39 && opensWell PgT && (frees PySem.Challenge.rw_rh0269_01.row.toRowW && PySem.Challenge.rw_rh0269_01.row.within.isEmpty)) = true := by kernel_rfl
theorem hd (walk : WalkO hd.view_39 looL (XL hd.view_39 []) hookL.says PySem.Challenge.rw_rh0269_01.row.toRowW lawP.1 [] fun f vs => PySem.call f vs) : PySem.Challenge.rw_rh0269_01.Holds := by
  refine holds_law hd_said fun said => ?_
  refine holds_open (q := hd.view_39) (loose := looL) (Xt := fun s => xlAt hd.view_39 [] s && recOk PySem.Challenge.rw_rh0269_01.row.records s) (XP := XL hd.view_39 []) (Yf := hookL.obs) (Ya := hookL.val) (YP := hookL.says) (N := 2998) ?hl (Hook.of hookL) (Hook.keeps hookL) (fun s e => xl_of s (Bool.and_eq_true_iff.mp e).1) XL.keeps lawP.2 ?h1 ?h2 (fun s e => recFacts_of (Bool.and_eq_true_iff.mp e).2) (by rfl) said hd_ok ?h3 ?hw walk
  case hl => exact left_of (boot_open hd_open1 rfl hd_open2) hd_size hd_run rfl
  case h1 => rfl
  case h2 => rfl
  case h3 => exact ⟨rfl, rfl, rfl, rfl, rfl, by decide +kernel⟩
  case hw => w_witness2
end
theorem fill_frag : (PySem.Challenge.rw_rh0269_01 = PySem.Challenge.rw_rh0269_01) → (Mine.hd.heap_39 = Mine.hd.heap_39) → True := by k_fill; intros; trivial
local macro_rules | `(tactic| walk_at $s:str) => `(tactic| k_extra $s)
section
noncomputable abbrev Loo := looseW hd.view_39 looL
noncomputable abbrev Pg := PySem.Challenge.rw_rh0269_01.prog
section
variable {w : World} {mean : ExcName → Option Value} {mg mb : Str → Option Value} {dp un : Nat} {gd : Option (List Code)} {cn : Str} {cs : Scope} {a : Addr} {ccd : Value} {cl : List (Str × Addr)} {outer : List Env} {A₀ : Around} {base h₀ : Heap} {L : Addr} {m : Str → Option Value} {s : Shared} {Q E : Value → Shared → Prop} {news : List (Addr × Obj)}

/-- a stop for looking -/
structure Halt (P : Prop) : Prop where
  h : P
theorem whl_next {h₀ h' : Heap} {L : Addr} {s : Shared} {J : Nat → (Str → Option Value) → List (Addr × Obj) → Prop} {Q : Flow → Shared → Prop} {n : Nat} (n' : Nat) {m₂ : Str → Option Value} {news₂ : List (Addr × Obj)} {tk : Nat}
    (F : Fr h₀ L h' m₂) (N : News h₀ L h' news₂) (hn : n' < n) (hj : J n' m₂ news₂) : WhileStep2 h₀ L s J Q n .next ⟨h', s.gens, s.drawn, tk, s.os⟩ := ⟨h', tk, m₂, news₂, n', rfl, F, N, hn, hj⟩

/-- the program object stands in the ledger: itself, its dict, its two lists -/
structure PIn (news : List (Addr × Obj)) (p dx nl rl : Addr) (h1 h2 : Int) (t1 t2 : Tok) (vs rs : List Value) (e1 e2 : Nat) : Prop where
  inst : (p, instObj 136 dx) ∈ news
  dict : (dx, dictOf [⟨h1, .str (Str.ofString "numbers") t1, .ref nl⟩, ⟨h2, .str (Str.ofString "rows") t2, .ref rl⟩] 2) ∈ news
  nums : (nl, listOf vs.toArray e1) ∈ news
  rows : (rl, listOf rs.toArray e2) ∈ news
theorem news_in {h₀ h : Heap} {L : Addr} {news news' : List (Addr × Obj)} (N : News h₀ L h news) (hs : ∀ q ∈ news', q ∈ news) : News h₀ L h news' := fun q hq => N q (hs q hq)
theorem PIn.pre {news : List (Addr × Obj)} {p dx nl rl : Addr} {h1 h2 : Int} {t1 t2 : Tok} {vs rs : List Value} {e1 e2 : Nat} (P : PIn news p dx nl rl h1 h2 t1 t2 vs rs e1 e2) {h₀ h : Heap} {L : Addr} (N : News h₀ L h news) :
    News h₀ L h ((p, instObj 136 dx) :: (dx, dictOf [⟨h1, .str (Str.ofString "numbers") t1, .ref nl⟩, ⟨h2, .str (Str.ofString "rows") t2, .ref rl⟩] 2) :: (nl, listOf vs.toArray e1) :: (rl, listOf rs.toArray e2) :: news) :=
  news_in N fun q hq => by
    rcases List.mem_cons.mp hq with rfl | hq
    · exact P.inst
    rcases List.mem_cons.mp hq with rfl | hq
    · exact P.dict
    rcases List.mem_cons.mp hq with rfl | hq
    · exact P.nums
    rcases List.mem_cons.mp hq with rfl | hq
    · exact P.rows
    exact hq

noncomputable def IsPlace (ns : List Int) (k : Int) (r : Int) : Prop := 0 ≤ r ∧ r ≤ ns.length ∧ (∀ i : Nat, (i : Int) < r → ns.getD i 0 < k) ∧ (∀ i : Nat, r ≤ i → i < ns.length → k ≤ ns.getD i 0)

theorem fdiv2 (x : Int) : x.fdiv 2 = x / 2 := Int.fdiv_eq_ediv_of_nonneg x (by decide)
theorem sorted_getD {ns : List Int} (hs : ns.Pairwise (· < ·)) {i j : Nat} (hij : i < j) (hj : j < ns.length) : ns.getD i 0 < ns.getD j 0 := by
  have h := (List.pairwise_iff_getElem.mp hs) i j (by omega) hj hij
  simpa [List.getD_eq_getElem?_getD, List.getElem?_eq_getElem (show i < ns.length by omega), List.getElem?_eq_getElem hj] using h
theorem place_up {ns : List Int} {k lo hi : Int} (hs : ns.Pairwise (· < ·)) (b1 : 0 ≤ lo) (b3 : hi ≤ ns.length) (hlt : lo < hi)
    (hm : ns.getD ((lo + hi).fdiv 2).toNat 0 < k) : 0 ≤ (lo + hi).fdiv 2 + 1 ∧ (lo + hi).fdiv 2 + 1 ≤ hi ∧ (∀ i : Nat, (i : Int) < (lo + hi).fdiv 2 + 1 → ns.getD i 0 < k) := by
  rw [fdiv2] at *
  refine ⟨by omega, by omega, fun i h => ?_⟩
  by_cases e : (i : Int) = (lo + hi) / 2
  · have : i = ((lo + hi) / 2).toNat := by omega
    rw [this]; exact hm
  · exact Int.lt_trans (sorted_getD hs (show i < ((lo + hi) / 2).toNat by omega) (by omega)) hm
theorem place_down {ns : List Int} {k lo hi : Int} (hs : ns.Pairwise (· < ·)) (b1 : 0 ≤ lo) (b3 : hi ≤ ns.length) (hlt : lo < hi)
    (hm : ¬ ns.getD ((lo + hi).fdiv 2).toNat 0 < k) : lo ≤ (lo + hi).fdiv 2 ∧ (lo + hi).fdiv 2 < hi ∧ (∀ i : Nat, (lo + hi).fdiv 2 ≤ i → i < ns.length → k ≤ ns.getD i 0) := by
  rw [fdiv2] at *
  refine ⟨by omega, by omega, fun i h hi' => ?_⟩
  by_cases e : (i : Int) = (lo + hi) / 2
  · have : i = ((lo + hi) / 2).toNat := by omega
    rw [this]; omega
  · have := sorted_getD hs (show ((lo + hi) / 2).toNat < i by omega) hi'
    omega

theorem place_of_spec {p dx nl rl : Addr} {h1 h2 : Int} {t1 t2 : Tok} {vs rs : List Value} {ns : List Int} {e1 e2 : Nat} {k : Int} {t : Tok}
    (B : Below A₀ base outer h₀) (F : Fr h₀ L s.heap m) (X : (hd.heap_39 w.params).In h₀) (N : News h₀ L s.heap news)
    (T : Top hd.view_39 Loo mean mg mb h₀) (hk : cs.kind = .function) (hdp : dp + 4 < recursionLimit) (hu : un + 8 < cLine)
    (P : PIn news p dx nl rl h1 h2 t1 t2 vs rs e1 e2) (hi : IntsAre vs ns) (hlen : ns.length < 1000) (hs : ns.Pairwise (· < ·))
    (hret : ∀ (r : Int) (t : Tok) h' tk', IsPlace ns k r → Fr h₀ L h' m → News h₀ L h' news → Q (.int r t) {s with heap := h', toks := tk'}) :
    wpAny (model Pg w) (ktrTop dp un gd cn cs L a ccd cl outer) (call (.ref 147) [.ref p, .int k t]) Q E s := by
  have N' := P.pre N
  clear N
  k_with_none
  (k_with "eval Name" => (k_here; (with_reducible show wpAny _ _ (eval (Expr.Name _ _) (envOf _ _ _ _ _)) _ _ _); k_dflt (refine' ld ?nx1 ?nx2 ?_; (case nx1 => k_asm); (case nx2 => (first | (with_reducible assumption) | ((repeat' (first | exact if_pos rfl | refine (if_neg (by decide)).trans ?_)) <;> (with_reducible assumption)))); k_whole)))
  (k_with "eval Name" => (k_here; (with_reducible show wpAny _ _ (eval (Expr.Name _ _) (envOfC _ _ _ _ _)) _ _ _); k_dflt (refine' nameX_L ?nx1 ?nx2 ?_ ?nxa ?nxb; (case nx1 => k_asm); (case nxa => rfl); (case nxb => rfl); (case nx2 => (first | (with_reducible assumption) | ((repeat' (first | exact if_pos rfl | refine (if_neg (by decide)).trans ?_)) <;> (with_reducible assumption)))); k_whole)))
  (k_with "loadName" => (k_here; k_dflt (refine' ldn ?nx1 ?nx2 ?_; (case nx1 => k_asm); (case nx2 => (first | (with_reducible assumption) | ((repeat' (first | exact if_pos rfl | refine (if_neg (by decide)).trans ?_)) <;> (with_reducible assumption)))); k_whole)))
  (k_with "exec While" => (
    refine While_inv2 (n₀ := ns.length) (fun n m₁ news₁ => ∃ (lo hi' : Int) (ta tb : Tok), news₁ = _ ∧
      m₁ (Str.ofString "program") = some (.ref p) ∧ m₁ (Str.ofString "number") = some (.int k t) ∧ m₁ (Str.ofString "least") = some (.int lo ta) ∧ m₁ (Str.ofString "most") = some (.int hi' tb) ∧
      0 ≤ lo ∧ lo ≤ hi' ∧ hi' ≤ ns.length ∧ (∀ i : Nat, (i : Int) < lo → ns.getD i 0 < k) ∧ (∀ i : Nat, hi' ≤ i → i < ns.length → k ≤ ns.getD i 0) ∧ (n : Int) = hi' - lo)
      (by assumption) (by assumption) ⟨0, ns.length, _, _, rfl, rfl, rfl, rfl, rfl, by omega, by omega, by omega, by intro i h; omega, by intro i h; omega, by omega⟩ ?turn
    rintro n m₁ news₁ h₁ tk₁ F₁ N₁ ⟨lo, hi', ta, tb, rfl, e1, e2, e3, e4, b1, b2, b3, b4, b5, b6⟩
    try dsimp only))
  refine wpAny_call ?_
  k_dflt cell_enter
  k_steps
  · obtain ⟨c1, c2, c3⟩ := place_up hs b1 b3 (by assumption) (by assumption)
    refine' whl_next (hi' - ((lo + hi').fdiv 2 + 1)).toNat (by assumption) (by assumption) ?_ ⟨_, _, _, _, rfl, ?a1, ?a2, ?a3, ?a4, c1, c2, b3, c3, b5, ?_⟩
    case a1 => ((repeat' (first | exact if_pos rfl | refine (if_neg (by decide)).trans ?_)) <;> (first | (with_reducible assumption) | rfl))
    case a2 => ((repeat' (first | exact if_pos rfl | refine (if_neg (by decide)).trans ?_)) <;> (first | (with_reducible assumption) | rfl))
    case a3 => ((repeat' (first | exact if_pos rfl | refine (if_neg (by decide)).trans ?_)) <;> (first | (with_reducible assumption) | rfl))
    case a4 => ((repeat' (first | exact if_pos rfl | refine (if_neg (by decide)).trans ?_)) <;> (first | (with_reducible assumption) | rfl))
    all_goals (rw [fdiv2] at *; omega)
  · obtain ⟨c1, c2, c3⟩ := place_down hs b1 b3 (by assumption) (by assumption)
    refine' whl_next ((lo + hi').fdiv 2 - lo).toNat (by assumption) (by assumption) ?_ ⟨_, _, _, _, rfl, ?a1, ?a2, ?a3, ?a4, b1, c1, ?_, b4, c3, ?_⟩
    case a1 => ((repeat' (first | exact if_pos rfl | refine (if_neg (by decide)).trans ?_)) <;> (first | (with_reducible assumption) | rfl))
    case a2 => ((repeat' (first | exact if_pos rfl | refine (if_neg (by decide)).trans ?_)) <;> (first | (with_reducible assumption) | rfl))
    case a3 => ((repeat' (first | exact if_pos rfl | refine (if_neg (by decide)).trans ?_)) <;> (first | (with_reducible assumption) | rfl))
    case a4 => ((repeat' (first | exact if_pos rfl | refine (if_neg (by decide)).trans ?_)) <;> (first | (with_reducible assumption) | rfl))
    all_goals (rw [fdiv2] at *; omega)
  · have e : lo = hi' := by omega
    subst e
    exact hret _ _ _ _ ⟨b1, b3, b4, b5⟩ (by assumption) (news_in (by assumption) (by kcj_all))
end
end
section
section
variable {prog : Program} {w : World} {A : Around} {E : Value → Shared → Prop} {s : Shared} {h₀ : Heap} {L : Addr} {m : Str → Option Value} {env : Env}
open PySem.Spec PyProof.Rows.LCg

theorem wp_then {M : Model} {A : Around} {α β : Type} {x : Sem α} {f : α → Sem β} {R : α → Shared → Prop} {Q : β → Shared → Prop} {E : Value → Shared → Prop} {s : Shared}
    (h : wpAny M A x R E s) (next : ∀ a s', R a s' → wpAny M A (f a) Q E s') : wpAny M A (x >>= f) Q E s := wpAny_bind (wpAny_mono h next fun _ _ => id)
theorem compLoop_gen {elt target iter : PySem.Expr} {ifs : List PySem.Expr} {scope : Scope} {pos : Pos} {it acc : Value} {env : Env} {R : Result → Shared → Prop} (I : Nat → Shared → Prop)
    (turn : ∀ n s, I n s → wpAny (model prog w) A (pyNext it) (fun r s₁ => match r with
      | none => R (.ok .next) s₁
      | some v => wpAny (model prog w) A (letOwnedTupleGo target it v) (fun _ s₁' => wpAny (model prog w) A (assign target env v) (fun _ s₂ =>
          wpAny (model prog w) A (forIn ifs true fun c r => if r = true then do let ok ← isTrue c env (eval c env); pure (ForInStep.yield ok) else pure (ForInStep.yield r)) (fun ok s₃ =>
            if ok = true then wpAny (model prog w) A (eval elt env) (fun x s₄ =>
              wpAny (model prog w) A (call (.builtin "list.append") [acc, x]) (fun _ s₅ => ∃ m, m < n ∧ I m s₅) (notedBy (model prog w) A env fun e s' => R (.error e) s') s₄) (notedBy (model prog w) A env fun e s' => R (.error e) s') s₃
            else ∃ m, m < n ∧ I m s₃) (notedBy (model prog w) A env fun e s' => R (.error e) s') s₂)
          (notedBy (model prog w) A env fun e s' => R (.error e) s') s₁') (notedBy (model prog w) A env fun e s' => R (.error e) s') s₁) (notedBy (model prog w) A env fun e s' => R (.error e) s') s)
    (n : Nat) (h : I n s) : codeAny (model prog w) A (.compLoop (.ListComp elt [⟨target, iter, ifs, 0⟩] scope pos) 0 it acc env) R s := by
  refine codeAny_loop rfl I (fun k s₀ hI => ?_) n h
  change wpAny _ A (Sem.onRaise (compTurn _ 0 it acc env) fun x => do noteFrame x env; theTreesLotGoes x) _ _ s₀
  apply wpAny_noted
  rw [compTurn_list]
  refine wpAny_bind (wpAny_standAt (wp_then (turn k s₀ hI) fun r s₁ hr => ?_))
  rcases r with _ | v
  · exact wpAny_pure hr
  · refine wp_then hr fun _ s₂ h₂ => wp_then h₂ fun _ s₃ h₃ => wp_then h₃ fun ok s₄ h₄ => ?_
    rcases ok with _ | _
    · exact wpAny_pure ⟨rfl, h₄⟩
    · exact wpAny_bind (wp_then h₄ fun _ s₅ h₅ => wp_then h₅ fun _ s₆ h₆ => wpAny_pure (wpAny_pure ⟨rfl, h₆⟩))

/-- the end of a comprehension's turn -/
noncomputable def CEnd (h₀ : Heap) (L : Addr) (m : Str → Option Value) (wr : List Addr) (own : List (Addr × Obj)) (C : Addr) (oC : Obj) (D : Addr) (ys : List Value) (J' : List (Addr × Obj) → Prop) (s₁ s₂ : Shared) : Prop :=
  ∃ h' tk news', s₂ = { s₁ with heap := h', toks := tk } ∧ Fr h₀ L h' m ∧ News h₀ L h' ((C, oC) :: (D, lst ys) :: (news' ++ own)) ∧ (∀ p ∈ news', p.1 ≠ C ∧ p.1 ≠ D ∧ p.1 ∉ wr) ∧ J' news'
noncomputable abbrev CTests (prog : Program) (w : World) (A : Around) (ifs : List PySem.Expr) (env : Env) (Q : Bool → Shared → Prop) (E : Value → Shared → Prop) (s : Shared) : Prop :=
  wpAny (model prog w) A (forIn ifs true fun c r => if r = true then do let ok ← isTrue c env (eval c env); pure (ForInStep.yield ok) else pure (ForInStep.yield r)) Q E s

/-- two objects laid one behind the other, the second one written on since: what lay there still does, and the first one is there -/
theorem two_new {h h₁ : Heap} {o oE : Obj} (ho : o.isFreed = false) (hs : Heap.SameBut (h.push o).objs.size ((h.push o).push oE) h₁) :
    (∀ b o', h.get? b = some o' → h₁.get? b = some o' ∧ b ≠ (h.push o).objs.size ∧ b ≠ h.objs.size) ∧ h₁.get? h.objs.size = some o ∧ (h.push o).objs.size = h.objs.size + 1 := by
  have e := Heap.size_push h o
  have up : ∀ b o', b < (h.push o).objs.size → (h.push o).get? b = some o' → h₁.get? b = some o' := fun b o' hb q =>
    (hs.2 b (Nat.ne_of_lt hb)).trans (Heap.get?_push_of_some _ q)
  have lt : h.objs.size < (h.push o).objs.size := e ▸ Nat.lt_succ_self _
  exact ⟨fun b o' q => ⟨up b o' (Nat.lt_trans (Heap.lt_size q) lt) (Heap.get?_push_of_some _ q), Nat.ne_of_lt (Nat.lt_trans (Heap.lt_size q) lt), Nat.ne_of_lt (Heap.lt_size q)⟩, up _ _ lt (Heap.get?_push_size h ho), e⟩

theorem comp_core {elt target iter : PySem.Expr} {ifs : List PySem.Expr} {scope : Scope} {cl : List (Str × Addr)} {pos : Pos} {s₂ : Shared} {I : Addr} {fp wr : List Addr} {n : Nat} {P Md : Nat → Value → Heap → Prop} {St : Nat → Heap → Prop}
    {news : List (Addr × Obj)} {Bnd : Nat → (Str → Option Value) → Heap → Prop} {RR : Value → Addr → Result → Shared → Prop}
    (W : KTurns prog w A target I fp wr n P Md St) (hself : ∀ (s : Shared) (Q E : Value → Shared → Prop), St 0 s.heap → Q (.ref I) s → wpAny (model prog w) A (pyIter (.ref I)) Q E s)
    {Kn : Prop} (hkn : Kn → ∀ i h, St i h → ∀ b ∈ wr, ∃ o, h.get? b = some o) (hsz : n ≤ sizeLine) (hcell : ∀ y ∈ scope.names, y.2 ≠ .cell) (hkind : scope.kind = .function)
    (hst : St 0 s₂.heap) (hfp : ∀ b ∈ fp, b < s₂.heap.objs.size) (hLf : L ∉ fp) (hwr : ∀ b ∈ wr, h₀.get? b = none)
    (F : Fr h₀ L s₂.heap m) (N : News h₀ L s₂.heap news) (hnw : ∀ p ∈ news, p.1 ∉ wr)
    (J : Nat → List Value → List (Addr × Obj) → Prop) (hJ : J 0 [] news)
    (hasg : ∀ i v C mC (s₃ : Shared) (Q' : Unit → Shared → Prop) E', h₀.get? C = none → C ≠ L → C ∉ fp → i < n → P i v s₃.heap → s₃.heap.Ns C mC →
      (∀ h' tk m₂, Bnd i m₂ h' → h'.Ns C m₂ → (∀ b o, b ≠ C → s₃.heap.get? b = some o → h'.get? b = some o) → Q' () { s₃ with heap := h', toks := tk }) →
      wpAny (model prog w) A (assign target (compEnvC scope cl C env) v) Q' E' s₃)
    (turn : ∀ i ys news₁ own C oC D m₂ h tk E', i < n → Bnd i m₂ h → NsObj oC m₂ → J i ys news₁ → ys.length ≤ i → Fr h₀ L h m → News h₀ L h ((C, oC) :: (D, lst ys) :: (news₁ ++ own)) →
      (∀ p ∈ news₁, p.1 ≠ C ∧ p.1 ≠ D ∧ p.1 ∉ wr) → C ≠ D → (Kn → ∀ b ∈ wr, ∃ o, (b, o) ∈ own) →
      CTests prog w A ifs (compEnvC scope cl C env) (fun ok s₄ => if ok = true then wpAny (model prog w) A (eval elt (compEnvC scope cl C env))
          (fun y s₅ => CEnd h₀ L m wr own C oC D ys (fun news' => J (i + 1) (ys ++ [y]) news') { s₂ with heap := h, toks := tk } s₅) E' s₄
        else CEnd h₀ L m wr own C oC D ys (fun news' => J (i + 1) ys news') { s₂ with heap := h, toks := tk } s₄) E' { s₂ with heap := h, toks := tk })
    (hRR : ∀ D C h tk m' ys news', J n ys news' → Fr h₀ L h m → News h₀ L h ((D, lst ys) :: news') → (∀ p ∈ news', p.1 ≠ D) → h.Ns C m' → h₀.get? C = none → h₀.get? D = none → C ≠ L → D ≠ L → C ≠ D → (∀ p ∈ news', p.1 ≠ C) →
      RR (.ref D) C (.ok .next) { s₂ with heap := h, toks := tk }) :
    wpAny (model prog w) A (newList []) (fun acc s₃ => wpAny (model prog w) A (newFunctionEnv scope env.globals cl [] env.qual none .none (some env)) (fun cenv s₄ =>
      codeAny (model prog w) A (.compStart (.ListComp elt [⟨target, iter, ifs, 0⟩] scope pos) 0 (.ref I) acc { cenv with scope := relabel scope env }) (RR acc cenv.locals) s₄) E s₃) E s₂ := by
  refine wpAny_newObj_type (wpAny_newFunctionEnv hcell (fun y hy => absurd hy List.not_mem_nil) (fun h₁ hns₁ hsb₁ => ?_) hkind)
  dsimp only at hns₁ hsb₁ ⊢
  obtain ⟨hpast, hlist, hnext⟩ := two_new rfl hsb₁
  revert hpast hlist hnext hns₁ hsb₁
  generalize (s₂.heap.push { cls := .type "list", dict := none, data := .seq ([] : List Value).toArray }).objs.size = cC
  intro hns₁ _ hpast hlist hnext
  have hDC : s₂.heap.objs.size ≠ cC := fun e => Nat.succ_ne_self _ (hnext.symm.trans e.symm)
  have old : ∀ b o, s₂.heap.get? b = some o → h₁.get? b = some o := fun b o e => (hpast b o e).1
  have hacc : h₁.get? s₂.heap.objs.size = some (lst []) := hlist
  have hst₁ : St 0 h₁ := W.frame 0 _ _ hst (fun b _ o => old b o)
  -- neither address is known to the outer heap, the frame or the source
  have new₀ : ∀ a, s₂.heap.objs.size ≤ a → h₀.get? a = none ∧ a ≠ L ∧ a ∉ fp := fun a ha =>
    ⟨Option.eq_none_iff_forall_ne_some.mpr fun o e => Nat.not_lt.mpr ha (Heap.lt_size (F.keep a o e)), fun e => Nat.not_lt.mpr ha (e ▸ F.ns.lt), fun hm => Nat.not_lt.mpr ha (hfp a hm)⟩
  obtain ⟨hD₀, hDL, hDf⟩ := new₀ s₂.heap.objs.size (Nat.le_refl _)
  obtain ⟨hC₀, hCL, hCf⟩ := new₀ cC (hnext ▸ Nat.le_succ _)
  have hLw : L ∉ wr := fun h => hLf (W.sub _ h)
  have hCw : cC ∉ wr := fun h => hCf (W.sub _ h)
  have hDw : s₂.heap.objs.size ∉ wr := fun h => hDf (W.sub _ h)
  have old₀ : ∀ b o, h₀.get? b = some o → b ∉ wr := fun b o e hb => by rw [hwr b hb] at e; cases e
  have off₀ : ∀ p ∈ news, p.1 ≠ cC ∧ p.1 ≠ s₂.heap.objs.size ∧ p.1 ∉ wr := fun p hp => ⟨(hpast _ _ (N p hp).1).2.1, (hpast _ _ (N p hp).1).2.2, hnw p hp⟩
  have loop : ∀ s₃ : Shared, s₃ = { s₂ with heap := h₁, toks := s₂.toks + ([] : List (Str × Value)).length } →
      codeAny (model prog w) A (.compLoop (.ListComp elt [⟨target, iter, ifs, 0⟩] scope pos) 0 (.ref I) (.ref s₂.heap.objs.size) (compEnvC scope cl cC env))
        (RR (.ref s₂.heap.objs.size) cC) s₃ := by
    rintro s₃ rfl
    refine compLoop_gen
      (fun k s' => ∃ h' tk i ys m' news', s' = { s₂ with heap := h', toks := tk } ∧ i ≤ n ∧ k = n + 1 - i ∧ ys.length ≤ i ∧ St i h' ∧ Fr h₀ L h' m ∧ h'.Ns cC m' ∧ News h₀ L h' ((s₂.heap.objs.size, lst ys) :: news') ∧
        (∀ p ∈ news', p.1 ≠ cC ∧ p.1 ≠ s₂.heap.objs.size ∧ p.1 ∉ wr) ∧ J i ys news') ?_ (n + 1)
      ⟨h₁, _, 0, [], _, news, rfl, Nat.zero_le _, rfl, Nat.le_refl _, hst₁, F.keeps old, hns₁, fun p hp => ?_, off₀, hJ⟩
    · rintro k s' ⟨h', tk, i, ys, m', news', rfl, hi, rfl, hyl, hst', F', hn', N', off', hJ'⟩
      have upF : ∀ h₂ : Heap, (∀ b o, b ∉ wr → h'.get? b = some o → h₂.get? b = some o) → Fr h₀ L h₂ m := fun h₂ hk => ⟨F'.ns.at' fun o e => hk L o hLw e, fun b o e => hk b o (old₀ b o e) (F'.keep b o e), F'.above⟩
      have upN : ∀ h₂ : Heap, (∀ b o, b ∉ wr → h'.get? b = some o → h₂.get? b = some o) → News h₀ L h₂ ((s₂.heap.objs.size, lst ys) :: news') := fun h₂ hk p hp =>
        ⟨hk _ _ (by rcases List.mem_cons.mp hp with rfl | hp; exact hDw; exact (off' p hp).2.2) (N' p hp).1, (N' p hp).2⟩
      by_cases hlt : i < n
      · refine W.item i _ _ _ hlt hst' fun v h₂ tk₂ hMd hk₂ => ?_
        refine W.go i v _ _ _ hMd fun h₃ hP hst₃ hk₃ => ?_
        have hk : ∀ b o, b ∉ wr → h'.get? b = some o → h₃.get? b = some o := fun b o hb e => hk₃ b o hb (hk₂ b o hb e)
        refine hasg i v cC m' _ _ _ hC₀ hCL hCf hlt hP (hn'.at' fun o e => hk _ o hCw e) fun h₄ tk₄ m₂ hB hn₄ hk₄ => ?_
        have hst₄ : St (i + 1) h₄ := W.frame _ _ _ hst₃ fun b hb o e => hk₄ b o (fun q => hCf (q ▸ hb)) e
        have F₄ : Fr h₀ L h₄ m := by
          have z := upF h₃ hk
          exact ⟨z.ns.at' fun o e => hk₄ L o (Ne.symm hCL) e, fun b o e => hk₄ b o (fun q => by rw [q, hC₀] at e; cases e) (z.keep b o e), z.above⟩
        obtain ⟨oC, heC, hoC⟩ := ns_obj hn₄
        have N₄ : News h₀ L h₄ ((cC, oC) :: (s₂.heap.objs.size, lst ys) :: (news' ++ ownOf h₀ fp h₄)) := fun p hp => by
          rcases List.mem_cons.mp hp with rfl | hp
          · exact ⟨heC, hCL, hC₀⟩
          · have z := upN h₃ hk
            rcases List.mem_cons.mp hp with rfl | hp
            · exact ⟨hk₄ _ _ hDC (z _ List.mem_cons_self).1, (z _ List.mem_cons_self).2⟩
            · rcases List.mem_append.mp hp with hp | hp
              · exact ⟨hk₄ _ _ (off' p hp).1 (z _ (List.mem_cons_of_mem _ hp)).1, (z _ (List.mem_cons_of_mem _ hp)).2⟩
              · exact news_ownOf hLf p hp
        have fin : ∀ (ys' : List Value) (s₅ : Shared), CEnd h₀ L m wr (ownOf h₀ fp h₄) cC oC s₂.heap.objs.size ys (fun news' => J (i + 1) ys' news') { s₂ with heap := h₄, toks := tk₄ } s₅ →
            ∃ h₅ tk₅ news₅, s₅ = { s₂ with heap := h₅, toks := tk₅ } ∧ Fr h₀ L h₅ m ∧ News h₀ L h₅ news₅ ∧ h₅.get? s₂.heap.objs.size = some (lst ys) ∧ h₅.Ns cC m₂ ∧ St (i + 1) h₅ ∧ (∀ p ∈ news₅, p.1 ≠ cC ∧ p.1 ≠ s₂.heap.objs.size ∧ p.1 ∉ wr) ∧ J (i + 1) ys' news₅ := by
          rintro ys' s₅ ⟨h₅, tk₅, news₅, rfl, F₅, N₅, off₅, J₅⟩
          refine ⟨h₅, tk₅, news₅, rfl, F₅, fun p hp => N₅ p (List.mem_cons_of_mem _ (List.mem_cons_of_mem _ (List.mem_append_left _ hp))), (N₅ _ (List.mem_cons_of_mem _ List.mem_cons_self)).1, hoC.ns (N₅ _ List.mem_cons_self).1, W.frame _ _ _ hst₄ fun b hb o e => ?_, off₅, J₅⟩
          cases hn : h₀.get? b with
          | some o₀ =>
            have : o₀ = o := by have q := F₄.keep b o₀ hn; rw [e] at q; exact (Option.some.inj q).symm
            exact this ▸ F₅.keep b o₀ hn
          | none => exact (N₅ _ (List.mem_cons_of_mem _ (List.mem_cons_of_mem _ (List.mem_append_right _ (mem_ownOf hb hn e))))).1
        refine wpAny_mono (turn i ys news' (ownOf h₀ fp h₄) cC oC s₂.heap.objs.size m₂ h₄ tk₄ _ hlt hB hoC hJ' hyl F₄ N₄ off' (Ne.symm hDC) fun kn b hb => by obtain ⟨o, e⟩ := hkn kn (i + 1) h₄ hst₄ b hb; exact ⟨o, mem_ownOf (W.sub b hb) (hwr b hb) e⟩) (fun ok s₅ h₅ => ?_) fun _ _ e => e
        cases ok with
        | false =>
          simp only [Bool.false_eq_true, if_false] at h₅ ⊢
          obtain ⟨H5, tk₅, news₅, rfl, F₅, N₅, zD, zC, hst₅, off₅, J₅⟩ := fin ys s₅ h₅
          refine ⟨n + 1 - (i + 1), by omega, H5, tk₅, i + 1, ys, _, news₅, rfl, hlt, rfl, Nat.le_succ_of_le hyl, hst₅, F₅, zC, fun p hp => ?_, off₅, J₅⟩
          rcases List.mem_cons.mp hp with rfl | hp
          · exact ⟨zD, hDL, hD₀⟩
          · exact N₅ p hp
        | true =>
          simp only [if_true] at h₅ ⊢
          refine wpAny_mono h₅ (fun y s₆ h₆ => ?_) fun _ _ e => e
          obtain ⟨H5, tk₅, news₅, rfl, F₅, N₅, zD, zC, hst₅, off₅, J₅⟩ := fin (ys ++ [y]) s₆ h₆
          refine append_at (hsz := by show ys.toArray.size ≤ sizeLine; rw [List.size_toArray]; exact Nat.le_trans hyl (Nat.le_trans hi hsz)) zD fun h₆ hs₆ hD₆ => ?_
          refine ⟨n + 1 - (i + 1), by omega, h₆, tk₅, i + 1, ys ++ [y], _, news₅, rfl, hlt, rfl, by rw [List.length_append, List.length_singleton]; exact Nat.succ_le_succ hyl, W.frame _ _ _ hst₅ fun b hb o e => hs₆.extBut b o (fun q => hDf (q ▸ hb)) e, F₅.change hs₆ hDL hD₀,
            zC.sameBut hs₆ (Ne.symm hDC), fun p hp => ?_, off₅, J₅⟩
          rcases List.mem_cons.mp hp with rfl | hp
          · exact ⟨hD₆.trans (congrArg some (lst_snoc ys y)), hDL, hD₀⟩
          · exact ⟨hs₆.extBut _ _ (off₅ p hp).2.1 (N₅ p hp).1, (N₅ p hp).2⟩
      · obtain rfl : i = n := Nat.le_antisymm hi (Nat.not_lt.mp hlt)
        refine W.done _ _ _ hst' fun h₂ tk₂ hk₂ => ?_
        exact hRR _ _ h₂ tk₂ _ ys news' hJ' (upF h₂ hk₂) (upN h₂ hk₂) (fun p hp => (off' p hp).2.1) (hn'.at' fun o e => hk₂ _ o hCw e) hC₀ hD₀ hCL hDL (Ne.symm hDC) (fun p hp => (off' p hp).1)
    · rcases List.mem_cons.mp hp with rfl | hp
      · exact ⟨hacc, hDL, hD₀⟩
      · exact ⟨old _ _ (N p hp).1, (N p hp).2⟩
  exact codeAny_compStart_list (loop _ rfl) (hself _ _ _ hst₁ (loop _ rfl))
end
end
section
section
variable {prog : Program} {w : World} {A : Around} {E : Value → Shared → Prop} {s : Shared} {h₀ : Heap} {L : Addr} {m : Str → Option Value} {env : Env}
open PySem.Spec PyProof.Rows.LCg

/-- a comprehension at its iterator -/
noncomputable def CompAt (prog : Program) (w : World) (A : Around) (h₀ : Heap) (L : Addr) (m : Str → Option Value) (env : Env) (elt target : PySem.Expr) (ifs : List PySem.Expr) (scope : Scope) (cl : List (Str × Addr))
    (Fin : Shared → List Value → List (Addr × Obj) → Prop) (it : Value) (s₂ : Shared) : Prop :=
  ∃ (I : Addr) (fp wr : List Addr) (n : Nat) (P Md : Nat → Value → Heap → Prop) (St : Nat → Heap → Prop) (news : List (Addr × Obj)) (Bnd : Nat → (Str → Option Value) → Heap → Prop) (J : Nat → List Value → List (Addr × Obj) → Prop) (Kn : Prop),
    (Kn → ∀ i h, St i h → ∀ b ∈ wr, ∃ o, h.get? b = some o) ∧ it = .ref I ∧ KTurns prog w A target I fp wr n P Md St ∧ (∀ (s : Shared) (Q E : Value → Shared → Prop), St 0 s.heap → Q (.ref I) s → wpAny (model prog w) A (pyIter (.ref I)) Q E s) ∧ n ≤ sizeLine ∧
    St 0 s₂.heap ∧ (∀ b ∈ fp, b < s₂.heap.objs.size) ∧ L ∉ fp ∧ (∀ b ∈ wr, h₀.get? b = none) ∧ Fr h₀ L s₂.heap m ∧ News h₀ L s₂.heap news ∧ (∀ p ∈ news, p.1 ∉ wr) ∧ J 0 [] news ∧
    (∀ i v C mC (s₃ : Shared) (Q' : Unit → Shared → Prop) E', h₀.get? C = none → C ≠ L → C ∉ fp → i < n → P i v s₃.heap → s₃.heap.Ns C mC →
      (∀ h' tk m₂, Bnd i m₂ h' → h'.Ns C m₂ → (∀ b o, b ≠ C → s₃.heap.get? b = some o → h'.get? b = some o) → Q' () { s₃ with heap := h', toks := tk }) →
      wpAny (model prog w) A (assign target (compEnvC scope cl C env) v) Q' E' s₃) ∧
    (∀ i ys news₁ own C oC D m₂ h tk E', i < n → Bnd i m₂ h → NsObj oC m₂ → J i ys news₁ → ys.length ≤ i → Fr h₀ L h m → News h₀ L h ((C, oC) :: (D, lst ys) :: (news₁ ++ own)) →
      (∀ p ∈ news₁, p.1 ≠ C ∧ p.1 ≠ D ∧ p.1 ∉ wr) → C ≠ D → (Kn → ∀ b ∈ wr, ∃ o, (b, o) ∈ own) →
      CTests prog w A ifs (compEnvC scope cl C env) (fun ok s₄ => if ok = true then wpAny (model prog w) A (eval elt (compEnvC scope cl C env))
          (fun y s₅ => CEnd h₀ L m wr own C oC D ys (fun news' => J (i + 1) (ys ++ [y]) news') { s₂ with heap := h, toks := tk } s₅) E' s₄
        else CEnd h₀ L m wr own C oC D ys (fun news' => J (i + 1) ys news') { s₂ with heap := h, toks := tk } s₄) E' { s₂ with heap := h, toks := tk }) ∧
    (∀ ys news', J n ys news' → Fin s₂ ys news')

noncomputable def FinG (h₀ : Heap) (L : Addr) (m : Str → Option Value) (Q : Value → Shared → Prop) (s : Shared) (ys : List Value) (news : List (Addr × Obj)) : Prop :=
  ∀ D h tk, Fr h₀ L h m → News h₀ L h ((D, lst ys) :: news) → (∀ p ∈ news, p.1 ≠ D) → Q (.ref D) { s with heap := h, toks := tk }
noncomputable def FinB (h₀ : Heap) (L : Addr) (m : Str → Option Value) (y : Str) (Q : Flow → Shared → Prop) (s : Shared) (ys : List Value) (news : List (Addr × Obj)) : Prop :=
  ∀ D h tk, Fr h₀ L h (fun z => if z = y then some (.ref D) else m z) → News h₀ L h ((D, lst ys) :: news) → (∀ p ∈ news, p.1 ≠ D) → Q .next { s with heap := h, toks := tk }

/-- a ledger past a write at one address that is none of its own -/
theorem news_past {g h h' : Heap} {B a : Addr} {news : List (Addr × Obj)} (N : News g B h news) (hs : Heap.SameBut a h h') (off : ∀ p ∈ news, p.1 ≠ a) : News g B h' news :=
  fun p hp => ⟨hs.extBut _ _ (off p hp) (N p hp).1, (N p hp).2⟩
theorem ListComp_G {elt target iter : PySem.Expr} {ifs : List PySem.Expr} {scope : Scope} (cl : List (Str × Addr)) {pos : Pos} {Q : Value → Shared → Prop} (_F₀ : Fr h₀ L s.heap m)
    (hclos : closureFor scope env = pure cl) (hcell : ∀ y ∈ scope.names, y.2 ≠ .cell) (hkind : scope.kind = .function)
    (hnames : ∀ y ∈ scope.names, y.2 = .local → scope.names.lookup y.1 = some .local)
    (h : wpAny (model prog w) A (eval iter env) (fun xv s₁ => wpAny (model prog w) A (pyIter xv) (CompAt prog w A h₀ L m env elt target ifs scope cl (FinG h₀ L m Q)) E s₁) E s)
    (hs : ∀ x, foldedSetIterable iter env x = pure x := by intro _; rfl) :
    wpAny (model prog w) A (eval (.ListComp elt [⟨target, iter, ifs, 0⟩] scope pos) env) Q E s := by
  rw [eval_ListComp]
  refine wpAny_comprehension_free (use := none) rfl hs hclos hkind hnames (wpAny_mono h (fun xv s₁ h₁ => wpAny_mono h₁ (fun it s₂ h₂ => ?_) fun _ _ e => e) fun _ _ e => e)
  obtain ⟨I, fp, wr, n, P, Md, St, news, Bnd, J, Kn, hkn, rfl, W, hself, hsz, hst, hfp, hLf, hwr, F, N, hnw, hJ, hasg, turn, fin⟩ := h₂
  refine comp_core W hself hkn hsz hcell hkind hst hfp hLf hwr F N hnw J hJ hasg turn ?_
  intro D C h tk m' ys news' hJn F' N' offD hn hC₀ hD₀ hCL hDL hCD offC
  exact ⟨m', hn, fun h'' hs'' => fin ys news' hJn D h'' tk (F'.change hs'' hCL hC₀) (news_past N' hs'' (List.forall_mem_cons.mpr ⟨Ne.symm hCD, offC⟩)) offD⟩

theorem Assign_ListComp_G {elt target iter : PySem.Expr} {ifs : List PySem.Expr} {scope : Scope} (cl : List (Str × Addr)) {y : Str} {py pos spos : Pos} {Q : Flow → Shared → Prop} (_F₀ : Fr h₀ L s.heap m) (hLe : env.locals = L)
    (hsw : swapsWith (.ListComp elt [⟨target, iter, ifs, 0⟩] scope pos) (some (.Name y py)) spos.line env = pure true)
    (hclos : closureFor scope env = pure cl) (hcell : ∀ z ∈ scope.names, z.2 ≠ .cell) (hkind : scope.kind = .function)
    (hnames : ∀ z ∈ scope.names, z.2 = .local → scope.names.lookup z.1 = some .local)
    (hy : env.kindOf y = some .local) (hp : (env.scope.kind == .class || (env.scope.kind == .module && env.locals != env.globals)) = false)
    (h : wpAny (model prog w) A (eval iter env) (fun xv s₁ => wpAny (model prog w) A (pyIter xv) (CompAt prog w A h₀ L m env elt target ifs scope cl (FinB h₀ L m y Q)) E s₁) E s)
    (hs : ∀ x, foldedSetIterable iter env x = pure x := by intro _; rfl) :
    wpAny (model prog w) A (exec (.Assign [.Name y py] (.ListComp elt [⟨target, iter, ifs, 0⟩] scope pos) spos) env) Q E s := by
  subst hLe
  rw [exec_Assign_Name_used _ _ _ _ hsw]
  refine wpAny_bind (wpAny_standAt (wpAny_bind ?_))
  show wpAny _ A (do let _ ← comprehension (.ListComp elt [⟨target, iter, ifs, 0⟩] scope pos) scope env _ (newList []) false (eval iter env) (some (assign (.Name y py) env))) _ _ s
  refine wpAny_bind (wpAny_mono (wpAny_comprehension_free (use := some (assign (.Name y py) env)) (Q := fun _ s' => Q .next s') rfl hs hclos hkind hnames
    (wpAny_mono h (fun xv s₁ h₁ => wpAny_mono h₁ (fun it s₂ h₂ => ?_) fun _ _ e => e) fun _ _ e => e)) (fun _ s' hq => wpAny_pure (wpAny_pure hq)) fun _ _ e => e)
  obtain ⟨I, fp, wr, n, P, Md, St, news, Bnd, J, Kn, hkn, rfl, W, hself, hsz, hst, hfp, hLf, hwr, F, N, hnw, hJ, hasg, turn, fin⟩ := h₂
  refine comp_core W hself hkn hsz hcell hkind hst hfp hLf hwr F N hnw J hJ hasg turn ?_
  intro D C h' tk m' ys news' hJn F' N' offD hn hC₀ hD₀ hCL hDL hCD offC
  apply wpAny_assign_Name
  refine wpAny_storeName_local hy F'.ns (fun h₂ hn₂ hs₂ => ?_) hp
  have N₂ := news_past N' hs₂ fun p hp => (N' p hp).2.1
  exact ⟨m', hn.sameBut hs₂ hCL, fun h'' hs'' => fin ys news' hJn D h'' _ ((F'.set hn₂ hs₂).change hs'' hCL hC₀) (news_past N₂ hs'' (List.forall_mem_cons.mpr ⟨Ne.symm hCD, offC⟩)) offD⟩

theorem asg_name {x : Str} {px : Pos} {scope : Scope} {cl : List (Str × Addr)} {C : Addr} {mC : Str → Option Value} {v : Value} {s₃ : Shared} {Q' : Unit → Shared → Prop} {E' : Value → Shared → Prop} {Bnd : (Str → Option Value) → Heap → Prop}
    (hkind : scope.kind = .function) (hx : scope.names.lookup x = some .local) (hn : s₃.heap.Ns C mC) (hB : ∀ m₂ h', m₂ x = some v → (∀ b o, b ≠ C → s₃.heap.get? b = some o → h'.get? b = some o) → Bnd m₂ h')
    (k : ∀ h' tk m₂, Bnd m₂ h' → h'.Ns C m₂ → (∀ b o, b ≠ C → s₃.heap.get? b = some o → h'.get? b = some o) → Q' () { s₃ with heap := h', toks := tk }) :
    wpAny (model prog w) A (assign (.Name x px) (compEnvC scope cl C env) v) Q' E' s₃ := by
  refine wpAny_assign_Name (wpAny_storeName_local (lookup_relabel_local hx) hn (fun h₂ hn₂ hs₂ => ?_) (by simp [compEnvC, relabel, hkind]))
  have up : ∀ b o, b ≠ C → s₃.heap.get? b = some o → h₂.get? b = some o := fun b o hb e => hs₂.extBut b o hb e
  exact k h₂ _ _ (hB _ _ (by simp) up) hn₂ up
theorem asg_pair {x x₂ : Str} {px px₂ tp : Pos} {tk₀} {scope : Scope} {cl : List (Str × Addr)} {C T : Addr} {mC : Str → Option Value} {v₁ v₂ : Value} {s₃ : Shared} {Q' : Unit → Shared → Prop} {E' : Value → Shared → Prop} {Bnd : (Str → Option Value) → Heap → Prop}
    (hh : A.handled = none) (hkind : scope.kind = .function) (hx : scope.names.lookup x = some .local) (hx₂ : scope.names.lookup x₂ = some .local) (hxx : x ≠ x₂) (hn : s₃.heap.Ns C mC) (hT : IsTup s₃.heap T #[v₁, v₂])
    (hB : ∀ m₂ h', m₂ x = some v₁ → m₂ x₂ = some v₂ → (∀ b o, b ≠ C → s₃.heap.get? b = some o → h'.get? b = some o) → Bnd m₂ h')
    (k : ∀ h' tk m₂, Bnd m₂ h' → h'.Ns C m₂ → (∀ b o, b ≠ C → s₃.heap.get? b = some o → h'.get? b = some o) → Q' () { s₃ with heap := h', toks := tk }) :
    wpAny (model prog w) A (assign (.Tuple [.Name x px, .Name x₂ px₂] tk₀ tp) (compEnvC scope cl C env) (.ref T)) Q' E' s₃ := by
  refine assign_Tuple_tuple hh hT rfl rfl fun h₅ he => ?_
  have he' : ∀ b o, s₃.heap.get? b = some o → h₅.get? b = some o := fun b o e => he b o (Nat.ne_of_lt (Heap.lt_size e)) e
  refine assignInOrder_cons (wpAny_assign_Name (wpAny_storeName_local (lookup_relabel_local hx) (hn.at' fun o e => he' _ o e) (fun h₆ hn₆ hs₆ => ?_) (by simp [compEnvC, relabel, hkind])))
  refine assignInOrder_cons (wpAny_assign_Name (wpAny_storeName_local (lookup_relabel_local hx₂) hn₆ (fun h₃ hn₃ hs₃ => ?_) (by simp [compEnvC, relabel, hkind])))
  refine assignInOrder_nil ?_
  have up : ∀ b o, b ≠ C → s₃.heap.get? b = some o → h₃.get? b = some o := fun b o hb e => hs₃.extBut b o hb (hs₆.extBut b o hb (he' b o e))
  exact k h₃ _ _ (hB _ _ (by simp [hxx]) (by simp) up) hn₃ up

noncomputable abbrev CTurn (prog : Program) (w : World) (A : Around) (h₀ : Heap) (L : Addr) (m : Str → Option Value) (env : Env) (elt : PySem.Expr) (ifs : List PySem.Expr) (scope : Scope) (cl : List (Str × Addr)) (wr : List Addr) (J : Nat → List Value → List (Addr × Obj) → Prop) (s₂ : Shared)
    (i : Nat) (ys : List Value) (own : List (Addr × Obj)) (C : Addr) (oC : Obj) (D : Addr) (h : Heap) (tk : Nat) (E' : Value → Shared → Prop) : Prop :=
  CTests prog w A ifs (compEnvC scope cl C env) (fun ok s₄ => if ok = true then wpAny (model prog w) A (eval elt (compEnvC scope cl C env))
      (fun y s₅ => CEnd h₀ L m wr own C oC D ys (fun news' => J (i + 1) (ys ++ [y]) news') { s₂ with heap := h, toks := tk } s₅) E' s₄
    else CEnd h₀ L m wr own C oC D ys (fun news' => J (i + 1) ys news') { s₂ with heap := h, toks := tk } s₄) E' { s₂ with heap := h, toks := tk }

/-- over the signs of a text -/
theorem comp_str {elt : PySem.Expr} {ifs : List PySem.Expr} {scope : Scope} {cl : List (Str × Addr)} {x : Str} {px : Pos} {y : Str} {t : Tok} {news : List (Addr × Obj)} {Fin : Shared → List Value → List (Addr × Obj) → Prop}
    (hh : A.handled = none) (hsz : y.length ≤ sizeLine) (F : Fr h₀ L s.heap m) (N : News h₀ L s.heap news) (hkind : scope.kind = .function) (hx : scope.names.lookup x = some .local)
    (J : Nat → List Value → List (Addr × Obj) → Prop) (hJ : J 0 [] news)
    (turn : ∀ i c u ys news₁ own C oC D m₂ h tk E', y.cps[i]? = some c → m₂ x = some (.str ⟨#[c]⟩ u) → NsObj oC m₂ → J i ys news₁ → ys.length ≤ i → Fr h₀ L h m → News h₀ L h ((C, oC) :: (D, lst ys) :: (news₁ ++ own)) →
      (∀ p ∈ news₁, p.1 ≠ C ∧ p.1 ≠ D ∧ p.1 ∉ [s.heap.objs.size]) → C ≠ D → CTurn prog w A h₀ L m env elt ifs scope cl [s.heap.objs.size] J s i ys own C oC D h tk E')
    (fin : ∀ g ys news', J y.cps.size ys news' → Fin { s with heap := g } ys news') :
    wpAny (model prog w) A (pyIter (.str y t)) (CompAt prog w A h₀ L m env elt (.Name x px) ifs scope cl Fin) E s := by
  refine wpAny_pyIter_str fun o St W hst => ?_
  have up : ∀ b o', s.heap.get? b = some o' → (s.heap.push o).get? b = some o' := fun b o' e => Heap.get?_push_of_some _ e
  refine ⟨s.heap.objs.size, [s.heap.objs.size], [s.heap.objs.size], y.cps.size, fun i v _ => SignAt y i v, _, St, news, fun i m₂ _ => ∃ c u, y.cps[i]? = some c ∧ m₂ x = some (.str ⟨#[c]⟩ u), J, False, nofun, rfl,
    KTurns.ofWalks (W A hh) (fun _ _ _ _ _ _ hq => wpAny_pure hq), fun s' Q' E' st hq => (W A hh).self 0 s' Q' E' st hq, hsz, hst, ?_, ?_, ?_, F.keeps up, N.grown up, ?_, hJ, ?_, ?_, fun ys news' hj => fin _ ys news' hj⟩
  · intro b hb
    show b < (s.heap.push o).objs.size
    rw [Heap.size_push, List.mem_singleton.mp hb]; exact Nat.lt_succ_self _
  · intro hm; rw [List.mem_singleton] at hm; exact absurd F.ns.lt (hm ▸ Nat.lt_irrefl _)
  · intro b hb; rw [List.mem_singleton.mp hb]; exact next_is_new F
  · intro p hp hm; rw [List.mem_singleton] at hm; exact absurd (Heap.lt_size (N p hp).1) (hm ▸ Nat.lt_irrefl _)
  · intro i v C mC s₃ Q' E' hC₀ hCL hCf hi hP hn k
    obtain ⟨c, u, hc, rfl⟩ := hP
    exact asg_name hkind hx hn (fun m₂ h' e _ => ⟨c, u, hc, e⟩) k
  · rintro i ys news₁ own C oC D m₂ h tk E' hi ⟨c, u, hc, hm⟩ hoC hJ' hyl F' N' off hCD _
    exact turn i c u ys news₁ own C oC D m₂ h tk E' hc hm hoC hJ' hyl F' N' off hCD

/-- over a list of the ledger -/
theorem comp_list {elt : PySem.Expr} {ifs : List PySem.Expr} {scope : Scope} {cl : List (Str × Addr)} {x : Str} {px : Pos} {l : Addr} {vs : List Value} {e : Nat} {news : List (Addr × Obj)} {Fin : Shared → List Value → List (Addr × Obj) → Prop}
    (hh : A.handled = none) (F : Fr h₀ L s.heap m) (N : News h₀ L s.heap news) (hl : (l, listOf vs.toArray e) ∈ news) (hsz : vs.length ≤ sizeLine) (hkind : scope.kind = .function) (hx : scope.names.lookup x = some .local)
    (J : Nat → List Value → List (Addr × Obj) → Prop) (hJ : J 0 [] news)
    (turn : ∀ i v ys news₁ own C oC D m₂ h tk E', vs[i]? = some v → m₂ x = some v → NsObj oC m₂ → J i ys news₁ → ys.length ≤ i → Fr h₀ L h m → News h₀ L h ((C, oC) :: (D, lst ys) :: (news₁ ++ own)) →
      (∀ p ∈ news₁, p.1 ≠ C ∧ p.1 ≠ D ∧ p.1 ∉ [s.heap.objs.size]) → C ≠ D → (∀ b ∈ [s.heap.objs.size], ∃ o, (b, o) ∈ own) → CTurn prog w A h₀ L m env elt ifs scope cl [s.heap.objs.size] J s i ys own C oC D h tk E')
    (fin : ∀ g ys news', J vs.length ys news' → Fin { s with heap := g } ys news') :
    wpAny (model prog w) A (pyIter (.ref l)) (CompAt prog w A h₀ L m env elt (.Name x px) ifs scope cl Fin) E s := by
  have hN := N _ hl
  have hL : s.heap.IsList l vs.toArray := ⟨_, hN.1, rfl, _, rfl⟩
  have hlt : l < s.heap.objs.size := Heap.lt_size hN.1
  refine wpAny_pyIter_list hL ?_
  have up : ∀ b o, s.heap.get? b = some o → (s.heap.push { cls := .type "list_iterator", data := .fields #[.ref l, .int 0 0] }).get? b = some o := fun b o e => Heap.get?_push_of_some _ e
  refine ⟨s.heap.objs.size, [s.heap.objs.size, l], [s.heap.objs.size], vs.toArray.size, fun i v _ => vs.toArray[i]? = some v, _, _, news, fun i m₂ _ => ∃ v, vs[i]? = some v ∧ m₂ x = some v, J, True, (fun _ i h st b hb => by obtain ⟨⟨oi, e, _⟩, _⟩ := st; rw [List.mem_singleton.mp hb]; exact ⟨oi, e⟩), rfl,
    KTurns.ofWalks (Walks.list hh s.heap.objs.size l (Nat.ne_of_lt hlt) vs.toArray) (fun _ _ _ _ _ _ hq => wpAny_pure hq), fun s' Q' E' st hq => (Walks.list hh s.heap.objs.size l (Nat.ne_of_lt hlt) vs.toArray).self 0 s' Q' E' st hq, by simpa using hsz,
    ⟨⟨_, Heap.get?_push_size _ rfl, rfl, rfl⟩, hL.push _⟩, ?_, ?_, ?_, F.keeps up, N.grown up, ?_, hJ, ?_, ?_, fun ys news' hj => fin _ ys news' (by simpa using hj)⟩
  · intro b hb
    show b < (s.heap.push _).objs.size
    rw [Heap.size_push]
    rcases List.mem_cons.mp hb with rfl | hb
    · exact Nat.lt_succ_self _
    · rw [List.mem_singleton.mp hb]; exact Nat.lt_succ_of_lt hlt
  · intro hm
    rcases List.mem_cons.mp hm with e | hm
    · exact absurd F.ns.lt (e ▸ Nat.lt_irrefl _)
    · exact hN.2.1 (List.mem_singleton.mp hm).symm
  · intro b hb; rw [List.mem_singleton.mp hb]; exact next_is_new F
  · intro p hp hm; rw [List.mem_singleton] at hm; exact absurd (Heap.lt_size (N p hp).1) (hm ▸ Nat.lt_irrefl _)
  · intro i v C mC s₃ Q' E' hC₀ hCL hCf hi hP hn k
    exact asg_name hkind hx hn (fun m₂ h' e _ => ⟨v, by simpa using hP, e⟩) k
  · rintro i ys news₁ own C oC D m₂ h tk E' hi ⟨v, hv, hm⟩ hoC hJ' hyl F' N' off hCD hwo
    exact turn i v ys news₁ own C oC D m₂ h tk E' hv hm hoC hJ' hyl F' N' off hCD (hwo trivial)

noncomputable def refsOf : List Value → List Addr
  | [] => []
  | .ref T :: r => T :: refsOf r
  | _ :: r => refsOf r
theorem mem_refsOf {T : Addr} : ∀ {vs : List Value}, T ∈ refsOf vs ↔ Value.ref T ∈ vs
  | [] => by simp [refsOf]
  | v :: r => by
    cases v <;> simp [refsOf, mem_refsOf (vs := r)]
/-- over a list of pairs, unpacked -/
theorem comp_pairs {elt : PySem.Expr} {ifs : List PySem.Expr} {scope : Scope} {cl : List (Str × Addr)} {x x₂ : Str} {px px₂ tp : Pos} {tk₀} {l : Addr} {vs : List Value} {e : Nat} {news : List (Addr × Obj)} {Fin : Shared → List Value → List (Addr × Obj) → Prop}
    (hh : A.handled = none) (F : Fr h₀ L s.heap m) (N : News h₀ L s.heap news) (hl : (l, listOf vs.toArray e) ∈ news) (hsz : vs.length ≤ sizeLine) (hkind : scope.kind = .function) (hx : scope.names.lookup x = some .local) (hx₂ : scope.names.lookup x₂ = some .local) (hxx : x ≠ x₂)
    (ab : Nat → Value × Value) (hp : ∀ i v, vs[i]? = some v → ∃ T k, v = .ref T ∧ (T, ({ cls := .type "tuple", data := .seq #[(ab i).1, (ab i).2] k } : Obj)) ∈ news)
    (J : Nat → List Value → List (Addr × Obj) → Prop) (hJ : J 0 [] news)
    (turn : ∀ i ys news₁ own C oC D m₂ h tk E', i < vs.length → m₂ x = some (ab i).1 → m₂ x₂ = some (ab i).2 → NsObj oC m₂ → J i ys news₁ → ys.length ≤ i → Fr h₀ L h m → News h₀ L h ((C, oC) :: (D, lst ys) :: (news₁ ++ own)) →
      (∀ p ∈ news₁, p.1 ≠ C ∧ p.1 ≠ D ∧ p.1 ∉ [s.heap.objs.size]) → C ≠ D → (∀ b ∈ [s.heap.objs.size], ∃ o, (b, o) ∈ own) → CTurn prog w A h₀ L m env elt ifs scope cl [s.heap.objs.size] J s i ys own C oC D h tk E')
    (fin : ∀ g ys news', J vs.length ys news' → Fin { s with heap := g } ys news') :
    wpAny (model prog w) A (pyIter (.ref l)) (CompAt prog w A h₀ L m env elt (.Tuple [.Name x px, .Name x₂ px₂] tk₀ tp) ifs scope cl Fin) E s := by
  have hN := N _ hl
  have hL : s.heap.IsList l vs.toArray := ⟨_, hN.1, rfl, _, rfl⟩
  have hlt : l < s.heap.objs.size := Heap.lt_size hN.1
  refine wpAny_pyIter_list hL ?_
  have up : ∀ b o, s.heap.get? b = some o → (s.heap.push { cls := .type "list_iterator", data := .fields #[.ref l, .int 0 0] }).get? b = some o := fun b o e => Heap.get?_push_of_some _ e
  let ts : List Addr := refsOf vs
  have hts : ∀ T ∈ ts, ∃ o, (T, o) ∈ news := fun T hT => by
    obtain ⟨i, hi⟩ := List.getElem?_of_mem (mem_refsOf.mp hT)
    obtain ⟨T', k, e, hm'⟩ := hp i _ hi
    cases e
    exact ⟨_, hm'⟩
  have W0 := Walks.list (prog := prog) (w := w) hh s.heap.objs.size l (Nat.ne_of_lt hlt) vs.toArray
  have tsAt : ∀ (i : Nat) (T : Addr), vs[i]? = some (Value.ref T) → T ∈ ts := fun i T hv => mem_refsOf.mpr (List.mem_of_getElem? hv)
  let St : Nat → Heap → Prop := fun i h => (h.IsListIter s.heap.objs.size l i ∧ h.IsList l vs.toArray) ∧ ∀ (i : Nat) (T : Addr), vs[i]? = some (Value.ref T) → IsTup h T #[(ab i).1, (ab i).2]
  have tuple_at : ∀ (h h' : Heap), (∀ T ∈ ts, ∀ o, h.get? T = some o → h'.get? T = some o) → (∀ (i : Nat) (T : Addr), vs[i]? = some (Value.ref T) → IsTup h T #[(ab i).1, (ab i).2]) → ∀ (i : Nat) (T : Addr), vs[i]? = some (Value.ref T) → IsTup h' T #[(ab i).1, (ab i).2] := fun h h' hk ht i T hv => by
    obtain ⟨o, ho, r⟩ := ht i T hv
    exact ⟨o, hk T (tsAt i T hv) o ho, r⟩
  have tsNe : ∀ T ∈ ts, T ∉ [s.heap.objs.size] := fun T hT hm => by
    obtain ⟨o, ho⟩ := hts T hT
    rw [List.mem_singleton] at hm
    exact absurd (Heap.lt_size (N _ ho).1) (hm ▸ Nat.lt_irrefl _)
  have W : Walks prog w A s.heap.objs.size ([s.heap.objs.size, l] ++ ts) [s.heap.objs.size] vs.toArray.size (fun i v => vs.toArray[i]? = some v) St :=
    { sub := fun b hb => List.mem_append_left _ (W0.sub b hb)
      frame := fun i h h' st hk => ⟨W0.frame i h h' st.1 fun b hb o e => hk b (List.mem_append_left _ hb) o e, tuple_at h h' (fun T hT o e => hk T (List.mem_append_right _ hT) o e) st.2⟩
      item := fun i s' Q' E' hi st hQ => W0.item i s' Q' E' hi st.1 fun v h' tk hP st' hk => hQ v h' tk hP ⟨st', tuple_at _ _ (fun T hT o e => hk T o (tsNe T hT) e) st.2⟩ hk
      done := fun s' Q' E' st hQ => W0.done s' Q' E' st.1 hQ
      self := fun i s' Q' E' st hQ => W0.self i s' Q' E' st.1 hQ }
  refine ⟨s.heap.objs.size, [s.heap.objs.size, l] ++ ts, [s.heap.objs.size], vs.toArray.size, fun i v h => vs.toArray[i]? = some v ∧ ∀ T, v = .ref T → IsTup h T #[(ab i).1, (ab i).2], fun i v h => vs.toArray[i]? = some v ∧ St (i + 1) h, St, news, fun i m₂ _ => m₂ x = some (ab i).1 ∧ m₂ x₂ = some (ab i).2, J, True, (fun _ i h st b hb => by obtain ⟨⟨⟨oi, e, _⟩, _⟩, _⟩ := st; rw [List.mem_singleton.mp hb]; exact ⟨oi, e⟩), rfl,
    { sub := W.sub, frame := W.frame, item := fun i s' Q' E' hi st hQ => W.item i s' Q' E' hi st fun v h' tk hP st' hk => hQ v h' tk ⟨hP, st'⟩ hk, done := W.done, go := ?_ }, fun s' Q' E' st hq => W.self 0 s' Q' E' st hq, by simpa using hsz,
    ⟨⟨⟨_, Heap.get?_push_size _ rfl, rfl, rfl⟩, hL.push _⟩, ?_⟩, ?_, ?_, ?_, F.keeps up, N.grown up, ?_, hJ, ?_, ?_, fun ys news' hj => fin _ ys news' (by simpa using hj)⟩
  · intro i v s' Q' E' hm hQ
    obtain ⟨T, kk, rfl, _⟩ := hp i v (by simpa using hm.1)
    refine wpAny_letOwnedTupleGo_listiter hm.2.1.1 ?_
    exact hQ s'.heap ⟨hm.1, fun T' e => hm.2.2 i T' (by rw [← e]; simpa using hm.1)⟩ hm.2 fun _ _ _ e => e
  · intro i T hv
    obtain ⟨T', k, e, hm⟩ := hp i _ hv
    cases e
    exact ⟨_, up _ _ (N _ hm).1, rfl, k, rfl⟩
  · intro b hb
    show b < (s.heap.push _).objs.size
    rw [Heap.size_push]
    rcases List.mem_append.mp hb with hb | hb
    · rcases List.mem_cons.mp hb with rfl | hb
      · exact Nat.lt_succ_self _
      · rw [List.mem_singleton.mp hb]; exact Nat.lt_succ_of_lt hlt
    · obtain ⟨o, ho⟩ := hts b hb
      exact Nat.lt_succ_of_lt (Heap.lt_size (N _ ho).1)
  · intro hm
    rcases List.mem_append.mp hm with hm | hm
    · rcases List.mem_cons.mp hm with e | hm
      · exact absurd F.ns.lt (e ▸ Nat.lt_irrefl _)
      · exact hN.2.1 (List.mem_singleton.mp hm).symm
    · obtain ⟨o, ho⟩ := hts _ hm
      exact (N _ ho).2.1 rfl
  · intro b hb; rw [List.mem_singleton.mp hb]; exact next_is_new F
  · intro p hp hm; rw [List.mem_singleton] at hm; exact absurd (Heap.lt_size (N p hp).1) (hm ▸ Nat.lt_irrefl _)
  · intro i v C mC s₃ Q' E' hC₀ hCL hCf hi hP hn k
    obtain ⟨hv, ht⟩ := hP
    obtain ⟨T, kk, rfl, hm⟩ := hp i v (by simpa using hv)
    exact asg_pair hh hkind hx hx₂ hxx hn (ht T rfl) (fun m₂ h' e1 e2 _ => ⟨e1, e2⟩) k
  · rintro i ys news₁ own C oC D m₂ h tk E' hi ⟨e1, e2⟩ hoC hJ' hyl F' N' off hCD hwo
    exact turn i ys news₁ own C oC D m₂ h tk E' (by simpa using hi) e1 e2 hoC hJ' hyl F' N' off hCD (hwo trivial)

/-- over two lists of the ledger at once -/
theorem comp_zip {elt : PySem.Expr} {ifs : List PySem.Expr} {scope : Scope} {cl : List (Str × Addr)} {x x₂ : Str} {px px₂ tp : Pos} {tk₀} {l1 l2 : Addr} {xs ys₀ : List Value} {e1 e2 : Nat} {news : List (Addr × Obj)} {Fin : Shared → List Value → List (Addr × Obj) → Prop}
    (hh : A.handled = none) (F : Fr h₀ L s.heap m) (N : News h₀ L s.heap news) (hl1 : (l1, listOf xs.toArray e1) ∈ news) (hl2 : (l2, listOf ys₀.toArray e2) ∈ news) (hlen : xs.length = ys₀.length) (hsz : xs.length ≤ sizeLine)
    (hkind : scope.kind = .function) (hx : scope.names.lookup x = some .local) (hx₂ : scope.names.lookup x₂ = some .local) (hxx : x ≠ x₂)
    (J : Nat → List Value → List (Addr × Obj) → Prop) (hJ : J 0 [] news)
    (turn : ∀ i v₁ v₂ ys news₁ own wr C oC D m₂ h tk E', xs[i]? = some v₁ → ys₀[i]? = some v₂ → m₂ x = some v₁ → m₂ x₂ = some v₂ → NsObj oC m₂ → J i ys news₁ → ys.length ≤ i → Fr h₀ L h m → News h₀ L h ((C, oC) :: (D, lst ys) :: (news₁ ++ own)) →
      (∀ b ∈ wr, s.heap.get? b = none) → (∀ p ∈ news₁, p.1 ≠ C ∧ p.1 ≠ D ∧ p.1 ∉ wr) → C ≠ D → (∀ b ∈ wr, ∃ o, (b, o) ∈ own) → CTurn prog w A h₀ L m env elt ifs scope cl wr J s i ys own C oC D h tk E')
    (fin : ∀ g ys news', J xs.length ys news' → Fin { s with heap := g } ys news') :
    wpAny (model prog w) A (call (.type "zip") [.ref l1, .ref l2]) (fun xv s₁ => wpAny (model prog w) A (pyIter xv) (CompAt prog w A h₀ L m env elt (.Tuple [.Name x px, .Name x₂ px₂] tk₀ tp) ifs scope cl Fin) E s₁) E s := by
  have hax1 := N _ hl1
  have hax2 := N _ hl2
  have hL1 : s.heap.IsList l1 xs.toArray := ⟨_, hax1.1, rfl, _, rfl⟩
  have hL2 : s.heap.IsList l2 ys₀.toArray := ⟨_, hax2.1, rfl, _, rfl⟩
  have hlt1 : l1 < s.heap.objs.size := Heap.lt_size hax1.1
  have hlt2 : l2 < s.heap.objs.size := Heap.lt_size hax2.1
  have hLs : L < s.heap.objs.size := F.ns.lt
  have D : ZipApart (s.heap.objs.size + 4) (s.heap.objs.size + 2) (s.heap.objs.size + 3) s.heap.objs.size (s.heap.objs.size + 1) l1 l2 := ktu_apart _ _ _ hlt1 hlt2
  refine call_zip_2 hL1 hL2 fun h' hz hTI hTO hi1 hi2 hsz' hk => ?_
  refine wpAny_pyIter_zip hz ?_
  have W := (WalksT.zip2 (prog := prog) (w := w) hh _ _ _ _ _ _ _ D xs.toArray ys₀.toArray).toU
  have hmin : min xs.toArray.size ys₀.toArray.size = xs.length := by simp [hlen]
  have newb : ∀ b ∈ [s.heap.objs.size + 4, s.heap.objs.size + 3, s.heap.objs.size, s.heap.objs.size + 1], s.heap.objs.size ≤ b := fun b hb => by
    simp only [List.mem_cons, List.not_mem_nil, or_false] at hb
    rcases hb with rfl | rfl | rfl | rfl <;> first | exact Nat.le_add_right _ _ | exact Nat.le_refl _
  refine ⟨_, _, [s.heap.objs.size + 4, s.heap.objs.size + 3, s.heap.objs.size, s.heap.objs.size + 1], _, _, _, _, news, fun i m₂ _ => ∃ v₁ v₂, xs[i]? = some v₁ ∧ ys₀[i]? = some v₂ ∧ m₂ x = some v₁ ∧ m₂ x₂ = some v₂, J, True, (fun _ i h st b hb => by
      obtain ⟨hz, _, ⟨_, _, hTO⟩, ⟨o1, ho1, _⟩, ⟨o2, ho2, _⟩, _⟩ := st
      simp only [List.mem_cons, List.not_mem_nil, or_false] at hb
      rcases hb with rfl | rfl | rfl | rfl
      · exact ⟨_, hz⟩
      · exact ⟨_, hTO⟩
      · exact ⟨o1, ho1⟩
      · exact ⟨o2, ho2⟩), rfl,
    KTurns.ofWalksU W, fun s' Q' E' st hq => W.self 0 s' Q' E' st hq, by rw [hmin]; exact hsz,
    ⟨hz, hTI, ⟨_, _, hTO⟩, hi1, hi2, hL1.at fun o e => hk l1 o e, hL2.at fun o e => hk l2 o e⟩, ?_, ?_, ?_, F.keeps hk, N.grown hk, ?_, hJ, ?_, ?_, fun ys news' hj => fin _ ys news' (by rw [hmin] at hj; exact hj)⟩
  · intro b hb
    show b < h'.objs.size
    rw [hsz']
    simp only [List.mem_cons, List.not_mem_nil, or_false] at hb
    have e1 : ∀ k, k < 5 → s.heap.objs.size + k < s.heap.objs.size + 5 := fun k hk => Nat.add_lt_add_left hk _
    rcases hb with rfl | rfl | rfl | rfl | rfl | rfl | rfl
    · exact e1 4 (by decide)
    · exact e1 2 (by decide)
    · exact e1 3 (by decide)
    · exact e1 0 (by decide)
    · exact e1 1 (by decide)
    · exact Nat.lt_of_lt_of_le hlt1 (Nat.le_add_right _ _)
    · exact Nat.lt_of_lt_of_le hlt2 (Nat.le_add_right _ _)
  · intro hm
    simp only [List.mem_cons, List.not_mem_nil, or_false] at hm
    rcases hm with e | e | e | e | e | e | e
    · exact ktu_ne 4 hLs e
    · exact ktu_ne 2 hLs e
    · exact ktu_ne 3 hLs e
    · exact Nat.ne_of_lt hLs e
    · exact ktu_ne 1 hLs e
    · exact hax1.2.1 e.symm
    · exact hax2.2.1 e.symm
  · intro b hb; exact ktu_new F (newb b hb)
  · intro p hp hm; exact absurd (Heap.lt_size (N p hp).1) (Nat.not_lt.mpr (newb _ hm))
  · intro i v C mC s₃ Q' E' hC₀ hCL hCf hi hP hn k
    obtain ⟨T, vals, rfl, ⟨v₁, v₂, g1, g2, rfl⟩, hT⟩ := hP
    exact asg_pair hh hkind hx hx₂ hxx hn hT (fun m₂ h' e1 e2 _ => ⟨v₁, v₂, by simpa using g1, by simpa using g2, e1, e2⟩) k
  · rintro i ys news₁ own C oC D m₂ h tk E' hi ⟨v₁, v₂, g1, g2, q1, q2⟩ hoC hJ' hyl F' N' off hCD hwo
    exact turn i v₁ v₂ ys news₁ own _ C oC D m₂ h tk E' g1 g2 q1 q2 hoC hJ' hyl F' N' (fun b hb => Heap.get?_none_of_le (newb b hb)) off hCD (hwo trivial)
end
end
section
section
variable {prog : Program} {w : World} {A : Around} {E : Value → Shared → Prop} {s : Shared} {h₀ : Heap} {L : Addr} {env : Env} {body : List Stmt} {Q : Flow → Shared → Prop}
open PySem.Spec PyProof.Rows.LCg

noncomputable abbrev FEnd (h₀ : Heap) (env : Env) (wr : List Addr) (own : List (Addr × Obj)) (J' : (Str → Option Value) → List (Addr × Obj) → Prop) (s₁ : Shared) (Q : Flow → Shared → Prop) : Flow → Shared → Prop :=
  LoopStepV h₀ env.locals wr own J' s₁ (fun v s' => Q (.ret v) s') fun s' => Q .next s'

theorem fendU {L : Addr} {wr : List Addr} {own : List (Addr × Obj)} {J' : (Str → Option Value) → List (Addr × Obj) → Prop} {s₁ : Shared} {h' : Heap} {tk : Nat} {m₂ : Str → Option Value} {all : List (Addr × Obj)}
    (F : Fr h₀ L h' m₂) (N : News h₀ L h' all) (news' : List (Addr × Obj)) (sub : ∀ q ∈ own ++ news', q ∈ all) (off : ∀ p ∈ news', p.1 ∉ wr) (j : J' m₂ news') :
    LoopStepU h₀ L wr own J' s₁ .next ⟨h', s₁.gens, s₁.drawn, tk, s₁.os⟩ := LoopStepU.intro F (news_in N sub) off j
theorem fold_take {α β : Type} (g : α → β → α) (z : α) (l : List β) (i : Nat) (y : β) (h : l[i]? = some y) : (l.take (i + 1)).foldl g z = g ((l.take i).foldl g z) y := by
  rw [List.take_add_one, h]; simp
theorem for_asg {x : Str} {px : Pos} {v : Value} {m₁ : Str → Option Value} {news₁ own : List (Addr × Obj)} {h₁ : Heap} {Q' : Flow → Shared → Prop} {s₁ : Shared}
    (hx : env.kindOf x = some .local) (hp : (env.scope.kind == .class || (env.scope.kind == .module && env.locals != env.globals)) = false) (F : Fr h₀ env.locals s₁.heap m₁) (N : News h₀ env.locals s₁.heap (own ++ news₁))
    (k : ∀ h tk, Fr h₀ env.locals h (fun y => if y = x then some v else m₁ y) → News h₀ env.locals h (news₁ ++ own) → wpAny (model prog w) A (execs body env) Q' E { s₁ with heap := h, toks := tk }) :
    wpAny (model prog w) A (assign (.Name x px) env v) (fun _ s₃ => wpAny (model prog w) A (execs body env) Q' E s₃) E s₁ := by
  have _ := h₁
  refine wpAny_assign_Name (wpAny_storeName_local hx F.ns (fun h₂ hn₂ hs₂ => ?_) hp)
  refine k h₂ _ (F.set hn₂ hs₂) (news_in (N.set hs₂) fun q hq => ?_)
  rcases List.mem_append.mp hq with h | h
  · exact List.mem_append_right _ h
  · exact List.mem_append_left _ h
theorem for_asg2 {x x₂ : Str} {px px₂ tp : Pos} {tk₀} {v₁ v₂ : Value} {T : Addr} {m₁ : Str → Option Value} {news₁ own : List (Addr × Obj)} {Q' : Flow → Shared → Prop} {s₁ : Shared}
    (hh : A.handled = none) (hx : env.kindOf x = some .local) (hx₂ : env.kindOf x₂ = some .local) (hp : (env.scope.kind == .class || (env.scope.kind == .module && env.locals != env.globals)) = false) (F : Fr h₀ env.locals s₁.heap m₁) (N : News h₀ env.locals s₁.heap (own ++ news₁)) (hT : IsTup s₁.heap T #[v₁, v₂])
    (k : ∀ h tk, Fr h₀ env.locals h (fun y => if y = x₂ then some v₂ else if y = x then some v₁ else m₁ y) → News h₀ env.locals h (news₁ ++ own) → wpAny (model prog w) A (execs body env) Q' E { s₁ with heap := h, toks := tk }) :
    wpAny (model prog w) A (assign (.Tuple [.Name x px, .Name x₂ px₂] tk₀ tp) env (.ref T)) (fun _ s₃ => wpAny (model prog w) A (execs body env) Q' E s₃) E s₁ := by
  refine assign_Tuple_tuple hh hT rfl rfl fun h₅ he => ?_
  have he' : ∀ b o, s₁.heap.get? b = some o → h₅.get? b = some o := fun b o e => he b o (Nat.ne_of_lt (Heap.lt_size e)) e
  have F₅ : Fr h₀ env.locals h₅ m₁ := F.keeps he'
  have N₅ := N.grown he'
  refine assignInOrder_cons (wpAny_assign_Name (wpAny_storeName_local hx F₅.ns (fun h₆ hn₆ hs₆ => ?_) hp))
  have F₆ := F₅.set hn₆ hs₆
  have N₆ := N₅.set hs₆
  refine assignInOrder_cons (wpAny_assign_Name (wpAny_storeName_local hx₂ F₆.ns (fun h₃ hn₃ hs₃ => ?_) hp))
  refine assignInOrder_nil ?_
  refine k h₃ _ (F₆.set hn₃ hs₃) (news_in (N₆.set hs₃) fun q hq => ?_)
  rcases List.mem_append.mp hq with h | h
  · exact List.mem_append_right _ h
  · exact List.mem_append_left _ h

/-- over a list: of the ledger, or of the base -/
theorem for_list {x : Str} {px : Pos} {l : Addr} {vs : List Value} {m : Str → Option Value} {news : List (Addr × Obj)}
    (hh : A.handled = none) (hx : env.kindOf x = some .local) (hp : (env.scope.kind == .class || (env.scope.kind == .module && env.locals != env.globals)) = false)
    (F : Fr h₀ env.locals s.heap m) (N : News h₀ env.locals s.heap news) (hl : h₀.IsList l vs.toArray ∨ ∃ e, (l, listOf vs.toArray e) ∈ news)
    (J : Nat → (Str → Option Value) → List (Addr × Obj) → Prop) (hJ : J 0 m news)
    (turn : ∀ i v m₁ news₁ own h₁ tk₁, vs[i]? = some v → J i m₁ news₁ → (∀ p ∈ news₁, p.1 ∉ [s.heap.objs.size]) → Fr h₀ env.locals h₁ (fun y => if y = x then some v else m₁ y) → News h₀ env.locals h₁ (news₁ ++ own) →
      wpAny (model prog w) A (execs body env) (FEnd h₀ env [s.heap.objs.size] own (J (i + 1)) { s with heap := h₁, toks := tk₁ } Q) E { s with heap := h₁, toks := tk₁ })
    (fin : ∀ h' tk m' news', Fr h₀ env.locals h' m' → News h₀ env.locals h' news' → J vs.length m' news' → Q .next { s with heap := h', toks := tk }) :
    wpAny (model prog w) A (pyIter (.ref l)) (fun it s₂ => TurnsAt prog w A h₀ env (.Name x px) body Q E it s₂) E s := by
  have hL : s.heap.IsList l vs.toArray := by
    rcases hl with hl | ⟨e, hl⟩
    · exact hl.at fun o e => F.keep l o e
    · exact ⟨_, (N _ hl).1, rfl, _, rfl⟩
  have hlL : env.locals ≠ l := by
    rcases hl with ⟨o, hl, _⟩ | ⟨e, hl⟩
    · intro q; exact absurd (Heap.lt_size hl) (Nat.not_lt.mpr (q ▸ F.above))
    · exact (N _ hl).2.1.symm
  have hlt : l < s.heap.objs.size := by obtain ⟨_, e, _⟩ := hL; exact Heap.lt_size e
  refine wpAny_pyIter_list hL ?_
  have up : ∀ b o, s.heap.get? b = some o → (s.heap.push { cls := .type "list_iterator", data := .fields #[.ref l, .int 0 0] }).get? b = some o := fun b o e => Heap.get?_push_of_some _ e
  refine ⟨s.heap.objs.size, [s.heap.objs.size, l], [s.heap.objs.size], vs.toArray.size, fun i v _ => vs.toArray[i]? = some v, _, _, m, news, J, rfl,
    KTurns.ofWalks (Walks.list hh s.heap.objs.size l (Nat.ne_of_lt hlt) vs.toArray) (fun _ _ _ _ _ _ hq => wpAny_pure hq), ?_, ?_, ?_, ⟨⟨_, Heap.get?_push_size _ rfl, rfl, rfl⟩, hL.push _⟩, F.keeps up, N.grown up, hJ, ?_,
    fun h' tk m' news' F' N' _ hj => fin h' tk m' news' F' N' (by simpa using hj)⟩
  · intro hm
    rcases List.mem_cons.mp hm with e | hm
    · exact absurd F.ns.lt (e ▸ Nat.lt_irrefl _)
    · exact hlL (List.mem_singleton.mp hm)
  · intro b hb; rw [List.mem_singleton.mp hb]; exact next_is_new F
  · intro p hp hm; rw [List.mem_singleton] at hm; exact absurd (Heap.lt_size (N p hp).1) (hm ▸ Nat.lt_irrefl _)
  · intro i v m₁ news₁ h₁ tk₁ own hi hP hJ' hnw _ hown _ _ F₁ N₁
    refine for_asg (h₁ := h₁) hx hp F₁ N₁ fun h tk F₂ N₂ => ?_
    refine wpAny_mono (turn i v m₁ news₁ own h tk (by simpa using hP) hJ' hnw F₂ N₂) (fun f s₂ hf => ?_) fun _ _ e => e
    exact hf

end
end
section
section
variable {w : World} {mean : ExcName → Option Value} {mg mb : Str → Option Value} {dp un : Nat} {gd : Option (List Code)} {cn : Str} {cs : Scope} {a : Addr} {ccd : Value} {cl : List (Str × Addr)} {outer : List Env} {A₀ : Around} {base h₀ : Heap} {L : Addr} {m : Str → Option Value} {s : Shared} {Q E : Value → Shared → Prop} {news : List (Addr × Obj)}
noncomputable def NotLow (x : Str) : Prop := x.cps.toList < (Str.ofString "a").cps.toList ∨ (Str.ofString "z").cps.toList < x.cps.toList
theorem great_sign_spec {x : Str} {t : Tok}
    (B : Below A₀ base outer h₀) (F : Fr h₀ L s.heap m) (X : (hd.heap_39 w.params).In h₀) (N : News h₀ L s.heap news)
    (T : Top hd.view_39 Loo mean mg mb h₀) (hk : cs.kind = .function) (hdp : dp + 4 < recursionLimit)
    (hx : NotLow x)
    (hret : ∀ (t : Tok) h' tk', Fr h₀ L h' m → News h₀ L h' news → Q (.str x t) {s with heap := h', toks := tk'}) :
    wpAny (model Pg w) (ktrTop dp un gd cn cs L a ccd cl outer) (call (.ref 43) [.str x t]) Q E s := by
  k_with_none
  (k_with "eval Name" => (k_here; (with_reducible show wpAny _ _ (eval (Expr.Name _ _) (envOf _ _ _ _ _)) _ _ _); k_dflt (refine' ld ?nx1 ?nx2 ?_; (case nx1 => k_asm); (case nx2 => (first | (with_reducible assumption) | ((repeat' (first | exact if_pos rfl | refine (if_neg (by decide)).trans ?_)) <;> (with_reducible assumption)))); k_whole)))
  (k_with "eval Name" => (k_here; (with_reducible show wpAny _ _ (eval (Expr.Name _ _) (envOfC _ _ _ _ _)) _ _ _); k_dflt (refine' nameX_L ?nx1 ?nx2 ?_ ?nxa ?nxb; (case nx1 => k_asm); (case nxa => rfl); (case nxb => rfl); (case nx2 => (first | (with_reducible assumption) | ((repeat' (first | exact if_pos rfl | refine (if_neg (by decide)).trans ?_)) <;> (with_reducible assumption)))); k_whole)))
  (k_with "loadName" => (k_here; k_dflt (refine' ldn ?nx1 ?nx2 ?_; (case nx1 => k_asm); (case nx2 => (first | (with_reducible assumption) | ((repeat' (first | exact if_pos rfl | refine (if_neg (by decide)).trans ?_)) <;> (with_reducible assumption)))); k_whole)))
  refine wpAny_call ?_
  k_dflt cell_enter
  k_steps
  · exact hret _ _ _ (by assumption) (by assumption)
  · exact hret _ _ _ (by assumption) (by assumption)
  · exfalso
    rcases hx with h | h
    · exact absurd h (by assumption)
    · exact absurd h (by assumption)
theorem cend_of {h₀ : Heap} {L : Addr} {m : Str → Option Value} {wr : List Addr} {own : List (Addr × Obj)} {C : Addr} {oC : Obj} {D : Addr} {ys : List Value} {J' : List (Addr × Obj) → Prop} {s₁ : Shared} {h' : Heap} {tk : Nat} {all : List (Addr × Obj)}
    (F : Fr h₀ L h' m) (N : News h₀ L h' all) (news' : List (Addr × Obj)) (sub : ∀ q ∈ (C, oC) :: (D, LCg.lst ys) :: (news' ++ own), q ∈ all) (off : ∀ p ∈ news', p.1 ≠ C ∧ p.1 ≠ D ∧ p.1 ∉ wr) (j : J' news') :
    CEnd h₀ L m wr own C oC D ys J' s₁ ⟨h', s₁.gens, s₁.drawn, tk, s₁.os⟩ := ⟨h', tk, news', rfl, F, news_in N sub, off, j⟩
theorem sum_ones : ∀ l : List Nat, ((l.map fun n => (⟨#[n]⟩ : Str)).map (·.length)).sum = l.length
  | [] => rfl
  | _ :: r => by
    have := sum_ones r
    simp only [List.map_cons, List.sum_cons, List.length_cons, this]
    show 1 + _ = _
    omega
theorem sum_signs (x : Str) : ((signs x).map (·.length)).sum = x.length := (sum_ones x.cps.toList).trans (by simp [Str.length])
theorem great_text_spec {x : Str} {t : Tok}
    (B : Below A₀ base outer h₀) (F : Fr h₀ L s.heap m) (X : (hd.heap_39 w.params).In h₀) (N : News h₀ L s.heap news)
    (T : Top hd.view_39 Loo mean mg mb h₀) (hk : cs.kind = .function) (hdp : dp + 8 < recursionLimit)
    (hx : ∀ c ∈ x.cps.toList, NotLow ⟨#[c]⟩) (hl : x.length < 1000)
    (hret : ∀ (t : Tok) h' tk', Fr h₀ L h' m → News h₀ L h' news → Q (.str x t) {s with heap := h', toks := tk'}) :
    wpAny (model Pg w) (ktrTop dp un gd cn cs L a ccd cl outer) (call (.ref 48) [.str x t]) Q E s := by
  k_with_none
  (k_with "eval Name" => (k_here; (with_reducible show wpAny _ _ (eval (Expr.Name _ _) (envOf _ _ _ _ _)) _ _ _); k_dflt (refine' ld ?nx1 ?nx2 ?_; (case nx1 => k_asm); (case nx2 => (first | (with_reducible assumption) | ((repeat' (first | exact if_pos rfl | refine (if_neg (by decide)).trans ?_)) <;> (with_reducible assumption)))); k_whole)))
  (k_with "eval Name" => (k_here; (with_reducible show wpAny _ _ (eval (Expr.Name _ _) (envOfC _ _ _ _ _)) _ _ _); k_dflt (refine' nameX_L ?nx1 ?nx2 ?_ ?nxa ?nxb; (case nx1 => k_asm); (case nxa => rfl); (case nxb => rfl); (case nx2 => (first | (with_reducible assumption) | ((repeat' (first | exact if_pos rfl | refine (if_neg (by decide)).trans ?_)) <;> (with_reducible assumption)))); k_whole)))
  (k_with "loadName" => (k_here; k_dflt (refine' ldn ?nx1 ?nx2 ?_; (case nx1 => k_asm); (case nx2 => (first | (with_reducible assumption) | ((repeat' (first | exact if_pos rfl | refine (if_neg (by decide)).trans ?_)) <;> (with_reducible assumption)))); k_whole)))
  (k_with "eval ListComp" => (k_dflt (refine' ListComp_G [] ?cF ?cl ?cc ?ck ?cn ?_ ?cs; (case cF => k_asm); (case cl => with_unfolding_all rfl); (case cc => decide); (case ck => with_unfolding_all rfl); (case cn => decide); (case cs => intro _; with_unfolding_all rfl))))
  (k_with "pyIter str" => (
    refine comp_str rfl (by rw [sizeLine_eq]; omega) (by assumption) (by assumption) rfl rfl (fun i ys news₁ => news₁ = news ∧ StrsAre ys ((signs x).take i)) ⟨rfl, .nil⟩ ?turn ?fin
    case' turn => rintro i c u ys news₁ own C oC D m₂ h tk E' hc hm hoC ⟨rfl, hys⟩ hyl F' N' off hCD
    case' fin => rintro g ys news' ⟨rfl, hys⟩ D h tk F' N' off))
  (k_with "call ref" => (k_dflt (refine' great_sign_spec (by assumption) (by assumption) (by assumption) (by assumption) (by assumption) ?hk ?hd ?hx ?_; (case hk => first | rfl | assumption); (case hd => ktr_room); (case hx => exact hx _ (List.mem_of_getElem? (by rw [Array.getElem?_toList]; exact hc))))))
  (k_with "call builtin:str.join" => (
    have hall : (signs x).take x.cps.size = signs x := List.take_of_length_le (by simp [signs])
    rw [hall] at hys
    have hlen : (signs x).length = x.length := by simp [signs, Str.length]
    refine join_listC ((News.get (by assumption) (List.Mem.head _) : _) |> fun e => ⟨_, e, rfl, _, rfl⟩) (ys := signs x) (by simpa using hys) (by decide) (by rw [sum_signs, hlen]; omega) ?_
    intro t' k'
    rw [show Txt.join (Str.ofString "") (signs x) = x from (StrLaws.glued_eq_join _ _).trans (join_nil_signs x)]))
  refine wpAny_call ?_
  k_dflt cell_enter
  k_steps
  · exact hret _ _ _ (by assumption) (news_in (by assumption) (by kcj_all))
  · refine cend_of (by assumption) (by assumption) _ (by kcj_all) off ⟨rfl, ?_⟩
    have e : (signs x).take (i + 1) = (signs x).take i ++ [⟨#[c]⟩] := by
      rw [List.take_add_one]
      simp [signs, hc]
    rw [e]
    exact hys.append' (.cons _ _ .nil)
end
end
section
section
variable {w : World} {mean : ExcName → Option Value} {mg mb : Str → Option Value} {dp un : Nat} {gd : Option (List Code)} {cn : Str} {cs : Scope} {a : Addr} {ccd : Value} {cl : List (Str × Addr)} {outer : List Env} {A₀ : Around} {base h₀ : Heap} {L : Addr} {m : Str → Option Value} {s : Shared} {Q E : Value → Shared → Prop} {news : List (Addr × Obj)}
noncomputable def WORDS44 : List Str := [Str.ofString "END", Str.ofString "FOR", Str.ofString "NEXT", Str.ofString "DATA", Str.ofString "INPUT", Str.ofString "DIM", Str.ofString "READ", Str.ofString "LET", Str.ofString "GOTO", Str.ofString "RUN", Str.ofString "IF", Str.ofString "RESTORE", Str.ofString "GOSUB", Str.ofString "RETURN", Str.ofString "REM", Str.ofString "STOP", Str.ofString "ON", Str.ofString "PRINT", Str.ofString "LIST", Str.ofString "DELETE", Str.ofString "RENUM", Str.ofString "NEW", Str.ofString "CONT", Str.ofString "TO", Str.ofString "THEN", Str.ofString "ELSE", Str.ofString "STEP", Str.ofString "AND", Str.ofString "OR", Str.ofString "NOT", Str.ofString "MOD", Str.ofString "TAB", Str.ofString "SGN", Str.ofString "ABS", Str.ofString "LEN", Str.ofString "STR$", Str.ofString "VAL", Str.ofString "ASC", Str.ofString "CHR$", Str.ofString "LEFT$", Str.ofString "RIGHT$", Str.ofString "MID$", Str.ofString "RND", Str.ofString "INSTR"]
theorem words_is {w : World} {h : Heap} (X : (hd.heap_39 w.params).In h) : ∃ vs, h.IsList 15 vs.toArray ∧ StrsAre vs WORDS44 := by
  have e := X 15 _ (by k_is)
  exact ⟨_, ⟨_, e, rfl, _, rfl⟩, by unfold WORDS44; repeat (first | exact .nil | refine .cons _ _ ?_)⟩
/-- one turn of word_at -/
noncomputable def wordStep (x : Str) (k : Int) (found word : Str) : Str := if (found.length : Int) < word.length then (if (Txt.slice x (some k) (some (k + word.length)) == word) = true then word else found) else found
theorem words_len : ∀ y ∈ WORDS44, y.length < 100 := by decide +kernel
@[irreducible] noncomputable def wordAt (x : Str) (k : Int) : Str := WORDS44.foldl (wordStep x k) (Str.ofString "")
theorem wordAt_def (x : Str) (k : Int) : wordAt x k = WORDS44.foldl (wordStep x k) (Str.ofString "") := by unfold wordAt; rfl
theorem word_at_spec {x : Str} {k : Int} {t u : Tok}
    (B : Below A₀ base outer h₀) (F : Fr h₀ L s.heap m) (X : (hd.heap_39 w.params).In h₀) (N : News h₀ L s.heap news)
    (T : Top hd.view_39 Loo mean mg mb h₀) (hk : cs.kind = .function) (hdp : dp + 4 < recursionLimit)
    (h0 : 0 ≤ k) (hk2 : k ≤ x.length) (hl : x.length < 1000)
    (hret : ∀ (t : Tok) h' tk', Fr h₀ L h' m → News h₀ L h' news → Q (.str (wordAt x k) t) {s with heap := h', toks := tk'}) :
    wpAny (model Pg w) (ktrTop dp un gd cn cs L a ccd cl outer) (call (.ref 55) [.str x t, .int k u]) Q E s := by
  k_with_none
  (k_with "eval Name" => (k_here; (with_reducible show wpAny _ _ (eval (Expr.Name _ _) (envOf _ _ _ _ _)) _ _ _); k_dflt (refine' ld ?nx1 ?nx2 ?_; (case nx1 => k_asm); (case nx2 => (first | (with_reducible assumption) | ((repeat' (first | exact if_pos rfl | refine (if_neg (by decide)).trans ?_)) <;> (with_reducible assumption)))); k_whole)))
  (k_with "eval Name" => (k_here; (with_reducible show wpAny _ _ (eval (Expr.Name _ _) (envOfC _ _ _ _ _)) _ _ _); k_dflt (refine' nameX_L ?nx1 ?nx2 ?_ ?nxa ?nxb; (case nx1 => k_asm); (case nxa => rfl); (case nxb => rfl); (case nx2 => (first | (with_reducible assumption) | ((repeat' (first | exact if_pos rfl | refine (if_neg (by decide)).trans ?_)) <;> (with_reducible assumption)))); k_whole)))
  (k_with "loadName" => (k_here; k_dflt (refine' ldn ?nx1 ?nx2 ?_; (case nx1 => k_asm); (case nx2 => (first | (with_reducible assumption) | ((repeat' (first | exact if_pos rfl | refine (if_neg (by decide)).trans ?_)) <;> (with_reducible assumption)))); k_whole)))
  (k_with "exec For Name Name" => (k_dflt (refine' For_turns ?cF ?_ ?cs ?cE; (case cF => k_asm); (case cs => intro _; with_unfolding_all rfl); (case cE => first | passes_own | with_unfolding_all passes_own))))
  (k_with "pyIter ref" => (
    obtain ⟨vs, hvs, hws⟩ := words_is (w := w) (by assumption)
    refine for_list rfl rfl rfl (by assumption) (by assumption) (.inl hvs) (fun i m₁ news₁ => news₁ = news ∧ m₁ (Str.ofString "text") = some (.str x t) ∧ m₁ (Str.ofString "at") = some (.int k u) ∧ ∃ f tf, m₁ (Str.ofString "found") = some (.str f tf) ∧ f = (WORDS44.take i).foldl (wordStep x k) (Str.ofString "") ∧ f.length < 100) ⟨rfl, rfl, rfl, _, _, rfl, rfl, (show (Str.ofString "").length < 100 by decide)⟩ ?turn ?fin
    case' turn =>
      rintro i v m₁ news₁ own h₁ tk₁ hv ⟨rfl, e1, e2, f, tf, e3, e4, e5⟩ off F₁ N₁
      obtain ⟨y, ty, rfl, hy⟩ := hws.item i v hv
      have hyl := words_len y (List.mem_of_getElem? hy)
    case' fin => rintro h' tk m' news' F' N' ⟨rfl, e1, e2, f, tf, e3, e4, e5⟩))
  refine wpAny_call ?_
  k_dflt cell_enter
  k_steps
  · have e : f = wordAt x k := by
      rw [wordAt_def, e4, List.take_of_length_le (by rw [strs_len_eq hws]; exact Nat.le_refl _)]
    rw [e]
    exact hret _ _ _ (by assumption) (news_in (by assumption) (by kcj_all))
  · refine' fendU (by assumption) (by assumption) _ (by intro q hq; simp only [List.mem_cons, List.mem_append] at hq ⊢; rcases hq with h | h <;> simp [h]) off ⟨rfl, ?a1, ?a2, _, _, ?a3, ?_, hyl⟩
    case a1 => ((repeat' (first | exact if_pos rfl | refine (if_neg (by decide)).trans ?_)) <;> (first | (with_reducible assumption) | rfl))
    case a2 => ((repeat' (first | exact if_pos rfl | refine (if_neg (by decide)).trans ?_)) <;> (first | (with_reducible assumption) | rfl))
    case a3 => ((repeat' (first | exact if_pos rfl | refine (if_neg (by decide)).trans ?_)) <;> (first | (with_reducible assumption) | rfl))
    rw [fold_take _ _ _ _ _ hy, ← e4, wordStep, if_pos (by assumption), if_pos (by assumption)]
  · refine' fendU (by assumption) (by assumption) _ (by intro q hq; simp only [List.mem_cons, List.mem_append] at hq ⊢; rcases hq with h | h <;> simp [h]) off ⟨rfl, ?a1, ?a2, _, _, ?a3, ?_, e5⟩
    case a1 => ((repeat' (first | exact if_pos rfl | refine (if_neg (by decide)).trans ?_)) <;> (first | (with_reducible assumption) | rfl))
    case a2 => ((repeat' (first | exact if_pos rfl | refine (if_neg (by decide)).trans ?_)) <;> (first | (with_reducible assumption) | rfl))
    case a3 => ((repeat' (first | exact if_pos rfl | refine (if_neg (by decide)).trans ?_)) <;> (first | (with_reducible assumption) | rfl))
    rw [fold_take _ _ _ _ _ hy, ← e4, wordStep, if_pos (by assumption), if_neg (Bool.eq_false_iff.mp (by assumption))]
  · refine' fendU (by assumption) (by assumption) _ (by intro q hq; simp only [List.mem_cons, List.mem_append] at hq ⊢; rcases hq with h | h <;> simp [h]) off ⟨rfl, ?a1, ?a2, _, _, ?a3, ?_, e5⟩
    case a1 => ((repeat' (first | exact if_pos rfl | refine (if_neg (by decide)).trans ?_)) <;> (first | (with_reducible assumption) | rfl))
    case a2 => ((repeat' (first | exact if_pos rfl | refine (if_neg (by decide)).trans ?_)) <;> (first | (with_reducible assumption) | rfl))
    case a3 => ((repeat' (first | exact if_pos rfl | refine (if_neg (by decide)).trans ?_)) <;> (first | (with_reducible assumption) | rfl))
    rw [fold_take _ _ _ _ _ hy, ← e4, wordStep, if_neg (by assumption)]
end
end
section
section
variable {w : World} {mean : ExcName → Option Value} {mg mb : Str → Option Value} {dp un : Nat} {gd : Option (List Code)} {cn : Str} {cs : Scope} {a : Addr} {ccd : Value} {cl : List (Str × Addr)} {outer : List Env} {A₀ : Around} {base h₀ : Heap} {L : Addr} {m : Str → Option Value} {s : Shared} {Q E : Value → Shared → Prop} {news : List (Addr × Obj)}
/-- a sign stands in a text -/
noncomputable def signIn (hay : Str) (c : Str) : Bool := !(Builtin.Str.occurrences hay c 0 hay.length 1).isEmpty
theorem signIn_yes {hay c : Str} (h : (Builtin.Str.occurrences hay c 0 hay.length 1).isEmpty = false) : signIn hay c = true := by unfold signIn; rw [h]; rfl
theorem signIn_no {hay c : Str} (h : (Builtin.Str.occurrences hay c 0 hay.length 1).isEmpty = true) : signIn hay c = false := by unfold signIn; rw [h]; rfl
noncomputable def behindF (x : Str) : Nat → Nat → Nat
  | 0, j => j
  | f + 1, j => if signIn (Str.ofString " \t") (Txt.item x j) = true then behindF x f (j + 1) else j
@[irreducible] noncomputable def behind (x : Str) (k : Int) : Nat := behindF x (x.length - k.toNat) k.toNat
theorem behind_def (x : Str) (k : Int) : behind x k = behindF x (x.length - k.toNat) k.toNat := by unfold behind; rfl
theorem behind_spec {x : Str} {k : Int} {t u : Tok}
    (B : Below A₀ base outer h₀) (F : Fr h₀ L s.heap m) (X : (hd.heap_39 w.params).In h₀) (N : News h₀ L s.heap news)
    (T : Top hd.view_39 Loo mean mg mb h₀) (hk : cs.kind = .function) (hdp : dp + 4 < recursionLimit)
    (h0 : 0 ≤ k) (hk2 : k ≤ x.length) (hl : x.length < 1000)
    (hret : ∀ (t : Tok) h' tk', Fr h₀ L h' m → News h₀ L h' news → Q (.int (behind x k) t) {s with heap := h', toks := tk'}) :
    wpAny (model Pg w) (ktrTop dp un gd cn cs L a ccd cl outer) (call (.ref 69) [.str x t, .int k u]) Q E s := by
  k_with_none
  (k_with "eval Name" => (k_here; (with_reducible show wpAny _ _ (eval (Expr.Name _ _) (envOf _ _ _ _ _)) _ _ _); k_dflt (refine' ld ?nx1 ?nx2 ?_; (case nx1 => k_asm); (case nx2 => (first | (with_reducible assumption) | ((repeat' (first | exact if_pos rfl | refine (if_neg (by decide)).trans ?_)) <;> (with_reducible assumption)))); k_whole)))
  (k_with "eval Name" => (k_here; (with_reducible show wpAny _ _ (eval (Expr.Name _ _) (envOfC _ _ _ _ _)) _ _ _); k_dflt (refine' nameX_L ?nx1 ?nx2 ?_ ?nxa ?nxb; (case nx1 => k_asm); (case nxa => rfl); (case nxb => rfl); (case nx2 => (first | (with_reducible assumption) | ((repeat' (first | exact if_pos rfl | refine (if_neg (by decide)).trans ?_)) <;> (with_reducible assumption)))); k_whole)))
  (k_with "loadName" => (k_here; k_dflt (refine' ldn ?nx1 ?nx2 ?_; (case nx1 => k_asm); (case nx2 => (first | (with_reducible assumption) | ((repeat' (first | exact if_pos rfl | refine (if_neg (by decide)).trans ?_)) <;> (with_reducible assumption)))); k_whole)))
  (k_with "exec While" => (k_dflt (
    refine While_inv2 (n₀ := x.length - k.toNat) (fun n m₁ news₁ => ∃ (j : Nat) (tj : Tok), news₁ = news ∧
      m₁ (Str.ofString "text") = some (.str x t) ∧ m₁ (Str.ofString "at") = some (.int j tj) ∧ j ≤ x.length ∧ behind x k = behindF x (x.length - j) j ∧ n = x.length - j)
      (by assumption) (by assumption) ⟨k.toNat, _, rfl, rfl, (by rw [Int.toNat_of_nonneg h0]; rfl), by omega, behind_def x k, rfl⟩ ?turn
    rintro n m₁ news₁ h₁ tk₁ F₁ N₁ ⟨j, tj, rfl, e1, e2, b1, b2, b3⟩
    try dsimp only)))
  refine wpAny_call ?_
  k_dflt cell_enter
  k_steps
  · have e : behind x k = j := by
      have hj : x.length - j = (x.length - (j + 1)) + 1 := by omega
      rw [b2, hj, behindF, if_neg (Bool.eq_false_iff.mp (signIn_no (by assumption)))]
    rw [← e]
    exact hret _ _ _ (by assumption) (by assumption)
  · refine' whl_next (x.length - (j + 1)) (by assumption) (by assumption) (by omega) ⟨j + 1, _, rfl, ?a1, ?a2, by omega, ?_, rfl⟩
    case a1 => ((repeat' (first | exact if_pos rfl | refine (if_neg (by decide)).trans ?_)) <;> (first | (with_reducible assumption) | rfl))
    case a2 => ((repeat' (first | exact if_pos rfl | refine (if_neg (by decide)).trans ?_)) <;> (first | (with_reducible assumption) | rfl))
    have hj : x.length - j = (x.length - (j + 1)) + 1 := by omega
    rw [b2, hj, behindF, if_pos (signIn_yes (by assumption))]
  · have e : behind x k = j := by
      have hj : x.length - j = 0 := by omega
      rw [b2, hj, behindF]
    rw [← e]
    exact hret _ _ _ (by assumption) (by assumption)
end
end
section
section
variable {w : World} {mean : ExcName → Option Value} {mg mb : Str → Option Value} {dp un : Nat} {gd : Option (List Code)} {cn : Str} {cs : Scope} {a : Addr} {ccd : Value} {cl : List (Str × Addr)} {outer : List Env} {A₀ : Around} {base h₀ : Heap} {L : Addr} {m : Str → Option Value} {s : Shared} {Q E : Value → Shared → Prop} {news : List (Addr × Obj)}
theorem signIn_item (hay x : Str) (j : Int) : signIn hay (Txt.item x j) = decide ((Txt.item x j).cps.getD 0 0 ∈ hay.cps.toList) := StrLaws.found_one hay _
theorem digits_list : (Str.ofString "0123456789").cps.toList = [48, 49, 50, 51, 52, 53, 54, 55, 56, 57] := by decide +kernel
theorem digit_bounds {x : Str} {j : Int} (h : signIn (Str.ofString "0123456789") (Txt.item x j) = true) : 48 ≤ (Txt.item x j).cps.getD 0 0 ∧ (Txt.item x j).cps.getD 0 0 ≤ 57 := by
  rw [signIn_item, decide_eq_true_eq, digits_list] at h
  exact (by decide : ∀ n ∈ [48, 49, 50, 51, 52, 53, 54, 55, 56, 57], 48 ≤ n ∧ n ≤ 57) _ h
noncomputable def readF (x : Str) : Nat → Nat → Int → Int × Nat
  | 0, j, f => (f, j)
  | n + 1, j, f => if signIn (Str.ofString "0123456789") (Txt.item x j) = true then readF x n (j + 1) (f * 10 + ((Txt.item x j).cps.getD 0 0 : Nat) - 48) else (f, j)
@[irreducible] noncomputable def readNum (x : Str) (k : Int) : Int × Nat := readF x (x.length - k.toNat) k.toNat 0
theorem readNum_def (x : Str) (k : Int) : readNum x k = readF x (x.length - k.toNat) k.toNat 0 := by unfold readNum; rfl
theorem pow_small {d : Nat} (h : d ≤ 3) : (10 : Int) ^ (d + 1) ≤ 10000 ∧ (10 : Int) ^ (d + 1) = 10 * 10 ^ d := by
  refine ⟨?_, by rw [Int.pow_succ, Int.mul_comm]⟩
  have : d = 0 ∨ d = 1 ∨ d = 2 ∨ d = 3 := by omega
  rcases this with rfl | rfl | rfl | rfl <;> decide
theorem read_number_spec {x : Str} {k : Int} {t u : Tok}
    (B : Below A₀ base outer h₀) (F : Fr h₀ L s.heap m) (X : (hd.heap_39 w.params).In h₀) (N : News h₀ L s.heap news)
    (T : Top hd.view_39 Loo mean mg mb h₀) (hk : cs.kind = .function) (hdp : dp + 4 < recursionLimit)
    (h0 : 0 ≤ k) (hk2 : k ≤ x.length) (hl : x.length < 1000) (hd4 : x.length - k.toNat ≤ 4)
    (hret : ∀ T (t1 t2 : Tok) e h' tk', Fr h₀ L h' m → News h₀ L h' ((T, { cls := .type "tuple", data := .seq #[.int (readNum x k).1 t1, .int (readNum x k).2 t2] e }) :: news) → Q (.ref T) {s with heap := h', toks := tk'}) :
    wpAny (model Pg w) (ktrTop dp un gd cn cs L a ccd cl outer) (call (.ref 76) [.str x t, .int k u]) Q E s := by
  k_with_none
  (k_with "eval Name" => (k_here; (with_reducible show wpAny _ _ (eval (Expr.Name _ _) (envOf _ _ _ _ _)) _ _ _); k_dflt (refine' ld ?nx1 ?nx2 ?_; (case nx1 => k_asm); (case nx2 => (first | (with_reducible assumption) | ((repeat' (first | exact if_pos rfl | refine (if_neg (by decide)).trans ?_)) <;> (with_reducible assumption)))); k_whole)))
  (k_with "eval Name" => (k_here; (with_reducible show wpAny _ _ (eval (Expr.Name _ _) (envOfC _ _ _ _ _)) _ _ _); k_dflt (refine' nameX_L ?nx1 ?nx2 ?_ ?nxa ?nxb; (case nx1 => k_asm); (case nxa => rfl); (case nxb => rfl); (case nx2 => (first | (with_reducible assumption) | ((repeat' (first | exact if_pos rfl | refine (if_neg (by decide)).trans ?_)) <;> (with_reducible assumption)))); k_whole)))
  (k_with "loadName" => (k_here; k_dflt (refine' ldn ?nx1 ?nx2 ?_; (case nx1 => k_asm); (case nx2 => (first | (with_reducible assumption) | ((repeat' (first | exact if_pos rfl | refine (if_neg (by decide)).trans ?_)) <;> (with_reducible assumption)))); k_whole)))
  (k_with "exec While" => (k_dflt (
    refine While_inv2 (n₀ := x.length - k.toNat) (fun n m₁ news₁ => ∃ (j : Nat) (tj : Tok) (f : Int) (tf : Tok), news₁ = news ∧
      m₁ (Str.ofString "text") = some (.str x t) ∧ m₁ (Str.ofString "at") = some (.int j tj) ∧ m₁ (Str.ofString "found") = some (.int f tf) ∧ j ≤ x.length ∧ k ≤ j ∧ 0 ≤ f ∧ f < 10 ^ (j - k.toNat) ∧ readNum x k = readF x (x.length - j) j f ∧ n = x.length - j)
      (by assumption) (by assumption) ⟨k.toNat, _, 0, _, rfl, rfl, (by rw [Int.toNat_of_nonneg h0]; rfl), rfl, by omega, by omega, by omega, by rw [Nat.sub_self]; decide, readNum_def x k, rfl⟩ ?turn
    rintro n m₁ news₁ h₁ tk₁ F₁ N₁ ⟨j, tj, f, tf, rfl, e1, e2, e3, b1, b2, b3, b4, b5, b6⟩
    try dsimp only)))
  refine wpAny_call ?_
  k_dflt cell_enter
  k_steps
  · have e : readNum x k = (f, j) := by
      have hj : x.length - j = (x.length - (j + 1)) + 1 := by omega
      rw [b5, hj, readF, if_neg (Bool.eq_false_iff.mp (signIn_no (by assumption)))]
    have hr := hret
    rw [e] at hr
    exact hr _ _ _ _ _ _ (by assumption) (by assumption)
  · exfalso
    obtain ⟨c1, c2⟩ := digit_bounds (signIn_yes (hay := Str.ofString "0123456789") (by assumption))
    obtain ⟨q1, q2⟩ := pow_small (d := j - k.toNat) (by omega)
    omega
  · obtain ⟨c1, c2⟩ := digit_bounds (signIn_yes (hay := Str.ofString "0123456789") (by assumption))
    obtain ⟨q1, q2⟩ := pow_small (d := j - k.toNat) (by omega)
    refine' whl_next (x.length - (j + 1)) (by assumption) (by assumption) (by omega) ⟨j + 1, _, _, _, rfl, ?a1, ?a2, ?a3, by omega, by omega, ?_, ?_, ?_, rfl⟩
    case a1 => ((repeat' (first | exact if_pos rfl | refine (if_neg (by decide)).trans ?_)) <;> (first | (with_reducible assumption) | rfl))
    case a2 => ((repeat' (first | exact if_pos rfl | refine (if_neg (by decide)).trans ?_)) <;> (first | (with_reducible assumption) | rfl))
    case a3 => ((repeat' (first | exact if_pos rfl | refine (if_neg (by decide)).trans ?_)) <;> (first | (with_reducible assumption) | rfl))
    · omega
    · rw [show j + 1 - k.toNat = (j - k.toNat) + 1 by omega, q2]; omega
    · have hj : x.length - j = (x.length - (j + 1)) + 1 := by omega
      rw [b5, hj, readF, if_pos (signIn_yes (by assumption))]
  · have e : readNum x k = (f, j) := by
      have hj : x.length - j = 0 := by omega
      rw [b5, hj, readF]
    have hr := hret
    rw [e] at hr
    exact hr _ _ _ _ _ _ (by assumption) (by assumption)
end
end
section
section
variable {w : World} {mean : ExcName → Option Value} {mg mb : Str → Option Value} {dp un : Nat} {gd : Option (List Code)} {cn : Str} {cs : Scope} {a : Addr} {ccd : Value} {cl : List (Str × Addr)} {outer : List Env} {A₀ : Around} {base h₀ : Heap} {L : Addr} {m : Str → Option Value} {s : Shared} {Q E : Value → Shared → Prop} {news : List (Addr × Obj)}
theorem ite_yes {c : Prop} [Decidable c] {A B : Prop} (h : c) (a : A) : if c then A else B := by rw [if_pos h]; exact a
theorem ite_no {c : Prop} [Decidable c] {A B : Prop} (h : ¬ c) (b : B) : if c then A else B := by rw [if_neg h]; exact b
theorem occ_full {hay c : Str} (h : signIn hay c = true) : ¬ (Builtin.Str.occurrences hay c 0 hay.length 1).isEmpty = true := by
  intro e; rw [signIn_no e] at h; cases h
theorem occ_none' {hay c : Str} (h : signIn hay c = false) : (Builtin.Str.occurrences hay c 0 hay.length 1).isEmpty = true := by
  cases e : (Builtin.Str.occurrences hay c 0 hay.length 1).isEmpty with
  | true => rfl
  | false => rw [signIn_yes e] at h; cases h
theorem one_ne {c d : Nat} {y : Str} (hy : y = ⟨#[d]⟩) (h : c ≠ d) : ¬ ((⟨#[c]⟩ : Str) == y) = true := by
  intro e
  have := eq_of_beq e
  rw [hy] at this
  injection this with q
  exact h (by simpa using q)
theorem item_ne {x : Str} {j : Int} {d : Nat} {y : Str} (hy : y = ⟨#[d]⟩) (h : (Txt.item x j).cps.getD 0 0 ≠ d) : ¬ (Txt.item x j == y) = true := one_ne hy h
theorem quote_is : Str.ofString "\"" = ⟨#[34]⟩ := by decide +kernel
noncomputable abbrev tup2 (a b : Value) (e : Nat) : Obj := { cls := .type "tuple", data := .seq #[a, b] e }
theorem read_token_num {x : Str} {k : Int} {t1 t2 u : Tok}
    (B : Below A₀ base outer h₀) (F : Fr h₀ L s.heap m) (X : (hd.heap_39 w.params).In h₀) (N : News h₀ L s.heap news)
    (T : Top hd.view_39 Loo mean mg mb h₀) (hk : cs.kind = .function) (hdp : dp + 10 < recursionLimit)
    (h0 : 0 ≤ k) (hk2 : k < x.length) (hl : x.length < 1000) (hd4 : x.length - k.toNat ≤ 4) (hdig : signIn (Str.ofString "0123456789") (Txt.item x k) = true)
    (hret : ∀ T T1 T2 (a1 a2 a3 : Tok) e1 e2 e3 h' tk', Fr h₀ L h' m →
      News h₀ L h' ((T, tup2 (.ref T1) (.int (readNum x k).2 a1) e1) :: (T1, listOf #[.ref T2] e2) :: (T2, tup2 (.str (Str.ofString "number") a2) (.int (readNum x k).1 a3) e3) :: news) → AllLt T2 news → @LT.lt Nat _ T2 T1 → @LT.lt Nat _ T1 T → Q (.ref T) {s with heap := h', toks := tk'}) :
    wpAny (model Pg w) (ktrTop dp un gd cn cs L a ccd cl outer) (call (.ref 111) [.str x t1, .str x t2, .int k u]) Q E s := by
  obtain ⟨c1, c2⟩ := digit_bounds hdig
  have g1 : ¬ (Txt.item x k == Str.ofString "\"") = true := item_ne quote_is (by omega)
  have g2 := occ_full hdig
  k_with_none
  (k_with "eval Name" => (k_here; (with_reducible show wpAny _ _ (eval (Expr.Name _ _) (envOf _ _ _ _ _)) _ _ _); k_dflt (refine' ld ?nx1 ?nx2 ?_; (case nx1 => k_asm); (case nx2 => (first | (with_reducible assumption) | ((repeat' (first | exact if_pos rfl | refine (if_neg (by decide)).trans ?_)) <;> (with_reducible assumption)))); k_whole)))
  (k_with "eval Name" => (k_here; (with_reducible show wpAny _ _ (eval (Expr.Name _ _) (envOfC _ _ _ _ _)) _ _ _); k_dflt (refine' nameX_L ?nx1 ?nx2 ?_ ?nxa ?nxb; (case nx1 => k_asm); (case nxa => rfl); (case nxb => rfl); (case nx2 => (first | (with_reducible assumption) | ((repeat' (first | exact if_pos rfl | refine (if_neg (by decide)).trans ?_)) <;> (with_reducible assumption)))); k_whole)))
  (k_with "loadName" => (k_here; k_dflt (refine' ldn ?nx1 ?nx2 ?_; (case nx1 => k_asm); (case nx2 => (first | (with_reducible assumption) | ((repeat' (first | exact if_pos rfl | refine (if_neg (by decide)).trans ?_)) <;> (with_reducible assumption)))); k_whole)))
  (k_with "ite" => (first | refine ite_yes (by assumption) ?_ | refine ite_no (by assumption) ?_))
  (k_with "call ref" => (k_dflt (refine' read_number_spec (by assumption) (by assumption) (by assumption) (by assumption) (by assumption) ?hk ?hd h0 (by omega) hl hd4 ?_; (case hk => first | rfl | assumption); (case hd => ktr_room))))
  refine wpAny_call ?_
  k_dflt cell_enter
  k_steps
  · exact hret _ _ _ _ _ _ _ _ _ _ _ (by assumption) (news_in (by assumption) (by kcj_all)) (by first | assumption | (refine allLt_of ?_; assumption) | exact (by assumption : _ < _ ∧ AllLt _ _).2 | exact (by assumption : _ < _ ∧ _ < _ ∧ AllLt _ _).2.2 | exact (by assumption : _ < _ ∧ _ < _ ∧ _ < _ ∧ AllLt _ _).2.2.2 | exact (by assumption : _ < _ ∧ _ < _ ∧ _ < _ ∧ _ < _ ∧ AllLt _ _).2.2.2.2 | exact (by assumption : _ < _ ∧ _ < _ ∧ _ < _ ∧ _ < _ ∧ _ < _ ∧ AllLt _ _).2.2.2.2.2 | exact (by assumption : _ < _ ∧ _ < _ ∧ _ < _ ∧ _ < _ ∧ _ < _ ∧ _ < _ ∧ AllLt _ _).2.2.2.2.2.2 | exact (by assumption : _ < _ ∧ _ < _ ∧ _ < _ ∧ _ < _ ∧ _ < _ ∧ _ < _ ∧ _ < _ ∧ AllLt _ _).2.2.2.2.2.2.2 | exact (by assumption : _ < _ ∧ _ < _ ∧ _ < _ ∧ _ < _ ∧ _ < _ ∧ _ < _ ∧ _ < _ ∧ _ < _ ∧ AllLt _ _).2.2.2.2.2.2.2.2) (by refine ltN ?_; omega) (by refine ltN ?_; omega)
theorem read_token_goto {x : Str} {k : Int} {t1 t2 u : Tok}
    (B : Below A₀ base outer h₀) (F : Fr h₀ L s.heap m) (X : (hd.heap_39 w.params).In h₀) (N : News h₀ L s.heap news)
    (T : Top hd.view_39 Loo mean mg mb h₀) (hk : cs.kind = .function) (hdp : dp + 10 < recursionLimit)
    (h0 : 0 ≤ k) (hk2 : k < x.length) (hl : x.length < 1000) (hq : (Txt.item x k).cps.getD 0 0 = 71) (hw : wordAt x k = Str.ofString "GOTO")
    (hret : ∀ T T1 T2 (a1 a2 a3 : Tok) e1 e2 e3 h' tk', Fr h₀ L h' m →
      News h₀ L h' ((T, tup2 (.ref T1) (.int (k + 4) a1) e1) :: (T1, listOf #[.ref T2] e2) :: (T2, tup2 (.str (Str.ofString "word") a2) (.str (Str.ofString "GOTO") a3) e3) :: news) → AllLt T2 news → @LT.lt Nat _ T2 T1 → @LT.lt Nat _ T1 T → Q (.ref T) {s with heap := h', toks := tk'}) :
    wpAny (model Pg w) (ktrTop dp un gd cn cs L a ccd cl outer) (call (.ref 111) [.str x t1, .str x t2, .int k u]) Q E s := by
  have g1 : ¬ (Txt.item x k == Str.ofString "\"") = true := item_ne quote_is (by omega)
  have g2 : (Builtin.Str.occurrences (Str.ofString "0123456789") (Txt.item x k) 0 (Str.ofString "0123456789").length 1).isEmpty = true := occ_none' (by rw [signIn_item, hq, digits_list]; decide)
  have g3 : (Builtin.Str.occurrences (Str.ofString "?'") (Txt.item x k) 0 (Str.ofString "?'").length 1).isEmpty = true := occ_none' (by rw [signIn_item, hq]; decide +kernel)
  k_with_none
  (k_with "eval Name" => (k_here; (with_reducible show wpAny _ _ (eval (Expr.Name _ _) (envOf _ _ _ _ _)) _ _ _); k_dflt (refine' ld ?nx1 ?nx2 ?_; (case nx1 => k_asm); (case nx2 => (first | (with_reducible assumption) | ((repeat' (first | exact if_pos rfl | refine (if_neg (by decide)).trans ?_)) <;> (with_reducible assumption)))); k_whole)))
  (k_with "eval Name" => (k_here; (with_reducible show wpAny _ _ (eval (Expr.Name _ _) (envOfC _ _ _ _ _)) _ _ _); k_dflt (refine' nameX_L ?nx1 ?nx2 ?_ ?nxa ?nxb; (case nx1 => k_asm); (case nxa => rfl); (case nxb => rfl); (case nx2 => (first | (with_reducible assumption) | ((repeat' (first | exact if_pos rfl | refine (if_neg (by decide)).trans ?_)) <;> (with_reducible assumption)))); k_whole)))
  (k_with "loadName" => (k_here; k_dflt (refine' ldn ?nx1 ?nx2 ?_; (case nx1 => k_asm); (case nx2 => (first | (with_reducible assumption) | ((repeat' (first | exact if_pos rfl | refine (if_neg (by decide)).trans ?_)) <;> (with_reducible assumption)))); k_whole)))
  (k_with "ite" => (first | refine ite_yes (by assumption) ?_ | refine ite_no (by assumption) ?_))
  (k_with "call ref" => (k_dflt (refine' word_at_spec (by assumption) (by assumption) (by assumption) (by assumption) (by assumption) ?hk ?hd h0 (by omega) hl ?_; (case hk => first | rfl | assumption); (case hd => ktr_room); rw [hw])))
  refine wpAny_call ?_
  k_dflt cell_enter
  k_steps
  · exact hret _ _ _ _ _ _ _ _ _ _ _ (by assumption) (news_in (by assumption) (by kcj_all)) (by first | assumption | (refine allLt_of ?_; assumption) | exact (by assumption : _ < _ ∧ AllLt _ _).2 | exact (by assumption : _ < _ ∧ _ < _ ∧ AllLt _ _).2.2 | exact (by assumption : _ < _ ∧ _ < _ ∧ _ < _ ∧ AllLt _ _).2.2.2 | exact (by assumption : _ < _ ∧ _ < _ ∧ _ < _ ∧ _ < _ ∧ AllLt _ _).2.2.2.2 | exact (by assumption : _ < _ ∧ _ < _ ∧ _ < _ ∧ _ < _ ∧ _ < _ ∧ AllLt _ _).2.2.2.2.2 | exact (by assumption : _ < _ ∧ _ < _ ∧ _ < _ ∧ _ < _ ∧ _ < _ ∧ _ < _ ∧ AllLt _ _).2.2.2.2.2.2 | exact (by assumption : _ < _ ∧ _ < _ ∧ _ < _ ∧ _ < _ ∧ _ < _ ∧ _ < _ ∧ _ < _ ∧ AllLt _ _).2.2.2.2.2.2.2 | exact (by assumption : _ < _ ∧ _ < _ ∧ _ < _ ∧ _ < _ ∧ _ < _ ∧ _ < _ ∧ _ < _ ∧ _ < _ ∧ AllLt _ _).2.2.2.2.2.2.2.2) (by refine ltN ?_; omega) (by refine ltN ?_; omega)
end
end
local macro_rules | `(tactic| k_all) => `(tactic| first | exact allLt_ne (by first | assumption | (refine allLt_of ?_; assumption) | exact (by assumption : _ < _ ∧ AllLt _ _).2 | exact (by assumption : _ < _ ∧ _ < _ ∧ AllLt _ _).2.2 | exact (by assumption : _ < _ ∧ _ < _ ∧ _ < _ ∧ AllLt _ _).2.2.2 | exact (by assumption : _ < _ ∧ _ < _ ∧ _ < _ ∧ _ < _ ∧ AllLt _ _).2.2.2.2 | exact (by assumption : _ < _ ∧ _ < _ ∧ _ < _ ∧ _ < _ ∧ _ < _ ∧ AllLt _ _).2.2.2.2.2 | exact (by assumption : _ < _ ∧ _ < _ ∧ _ < _ ∧ _ < _ ∧ _ < _ ∧ _ < _ ∧ AllLt _ _).2.2.2.2.2.2 | exact (by assumption : _ < _ ∧ _ < _ ∧ _ < _ ∧ _ < _ ∧ _ < _ ∧ _ < _ ∧ _ < _ ∧ AllLt _ _).2.2.2.2.2.2.2 | exact (by assumption : _ < _ ∧ _ < _ ∧ _ < _ ∧ _ < _ ∧ _ < _ ∧ _ < _ ∧ _ < _ ∧ _ < _ ∧ AllLt _ _).2.2.2.2.2.2.2.2) | assumption)
section
section
variable {w : World} {mean : ExcName → Option Value} {mg mb : Str → Option Value} {dp un : Nat} {gd : Option (List Code)} {cn : Str} {cs : Scope} {a : Addr} {ccd : Value} {cl : List (Str × Addr)} {outer : List Env} {A₀ : Around} {base h₀ : Heap} {L : Addr} {m : Str → Option Value} {s : Shared} {Q E : Value → Shared → Prop} {news : List (Addr × Obj)}
theorem allLt_mem {d : Addr} {l : List (Addr × Obj)} (h : AllLt d l) : ∀ p ∈ l, @LT.lt Nat _ p.1 d := by
  induction l with
  | nil => exact List.forall_mem_nil _
  | cons q r ih => exact List.forall_mem_cons.mpr ⟨h.1, ih h.2⟩
theorem allLt_ne {d : Addr} {l : List (Addr × Obj)} (h : AllLt d l) : ∀ p ∈ l, p.1 ≠ d := fun p hp => Nat.ne_of_lt (allLt_mem h p hp)
structure GotoText (x : Str) (g : Int) : Prop where
  len : 6 < x.length
  len2 : x.length ≤ 10
  low : ∀ c ∈ x.cps.toList, NotLow ⟨#[c]⟩
  b0 : (behind x 0 : Int) = 1
  c1 : (Txt.item x 1).cps.getD 0 0 = 71
  w1 : wordAt x 1 = Str.ofString "GOTO"
  b5 : (behind x (1 + 4) : Int) = 6
  d6 : signIn (Str.ofString "0123456789") (Txt.item x 6) = true
  n6 : readNum x 6 = (g, x.length)
  be : (behind x x.length : Int) = x.length
theorem tokens_of_goto {x : Str} {g : Int} {t : Tok}
    (B : Below A₀ base outer h₀) (F : Fr h₀ L s.heap m) (X : (hd.heap_39 w.params).In h₀) (N : News h₀ L s.heap news)
    (T : Top hd.view_39 Loo mean mg mb h₀) (hk : cs.kind = .function) (hdp : dp + 16 < recursionLimit) (G : GotoText x g)
    (hret : ∀ T A B (a1 a2 b1 b2 : Tok) e1 e2 e3 h' tk', Fr h₀ L h' m →
      News h₀ L h' ((T, listOf #[.ref A, .ref B] e1) :: (A, tup2 (.str (Str.ofString "word") a1) (.str (Str.ofString "GOTO") a2) e2) :: (B, tup2 (.str (Str.ofString "number") b1) (.int g b2) e3) :: news) →
      AllLt T news → @LT.lt Nat _ T A → @LT.lt Nat _ A B → Q (.ref T) {s with heap := h', toks := tk'}) :
    wpAny (model Pg w) (ktrTop dp un gd cn cs L a ccd cl outer) (call (.ref 118) [.str x t]) Q E s := by
  have q1 := G.len
  have q2 := G.len2
  k_with_none
  (k_with "eval Name" => (k_here; (with_reducible show wpAny _ _ (eval (Expr.Name _ _) (envOf _ _ _ _ _)) _ _ _); k_dflt (refine' ld ?nx1 ?nx2 ?_; (case nx1 => k_asm); (case nx2 => (first | (with_reducible assumption) | ((repeat' (first | exact if_pos rfl | refine (if_neg (by decide)).trans ?_)) <;> (with_reducible assumption)))); k_whole)))
  (k_with "eval Name" => (k_here; (with_reducible show wpAny _ _ (eval (Expr.Name _ _) (envOfC _ _ _ _ _)) _ _ _); k_dflt (refine' nameX_L ?nx1 ?nx2 ?_ ?nxa ?nxb; (case nx1 => k_asm); (case nxa => rfl); (case nxb => rfl); (case nx2 => (first | (with_reducible assumption) | ((repeat' (first | exact if_pos rfl | refine (if_neg (by decide)).trans ?_)) <;> (with_reducible assumption)))); k_whole)))
  (k_with "loadName" => (k_here; k_dflt (refine' ldn ?nx1 ?nx2 ?_; (case nx1 => k_asm); (case nx2 => (first | (with_reducible assumption) | ((repeat' (first | exact if_pos rfl | refine (if_neg (by decide)).trans ?_)) <;> (with_reducible assumption)))); k_whole)))
  (k_with "ite" => (first | refine ite_yes (by assumption) ?_ | refine ite_no (by assumption) ?_))
  (k_with "call ref" => (k_dflt (refine' great_text_spec (by assumption) (by assumption) (by assumption) (by assumption) (by assumption) ?hk ?hd G.low (by omega) ?_; (case hk => first | rfl | assumption); (case hd => ktr_room))))
  (k_with "call ref" => (k_dflt (refine' behind_spec (by assumption) (by assumption) (by assumption) (by assumption) (by assumption) ?hk ?hd (by omega) (by omega) (by omega) ?_; (case hk => first | rfl | assumption); (case hd => ktr_room); (first | rw [G.b0] | rw [G.b5] | rw [G.be]))))
  (k_with "call ref" => (k_dflt (refine' read_token_goto (k := 1) (by assumption) (by assumption) (by assumption) (by assumption) (by assumption) ?hk ?hd (by omega) (by omega) (by omega) G.c1 G.w1 ?_; (case hk => first | rfl | assumption); (case hd => ktr_room); intro T T1 T2 a1 a2 a3 e1 e2 e3 h' tk' F' N' l1 l2 l3; simp only [AllLt, and_true] at l1)))
  (k_with "call ref" => (k_dflt (refine' read_token_num (k := 6) (by assumption) (by assumption) (by assumption) (by assumption) (by assumption) ?hk ?hd (by omega) (by omega) (by omega) (by omega) G.d6 ?_; (case hk => first | rfl | assumption); (case hd => ktr_room); rw [G.n6]; dsimp only; intro T T1 T2 a1 a2 a3 e1 e2 e3 h' tk' F' N' l1 l2 l3; simp only [AllLt, and_true] at l1)))
  (k_with "exec While" => (k_dflt (
    refine While_inv2 (n₀ := 2) (fun n m₁ news₁ => ∃ (fl : Addr) (tw tx ta : Tok) (p : Int) (e : Nat),
      m₁ (Str.ofString "text") = some (.str x tx) ∧ m₁ (Str.ofString "whole") = some (.str x tw) ∧ m₁ (Str.ofString "at") = some (.int p ta) ∧ m₁ (Str.ofString "found") = some (.ref fl) ∧ AllLt fl news ∧
      ((n = 2 ∧ p = 1 ∧ news₁ = (fl, listOf #[] e) :: news) ∨
       (n = 1 ∧ p = 6 ∧ ∃ A a1 a2 e2, news₁ = (fl, listOf #[.ref A] e) :: (A, tup2 (.str (Str.ofString "word") a1) (.str (Str.ofString "GOTO") a2) e2) :: news ∧ @LT.lt Nat _ fl A) ∨
       (n = 0 ∧ p = x.length ∧ ∃ A B a1 a2 b1 b2 e2 e3, news₁ = (fl, listOf #[.ref A, .ref B] e) :: (A, tup2 (.str (Str.ofString "word") a1) (.str (Str.ofString "GOTO") a2) e2) :: (B, tup2 (.str (Str.ofString "number") b1) (.int g b2) e3) :: news ∧ @LT.lt Nat _ fl A ∧ @LT.lt Nat _ A B)))
      (by assumption) (cb_drop (by assumption) (by kcj_all)) ⟨_, _, _, _, 1, _, rfl, rfl, rfl, rfl, (by first | assumption | (refine allLt_of ?_; assumption) | exact (by assumption : _ < _ ∧ AllLt _ _).2 | exact (by assumption : _ < _ ∧ _ < _ ∧ AllLt _ _).2.2 | exact (by assumption : _ < _ ∧ _ < _ ∧ _ < _ ∧ AllLt _ _).2.2.2 | exact (by assumption : _ < _ ∧ _ < _ ∧ _ < _ ∧ _ < _ ∧ AllLt _ _).2.2.2.2 | exact (by assumption : _ < _ ∧ _ < _ ∧ _ < _ ∧ _ < _ ∧ _ < _ ∧ AllLt _ _).2.2.2.2.2 | exact (by assumption : _ < _ ∧ _ < _ ∧ _ < _ ∧ _ < _ ∧ _ < _ ∧ _ < _ ∧ AllLt _ _).2.2.2.2.2.2 | exact (by assumption : _ < _ ∧ _ < _ ∧ _ < _ ∧ _ < _ ∧ _ < _ ∧ _ < _ ∧ _ < _ ∧ AllLt _ _).2.2.2.2.2.2.2 | exact (by assumption : _ < _ ∧ _ < _ ∧ _ < _ ∧ _ < _ ∧ _ < _ ∧ _ < _ ∧ _ < _ ∧ _ < _ ∧ AllLt _ _).2.2.2.2.2.2.2.2), .inl ⟨rfl, rfl, rfl⟩⟩ ?turn
    rintro n m₁ news₁ h₁ tk₁ F₁ N₁ ⟨fl, tw, tx, ta, p, e, e1, e2, e3, e4, e5, ⟨rfl, rfl, rfl⟩ | ⟨rfl, rfl, A, a1, a2, e6, rfl, l0⟩ | ⟨rfl, rfl, A, B, a1, a2, b1, b2, e6, e7, rfl, l0, l00⟩⟩
    all_goals (try dsimp only))))
  refine wpAny_call ?_
  k_dflt cell_enter
  k_steps
  · refine' whl_next 1 (by assumption) (news_in (by assumption) ?sub) (by omega) ⟨fl, _, _, _, 6, _, ?a1, ?a2, ?a3, ?a4, e5, .inr (.inl ⟨rfl, rfl, _, _, _, _, rfl, ?_⟩)⟩
    case sub => kcj_all
    case a1 => ((repeat' (first | exact if_pos rfl | refine (if_neg (by decide)).trans ?_)) <;> (first | (with_reducible assumption) | rfl))
    case a2 => ((repeat' (first | exact if_pos rfl | refine (if_neg (by decide)).trans ?_)) <;> (first | (with_reducible assumption) | rfl))
    case a3 => ((repeat' (first | exact if_pos rfl | refine (if_neg (by decide)).trans ?_)) <;> (first | (with_reducible assumption) | rfl))
    case a4 => ((repeat' (first | exact if_pos rfl | refine (if_neg (by decide)).trans ?_)) <;> (first | (with_reducible assumption) | rfl))
    omega
  · refine' whl_next 0 (by assumption) (news_in (by assumption) ?sub) (by omega) ⟨fl, _, _, _, _, _, ?a1, ?a2, ?a3, ?a4, e5, .inr (.inr ⟨rfl, rfl, _, _, _, _, _, _, _, _, rfl, l0, ?_⟩)⟩
    case sub => kcj_all
    case a1 => ((repeat' (first | exact if_pos rfl | refine (if_neg (by decide)).trans ?_)) <;> (first | (with_reducible assumption) | rfl))
    case a2 => ((repeat' (first | exact if_pos rfl | refine (if_neg (by decide)).trans ?_)) <;> (first | (with_reducible assumption) | rfl))
    case a3 => ((repeat' (first | exact if_pos rfl | refine (if_neg (by decide)).trans ?_)) <;> (first | (with_reducible assumption) | rfl))
    case a4 => ((repeat' (first | exact if_pos rfl | refine (if_neg (by decide)).trans ?_)) <;> (first | (with_reducible assumption) | rfl))
    omega
  · exact hret _ _ _ _ _ _ _ _ _ _ _ _ (by assumption) (news_in (by assumption) (by kcj_all)) e5 l0 l00
end
end
section
section
variable {w : World} {mean : ExcName → Option Value} {mg mb : Str → Option Value} {dp un : Nat} {gd : Option (List Code)} {cn : Str} {cs : Scope} {a : Addr} {ccd : Value} {cl : List (Str × Addr)} {outer : List Env} {A₀ : Around} {base h₀ : Heap} {L : Addr} {m : Str → Option Value} {s : Shared} {Q E : Value → Shared → Prop} {news : List (Addr × Obj)}
theorem min_twoN {prog : Program} {A : Around} {a b : Int} {t u : Tok} (hh : A.handled = none) (F : Fr h₀ L s.heap m) (N : News h₀ L s.heap news)
    (h : ∀ t' h' tk, Fr h₀ L h' m → News h₀ L h' news → Q (.int (min a b) t') { s with heap := h', toks := tk }) :
    wpAny (model prog w) A (call (.builtin "min") [.int a t, .int b u]) Q E s := by
  refine min_two_ints hh fun h' tk hk => ?_
  by_cases hc : b < a
  · rw [if_pos hc]
    have e : min a b = b := by omega
    rw [← e]
    exact h _ _ _ (F.keeps hk) (N.grown hk)
  · rw [if_neg hc]
    have e : min a b = a := by omega
    have := h t h' tk (F.keeps hk) (N.grown hk)
    rw [e] at this
    exact this
noncomputable def isDig (c : Str) : Bool := !decide (c.cps.toList < (Str.ofString "0").cps.toList) && !decide ((Str.ofString "9").cps.toList < c.cps.toList)
theorem isDig_lo {c : Str} (h : c.cps.toList < (Str.ofString "0").cps.toList) : isDig c = false := by unfold isDig; rw [decide_eq_true h]; rfl
theorem isDig_hi {c : Str} (h : (Str.ofString "9").cps.toList < c.cps.toList) : isDig c = false := by unfold isDig; rw [decide_eq_true h, Bool.not_true, Bool.and_false]
theorem isDig_yes {c : Str} (h : ¬ c.cps.toList < (Str.ofString "0").cps.toList) (h' : ¬ (Str.ofString "9").cps.toList < c.cps.toList) : isDig c = true := by unfold isDig; rw [decide_eq_false h, decide_eq_false h']; rfl
theorem zero_is : (Str.ofString "0").cps.toList = [48] := by decide +kernel
theorem nine_is : (Str.ofString "9").cps.toList = [57] := by decide +kernel
theorem dig_bounds {x : Str} {j : Int} (h : ¬ (Txt.item x j).cps.toList < (Str.ofString "0").cps.toList) (h' : ¬ (Str.ofString "9").cps.toList < (Txt.item x j).cps.toList) : 48 ≤ (Txt.item x j).cps.getD 0 0 ∧ (Txt.item x j).cps.getD 0 0 ≤ 57 := by
  rw [zero_is] at h
  rw [nine_is] at h'
  have e : (Txt.item x j).cps.toList = [(Txt.item x j).cps.getD 0 0] := rfl
  rw [e] at h h'
  constructor
  · exact Nat.not_lt.mp fun q => h (List.Lex.rel q)
  · exact Nat.not_lt.mp fun q => h' (List.Lex.rel q)
noncomputable def splitF (x : Str) : Nat → Nat → Int → Int × Nat
  | 0, j, f => (f, j)
  | n + 1, j, f => if isDig (Txt.item x j) = true then splitF x n (j + 1) (min (f * 10 + ((Txt.item x j).cps.getD 0 0 : Nat) - 48) (65529 + 1)) else (f, j)
@[irreducible] noncomputable def splitNum (x : Str) : Int × Nat := splitF x x.length 0 0
theorem splitNum_def (x : Str) : splitNum x = splitF x (x.length - 0) 0 0 := by unfold splitNum; rfl
theorem split_number_spec {x : Str} {t : Tok} {g : Int} {d : Nat}
    (B : Below A₀ base outer h₀) (F : Fr h₀ L s.heap m) (X : (hd.heap_39 w.params).In h₀) (N : News h₀ L s.heap news)
    (T : Top hd.view_39 Loo mean mg mb h₀) (hk : cs.kind = .function) (hdp : dp + 10 < recursionLimit)
    (hl : x.length < 1000) (hb : (behind x 0 : Int) = 0) (hs : splitNum x = (g, d)) (hd0 : d ≠ 0)
    (hret : ∀ T (a1 a2 : Tok) e h' tk', Fr h₀ L h' m → News h₀ L h' ((T, tup2 (.int g a1) (.str (Txt.slice x (some d) none) a2) e) :: news) → AllLt T news → Q (.ref T) {s with heap := h', toks := tk'}) :
    wpAny (model Pg w) (ktrTop dp un gd cn cs L a ccd cl outer) (call (.ref 168) [.str x t]) Q E s := by
  k_with_none
  (k_with "eval Name" => (k_here; (with_reducible show wpAny _ _ (eval (Expr.Name _ _) (envOf _ _ _ _ _)) _ _ _); k_dflt (refine' ld ?nx1 ?nx2 ?_; (case nx1 => k_asm); (case nx2 => (first | (with_reducible assumption) | ((repeat' (first | exact if_pos rfl | refine (if_neg (by decide)).trans ?_)) <;> (with_reducible assumption)))); k_whole)))
  (k_with "eval Name" => (k_here; (with_reducible show wpAny _ _ (eval (Expr.Name _ _) (envOfC _ _ _ _ _)) _ _ _); k_dflt (refine' nameX_L ?nx1 ?nx2 ?_ ?nxa ?nxb; (case nx1 => k_asm); (case nxa => rfl); (case nxb => rfl); (case nx2 => (first | (with_reducible assumption) | ((repeat' (first | exact if_pos rfl | refine (if_neg (by decide)).trans ?_)) <;> (with_reducible assumption)))); k_whole)))
  (k_with "loadName" => (k_here; k_dflt (refine' ldn ?nx1 ?nx2 ?_; (case nx1 => k_asm); (case nx2 => (first | (with_reducible assumption) | ((repeat' (first | exact if_pos rfl | refine (if_neg (by decide)).trans ?_)) <;> (with_reducible assumption)))); k_whole)))
  (k_with "call ref" => (k_dflt (refine' behind_spec (by assumption) (by assumption) (by assumption) (by assumption) (by assumption) ?hk ?hd (by omega) (by omega) (by omega) ?_; (case hk => first | rfl | assumption); (case hd => ktr_room); rw [hb])))
  (k_with "subscriptTail Name Slice str ref" => (k_dflt (refine' slice_strN_sn_len (s := ⟨_, _, _, _, _⟩) ?k1 ?k2 ?_; (case k1 => assumption); (case k2 => assumption); intro h' t' k' F' N' hl'; (try dsimp only))))
  (k_with "call builtin:min" => (k_dflt (refine' min_twoN rfl ?k1 ?k2 ?_; (case k1 => assumption); (case k2 => assumption); intro t' h' tk' F' N'; (try dsimp only))))
  (k_with "exec While" => (k_dflt (
    refine While_inv2 (n₀ := x.length) (fun n m₁ news₁ => ∃ (j : Nat) (tx tj tb : Tok) (f : Int) (tf : Tok), news₁ = news ∧
      m₁ (Str.ofString "text") = some (.str x tx) ∧ m₁ (Str.ofString "begin") = some (.int 0 tb) ∧ m₁ (Str.ofString "at") = some (.int j tj) ∧ m₁ (Str.ofString "number") = some (.int f tf) ∧ j ≤ x.length ∧ 0 ≤ f ∧ f ≤ 65530 ∧ n = x.length - j ∧ splitNum x = splitF x (x.length - j) j f)
      (by assumption) (cb_drop (by assumption) (by kcj_all)) ⟨0, _, _, _, 0, _, rfl, rfl, rfl, rfl, rfl, by omega, by omega, by omega, by omega, splitNum_def x⟩ ?turn
    rintro n m₁ news₁ h₁ tk₁ F₁ N₁ ⟨j, tx, tj, tb, f, tf, rfl, e1, e2, e3, e4, b1, b2, b3, b4, b5⟩
    try dsimp only)))
  refine wpAny_call ?_
  k_dflt cell_enter
  k_steps
  · have e : splitNum x = (f, j) := by
      have hj : x.length - j = (x.length - (j + 1)) + 1 := by omega
      rw [b5, hj, splitF, if_neg (Bool.eq_false_iff.mp (isDig_lo (by assumption)))]
    rw [e] at hs
    have eg : f = g := congrArg Prod.fst hs
    have ed : j = d := congrArg Prod.snd hs
    exfalso; omega
  · have e : splitNum x = (f, j) := by
      have hj : x.length - j = (x.length - (j + 1)) + 1 := by omega
      rw [b5, hj, splitF, if_neg (Bool.eq_false_iff.mp (isDig_lo (by assumption)))]
    rw [e] at hs
    have eg : f = g := congrArg Prod.fst hs
    have ed : j = d := congrArg Prod.snd hs
    subst eg ed
    exact hret _ _ _ _ _ _ (by assumption) (news_in (by assumption) (by kcj_all)) (by first | assumption | (refine allLt_of ?_; assumption) | exact (by assumption : _ < _ ∧ AllLt _ _).2 | exact (by assumption : _ < _ ∧ _ < _ ∧ AllLt _ _).2.2 | exact (by assumption : _ < _ ∧ _ < _ ∧ _ < _ ∧ AllLt _ _).2.2.2 | exact (by assumption : _ < _ ∧ _ < _ ∧ _ < _ ∧ _ < _ ∧ AllLt _ _).2.2.2.2 | exact (by assumption : _ < _ ∧ _ < _ ∧ _ < _ ∧ _ < _ ∧ _ < _ ∧ AllLt _ _).2.2.2.2.2 | exact (by assumption : _ < _ ∧ _ < _ ∧ _ < _ ∧ _ < _ ∧ _ < _ ∧ _ < _ ∧ AllLt _ _).2.2.2.2.2.2 | exact (by assumption : _ < _ ∧ _ < _ ∧ _ < _ ∧ _ < _ ∧ _ < _ ∧ _ < _ ∧ _ < _ ∧ AllLt _ _).2.2.2.2.2.2.2 | exact (by assumption : _ < _ ∧ _ < _ ∧ _ < _ ∧ _ < _ ∧ _ < _ ∧ _ < _ ∧ _ < _ ∧ _ < _ ∧ AllLt _ _).2.2.2.2.2.2.2.2)
  · have e : splitNum x = (f, j) := by
      have hj : x.length - j = (x.length - (j + 1)) + 1 := by omega
      rw [b5, hj, splitF, if_neg (Bool.eq_false_iff.mp (isDig_hi (by assumption)))]
    rw [e] at hs
    have eg : f = g := congrArg Prod.fst hs
    have ed : j = d := congrArg Prod.snd hs
    exfalso; omega
  · have e : splitNum x = (f, j) := by
      have hj : x.length - j = (x.length - (j + 1)) + 1 := by omega
      rw [b5, hj, splitF, if_neg (Bool.eq_false_iff.mp (isDig_hi (by assumption)))]
    rw [e] at hs
    have eg : f = g := congrArg Prod.fst hs
    have ed : j = d := congrArg Prod.snd hs
    subst eg ed
    exact hret _ _ _ _ _ _ (by assumption) (news_in (by assumption) (by kcj_all)) (by first | assumption | (refine allLt_of ?_; assumption) | exact (by assumption : _ < _ ∧ AllLt _ _).2 | exact (by assumption : _ < _ ∧ _ < _ ∧ AllLt _ _).2.2 | exact (by assumption : _ < _ ∧ _ < _ ∧ _ < _ ∧ AllLt _ _).2.2.2 | exact (by assumption : _ < _ ∧ _ < _ ∧ _ < _ ∧ _ < _ ∧ AllLt _ _).2.2.2.2 | exact (by assumption : _ < _ ∧ _ < _ ∧ _ < _ ∧ _ < _ ∧ _ < _ ∧ AllLt _ _).2.2.2.2.2 | exact (by assumption : _ < _ ∧ _ < _ ∧ _ < _ ∧ _ < _ ∧ _ < _ ∧ _ < _ ∧ AllLt _ _).2.2.2.2.2.2 | exact (by assumption : _ < _ ∧ _ < _ ∧ _ < _ ∧ _ < _ ∧ _ < _ ∧ _ < _ ∧ _ < _ ∧ AllLt _ _).2.2.2.2.2.2.2 | exact (by assumption : _ < _ ∧ _ < _ ∧ _ < _ ∧ _ < _ ∧ _ < _ ∧ _ < _ ∧ _ < _ ∧ _ < _ ∧ AllLt _ _).2.2.2.2.2.2.2.2)
  · obtain ⟨c1, c2⟩ := dig_bounds (x := x) (j := j) (by assumption) (by assumption)
    refine' whl_next (x.length - (j + 1)) (by assumption) (by assumption) (by omega) ⟨j + 1, _, _, _, min (f * 10 + (((Txt.item x j).cps.getD 0 0 : Nat) : Int) - 48) (65529 + 1), _, rfl, ?a1, ?a2, ?a3, ?a4, by omega, by omega, by omega, rfl, ?_⟩
    case a1 => ((repeat' (first | exact if_pos rfl | refine (if_neg (by decide)).trans ?_)) <;> (first | (with_reducible assumption) | rfl))
    case a2 => ((repeat' (first | exact if_pos rfl | refine (if_neg (by decide)).trans ?_)) <;> (first | (with_reducible assumption) | rfl))
    case a3 => ((repeat' (first | exact if_pos rfl | refine (if_neg (by decide)).trans ?_)) <;> (first | (with_reducible assumption) | rfl))
    case a4 => ((repeat' (first | exact if_pos rfl | refine (if_neg (by decide)).trans ?_)) <;> (first | (with_reducible assumption) | rfl))
    have hj : x.length - j = (x.length - (j + 1)) + 1 := by omega
    rw [b5, hj, splitF, if_pos (isDig_yes (by assumption) (by assumption))]
  · have e : splitNum x = (f, j) := by
      have hj : x.length - j = 0 := by omega
      rw [b5, hj, splitF]
    rw [e] at hs
    have eg : f = g := congrArg Prod.fst hs
    have ed : j = d := congrArg Prod.snd hs
    exfalso; omega
  · have e : splitNum x = (f, j) := by
      have hj : x.length - j = 0 := by omega
      rw [b5, hj, splitF]
    rw [e] at hs
    have eg : f = g := congrArg Prod.fst hs
    have ed : j = d := congrArg Prod.snd hs
    subst eg ed
    exact hret _ _ _ _ _ _ (by assumption) (news_in (by assumption) (by kcj_all)) (by first | assumption | (refine allLt_of ?_; assumption) | exact (by assumption : _ < _ ∧ AllLt _ _).2 | exact (by assumption : _ < _ ∧ _ < _ ∧ AllLt _ _).2.2 | exact (by assumption : _ < _ ∧ _ < _ ∧ _ < _ ∧ AllLt _ _).2.2.2 | exact (by assumption : _ < _ ∧ _ < _ ∧ _ < _ ∧ _ < _ ∧ AllLt _ _).2.2.2.2 | exact (by assumption : _ < _ ∧ _ < _ ∧ _ < _ ∧ _ < _ ∧ _ < _ ∧ AllLt _ _).2.2.2.2.2 | exact (by assumption : _ < _ ∧ _ < _ ∧ _ < _ ∧ _ < _ ∧ _ < _ ∧ _ < _ ∧ AllLt _ _).2.2.2.2.2.2 | exact (by assumption : _ < _ ∧ _ < _ ∧ _ < _ ∧ _ < _ ∧ _ < _ ∧ _ < _ ∧ _ < _ ∧ AllLt _ _).2.2.2.2.2.2.2 | exact (by assumption : _ < _ ∧ _ < _ ∧ _ < _ ∧ _ < _ ∧ _ < _ ∧ _ < _ ∧ _ < _ ∧ _ < _ ∧ AllLt _ _).2.2.2.2.2.2.2.2)
end
end
section
section
variable {w : World} {mean : ExcName → Option Value} {mg mb : Str → Option Value} {dp un : Nat} {gd : Option (List Code)} {cn : Str} {cs : Scope} {a : Addr} {ccd : Value} {cl : List (Str × Addr)} {outer : List Env} {A₀ : Around} {base h₀ : Heap} {L : Addr} {m : Str → Option Value} {s : Shared} {Q E : Value → Shared → Prop} {news : List (Addr × Obj)}
theorem place_mem {ns : List Int} {k r : Int} (h : IsPlace ns k r) (hs : ns.Pairwise (· < ·)) : k ∈ ns ↔ (r < ns.length ∧ ns.getD r.toNat 0 = k) := by
  obtain ⟨h0, h1, h2, h3⟩ := h
  constructor
  · intro hm
    obtain ⟨i, hi, e⟩ := List.getElem_of_mem hm
    have ei : ns.getD i 0 = k := by simp [List.getD_eq_getElem?_getD, hi, e]
    by_cases hir : (i : Int) < r
    · have := h2 i hir; omega
    · have hr : r < ns.length := by omega
      refine ⟨hr, ?_⟩
      by_cases q : r.toNat = i
      · rw [q, ei]
      · have h4 := h3 r.toNat (by omega) (by omega)
        have h5 := sorted_getD hs (show r.toNat < i by omega) hi
        omega
  · rintro ⟨hr, e⟩
    have hi : r.toNat < ns.length := by omega
    rw [← e]
    simp [List.getD_eq_getElem?_getD, hi]
theorem has_line_spec {p dx nl rl : Addr} {h1 h2 : Int} {t1 t2 : Tok} {vs rs : List Value} {ns : List Int} {e1 e2 : Nat} {k : Int} {t : Tok}
    (B : Below A₀ base outer h₀) (F : Fr h₀ L s.heap m) (X : (hd.heap_39 w.params).In h₀) (N : News h₀ L s.heap news)
    (T : Top hd.view_39 Loo mean mg mb h₀) (hk : cs.kind = .function) (hdp : dp + 8 < recursionLimit) (hu : un + 12 < cLine)
    (P : PIn news p dx nl rl h1 h2 t1 t2 vs rs e1 e2) (hi : IntsAre vs ns) (hlen : ns.length < 1000) (hs : ns.Pairwise (· < ·))
    (hret : ∀ h' tk', Fr h₀ L h' m → News h₀ L h' news → Q (.bool (decide (k ∈ ns))) {s with heap := h', toks := tk'}) :
    wpAny (model Pg w) (ktrTop dp un gd cn cs L a ccd cl outer) (call (.ref 154) [.ref p, .int k t]) Q E s := by
  have N' := P.pre N
  clear N
  k_with_none
  (k_with "eval Name" => (k_here; (with_reducible show wpAny _ _ (eval (Expr.Name _ _) (envOf _ _ _ _ _)) _ _ _); k_dflt (refine' ld ?nx1 ?nx2 ?_; (case nx1 => k_asm); (case nx2 => (first | (with_reducible assumption) | ((repeat' (first | exact if_pos rfl | refine (if_neg (by decide)).trans ?_)) <;> (with_reducible assumption)))); k_whole)))
  (k_with "eval Name" => (k_here; (with_reducible show wpAny _ _ (eval (Expr.Name _ _) (envOfC _ _ _ _ _)) _ _ _); k_dflt (refine' nameX_L ?nx1 ?nx2 ?_ ?nxa ?nxb; (case nx1 => k_asm); (case nxa => rfl); (case nxb => rfl); (case nx2 => (first | (with_reducible assumption) | ((repeat' (first | exact if_pos rfl | refine (if_neg (by decide)).trans ?_)) <;> (with_reducible assumption)))); k_whole)))
  (k_with "loadName" => (k_here; k_dflt (refine' ldn ?nx1 ?nx2 ?_; (case nx1 => k_asm); (case nx2 => (first | (with_reducible assumption) | ((repeat' (first | exact if_pos rfl | refine (if_neg (by decide)).trans ?_)) <;> (with_reducible assumption)))); k_whole)))
  (k_with "call ref" => (k_dflt (refine' place_of_spec (by assumption) (by assumption) (by assumption) (by assumption) (by assumption) ?hk ?hd ?hu ⟨by k_mem, by k_mem, by k_mem, by k_mem⟩ hi hlen hs ?_; (case hk => first | rfl | assumption); (case hd => ktr_room); (case hu => ktr_units); intro r t' h' tk' hpl F' N'; have hp0 := hpl.1; have hp1 := hpl.2.1)))
  refine wpAny_call ?_
  k_dflt cell_enter
  k_steps
  · have e : decide (k ∈ ns) = (ns.getD r.toNat 0 == k) := by
      rw [Bool.eq_iff_iff, decide_eq_true_eq, beq_iff_eq, place_mem hpl hs]
      exact ⟨fun q => q.2, fun q => ⟨by assumption, q⟩⟩
    rw [← e]
    exact hret _ _ (by assumption) (news_in (by assumption) (by kcj_all))
  · have e : decide (k ∈ ns) = decide (r < ↑ns.length) := by
      rw [decide_eq_decide, place_mem hpl hs]
      omega
    rw [← e]
    exact hret _ _ (by assumption) (news_in (by assumption) (by kcj_all))
theorem news_ne {h₀ h : Heap} {L a b : Addr} {oa ob : Obj} {news : List (Addr × Obj)} (N : News h₀ L h news) (ha : (a, oa) ∈ news) (hb : (b, ob) ∈ news) (hne : oa.cls ≠ ob.cls) : @Ne Nat a b := by
  rintro rfl
  have := (N _ ha).1.symm.trans (N _ hb).1
  injection this with e
  exact hne (congrArg Obj.cls e)
theorem place_max {ns : List Int} {k r : Int} (h : IsPlace ns k r) (hm : ∀ x ∈ ns, x < k) : r = ns.length := by
  obtain ⟨h0, h1, h2, h3⟩ := h
  by_cases q : r < ns.length
  · have e := h3 r.toNat (by omega) (by omega)
    have hi : r.toNat < ns.length := by omega
    have e2 := hm (ns.getD r.toNat 0) (by simp [List.getD_eq_getElem?_getD, hi])
    omega
  · omega
theorem ins_end {vs : List Value} {y : Value} {r : Int} (h : r = vs.length) : kl_ins vs r y = vs ++ [y] := by
  subst h
  have h0 : ¬ ((vs.length : Int) < 0) := by omega
  simp [kl_ins, h0]
theorem fits_index {x : Int} (h0 : 0 ≤ x) (h1 : x < 100000) : Builtin.List.listFitsIndex x = true := by
  simp [Builtin.List.listFitsIndex]
  omega
/-- the ledger without two addresses -/
noncomputable def without (nl rl : Addr) (news : List (Addr × Obj)) : List (Addr × Obj) := news.filter fun q => decide (q.1 ≠ nl) && decide (q.1 ≠ rl)
theorem without_sub {nl rl : Addr} {news : List (Addr × Obj)} : ∀ q ∈ without nl rl news, q ∈ news := fun q hq => (List.mem_filter.mp hq).1
theorem without_ne1 {nl rl : Addr} {news : List (Addr × Obj)} : ∀ q ∈ without nl rl news, q.1 ≠ nl := fun q hq => by
  have := (List.mem_filter.mp hq).2
  simp only [Bool.and_eq_true, decide_eq_true_eq] at this
  exact this.1
theorem without_ne2 {nl rl : Addr} {news : List (Addr × Obj)} : ∀ q ∈ without nl rl news, q.1 ≠ rl := fun q hq => by
  have := (List.mem_filter.mp hq).2
  simp only [Bool.and_eq_true, decide_eq_true_eq] at this
  exact this.2
theorem mem_without {nl rl : Addr} {news : List (Addr × Obj)} {q : Addr × Obj} (h : q ∈ news) (h1 : q.1 ≠ nl) (h2 : q.1 ≠ rl) : q ∈ without nl rl news := List.mem_filter.mpr ⟨h, by simp [h1, h2]⟩
theorem put_line_spec {p dx nl rl rw : Addr} {h1 h2 : Int} {t1 t2 : Tok} {vs rs : List Value} {ns : List Int} {e1 e2 er : Nat} {k : Int} {t : Tok} {r1 r2 : Value}
    (B : Below A₀ base outer h₀) (F : Fr h₀ L s.heap m) (X : (hd.heap_39 w.params).In h₀) (N : News h₀ L s.heap news)
    (T : Top hd.view_39 Loo mean mg mb h₀) (hk : cs.kind = .function) (hdp : dp + 14 < recursionLimit) (hu : un + 16 < cLine)
    (P : PIn news p dx nl rl h1 h2 t1 t2 vs rs e1 e2) (hi : IntsAre vs ns) (hlen : ns.length < 1000) (hrs : rs.length = ns.length) (hs : ns.Pairwise (· < ·)) (hmax : ∀ x ∈ ns, x < k) (hk0 : 0 ≤ k) (hk1 : k ≤ 65529)
    (hrow : (rw, listOf #[r1, r2] er) ∈ news) (d1 : @Ne Nat nl rl) (d2 : @Ne Nat rw nl) (d3 : @Ne Nat rw rl)
    (hret : ∀ e1 e2 tk h' tk', Fr h₀ L h' m → News h₀ L h' ((nl, listOf (vs ++ [Value.int k tk]).toArray e1) :: (rl, listOf (rs ++ [Value.ref rw]).toArray e2) :: without nl rl news) → Q .none {s with heap := h', toks := tk'}) :
    wpAny (model Pg w) (ktrTop dp un gd cn cs L a ccd cl outer) (call (.ref 161) [.ref p, .int k t, .ref rw]) Q E s := by
  have s1 := news_ne N P.inst P.nums (by intro e; simp [instObj, W.listOf, dictOf] at e)
  have s2 := news_ne N P.inst P.rows (by intro e; simp [instObj, W.listOf, dictOf] at e)
  have s3 := news_ne N P.dict P.nums (by intro e; simp [instObj, W.listOf, dictOf] at e)
  have s4 := news_ne N P.dict P.rows (by intro e; simp [instObj, W.listOf, dictOf] at e)
  have w1 := without_ne1 (nl := nl) (rl := rl) (news := news)
  have w2 := without_ne2 (nl := nl) (rl := rl) (news := news)
  have N' : News h₀ L s.heap ((p, instObj 136 dx) :: (dx, dictOf [⟨h1, .str (Str.ofString "numbers") t1, .ref nl⟩, ⟨h2, .str (Str.ofString "rows") t2, .ref rl⟩] 2) :: (nl, listOf vs.toArray e1) :: (rl, listOf rs.toArray e2) :: (rw, listOf #[r1, r2] er) :: without nl rl news) :=
    news_in (P.pre N) fun q hq => by
      rcases List.mem_cons.mp hq with rfl | hq
      · exact .head _
      rcases List.mem_cons.mp hq with rfl | hq
      · exact .tail _ (.head _)
      rcases List.mem_cons.mp hq with rfl | hq
      · exact .tail _ (.tail _ (.head _))
      rcases List.mem_cons.mp hq with rfl | hq
      · exact .tail _ (.tail _ (.tail _ (.head _)))
      rcases List.mem_cons.mp hq with rfl | hq
      · exact .tail _ (.tail _ (.tail _ (.tail _ hrow)))
      exact .tail _ (.tail _ (.tail _ (.tail _ (without_sub q hq))))
  clear N
  have hvl := hi.length
  have hsz : 1000 ≤ PySem.sizeLine := Nat.le_of_ble_eq_true rfl
  have hnk : k ∉ ns := fun hm => Int.lt_irrefl _ (hmax k hm)
  k_with_none
  (k_with "eval Name" => (k_here; (with_reducible show wpAny _ _ (eval (Expr.Name _ _) (envOf _ _ _ _ _)) _ _ _); k_dflt (refine' ld ?nx1 ?nx2 ?_; (case nx1 => k_asm); (case nx2 => (first | (with_reducible assumption) | ((repeat' (first | exact if_pos rfl | refine (if_neg (by decide)).trans ?_)) <;> (with_reducible assumption)))); k_whole)))
  (k_with "eval Name" => (k_here; (with_reducible show wpAny _ _ (eval (Expr.Name _ _) (envOfC _ _ _ _ _)) _ _ _); k_dflt (refine' nameX_L ?nx1 ?nx2 ?_ ?nxa ?nxb; (case nx1 => k_asm); (case nxa => rfl); (case nxb => rfl); (case nx2 => (first | (with_reducible assumption) | ((repeat' (first | exact if_pos rfl | refine (if_neg (by decide)).trans ?_)) <;> (with_reducible assumption)))); k_whole)))
  (k_with "loadName" => (k_here; k_dflt (refine' ldn ?nx1 ?nx2 ?_; (case nx1 => k_asm); (case nx2 => (first | (with_reducible assumption) | ((repeat' (first | exact if_pos rfl | refine (if_neg (by decide)).trans ?_)) <;> (with_reducible assumption)))); k_whole)))
  (k_with "ite" => (first | refine ite_yes (by assumption) ?_ | refine ite_no (by assumption) ?_))
  (k_with "call ref" => (k_dflt (refine' has_line_spec (by assumption) (by assumption) (by assumption) (by assumption) (by assumption) ?hk ?hd ?hu ⟨by k_mem, by k_mem, by k_mem, by k_mem⟩ hi hlen hs ?_; (case hk => first | rfl | assumption); (case hd => ktr_room); (case hu => ktr_units); rw [decide_eq_false hnk])))
  (k_with "call ref" => (k_dflt (refine' place_of_spec (by assumption) (by assumption) (by assumption) (by assumption) (by assumption) ?hk ?hd ?hu ⟨by k_mem, by k_mem, by k_mem, by k_mem⟩ hi hlen hs ?_; (case hk => first | rfl | assumption); (case hd => ktr_room); (case hu => ktr_units); intro r t' h' tk' hpl F' N'; have hr := place_max hpl hmax; subst hr)))
  (k_with "call builtin:list.insert" => (k_dflt (refine' kl_insert ?F ?N ?f ?e ?U ?z ?_; (case F => k_asm); (case N => k_asm); (case f => exact fits_index (by omega) (by omega)); (case U => k_upd); (case e => (refine ins_end ?_; (try simp only [List.toList_toArray]); omega)); (case z => (try simp only [List.toList_toArray]); omega); intro h' F' N')))
  refine wpAny_call ?_
  k_dflt cell_enter
  k_steps
  exact hret _ _ _ _ _ (by assumption) (news_in (by assumption) (by kcj_all))
end
end
section
section
variable {w : World} {mean : ExcName → Option Value} {mg mb : Str → Option Value} {dp un : Nat} {gd : Option (List Code)} {cn : Str} {cs : Scope} {a : Addr} {ccd : Value} {cl : List (Str × Addr)} {outer : List Env} {A₀ : Around} {base h₀ : Heap} {L : Addr} {m : Str → Option Value} {s : Shared} {Q E : Value → Shared → Prop} {news : List (Addr × Obj)}
structure RowText (x : Str) (k g : Int) : Prop where
  len : x.length < 1000
  b0 : (behind x 0 : Int) = 0
  ex : ∃ d : Nat, splitNum x = (k, d) ∧ d ≠ 0 ∧ GotoText (Txt.slice x (some d) none) g
  k0 : 1 ≤ k
  k1 : k ≤ 65529
  st : Txt.stripChars x (Str.ofString " \t") ≠ Str.ofString ""
/-- a row of tokens GOTO g in the ledger -/
noncomputable def RowIs (news : List (Addr × Obj)) (v : Value) (g : Int) : Prop :=
  ∃ T A B a1 a2 b1 b2 e1 e2 e3, v = .ref T ∧ (T, listOf #[.ref A, .ref B] e1) ∈ news ∧ (A, tup2 (.str (Str.ofString "word") a1) (.str (Str.ofString "GOTO") a2) e2) ∈ news ∧ (B, tup2 (.str (Str.ofString "number") b1) (.int g b2) e3) ∈ news
theorem RowIs.sub {news news' : List (Addr × Obj)} {v : Value} {g : Int} (h : RowIs news v g) (hs : ∀ q ∈ news, q ∈ news') : RowIs news' v g := by
  obtain ⟨T, A, B, a1, a2, b1, b2, e1, e2, e3, rfl, i, j, k⟩ := h
  exact ⟨T, A, B, a1, a2, b1, b2, e1, e2, e3, rfl, hs _ i, hs _ j, hs _ k⟩
theorem enter_row_spec {x : Str} {g : Int} {p dx nl rl : Addr} {h1 h2 : Int} {t1 t2 : Tok} {vs rs : List Value} {ns : List Int} {e1 e2 : Nat} {k : Int} {t : Tok}
    (B : Below A₀ base outer h₀) (F : Fr h₀ L s.heap m) (X : (hd.heap_39 w.params).In h₀) (N : News h₀ L s.heap news)
    (T : Top hd.view_39 Loo mean mg mb h₀) (hk : cs.kind = .function) (hdp : dp + 24 < recursionLimit) (hu : un + 24 < cLine)
    (P : PIn news p dx nl rl h1 h2 t1 t2 vs rs e1 e2) (hi : IntsAre vs ns) (hlen : ns.length < 1000) (hrs : rs.length = ns.length) (hs : ns.Pairwise (· < ·)) (hmax : ∀ x ∈ ns, x < k)
    (R : RowText x k g) (d1 : @Ne Nat nl rl)
    (hret : ∀ T A B tk a1 a2 b1 b2 e1' e2' e3 e4 e5 h' tk', Fr h₀ L h' m → News h₀ L h' ((nl, listOf (vs ++ [Value.int k tk]).toArray e1') :: (rl, listOf (rs ++ [Value.ref T]).toArray e2') :: (T, listOf #[.ref A, .ref B] e3) :: (A, tup2 (.str (Str.ofString "word") a1) (.str (Str.ofString "GOTO") a2) e4) :: (B, tup2 (.str (Str.ofString "number") b1) (.int g b2) e5) :: without nl rl news) →
      AllLt T news → @LT.lt Nat _ T A → @LT.lt Nat _ A B → Q .none {s with heap := h', toks := tk'}) :
    wpAny (model Pg w) (ktrTop dp un gd cn cs L a ccd cl outer) (call (.ref 175) [.ref p, .str x t]) Q E s := by
  have s1 := news_ne N P.inst P.nums (by intro e; simp [instObj, W.listOf, dictOf] at e)
  have s2 := news_ne N P.inst P.rows (by intro e; simp [instObj, W.listOf, dictOf] at e)
  have s3 := news_ne N P.dict P.nums (by intro e; simp [instObj, W.listOf, dictOf] at e)
  have s4 := news_ne N P.dict P.rows (by intro e; simp [instObj, W.listOf, dictOf] at e)
  have N' := P.pre N
  have hN := N
  clear N
  obtain ⟨d, hd1, hd2, G⟩ := R.ex
  have q0 := R.len
  have q1 := R.k0
  have q2 := R.k1
  clear hN
  k_with_none
  (k_with "eval Name" => (k_here; (with_reducible show wpAny _ _ (eval (Expr.Name _ _) (envOf _ _ _ _ _)) _ _ _); k_dflt (refine' ld ?nx1 ?nx2 ?_; (case nx1 => k_asm); (case nx2 => (first | (with_reducible assumption) | ((repeat' (first | exact if_pos rfl | refine (if_neg (by decide)).trans ?_)) <;> (with_reducible assumption)))); k_whole)))
  (k_with "eval Name" => (k_here; (with_reducible show wpAny _ _ (eval (Expr.Name _ _) (envOfC _ _ _ _ _)) _ _ _); k_dflt (refine' nameX_L ?nx1 ?nx2 ?_ ?nxa ?nxb; (case nx1 => k_asm); (case nxa => rfl); (case nxb => rfl); (case nx2 => (first | (with_reducible assumption) | ((repeat' (first | exact if_pos rfl | refine (if_neg (by decide)).trans ?_)) <;> (with_reducible assumption)))); k_whole)))
  (k_with "loadName" => (k_here; k_dflt (refine' ldn ?nx1 ?nx2 ?_; (case nx1 => k_asm); (case nx2 => (first | (with_reducible assumption) | ((repeat' (first | exact if_pos rfl | refine (if_neg (by decide)).trans ?_)) <;> (with_reducible assumption)))); k_whole)))
  (k_with "ite" => (first | refine ite_yes (by assumption) ?_ | refine ite_no (by assumption) ?_))
  (k_with "call ref" => (k_dflt (refine' split_number_spec (by assumption) (by assumption) (by assumption) (by assumption) (by assumption) ?hk ?hd q0 R.b0 hd1 hd2 ?_; (case hk => first | rfl | assumption); (case hd => ktr_room); intro T0 c1 c2 e0 h' tk' F' N' l0)))
  (k_with "call ref" => (k_dflt (refine' tokens_of_goto (by assumption) (by assumption) (by assumption) (by assumption) (by assumption) ?hk ?hd G ?_; (case hk => first | rfl | assumption); (case hd => ktr_room); intro T A B a1 a2 b1 b2 e3 e4 e5 h' tk' F' N' l1 l2 l3; have tn : @LT.lt Nat _ nl T := allLt_mem l1 (nl, listOf vs.toArray e1) (by k_mem); have tr : @LT.lt Nat _ rl T := allLt_mem l1 (rl, listOf rs.toArray e2) (by k_mem))))
  (k_with "call ref" => (k_dflt (refine' put_line_spec (by assumption) (by assumption) (by assumption) (by assumption) (by assumption) ?hk ?hd ?hu ⟨by k_mem, by k_mem, by k_mem, by k_mem⟩ hi hlen hrs hs hmax (by omega) (by omega) (by k_mem) d1 (Nat.ne_of_gt (by assumption)) (Nat.ne_of_gt (by assumption)) ?_; (case hk => first | rfl | assumption); (case hd => ktr_room); (case hu => ktr_units); intro f1 f2 tv h' tk' F' N')))
  refine wpAny_call ?_
  k_dflt cell_enter
  k_steps
  refine hret T A B tv a1 a2 b1 b2 f1 f2 e3 e4 e5 _ _ (by assumption) (news_in (by assumption) fun q hq => ?_) (allLt_of fun q hq => allLt_mem l1 q (by simp [hq])) l2 l3
  rcases List.mem_cons.mp hq with rfl | hq
  · exact .head _
  rcases List.mem_cons.mp hq with rfl | hq
  · exact .tail _ (.head _)
  rcases List.mem_cons.mp hq with rfl | hq
  · exact .tail _ (.tail _ (mem_without (by k_mem) (Nat.ne_of_gt tn) (Nat.ne_of_gt tr)))
  rcases List.mem_cons.mp hq with rfl | hq
  · exact .tail _ (.tail _ (mem_without (by k_mem) (Nat.ne_of_gt (Nat.lt_trans tn l2)) (Nat.ne_of_gt (Nat.lt_trans tr l2))))
  rcases List.mem_cons.mp hq with rfl | hq
  · exact .tail _ (.tail _ (mem_without (by k_mem) (Nat.ne_of_gt (Nat.lt_trans tn (Nat.lt_trans l2 l3))) (Nat.ne_of_gt (Nat.lt_trans tr (Nat.lt_trans l2 l3)))))
  exact .tail _ (.tail _ (mem_without (by have := without_sub _ hq; simp [this]) (without_ne1 _ hq) (without_ne2 _ hq)))
end
end
section
section
variable {prog : Program} {w : World} {A : Around} {E : Value → Shared → Prop} {s : Shared} {h₀ : Heap} {L : Addr} {env : Env} {body : List Stmt} {Q : Flow → Shared → Prop}
open PySem.Spec PyProof.Rows.LCg
/-- over a list, with what is known of the iterator and the list themselves -/
theorem for_list2 {x : Str} {px : Pos} {l : Addr} {vs : List Value} {m : Str → Option Value} {news news₀ : List (Addr × Obj)}
    (hh : A.handled = none) (hx : env.kindOf x = some .local) (hp : (env.scope.kind == .class || (env.scope.kind == .module && env.locals != env.globals)) = false)
    (F : Fr h₀ env.locals s.heap m) (N : News h₀ env.locals s.heap news) (N₀ : News h₀ env.locals s.heap news₀) {e : Nat} (hl : (l, listOf vs.toArray e) ∈ news₀)
    (J : Nat → (Str → Option Value) → List (Addr × Obj) → Prop) (hJ : J 0 m news)
    (turn : ∀ i v m₁ news₁ own h₁ tk₁ I oI, vs[i]? = some v → J i m₁ news₁ → (∀ p ∈ news₁, p.1 ∉ [I]) → (∀ q ∈ own, q.1 = I ∨ q.1 = l) → (I, oI) ∈ own → (l, listOf vs.toArray e) ∈ own → (∀ q ∈ news₀, @LT.lt Nat _ q.1 I) → Fr h₀ env.locals h₁ (fun y => if y = x then some v else m₁ y) → News h₀ env.locals h₁ (news₁ ++ own) →
      wpAny (model prog w) A (execs body env) (FEnd h₀ env [I] own (J (i + 1)) { s with heap := h₁, toks := tk₁ } Q) E { s with heap := h₁, toks := tk₁ })
    (fin : ∀ h' tk m' news', Fr h₀ env.locals h' m' → News h₀ env.locals h' news' → J vs.length m' news' → Q .next { s with heap := h', toks := tk }) :
    wpAny (model prog w) A (pyIter (.ref l)) (fun it s₂ => TurnsAt prog w A h₀ env (.Name x px) body Q E it s₂) E s := by
  have hL : s.heap.IsList l vs.toArray := ⟨_, (N₀ _ hl).1, rfl, _, rfl⟩
  have hlL : env.locals ≠ l := (N₀ _ hl).2.1.symm
  have hl₀ : h₀.get? l = none := (N₀ _ hl).2.2
  have hlt : l < s.heap.objs.size := by obtain ⟨_, e, _⟩ := hL; exact Heap.lt_size e
  refine wpAny_pyIter_list hL ?_
  have up : ∀ b o, s.heap.get? b = some o → (s.heap.push { cls := .type "list_iterator", data := .fields #[.ref l, .int 0 0] }).get? b = some o := fun b o e => Heap.get?_push_of_some _ e
  refine ⟨s.heap.objs.size, [s.heap.objs.size, l], [s.heap.objs.size], vs.toArray.size, fun i v h => vs.toArray[i]? = some v, _, fun i h => h.IsListIter s.heap.objs.size l i ∧ h.get? l = some (listOf vs.toArray e), m, news, J, rfl,
    KTurns.ofWalks ?W (fun _ _ _ _ _ _ hq => wpAny_pure hq), ?_, ?_, ?_, ⟨⟨_, Heap.get?_push_size _ rfl, rfl, rfl⟩, Heap.get?_push_of_some _ (N₀ _ hl).1⟩, F.keeps up, N.grown up, hJ, ?_,
    fun h' tk m' news' F' N' _ hj => fin h' tk m' news' F' N' (by simpa using hj)⟩
  case W =>
    have hne : l ≠ s.heap.objs.size := Nat.ne_of_lt hlt
    have W := Walks.list (prog := prog) (w := w) hh s.heap.objs.size l hne vs.toArray
    exact {
      sub := W.sub
      frame := fun i h h' st hk => ⟨st.1.at fun o e => hk _ (by simp) o e, hk _ (by simp) _ st.2⟩
      item := fun i s' Q' E' hi st hQ => W.item i s' Q' E' hi ⟨st.1, ⟨_, st.2, rfl, _, rfl⟩⟩ fun v h' tk hv st' hk => hQ v h' tk hv ⟨st'.1, hk _ _ (by simpa using hne) st.2⟩ hk
      done := fun s' Q' E' st hQ => W.done s' Q' E' ⟨st.1, ⟨_, st.2, rfl, _, rfl⟩⟩ hQ
      self := fun i s' Q' E' st hQ => W.self i s' Q' E' ⟨st.1, ⟨_, st.2, rfl, _, rfl⟩⟩ hQ }
  · intro hm
    rcases List.mem_cons.mp hm with e | hm
    · exact absurd F.ns.lt (e ▸ Nat.lt_irrefl _)
    · exact hlL (List.mem_singleton.mp hm)
  · intro b hb; rw [List.mem_singleton.mp hb]; exact next_is_new F
  · intro p hp hm; rw [List.mem_singleton] at hm; exact absurd (Heap.lt_size (N p hp).1) (hm ▸ Nat.lt_irrefl _)
  · intro i v m₁ news₁ h₁ tk₁ own hi hP hJ' hnw hin hown hall st F₁ N₁
    obtain ⟨⟨oI, hoI, _⟩, hl₁⟩ := st
    refine for_asg (h₁ := h₁) hx hp F₁ N₁ fun h tk F₂ N₂ => ?_
    refine wpAny_mono (turn i v m₁ news₁ own h tk s.heap.objs.size oI (by simpa using hP) hJ' hnw (fun q hq => ?_) (hall _ (by simp) (next_is_new F) _ hoI) (hall _ (by simp) hl₀ _ hl₁) (fun q hq => Heap.lt_size (N₀ q hq).1) F₂ N₂) (fun f s₂ hf => ?_) fun _ _ e => e
    · have := hin q hq
      simpa using this
    · exact hf
end
section
theorem cut_one (c : Nat) : ∀ {p q : List Nat} {X Y : List Nat}, c ∉ p → c ∉ q → p ++ c :: X = q ++ c :: Y → p = q ∧ X = Y
  | [], [], X, Y, _, _, h => ⟨rfl, by simpa using h⟩
  | [], b :: q, X, Y, _, hq, h => by
    simp only [List.nil_append, List.cons_append, List.cons.injEq] at h
    exact absurd h.1 (by intro e; exact hq (by simp [e]))
  | a :: p, [], X, Y, hp, _, h => by
    simp only [List.nil_append, List.cons_append, List.cons.injEq] at h
    exact absurd h.1 (by intro e; exact hp (by simp [e]))
  | a :: p, b :: q, X, Y, hp, hq, h => by
    simp only [List.cons_append, List.cons.injEq] at h
    obtain ⟨rfl, h⟩ := h
    have := cut_one c (fun m => hp (.tail _ m)) (fun m => hq (.tail _ m)) h
    exact ⟨by rw [this.1], this.2⟩
theorem cut_none (c : Nat) {p q : List Nat} {Y : List Nat} (hp : c ∉ p) (h : p = q ++ c :: Y) : False := hp (by rw [h]; simp)
theorem join_inj (c : Nat) : ∀ (ps qs : List Str) (p q : Str), (∀ x ∈ p :: ps, c ∉ x.cps.toList) → (∀ x ∈ q :: qs, c ∉ x.cps.toList) → Str.join ⟨#[c]⟩ (p :: ps) = Str.join ⟨#[c]⟩ (q :: qs) → p :: ps = q :: qs
  | [], [], p, q, _, _, h => by
    have : p = q := h
    rw [this]
  | [], q2 :: qs, p, q, hp, hq, h => by
    have h : p = q ++ ⟨#[c]⟩ ++ Str.join ⟨#[c]⟩ (q2 :: qs) := h
    exact (cut_none c (hp p (.head _)) (q := q.cps.toList) (Y := (Str.join ⟨#[c]⟩ (q2 :: qs)).cps.toList) (by
      rw [congrArg (fun z : Str => z.cps.toList) h]
      show ((q.cps ++ #[c]) ++ _).toList = _
      simp)).elim
  | p2 :: ps, [], p, q, hp, hq, h => by
    have h : p ++ ⟨#[c]⟩ ++ Str.join ⟨#[c]⟩ (p2 :: ps) = q := h
    exact (cut_none c (hq q (.head _)) (q := p.cps.toList) (Y := (Str.join ⟨#[c]⟩ (p2 :: ps)).cps.toList) (by
      rw [congrArg (fun z : Str => z.cps.toList) h.symm]
      show ((p.cps ++ #[c]) ++ _).toList = _
      simp)).elim
  | p2 :: ps, q2 :: qs, p, q, hp, hq, h => by
    have h : p ++ ⟨#[c]⟩ ++ Str.join ⟨#[c]⟩ (p2 :: ps) = q ++ ⟨#[c]⟩ ++ Str.join ⟨#[c]⟩ (q2 :: qs) := h
    have h2 : p.cps.toList ++ c :: (Str.join ⟨#[c]⟩ (p2 :: ps)).cps.toList = q.cps.toList ++ c :: (Str.join ⟨#[c]⟩ (q2 :: qs)).cps.toList := by
      have := congrArg (fun z : Str => z.cps.toList) h
      have e1 : ∀ (a b : Str), (a ++ ⟨#[c]⟩ ++ b).cps.toList = a.cps.toList ++ c :: b.cps.toList := fun a b => by
        show ((a.cps ++ #[c]) ++ b.cps).toList = _
        simp
      rw [← e1, ← e1]
      exact this
    obtain ⟨e1, e2⟩ := cut_one c (hp p (.head _)) (hq q (.head _)) h2
    have e3 : p = q := PySem.Str.ext' (Array.toList_inj.mp e1)
    have e4 := join_inj c ps qs p2 q2 (fun x hx => hp x (.tail _ hx)) (fun x hx => hq x (.tail _ hx)) (PySem.Str.ext' (Array.toList_inj.mp e2))
    rw [e3, e4]
theorem cnt_pos (c : Nat) : ∀ l : List Nat, 0 ≤ cnt c l
  | [] => by rw [cnt_nil]; exact Int.le_refl _
  | n :: r => by
    have := cnt_pos c r
    rw [cnt_cons]
    split <;> omega
theorem split_join {c : Nat} {xs : List Str} (hne : xs ≠ []) (hx : ∀ x ∈ xs, c ∉ x.cps.toList) : Txt.split (Str.join ⟨#[c]⟩ xs) ⟨#[c]⟩ = xs := by
  have h1 := StrLaws.join_split (Str.join ⟨#[c]⟩ xs) ⟨#[c]⟩
  have h2 := StrLaws.split_free (Str.join ⟨#[c]⟩ xs) c
  have h3 := split_len (Str.join ⟨#[c]⟩ xs) c
  generalize Txt.split (Str.join ⟨#[c]⟩ xs) ⟨#[c]⟩ = ys at h1 h2 h3
  match ys, xs with
  | _, [] => exact absurd rfl hne
  | [], x :: r =>
    have := cnt_pos c (Str.join ⟨#[c]⟩ (x :: r)).cps.toList
    simp only [List.length_nil] at h3
    omega
  | y :: q, x :: r => exact join_inj c q r y x h2 hx h1
end
section
variable {w : World} {mean : ExcName → Option Value} {mg mb : Str → Option Value} {dp un : Nat} {gd : Option (List Code)} {cn : Str} {cs : Scope} {a : Addr} {ccd : Value} {cl : List (Str × Addr)} {outer : List Env} {A₀ : Around} {base h₀ : Heap} {L : Addr} {m : Str → Option Value} {s : Shared} {Q E : Value → Shared → Prop} {news : List (Addr × Obj)}
noncomputable def RowsAre (news : List (Addr × Obj)) (rs : List Value) (gs : List Int) : Prop := rs.length = gs.length ∧ ∀ (i : Nat) v g, rs[i]? = some v → gs[i]? = some g → RowIs news v g
theorem RowsAre.sub {news news' : List (Addr × Obj)} {rs : List Value} {gs : List Int} (h : RowsAre news rs gs) (hs : ∀ q ∈ news, q ∈ news') : RowsAre news' rs gs := ⟨h.1, fun i v g h1 h2 => (h.2 i v g h1 h2).sub hs⟩
theorem RowsAre.nil {news : List (Addr × Obj)} : RowsAre news [] [] := ⟨rfl, fun i v g h => by simp at h⟩
theorem RowsAre.snoc {news : List (Addr × Obj)} {rs : List Value} {gs : List Int} {v : Value} {g : Int} (h : RowsAre news rs gs) (hv : RowIs news v g) : RowsAre news (rs ++ [v]) (gs ++ [g]) := by
  refine ⟨by simp [h.1], fun i v' g' h1 h2 => ?_⟩
  by_cases hi : i < rs.length
  · rw [List.getElem?_append_left hi] at h1
    rw [List.getElem?_append_left (h.1 ▸ hi)] at h2
    exact h.2 i v' g' h1 h2
  · have e : i = rs.length := by
      have := (List.getElem?_eq_some_iff.mp h1).1
      simp at this; omega
    subst e
    rw [List.getElem?_append_right (Nat.le_refl _)] at h1
    rw [List.getElem?_append_right (by rw [h.1]; exact Nat.le_refl _)] at h2
    simp [h.1] at h1 h2
    subst h1; subst h2
    exact hv
theorem PIn.sub {news news' : List (Addr × Obj)} {p dx nl rl : Addr} {h1 h2 : Int} {t1 t2 : Tok} {vs rs : List Value} {e1 e2 : Nat} (P : PIn news p dx nl rl h1 h2 t1 t2 vs rs e1 e2) (hs : ∀ q ∈ news, q ∈ news') : PIn news' p dx nl rl h1 h2 t1 t2 vs rs e1 e2 :=
  ⟨hs _ P.inst, hs _ P.dict, hs _ P.nums, hs _ P.rows⟩
theorem without_mono {nl rl : Addr} {a b : List (Addr × Obj)} (h : ∀ q ∈ a, q ∈ b) : ∀ q ∈ without nl rl a, q ∈ without nl rl b := fun q hq => mem_without (h q (without_sub q hq)) (without_ne1 q hq) (without_ne2 q hq)
theorem take_lt {ks : List Int} {i : Nat} {k : Int} (hs : ks.Pairwise (· < ·)) (hk : ks[i]? = some k) : ∀ x ∈ ks.take i, x < k := by
  intro x hx
  obtain ⟨j, hj, e⟩ := List.getElem_of_mem hx
  obtain ⟨hi, e'⟩ := List.getElem?_eq_some_iff.mp hk
  have hji : j < i := by simp at hj; omega
  rw [List.getElem_take] at e
  rw [← e, ← e']
  exact (List.pairwise_iff_getElem.mp hs) j i (by omega) hi hji
theorem take_snoc {α : Type} {ks : List α} {i : Nat} {k : α} (hk : ks[i]? = some k) : ks.take (i + 1) = ks.take i ++ [k] := by rw [List.take_add_one, hk]; rfl
theorem some_at {α : Type} {ks : List α} {i : Nat} (h : i < ks.length) : ∃ k, ks[i]? = some k := ⟨_, List.getElem?_eq_getElem h⟩
theorem enter_all_spec {x : Str} {xs : List Str} {ks gs : List Int} {p dx nl rl : Addr} {h1 h2 : Int} {t1 t2 : Tok} {e1 e2 : Nat} {t : Tok}
    (B : Below A₀ base outer h₀) (F : Fr h₀ L s.heap m) (X : (hd.heap_39 w.params).In h₀) (N : News h₀ L s.heap news)
    (T : Top hd.view_39 Loo mean mg mb h₀) (hk : cs.kind = .function) (hdp : dp + 30 < recursionLimit) (hu : un + 30 < cLine)
    (P : PIn news p dx nl rl h1 h2 t1 t2 [] [] e1 e2) (d1 : @Ne Nat nl rl) (hx : Txt.split x (Str.ofString "\n") = xs) (hxl : x.length < 100000) (hxn : xs.length < 1000)
    (hkl : ks.length = xs.length) (hgl : gs.length = xs.length) (hs : ks.Pairwise (· < ·))
    (hR : ∀ (i : Nat) y k g, xs[i]? = some y → ks[i]? = some k → gs[i]? = some g → RowText y k g)
    (hret : ∀ vs rs e1' e2' h' tk' news', Fr h₀ L h' m → News h₀ L h' news' → PIn news' p dx nl rl h1 h2 t1 t2 vs rs e1' e2' → IntsAre vs ks → RowsAre (without nl rl news') rs gs → (∀ q ∈ without nl rl news, q ∈ without nl rl news') → Q .none {s with heap := h', toks := tk'}) :
    wpAny (model Pg w) (ktrTop dp un gd cn cs L a ccd cl outer) (call (.ref 182) [.ref p, .str x t]) Q E s := by
  have N' := P.pre N
  clear N
  k_with_none
  (k_with "eval Name" => (k_here; (with_reducible show wpAny _ _ (eval (Expr.Name _ _) (envOf _ _ _ _ _)) _ _ _); k_dflt (refine' ld ?nx1 ?nx2 ?_; (case nx1 => k_asm); (case nx2 => (first | (with_reducible assumption) | ((repeat' (first | exact if_pos rfl | refine (if_neg (by decide)).trans ?_)) <;> (with_reducible assumption)))); k_whole)))
  (k_with "eval Name" => (k_here; (with_reducible show wpAny _ _ (eval (Expr.Name _ _) (envOfC _ _ _ _ _)) _ _ _); k_dflt (refine' nameX_L ?nx1 ?nx2 ?_ ?nxa ?nxb; (case nx1 => k_asm); (case nxa => rfl); (case nxb => rfl); (case nx2 => (first | (with_reducible assumption) | ((repeat' (first | exact if_pos rfl | refine (if_neg (by decide)).trans ?_)) <;> (with_reducible assumption)))); k_whole)))
  (k_with "loadName" => (k_here; k_dflt (refine' ldn ?nx1 ?nx2 ?_; (case nx1 => k_asm); (case nx2 => (first | (with_reducible assumption) | ((repeat' (first | exact if_pos rfl | refine (if_neg (by decide)).trans ?_)) <;> (with_reducible assumption)))); k_whole)))
  (k_with "ite" => (first | refine ite_yes (by assumption) ?_ | refine ite_no (by assumption) ?_))
  (k_with "exec For Name Call cons nil" => (k_dflt (refine' For_turns ?cF ?_ ?cs ?cE; (case cF => k_asm); (case cs => intro _; with_unfolding_all rfl); (case cE => first | passes_own | with_unfolding_all passes_own))))
  (k_with "call builtin:str.split" => (k_dflt (refine' KSpl.split1 (by k_asm) (by k_asm) (by decide) ?_ ?z; (case z => rw [sizeLine_eq]; omega); intro D l h' k' el es F' N' lD; rw [hx] at el; rw [el] at es)))
  (k_with "call builtin:str.strip" => (k_dflt (refine' KXw.stripChars rfl ?z ?_; (case z => rw [sizeLine_eq]; omega); intro t' k')))
  (k_with "pyIter ref" => (k_dflt (
    refine' for_list2 rfl rfl rfl (by assumption) (by assumption) (by assumption) (by k_mem)
      (fun i m₁ news₁ => ∃ vs rs e1 e2, m₁ (Str.ofString "program") = some (.ref p) ∧ PIn news₁ p dx nl rl h1 h2 t1 t2 vs rs e1 e2 ∧ IntsAre vs (ks.take i) ∧ RowsAre (without nl rl news₁) rs (gs.take i) ∧ (∀ q ∈ without nl rl news, q ∈ without nl rl news₁))
      ⟨[], [], _, _, rfl, ⟨by k_mem, by k_mem, by k_mem, by k_mem⟩, .nil, .nil, ?sub0⟩ ?turn ?fin
    case' turn => rintro i v m₁ news₁ own h tk I oI hv ⟨vs, rs, f1, f2, hm, P₁, hi₁, hr₁, hsub⟩ hwr hown hI hlo hlt F₁ N₁
    case' turn => (
      obtain ⟨y, ty, rfl, hy⟩ := es.item i v hv
      have hi0 : i < xs.length := (List.getElem?_eq_some_iff.mp hy).1
      obtain ⟨k, hk1⟩ := some_at (ks := ks) (show i < ks.length by omega)
      obtain ⟨g, hg1⟩ := some_at (ks := gs) (show i < gs.length by omega)
      have R := hR i y k g hy hk1 hg1
      have R1 := R.len
      have R2 := R.st
      have hl0 : i < 1000 := by omega
      have hkt : (ks.take i).length = i := by rw [List.length_take]; omega
      have hgt : (gs.take i).length = i := by rw [List.length_take]; omega
      have hrl := hr₁.1)
    case' fin => rintro h tk m₁ news₁ F₁ N₁ ⟨vs, rs, f1, f2, hm, P₁, hi₁, hr₁, hsub⟩)))
  (k_with "call ref" => (k_dflt (refine' enter_row_spec (by assumption) (by assumption) (by assumption) (by assumption) (by assumption) ?hk ?hd ?hu (P₁.sub (fun q hq => List.mem_append_left _ hq)) hi₁ (by omega) (by omega) (hs.sublist (List.take_sublist i ks)) (take_lt hs hk1) R d1 ?_; (case hk => first | rfl | assumption); (case hd => ktr_room); (case hu => ktr_units); intro T A B tv a1 a2 b1 b2 f3 f4 f5 f6 f7 h' tk' F' N' l1 l2 l3)))
  refine wpAny_call ?_
  k_dflt cell_enter
  k_steps
  · exact hret vs rs f1 f2 _ _ _ (by assumption) (news_in (by assumption) (fun q hq => hq)) P₁ (by rw [es.length, ← hkl, List.take_length] at hi₁; exact hi₁) (by rw [es.length, ← hgl, List.take_length] at hr₁; exact hr₁) hsub
  · have nI : ∀ q ∈ news₁, q.1 ≠ I := fun q hq e => hwr q hq (by simp [e])
    have hIT : @LT.lt Nat _ I T := allLt_mem l1 (I, oI) (List.mem_append_right _ hI)
    have ownlr : ∀ q ∈ own, q.1 ≠ nl ∧ q.1 ≠ rl := fun q hq => by
      rcases hown q hq with e | e
      · exact ⟨fun z => nI _ P₁.nums (z.symm.trans e), fun z => nI _ P₁.rows (z.symm.trans e)⟩
      · refine ⟨fun z => ?_, fun z => ?_⟩
        · exact Nat.lt_irrefl nl (Nat.lt_of_lt_of_eq (lD (nl, listOf #[] e1) (by k_mem)) (e.symm.trans z))
        · exact Nat.lt_irrefl rl (Nat.lt_of_lt_of_eq (lD (rl, listOf #[] e2) (by k_mem)) (e.symm.trans z))
    have nT : ∀ {o : Obj} {b : Addr}, (b, o) ∈ news₁ → @LT.lt Nat _ b T := fun hb => allLt_mem l1 _ (List.mem_append_left _ hb)
    have tn := nT P₁.nums
    have tr := nT P₁.rows
    refine fendU (by assumption) (by assumption) ((nl, listOf (vs ++ [Value.int k tv]).toArray f3) :: (rl, listOf (rs ++ [Value.ref T]).toArray f4) :: (T, listOf #[.ref A, .ref B] f5) :: (A, tup2 (.str (Str.ofString "word") a1) (.str (Str.ofString "GOTO") a2) f6) :: (B, tup2 (.str (Str.ofString "number") b1) (.int g b2) f7) :: without nl rl news₁) ?_ ?_
      ⟨vs ++ [Value.int k tv], rs ++ [Value.ref T], f3, f4, ?_, ?_, ?_, ?_, ?_⟩
    · intro q hq
      rcases List.mem_append.mp hq with hq | hq
      · exact .tail _ (.tail _ (.tail _ (.tail _ (.tail _ (mem_without (List.mem_append_right _ hq) (ownlr q hq).1 (ownlr q hq).2)))))
      · simp only [List.mem_cons] at hq ⊢
        rcases hq with h | h | h | h | h | h
        · simp [h]
        · simp [h]
        · simp [h]
        · simp [h]
        · simp [h]
        · exact .inr (.inr (.inr (.inr (.inr (without_mono (fun q hq => List.mem_append_left _ hq) q h)))))
    · intro q hq
      rw [List.mem_singleton]
      simp only [List.mem_cons] at hq
      rcases hq with rfl | rfl | rfl | rfl | rfl | h
      · have z := nI _ P₁.nums
        exact z
      · have z := nI _ P₁.rows
        exact z
      · exact Nat.ne_of_gt hIT
      · exact Nat.ne_of_gt (Nat.lt_trans hIT l2)
      · exact Nat.ne_of_gt (Nat.lt_trans hIT (Nat.lt_trans l2 l3))
      · exact nI _ (without_sub q h)
    · exact hm
    · have F₀ : News _ _ _ news₁ := news_in N₁ (fun q hq => List.mem_append_left _ hq)
      have s1 := news_ne F₀ P₁.inst P₁.nums (by intro e; simp [instObj, W.listOf, dictOf] at e)
      have s2 := news_ne F₀ P₁.inst P₁.rows (by intro e; simp [instObj, W.listOf, dictOf] at e)
      have s3 := news_ne F₀ P₁.dict P₁.nums (by intro e; simp [instObj, W.listOf, dictOf] at e)
      have s4 := news_ne F₀ P₁.dict P₁.rows (by intro e; simp [instObj, W.listOf, dictOf] at e)
      have up5 : ∀ {q : Addr × Obj} {a b c d e : Addr × Obj}, q ∈ without nl rl news₁ → q ∈ a :: b :: c :: d :: e :: without nl rl news₁ := fun h => .tail _ (.tail _ (.tail _ (.tail _ (.tail _ h))))
      exact ⟨up5 (mem_without P₁.inst s1 s2), up5 (mem_without P₁.dict s3 s4), .head _, .tail _ (.head _)⟩
    · rw [take_snoc hk1]
      exact hi₁.append (.cons _ _ .nil)
    · rw [take_snoc hg1]
      have hTn : @Ne Nat T nl := Nat.ne_of_gt tn
      have hTr : @Ne Nat T rl := Nat.ne_of_gt tr
      refine RowsAre.snoc (hr₁.sub fun q hq => mem_without (.tail _ (.tail _ (.tail _ (.tail _ (.tail _ hq))))) (without_ne1 q hq) (without_ne2 q hq)) ⟨T, A, B, a1, a2, b1, b2, f5, f6, f7, rfl, mem_without (by k_mem) hTn hTr, mem_without (by k_mem) ?_ ?_, mem_without (by k_mem) ?_ ?_⟩
      · exact Nat.ne_of_gt (Nat.lt_trans tn l2)
      · exact Nat.ne_of_gt (Nat.lt_trans tr l2)
      · exact Nat.ne_of_gt (Nat.lt_trans tn (Nat.lt_trans l2 l3))
      · exact Nat.ne_of_gt (Nat.lt_trans tr (Nat.lt_trans l2 l3))
    · intro q hq
      have h := hsub q hq
      exact mem_without (.tail _ (.tail _ (.tail _ (.tail _ (.tail _ h))))) (without_ne1 q h) (without_ne2 q h)
  · rename_i hb
    exact absurd (by simpa using hb) R2
  · rename_i hq
    refine mem_without ?_ (without_ne1 _ hq) (without_ne2 _ hq)
    have := without_sub _ hq
    simp [this]
end
end
section
section
variable {prog : Program} {w : World} {A : Around} {E : Value → Shared → Prop} {s : Shared} {h₀ : Heap} {L : Addr} {env : Env} {body : List Stmt} {Q : Flow → Shared → Prop}
open PySem.Spec PyProof.Rows.LCg
/-- over the numbered items of a list of the ledger -/
theorem for_enum {x x₂ : Str} {px px₂ tp : Pos} {tk₀} {l : Addr} {vs : List Value} {e : Nat} {m : Str → Option Value} {news : List (Addr × Obj)}
    (hh : A.handled = none) (hx : env.kindOf x = some .local) (hx₂ : env.kindOf x₂ = some .local) (hp : (env.scope.kind == .class || (env.scope.kind == .module && env.locals != env.globals)) = false)
    (F : Fr h₀ env.locals s.heap m) (N : News h₀ env.locals s.heap news) (hl : (l, listOf vs.toArray e) ∈ news)
    (J : Nat → (Str → Option Value) → List (Addr × Obj) → Prop) (hJ : J 0 m news)
    (turn : ∀ i t v m₁ news₁ own wr h₁ tk₁, vs[i]? = some v → J i m₁ news₁ → (∀ q ∈ own, q.1 ∈ wr ∨ q.1 = l) → (∀ b ∈ wr, ∃ o, (b, o) ∈ own) → (∀ p ∈ news₁, p.1 ∉ wr) → Fr h₀ env.locals h₁ (fun y => if y = x₂ then some v else if y = x then some (.int i t) else m₁ y) → News h₀ env.locals h₁ (news₁ ++ own) →
      wpAny (model prog w) A (execs body env) (FEnd h₀ env wr own (J (i + 1)) { s with heap := h₁, toks := tk₁ } Q) E { s with heap := h₁, toks := tk₁ })
    (fin : ∀ h' tk m' news', Fr h₀ env.locals h' m' → News h₀ env.locals h' news' → J vs.length m' news' → Q .next { s with heap := h', toks := tk }) :
    wpAny (model prog w) A (call (.type "enumerate") [.ref l]) (fun xv s₁ => wpAny (model prog w) A (pyIter xv) (fun it s₂ => TurnsAt prog w A h₀ env (.Tuple [.Name x px, .Name x₂ px₂] tk₀ tp) body Q E it s₂) E s₁) E s := by
  have hax := N _ hl
  have hL : s.heap.IsList l vs.toArray := ⟨_, hax.1, rfl, _, rfl⟩
  have hlt : l < s.heap.objs.size := Heap.lt_size hax.1
  have hLs : env.locals < s.heap.objs.size := F.ns.lt
  refine call_enumerate_list hL fun h' hE hI hsz hk => ?_
  refine wpAny_pyIter_enum hE ?_
  have W := (WalksT.enumerate (prog := prog) (w := w) hh (s.heap.objs.size + 1) s.heap.objs.size l (Nat.succ_ne_self _) (ktu_ne 1 hlt) (Nat.ne_of_lt hlt) vs.toArray).toU
  have newb : ∀ b ∈ [s.heap.objs.size + 1, s.heap.objs.size], s.heap.objs.size ≤ b := fun b hb => by
    simp only [List.mem_cons, List.not_mem_nil, or_false] at hb
    rcases hb with rfl | rfl <;> first | exact Nat.le_add_right _ _ | exact Nat.le_refl _
  refine ⟨_, _, [s.heap.objs.size + 1, s.heap.objs.size], _, _, _, _, m, news, J, rfl,
    KTurns.ofWalksU W, ?_, ?_, ?_, ⟨⟨_, hE⟩, hI, hL.at fun o e => hk l o e⟩, F.keeps hk, N.grown hk, hJ, ?_,
    fun h' tk m' news' F' N' _ hj => fin h' tk m' news' F' N' (by simpa using hj)⟩
  · intro hm
    simp only [List.mem_cons, List.not_mem_nil, or_false] at hm
    rcases hm with e | e | e
    · exact ktu_ne 1 hLs e
    · exact Nat.ne_of_lt hLs e
    · exact hax.2.1 e.symm
  · intro b hb; exact ktu_new F (newb b hb)
  · intro p hp hm; exact absurd (Heap.lt_size (N p hp).1) (Nat.not_lt.mpr (newb _ hm))
  · intro i v m₁ news₁ h₁ tk₁ own hi hP hJ' hnw hin hown hall st F₁ N₁
    obtain ⟨T, vals, rfl, ⟨t, y, hy, rfl⟩, hT⟩ := hP
    obtain ⟨⟨old, he⟩, ⟨oi, hoi, _⟩, _⟩ := st
    refine for_asg2 hh hx hx₂ hp F₁ N₁ hT fun h tk F₂ N₂ => ?_
    refine wpAny_mono (turn i t y m₁ news₁ own _ h tk (by simpa using hy) hJ' (fun q hq => ?_) (fun b hb => ?_) hnw F₂ N₂) (fun f s₂ hf => ?_) fun _ _ e => e
    · have h := hin q hq
      simp only [List.mem_cons, List.not_mem_nil, or_false] at h ⊢
      rcases h with h | h | h
      · exact .inl (.inl h)
      · exact .inl (.inr h)
      · exact .inr h
    · have h0 := ktu_new F (newb b hb)
      simp only [List.mem_cons, List.not_mem_nil, or_false] at hb
      rcases hb with rfl | rfl
      · exact ⟨_, hall _ (by simp) h0 _ he⟩
      · exact ⟨_, hall _ (by simp) h0 _ hoi⟩
    · exact hf
end
section
variable {w : World} {mean : ExcName → Option Value} {mg mb : Str → Option Value} {dp un : Nat} {gd : Option (List Code)} {cn : Str} {cs : Scope} {a : Addr} {ccd : Value} {cl : List (Str × Addr)} {outer : List Env} {A₀ : Around} {base h₀ : Heap} {L : Addr} {m : Str → Option Value} {s : Shared} {Q E : Value → Shared → Prop} {news : List (Addr × Obj)}
theorem is_whole_spec {rT rA rB : Addr} {e : Nat} {t : Tok}
    (B : Below A₀ base outer h₀) (F : Fr h₀ L s.heap m) (X : (hd.heap_39 w.params).In h₀) (N : News h₀ L s.heap news)
    (T : Top hd.view_39 Loo mean mg mb h₀) (hk : cs.kind = .function) (hdp : dp + 4 < recursionLimit)
    (hT : (rT, listOf #[.ref rA, .ref rB] e) ∈ news)
    (hret : ∀ h' tk', Fr h₀ L h' m → News h₀ L h' news → Q (.bool true) {s with heap := h', toks := tk'}) :
    wpAny (model Pg w) (ktrTop dp un gd cn cs L a ccd cl outer) (call (.ref 194) [.ref rT, .int 1 t]) Q E s := by
  k_with_none
  (k_with "eval Name" => (k_here; (with_reducible show wpAny _ _ (eval (Expr.Name _ _) (envOf _ _ _ _ _)) _ _ _); k_dflt (refine' ld ?nx1 ?nx2 ?_; (case nx1 => k_asm); (case nx2 => (first | (with_reducible assumption) | ((repeat' (first | exact if_pos rfl | refine (if_neg (by decide)).trans ?_)) <;> (with_reducible assumption)))); k_whole)))
  (k_with "eval Name" => (k_here; (with_reducible show wpAny _ _ (eval (Expr.Name _ _) (envOfC _ _ _ _ _)) _ _ _); k_dflt (refine' nameX_L ?nx1 ?nx2 ?_ ?nxa ?nxb; (case nx1 => k_asm); (case nxa => rfl); (case nxb => rfl); (case nx2 => (first | (with_reducible assumption) | ((repeat' (first | exact if_pos rfl | refine (if_neg (by decide)).trans ?_)) <;> (with_reducible assumption)))); k_whole)))
  (k_with "loadName" => (k_here; k_dflt (refine' ldn ?nx1 ?nx2 ?_; (case nx1 => k_asm); (case nx2 => (first | (with_reducible assumption) | ((repeat' (first | exact if_pos rfl | refine (if_neg (by decide)).trans ?_)) <;> (with_reducible assumption)))); k_whole)))
  (k_with "subscriptTail" => ((with_reducible show wpAny _ _ (subscriptTail _ _ (Value.ref _) (Value.int _ _)) _ _ _); k_dflt (refine' item_tupleT ?t ?a ?b ?c ?d ?_; (case t => exact News.isTup (by k_asm) (by k_mem)); (case a => decide); (case b => decide); (case c => rfl); (case d => rfl); k_whole)))
  (k_with "subscriptTail Name Name ref int" => ((with_reducible show wpAny _ _ (subscriptTail _ _ (Value.ref _) (Value.int _ _)) _ _ _); k_dflt (refine' item_tupleT ?t ?a ?b ?c ?d ?_; (case t => exact News.isTup (by k_asm) (by k_mem)); (case a => decide); (case b => decide); (case c => rfl); (case d => rfl); k_whole)))
  (k_with "subscriptTail Name Constant ref int" => ((with_reducible show wpAny _ _ (subscriptTail _ _ (Value.ref _) (Value.int _ _)) _ _ _); k_dflt (refine' item_tupleT ?t ?a ?b ?c ?d ?_; (case t => exact News.isTup (by k_asm) (by k_mem)); (case a => decide); (case b => decide); (case c => rfl); (case d => rfl); k_whole)))
  refine wpAny_call ?_
  k_dflt cell_enter
  k_steps
  exact hret _ _ (by assumption) (news_in (by assumption) (by kcj_all))
theorem jumps_is {w : World} {h : Heap} (X : (hd.heap_39 w.params).In h) : ∃ its, IsTup h 119 its ∧ StrsAre its.toList [Str.ofString "GOTO", Str.ofString "GOSUB", Str.ofString "THEN", Str.ofString "ELSE", Str.ofString "RESTORE", Str.ofString "RUN"] := by
  have e := X 119 _ (by k_is)
  exact ⟨_, ⟨_, e, rfl, _, rfl⟩, by repeat (first | exact .nil | refine .cons _ _ ?_)⟩
theorem in_jumps {A : Around} {u : Tok} (F : Fr h₀ L s.heap m) (X : (hd.heap_39 w.params).In h₀) (h : Q (.bool true) s) : wpAny (model Pg w) A (compareOp .In (.str (Str.ofString "GOTO") u) (.ref 119)) Q E s := by
  obtain ⟨its, h1, h2⟩ := jumps_is (X.keeps F.keep)
  refine in_tuple_strs h1 h2 ?_
  rw [show (List.any [Str.ofString "GOTO", Str.ofString "GOSUB", Str.ofString "THEN", Str.ofString "ELSE", Str.ofString "RESTORE", Str.ofString "RUN"] (· == Str.ofString "GOTO")) = true from by decide +kernel]
  exact h
theorem targets_spec {rT rA rB : Addr} {a1 a2 b1 b2 : Tok} {e1 e2 e3 : Nat} {g : Int}
    (B : Below A₀ base outer h₀) (F : Fr h₀ L s.heap m) (X : (hd.heap_39 w.params).In h₀) (N : News h₀ L s.heap news)
    (T : Top hd.view_39 Loo mean mg mb h₀) (hk : cs.kind = .function) (hdp : dp + 10 < recursionLimit) (hu : un + 80 < cLine)
    (hT : (rT, listOf #[.ref rA, .ref rB] e1) ∈ news) (hA : (rA, tup2 (.str (Str.ofString "word") a1) (.str (Str.ofString "GOTO") a2) e2) ∈ news) (hB : (rB, tup2 (.str (Str.ofString "number") b1) (.int g b2) e3) ∈ news)
    (hret : ∀ D tk e h' tk', Fr h₀ L h' m → News h₀ L h' ((D, listOf #[.int 1 tk] e) :: news) → (∀ p ∈ news, p.1 ≠ D) → Q (.ref D) {s with heap := h', toks := tk'}) :
    wpAny (model Pg w) (ktrTop dp un gd cn cs L a ccd cl outer) (call (.ref 187) [.ref rT]) Q E s := by
  have N' : News h₀ L s.heap ((rT, listOf #[.ref rA, .ref rB] e1) :: (rA, tup2 (.str (Str.ofString "word") a1) (.str (Str.ofString "GOTO") a2) e2) :: (rB, tup2 (.str (Str.ofString "number") b1) (.int g b2) e3) :: news) := news_in N (by simp [hT, hA, hB])
  clear N
  k_with_none
  (k_with "eval Name" => (k_here; (with_reducible show wpAny _ _ (eval (Expr.Name _ _) (envOf _ _ _ _ _)) _ _ _); k_dflt (refine' ld ?nx1 ?nx2 ?_; (case nx1 => k_asm); (case nx2 => (first | (with_reducible assumption) | ((repeat' (first | exact if_pos rfl | refine (if_neg (by decide)).trans ?_)) <;> (with_reducible assumption)))); k_whole)))
  (k_with "eval Name" => (k_here; (with_reducible show wpAny _ _ (eval (Expr.Name _ _) (envOfC _ _ _ _ _)) _ _ _); k_dflt (refine' nameX_L ?nx1 ?nx2 ?_ ?nxa ?nxb; (case nx1 => k_asm); (case nxa => rfl); (case nxb => rfl); (case nx2 => (first | (with_reducible assumption) | ((repeat' (first | exact if_pos rfl | refine (if_neg (by decide)).trans ?_)) <;> (with_reducible assumption)))); k_whole)))
  (k_with "loadName" => (k_here; k_dflt (refine' ldn ?nx1 ?nx2 ?_; (case nx1 => k_asm); (case nx2 => (first | (with_reducible assumption) | ((repeat' (first | exact if_pos rfl | refine (if_neg (by decide)).trans ?_)) <;> (with_reducible assumption)))); k_whole)))
  (k_with "subscriptTail" => ((with_reducible show wpAny _ _ (subscriptTail _ _ (Value.ref _) (Value.int _ _)) _ _ _); k_dflt (refine' item_tupleT ?t ?a ?b ?c ?d ?_; (case t => exact News.isTup (by k_asm) (by k_mem)); (case a => decide); (case b => decide); (case c => rfl); (case d => rfl); k_whole)))
  (k_with "subscriptTail Name Name ref int" => ((with_reducible show wpAny _ _ (subscriptTail _ _ (Value.ref _) (Value.int _ _)) _ _ _); k_dflt (refine' item_tupleT ?t ?a ?b ?c ?d ?_; (case t => exact News.isTup (by k_asm) (by k_mem)); (case a => decide); (case b => decide); (case c => rfl); (case d => rfl); k_whole)))
  (k_with "subscriptTail Name Constant ref int" => ((with_reducible show wpAny _ _ (subscriptTail _ _ (Value.ref _) (Value.int _ _)) _ _ _); k_dflt (refine' item_tupleT ?t ?a ?b ?c ?d ?_; (case t => exact News.isTup (by k_asm) (by k_mem)); (case a => decide); (case b => decide); (case c => rfl); (case d => rfl); k_whole)))
  (k_with "call ref" => (k_dflt (refine' is_whole_spec (by assumption) (by assumption) (by assumption) (by assumption) (by assumption) ?hk ?hd (by k_mem) ?_; (case hk => first | rfl | assumption); (case hd => ktr_room))))
  (k_with "exec For Tuple Call" => (k_dflt (refine' For_turns ?cF ?_ ?cs ?cE; (case cF => k_asm); (case cs => intro _; with_unfolding_all rfl); (case cE => first | passes_own | with_unfolding_all passes_own))))
  (k_with "call type:enumerate" => (k_dflt (
    refine' for_enum rfl rfl rfl rfl (by assumption) (news_in (by assumption) (by kcj_all)) (l := rT) (by k_mem)
      (fun i m₁ news₁ => ∃ (fl : Addr) (e : Nat) (its : Array Value), m₁ (Str.ofString "found") = some (.ref fl) ∧ AllLt fl ((L' + 1, oC) :: (rT, listOf #[.ref rA, .ref rB] e1) :: (rA, tup2 (.str (Str.ofString "word") a1) (.str (Str.ofString "GOTO") a2) e2) :: (rB, tup2 (.str (Str.ofString "number") b1) (.int g b2) e3) :: news) ∧
        news₁ = (fl, listOf its e) :: (L' + 1, oC) :: (rT, listOf #[.ref rA, .ref rB] e1) :: (rA, tup2 (.str (Str.ofString "word") a1) (.str (Str.ofString "GOTO") a2) e2) :: (rB, tup2 (.str (Str.ofString "number") b1) (.int g b2) e3) :: news ∧
        ((i = 0 ∧ its = #[] ∧ m₁ (Str.ofString "is_open") = some (.bool false)) ∨ (i = 1 ∧ its = #[] ∧ m₁ (Str.ofString "is_open") = some (.bool true)) ∨ (i = 2 ∧ (∃ t, its = #[.int 1 t]) ∧ m₁ (Str.ofString "is_open") = some (.bool false))))
      ⟨_, _, _, rfl, (by first | assumption | (refine allLt_of ?_; assumption) | exact (by assumption : _ < _ ∧ AllLt _ _).2 | exact (by assumption : _ < _ ∧ _ < _ ∧ AllLt _ _).2.2 | exact (by assumption : _ < _ ∧ _ < _ ∧ _ < _ ∧ AllLt _ _).2.2.2 | exact (by assumption : _ < _ ∧ _ < _ ∧ _ < _ ∧ _ < _ ∧ AllLt _ _).2.2.2.2 | exact (by assumption : _ < _ ∧ _ < _ ∧ _ < _ ∧ _ < _ ∧ _ < _ ∧ AllLt _ _).2.2.2.2.2 | exact (by assumption : _ < _ ∧ _ < _ ∧ _ < _ ∧ _ < _ ∧ _ < _ ∧ _ < _ ∧ AllLt _ _).2.2.2.2.2.2 | exact (by assumption : _ < _ ∧ _ < _ ∧ _ < _ ∧ _ < _ ∧ _ < _ ∧ _ < _ ∧ _ < _ ∧ AllLt _ _).2.2.2.2.2.2.2 | exact (by assumption : _ < _ ∧ _ < _ ∧ _ < _ ∧ _ < _ ∧ _ < _ ∧ _ < _ ∧ _ < _ ∧ _ < _ ∧ AllLt _ _).2.2.2.2.2.2.2.2), rfl, .inl ⟨rfl, rfl, rfl⟩⟩ ?turnA ?finA
    case' turnA => (
      rintro i t v m₁ news₁ own wr h₁ tk₁ hv ⟨fl, e, its, hm, hfl, rfl, hc⟩ hown hwo hwr F₁ N₁
      obtain ⟨f1, f2, f3, f4, f5⟩ := hfl
      have hfn : ∀ p ∈ news ++ own, p.1 ≠ fl := by
        intro p hp
        rcases List.mem_append.mp hp with h | h
        · exact allLt_ne f5 p h
        · rcases hown p h with h | h
          · intro e; exact hwr (fl, _) (.head _) (e ▸ h)
          · rw [h]; exact Nat.ne_of_lt f2
      simp only [List.cons_append] at N₁
      rcases hc with ⟨rfl, rfl, hop⟩ | ⟨rfl, rfl, hop⟩ | ⟨rfl, ⟨ti, rfl⟩, hop⟩
      rotate_left 2
      · cases hv
      all_goals cases hv)
    case' finA => (
      rintro h₁ tk₁ m₁ news₁ F₁ N₁ ⟨fl, e, its, hm, hfl, rfl, hc⟩
      rcases hc with ⟨h, _⟩ | ⟨h, _⟩ | ⟨_, ⟨ti, rfl⟩, hop⟩
      · cases h
      · cases h))))
  (k_with "ite" => (first | refine ite_yes (by assumption) ?_ | refine ite_no (by assumption) ?_))
  (k_with "compareOp In str ref" => (k_dflt (refine' in_jumps ?k1 ?k2 ?_; (case k1 => assumption); (case k2 => assumption))))
  (k_with "compareOp Eq ref ref" => (k_dflt ((refine eq_dataH (by ke_read) (by ke_read) (by ke_shaped) (by ke_shaped) (by ktr_units) ?_); ke_norm)))
  (k_with "eval ListComp" => (k_dflt (refine' ListComp_G [(Str.ofString "row", L' + 1)] ?cF ?cl ?cc ?ck ?cn ?_ ?cs; (case cF => k_asm); (case cl => with_unfolding_all rfl); (case cc => decide); (case ck => with_unfolding_all rfl); (case cn => decide); (case cs => intro _; with_unfolding_all rfl))))
  (k_with "pyIter ref" => (k_dflt (
    refine' comp_list (vs := [.int 1 ti]) rfl (by assumption) (by assumption) (by k_mem) (Nat.le_of_ble_eq_true rfl) rfl rfl (fun i ys news₁ => news₁ = _ ∧ ((i = 0 ∧ ys = []) ∨ (i = 1 ∧ ys = [.int 1 ti]))) ⟨rfl, .inl ⟨rfl, rfl⟩⟩ ?turn ?fin
    case' turn => (
      rintro i v ys news₁ own C oC D m₂ h tk E' hv hm hoC ⟨rfl, ⟨rfl, rfl⟩ | ⟨rfl, rfl⟩⟩ hyl F' N' off hCD hwo
      all_goals cases hv)
    case' fin => (
      rintro g ys news' ⟨rfl, hy⟩
      obtain rfl : ys = [.int 1 ti] := by
        rcases hy with ⟨h, _⟩ | ⟨_, h⟩
        · cases h
        · exact h
      intro D h tk F' N' off))))
  refine wpAny_call ?_
  k_dflt (refine' code_defC ?k1 ?k2 ?k3 ?k4 ?k5 ?kA ?kF ?kK ?k6 ?k7 ?k8 ?k9 ?kB ?kD ?_ ?c2 ?c3 ?c4; (case kA => exact rfl); (case kF => exact rfl); (case kK => assumption); (case k1 => k_asm); (case k2 => k_asm); (case k3 => k_asm); (case k4 => k_asm); (case k5 => k_asm); (case k6 => k_is); (case k7 => k_is); (case k8 => ktr_room); (case k9 => exact BindsTo.of_eq rfl); (case kB => exact rfl); (case kD => decide +kernel); (case c2 => exact rfl); (case c3 => exact rfl); (case c4 => exact rfl); k_whole; intro g' L' h' tk' cells' FG' F' N' Y' B' X' T' l1; (try k_lt l1); (have hY := CellsAre.one Y'; obtain ⟨oC, hE', dC⟩ := hY; subst hE'; clear Y'); (try simp only [List.cons_append, List.nil_append] at N'); (try dsimp only); (try k_lift B'); (try k_fold))
  k_steps
  · exact hret D ti _ _ _ (by assumption) (news_in (by assumption) (by kcj_all)) (fun q hq => off q (by simp [hq]))
  · refine cend_of (by assumption) (by assumption) _ (by intro q hq; simp only [List.mem_append, List.mem_cons] at hq ⊢; grind) off ⟨rfl, .inr ⟨by first | rfl | trivial, rfl⟩⟩
  · refine fendU (by assumption) (by assumption) _ ?sub ?off ⟨fl, e, _, ?m1, ⟨f1, f2, f3, f4, f5⟩, rfl, .inr (.inl ⟨by first | rfl | trivial, rfl, ?m2⟩)⟩
    case m1 => ((repeat' (first | exact if_pos rfl | refine (if_neg (by decide)).trans ?_)) <;> (first | (with_reducible assumption) | rfl))
    case m2 => ((repeat' (first | exact if_pos rfl | refine (if_neg (by decide)).trans ?_)) <;> (first | (with_reducible assumption) | rfl))
    case off => exact hwr
    case sub =>
      intro q hq
      simp only [List.mem_append, List.mem_cons] at hq ⊢
      grind
  · refine fendU (by assumption) (by assumption) _ ?sub ?off ⟨fl, e + 1, _, ?m1, ⟨f1, f2, f3, f4, f5⟩, rfl, .inr (.inr ⟨by first | rfl | trivial, ⟨t, rfl⟩, ?m2⟩)⟩
    case m1 => ((repeat' (first | exact if_pos rfl | refine (if_neg (by decide)).trans ?_)) <;> (first | (with_reducible assumption) | rfl))
    case m2 => ((repeat' (first | exact if_pos rfl | refine (if_neg (by decide)).trans ?_)) <;> (first | (with_reducible assumption) | rfl))
    case off =>
      intro q hq
      rcases List.mem_cons.mp hq with rfl | hq
      · have z := hwr _ (.head _)
        exact z
      · exact hwr q (.tail _ hq)
    case sub =>
      intro q hq
      simp only [List.mem_append, List.mem_cons] at hq ⊢
      grind
end
end
section
section
open PyProof.V PySem.Spec
variable {w : World} {mean : ExcName → Option Value} {mg mb : Str → Option Value} {dp un : Nat} {gd : Option (List Code)} {cn : Str} {cs : Scope} {a : Addr} {ccd : Value} {cl : List (Str × Addr)} {outer : List Env} {A₀ : Around} {base h₀ : Heap} {L : Addr} {m : Str → Option Value} {s : Shared} {Q E : Value → Shared → Prop} {news : List (Addr × Obj)}
/-- the dict of ways in the ledger -/
structure Ways (w : World) (news : List (Addr × Obj)) (wd : Addr) (c : List (Int × Int)) (o : Obj) (kvs : List (Int × Value)) : Prop where
  mem : (wd, o) ∈ news
  lo : (wd == sysModules) = false
  hd : o.IsDictOf (PySem.intKind Pg w) kvs
  hf : FlatPairs PyData.int kvs (kdfD c)
theorem Ways.tab {wd : Addr} {c : List (Int × Int)} {o : Obj} {kvs : List (Int × Value)} (W : Ways w news wd c o kvs) (N : News h₀ L s.heap news) : IntTab Pg w s.heap wd (kdfD c) := TabAt.ofObj W.lo (N _ W.mem).1 W.hd W.hf
theorem led_row_spec {rT rA rB wd : Addr} {a1 a2 b1 b2 : Tok} {e1 e2 e3 : Nat} {g : Int} {c : List (Int × Int)} {o : Obj} {kvs : List (Int × Value)}
    (B : Below A₀ base outer h₀) (F : Fr h₀ L s.heap m) (X : (hd.heap_39 w.params).In h₀) (N : News h₀ L s.heap news)
    (T : Top hd.view_39 Loo mean mg mb h₀) (hk : cs.kind = .function) (hdp : dp + 20 < recursionLimit) (hu : un + 90 < cLine)
    (hT : (rT, listOf #[.ref rA, .ref rB] e1) ∈ news) (hA : (rA, tup2 (.str (Str.ofString "word") a1) (.str (Str.ofString "GOTO") a2) e2) ∈ news) (hB : (rB, tup2 (.str (Str.ofString "number") b1) (.int g b2) e3) ∈ news)
    (W : Ways w news wd c o kvs)
    (hret : ∀ fl U tk tk2 e e4 h' tk', Fr h₀ L h' m → News h₀ L h' ((fl, listOf #[.ref rA, .ref U] e) :: (U, tup2 (.str (Str.ofString "number") tk) (.int (kdfLook c g g) tk2) e4) :: news) → AllLt fl news → @LT.lt Nat _ fl U → Q (.ref fl) {s with heap := h', toks := tk'}) :
    wpAny (model Pg w) (ktrTop dp un gd cn cs L a ccd cl outer) (call (.ref 211) [.ref rT, .ref wd]) Q E s := by
  have hW := W.mem
  have lo := W.lo
  have dd := W.hd
  have df := W.hf
  have N' : News h₀ L s.heap ((wd, o) :: (rT, listOf #[.ref rA, .ref rB] e1) :: (rA, tup2 (.str (Str.ofString "word") a1) (.str (Str.ofString "GOTO") a2) e2) :: (rB, tup2 (.str (Str.ofString "number") b1) (.int g b2) e3) :: news) := news_in N (by simp [hT, hA, hB, hW])
  clear N
  k_with_none
  (k_with "eval Name" => (k_here; (with_reducible show wpAny _ _ (eval (Expr.Name _ _) (envOf _ _ _ _ _)) _ _ _); k_dflt (refine' ld ?nx1 ?nx2 ?_; (case nx1 => k_asm); (case nx2 => (first | (with_reducible assumption) | ((repeat' (first | exact if_pos rfl | refine (if_neg (by decide)).trans ?_)) <;> (with_reducible assumption)))); k_whole)))
  (k_with "eval Name" => (k_here; (with_reducible show wpAny _ _ (eval (Expr.Name _ _) (envOfC _ _ _ _ _)) _ _ _); k_dflt (refine' nameX_L ?nx1 ?nx2 ?_ ?nxa ?nxb; (case nx1 => k_asm); (case nxa => rfl); (case nxb => rfl); (case nx2 => (first | (with_reducible assumption) | ((repeat' (first | exact if_pos rfl | refine (if_neg (by decide)).trans ?_)) <;> (with_reducible assumption)))); k_whole)))
  (k_with "loadName" => (k_here; k_dflt (refine' ldn ?nx1 ?nx2 ?_; (case nx1 => k_asm); (case nx2 => (first | (with_reducible assumption) | ((repeat' (first | exact if_pos rfl | refine (if_neg (by decide)).trans ?_)) <;> (with_reducible assumption)))); k_whole)))
  (k_with "subscriptTail" => ((with_reducible show wpAny _ _ (subscriptTail _ _ (Value.ref _) (Value.int _ _)) _ _ _); first | k_dflt (refine' item_tupleT ?t ?a ?b ?c ?d ?_; (case t => exact News.isTup (by k_asm) (by k_mem)); (case a => decide); (case b => decide); (case c => rfl); (case d => rfl); k_whole) | (with_unfolding_all refine' item_litK ?k1 ?k2 ?k3 ?k4 ?_ ?k6; (case k1 => is_list); (case k2 => decide); (case k3 => decide); (case k4 => rfl); (case k6 => with_unfolding_all rfl); k_whole)))
  (k_with "subscriptTail Name Name ref int" => ((with_reducible show wpAny _ _ (subscriptTail _ _ (Value.ref _) (Value.int _ _)) _ _ _); first | k_dflt (refine' item_tupleT ?t ?a ?b ?c ?d ?_; (case t => exact News.isTup (by k_asm) (by k_mem)); (case a => decide); (case b => decide); (case c => rfl); (case d => rfl); k_whole) | (with_unfolding_all refine' item_litK ?k1 ?k2 ?k3 ?k4 ?_ ?k6; (case k1 => is_list); (case k2 => decide); (case k3 => decide); (case k4 => rfl); (case k6 => with_unfolding_all rfl); k_whole)))
  (k_with "subscriptTail Name Constant ref int" => ((with_reducible show wpAny _ _ (subscriptTail _ _ (Value.ref _) (Value.int _ _)) _ _ _); first | k_dflt (refine' item_tupleT ?t ?a ?b ?c ?d ?_; (case t => exact News.isTup (by k_asm) (by k_mem)); (case a => decide); (case b => decide); (case c => rfl); (case d => rfl); k_whole) | (with_unfolding_all refine' item_litK ?k1 ?k2 ?k3 ?k4 ?_ ?k6; (case k1 => is_list); (case k2 => decide); (case k3 => decide); (case k4 => rfl); (case k6 => with_unfolding_all rfl); k_whole)))
  (k_with "exec For Name Call cons nil" => (k_dflt (refine' For_turns ?cF ?_ ?cs ?cE; (case cF => k_asm); (case cs => intro _; with_unfolding_all rfl); (case cE => first | passes_own | with_unfolding_all passes_own))))
  (k_with "call ref" => (k_dflt (refine' targets_spec (by assumption) (by assumption) (by assumption) (by assumption) (by assumption) ?hk ?hd ?hu (by k_mem) (by k_mem) (by k_mem) ?_; (case hk => first | rfl | assumption); (case hd => ktr_room); (case hu => ktr_units); intro D tk e h' tk' F' N' off)))
  (k_with "call builtin:dict.get" => (k_dflt (refine' kdf_get2 ?T ?_; (case T => exact TabAt.ofNews (by k_asm) (by k_mem) lo dd df); intro tg)))
  (k_with "pyIter ref" => (k_dflt (
    refine' for_list2 rfl rfl rfl (by assumption) (news_in (by assumption) (by kcj_all)) (by assumption) (vs := [.int 1 tk]) (by k_mem)
      (fun i m₁ news₁ => ∃ (fl : Addr) (e : Nat), m₁ (Str.ofString "found") = some (.ref fl) ∧ m₁ (Str.ofString "row") = some (.ref rT) ∧ m₁ (Str.ofString "ways") = some (.ref wd) ∧ AllLt fl ((wd, o) :: (rT, listOf #[.ref rA, .ref rB] e1) :: (rA, tup2 (.str (Str.ofString "word") a1) (.str (Str.ofString "GOTO") a2) e2) :: (rB, tup2 (.str (Str.ofString "number") b1) (.int g b2) e3) :: news) ∧ @Ne Nat fl D ∧
        ((i = 0 ∧ news₁ = (fl, listOf #[.ref rA, .ref rB] e) :: (wd, o) :: (rT, listOf #[.ref rA, .ref rB] e1) :: (rA, tup2 (.str (Str.ofString "word") a1) (.str (Str.ofString "GOTO") a2) e2) :: (rB, tup2 (.str (Str.ofString "number") b1) (.int g b2) e3) :: news) ∨ (i = 1 ∧ ∃ U t1 t2 e4, news₁ = (fl, listOf #[.ref rA, .ref U] e) :: (U, tup2 (.str (Str.ofString "number") t1) (.int (kdfLook c g g) t2) e4) :: (wd, o) :: (rT, listOf #[.ref rA, .ref rB] e1) :: (rA, tup2 (.str (Str.ofString "word") a1) (.str (Str.ofString "GOTO") a2) e2) :: (rB, tup2 (.str (Str.ofString "number") b1) (.int g b2) e3) :: news ∧ @LT.lt Nat _ fl U)))
      ⟨_, _, rfl, rfl, rfl, (by first | assumption | (refine allLt_of ?_; assumption) | exact (by assumption : _ < _ ∧ AllLt _ _).2 | exact (by assumption : _ < _ ∧ _ < _ ∧ AllLt _ _).2.2 | exact (by assumption : _ < _ ∧ _ < _ ∧ _ < _ ∧ AllLt _ _).2.2.2 | exact (by assumption : _ < _ ∧ _ < _ ∧ _ < _ ∧ _ < _ ∧ AllLt _ _).2.2.2.2 | exact (by assumption : _ < _ ∧ _ < _ ∧ _ < _ ∧ _ < _ ∧ _ < _ ∧ AllLt _ _).2.2.2.2.2 | exact (by assumption : _ < _ ∧ _ < _ ∧ _ < _ ∧ _ < _ ∧ _ < _ ∧ _ < _ ∧ AllLt _ _).2.2.2.2.2.2 | exact (by assumption : _ < _ ∧ _ < _ ∧ _ < _ ∧ _ < _ ∧ _ < _ ∧ _ < _ ∧ _ < _ ∧ AllLt _ _).2.2.2.2.2.2.2 | exact (by assumption : _ < _ ∧ _ < _ ∧ _ < _ ∧ _ < _ ∧ _ < _ ∧ _ < _ ∧ _ < _ ∧ _ < _ ∧ AllLt _ _).2.2.2.2.2.2.2.2), off _ (.head _), .inl ⟨rfl, rfl⟩⟩ ?turnA ?finA
    case' turnA => (
      rintro i v m₁ news₁ own h tk I oI hv ⟨fl, e, m1, m2, m3, hfl, hne, hc⟩ hwr hown hI hlo hlt F₁ N₁
      obtain ⟨f1, f2, f3, f4, f5⟩ := hfl
      obtain ⟨rfl, rfl⟩ : i = 0 ∧ news₁ = (fl, listOf #[.ref rA, .ref rB] e) :: (wd, o) :: (rT, listOf #[.ref rA, .ref rB] e1) :: (rA, tup2 (.str (Str.ofString "word") a1) (.str (Str.ofString "GOTO") a2) e2) :: (rB, tup2 (.str (Str.ofString "number") b1) (.int g b2) e3) :: news := by
        rcases hc with ⟨rfl, rfl⟩ | ⟨rfl, _⟩
        · exact ⟨rfl, rfl⟩
        · cases hv
      cases hv
      have hfn : ∀ p ∈ news ++ own, p.1 ≠ fl := by
        intro p hp
        rcases List.mem_append.mp hp with h | h
        · exact allLt_ne f5 p h
        · rcases hown p h with h | h
          · intro e
            have z := hwr _ (.head _)
            exact z (by rw [List.mem_singleton]; exact e.symm.trans h)
          · intro e; exact hne (e.symm.trans h)
      simp only [List.cons_append] at N₁)
    case' finA => rintro h tk m₁ news₁ F₁ N₁ ⟨fl, e, m1, m2, m3, hfl, hne, hc⟩)))
  refine wpAny_call ?_
  k_dflt cell_enter
  k_steps
  · obtain ⟨U, t1, t2, e4, rfl, hU⟩ : ∃ U t1 t2 e4, news₁ = (fl, listOf #[.ref rA, .ref U] e) :: (U, tup2 (.str (Str.ofString "number") t1) (.int (kdfLook c g g) t2) e4) :: ((wd, o) :: (rT, listOf #[.ref rA, .ref rB] e1) :: (rA, tup2 (.str (Str.ofString "word") a1) (.str (Str.ofString "GOTO") a2) e2) :: (rB, tup2 (.str (Str.ofString "number") b1) (.int g b2) e3) :: news) ∧ @LT.lt Nat _ fl U := by
      rcases hc with ⟨h, _⟩ | ⟨_, h⟩
      · cases h
      · exact h
    exact hret fl U t1 t2 e e4 _ _ (by assumption) (news_in (by assumption) (by kcj_all)) hfl.2.2.2.2 hU
  · refine' fendU (by assumption) (by assumption) ((fl, listOf #[.ref rA, .ref _] _) :: (_, tup2 (.str (Str.ofString "number") _) (.int (kdfLook c g g) _) _) :: (wd, o) :: (rT, listOf #[.ref rA, .ref rB] e1) :: (rA, tup2 (.str (Str.ofString "word") a1) (.str (Str.ofString "GOTO") a2) e2) :: (rB, tup2 (.str (Str.ofString "number") b1) (.int g b2) e3) :: news) ?sub ?off ⟨fl, _, ?m1, ?m2, ?m3, ⟨f1, f2, f3, f4, f5⟩, hne, .inr ⟨by first | rfl | trivial, _, _, _, _, rfl, ?lt⟩⟩
    case lt => exact (by assumption : @LT.lt Nat _ fl _ ∧ _).1
    case m1 => ((repeat' (first | exact if_pos rfl | refine (if_neg (by decide)).trans ?_)) <;> (first | (with_reducible assumption) | rfl))
    case m2 => ((repeat' (first | exact if_pos rfl | refine (if_neg (by decide)).trans ?_)) <;> (first | (with_reducible assumption) | rfl))
    case m3 => ((repeat' (first | exact if_pos rfl | refine (if_neg (by decide)).trans ?_)) <;> (first | (with_reducible assumption) | rfl))
    case sub =>
      intro q hq
      rcases List.mem_append.mp hq with h | h
      · simp [h]
      rcases List.mem_cons.mp h with rfl | h
      · k_mem
      rcases List.mem_cons.mp h with rfl | h
      · k_mem
      simp only [List.mem_append, List.mem_cons] at h ⊢
      grind
    case off =>
      intro q hq
      rcases List.mem_cons.mp hq with rfl | hq
      · have z := hwr _ (.head _)
        exact z
      rcases List.mem_cons.mp hq with rfl | hq
      · have hx := (by assumption : @LT.lt Nat _ fl _ ∧ _).2
        have hy := allLt_mem hx.2.2.2.2 (I, oI) (List.mem_append_right _ hI)
        rw [List.mem_singleton]
        exact Nat.ne_of_gt hy
      exact hwr q (.tail _ hq)
end
end
section
section
variable {prog : Program} {w : World} {A : Around} {E : Value → Shared → Prop} {s : Shared} {h₀ : Heap} {L : Addr} {env : Env} {body : List Stmt} {Q : Flow → Shared → Prop}
open PySem.Spec PyProof.Rows.LCg
/-- over two lists of the ledger at once; the names are left to the walk -/
theorem for_zipC {x x₂ : Str} {px px₂ tp : Pos} {tk₀} {l1 l2 : Addr} {xs ys : List Value} {e1 e2 : Nat} {m : Str → Option Value} {news news₀ : List (Addr × Obj)}
    (hh : A.handled = none) (hn2 : (assignEach [.Name x px, .Name x₂ px₂] env).length = 2) (hstar : (assignEach [.Name x px, .Name x₂ px₂] env).findIdx? (·.1) = none)
    (F : Fr h₀ env.locals s.heap m) (N : News h₀ env.locals s.heap news) (N₀ : News h₀ env.locals s.heap news₀) (hl1 : (l1, listOf xs.toArray e1) ∈ news₀) (hl2 : (l2, listOf ys.toArray e2) ∈ news₀) (hlen : xs.length = ys.length)
    (J : Nat → (Str → Option Value) → List (Addr × Obj) → Prop) (hJ : J 0 m news)
    (turn : ∀ i v₁ v₂ m₁ news₁ own wr h₁ tk₁ Z, xs[i]? = some v₁ → ys[i]? = some v₂ → J i m₁ news₁ → (∀ q ∈ own, q.1 = l1 ∨ q.1 = l2 ∨ @LE.le Nat _ Z q.1) → (∀ q ∈ news₀, @LT.lt Nat _ q.1 Z) → (∀ b ∈ wr, ∃ o, (b, o) ∈ own) → (∀ b ∈ wr, @LE.le Nat _ Z b) → (∀ p ∈ news₁, p.1 ∉ wr) → Fr h₀ env.locals h₁ m₁ → News h₀ env.locals h₁ (news₁ ++ own) →
      wpAny (model prog w) A (assignInOrder ((assignEach [.Name x px, .Name x₂ px₂] env).map (·.2)) [v₁, v₂]) (fun _ s₃ => wpAny (model prog w) A (execs body env) (FEnd h₀ env wr own (J (i + 1)) { s with heap := h₁, toks := tk₁ } Q) E s₃) E { s with heap := h₁, toks := tk₁ })
    (fin : ∀ h' tk m' news', Fr h₀ env.locals h' m' → News h₀ env.locals h' news' → J xs.length m' news' → Q .next { s with heap := h', toks := tk }) :
    wpAny (model prog w) A (call (.type "zip") [.ref l1, .ref l2]) (fun xv s₁ => wpAny (model prog w) A (pyIter xv) (fun it s₂ => TurnsAt prog w A h₀ env (.Tuple [.Name x px, .Name x₂ px₂] tk₀ tp) body Q E it s₂) E s₁) E s := by
  have hax1 := N₀ _ hl1
  have hax2 := N₀ _ hl2
  have hL1 : s.heap.IsList l1 xs.toArray := ⟨_, hax1.1, rfl, _, rfl⟩
  have hL2 : s.heap.IsList l2 ys.toArray := ⟨_, hax2.1, rfl, _, rfl⟩
  have hlt1 : l1 < s.heap.objs.size := Heap.lt_size hax1.1
  have hlt2 : l2 < s.heap.objs.size := Heap.lt_size hax2.1
  have hLs : env.locals < s.heap.objs.size := F.ns.lt
  have D : ZipApart (s.heap.objs.size + 4) (s.heap.objs.size + 2) (s.heap.objs.size + 3) s.heap.objs.size (s.heap.objs.size + 1) l1 l2 := ktu_apart _ _ _ hlt1 hlt2
  refine call_zip_2 hL1 hL2 fun h' hz hTI hTO hi1 hi2 hsz' hk => ?_
  refine wpAny_pyIter_zip hz ?_
  have W := (WalksT.zip2 (prog := prog) (w := w) hh _ _ _ _ _ _ _ D xs.toArray ys.toArray).toU
  have hmin : min xs.toArray.size ys.toArray.size = xs.length := by simp [hlen]
  have newb : ∀ b ∈ [s.heap.objs.size + 4, s.heap.objs.size + 3, s.heap.objs.size, s.heap.objs.size + 1], s.heap.objs.size ≤ b := fun b hb => by
    simp only [List.mem_cons, List.not_mem_nil, or_false] at hb
    rcases hb with rfl | rfl | rfl | rfl <;> first | exact Nat.le_add_right _ _ | exact Nat.le_refl _
  refine ⟨_, _, [s.heap.objs.size + 4, s.heap.objs.size + 3, s.heap.objs.size, s.heap.objs.size + 1], _, _, _, _, m, news, J, rfl,
    KTurns.ofWalksU W, ?_, ?_, ?_, ⟨hz, hTI, ⟨_, _, hTO⟩, hi1, hi2, hL1.at fun o e => hk l1 o e, hL2.at fun o e => hk l2 o e⟩, F.keeps hk, N.grown hk, hJ, ?_,
    fun h' tk m' news' F' N' _ hj => fin h' tk m' news' F' N' (by rw [hmin] at hj; exact hj)⟩
  · intro hm
    simp only [List.mem_cons, List.not_mem_nil, or_false] at hm
    rcases hm with e | e | e | e | e | e | e
    · exact ktu_ne 4 hLs e
    · exact ktu_ne 2 hLs e
    · exact ktu_ne 3 hLs e
    · exact Nat.ne_of_lt hLs e
    · exact ktu_ne 1 hLs e
    · exact hax1.2.1 e.symm
    · exact hax2.2.1 e.symm
  · intro b hb; exact ktu_new F (newb b hb)
  · intro p hp hm; exact absurd (Heap.lt_size (N p hp).1) (Nat.not_lt.mpr (newb _ hm))
  · intro i v m₁ news₁ h₁ tk₁ own hi hP hJ' hnw hin hown hall st F₁ N₁
    obtain ⟨T, vals, rfl, ⟨v₁, v₂, g1, g2, rfl⟩, hT⟩ := hP
    refine assign_Tuple_tuple hh hT hn2 hstar fun h₅ he => ?_
    have he' : ∀ b o, h₁.get? b = some o → h₅.get? b = some o := fun b o e => he b o (Nat.ne_of_lt (Heap.lt_size e)) e
    have wrown : ∀ b ∈ [s.heap.objs.size + 4, s.heap.objs.size + 3, s.heap.objs.size, s.heap.objs.size + 1], ∃ o, (b, o) ∈ own := fun b hb => by
      have h0 := ktu_new F (newb b hb)
      obtain ⟨hz, _, ⟨_, _, hTO⟩, ⟨o1, ho1, _⟩, ⟨o2, ho2, _⟩, _⟩ := st
      simp only [List.mem_cons, List.not_mem_nil, or_false] at hb
      rcases hb with rfl | rfl | rfl | rfl
      · exact ⟨_, hall _ (by simp) h0 _ hz⟩
      · exact ⟨_, hall _ (by simp) h0 _ hTO⟩
      · exact ⟨_, hall _ (by simp) h0 _ ho1⟩
      · exact ⟨_, hall _ (by simp) h0 _ ho2⟩
    refine wpAny_mono (turn i v₁ v₂ m₁ news₁ own [s.heap.objs.size + 4, s.heap.objs.size + 3, s.heap.objs.size, s.heap.objs.size + 1] h₅ tk₁ s.heap.objs.size (by simpa using g1) (by simpa using g2) hJ' (fun q hq => ?_) (fun q hq => Heap.lt_size (N₀ q hq).1) wrown newb hnw (F₁.keeps he') (news_in (N₁.grown he') fun q hq => ?_)) (fun f s₂ hf => ?_) fun _ _ e => e
    · have h := hin q hq
      simp only [List.mem_cons, List.not_mem_nil, or_false] at h
      rcases h with h | h | h | h | h | h | h
      · exact .inr (.inr (h ▸ Nat.le_add_right _ _))
      · exact .inr (.inr (h ▸ Nat.le_add_right _ _))
      · exact .inr (.inr (h ▸ Nat.le_add_right _ _))
      · exact .inr (.inr (h ▸ Nat.le_refl _))
      · exact .inr (.inr (h ▸ Nat.le_add_right _ _))
      · exact .inl h
      · exact .inr (.inl h)
    · rcases List.mem_append.mp hq with h | h
      · exact List.mem_append_right _ h
      · exact List.mem_append_left _ h
    · exact wpAny_mono hf (fun f s₃ hf => hf) fun _ _ e => e
end
end
section
section
variable {w : World} {mean : ExcName → Option Value} {mg mb : Str → Option Value} {dp un : Nat} {gd : Option (List Code)} {cn : Str} {cs : Scope} {a : Addr} {ccd : Value} {cl : List (Str × Addr)} {outer : List Env} {A₀ : Around} {base h₀ : Heap} {L : Addr} {m : Str → Option Value} {s : Shared} {Q E : Value → Shared → Prop} {news : List (Addr × Obj)}
noncomputable def PairIs (news : List (Addr × Obj)) (v : Value) (q : Int × Int) : Prop := ∃ T t1 t2 e, v = .ref T ∧ (T, tup2 (.int q.1 t1) (.int q.2 t2) e) ∈ news
theorem PairIs.sub {news news' : List (Addr × Obj)} {v : Value} {q : Int × Int} (h : PairIs news v q) (hs : ∀ q ∈ news, q ∈ news') : PairIs news' v q := by
  obtain ⟨T, t1, t2, e, rfl, i⟩ := h
  exact ⟨T, t1, t2, e, rfl, hs _ i⟩
noncomputable def PairsAre (news : List (Addr × Obj)) (vs : List Value) (ps : List (Int × Int)) : Prop := vs.length = ps.length ∧ ∀ (i : Nat) v q, vs[i]? = some v → ps[i]? = some q → PairIs news v q
theorem PairsAre.sub {news news' : List (Addr × Obj)} {vs : List Value} {ps : List (Int × Int)} (h : PairsAre news vs ps) (hs : ∀ q ∈ news, q ∈ news') : PairsAre news' vs ps := ⟨h.1, fun i v g h1 h2 => (h.2 i v g h1 h2).sub hs⟩
theorem PairsAre.nil {news : List (Addr × Obj)} : PairsAre news [] [] := ⟨rfl, fun i v g h => by simp at h⟩
theorem PairsAre.snoc {news : List (Addr × Obj)} {vs : List Value} {ps : List (Int × Int)} {v : Value} {q : Int × Int} (h : PairsAre news vs ps) (hv : PairIs news v q) : PairsAre news (vs ++ [v]) (ps ++ [q]) := by
  refine ⟨by simp [h.1], fun i v' g' h1 h2 => ?_⟩
  by_cases hi : i < vs.length
  · rw [List.getElem?_append_left hi] at h1
    rw [List.getElem?_append_left (h.1 ▸ hi)] at h2
    exact h.2 i v' g' h1 h2
  · have e : i = vs.length := by
      have := (List.getElem?_eq_some_iff.mp h1).1
      simp at this; omega
    subst e
    rw [List.getElem?_append_right (Nat.le_refl _)] at h1
    rw [List.getElem?_append_right (by rw [h.1]; exact Nat.le_refl _)] at h2
    simp [h.1] at h1 h2
    subst h1; subst h2
    exact hv
noncomputable def lostOf (ks : List Int) (ps : List (Int × Int)) : List (Int × Int) := ps.filter fun q => !decide (q.2 ∈ ks)
theorem lost_in {ks : List Int} {ps : List (Int × Int)} {k g : Int} (h : g ∈ ks) : lostOf ks (ps ++ [(k, g)]) = lostOf ks ps := by simp [lostOf, h]
theorem lost_out {ks : List Int} {ps : List (Int × Int)} {k g : Int} (h : g ∉ ks) : lostOf ks (ps ++ [(k, g)]) = lostOf ks ps ++ [(k, g)] := by simp [lostOf, h]
theorem not_long {lv : List Value} {k : Nat} (hz : lv.length < 1000) (hk : k ≤ 1) : ¬(!lv.toArray.isEmpty && Builtin.List.listTooLong (lv.toArray.size + k)) = true := by
  have hsz : 1001 ≤ PySem.sizeLine := Nat.le_of_ble_eq_true rfl
  have e : Builtin.List.listTooLong (lv.toArray.size + k) = false := by
    unfold Builtin.List.listTooLong
    rw [decide_eq_false_iff_not, List.size_toArray]
    omega
  rw [e, Bool.and_false]
  exact Bool.false_ne_true
theorem ext_nil {A : Around} {D b : Addr} {lv : List Value} {n n2 : Nat} {news' : List (Addr × Obj)} (F : Fr h₀ L s.heap m) (N : News h₀ L s.heap news) (hb : (b, listOf #[] n2) ∈ news) (hz : lv.length < 1000) (U : Upd D (listOf lv.toArray n) (listOf lv.toArray n) news news')
    (h : ∀ h', Fr h₀ L h' m → News h₀ L h' news' → Q .none { s with heap := h' }) : wpAny (model Pg w) A (call (.builtin "list.extend") [.ref D, .ref b]) Q E s := by
  have hsz : 1001 ≤ PySem.sizeLine := Nat.le_of_ble_eq_true rfl
  exact kxn_extend F N hb rfl U (not_long hz (Nat.zero_le _)) (by simp; omega) (by simp; omega) h
theorem ext_one {A : Around} {D b : Addr} {lv : List Value} {y : Value} {n n2 : Nat} {news' : List (Addr × Obj)} (F : Fr h₀ L s.heap m) (N : News h₀ L s.heap news) (hb : (b, listOf #[y] n2) ∈ news) (hz : lv.length < 1000) (U : Upd D (listOf lv.toArray n) (listOf (lv ++ [y]).toArray (n + 1)) news news')
    (h : ∀ h', Fr h₀ L h' m → News h₀ L h' news' → Q .none { s with heap := h' }) : wpAny (model Pg w) A (call (.builtin "list.extend") [.ref D, .ref b]) Q E s := by
  have hsz : 1001 ≤ PySem.sizeLine := Nat.le_of_ble_eq_true rfl
  exact kl_extend F N hb (by simp) (by simp) U (not_long hz (Nat.le_refl 1)) (by simp; omega) (by simp; omega) h
theorem ex_addr {h : Heap} {l : Addr} {o : Obj} (_ : h.get? l = some o) : ∃ fl, fl = l := ⟨l, rfl⟩
theorem lost_targets_spec {p dx nl rl : Addr} {h1 h2 : Int} {t1 t2 : Tok} {vs rs : List Value} {ks gs : List Int} {e1 e2 : Nat}
    (B : Below A₀ base outer h₀) (F : Fr h₀ L s.heap m) (X : (hd.heap_39 w.params).In h₀) (N : News h₀ L s.heap news)
    (T : Top hd.view_39 Loo mean mg mb h₀) (hk : cs.kind = .function) (hdp : dp + 30 < recursionLimit) (hu : un + 100 < cLine)
    (P : PIn news p dx nl rl h1 h2 t1 t2 vs rs e1 e2) (hi : IntsAre vs ks) (hr : RowsAre news rs gs) (hgk : gs.length = ks.length) (hlen : ks.length < 1000) (hs : ks.Pairwise (· < ·))
    (hret : ∀ fl lv new e h' tk', Fr h₀ L h' m → News h₀ L h' ((fl, listOf lv.toArray e) :: (new ++ news)) → AllLt fl news → (∀ q ∈ new, @LT.lt Nat _ fl q.1) → PairsAre new lv (lostOf ks (ks.zip gs)) → Q (.ref fl) {s with heap := h', toks := tk'}) :
    wpAny (model Pg w) (ktrTop dp un gd cn cs L a ccd cl outer) (call (.ref 199) [.ref p]) Q E s := by
  have N' := P.pre N
  clear N
  have hvl := hi.length
  have hrl := hr.1
  k_with_none
  (k_with "eval Name" => (k_here; (with_reducible show wpAny _ _ (eval (Expr.Name _ _) (envOf _ _ _ _ _)) _ _ _); k_dflt (refine' ld ?nx1 ?nx2 ?_; (case nx1 => k_asm); (case nx2 => (first | (with_reducible assumption) | ((repeat' (first | exact if_pos rfl | refine (if_neg (by decide)).trans ?_)) <;> (with_reducible assumption)))); k_whole)))
  (k_with "eval Name" => (k_here; (with_reducible show wpAny _ _ (eval (Expr.Name _ _) (envOfC _ _ _ _ _)) _ _ _); k_dflt (refine' nameX_L ?nx1 ?nx2 ?_ ?nxa ?nxb; (case nx1 => k_asm); (case nxa => rfl); (case nxb => rfl); (case nx2 => (first | (with_reducible assumption) | ((repeat' (first | exact if_pos rfl | refine (if_neg (by decide)).trans ?_)) <;> (with_reducible assumption)))); k_whole)))
  (k_with "loadName" => (k_here; k_dflt (refine' ldn ?nx1 ?nx2 ?_; (case nx1 => k_asm); (case nx2 => (first | (with_reducible assumption) | ((repeat' (first | exact if_pos rfl | refine (if_neg (by decide)).trans ?_)) <;> (with_reducible assumption)))); k_whole)))
  (k_with "subscriptTail" => ((with_reducible show wpAny _ _ (subscriptTail _ _ (Value.ref _) (Value.int _ _)) _ _ _); first | k_dflt (refine' item_tupleT ?t ?a ?b ?c ?d ?_; (case t => exact News.isTup (by k_asm) (by k_mem)); (case a => decide); (case b => decide); (case c => rfl); (case d => rfl); k_whole) | (with_unfolding_all refine' item_litK ?k1 ?k2 ?k3 ?k4 ?_ ?k6; (case k1 => is_list); (case k2 => decide); (case k3 => decide); (case k4 => rfl); (case k6 => with_unfolding_all rfl); k_whole)))
  (k_with "subscriptTail Name Name ref int" => ((with_reducible show wpAny _ _ (subscriptTail _ _ (Value.ref _) (Value.int _ _)) _ _ _); first | k_dflt (refine' item_tupleT ?t ?a ?b ?c ?d ?_; (case t => exact News.isTup (by k_asm) (by k_mem)); (case a => decide); (case b => decide); (case c => rfl); (case d => rfl); k_whole) | (with_unfolding_all refine' item_litK ?k1 ?k2 ?k3 ?k4 ?_ ?k6; (case k1 => is_list); (case k2 => decide); (case k3 => decide); (case k4 => rfl); (case k6 => with_unfolding_all rfl); k_whole)))
  (k_with "subscriptTail Name Constant ref int" => ((with_reducible show wpAny _ _ (subscriptTail _ _ (Value.ref _) (Value.int _ _)) _ _ _); first | k_dflt (refine' item_tupleT ?t ?a ?b ?c ?d ?_; (case t => exact News.isTup (by k_asm) (by k_mem)); (case a => decide); (case b => decide); (case c => rfl); (case d => rfl); k_whole) | (with_unfolding_all refine' item_litK ?k1 ?k2 ?k3 ?k4 ?_ ?k6; (case k1 => is_list); (case k2 => decide); (case k3 => decide); (case k4 => rfl); (case k6 => with_unfolding_all rfl); k_whole)))
  (k_with "exec For Tuple Call" => (k_dflt (refine' For_turns ?cF ?_ ?cs ?cE; (case cF => k_asm); (case cs => intro _; with_unfolding_all rfl); (case cE => first | passes_own | with_unfolding_all passes_own))))
  (k_with "call ref" => (k_dflt (refine' targets_spec (by assumption) (by assumption) (by assumption) (by assumption) (by assumption) ?hk ?hd ?hu (by k_mem) (by k_mem) (by k_mem) ?_; (case hk => first | rfl | assumption); (case hd => ktr_room); (case hu => ktr_units); intro D tkD eD h' tk' F' N' offD)))
  (k_with "eval ListComp" => (k_dflt (refine' ListComp_G _ ?cF ?cl ?cc ?ck ?cn ?_ ?cs; (case cF => k_asm); (case cl => with_unfolding_all rfl); (case cc => decide); (case ck => with_unfolding_all rfl); (case cn => decide); (case cs => intro _; with_unfolding_all rfl))))
  (k_with "call builtin:list.extend" => (k_dflt (refine' ext_nil ?F ?N ?b ?z ?U ?_; (case F => k_asm); (case N => k_asm); (case b => k_mem); (case U => k_upd); (case z => omega); intro h' F' N')))
  (k_with "call builtin:list.extend" => (k_dflt (refine' ext_one ?F ?N ?b ?z ?U ?_; (case F => k_asm); (case N => k_asm); (case b => k_mem); (case U => k_upd); (case z => omega); intro h' F' N')))
  (k_with "call ref" => (k_dflt (refine' has_line_spec (by assumption) (by assumption) (by assumption) (by assumption) (by assumption) ?hk ?hd ?hu (P'.sub ?sub) hi hlen hs ?_; (case hk => first | rfl | assumption); (case hd => ktr_room); (case hu => ktr_units); (case sub => (intro q hq; simp [hq])); (rename Fr _ _ _ _ => kF0); (clear kF0); intro h' tk' F' N')))
  (k_with "pyIter ref" => (k_dflt (
    refine' comp_list (vs := [.int 1 tkD]) rfl (by assumption) (by assumption) (by k_mem) (Nat.le_of_ble_eq_true rfl) rfl rfl
      (fun i' ys news₁ => ∃ pre, news₁ = pre ++ _ ∧ ((i' = 0 ∧ pre = [] ∧ ys = []) ∨ (i' = 1 ∧ ((g ∈ ks ∧ pre = [] ∧ ys = []) ∨ (g ∉ ks ∧ ∃ U t1 t2 e, @LT.lt Nat _ fl U ∧ AllLt U R ∧ pre = [(U, tup2 (.int k t1) (.int g t2) e)] ∧ ys = [.ref U])))))
      ⟨[], rfl, .inl ⟨rfl, rfl, rfl⟩⟩ ?turnB ?finB
    case' turnB => (
      rintro i' v' ys news₁ own' C oC' D₂ m₂ h tk E' hv' hm' hoC ⟨pre, rfl, hc⟩ hyl F' N' off hCD hwo'
      obtain ⟨rfl, rfl, rfl⟩ : i' = 0 ∧ pre = [] ∧ ys = [] := by
        rcases hc with h | ⟨rfl, _⟩
        · exact h
        · cases hv'
      cases hv'
      simp only [List.nil_append, List.cons_append] at N' off)
    case' finB => (
      rintro gg ys news' ⟨pre, rfl, hc⟩
      rcases hc with ⟨hbad, _⟩ | ⟨_, ⟨hgk2, rfl, rfl⟩ | ⟨hgk2, U, u1, u2, eU, hU, hUR, rfl, rfl⟩⟩
      all_goals first | (cases hbad; done) | (intro D₂ h tk F' N' off; simp only [List.nil_append, List.cons_append] at N' off; have w1 : @Ne Nat D₂ fl := fun e => off (fl, listOf lv.toArray eF) (by k_mem) e.symm; have w2 : @Ne Nat D fl := fun e => offD (fl, listOf lv.toArray eF) (by k_mem) e.symm; try have w3 : @Ne Nat U fl := Nat.ne_of_gt hU)))))
  (k_with "call type:zip" => (k_dflt (
    (rename News _ _ _ _ => NN)
    (obtain ⟨fl, hfl⟩ := ex_addr (News.get NN (List.Mem.head _)))
    (subst hfl)
    refine' for_zipC rfl rfl rfl (by assumption) (by assumption) (by assumption) (l1 := nl) (l2 := rl) (by k_mem) (by k_mem) (by omega)
      (fun i m₁ news₁ => ∃ (e : Nat) (lv : List Value) (o1 o2 : Obj) (c1 c2 : Option Value) (new : List (Addr × Obj)), m₁ (Str.ofString "found") = some (.ref fl) ∧ o1.data = .cell c1 ∧ o2.data = .cell c2 ∧
        news₁ = (fl, listOf lv.toArray e) :: (L' + 1 + 1 + 1, o1) :: (L' + 1 + 1, o2) :: (L' + 1, oC3) :: (new ++ ((p, instObj 136 dx) :: (dx, dictOf [⟨h1, .str (Str.ofString "numbers") t1, .ref nl⟩, ⟨h2, .str (Str.ofString "rows") t2, .ref rl⟩] 2) :: (nl, listOf vs.toArray e1) :: (rl, listOf rs.toArray e2) :: news)) ∧ (∀ q ∈ new, @LT.lt Nat _ fl q.1) ∧ PairsAre new lv (lostOf ks ((ks.zip gs).take i)) ∧ lv.length ≤ i)
      ⟨0, [], _, _, _, _, [], rfl, dC, dC2, rfl, (by intro q hq; cases hq), .nil, Nat.le_refl _⟩ ?turnA ?finA
    case' turnA => (
      rintro i v₁ v₂ m₁ news₁ own wr h tk Z hv1 hv2 ⟨eF, lv, o1, o2, c1, c2, new, hm, q1, q2, rfl, hnew, hpa, hlv⟩ hown hZ hwo hwZ hwr F₁ N₁
      obtain ⟨k, tk1, rfl, hk1⟩ := hi.at i v₁ hv1
      obtain ⟨g, hg1⟩ := some_at (ks := gs) (show i < gs.length by have := (List.getElem?_eq_some_iff.mp hk1).1; omega)
      obtain ⟨rT, rA, rB, a1, a2, b1, b2, f1, f2, f3, rfl, hT, hA, hB⟩ := hr.2 i v₂ g hv2 hg1
      have hi1000 : i < 1000 := by have := (List.getElem?_eq_some_iff.mp hk1).1; omega
      have hl3 : @LT.lt Nat _ (L' + 1 + 1 + 1) fl := (by assumption : @LT.lt Nat _ (L' + 1 + 1 + 1) fl ∧ _).1
      obtain ⟨R, hR⟩ : ∃ R, R = (new ++ ((p, instObj 136 dx) :: (dx, dictOf [⟨h1, .str (Str.ofString "numbers") t1, .ref nl⟩, ⟨h2, .str (Str.ofString "rows") t2, .ref rl⟩] 2) :: (nl, listOf vs.toArray e1) :: (rl, listOf rs.toArray e2) :: news)) ++ own := ⟨_, rfl⟩
      have hRR : ∀ q ∈ R, @LT.lt Nat _ q.1 L' ∨ @LT.lt Nat _ fl q.1 := by
        intro q hq
        rw [hR] at hq
        rcases List.mem_append.mp hq with hq | hq
        · rcases List.mem_append.mp hq with hq | hq
          · exact .inr (hnew q hq)
          · exact .inl (allLt_mem (l := (p, instObj 136 dx) :: (dx, dictOf [⟨h1, .str (Str.ofString "numbers") t1, .ref nl⟩, ⟨h2, .str (Str.ofString "rows") t2, .ref rl⟩] 2) :: (nl, listOf vs.toArray e1) :: (rl, listOf rs.toArray e2) :: news) l1 q hq)
        · rcases hown q hq with e | e | e
          · rw [e]; exact .inl l1.2.2.1
          · rw [e]; exact .inl l1.2.2.2.1
          · exact .inr (Nat.lt_of_lt_of_le (hZ (fl, listOf #[] 0) (by k_mem)) e)
      have hR1 : ∀ q ∈ R, q.1 ≠ fl := fun q hq e => by
        rcases hRR q hq with z | z <;> rw [e] at z <;> omega
      have hR2 : ∀ q ∈ R, q.1 ≠ L' + 1 + 1 + 1 := fun q hq e => by
        rcases hRR q hq with z | z <;> rw [e] at z <;> omega
      have hR3 : ∀ q ∈ R, q.1 ≠ L' + 1 + 1 := fun q hq e => by
        rcases hRR q hq with z | z <;> rw [e] at z <;> omega
      have hnR : ∀ q ∈ news, q ∈ R := fun q hq => by rw [hR]; exact List.mem_append_left _ (List.mem_append_right _ (.tail _ (.tail _ (.tail _ (.tail _ hq)))))
      have P' : PIn R p dx nl rl h1 h2 t1 t2 vs rs e1 e2 := by
        rw [hR]
        exact ⟨List.mem_append_left _ (List.mem_append_right _ (.head _)), List.mem_append_left _ (List.mem_append_right _ (.tail _ (.head _))), List.mem_append_left _ (List.mem_append_right _ (.tail _ (.tail _ (.head _)))), List.mem_append_left _ (List.mem_append_right _ (.tail _ (.tail _ (.tail _ (.head _)))))⟩
      have rT1 : @LT.lt Nat _ rT L' := allLt_mem (l := (p, instObj 136 dx) :: (dx, dictOf [⟨h1, .str (Str.ofString "numbers") t1, .ref nl⟩, ⟨h2, .str (Str.ofString "rows") t2, .ref rl⟩] 2) :: (nl, listOf vs.toArray e1) :: (rl, listOf rs.toArray e2) :: news) l1 _ (.tail _ (.tail _ (.tail _ (.tail _ hT))))
      have rA1 : @LT.lt Nat _ rA L' := allLt_mem (l := (p, instObj 136 dx) :: (dx, dictOf [⟨h1, .str (Str.ofString "numbers") t1, .ref nl⟩, ⟨h2, .str (Str.ofString "rows") t2, .ref rl⟩] 2) :: (nl, listOf vs.toArray e1) :: (rl, listOf rs.toArray e2) :: news) l1 _ (.tail _ (.tail _ (.tail _ (.tail _ hA))))
      have rB1 : @LT.lt Nat _ rB L' := allLt_mem (l := (p, instObj 136 dx) :: (dx, dictOf [⟨h1, .str (Str.ofString "numbers") t1, .ref nl⟩, ⟨h2, .str (Str.ofString "rows") t2, .ref rl⟩] 2) :: (nl, listOf vs.toArray e1) :: (rl, listOf rs.toArray e2) :: news) l1 _ (.tail _ (.tail _ (.tail _ (.tail _ hB))))
      simp only [List.cons_append] at N₁
      rw [← hR] at N₁
      have N₂ : News g' L' h ((fl, listOf lv.toArray eF) :: (L' + 1 + 1 + 1, o1) :: (L' + 1 + 1, o2) :: (L' + 1, oC3) :: (rT, listOf #[.ref rA, .ref rB] f1) :: (rA, tup2 (.str (Str.ofString "word") a1) (.str (Str.ofString "GOTO") a2) f2) :: (rB, tup2 (.str (Str.ofString "number") b1) (.int g b2) f3) :: R) := news_in N₁ fun q hq => by
        rcases List.mem_cons.mp hq with rfl | hq
        · exact .head _
        rcases List.mem_cons.mp hq with rfl | hq
        · exact .tail _ (.head _)
        rcases List.mem_cons.mp hq with rfl | hq
        · exact .tail _ (.tail _ (.head _))
        rcases List.mem_cons.mp hq with rfl | hq
        · exact .tail _ (.tail _ (.tail _ (.head _)))
        refine .tail _ (.tail _ (.tail _ (.tail _ ?_)))
        rcases List.mem_cons.mp hq with rfl | hq
        · exact hnR _ hT
        rcases List.mem_cons.mp hq with rfl | hq
        · exact hnR _ hA
        rcases List.mem_cons.mp hq with rfl | hq
        · exact hnR _ hB
        exact hq
      clear N₁)
    case' finA => rintro h tk m₁ news₁ F₁ N₁ ⟨eF, lv, o1, o2, c1, c2, new, hm, q1, q2, rfl, hnew, hpa, hlv⟩)))
  refine wpAny_call ?_
  k_dflt (refine' code_defC ?k1 ?k2 ?k3 ?k4 ?k5 ?kA ?kF ?kK ?k6 ?k7 ?k8 ?k9 ?kB ?kD ?_ ?c2 ?c3 ?c4; (case kA => exact rfl); (case kF => exact rfl); (case kK => assumption); (case k1 => k_asm); (case k2 => k_asm); (case k3 => k_asm); (case k4 => k_asm); (case k5 => k_asm); (case k6 => k_is); (case k7 => k_is); (case k8 => ktr_room); (case k9 => exact BindsTo.of_eq rfl); (case kB => exact rfl); (case kD => decide +kernel); (case c2 => exact rfl); (case c3 => exact rfl); (case c4 => exact rfl); k_whole; intro g' L' h' tk' cells' FG' F' N' Y' B' X' T' l1; (try k_lt l1); (have hY := CellsAre.three Y'; obtain ⟨oC, oC2, oC3, hE', dC, dC2, dC3⟩ := hY; subst hE'; clear Y'); (try simp only [List.cons_append, List.nil_append] at N'); (try dsimp only); (try k_lift B'); (try k_fold))
  k_steps
  · refine hret fl lv new eF _ _ (by assumption) (news_in (by assumption) fun q hq => ?_) (by first | assumption | (refine allLt_of ?_; assumption) | exact (by assumption : _ < _ ∧ AllLt _ _).2 | exact (by assumption : _ < _ ∧ _ < _ ∧ AllLt _ _).2.2 | exact (by assumption : _ < _ ∧ _ < _ ∧ _ < _ ∧ AllLt _ _).2.2.2 | exact (by assumption : _ < _ ∧ _ < _ ∧ _ < _ ∧ _ < _ ∧ AllLt _ _).2.2.2.2 | exact (by assumption : _ < _ ∧ _ < _ ∧ _ < _ ∧ _ < _ ∧ _ < _ ∧ AllLt _ _).2.2.2.2.2 | exact (by assumption : _ < _ ∧ _ < _ ∧ _ < _ ∧ _ < _ ∧ _ < _ ∧ _ < _ ∧ AllLt _ _).2.2.2.2.2.2 | exact (by assumption : _ < _ ∧ _ < _ ∧ _ < _ ∧ _ < _ ∧ _ < _ ∧ _ < _ ∧ _ < _ ∧ AllLt _ _).2.2.2.2.2.2.2 | exact (by assumption : _ < _ ∧ _ < _ ∧ _ < _ ∧ _ < _ ∧ _ < _ ∧ _ < _ ∧ _ < _ ∧ _ < _ ∧ AllLt _ _).2.2.2.2.2.2.2.2) hnew ?_
    · simp only [List.mem_cons, List.mem_append] at hq ⊢
      grind
    · rw [List.take_of_length_le (by rw [List.length_zip]; omega)] at hpa
      exact hpa
  · have hwrR : ∀ b ∈ wr, ∃ o, (b, o) ∈ R := fun b hb => by
      obtain ⟨o, ho⟩ := hwo b hb
      exact ⟨o, by rw [hR]; exact List.mem_append_right _ ho⟩
    have hz : (ks.zip gs)[i]? = some (k, g) := by rw [List.getElem?_zip_eq_some]; exact ⟨hk1, hg1⟩
    refine' fendU (by assumption) (by assumption) ((fl, listOf lv.toArray eF) :: (L' + 1 + 1 + 1, _) :: (L' + 1 + 1, _) :: (L' + 1, oC3) :: (new ++ ((p, instObj 136 dx) :: (dx, dictOf [⟨h1, .str (Str.ofString "numbers") t1, .ref nl⟩, ⟨h2, .str (Str.ofString "rows") t2, .ref rl⟩] 2) :: (nl, listOf vs.toArray e1) :: (rl, listOf rs.toArray e2) :: news))) ?sub ?off ⟨eF, lv, _, _, _, _, new, ?m1, ?d1, ?d2, rfl, ?new, ?pa, ?len⟩
    case sub =>
      intro q hq
      rcases List.mem_append.mp hq with h | h
      · have : q ∈ R := by rw [hR]; exact List.mem_append_right _ h
        simp [this]
      rcases List.mem_cons.mp h with rfl | h
      · k_mem
      rcases List.mem_cons.mp h with rfl | h
      · k_mem
      rcases List.mem_cons.mp h with rfl | h
      · k_mem
      rcases List.mem_cons.mp h with rfl | h
      · k_mem
      have : q ∈ R := by rw [hR]; exact List.mem_append_left _ h
      simp [this]
    case off =>
      intro q hq
      rcases List.mem_cons.mp hq with rfl | hq
      · have z := hwr _ (.head _)
        exact z
      rcases List.mem_cons.mp hq with rfl | hq
      · have z := hwr _ (.tail _ (.head _))
        exact z
      rcases List.mem_cons.mp hq with rfl | hq
      · have z := hwr _ (.tail _ (.tail _ (.head _)))
        exact z
      rcases List.mem_cons.mp hq with rfl | hq
      · have z := hwr _ (.tail _ (.tail _ (.tail _ (.head _))))
        exact z
      exact hwr q (.tail _ (.tail _ (.tail _ (.tail _ hq))))
    case m1 => ((repeat' (first | exact if_pos rfl | refine (if_neg (by decide)).trans ?_)) <;> (first | (with_reducible assumption) | rfl))
    case d1 => assumption
    case d2 => assumption
    case new => exact hnew
    case pa => rw [take_snoc hz, lost_in hgk2]; exact hpa
    case len => omega
  · have hwrR : ∀ b ∈ wr, ∃ o, (b, o) ∈ R := fun b hb => by
      obtain ⟨o, ho⟩ := hwo b hb
      exact ⟨o, by rw [hR]; exact List.mem_append_right _ ho⟩
    have hz : (ks.zip gs)[i]? = some (k, g) := by rw [List.getElem?_zip_eq_some]; exact ⟨hk1, hg1⟩
    refine' fendU (by assumption) (by assumption) ((fl, listOf (lv ++ [Value.ref U]).toArray (eF + 1)) :: (L' + 1 + 1 + 1, _) :: (L' + 1 + 1, _) :: (L' + 1, oC3) :: (((U, tup2 (.int k u1) (.int g u2) eU) :: new) ++ ((p, instObj 136 dx) :: (dx, dictOf [⟨h1, .str (Str.ofString "numbers") t1, .ref nl⟩, ⟨h2, .str (Str.ofString "rows") t2, .ref rl⟩] 2) :: (nl, listOf vs.toArray e1) :: (rl, listOf rs.toArray e2) :: news))) ?sub ?off ⟨(eF + 1), (lv ++ [Value.ref U]), _, _, _, _, ((U, tup2 (.int k u1) (.int g u2) eU) :: new), ?m1, ?d1, ?d2, rfl, ?new, ?pa, ?len⟩
    case sub =>
      intro q hq
      rcases List.mem_append.mp hq with h | h
      · have : q ∈ R := by rw [hR]; exact List.mem_append_right _ h
        simp [this]
      rcases List.mem_cons.mp h with rfl | h
      · k_mem
      rcases List.mem_cons.mp h with rfl | h
      · k_mem
      rcases List.mem_cons.mp h with rfl | h
      · k_mem
      rcases List.mem_cons.mp h with rfl | h
      · k_mem
      rcases List.mem_cons.mp h with rfl | h
      · k_mem
      have : q ∈ R := by rw [hR]; exact List.mem_append_left _ h
      simp [this]
    case off =>
      intro q hq
      rcases List.mem_cons.mp hq with rfl | hq
      · have z := hwr _ (.head _)
        exact z
      rcases List.mem_cons.mp hq with rfl | hq
      · have z := hwr _ (.tail _ (.head _))
        exact z
      rcases List.mem_cons.mp hq with rfl | hq
      · have z := hwr _ (.tail _ (.tail _ (.head _)))
        exact z
      rcases List.mem_cons.mp hq with rfl | hq
      · have z := hwr _ (.tail _ (.tail _ (.tail _ (.head _))))
        exact z
      rcases List.mem_cons.mp hq with rfl | hq
      · intro hb
        obtain ⟨o, ho⟩ := hwrR _ hb
        exact Nat.lt_irrefl _ (allLt_mem hUR _ ho)
      exact hwr q (.tail _ (.tail _ (.tail _ (.tail _ hq))))
    case m1 => ((repeat' (first | exact if_pos rfl | refine (if_neg (by decide)).trans ?_)) <;> (first | (with_reducible assumption) | rfl))
    case d1 => assumption
    case d2 => assumption
    case new => (
      intro q hq
      rcases List.mem_cons.mp hq with rfl | hq
      · exact hU
      · exact hnew q hq)
    case pa => rw [take_snoc hz, lost_out hgk2]; exact PairsAre.snoc (hpa.sub fun q hq => .tail _ hq) ⟨U, u1, u2, eU, rfl, .head _⟩
    case len => rw [List.length_append, List.length_singleton]; omega
  · refine cend_of (by assumption) (by assumption) _ ?sub off ⟨[], rfl, .inr ⟨by first | rfl | trivial, .inl ⟨by assumption, rfl, rfl⟩⟩⟩
    case sub =>
      intro q hq
      simp only [List.nil_append, List.mem_append, List.mem_cons] at hq ⊢
      grind
  · obtain ⟨x1, x2, x3, x4, x5, x6, x7, x8, x9, x10, x11⟩ := (by assumption : @LT.lt Nat _ C _ ∧ @LT.lt Nat _ D₂ _ ∧ _)
    refine' cend_of (by assumption) (by assumption) _ ?sub ?off ⟨[(_, tup2 (.int k _) (.int g _) _)], rfl, .inr ⟨by first | rfl | trivial, .inr ⟨by assumption, _, _, _, _, x4, allLt_of (fun q hq => allLt_mem x11 q (List.mem_append_left _ hq)), rfl, rfl⟩⟩⟩
    case sub =>
      intro q hq
      rcases List.mem_cons.mp hq with rfl | h
      · k_mem
      rcases List.mem_cons.mp h with rfl | h
      · k_mem
      rcases List.mem_append.mp h with h | h
      · rcases List.mem_cons.mp h with rfl | h
        · k_mem
        · simp only [List.nil_append, List.mem_append, List.mem_cons] at h ⊢
          grind
      · simp [h]
    case off =>
      intro q hq
      rcases List.mem_cons.mp hq with rfl | hq
      · refine ⟨Nat.ne_of_gt x1, Nat.ne_of_gt x2, fun hm => ?_⟩
        obtain ⟨o, ho⟩ := hwo' _ hm
        exact Nat.lt_irrefl _ (allLt_mem x11 _ (List.mem_append_right _ ho))
      · exact off q hq
end
end
section
section
variable {w : World} {mean : ExcName → Option Value} {mg mb : Str → Option Value} {dp un : Nat} {gd : Option (List Code)} {cn : Str} {cs : Scope} {a : Addr} {ccd : Value} {cl : List (Str × Addr)} {outer : List Env} {A₀ : Around} {base h₀ : Heap} {L : Addr} {m : Str → Option Value} {s : Shared} {Q E : Value → Shared → Prop} {news : List (Addr × Obj)}
theorem fmod_lo {x b : Int} (h : 0 < b) : 0 ≤ x.fmod b := by rw [Int.fmod_eq_emod_of_nonneg x (by omega)]; exact Int.emod_nonneg x (by omega)
theorem fmod_hi {x b : Int} (h : 0 < b) : x.fmod b < b := by rw [Int.fmod_eq_emod_of_nonneg x (by omega)]; exact Int.emod_lt_of_pos x h
theorem ladled_spec {pt sp : Addr} {vs : List Value} {ns : List Int} {e1 e2 : Nat} {k many : Int} {t1 t2 : Tok}
    (B : Below A₀ base outer h₀) (F : Fr h₀ L s.heap m) (X : (hd.heap_39 w.params).In h₀) (N : News h₀ L s.heap news)
    (T : Top hd.view_39 Loo mean mg mb h₀) (hk : cs.kind = .function) (hdp : dp + 4 < recursionLimit) (hu : un + 8 < cLine)
    (hP : (pt, listOf #[.ref sp, .int k t1] e1) ∈ news) (hS : (sp, listOf vs.toArray e2) ∈ news) (hne : @Ne Nat sp pt) (hi : IntsAre vs ns) (hl : ns.length < 1000) (hk0 : 0 ≤ k) (hk1 : k < 1000) (hm0 : 0 < many) (hm1 : many < 1000)
    (hret : ∀ (r : Int) (t tk : Tok) e h' tk', 0 ≤ r → r < many → Fr h₀ L h' m → News h₀ L h' ((pt, listOf #[.ref sp, .int (k + 1) tk] e) :: news.filter fun q => decide (q.1 ≠ pt)) → Q (.int r t) {s with heap := h', toks := tk'}) :
    wpAny (model Pg w) (ktrTop dp un gd cn cs L a ccd cl outer) (call (.ref 223) [.ref pt, .int many t2]) Q E s := by
  have N' : News h₀ L s.heap ((pt, listOf #[.ref sp, .int k t1] e1) :: (sp, listOf vs.toArray e2) :: news.filter fun q => decide (q.1 ≠ pt)) := news_in N fun q hq => by
    rcases List.mem_cons.mp hq with rfl | hq
    · exact hP
    rcases List.mem_cons.mp hq with rfl | hq
    · exact hS
    exact (List.mem_filter.mp hq).1
  have hfil : ∀ q ∈ news.filter (fun q => decide (q.1 ≠ pt)), q.1 ≠ pt := fun q hq => by simpa using (List.mem_filter.mp hq).2
  clear N
  have hvl := hi.length
  k_with_none
  (k_with "eval Name" => (k_here; (with_reducible show wpAny _ _ (eval (Expr.Name _ _) (envOf _ _ _ _ _)) _ _ _); k_dflt (refine' ld ?nx1 ?nx2 ?_; (case nx1 => k_asm); (case nx2 => (first | (with_reducible assumption) | ((repeat' (first | exact if_pos rfl | refine (if_neg (by decide)).trans ?_)) <;> (with_reducible assumption)))); k_whole)))
  (k_with "eval Name" => (k_here; (with_reducible show wpAny _ _ (eval (Expr.Name _ _) (envOfC _ _ _ _ _)) _ _ _); k_dflt (refine' nameX_L ?nx1 ?nx2 ?_ ?nxa ?nxb; (case nx1 => k_asm); (case nxa => rfl); (case nxb => rfl); (case nx2 => (first | (with_reducible assumption) | ((repeat' (first | exact if_pos rfl | refine (if_neg (by decide)).trans ?_)) <;> (with_reducible assumption)))); k_whole)))
  (k_with "loadName" => (k_here; k_dflt (refine' ldn ?nx1 ?nx2 ?_; (case nx1 => k_asm); (case nx2 => (first | (with_reducible assumption) | ((repeat' (first | exact if_pos rfl | refine (if_neg (by decide)).trans ?_)) <;> (with_reducible assumption)))); k_whole)))
  (k_with "subscriptTail" => ((with_reducible show wpAny _ _ (subscriptTail _ _ (Value.ref _) (Value.int _ _)) _ _ _); first | k_dflt (refine' item_tupleT ?t ?a ?b ?c ?d ?_; (case t => exact News.isTup (by k_asm) (by k_mem)); (case a => decide); (case b => decide); (case c => rfl); (case d => rfl); k_whole) | (with_unfolding_all refine' item_litK ?k1 ?k2 ?k3 ?k4 ?_ ?k6; (case k1 => is_list); (case k2 => decide); (case k3 => decide); (case k4 => rfl); (case k6 => with_unfolding_all rfl); k_whole)))
  (k_with "subscriptTail Name Name ref int" => ((with_reducible show wpAny _ _ (subscriptTail _ _ (Value.ref _) (Value.int _ _)) _ _ _); first | k_dflt (refine' item_tupleT ?t ?a ?b ?c ?d ?_; (case t => exact News.isTup (by k_asm) (by k_mem)); (case a => decide); (case b => decide); (case c => rfl); (case d => rfl); k_whole) | (with_unfolding_all refine' item_litK ?k1 ?k2 ?k3 ?k4 ?_ ?k6; (case k1 => is_list); (case k2 => decide); (case k3 => decide); (case k4 => rfl); (case k6 => with_unfolding_all rfl); k_whole)))
  (k_with "subscriptTail Name Constant ref int" => ((with_reducible show wpAny _ _ (subscriptTail _ _ (Value.ref _) (Value.int _ _)) _ _ _); first | k_dflt (refine' item_tupleT ?t ?a ?b ?c ?d ?_; (case t => exact News.isTup (by k_asm) (by k_mem)); (case a => decide); (case b => decide); (case c => rfl); (case d => rfl); k_whole) | (with_unfolding_all refine' item_litK ?k1 ?k2 ?k3 ?k4 ?_ ?k6; (case k1 => is_list); (case k2 => decide); (case k3 => decide); (case k4 => rfl); (case k6 => with_unfolding_all rfl); k_whole)))
  refine wpAny_call ?_
  k_dflt cell_enter
  k_steps
  · exact hret _ _ _ _ _ _ (fmod_lo hm0) (fmod_hi hm0) (by assumption) (news_in (by assumption) (by kcj_all))
  · exact hret _ _ _ _ _ _ (fmod_lo hm0) (fmod_hi hm0) (by assumption) (news_in (by assumption) (by kcj_all))
end
end
section
section
variable {prog : Program} {w : World} {A : Around} {E : Value → Shared → Prop} {s : Shared} {h₀ : Heap} {L : Addr} {m : Str → Option Value} {env : Env}
open PySem.Spec PyProof.Rows.LCg
theorem small_of {n : Nat} (h : n < 1000) : Builtin.Range.small 0 (n : Int) 1 = true ∧ Builtin.Range.rangeSize 0 (n : Int) 1 = (n : Int) := by
  have e : Builtin.Range.rangeSize 0 (n : Int) 1 = (n : Int) := by
    unfold Builtin.Range.rangeSize
    by_cases q : (0 : Int) < n
    · simp [q]
      omega
    · have : n = 0 := by omega
      subst this
      decide
  refine ⟨?_, e⟩
  unfold Builtin.Range.small
  rw [e]
  simp [Builtin.Range.rangeFitsLong]
  omega
/-- over a range of the ledger -/
theorem comp_range {elt : PySem.Expr} {ifs : List PySem.Expr} {scope : Scope} {cl : List (Str × Addr)} {x : Str} {px : Pos} {r : Addr} {n : Nat} {b : Int} {t u v : Tok} {news : List (Addr × Obj)} {Fin : Shared → List Value → List (Addr × Obj) → Prop}
    (hh : A.handled = none) (F : Fr h₀ L s.heap m) (N : News h₀ L s.heap news) (hr : IsRange s.heap r 0 b 1 t u v) (hb : b = n) (hn : n < 1000) (hkind : scope.kind = .function) (hx : scope.names.lookup x = some .local)
    (J : Nat → List Value → List (Addr × Obj) → Prop) (hJ : J 0 [] news)
    (turn : ∀ i ti ys news₁ own C oC D m₂ h tk E', i < n → m₂ x = some (.int i ti) → NsObj oC m₂ → J i ys news₁ → ys.length ≤ i → Fr h₀ L h m → News h₀ L h ((C, oC) :: (D, lst ys) :: (news₁ ++ own)) →
      (∀ p ∈ news₁, p.1 ≠ C ∧ p.1 ≠ D ∧ p.1 ∉ [s.heap.objs.size]) → C ≠ D → (∀ b ∈ [s.heap.objs.size], ∃ o, (b, o) ∈ own) → CTurn prog w A h₀ L m env elt ifs scope cl [s.heap.objs.size] J s i ys own C oC D h tk E')
    (fin : ∀ g ys news', J n ys news' → Fin { s with heap := g } ys news') :
    wpAny (model prog w) A (pyIter (.ref r)) (CompAt prog w A h₀ L m env elt (.Name x px) ifs scope cl Fin) E s := by
  subst hb
  obtain ⟨hsm, hsz⟩ := small_of hn
  refine wpAny_pyIter_range hr hsm ?_
  rw [hsz]
  have up : ∀ b o, s.heap.get? b = some o → (s.heap.push { cls := .type "range_iterator", data := .fields #[rawInt 0, rawInt (n : Int), rawInt 1] }).get? b = some o := fun b o e => Heap.get?_push_of_some _ e
  have W := range_walks (prog := prog) (w := w) (I := s.heap.objs.size) hh 0 n
  refine ⟨s.heap.objs.size, [s.heap.objs.size], [s.heap.objs.size], n, _, _, _, news, fun i m₂ _ => i < n ∧ ∃ ti, m₂ x = some (.int i ti), J, True, (fun _ i h st b hb => by rw [List.mem_singleton.mp hb]; exact ⟨_, st⟩), rfl,
    KTurns.ofWalks W (fun _ _ _ _ _ _ hq => wpAny_pure hq), fun s' Q' E' st hq => W.self 0 s' Q' E' st hq, Nat.le_trans (Nat.le_of_lt hn) (Nat.le_of_ble_eq_true rfl),
    ?_, ?_, ?_, ?_, F.keeps up, N.grown up, ?_, hJ, ?_, ?_, fun ys news' hj => fin _ ys news' hj⟩
  · show IsRangeIter _ _ _ _ _
    simpa using Heap.get?_push_size s.heap (o := { cls := .type "range_iterator", data := .fields #[rawInt 0, rawInt (n : Int), rawInt 1] }) rfl
  · intro b hb
    show b < (s.heap.push _).objs.size
    rw [Heap.size_push, List.mem_singleton.mp hb]
    exact Nat.lt_succ_self _
  · intro hm; rw [List.mem_singleton] at hm; exact absurd F.ns.lt (hm ▸ Nat.lt_irrefl _)
  · intro b hb; rw [List.mem_singleton.mp hb]; exact next_is_new F
  · intro p hp hm; rw [List.mem_singleton] at hm; exact absurd (Heap.lt_size (N p hp).1) (hm ▸ Nat.lt_irrefl _)
  · intro i v' C mC s₃ Q' E' hC₀ hCL hCf hi hP hn' k
    obtain ⟨ti, rfl⟩ := hP
    exact asg_name hkind hx hn' (fun m₂ h' e _ => ⟨hi, ti, by rw [e]; simp⟩) k
  · rintro i ys news₁ own C oC D m₂ h tk E' hi ⟨_, ti, hm⟩ hoC hJ' hyl F' N' off hCD hwo
    exact turn i ti ys news₁ own C oC D m₂ h tk E' hi hm hoC hJ' hyl F' N' off hCD (hwo trivial)
end
section
variable {w : World} {mean : ExcName → Option Value} {mg mb : Str → Option Value} {dp un : Nat} {gd : Option (List Code)} {cn : Str} {cs : Scope} {a : Addr} {ccd : Value} {cl : List (Str × Addr)} {outer : List Env} {A₀ : Around} {base h₀ : Heap} {L : Addr} {m : Str → Option Value} {s : Shared} {Q E : Value → Shared → Prop} {news : List (Addr × Obj)}
noncomputable def stepped (new step : Int) (n : Nat) : List Int := (List.range n).map fun (j : Nat) => new + step * (j : Int)
theorem stepped_succ (new step : Int) (n : Nat) : stepped new step (n + 1) = stepped new step n ++ [new + step * (n : Int)] := by simp [stepped, List.range_succ]
theorem stepped_len (new step : Int) (n : Nat) : (stepped new step n).length = n := by simp [stepped]
theorem last_item {ys : List Value} {lk : List Int} (h : IntsAre ys lk) (hne : lk ≠ []) : ∃ t, seqIndex? (-1) ys.length = some (lk.length - 1) ∧ ys[lk.length - 1]? = some (.int (lk.getD (lk.length - 1) 0) t) := by
  have e := h.length
  have hp : 0 < lk.length := List.length_pos_iff.mpr hne
  have hi : lk.length - 1 < ys.length := by omega
  obtain ⟨t, ht⟩ := h.int_at (lk.length - 1) _ (List.getElem?_eq_getElem hi)
  refine ⟨t, ?_, by rw [List.getElem?_eq_getElem hi, ht]⟩
  unfold seqIndex?
  simp [e]
  omega
noncomputable def refusedL (lk ks : List Int) (new step : Int) : Prop := step < 1 ∨ new < 0 ∨ (lk ≠ [] ∧ new ≤ lk.getD (lk.length - 1) 0) ∨ (lk.length < ks.length ∧ 65529 < new + step * ((ks.length : Int) - (lk.length : Int) - 1))
theorem filter_yes {ks : List Int} {i : Nat} {k old : Int} (hk : ks[i]? = some k) (h : k < old) : ((ks.take (i + 1)).filter fun k => decide (k < old)) = ((ks.take i).filter fun k => decide (k < old)) ++ [k] := by
  rw [take_snoc hk, List.filter_append]
  simp [h]
theorem filter_no {ks : List Int} {i : Nat} {k old : Int} (hk : ks[i]? = some k) (h : ¬ k < old) : ((ks.take (i + 1)).filter fun k => decide (k < old)) = ((ks.take i).filter fun k => decide (k < old)) := by
  rw [take_snoc hk, List.filter_append]
  simp [h]
structure MarkJ : Prop where
  m : True
/-- a walk whose ways meet -/
theorem joinV {α : Type} {M : Model} {A : Around} {x : Sem α} {V : α → Prop} {Q : α → Shared → Prop} (_F : Fr h₀ L s.heap m) (_N : News h₀ L s.heap news)
    (h1 : ∀ J : α → Shared → Prop, MarkJ → (∀ v h' tk', V v → Fr h₀ L h' m → News h₀ L h' news → J v ⟨h', s.gens, s.drawn, tk', s.os⟩) → wpAny M A x J E s)
    (h2 : ∀ v h' tk', V v → Fr h₀ L h' m → News h₀ L h' news → Q v ⟨h', s.gens, s.drawn, tk', s.os⟩) : wpAny M A x Q E s :=
  wpAny_mono (h1 (fun v s' => ∃ h' tk', V v ∧ s' = ⟨h', s.gens, s.drawn, tk', s.os⟩ ∧ Fr h₀ L h' m ∧ News h₀ L h' news) ⟨trivial⟩ fun v h' tk' hv F N => ⟨h', tk', hv, rfl, F, N⟩)
    (fun v s' ⟨h', tk', hv, e, F', N'⟩ => e ▸ h2 v h' tk' hv F' N') fun _ _ e => e
theorem law_due_spec {nm : Addr} {vs : List Value} {ks lk : List Int} {e1 : Nat} {new old step : Int} {ta tb tc : Tok}
    (B : Below A₀ base outer h₀) (F : Fr h₀ L s.heap m) (X : (hd.heap_39 w.params).In h₀) (N : News h₀ L s.heap news)
    (T : Top hd.view_39 Loo mean mg mb h₀) (hk : cs.kind = .function) (hdp : dp + 30 < recursionLimit) (hu : un + 100 < cLine)
    (hN : (nm, listOf vs.toArray e1) ∈ news) (hi : IntsAre vs ks) (hlen : ks.length < 1000) (hs : ks.Pairwise (· < ·))
    (hlk : lk = ks.filter fun k => decide (k < old))
    (hretN : refusedL lk ks new step → ∀ h' tk', Fr h₀ L h' m → News h₀ L h' news → Q .none {s with heap := h', toks := tk'})
    (hretL : ¬ refusedL lk ks new step → ∀ D ys e h' tk', Fr h₀ L h' m → News h₀ L h' ((D, listOf ys.toArray e) :: news) → AllLt D news → IntsAre ys (lk ++ stepped new step (ks.length - lk.length)) → Q (.ref D) {s with heap := h', toks := tk'}) :
    wpAny (model Pg w) (ktrTop dp un gd cn cs L a ccd cl outer) (call (.ref 228) [.ref nm, .int new ta, .int old tb, .int step tc]) Q E s := by
  have N' : News h₀ L s.heap ((nm, listOf vs.toArray e1) :: news) := news_in N (by simp [hN])
  clear N
  have hvl := hi.length
  k_with_none
  (k_with "eval Name" => (k_here; (with_reducible show wpAny _ _ (eval (Expr.Name _ _) (envOf _ _ _ _ _)) _ _ _); k_dflt (refine' ld ?nx1 ?nx2 ?_; (case nx1 => k_asm); (case nx2 => (first | (with_reducible assumption) | ((repeat' (first | exact if_pos rfl | refine (if_neg (by decide)).trans ?_)) <;> (with_reducible assumption)))); k_whole)))
  (k_with "eval Name" => (k_here; (with_reducible show wpAny _ _ (eval (Expr.Name _ _) (envOfC _ _ _ _ _)) _ _ _); k_dflt (refine' nameX_L ?nx1 ?nx2 ?_ ?nxa ?nxb; (case nx1 => k_asm); (case nxa => rfl); (case nxb => rfl); (case nx2 => (first | (with_reducible assumption) | ((repeat' (first | exact if_pos rfl | refine (if_neg (by decide)).trans ?_)) <;> (with_reducible assumption)))); k_whole)))
  (k_with "loadName" => (k_here; k_dflt (refine' ldn ?nx1 ?nx2 ?_; (case nx1 => k_asm); (case nx2 => (first | (with_reducible assumption) | ((repeat' (first | exact if_pos rfl | refine (if_neg (by decide)).trans ?_)) <;> (with_reducible assumption)))); k_whole)))
  (k_with "eval ListComp" => (k_dflt (refine' ListComp_G _ ?cF ?cl ?cc ?ck ?cn ?_ ?cs; (case cF => k_asm); (case cl => with_unfolding_all rfl); (case cc => decide); (case ck => with_unfolding_all rfl); (case cn => decide); (case cs => intro _; with_unfolding_all rfl))))
  (k_with "exec Assign cons ListComp" => (k_dflt (refine' Assign_ListComp_G _ (by assumption) rfl ?csw ?cl ?cc ?ck ?cn ?cy ?cp ?_ ?cs; (case csw => with_unfolding_all rfl); (case cl => with_unfolding_all rfl); (case cc => decide); (case ck => with_unfolding_all rfl); (case cn => decide); (case cy => rfl); (case cp => rfl); (case cs => intro _; with_unfolding_all rfl))))
  (k_with "pyIter ref" => (k_dflt (
    refine' comp_list (vs := vs) rfl (by assumption) (by assumption) (l := nm) (by k_mem) (Nat.le_trans (Nat.le_of_lt (show vs.length < 1000 by omega)) (Nat.le_of_ble_eq_true rfl)) rfl rfl
      (fun i ys news₁ => news₁ = _ ∧ IntsAre ys ((ks.take i).filter fun k => decide (k < old)))
      ⟨rfl, .nil⟩ ?turnA ?finA
    case' turnA => (
      rintro i v ys news₁ own C oC D m₂ h tk E' hv hm hoC ⟨rfl, hys⟩ hyl F' N' off hCD hwo
      obtain ⟨k, tk1, rfl, hk1⟩ := hi.at i v hv)
    case' finA => (
      rintro g ys news' ⟨rfl, hys⟩
      rw [hvl, List.take_length] at hys
      rw [← hlk] at hys
      have hll : lk.length ≤ ks.length := by rw [hlk]; exact List.length_filter_le _ _
      intro D h tk F' N' off
      have hyl := hys.length
      have N₂ : News _ _ h ((D, W.listOf ys.toArray ys.length) :: _) := N'
      clear N'))))
  (k_with "subscriptTail Name UnaryOp ref int" => (k_dflt (
    obtain ⟨tl, hl1, hl2⟩ := last_item (lk := lk) hys (of_decide_eq_false (by assumption))
    refine' kde_neg ?k1 ?k2 ?k3 hl1 hl2 ?_ ?k6
    (case k1 => exact News.isList (by assumption) (by k_mem))
    (case k2 => decide)
    (case k3 => decide)
    (case k6 => with_unfolding_all rfl))))
  (k_with "pyIter ref" => (k_dflt (
    refine' comp_range (n := ks.length - lk.length) rfl (by assumption) (by assumption) (by assumption) (by omega) (by omega) rfl rfl
      (fun i ys news₁ => news₁ = _ ∧ IntsAre ys (stepped new step i))
      ⟨rfl, .nil⟩ ?_ ?_
    rintro i ti ys₂ news₁ own C oC' D₂ m₂ h tk E' hi2 hm hoC ⟨rfl, hys₂⟩ hyl₂ F' N' off hCD hwo
    rotate_left 1
    rintro g₂ ys₂ news' ⟨rfl, hys₂⟩
    intro D₂ h₂ tk₂ F₂ N₂ off₂)))
  (k_with "binaryOp Add ref ref" => (k_dflt (
    refine' kmk_add_ints (ns := lk) (ms := stepped new step (ks.length - lk.length)) ?F ?N ?a ?b hys hys₂ ?_ ?z
    (case F => k_asm)
    (case N => k_asm)
    (case a => exact News.isList (by assumption) (by k_mem))
    (case b => exact News.isList (by assumption) (by k_mem))
    (case z => exact Nat.le_trans (show lk.length + (stepped new step (ks.length - lk.length)).length ≤ 1000 by (rw [stepped_len]; omega)) (Nat.le_of_ble_eq_true rfl))
    intro D' ws' h' F' N' l1 hI')))
  (k_with "isTrue BoolOp" => ((fail_if_success (rename MarkJ => hM)); k_dflt (refine' joinV (V := fun b : Bool => (b = true ↔ (step < 1 ∨ new < 0 ∨ (lk ≠ [] ∧ new ≤ lk.getD (lk.length - 1) 0)))) (by assumption) (by assumption) ?_ ?_; intro J mj hJ; rotate_left 1; rintro bj h' tk' hbj F' N')))
  (k_with "isTrue BoolOp" => ((fail_if_success (rename MarkJ => hM)); (have hmark := hbj); k_dflt (refine' joinV (V := fun b : Bool => (b = true ↔ (lk.length < ks.length ∧ 65529 < new + step * ((ks.length : Int) - (lk.length : Int) - 1)))) (by assumption) (by assumption) ?_ ?_; intro J mj hJ2; rotate_left 1; rintro bk h' tk' hbk F' N')))
  refine wpAny_call ?_
  k_dflt (refine' code_defC ?k1 ?k2 ?k3 ?k4 ?k5 ?kA ?kF ?kK ?k6 ?k7 ?k8 ?k9 ?kB ?kD ?_ ?c2 ?c3 ?c4; (case kA => exact rfl); (case kF => exact rfl); (case kK => assumption); (case k1 => k_asm); (case k2 => k_asm); (case k3 => k_asm); (case k4 => k_asm); (case k5 => k_asm); (case k6 => k_is); (case k7 => k_is); (case k8 => ktr_room); (case k9 => exact BindsTo.of_eq rfl); (case kB => exact rfl); (case kD => decide +kernel); (case c2 => exact rfl); (case c3 => exact rfl); (case c4 => exact rfl); k_whole; intro g' L' h' tk' cells' FG' F' N' Y' B' X' T' l1; (try k_lt l1); (have hY := CellsAre.three Y'; obtain ⟨oC, oC2, oC3, hE', dC, dC2, dC3⟩ := hY; subst hE'; clear Y'); (try simp only [List.cons_append, List.nil_append] at N'); (try dsimp only); (try k_lift B'); (try k_fold))
  k_steps
  all_goals first
    | exact hJ2 _ _ _ ⟨fun _ => ⟨by omega, by assumption⟩, fun _ => rfl⟩ (by assumption) (news_in (by assumption) (by kcj_all))
    | (refine hJ2 _ _ _ ?_ (by assumption) (news_in (by assumption) (by kcj_all)); exact ⟨fun h => Bool.noConfusion h, fun h => absurd h (by rintro ⟨h, h'⟩; first | contradiction | omega)⟩)
    | exact hJ _ _ _ ⟨fun _ => (by first | exact .inl (by assumption) | exact .inr (.inl (by assumption)) | exact .inr (.inr ⟨of_decide_eq_false (by assumption), by assumption⟩)), fun _ => rfl⟩ (by assumption) (news_in (by assumption) (by kcj_all))
    | (refine hJ _ _ _ ?_ (by assumption) (news_in (by assumption) (by kcj_all)); exact ⟨fun h => Bool.noConfusion h, fun h => absurd h (by rintro (h | h | ⟨h, h'⟩) <;> first | contradiction | exact h (of_decide_eq_true (by assumption)) | omega)⟩)
    | exact hretN (by unfold refusedL; rcases hbj.mp (by assumption) with h | h | h; exact .inl h; exact .inr (.inl h); exact .inr (.inr (.inl h))) _ _ (by assumption) (news_in (by assumption) (by kcj_all))
    | exact hretN (by unfold refusedL; exact .inr (.inr (.inr (hbk.mp (by assumption))))) _ _ (by assumption) (news_in (by assumption) (by kcj_all))
    | exact hretL (fun hc => by have hj0 : bj = false := (by assumption); have hk0 : bk = false := (by assumption); rcases hc with h | h | h | h; exact Bool.noConfusion ((hbj.mpr (.inl h)).symm.trans hj0); exact Bool.noConfusion ((hbj.mpr (.inr (.inl h))).symm.trans hj0); exact Bool.noConfusion ((hbj.mpr (.inr (.inr h))).symm.trans hj0); exact Bool.noConfusion ((hbk.mpr h).symm.trans hk0)) _ _ _ _ _ (by assumption) (news_in (by assumption) (by kcj_all)) (allLt_of fun q hq => l1 q (by simp [hq])) (by assumption)
    | exact cend_of (by assumption) (by assumption) _ (by intro q hq; simp only [List.mem_append, List.mem_cons] at hq ⊢; grind) off ⟨rfl, by rw [stepped_succ]; exact hys₂.append (.cons _ _ .nil)⟩
    | exact cend_of (by assumption) (by assumption) _ (by intro q hq; simp only [List.mem_append, List.mem_cons] at hq ⊢; grind) off ⟨rfl, by rw [filter_yes hk1 (by assumption)]; exact hys.append (.cons _ _ .nil)⟩
    | exact cend_of (by assumption) (by assumption) _ (by intro q hq; simp only [List.mem_append, List.mem_cons] at hq ⊢; grind) off ⟨rfl, by rw [filter_no hk1 (by assumption)]; exact hys⟩
end
end
section
section
variable {M : Model} {A : Around} {E : Value → Shared → Prop} {env : Env}
variable {nm q : Str} {C N : Addr} {bs bm : List Value} {hdct : Bool} {sn : List Str} {sub : List Value} {ab : Bool} {col : Option Bool} {dd : Option Addr} {k0 k1 k2 k3 k5 : Option Value} {newId : String}
/-- raise of an exception object of an own class that has a dict of its own -/
theorem raiseStmt_own {s : Shared} {x : Sem Value} {Q : Flow → Shared → Prop} (hbase : bm.contains (.type "BaseException") = true) (hh : A.handled = none)
    (h : wpAny M A x (fun v s₁ => ∃ e t d, v = .ref e ∧ s₁.heap.get? C = some (excClassObj nm q C N bs bm hdct sn sub ab col dd k0 k1 k2 k3 k5 newId) ∧
      s₁.heap.get? e = some { cls := .ref C, dict := d, data := .fields #[.ref t, .none, .none, .none, .bool false, .none] } ∧ E (.ref e) s₁) E s) :
    wpAny M A (raiseStmt env (some x) none) Q E s := by
  unfold raiseStmt
  refine wp_then h fun v s₁ made => ?_
  rcases made with ⟨e, t, d, rfl, hC, he, hE⟩
  cases s₁
  have isExc : (Value.ref C :: bm).contains (.type "BaseException") = true := by simp only [List.contains_cons, hbase, Bool.or_true]
  repeat (first | with_reducible refine wpAny_loadPart_at he ?_ | with_reducible refine wpAny_loadPart_at hC ?_ | (with_reducible refine wpAny_isSubtype_exc hC ?_; rw [isExc]) | wp_step)
  exact wpAny_raiseNew_none hh hE
theorem Raise_own_made {s : Shared} {x : PySem.Expr} {pos : Pos} {Q : Flow → Shared → Prop} (hbase : bm.contains (.type "BaseException") = true) (hh : A.handled = none)
    (h : wpAny M A (eval x env) (fun v s₁ => ∃ e t d, v = .ref e ∧ s₁.heap.get? C = some (excClassObj nm q C N bs bm hdct sn sub ab col dd k0 k1 k2 k3 k5 newId) ∧
      s₁.heap.get? e = some { cls := .ref C, dict := d, data := .fields #[.ref t, .none, .none, .none, .bool false, .none] } ∧ E (.ref e) s₁) E s) :
    wpAny M A (exec (.Raise (some x) none pos) env) Q E s := by
  rw [arm_exec_Raise]
  have evaluated := wp_then (f := fun v => do standAt pos; pure v) h fun _ _ made => wpAny_bind (wpAny_standAt (wpAny_pure made))
  exact wpAny_bind (wpAny_standAt (raiseStmt_own hbase hh evaluated))
end
end
section
section
variable {M : Model} {A : Around} {E : Value → Shared → Prop} {s : Shared} {Q : Unit → Shared → Prop} {B : Heap} {env : Env} {outer l : List Env} {L e C D : Addr}
/-- the traceback's head, with its flight mark -/
noncomputable def TbIs (B : Heap) (e : Addr) (fl : Value) (h : Heap) (tb : Value) : Prop := ∃ T oT ts, tb = .ref T ∧ B.get? T = none ∧ T ≠ e ∧ h.get? T = some oT ∧ oT.data = .fields ts ∧ ts[3]? = some fl
/-- an exception object of an own class with a dict, in the air over the frames l -/
structure Air (B : Heap) (l : List Env) (e C D : Addr) (P : Heap → Value → Prop) (h : Heap) : Prop where
  stays : B.StaysIn h
  new : B.get? e = none
  frames : h.FunFrames B l
  there : ∃ oe vs tb, h.get? e = some oe ∧ oe.cls = .ref C ∧ oe.dict = some D ∧ oe.data = .fields vs ∧ vs[1]? = some tb ∧ P h tb
theorem Air.obj {P : Heap → Value → Prop} {h : Heap} (x : Air B l e C D P h) : ∃ ob, h.get? e = some ob ∧ ob.cls = .ref C := by
  obtain ⟨oe, _, _, he, hc, _⟩ := x.there
  exact ⟨oe, he, hc⟩
theorem air_entry {head : Value} {hadNext : Bool} {oe : Obj} {vs : Array Value} (hfr : A.frames = some (env :: outer)) (hf : env.frame = some L) (stays : B.StaysIn s.heap) (new : B.get? e = none) (frames : s.heap.FunFrames B (env :: outer))
    (he : s.heap.get? e = some oe) (hc : oe.cls = .ref C) (hD : oe.dict = some D) (hd : oe.data = .fields vs) (hsz : 1 < vs.size)
    (h : ∀ h', Air B (env :: outer) e C D (TbIs B e (rawInt L)) h' → s.heap.UpToSlots h' → Q () { s with heap := h' }) :
    wpAny M A (do let a ← frameOf env; let pl ← entryPlaceOf L hadNext; let b ← EntryCells.newEntry head a .none (rawInt L) .none pl; setField (.ref e) 1 b) Q E s := by
  have hene : e ∉ (env :: outer).filterMap (·.frame) := fun hm => by
    obtain ⟨_, o, ho, hnf⟩ := frames.mem hm
    exact hnf vs (by rw [he] at ho; cases ho; exact hd)
  refine wpAny_bind (wpAny_frameOf_fun hfr frames hf fun h₁ hs₁ => wpAny_bind (wpAny_entryPlaceOf fun pl hpl => ?_))
  unfold EntryCells.newEntry newFields
  refine wpAny_bind (wpAny_newObj_type ?_ (hpl.sizeOk5 _ _ _ _ _))
  generalize hoT : ({ cls := .type "traceback", dict := none, data := .fields ([head, .ref L, .none, rawInt L, .none] ++ (if pl.isEmpty then List.replicate 6 Value.none else pl)).toArray } : Obj) = oT
  have hT3 : ∃ ts, oT.data = .fields ts ∧ ts[3]? = some (rawInt L) := ⟨_, by rw [← hoT], by first | (simp; done) | (rcases hpl with rfl | ⟨_, _, _, _, _, _, _, rfl⟩ <;> simp)⟩
  have hTf : oT.isFreed = false := by rw [← hoT]; rfl
  have e₁ : h₁.get? e = some oe := (hs₁.2.1 e hene).trans he
  have e₂ : (h₁.push oT).get? e = some oe := Heap.get?_push_of_some _ e₁
  refine wpAny_setField e₂ hd hsz (h _ ?_ ?_)
  · have base₁ : B.StaysIn h₁ := fun b o hb => (hs₁.2.1 b fun hm => by rw [(frames.mem hm).1] at hb; cases hb).trans (stays b o hb)
    have old : ∀ b o, b ≠ e → h₁.get? b = some o → ((h₁.push oT).update e (Obj.mapFields (·.setIfInBounds 1 (Value.ref h₁.objs.size)))).get? b = some o := fun b o hb hg => by
      rw [Heap.get?_update_other _ _ (Ne.symm hb)]; exact Heap.get?_push_of_some _ hg
    have hTe : h₁.objs.size ≠ e := Nat.ne_of_gt (Heap.lt_size e₁)
    have hd₃ := Obj.data_mapFields hd (·.setIfInBounds 1 (Value.ref h₁.objs.size))
    obtain ⟨ts, hts, ht3⟩ := hT3
    refine ⟨fun b o hb => old b o (fun q => by rw [q, new] at hb; cases hb) (base₁ b o hb), new, frames.of_keeps fun b o hb hnf => ?_, ?_⟩
    · obtain ⟨sl, hs⟩ := hs₁.2.2 b o hb
      exact ⟨_, old b _ (fun q => by rw [q, he] at hb; cases hb; exact hnf vs hd) hs, rfl⟩
    · refine ⟨_, _, .ref h₁.objs.size, Heap.get?_update_self _ e₂ (Obj.isFreed_of_fields hd₃), (Obj.cls_mapFields _ _).trans hc, ?_, hd₃, by simp [hsz], h₁.objs.size, oT, ts, rfl, base₁.fresh, hTe, ?_, hts, ht3⟩
      · unfold Obj.mapFields
        split <;> exact hD
      · exact (Heap.get?_update_other _ _ (Ne.symm hTe)).trans (Heap.get?_push_size h₁ hTf)
  · intro b o hb hnf
    obtain ⟨sl, hs⟩ := hs₁.2.2 b o hb
    refine ⟨sl, ?_⟩
    rw [Heap.get?_update_other _ _ (fun q => by rw [← q, he] at hb; cases hb; exact hnf vs hd)]
    exact Heap.get?_push_of_some _ hs
/-- a frame notes itself in the traceback -/
theorem air_note (hfr : A.frames = some (env :: outer)) (hf : env.frame = some L) (x : Air B (env :: outer) e C D (fun h tb => tb = .none ∨ TbIs B e .none h tb) s.heap)
    (h : ∀ h', Air B (env :: outer) e C D (TbIs B e (rawInt L)) h' → s.heap.UpToSlots h' → Q () { s with heap := h' }) : wpAny M A (noteFrame (.ref e) env) Q E s := by
  obtain ⟨stays, new, frames, oe, vs, tb, he, hc, hD, hd, h1, htb⟩ := x
  have hsz := (Array.getElem?_eq_some_iff.mp h1).1
  unfold noteFrame
  simp only [hf]
  refine wpAny_bind (wpAny_field he hd h1 ?_)
  rcases htb with rfl | ⟨T, oT, ts, rfl, hnT, hTe, hT, hdT, h3⟩
  · rw [if_neg (by decide)]
    exact air_entry hfr hf stays new frames he hc hD hd hsz h
  · rw [if_pos (show (Value.ref T != Value.none) = true from by simp)]
    refine wpAny_bind (wpAny_field hT hdT h3 ?_)
    rw [if_neg (show ¬ ((Value.none == rawInt L) = true) from by simp [rawInt])]
    refine wpAny_bind (wpAny_setField hT hdT (Array.getElem?_eq_some_iff.mp h3).1 ?_)
    have other : ∀ b o, (B.get? b = some o ∨ b = e ∨ ∀ vs, o.data ≠ .fields vs) → s.heap.get? b = some o → (s.heap.update T (Obj.mapFields (·.setIfInBounds 3 Value.none))).get? b = some o := fun b o hb hg => by
      rw [Heap.get?_update_other _ _ fun q => ?_]
      · exact hg
      · subst q
        rcases hb with hb | hb | hb
        · rw [hnT] at hb; cases hb
        · exact hTe hb
        · rw [hT] at hg; cases hg; exact hb ts hdT
    exact air_entry hfr hf (fun b o hb => other b o (.inl hb) (stays b o hb)) new (frames.of_keeps fun b o hb hnf => ⟨o, other b o (.inr (.inr hnf)) hb, rfl⟩) (other e oe (.inr (.inl rfl)) he) hc hD hd hsz
      fun h' a u => h h' a (Heap.UpToSlots.trans (h₁ := s.heap) (fun b o hb hnf => ⟨o.slots, other b o (.inr (.inr hnf)) hb⟩) u)
/-- the mark is taken off -/
theorem air_off {fl : Value} (x : Air B l e C D (TbIs B e fl) s.heap) (h : ∀ h', Air B l e C D (TbIs B e .none) h' → s.heap.UpToSlots h' → Q () { s with heap := h' }) : wpAny M A (setFlight (.ref e) none) Q E s := by
  obtain ⟨stays, new, frames, oe, vs, tb, he, hc, hD, hd, h1, T, oT, ts, rfl, hnT, hTe, hT, hdT, h3⟩ := x
  have hsz := (Array.getElem?_eq_some_iff.mp h3).1
  have other : ∀ b o, (B.get? b = some o ∨ b = e ∨ ∀ vs, o.data ≠ .fields vs) → s.heap.get? b = some o → (s.heap.update T (Obj.mapFields (·.setIfInBounds 3 ((none : Option Addr).elim Value.none fun f => rawInt f)))).get? b = some o := fun b o hb hg => by
    rw [Heap.get?_update_other _ _ fun q => ?_]
    · exact hg
    · subst q
      rcases hb with hb | hb | hb
      · rw [hnT] at hb; cases hb
      · exact hTe hb
      · rw [hT] at hg; cases hg; exact hb ts hdT
  unfold setFlight
  refine wpAny_bind (wpAny_field he hd h1 ?_)
  rw [if_pos (show (Value.ref T != Value.none) = true from by simp)]
  refine wpAny_setField hT hdT hsz (h _ ?_ fun b o hb hnf => ⟨o.slots, other b o (.inr (.inr hnf)) hb⟩)
  exact ⟨fun b o hb => other b o (.inl hb) (stays b o hb), new, frames.of_keeps fun b o hb hnf => ⟨o, other b o (.inr (.inr hnf)) hb, rfl⟩, oe, vs, _, other e oe (.inr (.inl rfl)) he, hc, hD, hd, h1, T, _, _, rfl, hnT, hTe,
    Heap.get?_update_self _ hT (Obj.isFreed_of_fields (Obj.data_mapFields hdT _)), Obj.data_mapFields hdT _, by simp [hsz]⟩
/-- a frame is left -/
theorem air_leave (hfr : A.frames = some (env :: outer)) (hf : env.frame = some L) (x : Air B (env :: outer) e C D (fun h tb => tb = .none ∨ TbIs B e .none h tb) s.heap)
    (h : ∀ h', Air B outer e C D (TbIs B e .none) h' → s.heap.UpToSlots h' → Q () { s with heap := h' }) : wpAny M A (leaving env (.ref e)) Q E s := by
  unfold leaving
  refine wpAny_bind (air_note hfr hf x fun h₁ x₁ u₁ => air_off x₁ fun h₂ x₂ u₂ => h h₂ ⟨x₂.stays, x₂.new, ?_, x₂.there⟩ (u₁.trans u₂))
  obtain ⟨_, _, k⟩ := x₂.frames
  exact k
end
end
section
section
noncomputable abbrev bmE : List Value := [.type "Exception", .type "BaseException", .type "object"]
theorem lk_kind : typeLookup (.type "Exception") "kind" = pure none := by rw [typeLookup_type, builtinLookup_eq_fast]; kernel_rfl
/-- the class BasicError as the written part has it -/
structure Cls33 (h : Heap) (nm q : Str) (N : Addr) (bs : List Value) (sn : List Str) (sub : List Value) (ab : Bool) (col : Option Bool) (dd : Option Addr) (k0 k1 k2 k3 k5 : Option Value) (mN : Str → Option Value) : Prop where
  obj : h.get? 33 = some (excClassObj nm q 33 N bs bmE true sn sub ab col dd k0 k1 k2 k3 k5 "Exception.__new__")
  ns : h.Ns N mN
  init : mN "__init__" = some (.ref 30)
  noKind : mN "kind" = none
  noSet : mN "__setattr__" = none
  noGet : mN "__getattribute__" = none
  noMiss : mN "__getattr__" = none
theorem cls33 {w : World} {h : Heap} (X : (hd.heap_39 w.params).In h) : ∃ nm q N bs sn sub ab col dd k0 k1 k2 k3 k5 mN, Cls33 h nm q N bs sn sub ab col dd k0 k1 k2 k3 k5 mN := by
  have e := X 33 _ (by k_is)
  have n := X 32 _ (by k_is)
  refine ⟨_, _, _, _, _, _, _, _, _, _, _, _, _, _, _, e, ⟨_, _, _, n, rfl, ?_, fun _ => rfl⟩, ?_, ?_, ?_, ?_, ?_⟩
  · intro x hx
    simp only [List.mem_toArray, List.mem_cons, List.not_mem_nil, or_false] at hx
    rcases hx with rfl | rfl | rfl | rfl | rfl | rfl <;> exact ⟨_, _, rfl⟩
  · kernel_rfl
  · kernel_rfl
  · kernel_rfl
  · kernel_rfl
  · kernel_rfl
variable {prog : Program} {w : World} {A : Around} {E : Value → Shared → Prop} {h : Heap} {g : Array GenState} {d : Drawn} {t : Nat} {os : OsState} {e : Addr} {mA : Str → Option Value}
  {nm q : Str} {N : Addr} {bs : List Value} {sn : List Str} {sub : List Value} {ab : Bool} {col : Option Bool} {dd : Option Addr} {k0 k1 k2 k3 k5 : Option Value} {mN : Str → Option Value}
/-- what self.kind = v does to an object that has no dict yet: the dict is new -/
noncomputable def KindSet (e : Addr) (o : Obj) (v : Value) (h h' : Heap) : Prop := h'.get? e = some { o with dict := some h.objs.size } ∧ h'.Ns1 h.objs.size (fun y => if y = "kind" then some v else none) ∧ ∀ b o', b ≠ e → h.get? b = some o' → h'.get? b = some o'
theorem kind_set_entry {v : Value} {tk : Tok} {o : Obj} {Q : Fin → Shared → Prop} (K : Cls33 h nm q N bs sn sub ab col dd k0 k1 k2 k3 k5 mN) (hx : h.get? e = some o) (hc : o.cls = .ref 33) (hnc : ∀ c, o.data ≠ .cls c) (hdn : o.dict = none)
    (hq : ∀ h' tk', KindSet e o v h h' → Q (.done (.ret .none)) ⟨h', g, d, tk', os⟩) :
    wpAny (model prog w) A (Builtin.«object.__setattr__» ⟨[.ref e, .str "kind" tk, v], []⟩) Q E ⟨h, g, d, t, os⟩ := by
  have hC := K.obj
  have hpass := F.store_Exception.passes (.ref e)
  unfold Builtin.«object.__setattr__»
  repeat (first | rw [refuse_eq] | (rw [refuseLoop_ref, hpass]) | (with_reducible refine wpAny_loadPart_at hx ?_; rw [hc]) | with_reducible refine wpAny_mroOf_exc hC ?_ | (with_reducible refine wpAny_typeLookup_exc hC K.ns F.store_Exception.mro lk_kind ?_; rw [K.noKind]) | wp_step)
  rw [hdn, if_neg (by simp [typeHasDict])]
  split
  · rename_i hcd
    cases hcd
  split
  · rename_i c hcd
    exact absurd hcd (hnc c)
  refine wpAny_bind (wpAny_alloc' (wpAny_bind (wpAny_update' (Heap.get?_push_of_some _ hx) (wpAny_pure ?_))))
  show wpAny _ _ (Builtin.ObjectAttr.storeInDict h.objs.size (.str "kind" tk) "kind" v) _ _ _
  generalize hG : ((h.push { cls := .type "dict", data := .dict #[] }).update e fun o => { cls := o.cls, dict := some h.objs.size, data := o.data, slots := o.slots }) = G
  have hes : e ≠ h.objs.size := Nat.ne_of_lt (Heap.lt_size hx)
  have gd : G.get? h.objs.size = some { cls := .type "dict", data := .dict #[] } := by
    rw [← hG]; exact (Heap.get?_update_ne _ _ _ _ hes.symm).trans (Heap.get?_push_at rfl rfl)
  have ge : G.get? e = some { o with dict := some h.objs.size } := by
    rw [← hG]
    refine Heap.get?_update_self _ (Heap.get?_push_of_some _ hx) ?_
    have hfr := (Heap.get?_some_iff.mp hx).2
    obtain ⟨oc, od, odt, osl⟩ := o
    cases odt <;> first | rfl | exact hfr
  have go : ∀ b o', b ≠ e → h.get? b = some o' → G.get? b = some o' := fun b o' hb hg => by
    rw [← hG]; exact (Heap.get?_update_ne _ _ _ _ hb).trans (Heap.get?_push_of_some _ hg)
  unfold Builtin.ObjectAttr.storeInDict Builtin.ObjectAttr.newKeyGuard
  refine wpAny_bind (wpAny_pure (wpAny_bind (wpAny_nsSet1 (Heap.Ns1.of_empty ⟨_, #[], _, gd, rfl, fun e he => absurd he (by simp), fun _ => rfl⟩) fun h' hn' hs => ?_)))
  obtain ⟨oD, esD, epD, hoD, hdD, hcD⟩ := hn'.count (Within.cons "kind" v Within.nil)
  refine wpAny_bind (wpAny_lookBehind hoD (by rw [hdD]; exact pastItsLine_dict (Nat.le_trans hcD (by rw [List.length_cons, List.length_nil, sizeLine_eq]; omega))) ?_)
  wp_walk
  exact hq h' _ ⟨(hs.2 e hes).trans ge, hn', fun b o' hb hg => (hs.2 b (Nat.ne_of_lt (Heap.lt_size hg))).trans (go b o' hb hg)⟩
theorem kind_set_call {sa owner : String} (SF : StoreFacts "Exception" bmE sa owner) {v : Value} {tk : Tok} {o : Obj} {R : Result → Shared → Prop} (K : Cls33 h nm q N bs sn sub ab col dd k0 k1 k2 k3 k5 mN) (hx : h.get? e = some o) (hc : o.cls = .ref 33) (hnc : ∀ c, o.data ≠ .cls c) (hdn : o.dict = none)
    (hq : ∀ h' tk', KindSet e o v h h' → R (.ok (.ret .none)) ⟨h', g, d, tk', os⟩) :
    codeAny (model prog w) A (.call (.builtin sa) ⟨[.ref e, .str "kind" tk, v], []⟩) R ⟨h, g, d, t, os⟩ :=
  codeAny_call_builtin SF.slot.plain SF.entry (wpAny_check_sa SF K.obj hx hc (kind_set_entry K hx hc hnc hdn hq))
/-- self.kind = v -/
theorem kind_set {v : Value} {o : Obj} {Q : Unit → Shared → Prop} (K : Cls33 h nm q N bs sn sub ab col dd k0 k1 k2 k3 k5 mN) (hx : h.get? e = some o) (hc : o.cls = .ref 33) (hnc : ∀ c, o.data ≠ .cls c) (hdn : o.dict = none)
    (hq : ∀ h' tk', KindSet e o v h h' → Q () ⟨h', g, d, tk', os⟩) : wpAny (model prog w) A (setAttr (.ref e) "kind" v) Q E ⟨h, g, d, t, os⟩ := by
  have hC := K.obj
  have f3 := F.store_Exception.slot.bind (.ref e)
  unfold setAttr callSpecial? specialOf
  repeat (any_goals (first | assumption | (with_reducible refine wpAny_loadPart_at hx ?_; rw [hc]) | (with_reducible refine wpAny_typeLookup_exc hC K.ns F.store_Exception.mro F.store_Exception.slot.lookup ?_; rw [K.noSet]) | wp_step))
  refine kind_set_call F.store_Exception K hx hc hnc hdn fun h' tk' I => ?_
  repeat (any_goals (first | assumption | wp_step))
  exact hq h' tk' I
theorem kind_check {M : Model} {nameV : Value} {o : Obj} {Q : Unit → Shared → Prop} (K : Cls33 h nm q N bs sn sub ab col dd k0 k1 k2 k3 k5 mN) (hx : h.get? e = some o) (hc : o.cls = .ref 33) (hq : Q () ⟨h, g, d, t, os⟩) :
    wpAny M A (checkBuiltinCall "BaseException.__getattribute__" ⟨[.ref e, nameV], []⟩) Q E ⟨h, g, d, t, os⟩ := by
  have hC := K.obj
  have hk : builtinKind "BaseException.__getattribute__" = some .slot := by decide +kernel
  have hsplit : splitId "BaseException.__getattribute__" = some ("BaseException", "__getattribute__") := by decide +kernel
  have hcB : (Value.ref 33 :: bmE).contains (.type "BaseException") = true := by decide +kernel
  have ha := F.args_bexc_ga (.ref e) nameV
  simp only [checkBuiltinCall, hk, hsplit]
  refine wpAny_bind ?_
  unfold isInstance
  repeat (first | (with_reducible refine wpAny_loadPart_at hx ?_; rw [hc]) | (with_reducible refine wpAny_isSubtype_exc hC ?_; rw [hcB]) | wp_step)
  exact hq
end
end
section
section
variable {w : World} {mean : ExcName → Option Value} {mg mb : Str → Option Value} {dp un : Nat} {gd : Option (List Code)} {cn : Str} {cs : Scope} {a : Addr} {ccd : Value} {cl : List (Str × Addr)} {outer : List Env} {A₀ : Around} {base h₀ : Heap} {L : Addr} {m : Str → Option Value} {s : Shared} {Q E : Value → Shared → Prop} {news : List (Addr × Obj)}
open PySem.Spec PyProof.Rows.LCg
/-- an exception object of BasicError, made -/
noncomputable abbrev excO (TA : Addr) (D : Option Addr) : Obj := { cls := .ref 33, dict := D, data := .fields #[.ref TA, .none, .none, .none, .bool false, .none] }
theorem exc_set {prog : Program} {A : Around} {v : Value} {e TA : Addr} {Q : Unit → Shared → Prop} (F : Fr h₀ L s.heap m) (X : (hd.heap_39 w.params).In h₀) (N : News h₀ L s.heap ((e, excO TA none) :: news)) (hfr : ∀ q ∈ news, q.1 ≠ e)
    (hQ : ∀ D oD h' tk', Fr h₀ L h' m → News h₀ L h' ((e, excO TA (some D)) :: (D, oD) :: news) → (∀ q ∈ news, q.1 ≠ D) → e ≠ D → NsObj oD (fun y => if y = "kind" then some v else none) → Q () { s with heap := h', toks := tk' }) :
    wpAny (model prog w) A (setAttr (.ref e) "kind" v) Q E s := by
  obtain ⟨nm, q, Ns, bs, sn, sub, ab, col, dd, k0, k1, k2, k3, k5, mN, K⟩ := cls33 X
  have KS : Cls33 s.heap nm q Ns bs sn sub ab col dd k0 k1 k2 k3 k5 mN := ⟨F.keep _ _ K.obj, K.ns.keeps F.keep, K.init, K.noKind, K.noSet, K.noGet, K.noMiss⟩
  have he := N _ (.head _)
  obtain ⟨hp, g, d, t, os⟩ := s
  refine kind_set KS he.1 rfl (fun c => by simp) rfl fun h' tk' I => ?_
  obtain ⟨i1, i2, i3⟩ := I
  obtain ⟨oD, hoD, hnD⟩ := ns_obj i2.ns
  have sz : ∀ b o, h₀.get? b = some o → b ≠ e := fun b o hb q => by rw [q, he.2.2] at hb; cases hb
  refine hQ hp.objs.size oD h' tk' ⟨F.ns.at' fun o => i3 L o (Ne.symm he.2.1), fun b o hb => i3 b o (sz b o hb) (F.keep b o hb), F.above⟩ ?_ (fun p hp' => Nat.ne_of_lt (Heap.lt_size (N p (.tail _ hp')).1)) (Nat.ne_of_lt (Heap.lt_size he.1)) hnD
  intro p hp'
  rcases List.mem_cons.mp hp' with rfl | hp'
  · exact ⟨i1, he.2⟩
  rcases List.mem_cons.mp hp' with rfl | hp'
  · exact ⟨hoD, Nat.ne_of_gt F.ns.lt, none_at_size F⟩
  · exact ⟨i3 _ _ (hfr p hp') (N p (.tail _ hp')).1, (N p (.tail _ hp')).2⟩
theorem init_spec {k : Str} {tk : Tok} {e TA : Addr} {rest : List (Addr × Obj)}
    (B : Below A₀ base outer h₀) (F : Fr h₀ L s.heap m) (X : (hd.heap_39 w.params).In h₀) (N : News h₀ L s.heap news)
    (T : Top hd.view_39 Loo mean mg mb h₀) (hk : cs.kind = .function) (hdp : dp + 8 < recursionLimit) (hu : un + 20 < cLine) (hn : news = (e, excO TA none) :: rest) (hfr : ∀ q ∈ rest, q.1 ≠ e)
    (hret : ∀ D oD h' tk', Fr h₀ L h' m → News h₀ L h' ((e, excO TA (some D)) :: (D, oD) :: rest) → (∀ q ∈ rest, q.1 ≠ D) → e ≠ D → NsObj oD (fun y => if y = "kind" then some (.str k tk) else none) → Q .none {s with heap := h', toks := tk'}) :
    wpAny (model Pg w) (ktrTop dp un gd cn cs L a ccd cl outer) (call (.ref 30) [.ref e, .str k tk]) Q E s := by
  subst hn
  k_with_none
  (k_with "eval Name" => (k_here; (with_reducible show wpAny _ _ (eval (Expr.Name _ _) (envOf _ _ _ _ _)) _ _ _); k_dflt (refine' ld ?nx1 ?nx2 ?_; (case nx1 => k_asm); (case nx2 => (first | (with_reducible assumption) | ((repeat' (first | exact if_pos rfl | refine (if_neg (by decide)).trans ?_)) <;> (with_reducible assumption)))); k_whole)))
  (k_with "eval Name" => (k_here; (with_reducible show wpAny _ _ (eval (Expr.Name _ _) (envOfC _ _ _ _ _)) _ _ _); k_dflt (refine' nameX_L ?nx1 ?nx2 ?_ ?nxa ?nxb; (case nx1 => k_asm); (case nxa => rfl); (case nxb => rfl); (case nx2 => (first | (with_reducible assumption) | ((repeat' (first | exact if_pos rfl | refine (if_neg (by decide)).trans ?_)) <;> (with_reducible assumption)))); k_whole)))
  (k_with "loadName" => (k_here; k_dflt (refine' ldn ?nx1 ?nx2 ?_; (case nx1 => k_asm); (case nx2 => (first | (with_reducible assumption) | ((repeat' (first | exact if_pos rfl | refine (if_neg (by decide)).trans ?_)) <;> (with_reducible assumption)))); k_whole)))
  (k_with "setAttr ref" => (k_dflt (refine' exc_set (TA := TA) ?kF ?kX ?kN hfr ?_; (case kF => k_asm); (case kX => k_asm); (case kN => k_asm); intro D oD h' tk' F' N' offD hD hoD)))
  refine wpAny_call ?_
  k_dflt cell_enter
  k_steps
  exact hret D oD _ _ (by assumption) (by assumption) offD hD hoD
theorem under_make {x : Value} : ((ktrTop dp un gd cn cs L a ccd cl outer) : Around).under (.builtin "type.__call__" ⟨[.ref 33, x], []⟩) = ktrTop (dp + 1) (un + 1) gd cn cs L a ccd cl outer := by
  rfl
/-- BasicError(k) -/
theorem exc_made {k : Str} {tk : Tok}
    (B : Below A₀ base outer h₀) (F : Fr h₀ L s.heap m) (X : (hd.heap_39 w.params).In h₀) (N : News h₀ L s.heap news)
    (T : Top hd.view_39 Loo mean mg mb h₀) (hk : cs.kind = .function) (hdp : dp + 10 < recursionLimit) (hu : un + 30 < cLine)
    (hret : ∀ e D TA oD h' tk', Fr h₀ L h' m → News h₀ L h' ((e, excO TA (some D)) :: (D, oD) :: news) → (∀ q ∈ (D, oD) :: news, q.1 ≠ e) → (∀ q ∈ news, q.1 ≠ D) → NsObj oD (fun y => if y = "kind" then some (.str k tk) else none) → Q (.ref e) {s with heap := h', toks := tk'}) :
    wpAny (model Pg w) (ktrTop dp un gd cn cs L a ccd cl outer) (call (.ref 33) [.str k tk]) Q E s := by
  obtain ⟨nm, q, Ns, bs, sn, sub, ab, col, dd, k0, k1, k2, k3, k5, mN, K⟩ := cls33 X
  have f30 := X 30 _ (by k_is)
  obtain ⟨hp, g, d, t, os⟩ := s
  refine wpAny_call_exc_init PySem.F.excBase_Exception (F.keep _ _ K.obj) (K.ns.keeps F.keep) K.init (F.keep _ _ f30) rfl (fun h' e hm => ?_) (Nat.le_of_ble_eq_true rfl)
  obtain ⟨TA, he, _, _⟩ := hm.there
  have hfr : ∀ q ∈ news, q.1 ≠ e := fun q hq z => by
    have := (N q hq).1
    rw [z] at this
    exact absurd this (by rw [hm.new]; simp)
  have F' : Fr h₀ L h' m := F.keeps hm.keeps
  have N' : News h₀ L h' ((e, excO TA none) :: news) := fun q hq => by
    rcases List.mem_cons.mp hq with rfl | hq
    · refine ⟨he, fun z => ?_, ?_⟩
      · have := F.ns.lt
        obtain ⟨o, ho, _⟩ := ns_obj F.ns
        rw [← z] at ho
        exact absurd ho (by rw [hm.new]; simp)
      · cases hq : h₀.get? e with
        | none => rfl
        | some o => have := F.keep e o hq; rw [show ({ heap := hp, gens := g, drawn := d, toks := t, os := os } : Shared).heap.get? e = none from hm.new] at this; cases this
    · exact ⟨hm.keeps _ _ (N q hq).1, (N q hq).2⟩
  rw [under_make]
  refine init_spec B F' X N' T hk (by omega) (by omega) rfl hfr fun D oD h'' tk' F'' N'' offD hD hoD => ⟨rfl, ?_⟩
  refine hret e D TA oD h'' tk' F'' N'' (fun q hq => ?_) offD hoD
  rcases List.mem_cons.mp hq with rfl | hq
  · exact Ne.symm hD
  · exact hfr q hq
end
end
section
section
open PySem.Spec PyProof.Rows.LCg
variable {M : Model} {A : Around} {E : Value → Shared → Prop} {s : Shared} {Q : Unit → Shared → Prop} {base g G h : Heap} {env : Env} {outer l : List Env} {L e C D TA : Addr} {m : Str → Option Value} {news : List (Addr × Obj)}
/-- an exception on its way over the frames l; what the ledger had stands -/
noncomputable def Thrown (base : Heap) (l : List Env) (e D : Addr) (news : List (Addr × Obj)) (h : Heap) : Prop :=
  ∃ B, base.StaysIn B ∧ (∀ q ∈ news, B.get? q.1 = some q.2 ∧ base.get? q.1 = none) ∧ Air B l e 33 D (TbIs B e .none) h
theorem Thrown.sub {news' : List (Addr × Obj)} (x : Thrown base l e D news h) (hs : ∀ q ∈ news', q ∈ news) : Thrown base l e D news' h :=
  let ⟨B, b1, b2, b3⟩ := x; ⟨B, b1, fun q hq => b2 q (hs q hq), b3⟩
/-- the frame that raised is left -/
theorem throw_first (K : Below A base outer g) (F : Fr g L s.heap m) (N : News g L s.heap ((e, excO TA (some D)) :: news)) (hfr : ∀ q ∈ news, q.1 ≠ e) (hf : env.frame = some L) (hk : env.scope.kind ≠ .module)
    (hQ : ∀ h', Thrown base outer e D news h' → g.UpToSlots h' → Q () { s with heap := h' }) : wpAny M (A.deeper env) (leaving env (.ref e)) Q E s := by
  have he := N _ (.head _)
  have hL : base.get? L = none := fresh_of_stays K.stays (kts_self F)
  have fr0 : s.heap.FunFrames base (env :: outer) := by
    obtain ⟨o, es, ep, ho, hd, _⟩ := F.ns
    exact ⟨hk, ⟨L, o, hf, hL, ho, fun vs q => by rw [hd] at q; cases q⟩, K.frames.of_keeps fun b o e _ => ⟨o, F.keep b o e, rfl⟩⟩
  have hin : ∀ b, b ∈ (env :: outer).filterMap (·.frame) → b ∈ e :: (env :: outer).filterMap (·.frame) := fun b hb => .tail _ hb
  have frs : ∀ b, b ∈ (env :: outer).filterMap (·.frame) → base.get? b = none ∧ ∀ o, s.heap.get? b = some o → (∀ vs, o.data ≠ .fields vs) ∧ (b = L ∨ ∃ o', g.get? b = some o') := fun b hb => by
    refine ⟨(fr0.mem hb).1, fun o ho => ⟨?_, ?_⟩⟩
    · obtain ⟨_, o', ho', hn⟩ := fr0.mem hb
      rw [ho] at ho'; cases ho'; exact hn
    · obtain ⟨env', he', hfe⟩ := List.mem_filterMap.mp hb
      rcases List.mem_cons.mp he' with rfl | he'
      · exact .inl (Option.some.inj (hfe.symm.trans hf))
      · obtain ⟨_, o', ho', _⟩ := K.frames.mem (List.mem_filterMap.mpr ⟨env', he', hfe⟩)
        exact .inr ⟨o', ho'⟩
  have eoff : base.get? e = none := fresh_of_stays K.stays he.2.2
  have st : base.StaysIn (hideAll s.heap (e :: (env :: outer).filterMap (·.frame))) := fun b o q => hideAll_get _ (F.keep b o (K.stays b o q)) fun hm => by
    rcases List.mem_cons.mp hm with rfl | hm
    · rw [eoff] at q; cases q
    · rw [(frs b hm).1] at q; cases q
  have hl : ∀ q ∈ news, (hideAll s.heap (e :: (env :: outer).filterMap (·.frame))).get? q.1 = some q.2 ∧ base.get? q.1 = none := fun q hq => by
    have hN := N q (.tail _ hq)
    refine ⟨hideAll_get _ hN.1 fun hm => ?_, fresh_of_stays K.stays hN.2.2⟩
    rcases List.mem_cons.mp hm with z | hm
    · exact hfr q hq z
    · rcases ((frs _ hm).2 _ hN.1).2 with z | ⟨o', z⟩
      · exact hN.2.1 z
      · rw [hN.2.2] at z; cases z
  refine air_leave (B := hideAll s.heap (e :: (env :: outer).filterMap (·.frame))) (C := 33) (D := D) (Around.frames_deeper K.stack) hf
    ⟨fun b o q => of_hideAll _ q, hideAll_none _ (.head _), funFrames_hide fr0 fun env' he' b hb => hin b (List.mem_filterMap.mpr ⟨env', he', hb⟩), _, _, .none, he.1, rfl, rfl, rfl, rfl, .inl rfl⟩ fun h' x u => ?_
  exact hQ h' ⟨_, st, hl, x⟩ ((Heap.UpToSlots.of_keeps F.keep).trans u)
/-- a frame in between is left -/
theorem throw_next (K : Below A base outer g) (F : Fr g L G m) (R : Thrown base (env :: outer) e D news s.heap) (hsm : G.UpToSlots s.heap) (hf : env.frame = some L)
    (hQ : ∀ h', Thrown base outer e D news h' → g.UpToSlots h' → Q () { s with heap := h' }) : wpAny M (A.deeper env) (leaving env (.ref e)) Q E s := by
  obtain ⟨B, b1, b2, x⟩ := R
  exact air_leave (Around.frames_deeper K.stack) hf ⟨x.stays, x.new, x.frames, let ⟨oe, vs, tb, y1, y2, y3, y4, y5, y6⟩ := x.there; ⟨oe, vs, tb, y1, y2, y3, y4, y5, .inr y6⟩⟩ fun h' x' u =>
    hQ h' ⟨B, b1, b2, x'⟩ ((Heap.UpToSlots.of_keeps F.keep).trans (hsm.trans u))
end
section
open PySem.Spec PyProof.Rows.LCg
variable {prog : Program} {w : World} {A : Around} {E : Value → Shared → Prop} {s : Shared} {h₀ G : Heap} {outer : List Env} {L e D a : Addr} {m : Str → Option Value} {news : List (Addr × Obj)} {cn : Str} {cs : Scope} {ccd : Value} {cl : List (Str × Addr)}
  {n : Str} {b₀ : Stmt} {suite : List Stmt} {pos np : Pos} {rest : List ExceptHandler} {Q : Flow → Shared → Prop} {mean : ExcName → Option Value} {mg mb : Str → Option Value}
/-- caught as BasicError in the lowest frame, with a name -/
theorem throw_caught (R : Thrown h₀ (envX cn cs L a ccd cl :: outer) e D news s.heap) (F : Fr h₀ L G m) (hsm : G.UpToSlots s.heap) (X : (hd.heap_39 w.params).In h₀) (T : Top hd.view_39 Loo mean mg mb h₀)
    (hfr : A.frames = some (envX cn cs L a ccd cl :: outer))
    (k : ∀ h' oe tk, Fr h₀ L h' (fun y => if y = n then some (.ref e) else m y) → News h₀ L h' ((e, oe) :: news) → oe.cls = .ref 33 → oe.dict = some D → (∀ c, oe.data ≠ .cls c) → (∀ q ∈ news, q.1 ≠ e) →
      wpAny (model prog w) (A.mark (some (.ref e))) (execs (b₀ :: suite) (envX cn cs L a ccd cl))
        (fun f s₄ => wpAny (model prog w) A (do bindName (envX cn cs L a ccd cl) n .none; unbindBehindTheSuite (envX cn cs L a ccd cl) n pos) (fun _ s₅ => Q f s₅) E s₄)
        (AsSuiteRaised (model prog w) (A.mark (some (.ref e))) (envX cn cs L a ccd cl) n pos (notedBy (model prog w) (A.mark (some (.ref e))) (envX cn cs L a ccd cl) (cameBackBy (model prog w) A (envX cn cs L a ccd cl) E)))
        { s with heap := h', toks := tk })
    (hk : cs.kind = .function) (hlo : (envX cn cs L a ccd cl).kindOf n = some .local) (hx : (envX cn cs L a ccd cl).kindOf "BasicError" = some .globalImplicit) :
    wpAny (model prog w) A (noteFrame (.ref e) (envX cn cs L a ccd cl))
      (fun _ s₂ => wpAny (model prog w) A (setFlight (.ref e) none) (fun _ s₃ =>
        wpAny (model prog w) A (handleBy (.ref e) (envX cn cs L a ccd cl) (.ExceptHandler (some (.Name "BasicError" np)) (some n) (b₀ :: suite) pos :: rest)) Q E s₃) E s₂) E s := by
  obtain ⟨B, hB, hl, x⟩ := R
  have hL : B.get? L = none := by
    obtain ⟨_, ⟨L', _, hf, hn', _⟩, _⟩ := x.frames
    obtain rfl : L = L' := Option.some.inj hf
    exact hn'
  refine air_note hfr rfl ⟨x.stays, x.new, x.frames, let ⟨oe, vs, tb, y1, y2, y3, y4, y5, y6⟩ := x.there; ⟨oe, vs, tb, y1, y2, y3, y4, y5, .inr y6⟩⟩ fun h₄ x₄ u₄ => ?_
  refine air_off x₄ fun h₅ x₅ u₅ => ?_
  have hsm₅ := hsm.trans (u₄.trans u₅)
  have st : ∀ {h}, B.StaysIn h → h₀.StaysIn h := fun hh b o q => hh b o (hB b o q)
  have F₅ : Fr h₀ L h₅ m := F.of_stays (st x₅.stays) hsm₅
  obtain ⟨ob, hob, hobc⟩ := x₅.obj
  refine wpAny_handleBy_cons (codeAny_handlers_test (nameX_K F₅ X (topRead_of T) (v := .ref 33) (by k_is) ?_ hk hx (by decide))) (by intro q; cases q)
  obtain ⟨nm, q, Ns, bs, sn, sub, ab, col, dd, k0, k1, k2, k3, k5, mN, K⟩ := cls33 X
  refine wpAny_excMatches_sub_self (F₅.keep _ _ K.obj) hob hobc (by decide +kernel) (codeAny_handlers_suite_as ?_)
  refine air_off x₅ fun h₆ x₆ u₆ => ?_
  have F₆ : Fr h₀ L h₆ m := F.of_stays (st x₆.stays) (hsm₅.trans u₆)
  obtain ⟨oe, vs, tb, y1, y2, y3, y4, y5, y6⟩ := x₆.there
  have hne : ∀ q ∈ news, q.1 ≠ e := fun q hq z => by have := (hl q hq).1; rw [z, x₆.new] at this; cases this
  have N₆ : News h₀ L h₆ ((e, oe) :: news) := fun q hq => by
    rcases List.mem_cons.mp hq with rfl | hq
    · refine ⟨y1, fun z => ?_, fresh_of_stays hB x₆.new⟩
      obtain ⟨o, es, ep, ho, hd, _⟩ := F₆.ns
      rw [← z, y1] at ho
      cases ho
      rw [y4] at hd; cases hd
    · exact ⟨x₆.stays _ _ (hl q hq).1, (fun z => by have := (hl q hq).1; rw [z, hL] at this; cases this), (hl q hq).2⟩
  exact storeX_L F₆ N₆ (fun h₇ F₇ N₇ => k h₇ oe _ F₇ N₇ y2 y3 (fun c q => by rw [y4] at q; cases q) hne) hk hlo
end
section
open PySem.Spec PyProof.Rows.LCg
variable {prog : Program} {w : World} {A : Around} {E : Value → Shared → Prop} {s : Shared} {h₀ : Heap} {L : Addr} {env : Env} {Q : Flow → Shared → Prop}
/-- what a raise of BasicError leads to -/
structure RaisedAt (h₀ : Heap) (L : Addr) (E : Value → Shared → Prop) (v : Value) (s₁ : Shared) : Prop where
  ex : ∃ e TA D m', v = .ref e ∧ Fr h₀ L s₁.heap m' ∧ s₁.heap.get? e = some (excO TA D) ∧ E (.ref e) s₁
theorem raise33 {m : Str → Option Value} (_F : Fr h₀ L s.heap m) (X : (hd.heap_39 w.params).In h₀) (hh : A.handled = none) {x : PySem.Expr} {pos : Pos}
    (h : wpAny (model prog w) A (eval x env) (RaisedAt h₀ L E) E s) :
    wpAny (model prog w) A (exec (.Raise (some x) none pos) env) Q E s := by
  obtain ⟨nm, q, Ns, bs, sn, sub, ab, col, dd, k0, k1, k2, k3, k5, mN, K⟩ := cls33 X
  refine Raise_own_made (C := 33) (nm := nm) (q := q) (N := Ns) (bs := bs) (bm := bmE) (hdct := true) (sn := sn) (sub := sub) (ab := ab) (col := col) (dd := dd) (k0 := k0) (k1 := k1) (k2 := k2) (k3 := k3) (k5 := k5) (newId := "Exception.__new__") (by decide +kernel) hh ?_
  refine wpAny_mono h (fun v s₁ ⟨e, TA, D, m', h1, h2, h3, h4⟩ => ⟨e, TA, D, h1, h2.keep _ _ K.obj, h3, h4⟩) fun _ _ x => x
end
end
section
section
variable {w : World} {mean : ExcName → Option Value} {mg mb : Str → Option Value} {dp un : Nat} {gd : Option (List Code)} {cn : Str} {cs : Scope} {a : Addr} {ccd : Value} {cl : List (Str × Addr)} {outer : List Env} {A₀ : Around} {base h₀ : Heap} {L : Addr} {m : Str → Option Value} {s : Shared} {Q E : Value → Shared → Prop} {news : List (Addr × Obj)}
open PySem.Spec PyProof.Rows.LCg
noncomputable def refusedR (ks : List Int) (r new step : Int) : Prop := step < 1 ∨ new < (if 0 < r then ks.getD (r - 1).toNat 0 + 1 else 0) ∨ (0 < (ks.length : Int) - r ∧ 65529 < new + step * ((ks.length : Int) - r - 1))
theorem place_one {ks : List Int} {k r r' : Int} (h : IsPlace ks k r) (h' : IsPlace ks k r') : r = r' := by
  obtain ⟨a1, a2, a3, a4⟩ := h
  obtain ⟨b1, b2, b3, b4⟩ := h'
  rcases Int.lt_trichotomy r r' with q | q | q
  · have x := b3 r.toNat (by omega)
    have y := a4 r.toNat (by omega) (by omega)
    omega
  · exact q
  · have x := a3 r'.toNat (by omega)
    have y := b4 r'.toNat (by omega) (by omega)
    omega
theorem new_numbers_spec {p dx nl rl : Addr} {h1 h2 : Int} {t1 t2 ta tb tc : Tok} {vs rs : List Value} {ks : List Int} {e1 e2 : Nat} {new old step : Int}
    (B : Below A₀ base outer h₀) (F : Fr h₀ L s.heap m) (X : (hd.heap_39 w.params).In h₀) (N : News h₀ L s.heap news)
    (T : Top hd.view_39 Loo mean mg mb h₀) (hk : cs.kind = .function) (hdp : dp + 30 < recursionLimit) (hu : un + 100 < cLine)
    (P : PIn news p dx nl rl h1 h2 t1 t2 vs rs e1 e2) (hi : IntsAre vs ks) (hlen : ks.length < 1000) (hs : ks.Pairwise (· < ·))
    (hretE : (∀ r, IsPlace ks old r → refusedR ks r new step) → ∀ G e D oD tk h' tk', Fr h₀ L G m → Thrown base (envX cn cs L a ccd cl :: outer) e D ((D, oD) :: news) h' → G.UpToSlots h' → NsObj oD (fun y => if y = "kind" then some (.str "FC" tk) else none) → E (.ref e) {s with heap := h', toks := tk'})
    (hretL : ∀ r, IsPlace ks old r → ¬ refusedR ks r new step → ∀ D ys e h' tk', Fr h₀ L h' m → News h₀ L h' ((D, listOf ys.toArray e) :: news) → AllLt D news → IntsAre ys (ks.take r.toNat ++ stepped new step (ks.length - r.toNat)) → Q (.ref D) {s with heap := h', toks := tk'}) :
    wpAny (model Pg w) (ktrTop dp un gd cn cs L a ccd cl outer) (call (.ref 204) [.ref p, .int new ta, .int old tb, .int step tc]) Q E s := by
  have N' := P.pre N
  clear N
  have hvl := hi.length
  k_with_none
  (k_with "eval Name" => (k_here; (with_reducible show wpAny _ _ (eval (Expr.Name _ _) (envOf _ _ _ _ _)) _ _ _); k_dflt (refine' ld ?nx1 ?nx2 ?_; (case nx1 => k_asm); (case nx2 => (first | (with_reducible assumption) | ((repeat' (first | exact if_pos rfl | refine (if_neg (by decide)).trans ?_)) <;> (with_reducible assumption)))); k_whole)))
  (k_with "eval Name" => (k_here; (with_reducible show wpAny _ _ (eval (Expr.Name _ _) (envOfC _ _ _ _ _)) _ _ _); k_dflt (refine' nameX_L ?nx1 ?nx2 ?_ ?nxa ?nxb; (case nx1 => k_asm); (case nxa => rfl); (case nxb => rfl); (case nx2 => (first | (with_reducible assumption) | ((repeat' (first | exact if_pos rfl | refine (if_neg (by decide)).trans ?_)) <;> (with_reducible assumption)))); k_whole)))
  (k_with "loadName" => (k_here; k_dflt (refine' ldn ?nx1 ?nx2 ?_; (case nx1 => k_asm); (case nx2 => (first | (with_reducible assumption) | ((repeat' (first | exact if_pos rfl | refine (if_neg (by decide)).trans ?_)) <;> (with_reducible assumption)))); k_whole)))
  (k_with "call ref" => (k_dflt (refine' place_of_spec (by assumption) (by assumption) (by assumption) (by assumption) (by assumption) ?hk ?hd ?hu ⟨by k_mem, by k_mem, by k_mem, by k_mem⟩ hi hlen hs ?_; (case hk => first | rfl | assumption); (case hd => ktr_room); (case hu => ktr_units); intro r tr h' tk' hpl F' N'; have hp0 := hpl.1; have hp1 := hpl.2.1)))
  (k_with "call ref" => (k_dflt (refine' exc_made (by assumption) (by assumption) (by assumption) (by assumption) (by assumption) ?hk ?hd ?hu ?_; (case hk => first | rfl | assumption); (case hd => ktr_room); (case hu => ktr_units); intro e D TA oD h' tk' F' N' offE offD hoD)))
  (k_with "exec Raise some none" => (k_dflt (refine' raise33 ?kF ?kX ?kH ?_; (case kF => k_asm); (case kX => k_asm); (case kH => rfl))))
  (k_with "eval ListComp" => (k_dflt (refine' ListComp_G _ ?cF ?cl ?cc ?ck ?cn ?_ ?cs; (case cF => k_asm); (case cl => with_unfolding_all rfl); (case cc => decide); (case ck => with_unfolding_all rfl); (case cn => decide); (case cs => intro _; with_unfolding_all rfl))))
  (k_with "pyIter ref" => (k_dflt (
    refine' comp_range (n := ks.length - r.toNat) rfl (by assumption) (by assumption) (by assumption) (by omega) (by omega) rfl rfl
      (fun i ys news₁ => news₁ = _ ∧ IntsAre ys (stepped new step i))
      ⟨rfl, .nil⟩ ?_ ?_
    rintro i ti ys₂ news₁ own C oC' D₂ m₂ h tk E' hi2 hm hoC ⟨rfl, hys₂⟩ hyl₂ F' N' off hCD hwo
    rotate_left 1
    rintro g₂ ys₂ news' ⟨rfl, hys₂⟩
    intro D₂ h₂ tk₂ F₂ N₂ off₂)))
  (k_with "binaryOp Add ref ref" => (k_dflt (
    refine' kmk_add_ints (ns := List.take r.toNat ks) (ms := stepped new step (ks.length - r.toNat)) ?F ?N ?a ?b ?hs hys₂ ?_ ?z
    (case hs => assumption)
    (case F => k_asm)
    (case N => k_asm)
    (case a => exact News.isList (by assumption) (by k_mem))
    (case b => exact News.isList (by assumption) (by k_mem))
    (case z => exact Nat.le_trans (show (List.take r.toNat ks).length + (stepped new step (ks.length - r.toNat)).length ≤ 1000 by (rw [stepped_len, List.length_take]; omega)) (Nat.le_of_ble_eq_true rfl))
    intro D' ws' h' F' N' l1 hI')))
  (k_with "eval IfExp" => ((fail_if_success (rename MarkJ => hM)); k_dflt (refine' joinV (V := fun v => ∃ t, v = .int (if 0 < r then ks.getD (r - 1).toNat 0 + 1 else 0) t) (by assumption) (by assumption) ?_ ?_; intro J mj hJ; rotate_left 1; rintro v h' tk' ⟨tl, rfl⟩ F' N')))
  (k_with "isTrue BoolOp" => ((fail_if_success (rename MarkJ => hM)); k_dflt (refine' joinV (V := fun b : Bool => (b = true ↔ refusedR ks r new step)) (by assumption) (by assumption) ?_ ?_; intro J mj hJ; rotate_left 1; rintro bj h' tk' hbj F' N')))
  refine wpAny_call ?_
  k_dflt (refine' code_defC ?k1 ?k2 ?k3 ?k4 ?k5 ?kA ?kF ?kK ?k6 ?k7 ?k8 ?k9 ?kB ?kD ?_ ?c2 ?c3 ?c4; (case kA => exact rfl); (case kF => exact rfl); (case kK => assumption); (case k1 => k_asm); (case k2 => k_asm); (case k3 => k_asm); (case k4 => k_asm); (case k5 => k_asm); (case k6 => k_is); (case k7 => k_is); (case k8 => ktr_room); (case k9 => exact BindsTo.of_eq rfl); (case kB => exact rfl); (case kD => decide +kernel); (case c2 => exact rfl); (case c3 => exact rfl); (case c4 => exact rfl); k_whole; intro g' L' h' tk' cells' FG' F' N' Y' B' X' T' l1; (try k_lt l1); (have hY := CellsAre.two Y'; obtain ⟨oC, oC2, hE', dC, dC2⟩ := hY; subst hE'; clear Y'); (try simp only [List.cons_append, List.nil_append] at N'); (try dsimp only); (try k_lift B'); (try k_fold))
  k_steps
  all_goals first
    | (refine RaisedAt.mk ⟨_, _, _, _, rfl, by assumption, News.get (by assumption) (List.Mem.head _), ?_⟩
       refine throw_first (by assumption) (by assumption) (by assumption) offE rfl (by intro z; cases z) fun h' TH U => ?_
       exact hretE (fun r' hr' => by rw [← place_one hpl hr']; exact hbj.mp (by assumption)) _ _ _ _ _ _ _ (by assumption) (TH.sub (by kcj_all)) U hoD)
    | exact hretL r hpl (fun hc => absurd (hbj.mpr hc) (by assumption)) _ _ _ _ _ (by assumption) (news_in (by assumption) (by kcj_all)) (allLt_of fun q hq => l1 q (by simp [hq])) (by assumption)
    | exact hretL r hpl (fun hc => Bool.noConfusion ((hbj.mpr hc).symm.trans (by assumption))) _ _ _ _ _ (by assumption) (news_in (by assumption) (by kcj_all)) (allLt_of fun q hq => l1 q (by simp [hq])) (by assumption)
    | exact cend_of (by assumption) (by assumption) _ (by intro q hq; simp only [List.mem_append, List.mem_cons] at hq ⊢; grind) off ⟨rfl, by rw [stepped_succ]; exact hys₂.append (.cons _ _ .nil)⟩
    | exact hJ _ _ _ ⟨_, by rw [if_pos (by assumption)]⟩ (by assumption) (news_in (by assumption) (by kcj_all))
    | exact hJ _ _ _ ⟨_, by rw [if_neg (by assumption)]⟩ (by assumption) (news_in (by assumption) (by kcj_all))
    | exact hJ _ _ _ ⟨fun _ => (by unfold refusedR; first | exact .inl (by assumption) | exact .inr (.inl (by assumption)) | exact .inr (.inr ⟨by omega, by assumption⟩)), fun _ => rfl⟩ (by assumption) (news_in (by assumption) (by kcj_all))
    | (refine hJ _ _ _ ?_ (by assumption) (news_in (by assumption) (by kcj_all)); exact ⟨fun h => Bool.noConfusion h, fun h => absurd h (by unfold refusedR; rintro (h | h | ⟨h, h'⟩) <;> first | contradiction | omega)⟩)
end
end
section
section
theorem zip_put {ks nk : List Int} {i : Nat} {k n : Int} (hs : ks.Pairwise (· < ·)) (h1 : ks[i]? = some k) (h2 : nk[i]? = some n) : kdfPut ((ks.zip nk).take i) k n = (ks.zip nk).take (i + 1) := by
  have h : (ks.zip nk)[i]? = some (k, n) := by rw [List.getElem?_zip_eq_some]; exact ⟨h1, h2⟩
  rw [take_snoc h]
  unfold kdfPut
  rw [if_neg]
  intro ha
  obtain ⟨p, hp, hk⟩ := List.any_eq_true.mp ha
  obtain ⟨j, hj, e⟩ := List.getElem_of_mem hp
  rw [List.length_take] at hj
  rw [List.getElem_take, List.getElem_zip] at e
  have hji : j < i := by omega
  have hjk : j < ks.length := by have := hj; rw [List.length_zip] at this; omega
  have hik : i < ks.length := (List.getElem?_eq_some_iff.mp h1).1
  have := (List.pairwise_iff_getElem.mp hs) j i hjk hik hji
  have e1 : ks[j] = p.1 := by rw [← e]
  have e2 : ks[i] = k := (List.getElem?_eq_some_iff.mp h1).2
  have e3 : p.1 = k := of_decide_eq_true hk
  omega
theorem zip_has {ks nk : List Int} {k : Int} (hl : nk.length = ks.length) (hk : k ∈ ks) : kdfHas (ks.zip nk) k = true := by
  obtain ⟨i, hi, e⟩ := List.getElem_of_mem hk
  unfold kdfHas
  rw [List.any_eq_true]
  refine ⟨(ks[i], nk[i]'(by omega)), ?_, by simp [e]⟩
  have : i < (ks.zip nk).length := by rw [List.length_zip]; omega
  have z := List.getElem_zip (l := ks) (l' := nk) (i := i) (h := this)
  rw [← z]
  exact List.getElem_mem _
theorem zip_full {ks nk : List Int} (hl : nk.length = ks.length) : (ks.zip nk).take ks.length = ks.zip nk := List.take_of_length_le (by rw [List.length_zip]; omega)
theorem zip_take_len {ks nk : List Int} (i : Nat) : ((ks.zip nk).take i).length ≤ i := by rw [List.length_take]; omega
theorem lost_key {ks gs : List Int} {q : Int × Int} {i : Nat} (h : (lostOf ks (ks.zip gs))[i]? = some q) : q.1 ∈ ks := by
  have h1 := List.mem_of_getElem? h
  unfold lostOf at h1
  have h2 := (List.mem_filter.mp h1).1
  obtain ⟨j, hj, e⟩ := List.getElem_of_mem h2
  rw [List.getElem_zip] at e
  rw [← e]
  exact List.getElem_mem _
theorem pairs_ab {news : List (Addr × Obj)} {vs : List Value} {ps : List (Int × Int)} (h : PairsAre news vs ps) :
    ∃ ab : Nat → Value × Value, (∀ i v, vs[i]? = some v → ∃ T k, v = .ref T ∧ (T, ({ cls := .type "tuple", data := .seq #[(ab i).1, (ab i).2] k } : Obj)) ∈ news) ∧ ∀ i q, i < vs.length → ps[i]? = some q → ∃ t1 t2, ab i = (.int q.1 t1, .int q.2 t2) := by
  have H : ∀ (i : Nat), ∃ x : Value × Value, ∀ (v : Value) (q : Int × Int), vs[i]? = some v → ps[i]? = some q → (∃ t1 t2, x = (.int q.1 t1, .int q.2 t2)) ∧ ∃ T e, v = .ref T ∧ (T, tup2 x.1 x.2 e) ∈ news := by
    intro i
    cases hv : vs[i]? with
    | none => exact ⟨(.none, .none), fun v q h => by cases h⟩
    | some v =>
      cases hq : ps[i]? with
      | none => exact ⟨(.none, .none), fun v q _ h => by cases h⟩
      | some q =>
        obtain ⟨T, t1, t2, e, rfl, hm⟩ := h.2 i v q hv hq
        exact ⟨(.int q.1 t1, .int q.2 t2), fun v' q' h1 h2 => by cases h1; cases h2; exact ⟨⟨t1, t2, rfl⟩, T, e, rfl, hm⟩⟩
  refine ⟨fun i => Classical.choose (H i), fun i v hv => ?_, fun i q hi hq => ?_⟩
  · obtain ⟨q, hq⟩ := some_at (ks := ps) (i := i) (by have := (List.getElem?_eq_some_iff.mp hv).1; rw [← h.1]; exact this)
    obtain ⟨_, T, e, rfl, hm⟩ := Classical.choose_spec (H i) v q hv hq
    exact ⟨T, e, rfl, hm⟩
  · obtain ⟨v, hv⟩ := some_at (ks := vs) hi
    exact (Classical.choose_spec (H i) v q hv hq).1
end
end
section
section
variable {w : World} {mean : ExcName → Option Value} {mg mb : Str → Option Value} {dp un : Nat} {gd : Option (List Code)} {cn : Str} {cs : Scope} {a : Addr} {ccd : Value} {cl : List (Str × Addr)} {outer : List Env} {A₀ : Around} {base h₀ : Heap} {L : Addr} {m : Str → Option Value} {s : Shared} {Q E : Value → Shared → Prop} {news : List (Addr × Obj)}
open PySem.Spec PyProof.Rows.LCg PyProof.V
theorem renumber_spec {p dx nl rl : Addr} {h1 h2 : Int} {t1 t2 ta tb tc : Tok} {vs rs : List Value} {ks gs : List Int} {e1 e2 : Nat} {new old step : Int} {rest : List (Addr × Obj)}
    (B : Below A₀ base outer h₀) (F : Fr h₀ L s.heap m) (X : (hd.heap_39 w.params).In h₀) (N : News h₀ L s.heap news)
    (T : Top hd.view_39 Loo mean mg mb h₀) (hk : cs.kind = .function) (hdp : dp + 50 < recursionLimit) (hu : un + 200 < cLine)
    (hn : news = (p, instObj 136 dx) :: (dx, dictOf [⟨h1, .str (Str.ofString "numbers") t1, .ref nl⟩, ⟨h2, .str (Str.ofString "rows") t2, .ref rl⟩] 2) :: (nl, listOf vs.toArray e1) :: (rl, listOf rs.toArray e2) :: rest) (hrest : ∀ q ∈ rest, q.1 ≠ dx)
    (hi : IntsAre vs ks) (hr : RowsAre rest rs gs) (hgk : gs.length = ks.length) (hlen : ks.length < 1000) (hs : ks.Pairwise (· < ·))
    (hretE : (∀ r, IsPlace ks old r → refusedR ks r new step) → ∀ G e D oD tk h' tk', Fr h₀ L G m → Thrown base (envX cn cs L a ccd cl :: outer) e D ((D, oD) :: news) h' → G.UpToSlots h' → NsObj oD (fun y => if y = "kind" then some (.str "FC" tk) else none) → E (.ref e) {s with heap := h', toks := tk'})
    (hretL : ∀ r nk, IsPlace ks old r → ¬refusedR ks r new step → nk = ks.take r.toNat ++ stepped new step (ks.length - r.toNat) → nk.length = ks.length → ∀ D ys e3 R rs' e4 Fl lv e5 more h' tk', Fr h₀ L h' m →
      News h₀ L h' ((p, instObj 136 dx) :: (dx, dictOf [⟨h1, .str (Str.ofString "numbers") t1, .ref D⟩, ⟨h2, .str (Str.ofString "rows") t2, .ref R⟩] 2) :: (D, listOf ys.toArray e3) :: (R, listOf rs'.toArray e4) :: (Fl, listOf lv.toArray e5) :: (more ++ rest)) →
      IntsAre ys nk → RowsAre (more ++ rest) rs' (gs.map fun g => kdfLook (ks.zip nk) g g) → PairsAre (more ++ rest) lv ((lostOf ks (ks.zip gs)).map fun q => (kdfLook (ks.zip nk) q.1 0, q.2)) → Q (.ref Fl) {s with heap := h', toks := tk'}) :
    wpAny (model Pg w) (ktrTop dp un gd cn cs L a ccd cl outer) (call (.ref 216) [.ref p, .int new ta, .int old tb, .int step tc]) Q E s := by
  subst hn
  have s1 := news_ne N (.head _) (.tail _ (.head _)) (by intro e; simp [instObj, W.listOf, dictOf] at e)
  have s2 := news_ne N (.tail _ (.tail _ (.head _))) (.tail _ (.head _)) (by intro e; simp [instObj, W.listOf, dictOf] at e)
  have s3 := news_ne N (.tail _ (.tail _ (.tail _ (.head _)))) (.tail _ (.head _)) (by intro e; simp [instObj, W.listOf, dictOf] at e)
  have N' := N
  clear N
  have hvl := hi.length
  have hrl := hr.1
  k_with_none
  (k_with "eval Name" => (k_here; (with_reducible show wpAny _ _ (eval (Expr.Name _ _) (envOf _ _ _ _ _)) _ _ _); k_dflt (refine' ld ?nx1 ?nx2 ?_; (case nx1 => k_asm); (case nx2 => (first | (with_reducible assumption) | ((repeat' (first | exact if_pos rfl | refine (if_neg (by decide)).trans ?_)) <;> (with_reducible assumption)))); k_whole)))
  (k_with "eval Name" => (k_here; (with_reducible show wpAny _ _ (eval (Expr.Name _ _) (envOfC _ _ _ _ _)) _ _ _); k_dflt (refine' nameX_L ?nx1 ?nx2 ?_ ?nxa ?nxb; (case nx1 => k_asm); (case nxa => rfl); (case nxb => rfl); (case nx2 => (first | (with_reducible assumption) | ((repeat' (first | exact if_pos rfl | refine (if_neg (by decide)).trans ?_)) <;> (with_reducible assumption)))); k_whole)))
  (k_with "loadName" => (k_here; k_dflt (refine' ldn ?nx1 ?nx2 ?_; (case nx1 => k_asm); (case nx2 => (first | (with_reducible assumption) | ((repeat' (first | exact if_pos rfl | refine (if_neg (by decide)).trans ?_)) <;> (with_reducible assumption)))); k_whole)))
  (k_with "exec For Tuple Call" => (k_dflt (refine' For_turns ?cF ?_ ?cs ?cE; (case cF => k_asm); (case cs => intro _; with_unfolding_all rfl); (case cE => first | passes_own | with_unfolding_all passes_own))))
  (k_with "call type:zip" => (k_dflt (
    (rename News _ _ _ _ => NN)
    (obtain ⟨wd, hwd⟩ := ex_addr (News.get NN (List.Mem.tail _ (List.Mem.head _))))
    (subst hwd)
    (rename Obj.data _ = Data.cell _ => hoW)
    (rename Obj.IsDictOf (intKind Pg w) _ _ => hid)
    (rename FlatPairs PyData.int _ _ => hif)
    (have hwl : (wd == sysModules) = false := by assumption)
    refine' for_zipC rfl rfl rfl (by assumption) (news_in (by assumption) (by kcj_all)) (by assumption) (l1 := nl) (l2 := D) (by k_mem) (by k_mem) (by omega)
      (fun i m₁ news₁ => ∃ (oD oW : Obj) (kvs : List (Int × Value)), m₁ (Str.ofString "numbers") = some (.ref D) ∧ m₁ (Str.ofString "program") = some (.ref p) ∧ oW.data = Data.cell (some (.ref wd)) ∧
        news₁ = (wd, oD) :: (D, listOf ys.toArray eD) :: (L' + 1, oW) :: (p, instObj 136 dx) :: (dx, dictOf [⟨h1, .str (Str.ofString "numbers") t1, .ref nl⟩, ⟨h2, .str (Str.ofString "rows") t2, .ref rl⟩] 2) :: (nl, listOf vs.toArray e1) :: (rl, listOf rs.toArray e2) :: rest ∧
        oD.IsDictOf (intKind Pg w) kvs ∧ FlatPairs PyData.int kvs (kdfD ((ks.zip nk).take i)))
      ⟨_, _, _, rfl, rfl, hoW, rfl, hid, hif⟩ ?turnA ?finA
    case' turnA => (
      rintro i v₁ v₂ m₁ news₁ own wr h tk Z hv1 hv2 ⟨oD, oW, kvs, hm1, hm2, hW, rfl, hdo, hdf⟩ hown hZ hwo hwZ hwr F₁ N₁
      obtain ⟨k, tk1, rfl, hk1⟩ := hi.at i v₁ hv1
      obtain ⟨n, tk2, rfl, hk2⟩ := hys.at i v₂ hv2
      have hcl := zip_take_len (ks := ks) (nk := nk) i
      have hi1000 : i < 1000 := by have := (List.getElem?_eq_some_iff.mp hk1).1; omega
      obtain ⟨hwd1, y2, y3, y4, hwd3, y6, hwd2⟩ := (by assumption : @LT.lt Nat _ D wd ∧ @LT.lt Nat _ (L' + 1) wd ∧ _)
      have hZ1 : @LT.lt Nat _ wd Z := hZ (wd, _) (by k_mem)
      have hT : ∀ q ∈ rest ++ own, q.1 ≠ wd := fun q hq => by
        rcases List.mem_append.mp hq with hq | hq
        · exact Nat.ne_of_lt (allLt_mem hwd2 q hq)
        · rcases hown q hq with e | e | e
          · rw [e]; exact Nat.ne_of_lt hwd3
          · rw [e]; exact Nat.ne_of_lt hwd1
          · exact Nat.ne_of_gt (Nat.lt_of_lt_of_le hZ1 e)
      simp only [List.cons_append] at N₁)
    case' finA => (
      rintro h tk m₁ news₁ F₁ N₁ ⟨oD, oW, kvs, hm1, hm2, hW, rfl, hdo, hdf⟩
      rw [hvl, zip_full hnl] at hdf))))
  (k_with "call ref" => (k_dflt (
    refine' led_row_spec (by assumption) (by assumption) (by assumption) (by assumption) (by assumption) ?hk ?hd ?hu (by k_mem) (by k_mem) (by k_mem) ⟨by k_mem, hwl, hdo, hdf⟩ ?_
    (case hk => first | rfl | assumption)
    (case hd => ktr_room)
    (case hu => ktr_units)
    intro flr U tkr tkr2 er er4 h' tk' F' N' offr hU)))
  (k_with "call ref" => (k_dflt (
    refine' lost_targets_spec (by assumption) (by assumption) (by assumption) (by assumption) (by assumption) ?hk ?hd ?hu ⟨by k_mem, by k_mem, by k_mem, by k_mem⟩ hi (hr.sub ?sub) hgk hlen hs ?_
    (case hk => first | rfl | assumption)
    (case hd => ktr_room)
    (case hu => ktr_units)
    (case sub => (intro q hq; simp [hq]))
    intro fl lv newL eF h' tk' F' N' offF offL hpa
    obtain ⟨u1, u2, u3, u4, u5, u6, u7, u8⟩ := offF
    have hR2 : ∀ q ∈ newL ++ rest, q.1 ≠ dx := fun q hq => by
      rcases List.mem_append.mp hq with hq | hq
      · exact Nat.ne_of_gt (Nat.lt_trans u5 (offL q hq))
      · exact hrest q hq
    have N₂ : News g' L' h' ((fl, listOf lv.toArray eF) :: (wd, oD) :: (D, listOf ys.toArray eD) :: (L' + 1, oW) :: (p, instObj 136 dx) :: (dx, dictOf [⟨h1, .str (Str.ofString "numbers") t1, .ref nl⟩, ⟨h2, .str (Str.ofString "rows") t2, .ref rl⟩] 2) :: (nl, listOf vs.toArray e1) :: (rl, listOf rs.toArray e2) :: (newL ++ rest)) := news_in N' (by intro q hq; simp only [List.mem_cons, List.mem_append] at hq ⊢; grind)
    clear N'
    have hlv := hpa.1
    have hlv2 : lv.length < 1000 := by
      have q1 : (lostOf ks (ks.zip gs)).length ≤ (ks.zip gs).length := List.length_filter_le _ _
      rw [List.length_zip] at q1
      omega)))
  (k_with "eval ListComp" => (k_dflt (refine' ListComp_G _ ?cF ?cl ?cc ?ck ?cn ?_ ?cs; (case cF => k_asm); (case cl => with_unfolding_all rfl); (case cc => decide); (case ck => with_unfolding_all rfl); (case cn => decide); (case cs => intro _; with_unfolding_all rfl))))
  (k_with "exec Assign cons ListComp" => (k_dflt (refine' Assign_ListComp_G _ (by assumption) rfl ?csw ?cl ?cc ?ck ?cn ?cy ?cp ?_ ?cs; (case csw => with_unfolding_all rfl); (case cl => with_unfolding_all rfl); (case cc => decide); (case ck => with_unfolding_all rfl); (case cn => decide); (case cy => rfl); (case cp => rfl); (case cs => intro _; with_unfolding_all rfl))))
  (k_with "exec Assign cons ListComp" => (with_reducible refine plainObj_wpAny_Assign_Attribute ?_ ?_; rotate_left; with_unfolding_all rfl))
  (k_with "subscriptTail Name Name ref int" => (k_dflt (
    refine' kdf_item (c := ks.zip nk) ?T hqk ?_
    (case T => exact TabAt.ofNews (by k_asm) (by k_mem) hwl hdo hdf)
    intro tg)))
  (k_with "pyIter ref" => (k_dflt (
    refine' comp_list (vs := rs) rfl (by assumption) (by assumption) (l := rl) (by k_mem) (Nat.le_trans (Nat.le_of_lt (show rs.length < 1000 by omega)) (Nat.le_of_ble_eq_true rfl)) rfl rfl
      (fun i ys2 news₁ => ∃ pre2, news₁ = pre2 ++ _ ∧ RowsAre (pre2 ++ rest) ys2 ((gs.take i).map fun g => kdfLook (ks.zip nk) g g) ∧ ∀ q ∈ pre2, q.1 ≠ dx)
      ⟨[], rfl, .nil, fun q hq => nomatch hq⟩ ?_ ?_
    rintro i v ys2 news₁ own C oC' D₂ m₂ h tk E' hv hm' hoC ⟨pre2, rfl, hrr, hpre2⟩ hyl2 F' N' off hCD hwo
    obtain ⟨g, hg⟩ := some_at (ks := gs) (show i < gs.length by have := (List.getElem?_eq_some_iff.mp hv).1; omega)
    obtain ⟨rT, rA, rB, a1, a2, b1, b2, f1, f2, f3, rfl, hT, hA, hB⟩ := hr.2 i v g hv hg
    obtain ⟨R2, hR2e⟩ : ∃ R2, R2 = pre2 ++ ((Dl, listOf ys₃.toArray ys₃.length) :: (wd, oD) :: (D, listOf ys.toArray eD) :: (L' + 1, oW) :: (p, instObj 136 dx) :: (dx, dictOf [⟨h1, .str (Str.ofString "numbers") t1, .ref nl⟩, ⟨h2, .str (Str.ofString "rows") t2, .ref rl⟩] 2) :: (nl, listOf vs.toArray e1) :: (rl, listOf rs.toArray e2) :: (pre ++ (fl, listOf lv.toArray eF) :: (newL ++ rest))) ++ own := ⟨_, rfl⟩
    have N₅ : News g' L' h ((C, oC') :: (D₂, lst ys2) :: (wd, oD) :: (L' + 1, oW) :: (dx, dictOf [⟨h1, .str (Str.ofString "numbers") t1, .ref nl⟩, ⟨h2, .str (Str.ofString "rows") t2, .ref rl⟩] 2) :: (rT, listOf #[.ref rA, .ref rB] f1) :: (rA, tup2 (.str (Str.ofString "word") a1) (.str (Str.ofString "GOTO") a2) f2) :: (rB, tup2 (.str (Str.ofString "number") b1) (.int g b2) f3) :: R2) := news_in N' (by rw [hR2e]; intro q hq; simp only [List.mem_cons, List.mem_append] at hq ⊢; grind)
    clear N'
    rotate_left 1
    rintro g2 ys2 news' ⟨pre2, rfl, hrr, hpre2⟩
    rw [List.take_of_length_le (by omega)] at hrr
    intro Rl h tk F' N' off
    have v2 : @Ne Nat Rl dx := fun e => off (dx, dictOf [⟨h1, .str (Str.ofString "numbers") t1, .ref nl⟩, ⟨h2, .str (Str.ofString "rows") t2, .ref rl⟩] 2) (List.mem_append_right _ (by k_mem)) e.symm
    have hR6 : ∀ q ∈ pre2 ++ (pre ++ (fl, listOf lv.toArray eF) :: (newL ++ rest)), q.1 ≠ dx := fun q hq => by
      rcases List.mem_append.mp hq with hq | hq
      · exact hpre2 q hq
      · exact hR4 q hq
    have N₇ : News g' L' h ((Rl, listOf ys2.toArray ys2.length) :: (pre2 ++ ((Dl, listOf ys₃.toArray ys₃.length) :: (wd, oD) :: (D, listOf ys.toArray eD) :: (L' + 1, oW) :: (p, instObj 136 dx) :: (dx, dictOf [⟨h1, .str (Str.ofString "numbers") t1, .ref nl⟩, ⟨h2, .str (Str.ofString "rows") t2, .ref rl⟩] 2) :: (nl, listOf vs.toArray e1) :: (rl, listOf rs.toArray e2) :: (pre ++ (fl, listOf lv.toArray eF) :: (newL ++ rest))))) := N'
    clear N'
    have N₆ : News g' L' h ((Rl, listOf ys2.toArray ys2.length) :: (Dl, listOf ys₃.toArray ys₃.length) :: (wd, oD) :: (D, listOf ys.toArray eD) :: (L' + 1, oW) :: (p, instObj 136 dx) :: (dx, dictOf [⟨h1, .str (Str.ofString "numbers") t1, .ref nl⟩, ⟨h2, .str (Str.ofString "rows") t2, .ref rl⟩] 2) :: (nl, listOf vs.toArray e1) :: (rl, listOf rs.toArray e2) :: (pre2 ++ (pre ++ (fl, listOf lv.toArray eF) :: (newL ++ rest)))) := news_in N₇ (by intro q hq; simp only [List.mem_cons, List.mem_append] at hq ⊢; grind)
    clear N₇)))
  (k_with "pyIter ref" => (k_dflt (
    obtain ⟨ab, hab, hab2⟩ := pairs_ab hpa
    refine' comp_pairs (vs := lv) rfl (by assumption) (by assumption) (l := fl) (by k_mem) (Nat.le_trans (Nat.le_of_lt hlv2) (Nat.le_of_ble_eq_true rfl)) rfl rfl rfl (by decide) ab (fun i v hv => (let ⟨T, k, e, hm⟩ := hab i v hv; ⟨T, k, e, .tail _ (.tail _ (.tail _ (.tail _ (.tail _ (.tail _ (.tail _ (.tail _ (List.mem_append_left _ hm))))))))⟩))
      (fun i ys₃ news₁ => ∃ pre, news₁ = pre ++ _ ∧ PairsAre pre ys₃ (((lostOf ks (ks.zip gs)).take i).map fun q => (kdfLook (ks.zip nk) q.1 0, q.2)) ∧ ∀ q ∈ pre, q.1 ≠ dx)
      ⟨[], rfl, .nil, fun q hq => nomatch hq⟩ ?_ ?_
    rintro i ys₃ news₁ own C oC' D₂ m₂ h tk E' hi2 hq1 hq2 hoC ⟨pre, rfl, hpp, hpre⟩ hyl2 F' N' off hCD hwo
    obtain ⟨q, hq⟩ := some_at (ks := lostOf ks (ks.zip gs)) (show i < _ by rw [← hlv]; exact hi2)
    obtain ⟨x1, x2, hab3⟩ := hab2 i q hi2 hq
    rw [hab3] at hq1 hq2
    dsimp only at hq1 hq2
    have hqk : kdfHas (ks.zip nk) q.1 = true := zip_has hnl (lost_key hq)
    obtain ⟨R, hR⟩ : ∃ R, R = pre ++ ((fl, listOf lv.toArray eF) :: (wd, oD) :: (D, listOf ys.toArray eD) :: (L' + 1, oW) :: (p, instObj 136 dx) :: (dx, dictOf [⟨h1, .str (Str.ofString "numbers") t1, .ref nl⟩, ⟨h2, .str (Str.ofString "rows") t2, .ref rl⟩] 2) :: (nl, listOf vs.toArray e1) :: (rl, listOf rs.toArray e2) :: (newL ++ rest)) ++ own := ⟨_, rfl⟩
    have N₃ : News g' L' h ((C, oC') :: (D₂, lst ys₃) :: (wd, oD) :: (L' + 1, oW) :: (dx, dictOf [⟨h1, .str (Str.ofString "numbers") t1, .ref nl⟩, ⟨h2, .str (Str.ofString "rows") t2, .ref rl⟩] 2) :: R) := news_in N' (by rw [hR]; intro q hq; simp only [List.mem_cons, List.mem_append] at hq ⊢; grind)
    clear N'
    rotate_left 1
    rintro g1 ys₃ news' ⟨pre, rfl, hpp, hpre⟩
    rw [List.take_of_length_le (by omega)] at hpp
    intro Dl h tk F' N' off
    have v1 : @Ne Nat Dl dx := fun e => off (dx, dictOf [⟨h1, .str (Str.ofString "numbers") t1, .ref nl⟩, ⟨h2, .str (Str.ofString "rows") t2, .ref rl⟩] 2) (List.mem_append_right _ (by k_mem)) e.symm
    have hR4 : ∀ q ∈ pre ++ (fl, listOf lv.toArray eF) :: (newL ++ rest), q.1 ≠ dx := fun q hq => by
      rcases List.mem_append.mp hq with hq | hq
      · exact hpre q hq
      rcases List.mem_cons.mp hq with rfl | hq
      · exact Nat.ne_of_gt u5
      · exact hR2 q hq
    have N₈ : News g' L' h ((Dl, listOf ys₃.toArray ys₃.length) :: (pre ++ ((fl, listOf lv.toArray eF) :: (wd, oD) :: (D, listOf ys.toArray eD) :: (L' + 1, oW) :: (p, instObj 136 dx) :: (dx, dictOf [⟨h1, .str (Str.ofString "numbers") t1, .ref nl⟩, ⟨h2, .str (Str.ofString "rows") t2, .ref rl⟩] 2) :: (nl, listOf vs.toArray e1) :: (rl, listOf rs.toArray e2) :: (newL ++ rest)))) := N'
    clear N'
    have N₄ : News g' L' h ((Dl, listOf ys₃.toArray ys₃.length) :: (wd, oD) :: (D, listOf ys.toArray eD) :: (L' + 1, oW) :: (p, instObj 136 dx) :: (dx, dictOf [⟨h1, .str (Str.ofString "numbers") t1, .ref nl⟩, ⟨h2, .str (Str.ofString "rows") t2, .ref rl⟩] 2) :: (nl, listOf vs.toArray e1) :: (rl, listOf rs.toArray e2) :: (pre ++ (fl, listOf lv.toArray eF) :: (newL ++ rest))) := news_in N₈ (by intro q hq; simp only [List.mem_cons, List.mem_append] at hq ⊢; grind)
    clear N₈)))
  (k_with "call ref" => (k_dflt (refine' new_numbers_spec (by assumption) (by assumption) (by assumption) (by assumption) (by assumption) ?hk ?hd ?hu ⟨by k_mem, by k_mem, by k_mem, by k_mem⟩ hi hlen hs ?_ ?_; (case hk => first | rfl | assumption); (case hd => ktr_room); (case hu => ktr_units); (intro hq GG e De oDe tkE h' tk' FG' TH' U' hoD); (try dsimp only); rotate_left 1; (intro r hpl hnr D ys eD h' tk' F' N' offD hys; obtain ⟨z1, z2, z3, z4, z5, z6⟩ := offD; have s4 : @Ne Nat D dx := Nat.ne_of_gt z3; obtain ⟨nk, hnk⟩ : ∃ nk, nk = List.take r.toNat ks ++ stepped new step (ks.length - r.toNat) := ⟨_, rfl⟩; rw [← hnk] at hys; have hp0 := hpl.1; have hp1 := hpl.2.1; have hnl : nk.length = ks.length := (by rw [hnk, List.length_append, List.length_take, stepped_len]; omega); have hyl := hys.length))))
  refine wpAny_call ?_
  k_dflt (refine' code_defC ?k1 ?k2 ?k3 ?k4 ?k5 ?kA ?kF ?kK ?k6 ?k7 ?k8 ?k9 ?kB ?kD ?_ ?c2 ?c3 ?c4; (case kA => exact rfl); (case kF => exact rfl); (case kK => assumption); (case k1 => k_asm); (case k2 => k_asm); (case k3 => k_asm); (case k4 => k_asm); (case k5 => k_asm); (case k6 => k_is); (case k7 => k_is); (case k8 => ktr_room); (case k9 => exact BindsTo.of_eq rfl); (case kB => exact rfl); (case kD => decide +kernel); (case c2 => exact rfl); (case c3 => exact rfl); (case c4 => exact rfl); k_whole; intro g' L' h' tk' cells' FG' F' N' Y' B' X' T' l1; (try k_lt l1); (have hY := CellsAre.one Y'; obtain ⟨oC, hE', dC⟩ := hY; subst hE'; clear Y'); (try simp only [List.cons_append, List.nil_append] at N'); (try dsimp only); (try k_lift B'); (try k_fold))
  have hR1 : ∀ q ∈ rest, q.1 ≠ L' + 1 := fun q hq => Nat.ne_of_lt (Nat.lt_succ_of_lt (allLt_mem l1.2.2.2.2 q hq))
  k_steps
  · exact hretL r nk hpl hnr hnk hnl D ys eD Rl ys2 ys2.length Dl ys₃ ys₃.length (pre2 ++ (pre ++ newL)) _ _ (by assumption) (news_in (by assumption) (by intro q hq; simp only [List.mem_cons, List.mem_append] at hq ⊢; grind)) hys
      (hrr.sub (by intro q hq; simp only [List.mem_cons, List.mem_append] at hq ⊢; grind)) (hpp.sub (by intro q hq; simp only [List.mem_cons, List.mem_append] at hq ⊢; grind))
  · obtain ⟨w1, w2, w3, w4, w5, w6, w7, w8, w9⟩ := offr
    have hw5 : @LT.lt Nat _ dx flr := w5
    have hwC : @LT.lt Nat _ C flr := w1
    have hwD : @LT.lt Nat _ D₂ flr := w2
    have hwb : ∀ b ∈ [_], ∃ o, (b, o) ∈ R2 := fun b hb => by
      obtain ⟨o, ho⟩ := hwo b hb
      exact ⟨o, by rw [hR2e]; exact List.mem_append_right _ ho⟩
    refine' cend_of (by assumption) (by assumption) ((flr, listOf #[.ref rA, .ref U] er) :: (U, tup2 (.str (Str.ofString "number") tkr) (.int (kdfLook (ks.zip nk) g g) tkr2) er4) :: (pre2 ++ ((Dl, listOf ys₃.toArray ys₃.length) :: (wd, oD) :: (D, listOf ys.toArray eD) :: (L' + 1, oW) :: (p, instObj 136 dx) :: (dx, dictOf [⟨h1, .str (Str.ofString "numbers") t1, .ref nl⟩, ⟨h2, .str (Str.ofString "rows") t2, .ref rl⟩] 2) :: (nl, listOf vs.toArray e1) :: (rl, listOf rs.toArray e2) :: (pre ++ (fl, listOf lv.toArray eF) :: (newL ++ rest))))) ?sub ?off ⟨(flr, listOf #[.ref rA, .ref U] er) :: (U, tup2 (.str (Str.ofString "number") tkr) (.int (kdfLook (ks.zip nk) g g) tkr2) er4) :: pre2, rfl, ?rows, ?nd⟩
    case sub =>
      intro q hq
      rcases List.mem_cons.mp hq with rfl | h
      · k_mem
      rcases List.mem_cons.mp h with rfl | h
      · k_mem
      rcases List.mem_append.mp h with h | h
      · rcases List.mem_cons.mp h with rfl | h
        · k_mem
        rcases List.mem_cons.mp h with rfl | h
        · k_mem
        have : q ∈ R2 := by rw [hR2e]; exact List.mem_append_left _ h
        simp [this]
      · have : q ∈ R2 := by rw [hR2e]; exact List.mem_append_right _ h
        simp [this]
    case off =>
      intro q hq
      rcases List.mem_cons.mp hq with rfl | hq
      · refine ⟨Nat.ne_of_gt hwC, Nat.ne_of_gt hwD, fun hm => ?_⟩
        obtain ⟨o, ho⟩ := hwb _ hm
        exact Nat.lt_irrefl _ (allLt_mem w9 _ ho)
      rcases List.mem_cons.mp hq with rfl | hq
      · refine ⟨Nat.ne_of_gt (Nat.lt_trans hwC hU), Nat.ne_of_gt (Nat.lt_trans hwD hU), fun hm => ?_⟩
        obtain ⟨o, ho⟩ := hwb _ hm
        exact Nat.lt_irrefl _ (Nat.lt_trans (allLt_mem w9 _ ho) hU)
      · exact off q hq
    case rows =>
      rw [take_snoc hg, List.map_append]
      refine RowsAre.snoc (hrr.sub fun q hq => .tail _ (.tail _ hq)) ⟨flr, rA, U, _, _, _, _, _, _, _, rfl, .head _, .tail _ (.tail _ (List.mem_append_right _ hA)), .tail _ (.head _)⟩
    case nd =>
      intro q hq
      rcases List.mem_cons.mp hq with rfl | hq
      · exact Nat.ne_of_gt hw5
      rcases List.mem_cons.mp hq with rfl | hq
      · exact Nat.ne_of_gt (Nat.lt_trans hw5 hU)
      · exact hpre2 q hq
  · obtain ⟨w1, w2, w3, w4, w5, w6⟩ := (by assumption : @LT.lt Nat _ C _ ∧ @LT.lt Nat _ D₂ _ ∧ _)
    refine' cend_of (by assumption) (by assumption) ((_, tup2 (.int (kdfLook (ks.zip nk) q.1 0) _) (.int q.2 _) _) :: (pre ++ ((fl, listOf lv.toArray eF) :: (wd, oD) :: (D, listOf ys.toArray eD) :: (L' + 1, oW) :: (p, instObj 136 dx) :: (dx, dictOf [⟨h1, .str (Str.ofString "numbers") t1, .ref nl⟩, ⟨h2, .str (Str.ofString "rows") t2, .ref rl⟩] 2) :: (nl, listOf vs.toArray e1) :: (rl, listOf rs.toArray e2) :: (newL ++ rest)))) ?subc ?offc ⟨(_, tup2 (.int (kdfLook (ks.zip nk) q.1 0) _) (.int q.2 _) _) :: pre, rfl, ?ppc, ?ndc⟩
    case subc =>
      intro q hq
      rcases List.mem_cons.mp hq with rfl | h
      · k_mem
      rcases List.mem_cons.mp h with rfl | h
      · k_mem
      rcases List.mem_append.mp h with h | h
      · rcases List.mem_cons.mp h with rfl | h
        · k_mem
        have : q ∈ R := by rw [hR]; exact List.mem_append_left _ h
        simp [this]
      · have : q ∈ R := by rw [hR]; exact List.mem_append_right _ h
        simp [this]
    case offc =>
      intro q hq
      rcases List.mem_cons.mp hq with rfl | hq
      · refine ⟨Nat.ne_of_gt w1, Nat.ne_of_gt w2, fun hm => ?_⟩
        obtain ⟨o, ho⟩ := hwo _ hm
        exact Nat.lt_irrefl _ (allLt_mem w6 (_, o) (by rw [hR]; exact List.mem_append_right _ ho))
      · exact off q hq
    case ppc =>
      rw [take_snoc hq, List.map_append]
      exact PairsAre.snoc (hpp.sub fun q hq => .tail _ hq) ⟨_, _, _, _, rfl, .head _⟩
    case ndc =>
      intro q hq
      rcases List.mem_cons.mp hq with rfl | hq
      · exact Nat.ne_of_gt w5
      · exact hpre q hq
  · refine' fendU (by assumption) (by assumption) ((wd, _) :: (D, listOf ys.toArray eD) :: (L' + 1, oW) :: (p, instObj 136 dx) :: (dx, dictOf [⟨h1, .str (Str.ofString "numbers") t1, .ref nl⟩, ⟨h2, .str (Str.ofString "rows") t2, .ref rl⟩] 2) :: (nl, listOf vs.toArray e1) :: (rl, listOf rs.toArray e2) :: rest) ?subl ?offl ⟨_, oW, _, ?ml1, ?ml2, hW, rfl, (by assumption), ?ml3⟩
    case ml1 => ((repeat' (first | exact if_pos rfl | refine (if_neg (by decide)).trans ?_)) <;> (first | (with_reducible assumption) | rfl))
    case ml2 => ((repeat' (first | exact if_pos rfl | refine (if_neg (by decide)).trans ?_)) <;> (first | (with_reducible assumption) | rfl))
    case ml3 => rw [← zip_put hs hk1 hk2]; assumption
    case offl =>
      intro q hq
      rcases List.mem_cons.mp hq with rfl | hq
      · exact hwr (wd, oD) (.head _)
      · exact hwr q (.tail _ hq)
    case subl =>
      intro q hq
      simp only [List.mem_append, List.mem_cons] at hq ⊢
      grind
  · refine throw_next (by assumption) (by assumption) (by assumption) (by assumption) rfl fun h'' TH U => ?_
    exact hretE hq _ _ _ _ _ _ _ (by assumption) (TH.sub (by kcj_all)) U hoD
end
end
section
section
variable {prog : Program} {w : World} {A : Around} {E : Value → Shared → Prop} {s : Shared} {h₀ : Heap} {L : Addr} {env : Env} {body : List Stmt} {Q : Flow → Shared → Prop}
open PySem.Spec PyProof.Rows.LCg
/-- over a range of the ledger -/
theorem for_range {x : Str} {px : Pos} {r : Addr} {n : Nat} {b : Int} {t u v : Tok} {m : Str → Option Value} {news news₀ : List (Addr × Obj)}
    (hh : A.handled = none) (hx : env.kindOf x = some .local) (hp : (env.scope.kind == .class || (env.scope.kind == .module && env.locals != env.globals)) = false)
    (F : Fr h₀ env.locals s.heap m) (N : News h₀ env.locals s.heap news) (N₀ : News h₀ env.locals s.heap news₀) (hr : IsRange s.heap r 0 b 1 t u v) (hb : b = n) (hn : n < 1000)
    (J : Nat → (Str → Option Value) → List (Addr × Obj) → Prop) (hJ : J 0 m news)
    (turn : ∀ i ti m₁ news₁ own h₁ tk₁ I oI, i < n → J i m₁ news₁ → (∀ p ∈ news₁, p.1 ∉ [I]) → (∀ q ∈ own, q.1 = I) → (I, oI) ∈ own → (∀ q ∈ news₀, @LT.lt Nat _ q.1 I) → Fr h₀ env.locals h₁ (fun y => if y = x then some (.int i ti) else m₁ y) → News h₀ env.locals h₁ (news₁ ++ own) →
      wpAny (model prog w) A (execs body env) (FEnd h₀ env [I] own (J (i + 1)) { s with heap := h₁, toks := tk₁ } Q) E { s with heap := h₁, toks := tk₁ })
    (fin : ∀ h' tk m' news', Fr h₀ env.locals h' m' → News h₀ env.locals h' news' → J n m' news' → Q .next { s with heap := h', toks := tk }) :
    wpAny (model prog w) A (pyIter (.ref r)) (fun it s₂ => TurnsAt prog w A h₀ env (.Name x px) body Q E it s₂) E s := by
  subst hb
  obtain ⟨hsm, hsz⟩ := small_of hn
  refine wpAny_pyIter_range hr hsm ?_
  rw [hsz]
  have up : ∀ b o, s.heap.get? b = some o → (s.heap.push { cls := .type "range_iterator", data := .fields #[rawInt 0, rawInt (n : Int), rawInt 1] }).get? b = some o := fun b o e => Heap.get?_push_of_some _ e
  have W := range_walks (prog := prog) (w := w) (I := s.heap.objs.size) hh 0 n
  refine ⟨s.heap.objs.size, [s.heap.objs.size], [s.heap.objs.size], n, _, _, _, m, news, J, rfl,
    KTurns.ofWalks W (fun _ _ _ _ _ _ hq => wpAny_pure hq), ?_, ?_, ?_, ?_, F.keeps up, N.grown up, hJ, ?_,
    fun h' tk m' news' F' N' _ hj => fin h' tk m' news' F' N' hj⟩
  · intro hm; rw [List.mem_singleton] at hm; exact absurd F.ns.lt (hm ▸ Nat.lt_irrefl _)
  · intro b hb; rw [List.mem_singleton.mp hb]; exact next_is_new F
  · intro p hp hm; rw [List.mem_singleton] at hm; exact absurd (Heap.lt_size (N p hp).1) (hm ▸ Nat.lt_irrefl _)
  · show IsRangeIter _ _ _ _ _
    simpa using Heap.get?_push_size s.heap (o := { cls := .type "range_iterator", data := .fields #[rawInt 0, rawInt (n : Int), rawInt 1] }) rfl
  · intro i v' m₁ news₁ h₁ tk₁ own hi hP hJ' hnw hin hown hall st F₁ N₁
    obtain ⟨ti, rfl⟩ := hP
    refine for_asg (h₁ := h₁) hx hp F₁ N₁ fun h tk F₂ N₂ => ?_
    have e0 : (0 : Int) + (i : Int) = (i : Int) := by omega
    refine wpAny_mono (turn i ti m₁ news₁ own h tk s.heap.objs.size _ hi hJ' hnw (fun q hq => ?_) (hall _ (by simp) (next_is_new F) _ st) (fun q hq => Heap.lt_size (N₀ q hq).1) (by simpa [e0] using F₂) N₂) (fun f s₂ hf => ?_) fun _ _ e => e
    · have := hin q hq
      simpa using this
    · exact hf
end
section
variable {w : World} {mean : ExcName → Option Value} {mg mb : Str → Option Value} {dp un : Nat} {gd : Option (List Code)} {cn : Str} {cs : Scope} {a : Addr} {ccd : Value} {cl : List (Str × Addr)} {outer : List Env} {A₀ : Around} {base h₀ : Heap} {L : Addr} {m : Str → Option Value} {s : Shared} {Q E : Value → Shared → Prop} {news : List (Addr × Obj)}
/-- the ladle, with its pot's place in the ledger -/
theorem ladled_at {pt sp : Addr} {vs : List Value} {ns : List Int} {e1 e2 : Nat} {k many : Int} {t1 t2 : Tok} {u : Obj → List (Addr × Obj)}
    (B : Below A₀ base outer h₀) (F : Fr h₀ L s.heap m) (X : (hd.heap_39 w.params).In h₀) (N : News h₀ L s.heap news)
    (T : Top hd.view_39 Loo mean mg mb h₀) (hk : cs.kind = .function) (hdp : dp + 4 < recursionLimit) (hu : un + 8 < cLine) (U : UpdF pt (listOf #[.ref sp, .int k t1] e1) news u)
    (hS : (sp, listOf vs.toArray e2) ∈ news) (hne : @Ne Nat sp pt) (hi : IntsAre vs ns) (hl : ns.length < 1000) (hk0 : 0 ≤ k) (hk1 : k < 1000) (hm0 : 0 < many) (hm1 : many < 1000)
    (hret : ∀ (r : Int) (t tk : Tok) e h' tk', 0 ≤ r → r < many → Fr h₀ L h' m → News h₀ L h' (u (listOf #[.ref sp, .int (k + 1) tk] e)) → Q (.int r t) {s with heap := h', toks := tk'}) :
    wpAny (model Pg w) (ktrTop dp un gd cn cs L a ccd cl outer) (call (.ref 223) [.ref pt, .int many t2]) Q E s := by
  obtain ⟨pre, post, rfl, hg, h1, h2⟩ := U.split
  refine ladled_spec B F X N T hk hdp hu (List.mem_append_right _ (.head _)) hS hne hi hl hk0 hk1 hm0 hm1 fun r t tk e h' tk' hr0 hr1 F' N' => hret r t tk e h' tk' hr0 hr1 F' ?_
  rw [hg]
  refine news_in N' fun q hq => ?_
  rcases List.mem_append.mp hq with h | h
  · exact .tail _ (List.mem_filter.mpr ⟨List.mem_append_left _ h, decide_eq_true (h1 q h)⟩)
  rcases List.mem_cons.mp h with rfl | h
  · exact .head _
  · exact .tail _ (List.mem_filter.mpr ⟨List.mem_append_right _ (.tail _ h), decide_eq_true (h2 q h)⟩)
end
end
section
section
variable {prog : Program} {w : World} {A : Around} {E : Value → Shared → Prop} {s : Shared}
theorem item_any {value slice : PySem.Expr} {l : Addr} {vs : List Value} {k : Int} {u : Tok} {j : Nat} {v : Value} {Q : Value → Shared → Prop} (hl : s.heap.IsList l vs.toArray) (hlo : -(2 ^ 63) ≤ k) (hhi : k < 2 ^ 63) (hj : seqIndex? k vs.length = some j) (hx : vs[j]? = some v) (h : Q v s)
    (hs : subscripted slice false (.ref l) (.int k u) = operate [.ref l, .int k u] (getItem (.ref l) (.int k u))) :
    wpAny (model prog w) A (subscriptTail value slice (.ref l) (.int k u)) Q E s := by
  by_cases h0 : k < 0
  · exact kde_neg hl h0 hlo hj hx h hs
  · have e : j = k.toNat := by
      unfold seqIndex? at hj
      simp only [if_neg h0] at hj
      split at hj
      · exact (Option.some.inj hj).symm
      · cases hj
    subst e
    exact tail_any hl.typeIs slot_list_getitem.lookup (wpAny_getItem_list hl (by omega) hhi (by simpa using hx) h) hs
end
section
/-- the number before: nought ahead of the first -/
noncomputable def prevOf (ks : List Int) : Int := (ks.getLast?).getD 0
theorem prev_item {vs : List Value} {ks : List Int} {i : Nat} (h : IntsAre vs (ks ++ [0])) (hk : ks.length = i) : ∃ t j, seqIndex? ((i : Int) - 1) vs.length = some j ∧ vs[j]? = some (.int (prevOf ks) t) := by
  have e := h.length
  rw [List.length_append, hk] at e
  simp only [List.length_cons, List.length_nil] at e
  cases i with
  | zero =>
    have : ks = [] := List.eq_nil_of_length_eq_zero hk
    subst this
    have h0 : 0 < vs.length := by omega
    obtain ⟨t, ht⟩ := h.int_at 0 _ (List.getElem?_eq_getElem h0)
    refine ⟨t, 0, ?_, ?_⟩
    · unfold seqIndex?; rw [e]; simp
    · rw [List.getElem?_eq_getElem h0, ht]; rfl
  | succ n =>
    have hn : n < ks.length := by omega
    have hv : n < vs.length := by omega
    obtain ⟨t, ht⟩ := h.int_at n _ (List.getElem?_eq_getElem hv)
    refine ⟨t, n, ?_, ?_⟩
    · unfold seqIndex?
      rw [e]
      have h1 : ((n + 1 : Nat) : Int) - 1 = (n : Int) := by omega
      rw [h1]
      simp
      omega
    · rw [List.getElem?_eq_getElem hv, ht]
      have hg : (ks ++ [0]).getD n 0 = ks[n] := by simp [List.getD_eq_getElem?_getD, List.getElem?_append_left hn, hn]
      rw [hg]
      have : prevOf ks = ks[n] := by
        unfold prevOf
        rw [List.getLast?_eq_getElem?, hk]
        simp [hn]
      rw [this]
structure NumsOk (ks : List Int) : Prop where
  sorted : ks.Pairwise (· < ·)
  lo : ∀ k ∈ ks, 1 ≤ k
  hi : ∀ k ∈ ks, k ≤ 20 * (ks.length : Int)
theorem NumsOk.nil : NumsOk [] := ⟨.nil, nofun, nofun⟩
theorem le_prev {ks : List Int} (h : ks.Pairwise (· < ·)) : ∀ k ∈ ks, k ≤ prevOf ks := by
  intro k hk
  obtain ⟨i, hi, e⟩ := List.getElem_of_mem hk
  have hp : prevOf ks = ks[ks.length - 1]'(by omega) := by
    unfold prevOf
    rw [List.getLast?_eq_getElem?, List.getElem?_eq_getElem (by omega)]
    rfl
  rw [hp, ← e]
  by_cases q : i = ks.length - 1
  · subst q; exact Int.le_refl _
  · exact Int.le_of_lt ((List.pairwise_iff_getElem.mp h) i (ks.length - 1) hi (by omega) (by omega))
theorem prev_bounds {ks : List Int} (h : NumsOk ks) : 0 ≤ prevOf ks ∧ prevOf ks ≤ 20 * (ks.length : Int) := by
  cases e : ks.getLast? with
  | none =>
    have : prevOf ks = 0 := by unfold prevOf; rw [e]; rfl
    rw [this]
    constructor <;> omega
  | some k =>
    have hk : k ∈ ks := List.mem_of_getLast? e
    have : prevOf ks = k := by unfold prevOf; rw [e]; rfl
    rw [this]
    exact ⟨by have := h.lo k hk; omega, h.hi k hk⟩
theorem NumsOk.snoc {ks : List Int} {r : Int} (h : NumsOk ks) (h0 : 0 ≤ r) (h1 : r < 20) : NumsOk (ks ++ [prevOf ks + 1 + r]) := by
  obtain ⟨b0, b1⟩ := prev_bounds h
  refine ⟨?_, ?_, ?_⟩
  · rw [List.pairwise_append]
    refine ⟨h.sorted, List.pairwise_singleton _ _, fun a ha b hb => ?_⟩
    rw [List.mem_singleton] at hb
    have := le_prev h.sorted a ha
    omega
  · intro k hk
    rcases List.mem_append.mp hk with hk | hk
    · exact h.lo k hk
    · rw [List.mem_singleton] at hk; omega
  · intro k hk
    rw [List.length_append]
    simp only [List.length_cons, List.length_nil]
    rcases List.mem_append.mp hk with hk | hk
    · have := h.hi k hk; omega
    · rw [List.mem_singleton] at hk; omega
end
section
/-- the goals: each a number, or 999 -/
noncomputable def GoalsOk (ks gs : List Int) : Prop := ∀ g ∈ gs, g ∈ ks ∨ g = 999
theorem GoalsOk.snoc {ks gs : List Int} {g : Int} (h : GoalsOk ks gs) (hg : g ∈ ks ++ [999]) : GoalsOk ks (gs ++ [g]) := by
  intro x hx
  rcases List.mem_append.mp hx with hx | hx
  · exact h x hx
  · rw [List.mem_singleton] at hx
    subst hx
    rcases List.mem_append.mp hg with hg | hg
    · exact .inl hg
    · exact .inr (List.mem_singleton.mp hg)
theorem menu_item {vs : List Value} {l : List Int} {r : Int} (h : IntsAre vs l) (h0 : 0 ≤ r) (h1 : r < l.length) : ∃ t g, seqIndex? r vs.length = some r.toNat ∧ vs[r.toNat]? = some (.int g t) ∧ g ∈ l := by
  have e := h.length
  have hv : r.toNat < vs.length := by omega
  obtain ⟨t, ht⟩ := h.int_at r.toNat _ (List.getElem?_eq_getElem hv)
  refine ⟨t, l.getD r.toNat 0, ?_, by rw [List.getElem?_eq_getElem hv, ht], ?_⟩
  · have hn : ¬ r < 0 := by omega
    unfold seqIndex?
    simp only [if_neg hn]
    rw [if_pos]
    simp
    omega
  · have : r.toNat < l.length := by omega
    simp [List.getD_eq_getElem?_getD, this]
theorem small_idx {i : Nat} (h : i < 1000) : -(2 ^ 63) ≤ (i : Int) - 1 ∧ (i : Int) - 1 < 2 ^ 63 := by omega
end
section
theorem num_bounds {ks : List Int} {k : Int} (h : NumsOk ks) (hl : ks.length ≤ 4) (hk : k ∈ ks) : 1 ≤ k ∧ k ≤ 80 := by
  have := h.lo k hk
  have := h.hi k hk
  omega
theorem goal_bounds {ks gs : List Int} {g : Int} (h : NumsOk ks) (hl : ks.length ≤ 4) (hg : GoalsOk ks gs) (hm : g ∈ gs) : 1 ≤ g ∧ g ≤ 999 := by
  rcases hg g hm with q | q
  · have := num_bounds h hl q; omega
  · omega
/-- the text of one row -/
@[irreducible] noncomputable def rowText (k g : Int) : Str := Str.ofString (toString k) ++ Str.ofString " GOTO " ++ Str.ofString (toString g)
end
end
section
section
theorem fm_map {α β : Type} {f : α → Option β} {g : α → β} : ∀ {l : List α}, (∀ j ∈ l, f j = some (g j)) → l.filterMap f = l.map g
  | [], _ => rfl
  | a :: r, h => by rw [List.filterMap_cons, h a (.head _), List.map_cons, fm_map fun j hj => h j (.tail _ hj)]
theorem pick_drop (l : List Nat) (d : Nat) (hd : d ≤ l.length) : ((List.range (l.length - d)).map (d + ·)).filterMap (l.toArray[·]?) = l.drop d := by
  apply List.ext_getElem?
  intro i
  have e : ((List.range (l.length - d)).map (d + ·)).filterMap (l.toArray[·]?) = (List.range (l.length - d)).map fun j => l.getD (d + j) 0 := by
    rw [List.filterMap_map]
    refine fm_map fun j hj => ?_
    have hj' : d + j < l.length := by have := List.mem_range.mp hj; omega
    simp [hj']
  rw [e]
  by_cases h : i < l.length - d
  · have hi : d + i < l.length := by omega
    simp [h, hi]
  · simp [h]
theorem slice_drop {l : List Nat} {d : Nat} (h0 : 0 < d) (hd : d ≤ l.length) : Txt.slice ⟨l.toArray⟩ (some (d : Int)) none = ⟨(l.drop d).toArray⟩ := by
  have hn : (⟨l.toArray⟩ : Str).length = l.length := by simp [Str.length]
  have e : Builtin.Str.strSliceIndices (some (d : Int)) none 1 (⟨l.toArray⟩ : Str).length = (List.range (l.length - d)).map (d + ·) := by
    rw [hn]
    unfold Builtin.Str.strSliceIndices
    have h1 : ¬ ((d : Int) < 0) := by omega
    simp only [show (1 : Int) > 0 by decide, if_true, if_neg h1]
    have h2 : max 0 (min (d : Int) (l.length : Int)) = (d : Int) := by omega
    rw [h2]
    exact sliceRange_one d l.length
  unfold Txt.slice
  rw [e]
  have h3 : (((List.range (l.length - d)).map (d + ·)).length == (⟨l.toArray⟩ : Str).length) = false := by
    rw [hn]
    simp
    omega
  rw [if_neg (by simpa using h3)]
  rw [show ((List.range (l.length - d)).map (d + ·)).filterMap ((⟨l.toArray⟩ : Str).cps[·]?) = l.drop d from pick_drop l d hd]
end
section
theorem item_at {l : List Nat} {j a : Nat} (h : l[j]? = some a) : Txt.item ⟨l.toArray⟩ (j : Int) = ⟨#[a]⟩ := by
  have hj : j < l.length := (List.getElem?_eq_some_iff.mp h).1
  have e : Txt.charAt ⟨l.toArray⟩ (j : Int) = some a := by
    have hn : (⟨l.toArray⟩ : Str).length = l.length := by simp [Str.length]
    have hs : seqIndex? (j : Int) l.length = some j := by
      have h1 : ¬ ((j : Int) < 0) := by omega
      unfold seqIndex?
      simp only [if_neg h1]
      rw [if_pos (by simp; omega)]
      simp
    unfold Txt.charAt
    rw [hn, hs]
    simpa using h
  unfold Txt.item
  rw [e]
  rfl
noncomputable def digits10 : List Nat := [48, 49, 50, 51, 52, 53, 54, 55, 56, 57]
theorem dig_isDig : (digits10.all fun a => isDig ⟨#[a]⟩) = true := by decide +kernel
theorem dig_noBlank : (digits10.all fun a => !signIn (Str.ofString " \t") ⟨#[a]⟩) = true := by decide +kernel
theorem no_dig : isDig ⟨#[32]⟩ = false := by decide +kernel
theorem isDig_of {a : Nat} (h : a ∈ digits10) : isDig ⟨#[a]⟩ = true := List.all_eq_true.mp dig_isDig a h
theorem noBlank_of {a : Nat} (h : a ∈ digits10) : signIn (Str.ofString " \t") ⟨#[a]⟩ = false := by simpa using List.all_eq_true.mp dig_noBlank a h
theorem behind_dig {l : List Nat} {a : Nat} (ha : a ∈ digits10) : behind ⟨(a :: l).toArray⟩ 0 = 0 := by
  rw [behind_def]
  have hn : (⟨(a :: l).toArray⟩ : Str).length - (0 : Int).toNat = l.length + 1 := by simp [Str.length]
  rw [hn]
  show behindF _ (l.length + 1) 0 = 0
  unfold behindF
  rw [show Txt.item ⟨(a :: l).toArray⟩ ((0 : Nat) : Int) = ⟨#[a]⟩ from item_at rfl, noBlank_of ha]
  rfl
theorem split1 {l : List Nat} {a : Nat} (ha : a ∈ digits10) : splitNum ⟨(a :: 32 :: l).toArray⟩ = (min ((0 : Int) * 10 + (a : Nat) - 48) (65529 + 1), 1) := by
  rw [splitNum_def]
  have hn : (⟨(a :: 32 :: l).toArray⟩ : Str).length - 0 = l.length + 1 + 1 := by simp [Str.length]
  rw [hn]
  unfold splitF
  rw [show Txt.item ⟨(a :: 32 :: l).toArray⟩ ((0 : Nat) : Int) = ⟨#[a]⟩ from item_at rfl, if_pos (isDig_of ha)]
  unfold splitF
  rw [show Txt.item ⟨(a :: 32 :: l).toArray⟩ ((0 + 1 : Nat) : Int) = ⟨#[32]⟩ from item_at rfl, no_dig, if_neg (by decide)]
  rfl
theorem split2 {l : List Nat} {a b : Nat} (ha : a ∈ digits10) (hb : b ∈ digits10) : splitNum ⟨(a :: b :: 32 :: l).toArray⟩ = (min (min ((0 : Int) * 10 + (a : Nat) - 48) (65529 + 1) * 10 + (b : Nat) - 48) (65529 + 1), 2) := by
  rw [splitNum_def]
  have hn : (⟨(a :: b :: 32 :: l).toArray⟩ : Str).length - 0 = l.length + 1 + 1 + 1 := by simp [Str.length]
  rw [hn]
  unfold splitF
  rw [show Txt.item ⟨(a :: b :: 32 :: l).toArray⟩ ((0 : Nat) : Int) = ⟨#[a]⟩ from item_at rfl, if_pos (isDig_of ha)]
  unfold splitF
  rw [show Txt.item ⟨(a :: b :: 32 :: l).toArray⟩ ((0 + 1 : Nat) : Int) = ⟨#[b]⟩ from item_at rfl, if_pos (isDig_of hb)]
  unfold splitF
  rw [show Txt.item ⟨(a :: b :: 32 :: l).toArray⟩ ((0 + 1 + 1 : Nat) : Int) = ⟨#[32]⟩ from item_at rfl, no_dig, if_neg (by decide)]
  rfl
theorem dig_notIn : (digits10.all fun a => !((Str.ofString " \t").cps.contains a)) = true := by decide +kernel
theorem strip_some {l : List Nat} {a : Nat} (ha : a ∈ digits10) : Txt.stripChars ⟨(a :: l).toArray⟩ (Str.ofString " \t") ≠ Str.ofString "" := by
  have hna : (Str.ofString " \t").cps.contains a = false := by simpa using List.all_eq_true.mp dig_notIn a ha
  unfold Txt.stripChars
  rw [PyProof.Rows.stripBy_eq]
  have hlo : stripLo (Str.ofString " \t").cps.contains true ⟨(a :: l).toArray⟩ = 0 := by
    obtain ⟨_, q, _⟩ := PyProof.Rows.lo_facts (Str.ofString " \t").cps.contains ⟨(a :: l).toArray⟩
    rcases Nat.eq_zero_or_pos (stripLo (Str.ofString " \t").cps.contains true ⟨(a :: l).toArray⟩) with z | z
    · exact z
    · have := q 0 z
      rw [show (⟨(a :: l).toArray⟩ : Str).cps.getD 0 0 = a from rfl, hna] at this
      cases this
  rw [hlo]
  obtain ⟨_, h0, h1, h2⟩ := PyProof.Rows.hi_facts (Str.ofString " \t").cps.contains ⟨(a :: l).toArray⟩ 0 (Nat.zero_le _)
  have hp : 0 < stripHi (Str.ofString " \t").cps.contains true ⟨(a :: l).toArray⟩ 0 := by
    rcases Nat.eq_zero_or_pos (stripHi (Str.ofString " \t").cps.contains true ⟨(a :: l).toArray⟩ 0) with z | z
    · have := h1 0 (by rw [z]; exact Nat.le_refl _) (by simp [Str.length])
      rw [show (⟨(a :: l).toArray⟩ : Str).cps.getD 0 0 = a from rfl, hna] at this
      cases this
    · exact z
  intro e
  have e2 := congrArg (fun z : Str => z.cps.size) e
  have e3 : (Str.ofString "").cps.size = 0 := by decide +kernel
  simp only [e3] at e2
  have e4 : (Builtin.Str.strSub ⟨(a :: l).toArray⟩ 0 (stripHi (Str.ofString " \t").cps.contains true ⟨(a :: l).toArray⟩ 0)).cps.size = stripHi (Str.ofString " \t").cps.contains true ⟨(a :: l).toArray⟩ 0 := by
    unfold Builtin.Str.strSub
    simp only [Array.size_extract]
    have : (⟨(a :: l).toArray⟩ : Str).length = (a :: l).toArray.size := rfl
    omega
  omega
end
end
section
section
noncomputable def digs (k : Int) : List Nat := if k < 10 then [48 + k.toNat] else if k < 100 then [48 + (k / 10).toNat, 48 + (k % 10).toNat] else [48 + (k / 100).toNat, 48 + (k / 10 % 10).toNat, 48 + (k % 10).toNat]
noncomputable def goals81 : List Int := ((List.range 80).map fun (n : Nat) => (n : Int) + 1) ++ [999]
theorem mem_81 {g : Int} (h : (1 ≤ g ∧ g ≤ 80) ∨ g = 999) : g ∈ goals81 := by
  unfold goals81
  rcases h with ⟨a, b⟩ | rfl
  · refine List.mem_append_left _ (List.mem_map.mpr ⟨(g - 1).toNat, List.mem_range.mpr (by omega), by omega⟩)
  · simp
theorem digs_ok : (goals81.all fun k => decide (Str.ofString (toString k) = ⟨(digs k).toArray⟩)) = true := by decide +kernel
theorem digs_is {g : Int} (h : (1 ≤ g ∧ g ≤ 80) ∨ g = 999) : Str.ofString (toString g) = ⟨(digs g).toArray⟩ := of_decide_eq_true (List.all_eq_true.mp digs_ok g (mem_81 h))
noncomputable def tailOf (g : Int) : List Nat := 32 :: 71 :: 79 :: 84 :: 79 :: 32 :: digs g
noncomputable def gotoOk (g : Int) : Bool :=
  let x : Str := ⟨(tailOf g).toArray⟩
  decide (6 < x.length) && (decide (x.length ≤ 10) && ((x.cps.toList.all fun c => decide (c < 97)) && (decide ((behind x 0 : Int) = 1) && (decide ((Txt.item x 1).cps.getD 0 0 = 71) && (decide (wordAt x 1 = Str.ofString "GOTO") &&
    (decide ((behind x (1 + 4) : Int) = 6) && (signIn (Str.ofString "0123456789") (Txt.item x 6) && (decide (readNum x 6 = (g, x.length)) && decide ((behind x x.length : Int) = x.length)))))))))

theorem goto_all : (goals81.all gotoOk) = true := by decide +kernel

theorem a_is : (Str.ofString "a").cps.toList = [97] := by decide +kernel
theorem goto_text {g : Int} (h : (1 ≤ g ∧ g ≤ 80) ∨ g = 999) : GotoText ⟨(tailOf g).toArray⟩ g := by
  have q := List.all_eq_true.mp goto_all g (mem_81 h)
  unfold gotoOk at q
  simp only [Bool.and_eq_true, decide_eq_true_eq, List.all_eq_true] at q
  obtain ⟨a1, a2, a3, a4, a5, a6, a7, a8, a9, a10⟩ := q
  refine ⟨a1, a2, fun c hc => .inl ?_, a4, a5, a6, a7, a8, a9, a10⟩
  rw [a_is]
  exact List.Lex.rel (a3 c hc)
theorem goto_sign : Str.ofString " GOTO " = ⟨#[32, 71, 79, 84, 79, 32]⟩ := by decide +kernel
theorem row_is {k g : Int} (hk : 1 ≤ k ∧ k ≤ 80) (hg : (1 ≤ g ∧ g ≤ 80) ∨ g = 999) : rowText k g = ⟨(digs k ++ tailOf g).toArray⟩ := by
  unfold rowText
  rw [digs_is (.inl hk), digs_is hg, goto_sign]
  apply PySem.Str.ext'
  show ((digs k).toArray ++ #[32, 71, 79, 84, 79, 32]) ++ (digs g).toArray = _
  simp [tailOf]
theorem digs_len {g : Int} (h : (1 ≤ g ∧ g ≤ 80) ∨ g = 999) : (digs g).length ≤ 3 := by
  unfold digs
  split
  · simp
  · split <;> simp
theorem dig_mem {n : Nat} (h : n < 10) : 48 + n ∈ digits10 := by
  exact (by decide : ∀ n < 10, 48 + n ∈ digits10) n h
theorem row_text {k g : Int} (hk : 1 ≤ k ∧ k ≤ 80) (hg : (1 ≤ g ∧ g ≤ 80) ∨ g = 999) : RowText (rowText k g) k g := by
  rw [row_is hk hg]
  have hlg := digs_len hg
  have G := goto_text hg
  by_cases h : k < 10
  · have hd : digs k = [48 + k.toNat] := by unfold digs; rw [if_pos h]
    have ha : 48 + k.toNat ∈ digits10 := dig_mem (by omega)
    rw [hd]
    refine ⟨?_, ?_, ⟨1, ?_, by decide, ?_⟩, hk.1, by omega, ?_⟩
    · simp [Str.length, tailOf]; omega
    · show ((behind ⟨((48 + k.toNat) :: tailOf g).toArray⟩ 0 : Nat) : Int) = 0
      rw [behind_dig ha]; rfl
    · show splitNum ⟨((48 + k.toNat) :: 32 :: (tailOf g).tail).toArray⟩ = _
      rw [split1 ha]
      refine Prod.ext ?_ rfl
      show min ((0 : Int) * 10 + ((48 + k.toNat : Nat) : Int) - 48) (65529 + 1) = k
      omega
    · have z := slice_drop (l := [48 + k.toNat] ++ tailOf g) (d := 1) (by decide) (by simp)
      rw [z]
      exact G
    · exact strip_some ha
  · have hd : digs k = [48 + (k / 10).toNat, 48 + (k % 10).toNat] := by unfold digs; rw [if_neg h, if_pos (by omega)]
    have ha : 48 + (k / 10).toNat ∈ digits10 := dig_mem (by omega)
    have hb : 48 + (k % 10).toNat ∈ digits10 := dig_mem (by omega)
    rw [hd]
    refine ⟨?_, ?_, ⟨2, ?_, by decide, ?_⟩, hk.1, by omega, ?_⟩
    · simp [Str.length, tailOf]; omega
    · show ((behind ⟨((48 + (k / 10).toNat) :: ((48 + (k % 10).toNat) :: tailOf g)).toArray⟩ 0 : Nat) : Int) = 0
      rw [behind_dig ha]; rfl
    · show splitNum ⟨((48 + (k / 10).toNat) :: (48 + (k % 10).toNat) :: 32 :: (tailOf g).tail).toArray⟩ = _
      rw [split2 ha hb]
      refine Prod.ext ?_ rfl
      show min (min ((0 : Int) * 10 + ((48 + (k / 10).toNat : Nat) : Int) - 48) (65529 + 1) * 10 + ((48 + (k % 10).toNat : Nat) : Int) - 48) (65529 + 1) = k
      omega
    · have z := slice_drop (l := [48 + (k / 10).toNat, 48 + (k % 10).toNat] ++ tailOf g) (d := 2) (by decide) (by simp)
      rw [z]
      exact G
    · exact strip_some ha
theorem row_len {k g : Int} (hk : 1 ≤ k ∧ k ≤ 80) (hg : (1 ≤ g ∧ g ≤ 80) ∨ g = 999) : (rowText k g).length ≤ 20 := by
  rw [row_is hk hg]
  have h1 := digs_len (g := k) (.inl hk)
  have h2 := digs_len hg
  simp only [Str.length, List.size_toArray, List.length_append, tailOf, List.length_cons]
  omega
theorem row_noNl {k g : Int} (hk : 1 ≤ k ∧ k ≤ 80) (hg : (1 ≤ g ∧ g ≤ 80) ∨ g = 999) : 10 ∉ (rowText k g).cps.toList := by
  rw [row_is hk hg]
  have lo : ∀ z : Int, ∀ c ∈ digs z, 48 ≤ c := by
    intro z c hc
    unfold digs at hc
    split at hc
    · simp at hc; omega
    · split at hc <;> simp at hc <;> omega
  intro hm
  have hm' : 10 ∈ digs k ++ tailOf g := by simpa using hm
  rcases List.mem_append.mp hm' with q | q
  · have := lo k 10 q; omega
  · simp only [tailOf, List.mem_cons] at q
    rcases q with q | q | q | q | q | q | q <;> first | omega | (have := lo g 10 q; omega)
end
end
section
section
/-- tokens and hashes of the program's dict, made letters -/
theorem prog_abs {h₀ h : Heap} {L : Addr} {a b c d : Addr × Obj} {dx nml rl : Addr} {h1 h2 : Int} {t1 t2 : Tok} {rest : List (Addr × Obj)}
    (N : News h₀ L h (a :: b :: c :: d :: (dx, dictOf [⟨h1, .str (Str.ofString "numbers") t1, .ref nml⟩, ⟨h2, .str (Str.ofString "rows") t2, .ref rl⟩] 2) :: rest)) :
    ∃ h1 t1 h2 t2, News h₀ L h (a :: b :: c :: d :: (dx, dictOf [⟨h1, .str (Str.ofString "numbers") t1, .ref nml⟩, ⟨h2, .str (Str.ofString "rows") t2, .ref rl⟩] 2) :: rest) := ⟨_, _, _, _, N⟩
/-- the texts of all the rows -/
noncomputable def texts (ks gs : List Int) : List Str := (ks.zip gs).map fun q => rowText q.1 q.2
theorem goal_cases {ks gs : List Int} {g : Int} (h : NumsOk ks) (hl : ks.length ≤ 4) (hg : GoalsOk ks gs) (hm : g ∈ gs) : (1 ≤ g ∧ g ≤ 80) ∨ g = 999 := by
  rcases hg g hm with q | q
  · exact .inl (num_bounds h hl q)
  · exact .inr q
theorem zip_mem {ks gs : List Int} {q : Int × Int} (h : q ∈ ks.zip gs) : q.1 ∈ ks ∧ q.2 ∈ gs := by
  obtain ⟨a, b⟩ := q
  exact ⟨(List.of_mem_zip h).1, (List.of_mem_zip h).2⟩
theorem texts_at {ks gs : List Int} {i : Nat} {y : Str} {k g : Int} (h : (texts ks gs)[i]? = some y) (hk : ks[i]? = some k) (hg : gs[i]? = some g) : y = rowText k g := by
  unfold texts at h
  have hz : (ks.zip gs)[i]? = some (k, g) := by rw [List.getElem?_zip_eq_some]; exact ⟨hk, hg⟩
  rw [List.getElem?_map, hz] at h
  exact (Option.some.inj h).symm
theorem texts_len {ks gs : List Int} (hgl : gs.length = ks.length) : (texts ks gs).length = ks.length := by unfold texts; rw [List.length_map, List.length_zip]; omega
theorem sum_le : ∀ (l : List Str) (b : Nat), (∀ x ∈ l, x.length ≤ b) → (l.map (·.length)).sum ≤ l.length * b
  | [], b, _ => by simp
  | x :: r, b, h => by
    have h1 := h x (.head _)
    have h2 := sum_le r b fun y hy => h y (.tail _ hy)
    simp only [List.map_cons, List.sum_cons, List.length_cons]
    rw [Nat.succ_mul]
    omega
theorem texts_row {ks gs : List Int} (h : NumsOk ks) (hl : ks.length ≤ 4) (hg : GoalsOk ks gs) : ∀ x ∈ texts ks gs, x.length ≤ 20 ∧ 10 ∉ x.cps.toList := by
  intro x hx
  unfold texts at hx
  obtain ⟨q, hq, rfl⟩ := List.mem_map.mp hx
  obtain ⟨a, b⟩ := zip_mem hq
  exact ⟨row_len (num_bounds h hl a) (goal_cases h hl hg b), row_noNl (num_bounds h hl a) (goal_cases h hl hg b)⟩
theorem join_len (c : Nat) : ∀ (l : List Str), (Str.join ⟨#[c]⟩ l).length ≤ (l.map (·.length)).sum + l.length
  | [] => by show (0 : Nat) ≤ _; exact Nat.zero_le _
  | [x] => by show x.length ≤ _; simp
  | x :: y :: r => by
    have ih := join_len c (y :: r)
    have e : Str.join ⟨#[c]⟩ (x :: y :: r) = x ++ ⟨#[c]⟩ ++ Str.join ⟨#[c]⟩ (y :: r) := rfl
    rw [e]
    simp only [Str.length_append, List.map_cons, List.sum_cons, List.length_cons] at ih ⊢
    have : (⟨#[c]⟩ : Str).length = 1 := rfl
    omega
theorem nl_is : Str.ofString "\n" = ⟨#[10]⟩ := by decide +kernel
theorem texts_join {ks gs : List Int} (h : NumsOk ks) (hl : ks.length ≤ 4) (hl1 : 1 ≤ ks.length) (hg : GoalsOk ks gs) (hgl : gs.length = ks.length) :
    Txt.split (Txt.join (Str.ofString "\n") (texts ks gs)) (Str.ofString "\n") = texts ks gs ∧ (Txt.join (Str.ofString "\n") (texts ks gs)).length < 100000 := by
  have e : Txt.join (Str.ofString "\n") (texts ks gs) = Str.join ⟨#[10]⟩ (texts ks gs) := by rw [nl_is]; exact StrLaws.glued_eq_join _ _
  rw [e, nl_is]
  have hr := texts_row h hl hg
  have hn := texts_len hgl
  refine ⟨split_join (fun z => ?_) fun x hx => (hr x hx).2, ?_⟩
  · rw [z] at hn; simp at hn; omega
  · have h1 := join_len 10 (texts ks gs)
    have h2 := sum_le (texts ks gs) 20 fun x hx => (hr x hx).1
    omega
theorem texts_sum {ks gs : List Int} (h : NumsOk ks) (hl : ks.length ≤ 4) (hg : GoalsOk ks gs) (hgl : gs.length = ks.length) : ((texts ks gs).map (·.length)).sum + (texts ks gs).length * 64 ≤ 16777216 := by
  have hr := texts_row h hl hg
  have hn := texts_len hgl
  have h2 := sum_le (texts ks gs) 20 fun x hx => (hr x hx).1
  omega
theorem texts_text {ks gs : List Int} (h : NumsOk ks) (hl : ks.length ≤ 4) (hg : GoalsOk ks gs) : ∀ (i : Nat) y k g, (texts ks gs)[i]? = some y → ks[i]? = some k → gs[i]? = some g → RowText y k g := by
  intro i y k g h1 h2 h3
  rw [texts_at h1 h2 h3]
  exact row_text (num_bounds h hl (List.mem_of_getElem? h2)) (goal_cases h hl hg (List.mem_of_getElem? h3))
/-- rows of a ledger, without an address that is no row's -/
theorem RowsAre.off {h₀ h : Heap} {L dx : Addr} {oX : Obj} {led news : List (Addr × Obj)} {rs : List Value} {gs : List Int} (R : RowsAre news rs gs) (hl : ∀ q ∈ news, q ∈ led) (N : News h₀ L h led) (hdx : (dx, oX) ∈ led) (hc : oX.cls = .type "dict") :
    RowsAre (news.filter fun q => decide (q.1 ≠ dx)) rs gs := by
  refine ⟨R.1, fun i v g h1 h2 => ?_⟩
  obtain ⟨T, A, B, a1, a2, b1, b2, e1, e2, e3, rfl, i1, i2, i3⟩ := R.2 i v g h1 h2
  have off : ∀ {a : Addr} {o : Obj}, (a, o) ∈ news → o.cls ≠ .type "dict" → (a, o) ∈ news.filter fun q => decide (q.1 ≠ dx) := fun ha ho =>
    List.mem_filter.mpr ⟨ha, decide_eq_true (news_ne N (hl _ ha) hdx (by rw [hc]; exact ho))⟩
  exact ⟨T, A, B, a1, a2, b1, b2, e1, e2, e3, rfl, off i1 (by simp [W.listOf]), off i2 (by simp), off i3 (by simp)⟩
end
section
/-- a comprehension's ledger, with one object brought to the front -/
theorem comp_led {h₀ h : Heap} {L C D a : Addr} {oC oD o : Obj} {news own : List (Addr × Obj)} (N : News h₀ L h ((C, oC) :: (D, oD) :: (news ++ own))) (hm : (a, o) ∈ news) :
    ∃ R, R = news ++ own ∧ News h₀ L h ((C, oC) :: (D, oD) :: (a, o) :: R) :=
  ⟨_, rfl, news_in N fun q hq => by
    rcases List.mem_cons.mp hq with rfl | hq
    · exact .head _
    rcases List.mem_cons.mp hq with rfl | hq
    · exact .tail _ (.head _)
    rcases List.mem_cons.mp hq with rfl | hq
    · exact .tail _ (.tail _ (List.mem_append_left _ hm))
    · exact .tail _ (.tail _ hq)⟩
end
end
section
section
theorem place_take {ks : List Int} {old r : Int} (hs : ks.Pairwise (· < ·)) (h : IsPlace ks old r) : (ks.filter fun k => decide (k < old)) = ks.take r.toNat := by
  obtain ⟨h0, h1, h2, h3⟩ := h
  have e : ks = ks.take r.toNat ++ ks.drop r.toNat := (List.take_append_drop _ _).symm
  have a : (ks.take r.toNat).filter (fun k => decide (k < old)) = ks.take r.toNat := by
    rw [List.filter_eq_self]
    intro k hk
    obtain ⟨i, hi, q⟩ := List.getElem_of_mem hk
    rw [List.length_take] at hi
    rw [List.getElem_take] at q
    have := h2 i (by omega)
    have hlt : i < ks.length := by omega
    simp [List.getD_eq_getElem?_getD, hlt, q] at this
    simpa using this
  have b : (ks.drop r.toNat).filter (fun k => decide (k < old)) = [] := by
    rw [List.filter_eq_nil_iff]
    intro k hk
    obtain ⟨i, hi, q⟩ := List.getElem_of_mem hk
    rw [List.length_drop] at hi
    rw [List.getElem_drop] at q
    have hlt : r.toNat + i < ks.length := by omega
    have := h3 (r.toNat + i) (by omega) hlt
    simp [List.getD_eq_getElem?_getD, hlt, q] at this
    simpa using this
  conv => lhs; rw [e]
  rw [List.filter_append, a, b, List.append_nil]
theorem place_some {ks : List Int} {old : Int} (hs : ks.Pairwise (· < ·)) : ∃ r, IsPlace ks old r := by
  induction ks with
  | nil => exact ⟨0, by omega, by simp, fun i h => by omega, fun i h h' => by simp at h'⟩
  | cons k t ih =>
    by_cases hk : k < old
    · obtain ⟨r, h0, h1, h2, h3⟩ := ih (List.pairwise_cons.mp hs).2
      refine ⟨r + 1, by omega, by simp; omega, fun i hi => ?_, fun i hi hl => ?_⟩
      · cases i with
        | zero => simpa using hk
        | succ j => simpa using h2 j (by omega)
      · cases i with
        | zero => omega
        | succ j => simpa using h3 j (by omega) (by simpa using hl)
    · refine ⟨0, by omega, by simp; omega, fun i h => by omega, fun i _ hl => ?_⟩
      cases i with
      | zero => simp; omega
      | succ j =>
        have hj : j < t.length := by simpa using hl
        have := (List.pairwise_cons.mp hs).1 t[j] (List.getElem_mem _)
        simp [List.getD_eq_getElem?_getD, hj]
        omega
theorem refused_iff {ks : List Int} {old r new step : Int} (hn : NumsOk ks) (h : IsPlace ks old r) : refusedL (ks.filter fun k => decide (k < old)) ks new step ↔ refusedR ks r new step := by
  rw [place_take hn.sorted h]
  have h0 := h.1
  have h1 := h.2.1
  have hl : ((ks.take r.toNat).length : Int) = r := by rw [List.length_take]; omega
  unfold refusedL refusedR
  rw [hl]
  have hne : ks.take r.toNat ≠ [] ↔ 0 < r := by
    rw [← List.length_pos_iff]
    omega
  have e1 : (ks.take r.toNat).length = r.toNat := by omega
  rw [e1]
  by_cases hr : 0 < r
  · rw [if_pos hr]
    have hi : r.toNat - 1 < ks.length := by omega
    have e2 : (ks.take r.toNat).getD (r.toNat - 1) 0 = ks.getD (r - 1).toNat 0 := by
      have q : (r - 1).toNat = r.toNat - 1 := by omega
      have hlt : r.toNat - 1 < r.toNat := by omega
      rw [q]
      simp [List.getD_eq_getElem?_getD, List.getElem?_take, hlt]
    have e3 : 1 ≤ ks.getD (r - 1).toNat 0 := by
      have q : (r - 1).toNat < ks.length := by omega
      have := hn.lo ks[(r - 1).toNat] (List.getElem_mem _)
      rw [List.getD_eq_getElem?_getD, List.getElem?_eq_getElem q]
      exact this
    rw [e2]
    simp only [hne, hr, true_and]
    have e4 : r.toNat < ks.length ↔ 0 < (ks.length : Int) - r := by omega
    rw [e4]
    constructor
    · rintro (q | q | q | q)
      · exact .inl q
      · exact .inr (.inl (by omega))
      · exact .inr (.inl (by omega))
      · exact .inr (.inr q)
    · rintro (q | q | q)
      · exact .inl q
      · exact .inr (.inr (.inl (by omega)))
      · exact .inr (.inr (.inr q))
  · rw [if_neg hr]
    have e4 : r.toNat < ks.length ↔ 0 < (ks.length : Int) - r := by omega
    rw [e4]
    simp only [hne, hr, false_and, false_or]
theorem refused_all {ks : List Int} {old new step : Int} (hn : NumsOk ks) (h : ∀ r, IsPlace ks old r → refusedR ks r new step) : refusedL (ks.filter fun k => decide (k < old)) ks new step := by
  obtain ⟨r, hr⟩ := place_some (ks := ks) (old := old) hn.sorted
  exact (refused_iff hn hr).mpr (h r hr)
theorem due_same {ks nk : List Int} {old r new step : Int} (hn : NumsOk ks) (h : IsPlace ks old r) (e : nk = ks.take r.toNat ++ stepped new step (ks.length - r.toNat)) :
    (ks.filter fun k => decide (k < old)) ++ stepped new step (ks.length - (ks.filter fun k => decide (k < old)).length) = nk := by
  have h0 := h.1
  have h1 := h.2.1
  rw [place_take hn.sorted h, e]
  have : (ks.take r.toNat).length = r.toNat := by rw [List.length_take]; omega
  rw [this]
end
end
section
section
/-- an exception object of BasicError, with its dict -/
noncomputable def KInst (h : Heap) (e : Addr) (mA : Str → Option Value) : Prop := ∃ o dx, h.get? e = some o ∧ o.cls = .ref 33 ∧ (∀ c, o.data ≠ .cls c) ∧ o.dict = some dx ∧ h.Ns dx mA
variable {prog : Program} {w : World} {A : Around} {E : Value → Shared → Prop} {h : Heap} {g : Array GenState} {d : Drawn} {t : Nat} {os : OsState} {e : Addr} {mA : Str → Option Value}
  {nm q : Str} {N : Addr} {bs : List Value} {sn : List Str} {sub : List Value} {ab : Bool} {col : Option Bool} {dd : Option Addr} {k0 k1 k2 k3 k5 : Option Value} {mN : Str → Option Value}
theorem kind_entry2 {v : Value} {tk : Tok} {Q : Fin → Shared → Prop} (K : Cls33 h nm q N bs sn sub ab col dd k0 k1 k2 k3 k5 mN) (I : KInst h e mA) (hv : mA "kind" = some v) (hq : Q (.done (.ret v)) ⟨h, g, d, t, os⟩) :
    wpAny (model prog w) A (Builtin.«object.__getattribute__» ⟨[.ref e, .str "kind" tk], []⟩) Q E ⟨h, g, d, t, os⟩ := by
  obtain ⟨o, dx, hx, hc, hnc, hdx, hns⟩ := I
  have hC := K.obj
  unfold Builtin.«object.__getattribute__»
  repeat (any_goals (first | assumption | (with_reducible refine wpAny_loadPart_at hx ?_; rw [hc]) | (with_reducible refine wpAny_typeLookup_exc hC K.ns F.store_Exception.mro lk_kind ?_; rw [K.noKind]) | wp_step))
  split
  · rename_i c hcd
    exact absurd hcd (hnc c)
  unfold instanceDict
  repeat (first | (with_reducible refine wpAny_loadPart_at hx ?_; rw [hc]) | with_reducible refine wpAny_loadPart_at hC ?_ | wp_step)
  rw [hdx]
  unfold Builtin.ObjectAttr.inDict
  repeat (any_goals (first | assumption | (with_reducible refine wpAny_nsGet hns ?_; rw [hv]) | wp_step))
theorem kind_call2 {v : Value} {tk : Tok} {R : Result → Shared → Prop} (K : Cls33 h nm q N bs sn sub ab col dd k0 k1 k2 k3 k5 mN) (I : KInst h e mA) (hv : mA "kind" = some v) (hq : R (.ok (.ret v)) ⟨h, g, d, t, os⟩) :
    codeAny (model prog w) A (.call (.builtin "BaseException.__getattribute__") ⟨[.ref e, .str "kind" tk], []⟩) R ⟨h, g, d, t, os⟩ := by
  obtain ⟨o, _, hx, hc, _⟩ := id I
  exact codeAny_call_builtin F.attr_Exception.ga.plain F.entry_bexc_ga (kind_check K hx hc (kind_entry2 K I hv hq))
/-- e.kind -/
theorem kind_load2 {v : Value} {expr : Bool} {Q : Value → Shared → Prop} (K : Cls33 h nm q N bs sn sub ab col dd k0 k1 k2 k3 k5 mN) (I : KInst h e mA) (hv : mA "kind" = some v) (hh : handedOut v = pure v) (hq : Q v ⟨h, g, d, t + 1, os⟩) :
    wpAny (model prog w) A (getAttr (.ref e) "kind" expr) Q E ⟨h, g, d, t, os⟩ := by
  obtain ⟨o, _, hx, hc, _⟩ := id I
  have hC := K.obj
  have f3 := F.attr_Exception.ga.bind (.ref e)
  have hx0 : (expr && onTheHeap (Value.builtin "BaseException.__getattribute__")) = false := by cases expr <;> rfl
  have hx2 : (Value.builtin "BaseException.__getattribute__" == Value.builtin "object.__getattribute__") = false := by decide +kernel
  have hx1 : (onTheHeap (Value.ref 33) && Value.builtin "BaseException.__getattribute__" == Value.builtin "object.__getattribute__") = false := by rw [hx2]; rfl
  unfold getAttr getAttrBy
  repeat (any_goals (first | assumption | (with_reducible refine wpAny_loadPart_at hx ?_; rw [hc]) | (with_reducible refine wpAny_typeLookup_exc hC K.ns F.store_Exception.mro F.attr_Exception.ga.lookup ?_; rw [K.noGet]) | (with_reducible refine wpAny_typeLookup_exc hC K.ns F.store_Exception.mro F.attrBase_Exception.noGetattr ?_; rw [K.noMiss]) | wp_step))
  refine kind_call2 K I hv ?_
  show wpAny _ _ (handedOut v) _ _ _
  rw [hh]
  exact wpAny_pure hq
end
section
open PySem.Spec PyProof.Rows.LCg
variable {prog : Program} {w : World} {A : Around} {E : Value → Shared → Prop} {s : Shared} {h₀ : Heap} {L : Addr} {m : Str → Option Value} {news : List (Addr × Obj)}
/-- error.kind, in the ledger -/
theorem kind_at {e D : Addr} {oe oD : Obj} {v : Value} {expr : Bool} {Q : Value → Shared → Prop} (F : Fr h₀ L s.heap m) (X : (hd.heap_39 w.params).In h₀) (N : News h₀ L s.heap news) (he : (e, oe) ∈ news) (hD : (D, oD) ∈ news)
    (h1 : oe.cls = .ref 33) (h2 : oe.dict = some D) (h3 : ∀ c, oe.data ≠ .cls c) (h4 : NsObj oD (fun y => if y = "kind" then some v else none)) (hh : handedOut v = pure v) (hq : Q v { s with toks := s.toks + 1 }) :
    wpAny (model prog w) A (getAttr (.ref e) "kind" expr) Q E s := by
  obtain ⟨nm, q, Ns, bs, sn, sub, ab, col, dd, k0, k1, k2, k3, k5, mN, K⟩ := cls33 X
  obtain ⟨hp, g, d, t, os⟩ := s
  exact kind_load2 ⟨F.keep _ _ K.obj, K.ns.keeps F.keep, K.init, K.noKind, K.noSet, K.noGet, K.noMiss⟩ ⟨oe, D, (N _ he).1, h1, h3, h2, h4.ns (N _ hD).1⟩ (if_pos rfl) hh hq
end
end
section
section
open PySem.Spec PyProof.Rows.LCg
noncomputable def rowD (g : Int) : PyData := .list [.tuple [.str (Str.ofString "word"), .str (Str.ofString "GOTO")], .tuple [.str (Str.ofString "number"), .int g]]
noncomputable def pairD (q : Int × Int) : PyData := .tuple [.int q.1, .int q.2]
theorem readsAll_of {α : Type} {h : Heap} (f : α → PyData) : ∀ {vs : List Value} {xs : List α}, vs.length = xs.length → (∀ (i : Nat) v x, vs[i]? = some v → xs[i]? = some x → ∃ as, Reads h v (f x) as) → ∃ as, ReadsAll h vs (xs.map f) as
  | [], [], _, _ => ⟨[], .nil⟩
  | v :: vs, x :: xs, hl, hi => by
    obtain ⟨a, ha⟩ := hi 0 v x rfl rfl
    obtain ⟨as, has⟩ := readsAll_of f (vs := vs) (xs := xs) (by simpa using hl) fun i v' x' h1 h2 => hi (i + 1) v' x' (by simpa using h1) (by simpa using h2)
    exact ⟨_, .cons ha has⟩
variable {h₀ h : Heap} {L : Addr} {news led : List (Addr × Obj)}
theorem rows_read {R : Addr} {rs : List Value} {gs : List Int} {e : Nat} (N : News h₀ L h led) (hR : (R, listOf rs.toArray e) ∈ led) (H : RowsAre news rs gs) (hs : ∀ q ∈ news, q ∈ led) : ∃ as, Reads h (.ref R) (.list (gs.map rowD)) as := by
  obtain ⟨as, ha⟩ := readsAll_of rowD H.1 fun i v g h1 h2 => by
    obtain ⟨T, A, B, a1, a2, b1, b2, e1, e2, e3, rfl, i1, i2, i3⟩ := H.2 i v g h1 h2
    have rA : Reads h (.ref A) (.tuple [.str (Str.ofString "word"), .str (Str.ofString "GOTO")]) _ := .tuple (N _ (hs _ i2)).1 rfl rfl (.cons (.str _ _) (.cons (.str _ _) .nil))
    have rB : Reads h (.ref B) (.tuple [.str (Str.ofString "number"), .int g]) _ := .tuple (N _ (hs _ i3)).1 rfl rfl (.cons (.str _ _) (.cons (.int _ _) .nil))
    exact ⟨_, .list (N _ (hs _ i1)).1 rfl rfl (.cons rA (.cons rB .nil))⟩
  exact ⟨_, .list (N _ hR).1 rfl rfl ha⟩
theorem pairs_read {R : Addr} {vs : List Value} {ps : List (Int × Int)} {e : Nat} (N : News h₀ L h led) (hR : (R, listOf vs.toArray e) ∈ led) (H : PairsAre news vs ps) (hs : ∀ q ∈ news, q ∈ led) : ∃ as, Reads h (.ref R) (.list (ps.map pairD)) as := by
  obtain ⟨as, ha⟩ := readsAll_of pairD H.1 fun i v q h1 h2 => by
    obtain ⟨T, t1, t2, e, rfl, i1⟩ := H.2 i v q h1 h2
    exact ⟨_, .tuple (N _ (hs _ i1)).1 rfl rfl (.cons (.int _ _) (.cons (.int _ _) .nil))⟩
  exact ⟨_, .list (N _ hR).1 rfl rfl ha⟩
theorem ints_read {R : Addr} {vs : List Value} {ks : List Int} {e : Nat} (N : News h₀ L h led) (hR : (R, listOf vs.toArray e) ∈ led) (H : IntsAre vs ks) : ∃ as, Reads h (.ref R) (.list (ks.map PyData.int)) as := by
  obtain ⟨as, ha⟩ := readsAll_of (h := h) PyData.int H.length fun i v k h1 h2 => by
    obtain ⟨k', t, rfl, hk⟩ := H.at i v h1
    rw [h2] at hk
    cases hk
    exact ⟨_, .int _ _⟩
  exact ⟨_, .list (N _ hR).1 rfl rfl ha⟩
theorem lay_all {α : Type} {f : α → PyData} (hf : ∀ x, (f x).canLay0 = true) : ∀ l : List α, PyData.canLayAll0 (l.map f) = true
  | [] => rfl
  | x :: r => by simp only [List.map_cons, PyData.canLayAll0, hf x, lay_all hf r, Bool.and_self]
theorem deep_all {α : Type} {f : α → PyData} {d : Nat} (hf : ∀ x, (f x).depth ≤ d) : ∀ l : List α, PyData.depthAll (l.map f) ≤ d
  | [] => Nat.zero_le _
  | x :: r => by
    have h1 := hf x
    have h2 := deep_all hf r
    simp only [List.map_cons, PyData.depthAll]
    omega
theorem shaped_list {α : Type} {f : α → PyData} {d : Nat} (h1 : ∀ x, (f x).canLay0 = true) (h2 : ∀ x, (f x).depth ≤ d) (hd : d ≤ 60) (l : List α) : SeqAt.shaped (.list (l.map f)) = true := by
  unfold SeqAt.shaped
  rw [Bool.and_eq_true]
  refine ⟨lay_all h1 l, decide_eq_true ?_⟩
  have := deep_all h2 l
  simp only [PyData.depth]
  omega
theorem word_lay : (PyData.tuple [.str (Str.ofString "word"), .str (Str.ofString "GOTO")]).canLay0 = true := by decide +kernel
theorem numb_lay : (PyData.str (Str.ofString "number")).canLay0 = true := by decide +kernel
theorem rowD_shaped (gs : List Int) : SeqAt.shaped (.list (gs.map rowD)) = true := by
  refine shaped_list (d := 3) (fun g => ?_) (fun g => ?_) (by decide) gs
  · have h1 := word_lay
    have h2 := numb_lay
    simp only [rowD, PyData.canLay0, PyData.canLayAll0, Bool.and_true] at h1 h2 ⊢
    rw [h1, h2]
    rfl
  · simp only [rowD, PyData.depth, PyData.depthAll]
    omega
theorem pairD_shaped (ps : List (Int × Int)) : SeqAt.shaped (.list (ps.map pairD)) = true :=
  shaped_list (d := 3) (fun q => rfl) (fun q => by simp only [pairD, PyData.depth, PyData.depthAll]; omega) (by decide) ps
theorem intD_shaped (ks : List Int) : SeqAt.shaped (.list (ks.map PyData.int)) = true :=
  shaped_list (d := 3) (fun q => rfl) (fun q => by simp only [PyData.depth]; omega) (by decide) ks
variable {prog : Program} {w : World} {A : Around} {E : Value → Shared → Prop} {s : Shared} {a b : Value} {d : PyData} {as bs : List Addr} {Q : Value → Shared → Prop}
theorem eq_self (ra : Reads s.heap a d as) (rb : Reads s.heap b d bs) (hd : SeqAt.shaped d = true) (hu : A.units + 64 < cLine) (h : Q (.bool true) s) : wpAny (model prog w) A (compareOp .Eq a b) Q E s :=
  eq_dataH ra rb hd hd hu (by rw [PySem.SeqAt.eqv_refl d (SeqAt.canLay_of_shaped hd)]; exact h)
theorem ne_self (ra : Reads s.heap a d as) (rb : Reads s.heap b d bs) (hd : SeqAt.shaped d = true) (hu : A.units + 64 < cLine) (h : Q (.bool false) s) : wpAny (model prog w) A (compareOp .NotEq a b) Q E s :=
  ne_dataH ra rb hd hd hu (by rw [PySem.SeqAt.eqv_refl d (SeqAt.canLay_of_shaped hd)]; exact h)
variable {x y : Addr} {xs ys : List Value} {e1 e2 : Nat} {n1 n2 : List (Addr × Obj)} {gs ks : List Int} {ps : List (Int × Int)}
theorem eq_ints (N : News h₀ L s.heap led) (h1 : (x, listOf xs.toArray e1) ∈ led) (h2 : (y, listOf ys.toArray e2) ∈ led) (i1 : IntsAre xs ks) (i2 : IntsAre ys ks) (hu : A.units + 64 < cLine) (h : Q (.bool true) s) :
    wpAny (model prog w) A (compareOp .Eq (.ref x) (.ref y)) Q E s := by
  obtain ⟨a1, r1⟩ := ints_read N h1 i1
  obtain ⟨a2, r2⟩ := ints_read N h2 i2
  exact eq_self r1 r2 (intD_shaped ks) hu h
theorem ne_ints (N : News h₀ L s.heap led) (h1 : (x, listOf xs.toArray e1) ∈ led) (h2 : (y, listOf ys.toArray e2) ∈ led) (i1 : IntsAre xs ks) (i2 : IntsAre ys ks) (hu : A.units + 64 < cLine) (h : Q (.bool false) s) :
    wpAny (model prog w) A (compareOp .NotEq (.ref x) (.ref y)) Q E s := by
  obtain ⟨a1, r1⟩ := ints_read N h1 i1
  obtain ⟨a2, r2⟩ := ints_read N h2 i2
  exact ne_self r1 r2 (intD_shaped ks) hu h
theorem eq_rows (N : News h₀ L s.heap led) (h1 : (x, listOf xs.toArray e1) ∈ led) (h2 : (y, listOf ys.toArray e2) ∈ led) (i1 : RowsAre n1 xs gs) (s1 : ∀ q ∈ n1, q ∈ led) (i2 : RowsAre n2 ys gs) (s2 : ∀ q ∈ n2, q ∈ led) (hu : A.units + 64 < cLine) (h : Q (.bool true) s) :
    wpAny (model prog w) A (compareOp .Eq (.ref x) (.ref y)) Q E s := by
  obtain ⟨a1, r1⟩ := rows_read N h1 i1 s1
  obtain ⟨a2, r2⟩ := rows_read N h2 i2 s2
  exact eq_self r1 r2 (rowD_shaped gs) hu h
theorem ne_rows (N : News h₀ L s.heap led) (h1 : (x, listOf xs.toArray e1) ∈ led) (h2 : (y, listOf ys.toArray e2) ∈ led) (i1 : RowsAre n1 xs gs) (s1 : ∀ q ∈ n1, q ∈ led) (i2 : RowsAre n2 ys gs) (s2 : ∀ q ∈ n2, q ∈ led) (hu : A.units + 64 < cLine) (h : Q (.bool false) s) :
    wpAny (model prog w) A (compareOp .NotEq (.ref x) (.ref y)) Q E s := by
  obtain ⟨a1, r1⟩ := rows_read N h1 i1 s1
  obtain ⟨a2, r2⟩ := rows_read N h2 i2 s2
  exact ne_self r1 r2 (rowD_shaped gs) hu h
theorem eq_pairs (N : News h₀ L s.heap led) (h1 : (x, listOf xs.toArray e1) ∈ led) (h2 : (y, listOf ys.toArray e2) ∈ led) (i1 : PairsAre n1 xs ps) (s1 : ∀ q ∈ n1, q ∈ led) (i2 : PairsAre n2 ys ps) (s2 : ∀ q ∈ n2, q ∈ led) (hu : A.units + 64 < cLine) (h : Q (.bool true) s) :
    wpAny (model prog w) A (compareOp .Eq (.ref x) (.ref y)) Q E s := by
  obtain ⟨a1, r1⟩ := pairs_read N h1 i1 s1
  obtain ⟨a2, r2⟩ := pairs_read N h2 i2 s2
  exact eq_self r1 r2 (pairD_shaped ps) hu h
end
end
section
section
open PySem.Spec PyProof.Rows.LCg
variable {prog : Program} {w : World} {A : Around} {E : Value → Shared → Prop} {s : Shared}
theorem lk_keys : typeLookup (.type "list") "keys" = pure none := by rw [typeLookup_type, builtinLookup_eq_fast]; kernel_rfl
theorem no_keys {l : Addr} {xs : List Value} {e : Nat} {Q : Option Value → Shared → Prop} (hx : s.heap.get? l = some (listOf xs.toArray e)) (hA : A.handled = none)
    (h : ∀ h' tk, (∀ b o, s.heap.get? b = some o → h'.get? b = some o) → Q none { s with heap := h', toks := tk }) :
    wpAny (model prog w) A (getAttr? (.ref l) "keys") Q E s := by
  obtain ⟨hp, g, d, tk, os⟩ := s
  have hT : ∀ tk', (⟨hp, g, d, tk', os⟩ : Shared).TypeIs (.ref l) "list" := fun _ => ⟨_, hx, rfl⟩
  have f1 := sub_AttributeError
  have f3 := F.slot_list_getattribute.lookup
  have f4 := F.slot_list_getattribute.bind (.ref l)
  have f5 := am_list_getattr_none
  unfold getAttr? getAttrBy? getAttrBy
  repeat (any_goals (first | assumption | exact hT _ | ((with_reducible show wpAny _ _ (call (Value.builtin "list.__getattribute__") _ _) _ _ _); refine call_meets F.slot_list_getattribute (hT _) am_entry_list_getattribute (F.args_list_getattribute_2 _ _) (meets_getattribute_miss_list l xs.toArray e #[] "keys" _ lk_keys (by decide +kernel) (Nat.le_of_ble_eq_true rfl)) ⟨hx, hA, fun h' tk' e' hx' => ?_⟩) | wp_step))
  obtain ⟨t', u', he⟩ := hx'.there
  show wpAny _ _ (getattributeRaised (.ref l) _ (.type "list") _ none false false) _ _ _
  unfold getattributeRaised hookBehind hookOrError attributeErrorLeaves
  repeat (any_goals (first | assumption | wp_step))
  exact h _ _ hx'.keeps
theorem fold_put_len (l : List (Int × Int)) : ∀ c : List (Int × Int), (l.foldl (fun c q => kdfPut c q.1 q.2) c).length ≤ c.length + l.length := by
  induction l with
  | nil => intro c; simp
  | cons q r ih => intro c; have := ih (kdfPut c q.1 q.2); have := kdfPut_len c q.1 q.2; simp only [List.foldl_cons, List.length_cons]; omega
theorem dul_entry : entryFor table "dict.update.loop" = some Builtin.«dict.update.loop» := entryFor_of_tree (by kernel_rfl)
/-- a tuple of two ints in a heap -/
theorem pairs_loop {vs : List Value} {ps : List (Int × Int)} {l I d : Addr} {R : Result → Shared → Prop} {h₁ : Heap} (hA : A.handled = none) (hlI : l ≠ I) (hId : I ≠ d) (hld : l ≠ d) (hps : vs.length = ps.length) (hsz : ps.length < 1000)
    (hpair : ∀ (i : Nat) v q, vs[i]? = some v → ps[i]? = some q → ∃ T t1 t2 o n, v = .ref T ∧ T ≠ I ∧ T ≠ d ∧ h₁.get? T = some o ∧ o.cls = .type "tuple" ∧ o.data = .seq #[.int q.1 t1, .int q.2 t2] n) (hl₁ : h₁.IsList l vs.toArray)
    (fin : ∀ h' tk kvs, h'.DictOf (PySem.intKind prog w) d kvs → PyProof.V.FlatPairs PyData.int kvs (kdfD (ps.foldl (fun c q => kdfPut c q.1 q.2) [])) → (∀ b o, b ≠ I → b ≠ d → h₁.get? b = some o → h'.get? b = some o) → R (.ok (.ret .none)) { s with heap := h', toks := tk }) :
    ∀ (n i : Nat), i + n = vs.length → ∀ (c : Int) h tk kvs, h.IsListIter I l i → h.DictOf (PySem.intKind prog w) d kvs → PyProof.V.FlatPairs PyData.int kvs (kdfD ((ps.take i).foldl (fun c q => kdfPut c q.1 q.2) [])) → (∀ b o, b ≠ I → b ≠ d → h₁.get? b = some o → h.get? b = some o) →
      codeAny (model prog w) A (.builtin "dict.update.loop" ⟨[.ref d, .ref I, rawInt c, .none], []⟩) R { s with heap := h, toks := tk } := by
  intro n
  induction n with
  | zero =>
    intro i hi c h tk kvs hit hd hf hk
    have W := Walks.list (prog := prog) (w := w) (A := A.under (.builtin "dict.update.loop" ⟨[.ref d, .ref I, rawInt c, .none], []⟩)) hA I l hlI vs.toArray
    refine codeAny_builtin dul_entry ?_
    unfold Builtin.«dict.update.loop»
    refine wpAny_bind ?_
    have hl : h.IsList l vs.toArray := hl₁.at fun o e => hk l o hlI hld e
    have e : i = vs.toArray.size := by rw [List.size_toArray]; omega
    subst e
    refine W.done _ _ _ ⟨hit, hl⟩ fun h' tk' hk' => ?_
    show wpAny _ _ (do Builtin.Dict.addKeywords d []; ret .none) _ _ _
    refine wpAny_bind (wpAny_pure (wpAny_pure ?_))
    obtain ⟨o, ho, hoD⟩ := Heap.dictOf_iff.mp hd
    have hdI : d ∉ [I] := fun q => hId (List.mem_singleton.mp q).symm
    refine fin h' tk' kvs (Heap.dictOf_iff.mpr ⟨o, hk' d o hdI ho, hoD⟩) ?_ fun b o hb hb' hg => hk' b o (fun q => hb (List.mem_singleton.mp q)) (hk b o hb hb' hg)
    rw [List.take_of_length_le (by rw [List.size_toArray]; omega)] at hf
    exact hf
  | succ n ih =>
    intro i hi c h tk kvs hit hd hf hk
    have W := Walks.list (prog := prog) (w := w) (A := A.under (.builtin "dict.update.loop" ⟨[.ref d, .ref I, rawInt c, .none], []⟩)) hA I l hlI vs.toArray
    refine codeAny_builtin dul_entry ?_
    unfold Builtin.«dict.update.loop»
    refine wpAny_bind ?_
    have hl : h.IsList l vs.toArray := hl₁.at fun o e => hk l o hlI hld e
    refine W.item i _ _ _ (by rw [List.size_toArray]; omega) ⟨hit, hl⟩ fun v h' tk' hv st' hk' => ?_
    have hv' : vs[i]? = some v := by simpa using hv
    obtain ⟨q, hq⟩ := some_at (ks := ps) (show i < ps.length by omega)
    obtain ⟨T, t1, t2, o, m, rfl, hTI, hTd, hT, hoc, hod⟩ := hpair i v q hv' hq
    have hT' : h'.get? T = some o := hk' T o (fun z => hTI (List.mem_singleton.mp z)) (hk T o hTI hTd hT)
    obtain ⟨oD, hoD, hisD⟩ := Heap.dictOf_iff.mp hd
    have hdI : d ∉ [I] := fun q => hId (List.mem_singleton.mp q).symm
    have hd' : Heap.DictOf (intKind prog w) h' d kvs := Heap.dictOf_iff.mpr ⟨oD, hk' d oD hdI hoD, hisD⟩
    refine wpAny_bind (wpAny_holding (wpAny_bind (wpAny_tryCatch ?_)))
    unfold Builtin.Dict.pairItems
    refine wpAny_bind (wpAny_typeOf (T := "tuple") ⟨o, hT', hoc⟩ ?_)
    rw [if_pos (by decide)]
    refine wpAny_bind (wpAny_seqItems hT' hod (wpAny_pure ?_))
    show wpAny _ _ (holding [.int q.1 t1, .int q.2 t2] (dictSet d (.int q.1 t1) (.int q.2 t2))) _ _ _
    have hlen : kvs.length ≤ sizeLine := by
      have h1 := hf.length
      have h2 := fold_put_len (ps.take i) []
      rw [kdfD_length] at h1
      rw [List.length_take] at h2
      simp only [List.length_nil] at h2
      have h3 : kvs.length ≤ 1000 := by omega
      exact Nat.le_trans h3 (Nat.le_of_ble_eq_true rfl)
    refine wpAny_holding (wpAny_dictSet_pairs (hsz := hlen) (intKind_is _ _ _ _) hd' fun h'' hd'' hs => ?_)
    refine wpAny_pure ⟨plainId_quiet (by decide +kernel) _, ih (i + 1) (by omega) (c + 1) h'' _ _ (st'.1.at fun o e => hs.extBut I o hId e) hd'' ?_ fun b o hb hb' hg => hs.extBut b o hb' (hk' b o (fun z => hb (List.mem_singleton.mp z)) (hk b o hb hb' hg))⟩
    rw [fold_take _ _ _ _ _ hq, ← kdfD_put]
    exact hf.stored PyProof.V.same_int _ (PyProof.V.Flat.int _ _)
/-- dict(pairs) -/
theorem dict_pairs {h₀ : Heap} {L l : Addr} {m : Str → Option Value} {news led : List (Addr × Obj)} {vs : List Value} {ps : List (Int × Int)} {e : Nat} {Q : Value → Shared → Prop} (hA : A.handled = none) (F : Fr h₀ L s.heap m) (N : News h₀ L s.heap led) (hbig : sysModules < h₀.objs.size)
    (hl : (l, listOf vs.toArray e) ∈ led) (hp : PairsAre news vs ps) (hsub : ∀ q ∈ news, q ∈ led) (hsz : ps.length < 1000)
    (k : ∀ d h' tk o kvs, Fr h₀ L h' m → News h₀ L h' ((d, o) :: led) → (∀ q ∈ led, @LT.lt Nat _ q.1 d) → (d == sysModules) = false → o.IsDictOf (PySem.intKind prog w) kvs → PyProof.V.FlatPairs PyData.int kvs (kdfD (ps.foldl (fun c q => kdfPut c q.1 q.2) [])) → Q (.ref d) { s with heap := h', toks := tk }) :
    wpAny (model prog w) A (call (.type "dict") [.ref l]) Q E s := by
  refine callType_codes (Q₁ := fun obj s₁ => obj = .ref s.heap.objs.size ∧ s₁ = { s with heap := s.heap.push { cls := .type "dict", data := .dict #[] } }) PySem.F.kt_called_dict (PySem.F.kt_typeCall_dict_1 _) PySem.F.entry_dict_init (kt_code_dict_new _ ⟨rfl, rfl⟩) ?_
  rintro obj s₁ ⟨rfl, rfl⟩
  have hlg : s.heap.get? l = some (listOf vs.toArray e) := (N _ hl).1
  have hnew : (s.heap.push { cls := .type "dict", data := .dict #[] }).DictOf (PySem.intKind prog w) s.heap.objs.size [] := Heap.DictOf.new s.heap
  have hld : l < s.heap.objs.size := Heap.lt_size hlg
  have hl' : (s.heap.push { cls := .type "dict", data := .dict #[] }).get? l = some (listOf vs.toArray e) := Heap.get?_push_of_some _ hlg
  have N1 := News.push F N { cls := .type "dict", data := .dict #[] }
  refine ⟨hnew.typeIs, PySem.F.args_dict_init_2 _ _, ?_⟩
  unfold Builtin.«dict.__init__»
  refine wpAny_bind ?_
  unfold Builtin.Dict.selfAndRest
  refine wpAny_bind (wpAny_notOrdered_dict hnew.typeIs ?_)
  show wpAny _ _ (pure (s.heap.objs.size, [Value.ref l])) _ _ _
  refine wpAny_pure ?_
  show wpAny _ _ (Builtin.Dict.updateFrom "dict.__init__" s.heap.objs.size (.ref l) [] .none) _ _ _
  unfold Builtin.Dict.updateFrom
  refine wpAny_bind (wpAny_typeOf (T := "list") ⟨_, hl', rfl⟩ ?_)
  rw [if_pos (by decide)]
  refine wpAny_bind (no_keys hl' hA fun h1 tk1 hk1 => ?_)
  have hdo : h1.get? s.heap.objs.size = some { cls := .type "dict", data := .dict #[] } := hk1 _ _ (Heap.get?_push_size _ rfl)
  have hd1 : h1.DictOf (PySem.intKind prog w) s.heap.objs.size [] := by
    obtain ⟨o, ho, hoD⟩ := Heap.dictOf_iff.mp hnew
    exact Heap.dictOf_iff.mpr ⟨o, hk1 _ _ ho, hoD⟩
  have hdlt : s.heap.objs.size < h1.objs.size := Heap.lt_size hdo
  have hl1 : h1.get? l = some (listOf vs.toArray e) := hk1 l _ hl'
  have hup : ∀ b o, s.heap.get? b = some o → (h1.push { cls := .type "list_iterator", data := .fields #[.ref l, .int 0 0] }).get? b = some o := fun b o hb => Heap.get?_push_of_some _ (hk1 b o (Heap.get?_push_of_some _ hb))
  show wpAny _ _ (do rule _; let it ← pyIter (Value.ref l); again (Code.builtin "dict.update.loop" { pos := [Value.ref s.heap.objs.size, it, rawInt 0, Value.none] })) _ _ _
  refine wpAny_bind (wpAny_rule ?_)
  refine wpAny_bind (wpAny_pyIter_list (items := vs.toArray) ⟨_, hl1, rfl, _, rfl⟩ ?_)
  refine wpAny_pure ⟨plainId_quiet (by decide +kernel) _, ?_⟩
  show codeAny _ _ _ _ { s with heap := h1.push { cls := .type "list_iterator", data := .fields #[.ref l, .int 0 0] }, toks := tk1 }
  refine pairs_loop (A := A.in1) (s := s) (ps := ps) (l := l) (I := h1.objs.size) (d := s.heap.objs.size) (h₁ := h1.push { cls := .type "list_iterator", data := .fields #[.ref l, .int 0 0] }) hA (Nat.ne_of_lt (Nat.lt_trans hld hdlt)) (Nat.ne_of_gt hdlt) (Nat.ne_of_lt hld) hp.1 hsz ?_ ⟨_, Heap.get?_push_of_some _ hl1, rfl, _, rfl⟩ ?_ vs.length 0 (by omega) 0 _ _ [] ⟨{ cls := .type "list_iterator", data := .fields #[.ref l, .int 0 0] }, Heap.get?_push_size _ rfl, rfl, rfl⟩ ?_ ?_ ?_
  · intro i v q h1' h2'
    obtain ⟨T, t1, t2, e', rfl, hm⟩ := hp.2 i v q h1' h2'
    have hT := (N _ (hsub _ hm)).1
    have hTl := Heap.lt_size hT
    exact ⟨T, t1, t2, _, _, rfl, Nat.ne_of_lt (Nat.lt_trans hTl hdlt), Nat.ne_of_lt hTl, hup _ _ hT, rfl, rfl⟩
  · intro h' tk kvs hd hf hk
    have hk2 : ∀ b o, s.heap.get? b = some o → h'.get? b = some o := fun b o hb => hk b o (Nat.ne_of_lt (Nat.lt_trans (Heap.lt_size hb) hdlt)) (Nat.ne_of_lt (Heap.lt_size hb)) (hup b o hb)
    obtain ⟨o, ho, hoD⟩ := Heap.dictOf_iff.mp hd
    refine ⟨rfl, k s.heap.objs.size h' tk o kvs (F.keeps hk2) ?_ (fun q hq => Heap.lt_size (N q hq).1) (F.notModules hbig) hoD hf⟩
    intro q hq
    rcases List.mem_cons.mp hq with rfl | hq
    · exact ⟨ho, (N1 _ (.head _)).2.1, (N1 _ (.head _)).2.2⟩
    · exact ⟨hk2 _ _ (N q hq).1, (N q hq).2.1, (N q hq).2.2⟩
  · obtain ⟨o, ho, hoD⟩ := Heap.dictOf_iff.mp hd1
    exact Heap.dictOf_iff.mpr ⟨o, Heap.get?_push_of_some _ ho, hoD⟩
  · exact .nil
  · exact fun b o _ _ hb => hb
end
end
section
section
theorem zip_fold {ks nk : List Int} (hs : ks.Pairwise (· < ·)) (hl : nk.length = ks.length) : (ks.zip nk).foldl (fun c q => kdfPut c q.1 q.2) [] = ks.zip nk := by
  have H : ∀ i, i ≤ (ks.zip nk).length → ((ks.zip nk).take i).foldl (fun c q => kdfPut c q.1 q.2) [] = (ks.zip nk).take i := by
    intro i
    induction i with
    | zero => intro _; simp
    | succ i ih =>
      intro hi
      obtain ⟨q, hq⟩ := some_at (ks := ks.zip nk) (show i < _ by omega)
      have h2 := List.getElem?_zip_eq_some.mp hq
      rw [fold_take _ _ _ _ _ hq, ih (by omega)]
      exact zip_put hs h2.1 h2.2
  have := H _ (Nat.le_refl _)
  rwa [List.take_of_length_le (Nat.le_refl _)] at this
theorem lost_999 {ks gs : List Int} (h : NumsOk ks) (hl : ks.length ≤ 4) (hg : GoalsOk ks gs) : lostOf ks (ks.zip gs) = (ks.zip gs).filter fun q => decide (q.2 = 999) := by
  unfold lostOf
  refine List.filter_congr fun q hq => ?_
  have hm : q.2 ∈ gs := (List.of_mem_zip (a := q.1) (b := q.2) hq).2
  by_cases h9 : q.2 = 999
  · have : q.2 ∉ ks := fun hk => by have := num_bounds h hl hk; omega
    simp [h9]
    rw [← h9]; exact this
  · rcases hg _ hm with e | e
    · simp [h9, e]
    · exact absurd e h9
theorem filter_keep {α : Type} {f : α → Bool} {l : List α} {i : Nat} {x : α} (hx : l[i]? = some x) (h : f x = true) : (l.take (i + 1)).filter f = (l.take i).filter f ++ [x] := by
  rw [take_snoc hx, List.filter_append]; simp [h]
theorem filter_drop {α : Type} {f : α → Bool} {l : List α} {i : Nat} {x : α} (hx : l[i]? = some x) (h : f x = false) : (l.take (i + 1)).filter f = (l.take i).filter f := by
  rw [take_snoc hx, List.filter_append]; simp [h]
end
end
section
section
theorem ne_data {h₀ h : Heap} {L a dx : Addr} {o oX : Obj} {led : List (Addr × Obj)} (N : News h₀ L h led) (ha : (a, o) ∈ led) (hdx : (dx, oX) ∈ led) (hc : ∀ xs n, oX.data ≠ .seq xs n) (ho : ∃ xs n, o.data = .seq xs n) : a ≠ dx := by
  rintro rfl
  have e := (N _ ha).1.symm.trans (N _ hdx).1
  obtain ⟨xs, n, hx⟩ := ho
  exact hc xs n ((congrArg Obj.data (Option.some.inj e)).symm.trans hx)
theorem RowsAre.offD {h₀ h : Heap} {L dx : Addr} {oX : Obj} {led news : List (Addr × Obj)} {rs : List Value} {gs : List Int} (R : RowsAre news rs gs) (hl : ∀ q ∈ news, q ∈ led) (N : News h₀ L h led) (hdx : (dx, oX) ∈ led) (hc : ∀ xs n, oX.data ≠ .seq xs n) :
    RowsAre (news.filter fun q => decide (q.1 ≠ dx)) rs gs := by
  refine ⟨R.1, fun i v g h1 h2 => ?_⟩
  obtain ⟨T, A, B, a1, a2, b1, b2, e1, e2, e3, rfl, i1, i2, i3⟩ := R.2 i v g h1 h2
  have off : ∀ {a : Addr} {o : Obj}, (a, o) ∈ news → (∃ xs n, o.data = .seq xs n) → (a, o) ∈ news.filter fun q => decide (q.1 ≠ dx) := fun ha ho =>
    List.mem_filter.mpr ⟨ha, decide_eq_true (ne_data N (hl _ ha) hdx hc ho)⟩
  exact ⟨T, A, B, a1, a2, b1, b2, e1, e2, e3, rfl, off i1 ⟨_, _, rfl⟩, off i2 ⟨_, _, rfl⟩, off i3 ⟨_, _, rfl⟩⟩
theorem PairsAre.offD {h₀ h : Heap} {L dx : Addr} {oX : Obj} {led news : List (Addr × Obj)} {vs : List Value} {ps : List (Int × Int)} (R : PairsAre news vs ps) (hl : ∀ q ∈ news, q ∈ led) (N : News h₀ L h led) (hdx : (dx, oX) ∈ led) (hc : ∀ xs n, oX.data ≠ .seq xs n) :
    PairsAre (news.filter fun q => decide (q.1 ≠ dx)) vs ps := by
  refine ⟨R.1, fun i v q h1 h2 => ?_⟩
  obtain ⟨T, t1, t2, e, rfl, i1⟩ := R.2 i v q h1 h2
  exact ⟨T, t1, t2, e, rfl, List.mem_filter.mpr ⟨i1, decide_eq_true (ne_data N (hl _ i1) hdx hc ⟨_, _, rfl⟩)⟩⟩
theorem ne_any {h₀ h : Heap} {L a dx : Addr} {o oX : Obj} {led : List (Addr × Obj)} (N : News h₀ L h led) (ha : (a, o) ∈ led) (hdx : (dx, oX) ∈ led) (hc : o.data ≠ oX.data) : a ≠ dx := by
  rintro rfl
  exact hc (congrArg Obj.data (Option.some.inj ((N _ ha).1.symm.trans (N _ hdx).1)))
end
end
section
section
open PySem.Spec PyProof.Rows.LCg PyProof.V
variable {h₀ h' : Heap} {L C D : Addr} {oC : Obj} {ys : List Value} {wr : List Addr} {own base pre R all new : List (Addr × Obj)} {m : Str → Option Value} {s₁ : Shared} {tk : Nat} {J' : List (Addr × Obj) → Prop}
theorem cend_new (F : Fr h₀ L h' m) (N : News h₀ L h' all) (hC : (C, oC) ∈ all) (hD : (D, LCg.lst ys) ∈ all) (hRa : ∀ q ∈ R, q ∈ all) (hR : R = (pre ++ base) ++ own)
    (hn : ∀ q ∈ new, q ∈ all ∧ @LT.lt Nat _ C q.1 ∧ @LT.lt Nat _ D q.1 ∧ AllLt q.1 R) (off : ∀ q ∈ pre ++ base, q.1 ≠ C ∧ q.1 ≠ D ∧ q.1 ∉ wr) (hwo : ∀ b ∈ wr, ∃ o, (b, o) ∈ own) (j : J' (new ++ (pre ++ base))) :
    CEnd h₀ L m wr own C oC D ys J' s₁ ⟨h', s₁.gens, s₁.drawn, tk, s₁.os⟩ := by
  refine cend_of F N (new ++ (pre ++ base)) (fun q hq => ?_) (fun q hq => ?_) j
  · rcases List.mem_cons.mp hq with rfl | h
    · exact hC
    rcases List.mem_cons.mp h with rfl | h
    · exact hD
    rcases List.mem_append.mp h with h | h
    · rcases List.mem_append.mp h with h | h
      · exact (hn q h).1
      · exact hRa q (hR ▸ List.mem_append_left _ h)
    · exact hRa q (hR ▸ List.mem_append_right _ h)
  · rcases List.mem_append.mp hq with h | h
    · obtain ⟨_, c1, c2, c3⟩ := hn q h
      refine ⟨Nat.ne_of_gt c1, Nat.ne_of_gt c2, fun hm => ?_⟩
      obtain ⟨o, ho⟩ := hwo _ hm
      exact Nat.lt_irrefl _ (allLt_mem c3 (_, o) (hR ▸ List.mem_append_right _ ho))
    · exact off q h
variable {T A B : Addr} {oT oA oB' : Obj} {x y : Addr × Obj}
theorem pair_end2 (F : Fr h₀ L h' m) (N : News h₀ L h' ((T, oT) :: (C, oC) :: (D, LCg.lst ys) :: R)) (hR : R = (pre ++ base) ++ own) (hT : @LT.lt Nat _ C T ∧ @LT.lt Nat _ D T ∧ AllLt T R)
    (off : ∀ q ∈ pre ++ base, q.1 ≠ C ∧ q.1 ≠ D ∧ q.1 ∉ wr) (hwo : ∀ b ∈ wr, ∃ o, (b, o) ∈ own) (j : J' ((T, oT) :: (pre ++ base))) : CEnd h₀ L m wr own C oC D ys J' s₁ ⟨h', s₁.gens, s₁.drawn, tk, s₁.os⟩ :=
  cend_new (new := [(T, oT)]) F N (.tail _ (.head _)) (.tail _ (.tail _ (.head _))) (fun q hq => .tail _ (.tail _ (.tail _ hq))) hR
    (fun q hq => by rw [List.mem_singleton] at hq; subst hq; exact ⟨.head _, hT⟩) off hwo j
theorem pair_end4 (F : Fr h₀ L h' m) (N : News h₀ L h' ((T, oT) :: (C, oC) :: (D, LCg.lst ys) :: x :: y :: R)) (hR : R = (pre ++ base) ++ own) (hT : @LT.lt Nat _ C T ∧ @LT.lt Nat _ D T ∧ @LT.lt Nat _ x.1 T ∧ @LT.lt Nat _ y.1 T ∧ AllLt T R)
    (off : ∀ q ∈ pre ++ base, q.1 ≠ C ∧ q.1 ≠ D ∧ q.1 ∉ wr) (hwo : ∀ b ∈ wr, ∃ o, (b, o) ∈ own) (j : J' ((T, oT) :: (pre ++ base))) : CEnd h₀ L m wr own C oC D ys J' s₁ ⟨h', s₁.gens, s₁.drawn, tk, s₁.os⟩ :=
  cend_new (new := [(T, oT)]) F N (.tail _ (.head _)) (.tail _ (.tail _ (.head _))) (fun q hq => .tail _ (.tail _ (.tail _ (.tail _ (.tail _ hq))))) hR
    (fun q hq => by rw [List.mem_singleton] at hq; subst hq; exact ⟨.head _, hT.1, hT.2.1, hT.2.2.2.2⟩) off hwo j
theorem skip_end4 (F : Fr h₀ L h' m) (N : News h₀ L h' ((C, oC) :: (D, LCg.lst ys) :: x :: y :: R)) (hR : R = (pre ++ base) ++ own)
    (off : ∀ q ∈ pre ++ base, q.1 ≠ C ∧ q.1 ≠ D ∧ q.1 ∉ wr) (hwo : ∀ b ∈ wr, ∃ o, (b, o) ∈ own) (j : J' (pre ++ base)) : CEnd h₀ L m wr own C oC D ys J' s₁ ⟨h', s₁.gens, s₁.drawn, tk, s₁.os⟩ :=
  cend_new (new := []) F N (.head _) (.tail _ (.head _)) (fun q hq => .tail _ (.tail _ (.tail _ (.tail _ hq)))) hR (fun q hq => nomatch hq) off hwo j
theorem row_end4 (F : Fr h₀ L h' m) (N : News h₀ L h' ((T, oT) :: (B, oB') :: (A, oA) :: (C, oC) :: (D, LCg.lst ys) :: x :: y :: R)) (hR : R = (pre ++ base) ++ own)
    (hA : @LT.lt Nat _ C A ∧ @LT.lt Nat _ D A ∧ @LT.lt Nat _ x.1 A ∧ @LT.lt Nat _ y.1 A ∧ AllLt A R)
    (hB : @LT.lt Nat _ A B ∧ @LT.lt Nat _ C B ∧ @LT.lt Nat _ D B ∧ @LT.lt Nat _ x.1 B ∧ @LT.lt Nat _ y.1 B ∧ AllLt B R)
    (hT : @LT.lt Nat _ B T ∧ @LT.lt Nat _ A T ∧ @LT.lt Nat _ C T ∧ @LT.lt Nat _ D T ∧ @LT.lt Nat _ x.1 T ∧ @LT.lt Nat _ y.1 T ∧ AllLt T R)
    (off : ∀ q ∈ pre ++ base, q.1 ≠ C ∧ q.1 ≠ D ∧ q.1 ∉ wr) (hwo : ∀ b ∈ wr, ∃ o, (b, o) ∈ own) (j : J' ((T, oT) :: (B, oB') :: (A, oA) :: (pre ++ base))) : CEnd h₀ L m wr own C oC D ys J' s₁ ⟨h', s₁.gens, s₁.drawn, tk, s₁.os⟩ :=
  cend_new (new := [(T, oT), (B, oB'), (A, oA)]) F N (.tail _ (.tail _ (.tail _ (.head _)))) (.tail _ (.tail _ (.tail _ (.tail _ (.head _))))) (fun q hq => .tail _ (.tail _ (.tail _ (.tail _ (.tail _ (.tail _ (.tail _ hq))))))) hR
    (fun q hq => by
      rcases List.mem_cons.mp hq with rfl | hq
      · exact ⟨.head _, hT.2.2.1, hT.2.2.2.1, hT.2.2.2.2.2.2⟩
      rcases List.mem_cons.mp hq with rfl | hq
      · exact ⟨.tail _ (.head _), hB.2.1, hB.2.2.1, hB.2.2.2.2.2⟩
      rcases List.mem_cons.mp hq with rfl | hq
      · exact ⟨.tail _ (.tail _ (.head _)), hA.1, hA.2.1, hA.2.2.2.2⟩
      · cases hq) off hwo j
theorem row_end3 (F : Fr h₀ L h' m) (N : News h₀ L h' ((T, oT) :: (B, oB') :: (A, oA) :: (C, oC) :: (D, LCg.lst ys) :: x :: R)) (hR : R = (pre ++ base) ++ own)
    (hA : @LT.lt Nat _ C A ∧ @LT.lt Nat _ D A ∧ @LT.lt Nat _ x.1 A ∧ AllLt A R)
    (hB : @LT.lt Nat _ A B ∧ @LT.lt Nat _ C B ∧ @LT.lt Nat _ D B ∧ @LT.lt Nat _ x.1 B ∧ AllLt B R)
    (hT : @LT.lt Nat _ B T ∧ @LT.lt Nat _ A T ∧ @LT.lt Nat _ C T ∧ @LT.lt Nat _ D T ∧ @LT.lt Nat _ x.1 T ∧ AllLt T R)
    (off : ∀ q ∈ pre ++ base, q.1 ≠ C ∧ q.1 ≠ D ∧ q.1 ∉ wr) (hwo : ∀ b ∈ wr, ∃ o, (b, o) ∈ own) (hx : ∀ q ∈ pre, q.1 ≠ x.1)
    (j : (∀ q ∈ (T, oT) :: (B, oB') :: (A, oA) :: pre, q.1 ≠ x.1) → J' ((T, oT) :: (B, oB') :: (A, oA) :: (pre ++ base))) : CEnd h₀ L m wr own C oC D ys J' s₁ ⟨h', s₁.gens, s₁.drawn, tk, s₁.os⟩ :=
  cend_new (new := [(T, oT), (B, oB'), (A, oA)]) F N (.tail _ (.tail _ (.tail _ (.head _)))) (.tail _ (.tail _ (.tail _ (.tail _ (.head _))))) (fun q hq => .tail _ (.tail _ (.tail _ (.tail _ (.tail _ (.tail _ hq)))))) hR
    (fun q hq => by
      rcases List.mem_cons.mp hq with rfl | hq
      · exact ⟨.head _, hT.2.2.1, hT.2.2.2.1, hT.2.2.2.2.2⟩
      rcases List.mem_cons.mp hq with rfl | hq
      · exact ⟨.tail _ (.head _), hB.2.1, hB.2.2.1, hB.2.2.2.2⟩
      rcases List.mem_cons.mp hq with rfl | hq
      · exact ⟨.tail _ (.tail _ (.head _)), hA.1, hA.2.1, hA.2.2.2⟩
      · cases hq) off hwo (j fun q hq => by
      rcases List.mem_cons.mp hq with rfl | hq
      · exact Nat.ne_of_gt hT.2.2.2.2.1
      rcases List.mem_cons.mp hq with rfl | hq
      · exact Nat.ne_of_gt hB.2.2.2.1
      rcases List.mem_cons.mp hq with rfl | hq
      · exact Nat.ne_of_gt hA.2.2.1
      · exact hx q hq)
theorem texts_snoc {ks gs : List Int} {i : Nat} {k g : Int} {t : Tok} (h : StrsAre ys (((ks.zip gs).take i).map fun q => rowText q.1 q.2)) (hk : ks[i]? = some k) (hg : gs[i]? = some g) :
    StrsAre (ys ++ [.str (Str.ofString (toString k) ++ Str.ofString " GOTO " ++ Str.ofString (toString g)) t]) (((ks.zip gs).take (i + 1)).map fun q => rowText q.1 q.2) := by
  rw [take_snoc (k := (k, g)) (List.getElem?_zip_eq_some.mpr ⟨hk, hg⟩), List.map_append]
  refine h.append' ?_
  have e : rowText k g = Str.ofString (toString k) ++ Str.ofString " GOTO " ++ Str.ofString (toString g) := by unfold rowText; rfl
  show StrsAre [_] [rowText k g]
  rw [e]
  exact .cons _ _ .nil
theorem kp_up {kp c : Int} {i : Nat} (h0 : 0 ≤ kp) (h1 : kp ≤ c + i) : 0 ≤ kp + 1 ∧ kp + 1 ≤ c + ((i + 1 : Nat) : Int) := by omega
theorem turn_end5 {gl nl pt sp c I : Addr} {og on op os oc og' on' op' : Obj} {J : (Str → Option Value) → List (Addr × Obj) → Prop} (F : Fr h₀ L h' m)
    (N : News h₀ L h' (x :: y :: (gl, og) :: (nl, on) :: (pt, op) :: (sp, os) :: (c, oc) :: own)) (hwr : ∀ p ∈ [(gl, og'), (nl, on'), (pt, op'), (sp, os), (c, oc)], ¬p.1 ∈ [I])
    (j : J m [(gl, og), (nl, on), (pt, op), (sp, os), (c, oc)]) : LoopStepU h₀ L [I] own J s₁ .next ⟨h', s₁.gens, s₁.drawn, tk, s₁.os⟩ := by
  refine fendU F N [(gl, og), (nl, on), (pt, op), (sp, os), (c, oc)] (fun q hq => ?_) (fun q hq => ?_) j
  · rcases List.mem_append.mp hq with h | h
    · exact .tail _ (.tail _ (.tail _ (.tail _ (.tail _ (.tail _ (.tail _ h))))))
    · (repeat (rcases List.mem_cons.mp h with rfl | h; · k_mem))
      cases h
  · rcases List.mem_cons.mp hq with rfl | hq
    · exact hwr (gl, og') (.head _)
    rcases List.mem_cons.mp hq with rfl | hq
    · exact hwr (nl, on') (.tail _ (.head _))
    rcases List.mem_cons.mp hq with rfl | hq
    · exact hwr (pt, op') (.tail _ (.tail _ (.head _)))
    rcases List.mem_cons.mp hq with rfl | hq
    · exact hwr _ (.tail _ (.tail _ (.tail _ (.head _))))
    rcases List.mem_cons.mp hq with rfl | hq
    · exact hwr _ (.tail _ (.tail _ (.tail _ (.tail _ (.head _)))))
    · cases hq
end
end
section
open PySem.Spec PyProof.Rows.LCg PyProof.V
local macro_rules | `(tactic| k_qdec) => `(tactic| decide +kernel)
theorem law_holds : PySem.Challenge.rw_rh0269_01.Holds := by
  k_with_none
  (k_with "eval Name" => (k_here; (with_reducible show wpAny _ _ (eval (Expr.Name _ _) (envOf _ _ _ _ _)) _ _ _); k_dflt (refine' ld ?nx1 ?nx2 ?_; (case nx1 => k_asm); (case nx2 => (first | (with_reducible assumption) | ((repeat' (first | exact if_pos rfl | refine (if_neg (by decide)).trans ?_)) <;> (with_reducible assumption)))); k_whole)))
  (k_with "eval Name" => (k_here; (with_reducible show wpAny _ _ (eval (Expr.Name _ _) (envOfC _ _ _ _ _)) _ _ _); k_dflt (refine' nameX_L ?nx1 ?nx2 ?_ ?nxa ?nxb; (case nx1 => k_asm); (case nxa => rfl); (case nxb => rfl); (case nx2 => (first | (with_reducible assumption) | ((repeat' (first | exact if_pos rfl | refine (if_neg (by decide)).trans ?_)) <;> (with_reducible assumption)))); k_whole)))
  (k_with "loadName" => (k_here; k_dflt (refine' ldn ?nx1 ?nx2 ?_; (case nx1 => k_asm); (case nx2 => (first | (with_reducible assumption) | ((repeat' (first | exact if_pos rfl | refine (if_neg (by decide)).trans ?_)) <;> (with_reducible assumption)))); k_whole)))
  (k_with "eval Name" => (k_here; (with_reducible show wpAny _ _ (eval (Expr.Name _ _) (envX _ _ _ _ _ _)) _ _ _); k_dflt (refine' nameX_L ?nx1 ?nx2 ?_ ?nxa ?nxb; (case nx1 => k_asm); (case nxa => rfl); (case nxb => rfl); (case nx2 => (first | (with_reducible assumption) | ((repeat' (first | exact if_pos rfl | refine (if_neg (by decide)).trans ?_)) <;> (with_reducible assumption)))); k_whole)))
  (k_with "callWith ref" => (k_dflt ((with_reducible show wpAny _ _ (callWith _ (Value.ref _) _ (backTo _ (starEach [] _)) []) _ _ _); refine' callWith_K0 ?k1 ?k2 ?_; (case k1 => exact Frag.In.keeps (K := hd.heap_39 w.params) (h := s1.heap) (by with_reducible assumption) (Fr.keep (L := s1.heap.objs.size) (by with_reducible assumption))); (case k2 => k_is); k_whole)))
  (k_with "call ref" => (k_dflt (
    refine' ladled_at (by assumption) (by assumption) (by assumption) (by assumption) (by assumption) ?hk ?hd ?hu ?U ?hS ?hne ?hi ?hl ?k0 ?k1 ?m0 ?m1 ?_
    (case hk => first | rfl | assumption)
    (case hd => ktr_room)
    (case hu => ktr_units)
    (case U => k_updF)
    (case hS => k_mem)
    (case hne => omega)
    (case hi => first | exact hbs | assumption)
    (case hl => first | exact hbl | (rw [List.length_map, List.length_take]; omega))
    (case k0 => omega)
    (case k1 => omega)
    (case m0 => omega)
    (case m1 => omega)
    intro r tr tkp ep h' tk' hr0 hr1 F' N'
    (try dsimp only at N'))))
  (k_with "exec For Name Call cons nil" => (k_dflt (refine' For_turns ?cF ?_ ?cs ?cE; (case cF => k_asm); (case cs => intro _; with_unfolding_all rfl); (case cE => first | passes_own | with_unfolding_all passes_own))))
  (k_with "binaryOp Add ref ref" => (k_dflt (
    refine' kmk_add_ints (ns := ks) (ms := [_]) ?adF ?adN ?ada ?adb hlv ?adhz ?_ ?adz
    (case adF => k_asm)
    (case adN => k_asm)
    (case ada => exact News.isList (by assumption) (by k_mem))
    (case adb => exact News.isList (by assumption) (by k_mem))
    (case adhz => exact .cons _ _ .nil)
    (case adz => exact Nat.le_trans (show ks.length + 1 ≤ 1001 by omega) (Nat.le_of_ble_eq_true rfl))
    intro D' ws' h' F' N' l1 hI'
    (try k_lt l1))))
  (k_with "subscriptTail" => (k_dflt (
    (have hmark := hnum)
    obtain ⟨tit, j, hj1, hj2⟩ := prev_item (by assumption) hkl
    refine' item_any ?it1 ?it2 ?it3 hj1 hj2 ?_ ?it6
    (case it1 => exact News.isList (by assumption) (by k_mem))
    (case it2 => exact (small_idx hi1000).1)
    (case it3 => exact (small_idx hi1000).2)
    (case it6 => with_unfolding_all rfl))))
  (k_with "pyIter ref" => (k_dflt (
    (rename IsRange _ _ _ _ _ _ _ _ => hrg)
    (rename News _ _ _ _ => NN)
    (obtain ⟨gl, hgl⟩ := ex_addr (News.get NN (List.Mem.head _)))
    (subst hgl)
    (obtain ⟨nl, hnl⟩ := ex_addr (News.get NN (List.Mem.tail _ (List.Mem.tail _ (List.Mem.tail _ (List.Mem.tail _ (List.Mem.tail _ (List.Mem.head _))))))))
    (subst hnl)
    (obtain ⟨pt, hpt⟩ := ex_addr (News.get NN (List.Mem.tail _ (List.Mem.tail _ (List.Mem.tail _ (List.Mem.tail _ (List.Mem.tail _ (List.Mem.tail _ (List.Mem.head _)))))))))
    (subst hpt)
    (obtain ⟨sp, hsp⟩ := ex_addr (News.get NN (List.Mem.tail _ (List.Mem.tail _ (List.Mem.tail _ (List.Mem.tail _ (List.Mem.tail _ (List.Mem.tail _ (List.Mem.tail _ (List.Mem.head _))))))))))
    (subst hsp)
    obtain ⟨bs, hbs, hbl⟩ : ∃ bs : List Int, IntsAre ys bs ∧ bs.length < 1000 := ⟨_, (by assumption), (by rw [List.length_map, List.length_take]; omega)⟩
    have hord : @LT.lt Nat _ (s1.heap.objs.size + 1) pt ∧ @LT.lt Nat _ sp pt ∧ @LT.lt Nat _ pt nl ∧ @LT.lt Nat _ nl gl := by omega
    (revert hord; (repeat (rename (@LT.lt Nat _ _ _ ∧ _) => hz; clear hz)); (repeat (rename (@Ne Nat _ _ ∧ _) => hz; clear hz)); intro hord)
    refine' for_range (n := _) rfl rfl rfl (by assumption) (news_in (by assumption) (by kcj_all)) NN hrg (Int.toNat_of_nonneg (by omega)).symm (by omega)
      (fun i m₁ news₁ => ∃ (ks : List Int) (lv : List Value) (e ep eg : Nat) (kp : Int) (tkp tn tod tsd : Tok) (nw od sd : Int), m₁ (Str.ofString "pot") = some (.ref pt) ∧ m₁ (Str.ofString "numbers") = some (.ref nl) ∧ m₁ (Str.ofString "goals") = some (.ref gl) ∧ m₁ (Str.ofString "new") = some (.int nw tn) ∧ m₁ (Str.ofString "old") = some (.int od tod) ∧ m₁ (Str.ofString "stride") = some (.int sd tsd) ∧
        news₁ = [(gl, listOf #[] eg), (nl, listOf lv.toArray e), (pt, listOf #[.ref sp, .int kp tkp] ep), (sp, lst ys), (s1.heap.objs.size + 1, oC)] ∧ IntsAre lv ks ∧ ks.length = i ∧ NumsOk ks ∧ 0 ≤ kp ∧ kp ≤ 10 + (i : Int))
      ⟨[], [], _, _, _, _, _, _, _, _, _, _, _, rfl, rfl, rfl, rfl, rfl, rfl, rfl, .nil, rfl, .nil, by omega, by omega⟩ ?turn1 ?fin1
    case' turn1 => (
      rintro i ti m₁ news₁ own h tk I oI hi ⟨ks, lv, e, ep, eg, kp, tkp, tn, tod, tsd, nw, od, sd, q1, q2, q3, q4, q5, q6, rfl, hlv, hkl, hnum, hp0, hp1⟩ hwr hown hI hlo F₁ N₁
      have F₂ : Fr s1.heap s1.heap.objs.size h _ := F₁
      have N₂ : News s1.heap s1.heap.objs.size h ((gl, listOf #[] eg) :: (nl, listOf lv.toArray e) :: (pt, listOf #[.ref sp, .int kp tkp] ep) :: (sp, lst ys) :: (s1.heap.objs.size + 1, oC) :: own) := N₁
      clear F₁ N₁
      have hi1000 : i < 1000 := by omega
      have hlvl := hlv.length
      have hI1 : @LT.lt Nat _ pt I := hlo (pt, _) (by k_mem)
      have hI2 : @LT.lt Nat _ nl I := hlo (nl, _) (by k_mem)
      have hoP : ∀ q ∈ own, q.1 ≠ pt := fun q hq => by rw [hown q hq]; exact Nat.ne_of_gt hI1
      have hoN : ∀ q ∈ own, q.1 ≠ nl := fun q hq => by rw [hown q hq]; exact Nat.ne_of_gt hI2)
    case' fin1 => (
      rintro h tk m₁ news₁ F₁ N₁ ⟨ks, lv, e, ep, eg, kp, tkp, tn, tod, tsd, nw, od, sd, q1, q2, q3, q4, q5, q6, rfl, hlv, hkl, hnum, hp0, hp1⟩
      have hkl4 : 1 ≤ ks.length ∧ ks.length ≤ 4 := by omega
      have F₂ : Fr s1.heap s1.heap.objs.size h _ := F₁
      have N₂ : News s1.heap s1.heap.objs.size h _ := N₁
      clear F₁ N₁ hrg NN
      have hlvl := hlv.length
      have hnum2 := hnum
      clear hnum))))
  (k_with "exec For Name Name cons nil" => (k_dflt (refine' For_turns ?cF ?_ ?cs ?cE; (case cF => k_asm); (case cs => intro _; with_unfolding_all rfl); (case cE => first | passes_own | with_unfolding_all passes_own))))
  (k_with "subscriptTail" => (k_dflt (
    (have hmark := hgo)
    obtain ⟨tit, g, hj1, hj2, hgm⟩ := menu_item (l := ks ++ [999]) (by assumption) hr0 (by rw [List.length_append, List.length_singleton]; omega)
    refine' item_any ?iu1 ?iu2 ?iu3 hj1 hj2 ?_ ?iu6
    (case iu1 => exact News.isList (by assumption) (by k_mem))
    (case iu2 => omega)
    (case iu3 => omega)
    (case iu6 => with_unfolding_all rfl))))
  (k_with "pyIter ref" => (k_dflt (
    (have hmark := hkl4)
    refine' for_list2 rfl rfl rfl (by assumption) (by assumption) (by assumption) (vs := lv) (l := nl) (by k_mem)
      (fun i m₁ news₁ => ∃ (gs : List Int) (gv : List Value) (ep eg : Nat) (kp : Int) (tkp : Tok), m₁ (Str.ofString "pot") = some (.ref pt) ∧ m₁ (Str.ofString "numbers") = some (.ref nl) ∧ m₁ (Str.ofString "goals") = some (.ref gl) ∧ m₁ (Str.ofString "new") = some (.int nw tn) ∧ m₁ (Str.ofString "old") = some (.int od tod) ∧ m₁ (Str.ofString "stride") = some (.int sd tsd) ∧
        news₁ = [(gl, listOf gv.toArray eg), (nl, listOf lv.toArray e), (pt, listOf #[.ref sp, .int kp tkp] ep), (sp, lst ys), (s1.heap.objs.size + 1, oC)] ∧ IntsAre gv gs ∧ gs.length = i ∧ GoalsOk ks gs ∧ 0 ≤ kp ∧ kp ≤ 20 + (i : Int))
      ⟨[], [], _, _, _, _, q1, q2, q3, q4, q5, q6, rfl, .nil, rfl, (by intro g hg; cases hg), by omega, by omega⟩ ?turn2 ?fin2
    case' turn2 => (
      have hkl6 := hkl4
      clear hkl4
      rintro i v m₁ news₁ own h tk I oI hv ⟨gs, gv, ep, eg, kp, tkp, q1, q2, q3, q4, q5, q6, rfl, hgv, hgl, hgo, hp0, hp1⟩ hwr hown hI hlo hlt F₁ N₁
      have F₂ : Fr s1.heap s1.heap.objs.size h _ := F₁
      have N₂ : News s1.heap s1.heap.objs.size h ((gl, listOf gv.toArray eg) :: (nl, listOf lv.toArray e) :: (pt, listOf #[.ref sp, .int kp tkp] ep) :: (sp, lst ys) :: (s1.heap.objs.size + 1, oC) :: own) := N₁
      clear F₁ N₁
      have hi1000 : i < 1000 := by have := (List.getElem?_eq_some_iff.mp hv).1; omega
      have hi4 : i < 4 := by have := (List.getElem?_eq_some_iff.mp hv).1; omega
      have hgvl := hgv.length
      obtain ⟨d1, d2, d3, d4⟩ := hord
      have hI1 : @LT.lt Nat _ pt I := hlt (pt, _) (by k_mem)
      have hI2 : @LT.lt Nat _ gl I := hlt (gl, _) (by k_mem)
      have hoP : ∀ q ∈ own, q.1 ≠ pt := fun q hq => by
        rcases hown q hq with e | e
        · rw [e]; exact Nat.ne_of_gt hI1
        · rw [e]; exact Nat.ne_of_gt d3
      have hoG : ∀ q ∈ own, q.1 ≠ gl := fun q hq => by
        rcases hown q hq with e | e
        · rw [e]; exact Nat.ne_of_gt hI2
        · rw [e]; exact Nat.ne_of_lt d4)
    case' fin2 => (
      rintro h tk m₁ news₁ F₁ N₁ ⟨gs, gv, ep, eg, kp, tkp, q1, q2, q3, q4, q5, q6, rfl, hgv, hgl, hgo2, hp0, hp1⟩
      have F₂ : Fr s1.heap s1.heap.objs.size h _ := F₁
      have N₂ : News s1.heap s1.heap.objs.size h _ := N₁
      clear F₁ N₁
      have hkl5 := hkl4
      clear hkl4
      rw [hlvl] at hgl
      have hgvl := hgv.length))))
  (k_with "eval ListComp" => (k_dflt ((have hmark := hgo2); refine' ListComp_G _ ?cF ?cl ?cc ?ck ?cn ?_ ?cs; (case cF => k_asm); (case cl => with_unfolding_all rfl); (case cc => decide); (case ck => with_unfolding_all rfl); (case cn => decide); (case cs => intro _; with_unfolding_all rfl))))
  (k_with "call type:zip" => (k_dflt (
    (have hmark := hgo2)
    refine' comp_zip (xs := lv) (ys₀ := gv) (l1 := nl) (l2 := gl) rfl (by assumption) (by assumption) (by k_mem) (by k_mem) (by omega) (Nat.le_trans (show lv.length ≤ 1000 by omega) (Nat.le_of_ble_eq_true rfl)) rfl rfl rfl (by decide)
      (fun i ys news₁ => news₁ = _ ∧ StrsAre ys (((ks.zip gs).take i).map fun q => rowText q.1 q.2))
      ⟨rfl, .nil⟩ ?turn3 ?fin3
    case' turn3 => (
      rintro i v₁ v₂ ys₅ news₁ own wr C oC' D₂ m₂ h tk E' hv1 hv2 hm1 hm2 hoC ⟨rfl, hys₅⟩ hyl₅ F' N' hwn off hCD hwo
      obtain ⟨k, tk1, rfl, hk1⟩ := hlv.at i v₁ hv1
      obtain ⟨g, tk2, rfl, hg1⟩ := hgv.at i v₂ hv2
      have hkb : 1 ≤ k ∧ k ≤ 80 := num_bounds hnum2 hkl5.2 (List.mem_of_getElem? hk1)
      have hgb : 1 ≤ g ∧ g ≤ 999 := goal_bounds hnum2 hkl5.2 hgo2 (List.mem_of_getElem? hg1))
    case' fin3 => (
      rintro g3 ys₅ news' ⟨rfl, hys₅⟩
      intro D₅ h tk F' N' off₅
      have hys₆ : StrsAre ys₅ (texts ks gs) := by
        rw [List.take_of_length_le (by rw [List.length_zip]; omega)] at hys₅
        exact hys₅
      (obtain ⟨rl, hrl⟩ := ex_addr (News.get N' (List.Mem.tail _ (List.Mem.head _))))
      (subst hrl)
      (obtain ⟨nml, hnml⟩ := ex_addr (News.get N' (List.Mem.tail _ (List.Mem.tail _ (List.Mem.head _)))))
      (subst hnml)
      (obtain ⟨p, hp⟩ := ex_addr (News.get N' (List.Mem.tail _ (List.Mem.tail _ (List.Mem.tail _ (List.Mem.head _))))))
      (subst hp)
      (obtain ⟨dx, hdx⟩ := ex_addr (News.get N' (List.Mem.tail _ (List.Mem.tail _ (List.Mem.tail _ (List.Mem.tail _ (List.Mem.head _)))))))
      (subst hdx)
      have hord2 : @LT.lt Nat _ gl dx ∧ @LT.lt Nat _ gl nml ∧ @LT.lt Nat _ gl rl ∧ @LT.lt Nat _ nl dx ∧ @LT.lt Nat _ nl nml ∧ @LT.lt Nat _ nl rl ∧ @LT.lt Nat _ (s1.heap.objs.size + 1) dx ∧ @LT.lt Nat _ (s1.heap.objs.size + 1) nml ∧ @LT.lt Nat _ (s1.heap.objs.size + 1) rl := by omega
      have hnr : @Ne Nat nml rl := by omega
      (revert hord hord2 hkl5; (repeat (rename (@LT.lt Nat _ _ _ ∧ _) => hz; clear hz)); (repeat (rename (@Ne Nat _ _ ∧ _) => hz; clear hz)); intro hord hkl5 hord2)
      obtain ⟨h1', t1', h2', t2', N₅⟩ := prog_abs N'
      clear N' off₅))))
  (k_with "call builtin:str.join" => (k_dflt (
    (have hmark := hys₆)
    refine' join_listC (News.get (by assumption) (List.Mem.head _) |> fun e => ⟨_, e, rfl, _, rfl⟩) (ys := texts ks gs) (by simpa using hys₆) (by decide) (texts_sum hnum2 hkl5.2 hgo2 hgl) ?_
    intro tj kj)))
  (k_with "call ref" => (k_dflt (
    (have hmark := hys₆)
    refine' enter_all_spec (xs := texts ks gs) (ks := ks) (gs := gs) (by assumption) (by assumption) (by assumption) (by assumption) (by assumption) ?hk ?hd ?hu ⟨by k_mem, by k_mem, by k_mem, by k_mem⟩ hnr (texts_join hnum2 hkl5.2 hkl5.1 hgo2 hgl).1 (texts_join hnum2 hkl5.2 hkl5.1 hgo2 hgl).2
      (by rw [texts_len hgl]; omega) (texts_len hgl).symm (hgl.trans (texts_len hgl).symm) hnum2.sorted (texts_text hnum2 hkl5.2 hgo2) ?_
    (case hk => first | rfl | assumption)
    (case hd => ktr_room)
    (case hu => ktr_units)
    intro vs₆ rs₆ e₆ e₇ h' tk' news₆ F' N' P₆ hi₆ hr₆ hsub₆
    clear hys₆
    obtain ⟨rest, hrest⟩ : ∃ rest, rest = (without nml rl news₆).filter fun q => decide (q.1 ≠ dx) := ⟨_, rfl⟩
    have hr₇ : RowsAre rest rs₆ gs := by rw [hrest]; exact hr₆.off (fun q hq => without_sub q hq) N' P₆.dict rfl
    have hrn : ∀ q ∈ rest, q.1 ≠ dx := fun q hq => by rw [hrest] at hq; simpa using (List.mem_filter.mp hq).2
    have N₆ : News s1.heap s1.heap.objs.size h' ((p, instObj 136 dx) :: (dx, dictOf [⟨h1', .str (Str.ofString "numbers") t1', .ref nml⟩, ⟨h2', .str (Str.ofString "rows") t2', .ref rl⟩] 2) :: (nml, listOf vs₆.toArray e₆) :: (rl, listOf rs₆.toArray e₇) :: (gl, listOf gv.toArray eg) :: (nl, listOf lv.toArray e) :: (s1.heap.objs.size + 1, oC) :: rest) := news_in N' fun q hq => by
      rcases List.mem_cons.mp hq with rfl | hq
      · exact P₆.inst
      rcases List.mem_cons.mp hq with rfl | hq
      · exact P₆.dict
      rcases List.mem_cons.mp hq with rfl | hq
      · exact P₆.nums
      rcases List.mem_cons.mp hq with rfl | hq
      · exact P₆.rows
      rcases List.mem_cons.mp hq with rfl | hq
      · exact without_sub _ (hsub₆ _ (mem_without (by k_mem) (Nat.ne_of_lt hord2.2.1) (Nat.ne_of_lt hord2.2.2.1)))
      rcases List.mem_cons.mp hq with rfl | hq
      · exact without_sub _ (hsub₆ _ (mem_without (by k_mem) (Nat.ne_of_lt hord2.2.2.2.2.1) (Nat.ne_of_lt hord2.2.2.2.2.2.1)))
      rcases List.mem_cons.mp hq with rfl | hq
      · exact without_sub _ (hsub₆ _ (mem_without (by k_mem) (Nat.ne_of_lt hord2.2.2.2.2.2.2.2.1) (Nat.ne_of_lt hord2.2.2.2.2.2.2.2.2)))
      · rw [hrest] at hq
        exact without_sub _ (List.mem_filter.mp hq).1
    clear N' hsub₆ hrest P₆ hr₆ N₅)))
  (k_with "call ref" => (k_dflt (
    (have hmark := hrn)
    refine' law_due_spec (nm := nl) (by assumption) (by assumption) (by assumption) (by assumption) (by assumption) ?hk ?hd ?hu (by k_mem) hlv (by omega) hnum2.sorted rfl ?_ ?_
    (case hk => first | rfl | assumption)
    (case hd => ktr_room)
    (case hu => ktr_units)
    (intro hno h' tk' F' N')
    rotate_left 1
    (intro hno D₇ ys₇ e₈ h' tk' F' N' off₇ hi₇))))
  (k_with "exec Assign cons ListComp" => (k_dflt ((have hmark := hrn); refine' Assign_ListComp_G _ (by assumption) rfl ?csw ?cl ?cc ?ck ?cn ?cy ?cp ?_ ?cs; (case csw => with_unfolding_all rfl); (case cl => with_unfolding_all rfl); (case cc => decide); (case ck => with_unfolding_all rfl); (case cn => decide); (case cy => rfl); (case cp => rfl); (case cs => intro _; with_unfolding_all rfl))))
  (k_with "pyIter ref" => (k_dflt (
    (have hmark := hrn)
    refine' comp_list (vs := gv) rfl (by assumption) (by assumption) (l := gl) (by k_mem) (Nat.le_trans (Nat.le_of_lt (show gv.length < 1000 by omega)) (Nat.le_of_ble_eq_true rfl)) rfl rfl
      (fun i ysr news₁ => ∃ pre, news₁ = pre ++ _ ∧ RowsAre pre ysr (gs.take i) ∧ ∀ q ∈ pre, q.1 ≠ dx)
      ⟨[], rfl, .nil, fun q hq => nomatch hq⟩ ?_ ?_
    rintro i v ysr news₁ own C oC' D₂ m₂ h tk E' hv hm' hoC ⟨pre, rfl, hrr, hpre⟩ hyl2 F' N' off hCD hwo
    obtain ⟨g, tg, rfl, hg1⟩ := hgv.at i v hv
    obtain ⟨R, hR, N₃⟩ := comp_led N' (List.mem_append_right _ (show (dx, dictOf [⟨h1', .str (Str.ofString "numbers") t1', .ref nml⟩, ⟨h2', .str (Str.ofString "rows") t2', .ref rl⟩] 2) ∈ _ by k_mem))
    clear N'
    rotate_left 1
    rintro g1 ysr news' ⟨pre, rfl, hrr, hpre⟩
    rw [List.take_of_length_le (by omega)] at hrr
    intro Dr h tk F' N' off
    have v1 : @Ne Nat Dr dx := fun e => off (dx, dictOf [⟨h1', .str (Str.ofString "numbers") t1', .ref nml⟩, ⟨h2', .str (Str.ofString "rows") t2', .ref rl⟩] 2) (List.mem_append_right _ (by k_mem)) e.symm
    have N₇ : News s1.heap s1.heap.objs.size h ((Dr, listOf ysr.toArray ysr.length) :: _) := N'
    clear N'
    first
      | (have hD7 : @Ne Nat D₇ dx := Nat.ne_of_gt (allLt_mem off₇ (dx, dictOf [⟨h1', .str (Str.ofString "numbers") t1', .ref nml⟩, ⟨h2', .str (Str.ofString "rows") t2', .ref rl⟩] 2) (by k_mem))
         have N₈ : News s1.heap s1.heap.objs.size h ((p, instObj 136 dx) :: (dx, dictOf [⟨h1', .str (Str.ofString "numbers") t1', .ref nml⟩, ⟨h2', .str (Str.ofString "rows") t2', .ref rl⟩] 2) :: (nml, listOf vs₆.toArray e₆) :: (rl, listOf rs₆.toArray e₇) :: ((Dr, listOf ysr.toArray ysr.length) :: (D₇, listOf ys₇.toArray e₈) :: (gl, listOf gv.toArray eg) :: (nl, listOf lv.toArray e) :: (s1.heap.objs.size + 1, oC) :: (pre ++ rest))) := news_in N₇ (fun q hq => by (repeat (rcases List.mem_cons.mp hq with rfl | hq; · first | exact List.Mem.head _ | exact List.Mem.tail _ (List.mem_append_right _ (by k_mem)))); rcases List.mem_append.mp hq with hq | hq; exact List.Mem.tail _ (List.mem_append_left _ hq); exact List.Mem.tail _ (List.mem_append_right _ (by (repeat (first | exact hq | refine List.Mem.tail _ ?_))))))
      | (have N₈ : News s1.heap s1.heap.objs.size h ((p, instObj 136 dx) :: (dx, dictOf [⟨h1', .str (Str.ofString "numbers") t1', .ref nml⟩, ⟨h2', .str (Str.ofString "rows") t2', .ref rl⟩] 2) :: (nml, listOf vs₆.toArray e₆) :: (rl, listOf rs₆.toArray e₇) :: ((Dr, listOf ysr.toArray ysr.length) :: (gl, listOf gv.toArray eg) :: (nl, listOf lv.toArray e) :: (s1.heap.objs.size + 1, oC) :: (pre ++ rest))) := news_in N₇ (fun q hq => by (repeat (rcases List.mem_cons.mp hq with rfl | hq; · first | exact List.Mem.head _ | exact List.Mem.tail _ (List.mem_append_right _ (by k_mem)))); rcases List.mem_append.mp hq with hq | hq; exact List.Mem.tail _ (List.mem_append_left _ hq); exact List.Mem.tail _ (List.mem_append_right _ (by (repeat (first | exact hq | refine List.Mem.tail _ ?_))))))
    clear N₇ off
    have hrn2 := hrn
    clear hrn)))
  (k_with "exec Try" => (k_dflt (refine wpAny_Try_except ?_)))
  (k_with "call ref" => (k_dflt (
    (have hmark := hrn2)
    refine' renumber_spec (ks := ks) (gs := gs) (by assumption) (by assumption) (by assumption) (by assumption) (by assumption) ?hk ?hd ?hu rfl ?hrest hi₆ ?hrw (by omega) (by omega) hnum2.sorted ?_ ?_
    (case hk => first | rfl | assumption)
    (case hd => ktr_room)
    (case hu => ktr_units)
    (case hrest =>
      intro q hq
      (repeat (rcases List.mem_cons.mp hq with rfl | hq; (first | exact v1 | exact hD7 | exact Nat.ne_of_lt hord2.1 | exact Nat.ne_of_lt hord2.2.2.2.1 | exact Nat.ne_of_lt hord2.2.2.2.2.2.2.1)))
      rcases List.mem_append.mp hq with hq | hq
      exact hpre q hq
      exact hrn2 q hq)
    (case hrw => exact hr₇.sub (fun q hq => by (repeat (first | exact List.mem_append_right _ hq | refine List.Mem.tail _ ?_))))
    (intro hrf G e De oDe tkE h' tk' FG TH U hoD)
    (try (exact absurd (refused_all hnum2 hrf) hno))
    rotate_left 1
    (intro r nk hpl hnr' hnk hnkl D₉ ys₉ e₉ R₉ rs₉ e₁₀ F₉ lv₉ e₁₁ more h' tk' F' N' hi₉ hr₉ hp₉)
    (try (exact absurd ((refused_iff hnum2 hpl).mp hno) hnr'))
    (try (
      (have hmark := hp₉)
      have he7 := due_same hnum2 hpl hnk
      rw [he7] at hi₇
      have hi7l := hi₇.length
      have hC8 : (s1.heap.objs.size + 1, oC) ∈ (more ++ ((Dr, listOf ysr.toArray ysr.length) :: (D₇, listOf ys₇.toArray e₈) :: (gl, listOf gv.toArray eg) :: (nl, listOf lv.toArray e) :: (s1.heap.objs.size + 1, oC) :: (pre ++ rest))) := List.mem_append_right _ (.tail _ (.tail _ (.tail _ (.tail _ (.head _)))))
      have hseq : ∀ xs n, oC.data ≠ .seq xs n := fun xs n e => by rw [dC2] at e; cases e
      have hr₁₀ := hr₉.offD (fun q hq => .tail _ (.tail _ (.tail _ (.tail _ (.tail _ hq))))) N' (.tail _ (.tail _ (.tail _ (.tail _ (.tail _ hC8))))) hseq
      have hp₁₀ := hp₉.offD (fun q hq => .tail _ (.tail _ (.tail _ (.tail _ (.tail _ hq))))) N' (.tail _ (.tail _ (.tail _ (.tail _ (.tail _ hC8))))) hseq
      obtain ⟨T₉, hT₉⟩ : ∃ T₉, T₉ = List.filter (fun q => decide (q.1 ≠ s1.heap.objs.size + 1)) (more ++ ((Dr, listOf ysr.toArray ysr.length) :: (D₇, listOf ys₇.toArray e₈) :: (gl, listOf gv.toArray eg) :: (nl, listOf lv.toArray e) :: (s1.heap.objs.size + 1, oC) :: (pre ++ rest))) := ⟨_, rfl⟩
      rw [← hT₉] at hr₁₀ hp₁₀
      rw [lost_999 hnum2 hkl5.2 hgo2] at hp₁₀
      have hT₁₀ : ∀ q ∈ T₉, q.1 ≠ s1.heap.objs.size + 1 := fun q hq => by rw [hT₉] at hq; simpa using (List.mem_filter.mp hq).2
      have N₁₀ : News s1.heap s1.heap.objs.size h' ((p, instObj 136 dx) :: (dx, dictOf [⟨h1', .str (Str.ofString "numbers") t1', .ref D₉⟩, ⟨h2', .str (Str.ofString "rows") t2', .ref R₉⟩] 2) :: (D₉, listOf ys₉.toArray e₉) :: (R₉, listOf rs₉.toArray e₁₀) :: (F₉, listOf lv₉.toArray e₁₁) :: (D₇, listOf ys₇.toArray e₈) :: (gl, listOf gv.toArray eg) :: (nl, listOf lv.toArray e) :: (s1.heap.objs.size + 1, oC) :: T₉) := news_in N' (fun q hq => by
        rcases List.mem_cons.mp hq with rfl | hq
        · k_mem
        rcases List.mem_cons.mp hq with rfl | hq
        · k_mem
        rcases List.mem_cons.mp hq with rfl | hq
        · k_mem
        rcases List.mem_cons.mp hq with rfl | hq
        · k_mem
        rcases List.mem_cons.mp hq with rfl | hq
        · k_mem
        refine .tail _ (.tail _ (.tail _ (.tail _ (.tail _ ?_))))
        rcases List.mem_cons.mp hq with rfl | hq
        · exact List.mem_append_right _ (by k_mem)
        rcases List.mem_cons.mp hq with rfl | hq
        · exact List.mem_append_right _ (by k_mem)
        rcases List.mem_cons.mp hq with rfl | hq
        · exact List.mem_append_right _ (by k_mem)
        rcases List.mem_cons.mp hq with rfl | hq
        · exact List.mem_append_right _ (by k_mem)
        rw [hT₉] at hq
        exact (List.mem_filter.mp hq).1)
      clear N' hT₉ hr₉ hp₉ hC8 hseq hrr hpre hrn2 hr₇ hi₆ hord hord2)))))
  (k_with "noteFrame ref" => (k_dflt (
    (have hmark := TH)
    refine' throw_caught TH FG U (by assumption) (by assumption) rfl ?_ rfl rfl rfl
    intro h' oe tk' F' N' hoec hoed hoen hnee)))
  (k_with "getAttr ref" => (k_dflt (
    (have hmark := hoed)
    refine' kind_at (e := e) ?gaF ?gaX ?gaN ?ga1 ?ga2 hoec hoed hoen hoD rfl ?_
    (case gaF => k_asm)
    (case gaX => assumption)
    (case gaN => assumption)
    (case ga1 => k_mem)
    (case ga2 => k_mem))))
  (k_with "compareOp Eq ref ref" => (k_dflt (
    (have hmark := hoed)
    first
      | (refine' eq_ints (ks := ks) ?ceN ?ce1 ?ce2 hi₆ hlv ?ceu ?_
         (case ceN => assumption)
         (case ce1 => k_mem)
         (case ce2 => k_mem)
         (case ceu => ktr_units))
      | (refine' eq_rows (gs := gs) ?crN ?cr1 ?cr2 hr₇ ?cr3 hrr ?cr4 ?cru ?_
         (case crN => assumption)
         (case cr1 => k_mem)
         (case cr2 => k_mem)
         (case cr3 => exact (fun q hq => by (repeat (first | exact hq | exact List.mem_append_right _ hq | exact List.mem_append_left _ hq | exact List.mem_append_right _ (List.mem_append_right _ hq) | refine List.Mem.tail _ ?_))))
         (case cr4 => exact (fun q hq => by (repeat (first | exact hq | exact List.mem_append_right _ hq | exact List.mem_append_left _ hq | exact List.mem_append_right _ (List.mem_append_right _ hq) | refine List.Mem.tail _ ?_))))
         (case cru => ktr_units)))))
  (k_with "compareOp NotEq ref ref" => (k_dflt (
    (have hmark := hp₁₀)
    first
      | (refine' ne_ints (ks := nk) ?cfN ?cf1 ?cf2 hi₉ hi₇ ?cfu ?_
         (case cfN => assumption)
         (case cf1 => k_mem)
         (case cf2 => k_mem)
         (case cfu => ktr_units))
      | (refine' ne_rows (gs := gs.map fun g => kdfLook (ks.zip nk) g g) ?cgN ?cg1 ?cg2 hr₁₀ ?cg3 hrr₂ ?cg4 ?cgu ?_
         (case cgN => assumption)
         (case cg1 => k_mem)
         (case cg2 => k_mem)
         (case cg3 => exact (fun q hq => by (repeat (first | exact hq | exact List.mem_append_right _ hq | exact List.mem_append_left _ hq | exact List.mem_append_right _ (List.mem_append_right _ hq) | refine List.Mem.tail _ ?_))))
         (case cg4 => exact (fun q hq => by (repeat (first | exact hq | exact List.mem_append_right _ hq | exact List.mem_append_left _ hq | exact List.mem_append_right _ (List.mem_append_right _ hq) | refine List.Mem.tail _ ?_))))
         (case cgu => ktr_units)))))
  (k_with "call type:zip" => (k_dflt (
    (have hmark := hp₁₀)
    refine' comp_zip (xs := lv) (ys₀ := ys₇) (l1 := nl) (l2 := D₇) rfl (by assumption) (by assumption) (by k_mem) (by k_mem) (by omega) (Nat.le_trans (show lv.length ≤ 1000 by omega) (Nat.le_of_ble_eq_true rfl)) rfl rfl rfl (by decide)
      (fun i ys news₁ => ∃ pre, news₁ = pre ++ _ ∧ PairsAre pre ys ((ks.zip nk).take i))
      ⟨[], rfl, .nil⟩ ?_ ?_
    rintro i v₁ v₂ ys₁₁ news₁ own wr C oC' D₂ m₂ h tk E' hv1 hv2 hm1 hm2 hoC ⟨pre₁, rfl, hpp₁⟩ hyl₁ F' N' hwn off hCD hwo
    obtain ⟨k, tk1, rfl, hk1⟩ := hlv.at i v₁ hv1
    obtain ⟨n, tk2, rfl, hn1⟩ := hi₇.at i v₂ hv2
    obtain ⟨R₁, hR₁⟩ : ∃ R₁, R₁ = (pre₁ ++ ((p, instObj 136 dx) :: (dx, dictOf [⟨h1', .str (Str.ofString "numbers") t1', .ref D₉⟩, ⟨h2', .str (Str.ofString "rows") t2', .ref R₉⟩] 2) :: (D₉, listOf ys₉.toArray e₉) :: (R₉, listOf rs₉.toArray e₁₀) :: (F₉, listOf lv₉.toArray e₁₁) :: (D₇, listOf ys₇.toArray e₈) :: (gl, listOf gv.toArray eg) :: (nl, listOf lv.toArray e) :: (s1.heap.objs.size + 1, oC) :: T₉)) ++ own := ⟨_, rfl⟩
    have N₃ : News s1.heap s1.heap.objs.size h ((C, oC') :: (D₂, lst ys₁₁) :: R₁) := by rw [hR₁]; exact N'
    clear N'
    rotate_left 1
    rintro g4 ys₁₁ news' ⟨pre₁, rfl, hpp₁⟩
    rw [List.take_of_length_le (by rw [List.length_zip]; omega)] at hpp₁
    intro D₁₁ h tk F' N' off₁₁)))
  (k_with "call type:dict" => (k_dflt (
    (have hmark := hpp₁)
    refine' dict_pairs (ps := ks.zip nk) rfl ?dpF ?dpN ?dpb ?dpl hpp₁ ?dps ?dpz ?_
    (case dpF => k_asm)
    (case dpN => assumption)
    (case dpb => exact modules_low (Top.nolimit (by k_asm)))
    (case dpl => exact List.Mem.head _)
    (case dps => exact fun q hq => .tail _ (List.mem_append_left _ hq))
    (case dpz => rw [List.length_zip]; omega)
    intro dW h' tk' oW kvs F' N' oW1 dW1 hdo hdf
    rw [zip_fold hnum2.sorted hnkl] at hdf
    have hdb : @LT.lt Nat _ (s1.heap.objs.size + 1) dW := oW1 (s1.heap.objs.size + 1, oC) (.tail _ (List.mem_append_right _ (by k_mem)))
    have N₁₂ : News s1.heap s1.heap.objs.size h' ((s1.heap.objs.size + 1, oC) :: (dW, oW) :: (p, instObj 136 dx) :: (dx, dictOf [⟨h1', .str (Str.ofString "numbers") t1', .ref D₉⟩, ⟨h2', .str (Str.ofString "rows") t2', .ref R₉⟩] 2) :: (D₉, listOf ys₉.toArray e₉) :: (R₉, listOf rs₉.toArray e₁₀) :: (F₉, listOf lv₉.toArray e₁₁) :: (D₇, listOf ys₇.toArray e₈) :: (gl, listOf gv.toArray eg) :: (nl, listOf lv.toArray e) :: T₉) := news_in N' (fun q hq => by
      rcases List.mem_cons.mp hq with rfl | hq
      · exact .tail _ (.tail _ (List.mem_append_right _ (by k_mem)))
      rcases List.mem_cons.mp hq with rfl | hq
      · exact .head _
      refine .tail _ (.tail _ (List.mem_append_right _ ?_))
      (repeat (rcases List.mem_cons.mp hq with rfl | hq; · k_mem))
      exact .tail _ (.tail _ (.tail _ (.tail _ (.tail _ (.tail _ (.tail _ (.tail _ (.tail _ hq)))))))))
    have hall : ∀ q ∈ (dW, oW) :: (p, instObj 136 dx) :: (dx, dictOf [⟨h1', .str (Str.ofString "numbers") t1', .ref D₉⟩, ⟨h2', .str (Str.ofString "rows") t2', .ref R₉⟩] 2) :: (D₉, listOf ys₉.toArray e₉) :: (R₉, listOf rs₉.toArray e₁₀) :: (F₉, listOf lv₉.toArray e₁₁) :: (D₇, listOf ys₇.toArray e₈) :: (gl, listOf gv.toArray eg) :: (nl, listOf lv.toArray e) :: T₉, q.1 ≠ s1.heap.objs.size + 1 := fun q hq => by
      rcases List.mem_cons.mp hq with rfl | hq
      · exact Nat.ne_of_gt hdb
      (repeat (rcases List.mem_cons.mp hq with rfl | hq; · exact ne_any N₁₂ (by k_mem) (by k_mem) (by rw [dC2]; simp [instObj, W.listOf, dictOf])))
      exact hT₁₀ q hq
    clear N' oW1 off₁₁ hpp₁)))
  (k_with "storeName" => (k_dflt (
    (have hmark := hdf)
    refine' storeX_C ?xF ?xN ?xc ?xU ?xd ?_ ?xa ?xb
    (case xa => rfl)
    (case xb => rfl)
    (case xF => k_asm)
    (case xN => assumption)
    (case xc => rfl)
    (case xU => exact UpdF.head hall)
    (case xd => exact dC2)
    k_whole
    intro h' oB F' N' hoB
    (try dsimp only at N')
    clear N₁₂ hall)))
  (k_with "pyIter ref" => (k_dflt (
    (have hmark := hoB)
    refine' comp_list (vs := gv) rfl (by assumption) (by assumption) (l := gl) (by k_mem) (Nat.le_trans (Nat.le_of_lt (show gv.length < 1000 by omega)) (Nat.le_of_ble_eq_true rfl)) rfl rfl
      (fun i ysr news₁ => ∃ pre, news₁ = pre ++ _ ∧ RowsAre pre ysr ((gs.take i).map fun g => kdfLook (ks.zip nk) g g))
      ⟨[], rfl, .nil⟩ ?_ ?_
    rintro i v ysr₂ news₁ own C oC' D₂ m₂ h tk E' hv hm' hoC ⟨pre₂, rfl, hrr₂⟩ hyl2 F' N' off hCD hwo
    obtain ⟨g, tg, rfl, hg1⟩ := hgv.at i v hv
    obtain ⟨R₂, hR₂⟩ : ∃ R₂, R₂ = (pre₂ ++ ((s1.heap.objs.size + 1, oB) :: (dW, oW) :: (p, instObj 136 dx) :: (dx, dictOf [⟨h1', .str (Str.ofString "numbers") t1', .ref D₉⟩, ⟨h2', .str (Str.ofString "rows") t2', .ref R₉⟩] 2) :: (D₉, listOf ys₉.toArray e₉) :: (R₉, listOf rs₉.toArray e₁₀) :: (F₉, listOf lv₉.toArray e₁₁) :: (D₇, listOf ys₇.toArray e₈) :: (gl, listOf gv.toArray eg) :: (nl, listOf lv.toArray e) :: T₉)) ++ own := ⟨_, rfl⟩
    have N₃ : News s1.heap s1.heap.objs.size h ((C, oC') :: (D₂, lst ysr₂) :: (dW, oW) :: (s1.heap.objs.size + 1, oB) :: R₂) := news_in N' (fun q hq => by
      rcases List.mem_cons.mp hq with rfl | hq
      · k_mem
      rcases List.mem_cons.mp hq with rfl | hq
      · k_mem
      refine .tail _ (.tail _ ?_)
      rcases List.mem_cons.mp hq with rfl | hq
      · exact List.mem_append_left _ (List.mem_append_right _ (by k_mem))
      rcases List.mem_cons.mp hq with rfl | hq
      · exact List.mem_append_left _ (List.mem_append_right _ (by k_mem))
      rw [hR₂] at hq
      exact hq)
    clear N'
    rotate_left 1
    rintro g5 ysr₂ news' ⟨pre₂, rfl, hrr₂⟩
    rw [List.take_of_length_le (by omega)] at hrr₂
    intro D₁₂ h tk F' N' off₂
    have N₁₄ : News s1.heap s1.heap.objs.size h ((D₁₂, listOf ysr₂.toArray ysr₂.length) :: (s1.heap.objs.size + 1, oB) :: (dW, oW) :: (p, instObj 136 dx) :: (dx, dictOf [⟨h1', .str (Str.ofString "numbers") t1', .ref D₉⟩, ⟨h2', .str (Str.ofString "rows") t2', .ref R₉⟩] 2) :: (D₉, listOf ys₉.toArray e₉) :: (R₉, listOf rs₉.toArray e₁₀) :: (F₉, listOf lv₉.toArray e₁₁) :: (D₇, listOf ys₇.toArray e₈) :: (gl, listOf gv.toArray eg) :: (nl, listOf lv.toArray e) :: (pre₂ ++ T₉)) := news_in (show News s1.heap s1.heap.objs.size h ((D₁₂, listOf ysr₂.toArray ysr₂.length) :: (pre₂ ++ ((s1.heap.objs.size + 1, oB) :: (dW, oW) :: (p, instObj 136 dx) :: (dx, dictOf [⟨h1', .str (Str.ofString "numbers") t1', .ref D₉⟩, ⟨h2', .str (Str.ofString "rows") t2', .ref R₉⟩] 2) :: (D₉, listOf ys₉.toArray e₉) :: (R₉, listOf rs₉.toArray e₁₀) :: (F₉, listOf lv₉.toArray e₁₁) :: (D₇, listOf ys₇.toArray e₈) :: (gl, listOf gv.toArray eg) :: (nl, listOf lv.toArray e) :: T₉))) from N') (fun q hq => by (repeat (rcases List.mem_cons.mp hq with rfl | hq; · first | exact List.Mem.head _ | exact List.Mem.tail _ (List.mem_append_right _ (by k_mem)))); rcases List.mem_append.mp hq with hq | hq; exact List.Mem.tail _ (List.mem_append_left _ hq); exact List.Mem.tail _ (List.mem_append_right _ (by (repeat (first | exact hq | refine List.Mem.tail _ ?_)))))
    clear N')))
  (k_with "call builtin:dict.get" => (k_dflt (
    (have hmark := hoB)
    refine' kdf_get2 (c := ks.zip nk) ?gT ?_
    (case gT => exact TabAt.ofNews (by assumption) (by k_mem) dW1 hdo hdf)
    intro tg2)))
  (k_with "call type:zip" => (k_dflt (
    (have hmark := hrr₂)
    refine' comp_zip (xs := lv) (ys₀ := gv) (l1 := nl) (l2 := gl) rfl (by assumption) (by assumption) (by k_mem) (by k_mem) (by omega) (Nat.le_trans (show lv.length ≤ 1000 by omega) (Nat.le_of_ble_eq_true rfl)) rfl rfl rfl (by decide)
      (fun i ys news₁ => ∃ pre, news₁ = pre ++ _ ∧ PairsAre pre ys ((((ks.zip gs).take i).filter fun q => decide (q.2 = 999)).map fun q => (kdfLook (ks.zip nk) q.1 0, q.2)))
      ⟨[], rfl, .nil⟩ ?_ ?_
    rintro i v₁ v₂ ys₁₃ news₁ own wr C oC' D₂ m₂ h tk E' hv1 hv2 hm1 hm2 hoC ⟨pre₃, rfl, hpp₃⟩ hyl₁ F' N' hwn off hCD hwo
    obtain ⟨k, tk1, rfl, hk1⟩ := hlv.at i v₁ hv1
    obtain ⟨g, tk2, rfl, hg1⟩ := hgv.at i v₂ hv2
    have hkk : kdfHas (ks.zip nk) k = true := zip_has hnkl (List.mem_of_getElem? hk1)
    obtain ⟨R₃, hR₃⟩ : ∃ R₃, R₃ = (pre₃ ++ ((D₁₂, listOf ysr₂.toArray ysr₂.length) :: (s1.heap.objs.size + 1, oB) :: (dW, oW) :: (p, instObj 136 dx) :: (dx, dictOf [⟨h1', .str (Str.ofString "numbers") t1', .ref D₉⟩, ⟨h2', .str (Str.ofString "rows") t2', .ref R₉⟩] 2) :: (D₉, listOf ys₉.toArray e₉) :: (R₉, listOf rs₉.toArray e₁₀) :: (F₉, listOf lv₉.toArray e₁₁) :: (D₇, listOf ys₇.toArray e₈) :: (gl, listOf gv.toArray eg) :: (nl, listOf lv.toArray e) :: (pre₂ ++ T₉))) ++ own := ⟨_, rfl⟩
    have N₃ : News s1.heap s1.heap.objs.size h ((C, oC') :: (D₂, lst ys₁₃) :: (dW, oW) :: (s1.heap.objs.size + 1, oB) :: R₃) := news_in N' (fun q hq => by
      rcases List.mem_cons.mp hq with rfl | hq
      · k_mem
      rcases List.mem_cons.mp hq with rfl | hq
      · k_mem
      refine .tail _ (.tail _ ?_)
      rcases List.mem_cons.mp hq with rfl | hq
      · exact List.mem_append_left _ (List.mem_append_right _ (by k_mem))
      rcases List.mem_cons.mp hq with rfl | hq
      · exact List.mem_append_left _ (List.mem_append_right _ (by k_mem))
      rw [hR₃] at hq
      exact hq)
    clear N'
    rotate_left 1
    rintro g6 ys₁₃ news' ⟨pre₃, rfl, hpp₃⟩
    rw [List.take_of_length_le (by rw [List.length_zip]; omega)] at hpp₃
    intro D₁₃ h tk F' N' off₃
    have N₁₅ : News s1.heap s1.heap.objs.size h ((D₁₃, listOf ys₁₃.toArray ys₁₃.length) :: (D₁₂, listOf ysr₂.toArray ysr₂.length) :: (s1.heap.objs.size + 1, oB) :: (dW, oW) :: (p, instObj 136 dx) :: (dx, dictOf [⟨h1', .str (Str.ofString "numbers") t1', .ref D₉⟩, ⟨h2', .str (Str.ofString "rows") t2', .ref R₉⟩] 2) :: (D₉, listOf ys₉.toArray e₉) :: (R₉, listOf rs₉.toArray e₁₀) :: (F₉, listOf lv₉.toArray e₁₁) :: (D₇, listOf ys₇.toArray e₈) :: (gl, listOf gv.toArray eg) :: (nl, listOf lv.toArray e) :: (pre₃ ++ (pre₂ ++ T₉))) := news_in (show News s1.heap s1.heap.objs.size h ((D₁₃, listOf ys₁₃.toArray ys₁₃.length) :: (pre₃ ++ ((D₁₂, listOf ysr₂.toArray ysr₂.length) :: (s1.heap.objs.size + 1, oB) :: (dW, oW) :: (p, instObj 136 dx) :: (dx, dictOf [⟨h1', .str (Str.ofString "numbers") t1', .ref D₉⟩, ⟨h2', .str (Str.ofString "rows") t2', .ref R₉⟩] 2) :: (D₉, listOf ys₉.toArray e₉) :: (R₉, listOf rs₉.toArray e₁₀) :: (F₉, listOf lv₉.toArray e₁₁) :: (D₇, listOf ys₇.toArray e₈) :: (gl, listOf gv.toArray eg) :: (nl, listOf lv.toArray e) :: (pre₂ ++ T₉)))) from N') (fun q hq => by (repeat (rcases List.mem_cons.mp hq with rfl | hq; · first | exact List.Mem.head _ | exact List.Mem.tail _ (List.mem_append_right _ (by k_mem)))); rcases List.mem_append.mp hq with hq | hq; exact List.Mem.tail _ (List.mem_append_left _ hq); exact List.Mem.tail _ (List.mem_append_right _ (by (repeat (first | exact hq | refine List.Mem.tail _ ?_)))))
    clear N')))
  (k_with "subscriptTail Name Name ref int" => (k_dflt (
    (have hmark := hkk)
    refine' kdf_item (c := ks.zip nk) ?sT hkk ?_
    (case sT => exact TabAt.ofNews (by assumption) (by k_mem) dW1 hdo hdf)
    intro tg3)))
  (k_with "compareOp Eq ref ref" => (k_dflt (
    (have hmark := hpp₃)
    refine' eq_pairs (ps := ((ks.zip gs).filter fun q => decide (q.2 = 999)).map fun q => (kdfLook (ks.zip nk) q.1 0, q.2)) ?chN ?ch1 ?ch2 hp₁₀ ?ch3 hpp₃ ?ch4 ?chu ?_
    (case chN => assumption)
    (case ch1 => k_mem)
    (case ch2 => k_mem)
    (case ch3 => exact (fun q hq => by (repeat (first | exact hq | exact List.mem_append_right _ hq | exact List.mem_append_left _ hq | exact List.mem_append_right _ (List.mem_append_right _ hq) | refine List.Mem.tail _ ?_))))
    (case ch4 => exact (fun q hq => by (repeat (first | exact hq | exact List.mem_append_right _ hq | exact List.mem_append_left _ hq | exact List.mem_append_right _ (List.mem_append_right _ hq) | refine List.Mem.tail _ ?_))))
    (case chu => ktr_units))))
  exact Mine.hd (by
    dsimp only [Mine.lawP]
    k_go0
    (all_goals try k_fold)
    (rename Heap.CodeRec _ _ _ => hA1; clear hA1)
    rename_i w s0 s1 mg mb G Y fa o pm doc ho hg KX XX V GL T B TE TW a10 a9 M a8 a7 ns b1 b2 b3 b4 b5 c5 c4 sc vs c1 hL ra w1 r0 hI hr hlen hct K0 hD h1 tk1 F oC dC N0 X0
    have hq : ∀ h' tk' m' news', Fr s1.heap s1.heap.objs.size h' m' → News s1.heap s1.heap.objs.size h' news' → qk (.ret (.bool true)) { heap := h', gens := s1.gens, drawn := s1.drawn, toks := tk', os := s1.os } := by
      intro h' tk' m' news' F' N'
      clear F N0 dC X0 hD
      k_steps
    have dC2 : oC.data = .cell none := dC
    have K1 : Below callerA s1.heap [] s1.heap := below_caller _
    clear dC X0 hD K0 hct b1 b2 b3 b4 b5
    obtain ⟨mF, hmF, F2⟩ : ∃ mF, mF (Str.ofString "script") = some (.ref sc) ∧ Fr s1.heap s1.heap.objs.size h1 mF := ⟨_, rfl, F⟩
    clear F
    clear_value qk ek
    have hN3 : ns.length ≤ 63 := by omega
    clear G Y XX V GL B TE TW M ra w1 r0 hr ho hlen
    refine wpAny_mono (E := fun _ _ => False) ?_ (fun _ _ h => h) (fun _ _ h => h.elim)
    clear ek
    dsimp only
    k_steps
    · exact hq _ _ _ _ (by assumption) (by assumption)
    · rename News _ _ _ _ => NN
      have hq9 : g = 999 := by assumption
      refine pair_end4 (by assumption) NN hR₃ (by assumption) off hwo ⟨_ :: pre₃, rfl, ?_⟩
      rw [filter_keep (x := (k, g)) (List.getElem?_zip_eq_some.mpr ⟨hk1, hg1⟩) (decide_eq_true hq9), List.map_append]
      exact PairsAre.snoc (hpp₃.sub fun q hq => .tail _ hq) ⟨_, _, _, _, rfl, .head _⟩
    · rename News _ _ _ _ => NN
      have hq9 : ¬ g = 999 := by assumption
      refine skip_end4 (by assumption) NN hR₃ off hwo ⟨pre₃, rfl, ?_⟩
      rw [filter_drop (x := (k, g)) (List.getElem?_zip_eq_some.mpr ⟨hk1, hg1⟩) (decide_eq_false hq9)]
      exact hpp₃
    · dsimp (config := {zetaDelta := true}) only
      k_steps
      rename News _ _ _ _ => NN
      refine row_end4 (by assumption) NN hR₂ (by assumption) (by assumption) (by assumption) off hwo ⟨_ :: _ :: _ :: pre₂, rfl, ?_⟩
      rw [take_snoc hg1, List.map_append]
      exact RowsAre.snoc (hrr₂.sub fun q hq => .tail _ (.tail _ (.tail _ hq))) ⟨_, _, _, _, _, _, _, _, _, _, rfl, .head _, .tail _ (.tail _ (.head _)), .tail _ (.head _)⟩
    · rename News _ _ _ _ => NN
      refine pair_end2 (by assumption) NN hR₁ (by assumption) off hwo ⟨_ :: pre₁, rfl, ?_⟩
      rw [take_snoc (k := (k, n)) (List.getElem?_zip_eq_some.mpr ⟨hk1, hn1⟩)]
      exact PairsAre.snoc (hpp₁.sub fun q hq => .tail _ hq) ⟨_, _, _, _, rfl, .head _⟩
    · rename News _ _ _ _ => NN
      refine row_end3 (by assumption) NN hR (by assumption) (by assumption) (by assumption) off hwo hpre fun hnd => ⟨_ :: _ :: _ :: pre, rfl, ?_, hnd⟩
      rw [take_snoc hg1]
      exact RowsAre.snoc (hrr.sub fun q hq => .tail _ (.tail _ (.tail _ hq))) ⟨_, _, _, _, _, _, _, _, _, _, rfl, .head _, .tail _ (.tail _ (.head _)), .tail _ (.head _)⟩
    · (show wpAny _ _ _ _ _ _)
      rename Fr _ _ _ _ => FF
      rename News _ _ _ _ => NNN
      refine wpAny_nameGoes_keeps rfl FF.ns rfl fun h' v hn hs => ?_
      exact hq _ _ _ _ (FF.set hn hs) (NNN.set hs)
    · rename News _ _ _ _ => NN
      refine row_end3 (by assumption) NN hR (by assumption) (by assumption) (by assumption) off hwo hpre fun hnd => ⟨_ :: _ :: _ :: pre, rfl, ?_, hnd⟩
      rw [take_snoc hg1]
      exact RowsAre.snoc (hrr.sub fun q hq => .tail _ (.tail _ (.tail _ hq))) ⟨_, _, _, _, _, _, _, _, _, _, rfl, .head _, .tail _ (.tail _ (.head _)), .tail _ (.head _)⟩
    · exact cend_of F' N' _ (fun q hq => hq) off ⟨rfl, texts_snoc hys₅ hk1 hg1⟩
    · rename News _ _ _ _ => NN
      rw [List.push_toArray] at NN
      obtain ⟨k1, k2⟩ := kp_up hp0 hp1
      refine turn_end5 (by assumption) NN hwr ⟨gs ++ [g], gv ++ [_], _, _, kp + 1, _, ?_, ?_, ?_, ?_, ?_, ?_, rfl, hgv.append (.cons _ _ .nil), by rw [List.length_append, hgl]; rfl, hgo.snoc hgm, k1, k2⟩
      all_goals ((repeat' (first | exact if_pos rfl | refine (if_neg (by decide)).trans ?_)) <;> (first | (with_reducible assumption) | rfl))
    · rename News _ _ _ _ => NN
      rw [List.push_toArray] at NN
      obtain ⟨k1, k2⟩ := kp_up hp0 hp1
      refine turn_end5 (by assumption) NN hwr ⟨ks ++ [_], lv ++ [_], _, _, _, kp + 1, _, tn, tod, tsd, nw, od, sd, ?_, ?_, ?_, ?_, ?_, ?_, rfl, hlv.append (.cons _ _ .nil), by rw [List.length_append, hkl]; rfl, hnum.snoc hr0 hr1, k1, k2⟩
      all_goals ((repeat' (first | exact if_pos rfl | refine (if_neg (by decide)).trans ?_)) <;> (first | (with_reducible assumption) | rfl)))
end
end Mine
theorem PySem.Challenge.cw_rh0269_01_holds : PySem.Challenge.rw_rh0269_01.Holds := by
  exact Mine.law_holds
