import PyProof.Rows.All
import Wide.All
import OpenK.AllK
import Wide.FinOn
import PySem.Challenge.RW_no0364_01
set_option Elab.async false
set_option maxRecDepth 100000
set_option maxHeartbeats 8000000
set_option linter.unusedVariables false
namespace Mine
section
open PySem PySem.W PyProof.Rows
def st (i : Nat) : Stmt := (PySem.Challenge.pw_no0364_01.main.body[i]?).getD default
noncomputable def mt (s : Stmt) (j : Nat) : Stmt := match s with
  | .ClassDef _ _ _ b _ _ _ _ _ _ _ => (b[j]?).getD default
  | _ => default
/-- a def of the text, as its statement leaves it -/
noncomputable def fO (s : Stmt) (q : Str) (dv md cd : Value) : Obj := match s with
  | .FunctionDef n a b _ _ _ sc _ _ _ => { cls := .type "function", data := .func { name := n, qualname := q, params := a, body := .stmts b, scope := sc, globals := 3, closure := [], defaults := dv, kwdefaults := .none, doc := .none, pyModule := md, annotations := none, code := cd, closureTuple := .none, builtins := 0 } }
  | _ => default
/-- the written part of the heap -/
noncomputable def heapK : Params → Frag := fun P =>
  (nat_lit 2, { cls := Value.none, data := Data.dict #[{ hash := PyData.keyHash P (Str.ofString "type.__subclasses__.Exception.0"), key := Value.str (Str.ofString "type.__subclasses__.Exception.0") 225, val := Value.int 39 0 }, { hash := PyData.keyHash P (Str.ofString "type.__subclasses__.Exception.n"), key := Value.str (Str.ofString "type.__subclasses__.Exception.n") 226, val := Value.int 1 0 }] 2 }) ::
  (nat_lit 3, { cls := Value.type "dict", data := Data.dict #[{ hash := PyData.keyHash P (Str.ofString "__name__"), key := Value.str (Str.ofString "__name__") 165, val := Value.str (Str.ofString "law_no0364_01") 529 }, { hash := PyData.keyHash P (Str.ofString "__doc__"), key := Value.str (Str.ofString "__doc__") 166, val := Value.none }, { hash := PyData.keyHash P (Str.ofString "__package__"), key := Value.str (Str.ofString "__package__") 167, val := Value.none }, { hash := PyData.keyHash P (Str.ofString "__loader__"), key := Value.str (Str.ofString "__loader__") 168, val := Value.builtin "__main__.__loader__#opaque" }, { hash := PyData.keyHash P (Str.ofString "__spec__"), key := Value.str (Str.ofString "__spec__") 169, val := Value.none }, { hash := PyData.keyHash P (Str.ofString "__annotations__"), key := Value.str (Str.ofString "__annotations__") 170, val := Value.ref 6 }, { hash := PyData.keyHash P (Str.ofString "__builtins__"), key := Value.str (Str.ofString "__builtins__") 171, val := Value.ref 4 }, { hash := PyData.keyHash P (Str.ofString "__file__"), key := Value.str (Str.ofString "__file__") 173, val := Value.str (Str.ofString "/claim/cut.py") 172 }, { hash := PyData.keyHash P (Str.ofString "__cached__"), key := Value.str (Str.ofString "__cached__") 174, val := Value.none }, { hash := PyData.keyHash P (Str.ofString "PostError"), key := Value.str (Str.ofString "PostError") 228, val := Value.ref 39 }, { hash := PyData.keyHash P (Str.ofString "WordFault"), key := Value.str (Str.ofString "WordFault") 244, val := Value.ref 52 }, { hash := PyData.keyHash P (Str.ofString "lower_code"), key := Value.str (Str.ofString "lower_code") 253, val := Value.ref 61 }, { hash := PyData.keyHash P (Str.ofString "lower_text"), key := Value.str (Str.ofString "lower_text") 259, val := Value.ref 66 }, { hash := PyData.keyHash P (Str.ofString "MONTHS"), key := Value.str (Str.ofString "MONTHS") 274, val := Value.ref 67 }, { hash := PyData.keyHash P (Str.ofString "DAYS"), key := Value.str (Str.ofString "DAYS") 282, val := Value.ref 68 }, { hash := PyData.keyHash P (Str.ofString "MOST_YEAR"), key := Value.str (Str.ofString "MOST_YEAR") 284, val := Value.int 9999 283 }, { hash := PyData.keyHash P (Str.ofString "MOST_ZONE"), key := Value.str (Str.ofString "MOST_ZONE") 290, val := Value.int 5999 289 }, { hash := PyData.keyHash P (Str.ofString "DAY_SECONDS"), key := Value.str (Str.ofString "DAY_SECONDS") 292, val := Value.int 86400 291 }, { hash := PyData.keyHash P (Str.ofString "FIRST_DAY"), key := Value.str (Str.ofString "FIRST_DAY") 294, val := Value.int 719162 293 }, { hash := PyData.keyHash P (Str.ofString "Moment"), key := Value.str (Str.ofString "Moment") 342, val := Value.ref 92 }, { hash := PyData.keyHash P (Str.ofString "is_leap"), key := Value.str (Str.ofString "is_leap") 349, val := Value.ref 103 }, { hash := PyData.keyHash P (Str.ofString "month_length"), key := Value.str (Str.ofString "month_length") 357, val := Value.ref 110 }, { hash := PyData.keyHash P (Str.ofString "days_before_year"), key := Value.str (Str.ofString "days_before_year") 365, val := Value.ref 117 }, { hash := PyData.keyHash P (Str.ofString "day_number"), key := Value.str (Str.ofString "day_number") 376, val := Value.ref 124 }, { hash := PyData.keyHash P (Str.ofString "day_told"), key := Value.str (Str.ofString "day_told") 387, val := Value.ref 131 }, { hash := PyData.keyHash P (Str.ofString "weekday"), key := Value.str (Str.ofString "weekday") 396, val := Value.ref 138 }, { hash := PyData.keyHash P (Str.ofString "is_day"), key := Value.str (Str.ofString "is_day") 405, val := Value.ref 145 }, { hash := PyData.keyHash P (Str.ofString "is_time"), key := Value.str (Str.ofString "is_time") 414, val := Value.ref 152 }, { hash := PyData.keyHash P (Str.ofString "check_moment"), key := Value.str (Str.ofString "check_moment") 422, val := Value.ref 159 }, { hash := PyData.keyHash P (Str.ofString "instant_of"), key := Value.str (Str.ofString "instant_of") 430, val := Value.ref 166 }, { hash := PyData.keyHash P (Str.ofString "moment_of"), key := Value.str (Str.ofString "moment_of") 445, val := Value.ref 174 }, { hash := PyData.keyHash P (Str.ofString "day_of"), key := Value.str (Str.ofString "day_of") 454, val := Value.ref 182 }, { hash := PyData.keyHash P (Str.ofString "month_number"), key := Value.str (Str.ofString "month_number") 460, val := Value.ref 187 }, { hash := PyData.keyHash P (Str.ofString "padded"), key := Value.str (Str.ofString "padded") 469, val := Value.ref 194 }, { hash := PyData.keyHash P (Str.ofString "zone_text"), key := Value.str (Str.ofString "zone_text") 476, val := Value.ref 201 }, { hash := PyData.keyHash P (Str.ofString "clock_text"), key := Value.str (Str.ofString "clock_text") 482, val := Value.ref 206 }, { hash := PyData.keyHash P (Str.ofString "is_figures"), key := Value.str (Str.ofString "is_figures") 488, val := Value.ref 211 }, { hash := PyData.keyHash P (Str.ofString "write_date"), key := Value.str (Str.ofString "write_date") 494, val := Value.ref 216 }, { hash := PyData.keyHash P (Str.ofString "day_text"), key := Value.str (Str.ofString "day_text") 503, val := Value.ref 223 }, { hash := PyData.keyHash P (Str.ofString "day_in"), key := Value.str (Str.ofString "day_in") 514, val := Value.ref 230 }, { hash := PyData.keyHash P (Str.ofString "read_day"), key := Value.str (Str.ofString "read_day") 521, val := Value.ref 237 }, { hash := PyData.keyHash P (Str.ofString "write_day"), key := Value.str (Str.ofString "write_day") 528, val := Value.ref 244 }, { hash := PyData.keyHash P (Str.ofString "_law_box"), key := Value.str (Str.ofString "_law_box") 536, val := Value.ref 249 }, { hash := PyData.keyHash P (Str.ofString "_law_draw"), key := Value.str (Str.ofString "_law_draw") 546, val := Value.ref 256 }, { hash := PyData.keyHash P (Str.ofString "_law_names"), key := Value.str (Str.ofString "_law_names") 559, val := Value.ref 257 }, { hash := PyData.keyHash P (Str.ofString "_law_table"), key := Value.str (Str.ofString "_law_table") 572, val := Value.ref 258 }, { hash := PyData.keyHash P (Str.ofString "_law_days"), key := Value.str (Str.ofString "_law_days") 584, val := Value.ref 265 }, { hash := PyData.keyHash P (Str.ofString "_law_weekday"), key := Value.str (Str.ofString "_law_weekday") 593, val := Value.ref 272 }, { hash := PyData.keyHash P (Str.ofString "_law_length"), key := Value.str (Str.ofString "_law_length") 601, val := Value.ref 279 }, { hash := PyData.keyHash P (Str.ofString "_law_refused"), key := Value.str (Str.ofString "_law_refused") 609, val := Value.ref 286 }, { hash := PyData.keyHash P (Str.ofString "_law_texts"), key := Value.str (Str.ofString "_law_texts") 623, val := Value.ref 293 }, { hash := PyData.keyHash P (Str.ofString "law"), key := Value.str (Str.ofString "law") 650, val := Value.ref 300 }] 52 }) ::
  (nat_lit 15, { cls := Value.type "tuple", data := Data.seq #[Value.type "Exception"] }) ::
  (nat_lit 22, { cls := Value.type "tuple", data := Data.seq #[Value.int (-1) 202] }) ::
  (nat_lit 23, { cls := Value.type "tuple", data := Data.seq #[] }) ::
  (nat_lit 25, { cls := Value.type "tuple", data := Data.seq #[Value.str (Str.ofString "self") 206, Value.str (Str.ofString "what") 207, Value.str (Str.ofString "at") 208] }) ::
  (nat_lit 26, { cls := Value.type "tuple", data := Data.seq #[] }) ::
  (nat_lit 28, { cls := Value.type "code", data := Data.fields #[Value.str (Str.ofString "__init__") 203, Value.str (Str.ofString "PostError.__init__") 204, Value.str (Str.ofString "/claim/cut.py") 205, Value.int 4 0, Value.int 3 0, Value.int 0 0, Value.int 0 0, Value.int 3 0, Value.ref 23, Value.bool Bool.true, Value.int 181 0, Value.ref 24, Value.none, Value.ref 25, Value.ref 26, Value.ref 27, Value.int 209 0, Value.int 4 0, Value.str (Str.ofString "/claim/cut.py") 210] }) ::
  (nat_lit 29, fO (mt (st 1) 0) (Str.ofString "PostError.__init__") (Value.ref 22) (Value.str (Str.ofString "postkeep.errors") 187) (Value.ref 28)) ::
  (nat_lit 30, { cls := Value.type "tuple", data := Data.seq #[] }) ::
  (nat_lit 32, { cls := Value.type "tuple", data := Data.seq #[Value.str (Str.ofString "self") 215] }) ::
  (nat_lit 33, { cls := Value.type "tuple", data := Data.seq #[] }) ::
  (nat_lit 35, { cls := Value.type "code", data := Data.fields #[Value.str (Str.ofString "told") 212, Value.str (Str.ofString "PostError.told") 213, Value.str (Str.ofString "/claim/cut.py") 214, Value.int 9 0, Value.int 1 0, Value.int 0 0, Value.int 0 0, Value.int 3 0, Value.ref 30, Value.bool Bool.true, Value.int 181 0, Value.ref 31, Value.none, Value.ref 32, Value.ref 33, Value.ref 34, Value.int 216 0, Value.int 9 0, Value.str (Str.ofString "/claim/cut.py") 217] }) ::
  (nat_lit 36, fO (mt (st 1) 1) (Str.ofString "PostError.told") (Value.none) (Value.str (Str.ofString "postkeep.errors") 187) (Value.ref 35)) ::
  (nat_lit 37, { cls := Value.type "tuple", data := Data.seq #[Value.str (Str.ofString "at") 219, Value.str (Str.ofString "what") 220] }) ::
  (nat_lit 38, { cls := Value.type "dict", data := Data.dict #[{ hash := PyData.keyHash P (Str.ofString "__module__"), key := Value.str (Str.ofString "__module__") 196, val := Value.str (Str.ofString "postkeep.errors") 187 }, { hash := PyData.keyHash P (Str.ofString "__firstlineno__"), key := Value.str (Str.ofString "__firstlineno__") 200, val := Value.int 2 199 }, { hash := PyData.keyHash P (Str.ofString "__init__"), key := Value.str (Str.ofString "__init__") 211, val := Value.ref 29 }, { hash := PyData.keyHash P (Str.ofString "told"), key := Value.str (Str.ofString "told") 218, val := Value.ref 36 }, { hash := PyData.keyHash P (Str.ofString "__static_attributes__"), key := Value.str (Str.ofString "__static_attributes__") 221, val := Value.ref 37 }, { hash := PyData.keyHash P (Str.ofString "__weakref__"), key := Value.str (Str.ofString "__weakref__") 223, val := Value.ref 40 }, { hash := PyData.keyHash P (Str.ofString "__doc__"), key := Value.str (Str.ofString "__doc__") 224, val := Value.none }] 3 }) ::
  (nat_lit 39, { cls := Value.type "type", data := Data.cls { name := Str.ofString "PostError", bases := [Value.type "Exception"], mro := [Value.ref 39, Value.type "Exception", Value.type "BaseException", Value.type "object"], ns := 38, qualname := Str.ofString "PostError", subclasses := [Value.ref 52] }, slots := #[Option.some (Value.ref 15), Option.none, Option.some (Value.str (Str.ofString "PostError") 189), Option.some (Value.str (Str.ofString "PostError") 197), Option.some (Value.builtin "Exception.__new__"), Option.some (Value.bool Bool.true)] }) ::
  (nat_lit 40, { cls := Value.type "getset_descriptor", data := Data.fields #[Value.str (Str.ofString "__weakref__") 222, Value.ref 39, Value.builtin "ExceptionGroup.__weakref__", Value.none] }) ::
  (nat_lit 43, { cls := Value.type "tuple", data := Data.seq #[Value.ref 39] }) ::
  (nat_lit 50, { cls := Value.type "tuple", data := Data.seq #[] }) ::
  (nat_lit 51, { cls := Value.type "dict", data := Data.dict #[{ hash := PyData.keyHash P (Str.ofString "__module__"), key := Value.str (Str.ofString "__module__") 236, val := Value.str (Str.ofString "postkeep.errors") 187 }, { hash := PyData.keyHash P (Str.ofString "__firstlineno__"), key := Value.str (Str.ofString "__firstlineno__") 240, val := Value.int 11 239 }, { hash := PyData.keyHash P (Str.ofString "__static_attributes__"), key := Value.str (Str.ofString "__static_attributes__") 241, val := Value.ref 50 }, { hash := PyData.keyHash P (Str.ofString "__doc__"), key := Value.str (Str.ofString "__doc__") 242, val := Value.none }] 2 }) ::
  (nat_lit 52, { cls := Value.type "type", data := Data.cls { name := Str.ofString "WordFault", bases := [Value.ref 39], mro := [Value.ref 52, Value.ref 39, Value.type "Exception", Value.type "BaseException", Value.type "object"], ns := 51, qualname := Str.ofString "WordFault" }, slots := #[Option.some (Value.ref 43), Option.none, Option.some (Value.str (Str.ofString "WordFault") 229), Option.some (Value.str (Str.ofString "WordFault") 237), Option.some (Value.builtin "Exception.__new__"), Option.some (Value.bool Bool.true)] }) ::
  (nat_lit 55, { cls := Value.type "tuple", data := Data.seq #[] }) ::
  (nat_lit 57, { cls := Value.type "tuple", data := Data.seq #[Value.str (Str.ofString "code") 250] }) ::
  (nat_lit 58, { cls := Value.type "tuple", data := Data.seq #[] }) ::
  (nat_lit 60, { cls := Value.type "code", data := Data.fields #[Value.str (Str.ofString "lower_code") 247, Value.str (Str.ofString "lower_code") 248, Value.str (Str.ofString "/claim/cut.py") 249, Value.int 14 0, Value.int 1 0, Value.int 0 0, Value.int 0 0, Value.int 3 0, Value.ref 55, Value.bool Bool.true, Value.int 181 0, Value.ref 56, Value.none, Value.ref 57, Value.ref 58, Value.ref 59, Value.int 251 0, Value.int 14 0, Value.str (Str.ofString "/claim/cut.py") 252] }) ::
  (nat_lit 61, fO (st 4) (Str.ofString "lower_code") (Value.none) (Value.str (Str.ofString "postkeep.octets") 245) (Value.ref 60)) ::
  (nat_lit 62, { cls := Value.type "tuple", data := Data.seq #[] }) ::
  (nat_lit 65, { cls := Value.type "code", data := Data.fields #[Value.str (Str.ofString "lower_text") 254, Value.str (Str.ofString "lower_text") 255, Value.str (Str.ofString "/claim/cut.py") 256, Value.int 16 0, Value.int 1 0, Value.int 0 0, Value.int 0 0, Value.int 3 0, Value.ref 62, Value.bool Bool.true, Value.int 181 0, Value.ref 63, Value.none, Value.none, Value.none, Value.ref 64, Value.int 257 0, Value.int 16 0, Value.str (Str.ofString "/claim/cut.py") 258] }) ::
  (nat_lit 66, fO (st 5) (Str.ofString "lower_text") (Value.none) (Value.str (Str.ofString "postkeep.octets") 245) (Value.ref 65)) ::
  (nat_lit 67, { cls := Value.type "tuple", data := Data.seq #[Value.str (Str.ofString "Jan") 262, Value.str (Str.ofString "Feb") 263, Value.str (Str.ofString "Mar") 264, Value.str (Str.ofString "Apr") 265, Value.str (Str.ofString "May") 266, Value.str (Str.ofString "Jun") 267, Value.str (Str.ofString "Jul") 268, Value.str (Str.ofString "Aug") 269, Value.str (Str.ofString "Sep") 270, Value.str (Str.ofString "Oct") 271, Value.str (Str.ofString "Nov") 272, Value.str (Str.ofString "Dec") 273] }) ::
  (nat_lit 68, { cls := Value.type "tuple", data := Data.seq #[Value.str (Str.ofString "Mon") 275, Value.str (Str.ofString "Tue") 276, Value.str (Str.ofString "Wed") 277, Value.str (Str.ofString "Thu") 278, Value.str (Str.ofString "Fri") 279, Value.str (Str.ofString "Sat") 280, Value.str (Str.ofString "Sun") 281] }) ::
  (nat_lit 76, { cls := Value.type "tuple", data := Data.seq #[] }) ::
  (nat_lit 78, { cls := Value.type "tuple", data := Data.seq #[Value.str (Str.ofString "self") 310, Value.str (Str.ofString "year") 311, Value.str (Str.ofString "month") 312, Value.str (Str.ofString "day") 313, Value.str (Str.ofString "hour") 314, Value.str (Str.ofString "minute") 315, Value.str (Str.ofString "second") 316, Value.str (Str.ofString "zone") 317] }) ::
  (nat_lit 79, { cls := Value.type "tuple", data := Data.seq #[] }) ::
  (nat_lit 81, { cls := Value.type "code", data := Data.fields #[Value.str (Str.ofString "__init__") 307, Value.str (Str.ofString "Moment.__init__") 308, Value.str (Str.ofString "/claim/cut.py") 309, Value.int 27 0, Value.int 8 0, Value.int 0 0, Value.int 0 0, Value.int 3 0, Value.ref 76, Value.bool Bool.true, Value.int 181 0, Value.ref 77, Value.none, Value.ref 78, Value.ref 79, Value.ref 80, Value.int 318 0, Value.int 27 0, Value.str (Str.ofString "/claim/cut.py") 319] }) ::
  (nat_lit 82, fO (mt (st 13) 0) (Str.ofString "Moment.__init__") (Value.none) (Value.str (Str.ofString "postkeep.dates") 260) (Value.ref 81)) ::
  (nat_lit 83, { cls := Value.type "tuple", data := Data.seq #[] }) ::
  (nat_lit 85, { cls := Value.type "tuple", data := Data.seq #[Value.str (Str.ofString "self") 324] }) ::
  (nat_lit 86, { cls := Value.type "tuple", data := Data.seq #[] }) ::
  (nat_lit 88, { cls := Value.type "code", data := Data.fields #[Value.str (Str.ofString "told") 321, Value.str (Str.ofString "Moment.told") 322, Value.str (Str.ofString "/claim/cut.py") 323, Value.int 36 0, Value.int 1 0, Value.int 0 0, Value.int 0 0, Value.int 3 0, Value.ref 83, Value.bool Bool.true, Value.int 181 0, Value.ref 84, Value.none, Value.ref 85, Value.ref 86, Value.ref 87, Value.int 325 0, Value.int 36 0, Value.str (Str.ofString "/claim/cut.py") 326] }) ::
  (nat_lit 89, fO (mt (st 13) 1) (Str.ofString "Moment.told") (Value.none) (Value.str (Str.ofString "postkeep.dates") 260) (Value.ref 88)) ::
  (nat_lit 90, { cls := Value.type "tuple", data := Data.seq #[Value.str (Str.ofString "day") 328, Value.str (Str.ofString "hour") 329, Value.str (Str.ofString "minute") 330, Value.str (Str.ofString "month") 331, Value.str (Str.ofString "second") 332, Value.str (Str.ofString "year") 333, Value.str (Str.ofString "zone") 334] }) ::
  (nat_lit 91, { cls := Value.type "dict", data := Data.dict #[{ hash := PyData.keyHash P (Str.ofString "__module__"), key := Value.str (Str.ofString "__module__") 302, val := Value.str (Str.ofString "postkeep.dates") 260 }, { hash := PyData.keyHash P (Str.ofString "__firstlineno__"), key := Value.str (Str.ofString "__firstlineno__") 306, val := Value.int 25 305 }, { hash := PyData.keyHash P (Str.ofString "__init__"), key := Value.str (Str.ofString "__init__") 320, val := Value.ref 82 }, { hash := PyData.keyHash P (Str.ofString "told"), key := Value.str (Str.ofString "told") 327, val := Value.ref 89 }, { hash := PyData.keyHash P (Str.ofString "__static_attributes__"), key := Value.str (Str.ofString "__static_attributes__") 335, val := Value.ref 90 }, { hash := PyData.keyHash P (Str.ofString "__dict__"), key := Value.str (Str.ofString "__dict__") 337, val := Value.ref 93 }, { hash := PyData.keyHash P (Str.ofString "__weakref__"), key := Value.str (Str.ofString "__weakref__") 339, val := Value.ref 94 }, { hash := PyData.keyHash P (Str.ofString "__doc__"), key := Value.str (Str.ofString "__doc__") 340, val := Value.none }] 4 }) ::
  (nat_lit 92, { cls := Value.type "type", data := Data.cls { name := Str.ofString "Moment", bases := [Value.type "object"], mro := [Value.ref 92, Value.type "object"], ns := 91, qualname := Str.ofString "Moment" }, slots := #[Option.none, Option.none, Option.some (Value.str (Str.ofString "Moment") 295), Option.some (Value.str (Str.ofString "Moment") 303), Option.some (Value.builtin "object.__new__"), Option.some (Value.bool Bool.true)] }) ::
  (nat_lit 93, { cls := Value.type "getset_descriptor", data := Data.fields #[Value.str (Str.ofString "__dict__") 336, Value.ref 92, Value.builtin "function.__dict__", Value.builtin "function.__dict__#set"] }) ::
  (nat_lit 94, { cls := Value.type "getset_descriptor", data := Data.fields #[Value.str (Str.ofString "__weakref__") 338, Value.ref 92, Value.builtin "ExceptionGroup.__weakref__", Value.none] }) ::
  (nat_lit 97, { cls := Value.type "tuple", data := Data.seq #[] }) ::
  (nat_lit 99, { cls := Value.type "tuple", data := Data.seq #[Value.str (Str.ofString "year") 346] }) ::
  (nat_lit 100, { cls := Value.type "tuple", data := Data.seq #[] }) ::
  (nat_lit 102, { cls := Value.type "code", data := Data.fields #[Value.str (Str.ofString "is_leap") 343, Value.str (Str.ofString "is_leap") 344, Value.str (Str.ofString "/claim/cut.py") 345, Value.int 38 0, Value.int 1 0, Value.int 0 0, Value.int 0 0, Value.int 3 0, Value.ref 97, Value.bool Bool.true, Value.int 181 0, Value.ref 98, Value.none, Value.ref 99, Value.ref 100, Value.ref 101, Value.int 347 0, Value.int 38 0, Value.str (Str.ofString "/claim/cut.py") 348] }) ::
  (nat_lit 103, fO (st 14) (Str.ofString "is_leap") (Value.none) (Value.str (Str.ofString "postkeep.dates") 260) (Value.ref 102)) ::
  (nat_lit 104, { cls := Value.type "tuple", data := Data.seq #[] }) ::
  (nat_lit 106, { cls := Value.type "tuple", data := Data.seq #[Value.str (Str.ofString "year") 353, Value.str (Str.ofString "month") 354] }) ::
  (nat_lit 107, { cls := Value.type "tuple", data := Data.seq #[] }) ::
  (nat_lit 109, { cls := Value.type "code", data := Data.fields #[Value.str (Str.ofString "month_length") 350, Value.str (Str.ofString "month_length") 351, Value.str (Str.ofString "/claim/cut.py") 352, Value.int 40 0, Value.int 2 0, Value.int 0 0, Value.int 0 0, Value.int 3 0, Value.ref 104, Value.bool Bool.true, Value.int 181 0, Value.ref 105, Value.none, Value.ref 106, Value.ref 107, Value.ref 108, Value.int 355 0, Value.int 40 0, Value.str (Str.ofString "/claim/cut.py") 356] }) ::
  (nat_lit 110, fO (st 15) (Str.ofString "month_length") (Value.none) (Value.str (Str.ofString "postkeep.dates") 260) (Value.ref 109)) ::
  (nat_lit 111, { cls := Value.type "tuple", data := Data.seq #[] }) ::
  (nat_lit 113, { cls := Value.type "tuple", data := Data.seq #[Value.str (Str.ofString "year") 361, Value.str (Str.ofString "past") 362] }) ::
  (nat_lit 114, { cls := Value.type "tuple", data := Data.seq #[] }) ::
  (nat_lit 116, { cls := Value.type "code", data := Data.fields #[Value.str (Str.ofString "days_before_year") 358, Value.str (Str.ofString "days_before_year") 359, Value.str (Str.ofString "/claim/cut.py") 360, Value.int 44 0, Value.int 1 0, Value.int 0 0, Value.int 0 0, Value.int 3 0, Value.ref 111, Value.bool Bool.true, Value.int 181 0, Value.ref 112, Value.none, Value.ref 113, Value.ref 114, Value.ref 115, Value.int 363 0, Value.int 44 0, Value.str (Str.ofString "/claim/cut.py") 364] }) ::
  (nat_lit 117, fO (st 16) (Str.ofString "days_before_year") (Value.none) (Value.str (Str.ofString "postkeep.dates") 260) (Value.ref 116)) ::
  (nat_lit 118, { cls := Value.type "tuple", data := Data.seq #[] }) ::
  (nat_lit 120, { cls := Value.type "tuple", data := Data.seq #[Value.str (Str.ofString "year") 369, Value.str (Str.ofString "month") 370, Value.str (Str.ofString "day") 371, Value.str (Str.ofString "total") 372, Value.str (Str.ofString "earlier") 373] }) ::
  (nat_lit 121, { cls := Value.type "tuple", data := Data.seq #[] }) ::
  (nat_lit 123, { cls := Value.type "code", data := Data.fields #[Value.str (Str.ofString "day_number") 366, Value.str (Str.ofString "day_number") 367, Value.str (Str.ofString "/claim/cut.py") 368, Value.int 47 0, Value.int 3 0, Value.int 0 0, Value.int 0 0, Value.int 3 0, Value.ref 118, Value.bool Bool.true, Value.int 181 0, Value.ref 119, Value.none, Value.ref 120, Value.ref 121, Value.ref 122, Value.int 374 0, Value.int 47 0, Value.str (Str.ofString "/claim/cut.py") 375] }) ::
  (nat_lit 124, fO (st 17) (Str.ofString "day_number") (Value.none) (Value.str (Str.ofString "postkeep.dates") 260) (Value.ref 123)) ::
  (nat_lit 125, { cls := Value.type "tuple", data := Data.seq #[] }) ::
  (nat_lit 127, { cls := Value.type "tuple", data := Data.seq #[Value.str (Str.ofString "number") 380, Value.str (Str.ofString "days") 381, Value.str (Str.ofString "year") 382, Value.str (Str.ofString "rest") 383, Value.str (Str.ofString "month") 384] }) ::
  (nat_lit 128, { cls := Value.type "tuple", data := Data.seq #[] }) ::
  (nat_lit 130, { cls := Value.type "code", data := Data.fields #[Value.str (Str.ofString "day_told") 377, Value.str (Str.ofString "day_told") 378, Value.str (Str.ofString "/claim/cut.py") 379, Value.int 52 0, Value.int 1 0, Value.int 0 0, Value.int 0 0, Value.int 3 0, Value.ref 125, Value.bool Bool.true, Value.int 181 0, Value.ref 126, Value.none, Value.ref 127, Value.ref 128, Value.ref 129, Value.int 385 0, Value.int 52 0, Value.str (Str.ofString "/claim/cut.py") 386] }) ::
  (nat_lit 131, fO (st 18) (Str.ofString "day_told") (Value.none) (Value.str (Str.ofString "postkeep.dates") 260) (Value.ref 130)) ::
  (nat_lit 132, { cls := Value.type "tuple", data := Data.seq #[] }) ::
  (nat_lit 134, { cls := Value.type "tuple", data := Data.seq #[Value.str (Str.ofString "year") 391, Value.str (Str.ofString "month") 392, Value.str (Str.ofString "day") 393] }) ::
  (nat_lit 135, { cls := Value.type "tuple", data := Data.seq #[] }) ::
  (nat_lit 137, { cls := Value.type "code", data := Data.fields #[Value.str (Str.ofString "weekday") 388, Value.str (Str.ofString "weekday") 389, Value.str (Str.ofString "/claim/cut.py") 390, Value.int 65 0, Value.int 3 0, Value.int 0 0, Value.int 0 0, Value.int 3 0, Value.ref 132, Value.bool Bool.true, Value.int 181 0, Value.ref 133, Value.none, Value.ref 134, Value.ref 135, Value.ref 136, Value.int 394 0, Value.int 65 0, Value.str (Str.ofString "/claim/cut.py") 395] }) ::
  (nat_lit 138, fO (st 19) (Str.ofString "weekday") (Value.none) (Value.str (Str.ofString "postkeep.dates") 260) (Value.ref 137)) ::
  (nat_lit 139, { cls := Value.type "tuple", data := Data.seq #[] }) ::
  (nat_lit 141, { cls := Value.type "tuple", data := Data.seq #[Value.str (Str.ofString "year") 400, Value.str (Str.ofString "month") 401, Value.str (Str.ofString "day") 402] }) ::
  (nat_lit 142, { cls := Value.type "tuple", data := Data.seq #[] }) ::
  (nat_lit 144, { cls := Value.type "code", data := Data.fields #[Value.str (Str.ofString "is_day") 397, Value.str (Str.ofString "is_day") 398, Value.str (Str.ofString "/claim/cut.py") 399, Value.int 67 0, Value.int 3 0, Value.int 0 0, Value.int 0 0, Value.int 3 0, Value.ref 139, Value.bool Bool.true, Value.int 181 0, Value.ref 140, Value.none, Value.ref 141, Value.ref 142, Value.ref 143, Value.int 403 0, Value.int 67 0, Value.str (Str.ofString "/claim/cut.py") 404] }) ::
  (nat_lit 145, fO (st 20) (Str.ofString "is_day") (Value.none) (Value.str (Str.ofString "postkeep.dates") 260) (Value.ref 144)) ::
  (nat_lit 146, { cls := Value.type "tuple", data := Data.seq #[] }) ::
  (nat_lit 148, { cls := Value.type "tuple", data := Data.seq #[Value.str (Str.ofString "hour") 409, Value.str (Str.ofString "minute") 410, Value.str (Str.ofString "second") 411] }) ::
  (nat_lit 149, { cls := Value.type "tuple", data := Data.seq #[] }) ::
  (nat_lit 151, { cls := Value.type "code", data := Data.fields #[Value.str (Str.ofString "is_time") 406, Value.str (Str.ofString "is_time") 407, Value.str (Str.ofString "/claim/cut.py") 408, Value.int 69 0, Value.int 3 0, Value.int 0 0, Value.int 0 0, Value.int 3 0, Value.ref 146, Value.bool Bool.true, Value.int 181 0, Value.ref 147, Value.none, Value.ref 148, Value.ref 149, Value.ref 150, Value.int 412 0, Value.int 69 0, Value.str (Str.ofString "/claim/cut.py") 413] }) ::
  (nat_lit 152, fO (st 21) (Str.ofString "is_time") (Value.none) (Value.str (Str.ofString "postkeep.dates") 260) (Value.ref 151)) ::
  (nat_lit 153, { cls := Value.type "tuple", data := Data.seq #[] }) ::
  (nat_lit 155, { cls := Value.type "tuple", data := Data.seq #[Value.str (Str.ofString "moment") 418, Value.str (Str.ofString "is_right") 419] }) ::
  (nat_lit 156, { cls := Value.type "tuple", data := Data.seq #[] }) ::
  (nat_lit 158, { cls := Value.type "code", data := Data.fields #[Value.str (Str.ofString "check_moment") 415, Value.str (Str.ofString "check_moment") 416, Value.str (Str.ofString "/claim/cut.py") 417, Value.int 71 0, Value.int 1 0, Value.int 0 0, Value.int 0 0, Value.int 3 0, Value.ref 153, Value.bool Bool.true, Value.int 181 0, Value.ref 154, Value.none, Value.ref 155, Value.ref 156, Value.ref 157, Value.int 420 0, Value.int 71 0, Value.str (Str.ofString "/claim/cut.py") 421] }) ::
  (nat_lit 159, fO (st 22) (Str.ofString "check_moment") (Value.none) (Value.str (Str.ofString "postkeep.dates") 260) (Value.ref 158)) ::
  (nat_lit 160, { cls := Value.type "tuple", data := Data.seq #[] }) ::
  (nat_lit 162, { cls := Value.type "tuple", data := Data.seq #[Value.str (Str.ofString "moment") 426, Value.str (Str.ofString "days") 427] }) ::
  (nat_lit 163, { cls := Value.type "tuple", data := Data.seq #[] }) ::
  (nat_lit 165, { cls := Value.type "code", data := Data.fields #[Value.str (Str.ofString "instant_of") 423, Value.str (Str.ofString "instant_of") 424, Value.str (Str.ofString "/claim/cut.py") 425, Value.int 75 0, Value.int 1 0, Value.int 0 0, Value.int 0 0, Value.int 3 0, Value.ref 160, Value.bool Bool.true, Value.int 181 0, Value.ref 161, Value.none, Value.ref 162, Value.ref 163, Value.ref 164, Value.int 428 0, Value.int 75 0, Value.str (Str.ofString "/claim/cut.py") 429] }) ::
  (nat_lit 166, fO (st 23) (Str.ofString "instant_of") (Value.none) (Value.str (Str.ofString "postkeep.dates") 260) (Value.ref 165)) ::
  (nat_lit 167, { cls := Value.type "tuple", data := Data.seq #[Value.int 0 431] }) ::
  (nat_lit 168, { cls := Value.type "tuple", data := Data.seq #[] }) ::
  (nat_lit 170, { cls := Value.type "tuple", data := Data.seq #[Value.str (Str.ofString "seconds") 435, Value.str (Str.ofString "zone") 436, Value.str (Str.ofString "local") 437, Value.str (Str.ofString "rest") 438, Value.str (Str.ofString "year") 439, Value.str (Str.ofString "month") 440, Value.str (Str.ofString "day") 441, Value.str (Str.ofString "found") 442] }) ::
  (nat_lit 171, { cls := Value.type "tuple", data := Data.seq #[] }) ::
  (nat_lit 173, { cls := Value.type "code", data := Data.fields #[Value.str (Str.ofString "moment_of") 432, Value.str (Str.ofString "moment_of") 433, Value.str (Str.ofString "/claim/cut.py") 434, Value.int 78 0, Value.int 2 0, Value.int 0 0, Value.int 0 0, Value.int 3 0, Value.ref 168, Value.bool Bool.true, Value.int 181 0, Value.ref 169, Value.none, Value.ref 170, Value.ref 171, Value.ref 172, Value.int 443 0, Value.int 78 0, Value.str (Str.ofString "/claim/cut.py") 444] }) ::
  (nat_lit 174, fO (st 24) (Str.ofString "moment_of") (Value.ref 167) (Value.str (Str.ofString "postkeep.dates") 260) (Value.ref 173)) ::
  (nat_lit 175, { cls := Value.type "tuple", data := Data.seq #[Value.int 0 446] }) ::
  (nat_lit 176, { cls := Value.type "tuple", data := Data.seq #[] }) ::
  (nat_lit 178, { cls := Value.type "tuple", data := Data.seq #[Value.str (Str.ofString "seconds") 450, Value.str (Str.ofString "zone") 451] }) ::
  (nat_lit 179, { cls := Value.type "tuple", data := Data.seq #[] }) ::
  (nat_lit 181, { cls := Value.type "code", data := Data.fields #[Value.str (Str.ofString "day_of") 447, Value.str (Str.ofString "day_of") 448, Value.str (Str.ofString "/claim/cut.py") 449, Value.int 85 0, Value.int 2 0, Value.int 0 0, Value.int 0 0, Value.int 3 0, Value.ref 176, Value.bool Bool.true, Value.int 181 0, Value.ref 177, Value.none, Value.ref 178, Value.ref 179, Value.ref 180, Value.int 452 0, Value.int 85 0, Value.str (Str.ofString "/claim/cut.py") 453] }) ::
  (nat_lit 182, fO (st 25) (Str.ofString "day_of") (Value.ref 175) (Value.str (Str.ofString "postkeep.dates") 260) (Value.ref 181)) ::
  (nat_lit 183, { cls := Value.type "tuple", data := Data.seq #[] }) ::
  (nat_lit 186, { cls := Value.type "code", data := Data.fields #[Value.str (Str.ofString "month_number") 455, Value.str (Str.ofString "month_number") 456, Value.str (Str.ofString "/claim/cut.py") 457, Value.int 87 0, Value.int 1 0, Value.int 0 0, Value.int 0 0, Value.int 3 0, Value.ref 183, Value.bool Bool.true, Value.int 181 0, Value.ref 184, Value.none, Value.none, Value.none, Value.ref 185, Value.int 458 0, Value.int 87 0, Value.str (Str.ofString "/claim/cut.py") 459] }) ::
  (nat_lit 187, fO (st 26) (Str.ofString "month_number") (Value.none) (Value.str (Str.ofString "postkeep.dates") 260) (Value.ref 186)) ::
  (nat_lit 188, { cls := Value.type "tuple", data := Data.seq #[] }) ::
  (nat_lit 190, { cls := Value.type "tuple", data := Data.seq #[Value.str (Str.ofString "number") 464, Value.str (Str.ofString "width") 465, Value.str (Str.ofString "figures") 466] }) ::
  (nat_lit 191, { cls := Value.type "tuple", data := Data.seq #[] }) ::
  (nat_lit 193, { cls := Value.type "code", data := Data.fields #[Value.str (Str.ofString "padded") 461, Value.str (Str.ofString "padded") 462, Value.str (Str.ofString "/claim/cut.py") 463, Value.int 90 0, Value.int 2 0, Value.int 0 0, Value.int 0 0, Value.int 3 0, Value.ref 188, Value.bool Bool.true, Value.int 181 0, Value.ref 189, Value.none, Value.ref 190, Value.ref 191, Value.ref 192, Value.int 467 0, Value.int 90 0, Value.str (Str.ofString "/claim/cut.py") 468] }) ::
  (nat_lit 194, fO (st 27) (Str.ofString "padded") (Value.none) (Value.str (Str.ofString "postkeep.dates") 260) (Value.ref 193)) ::
  (nat_lit 195, { cls := Value.type "tuple", data := Data.seq #[] }) ::
  (nat_lit 197, { cls := Value.type "tuple", data := Data.seq #[Value.str (Str.ofString "zone") 473] }) ::
  (nat_lit 198, { cls := Value.type "tuple", data := Data.seq #[] }) ::
  (nat_lit 200, { cls := Value.type "code", data := Data.fields #[Value.str (Str.ofString "zone_text") 470, Value.str (Str.ofString "zone_text") 471, Value.str (Str.ofString "/claim/cut.py") 472, Value.int 93 0, Value.int 1 0, Value.int 0 0, Value.int 0 0, Value.int 3 0, Value.ref 195, Value.bool Bool.true, Value.int 181 0, Value.ref 196, Value.none, Value.ref 197, Value.ref 198, Value.ref 199, Value.int 474 0, Value.int 93 0, Value.str (Str.ofString "/claim/cut.py") 475] }) ::
  (nat_lit 201, fO (st 28) (Str.ofString "zone_text") (Value.none) (Value.str (Str.ofString "postkeep.dates") 260) (Value.ref 200)) ::
  (nat_lit 202, { cls := Value.type "tuple", data := Data.seq #[] }) ::
  (nat_lit 205, { cls := Value.type "code", data := Data.fields #[Value.str (Str.ofString "clock_text") 477, Value.str (Str.ofString "clock_text") 478, Value.str (Str.ofString "/claim/cut.py") 479, Value.int 95 0, Value.int 1 0, Value.int 0 0, Value.int 0 0, Value.int 3 0, Value.ref 202, Value.bool Bool.true, Value.int 181 0, Value.ref 203, Value.none, Value.none, Value.none, Value.ref 204, Value.int 480 0, Value.int 95 0, Value.str (Str.ofString "/claim/cut.py") 481] }) ::
  (nat_lit 206, fO (st 29) (Str.ofString "clock_text") (Value.none) (Value.str (Str.ofString "postkeep.dates") 260) (Value.ref 205)) ::
  (nat_lit 207, { cls := Value.type "tuple", data := Data.seq #[] }) ::
  (nat_lit 210, { cls := Value.type "code", data := Data.fields #[Value.str (Str.ofString "is_figures") 483, Value.str (Str.ofString "is_figures") 484, Value.str (Str.ofString "/claim/cut.py") 485, Value.int 98 0, Value.int 1 0, Value.int 0 0, Value.int 0 0, Value.int 3 0, Value.ref 207, Value.bool Bool.true, Value.int 181 0, Value.ref 208, Value.none, Value.none, Value.none, Value.ref 209, Value.int 486 0, Value.int 98 0, Value.str (Str.ofString "/claim/cut.py") 487] }) ::
  (nat_lit 211, fO (st 30) (Str.ofString "is_figures") (Value.none) (Value.str (Str.ofString "postkeep.dates") 260) (Value.ref 210)) ::
  (nat_lit 212, { cls := Value.type "tuple", data := Data.seq #[] }) ::
  (nat_lit 215, { cls := Value.type "code", data := Data.fields #[Value.str (Str.ofString "write_date") 489, Value.str (Str.ofString "write_date") 490, Value.str (Str.ofString "/claim/cut.py") 491, Value.int 100 0, Value.int 1 0, Value.int 0 0, Value.int 0 0, Value.int 3 0, Value.ref 212, Value.bool Bool.true, Value.int 181 0, Value.ref 213, Value.none, Value.none, Value.none, Value.ref 214, Value.int 492 0, Value.int 100 0, Value.str (Str.ofString "/claim/cut.py") 493] }) ::
  (nat_lit 216, fO (st 31) (Str.ofString "write_date") (Value.none) (Value.str (Str.ofString "postkeep.dates") 260) (Value.ref 215)) ::
  (nat_lit 217, { cls := Value.type "tuple", data := Data.seq #[] }) ::
  (nat_lit 219, { cls := Value.type "tuple", data := Data.seq #[Value.str (Str.ofString "year") 498, Value.str (Str.ofString "month") 499, Value.str (Str.ofString "day") 500] }) ::
  (nat_lit 220, { cls := Value.type "tuple", data := Data.seq #[] }) ::
  (nat_lit 222, { cls := Value.type "code", data := Data.fields #[Value.str (Str.ofString "day_text") 495, Value.str (Str.ofString "day_text") 496, Value.str (Str.ofString "/claim/cut.py") 497, Value.int 105 0, Value.int 3 0, Value.int 0 0, Value.int 0 0, Value.int 3 0, Value.ref 217, Value.bool Bool.true, Value.int 181 0, Value.ref 218, Value.none, Value.ref 219, Value.ref 220, Value.ref 221, Value.int 501 0, Value.int 105 0, Value.str (Str.ofString "/claim/cut.py") 502] }) ::
  (nat_lit 223, fO (st 32) (Str.ofString "day_text") (Value.none) (Value.str (Str.ofString "postkeep.dates") 260) (Value.ref 222)) ::
  (nat_lit 224, { cls := Value.type "tuple", data := Data.seq #[] }) ::
  (nat_lit 226, { cls := Value.type "tuple", data := Data.seq #[Value.str (Str.ofString "text") 507, Value.str (Str.ofString "at") 508, Value.str (Str.ofString "end") 509, Value.str (Str.ofString "parts") 510, Value.str (Str.ofString "found") 511] }) ::
  (nat_lit 227, { cls := Value.type "tuple", data := Data.seq #[] }) ::
  (nat_lit 229, { cls := Value.type "code", data := Data.fields #[Value.str (Str.ofString "day_in") 504, Value.str (Str.ofString "day_in") 505, Value.str (Str.ofString "/claim/cut.py") 506, Value.int 107 0, Value.int 3 0, Value.int 0 0, Value.int 0 0, Value.int 3 0, Value.ref 224, Value.bool Bool.true, Value.int 181 0, Value.ref 225, Value.none, Value.ref 226, Value.ref 227, Value.ref 228, Value.int 512 0, Value.int 107 0, Value.str (Str.ofString "/claim/cut.py") 513] }) ::
  (nat_lit 230, fO (st 33) (Str.ofString "day_in") (Value.none) (Value.str (Str.ofString "postkeep.dates") 260) (Value.ref 229)) ::
  (nat_lit 231, { cls := Value.type "tuple", data := Data.seq #[] }) ::
  (nat_lit 233, { cls := Value.type "tuple", data := Data.seq #[Value.str (Str.ofString "text") 518] }) ::
  (nat_lit 234, { cls := Value.type "tuple", data := Data.seq #[] }) ::
  (nat_lit 236, { cls := Value.type "code", data := Data.fields #[Value.str (Str.ofString "read_day") 515, Value.str (Str.ofString "read_day") 516, Value.str (Str.ofString "/claim/cut.py") 517, Value.int 115 0, Value.int 1 0, Value.int 0 0, Value.int 0 0, Value.int 3 0, Value.ref 231, Value.bool Bool.true, Value.int 181 0, Value.ref 232, Value.none, Value.ref 233, Value.ref 234, Value.ref 235, Value.int 519 0, Value.int 115 0, Value.str (Str.ofString "/claim/cut.py") 520] }) ::
  (nat_lit 237, fO (st 34) (Str.ofString "read_day") (Value.none) (Value.str (Str.ofString "postkeep.dates") 260) (Value.ref 236)) ::
  (nat_lit 238, { cls := Value.type "tuple", data := Data.seq #[] }) ::
  (nat_lit 240, { cls := Value.type "tuple", data := Data.seq #[Value.str (Str.ofString "day") 525] }) ::
  (nat_lit 241, { cls := Value.type "tuple", data := Data.seq #[] }) ::
  (nat_lit 243, { cls := Value.type "code", data := Data.fields #[Value.str (Str.ofString "write_day") 522, Value.str (Str.ofString "write_day") 523, Value.str (Str.ofString "/claim/cut.py") 524, Value.int 117 0, Value.int 1 0, Value.int 0 0, Value.int 0 0, Value.int 3 0, Value.ref 238, Value.bool Bool.true, Value.int 181 0, Value.ref 239, Value.none, Value.ref 240, Value.ref 241, Value.ref 242, Value.int 526 0, Value.int 117 0, Value.str (Str.ofString "/claim/cut.py") 527] }) ::
  (nat_lit 244, fO (st 35) (Str.ofString "write_day") (Value.none) (Value.str (Str.ofString "postkeep.dates") 260) (Value.ref 243)) ::
  (nat_lit 245, { cls := Value.type "tuple", data := Data.seq #[] }) ::
  (nat_lit 248, { cls := Value.type "code", data := Data.fields #[Value.str (Str.ofString "_law_box") 531, Value.str (Str.ofString "_law_box") 532, Value.str (Str.ofString "/claim/cut.py") 533, Value.int 122 0, Value.int 1 0, Value.int 0 0, Value.int 0 0, Value.int 3 0, Value.ref 245, Value.bool Bool.true, Value.int 181 0, Value.ref 246, Value.none, Value.none, Value.none, Value.ref 247, Value.int 534 0, Value.int 122 0, Value.str (Str.ofString "/claim/cut.py") 535] }) ::
  (nat_lit 249, fO (st 37) (Str.ofString "_law_box") (Value.none) (Value.str (Str.ofString "law_no0364_01") 529) (Value.ref 248)) ::
  (nat_lit 250, { cls := Value.type "tuple", data := Data.seq #[] }) ::
  (nat_lit 252, { cls := Value.type "tuple", data := Data.seq #[Value.str (Str.ofString "pool") 540, Value.str (Str.ofString "most") 541, Value.str (Str.ofString "place") 542, Value.str (Str.ofString "digit") 543] }) ::
  (nat_lit 253, { cls := Value.type "tuple", data := Data.seq #[] }) ::
  (nat_lit 255, { cls := Value.type "code", data := Data.fields #[Value.str (Str.ofString "_law_draw") 537, Value.str (Str.ofString "_law_draw") 538, Value.str (Str.ofString "/claim/cut.py") 539, Value.int 131 0, Value.int 2 0, Value.int 0 0, Value.int 0 0, Value.int 3 0, Value.ref 250, Value.bool Bool.true, Value.int 181 0, Value.ref 251, Value.none, Value.ref 252, Value.ref 253, Value.ref 254, Value.int 544 0, Value.int 131 0, Value.str (Str.ofString "/claim/cut.py") 545] }) ::
  (nat_lit 256, fO (st 38) (Str.ofString "_law_draw") (Value.none) (Value.str (Str.ofString "law_no0364_01") 529) (Value.ref 255)) ::
  (nat_lit 257, { cls := Value.type "tuple", data := Data.seq #[Value.str (Str.ofString "jan") 547, Value.str (Str.ofString "FEB") 548, Value.str (Str.ofString "Mar") 549, Value.str (Str.ofString "aPr") 550, Value.str (Str.ofString "May") 551, Value.str (Str.ofString "Jun") 552, Value.str (Str.ofString "Jul") 553, Value.str (Str.ofString "Aug") 554, Value.str (Str.ofString "Sep") 555, Value.str (Str.ofString "Oct") 556, Value.str (Str.ofString "Nov") 557, Value.str (Str.ofString "Dec") 558] }) ::
  (nat_lit 258, { cls := Value.type "tuple", data := Data.seq #[Value.int 0 560, Value.int 3 561, Value.int 2 562, Value.int 5 563, Value.int 0 564, Value.int 3 565, Value.int 5 566, Value.int 1 567, Value.int 4 568, Value.int 6 569, Value.int 2 570, Value.int 4 571] }) ::
  (nat_lit 259, { cls := Value.type "tuple", data := Data.seq #[] }) ::
  (nat_lit 261, { cls := Value.type "tuple", data := Data.seq #[Value.str (Str.ofString "year") 576, Value.str (Str.ofString "month") 577, Value.str (Str.ofString "day") 578, Value.str (Str.ofString "era") 579, Value.str (Str.ofString "rest") 580, Value.str (Str.ofString "begun") 581] }) ::
  (nat_lit 262, { cls := Value.type "tuple", data := Data.seq #[] }) ::
  (nat_lit 264, { cls := Value.type "code", data := Data.fields #[Value.str (Str.ofString "_law_days") 573, Value.str (Str.ofString "_law_days") 574, Value.str (Str.ofString "/claim/cut.py") 575, Value.int 144 0, Value.int 3 0, Value.int 0 0, Value.int 0 0, Value.int 3 0, Value.ref 259, Value.bool Bool.true, Value.int 181 0, Value.ref 260, Value.none, Value.ref 261, Value.ref 262, Value.ref 263, Value.int 582 0, Value.int 144 0, Value.str (Str.ofString "/claim/cut.py") 583] }) ::
  (nat_lit 265, fO (st 41) (Str.ofString "_law_days") (Value.none) (Value.str (Str.ofString "law_no0364_01") 529) (Value.ref 264)) ::
  (nat_lit 266, { cls := Value.type "tuple", data := Data.seq #[] }) ::
  (nat_lit 268, { cls := Value.type "tuple", data := Data.seq #[Value.str (Str.ofString "year") 588, Value.str (Str.ofString "month") 589, Value.str (Str.ofString "day") 590] }) ::
  (nat_lit 269, { cls := Value.type "tuple", data := Data.seq #[] }) ::
  (nat_lit 271, { cls := Value.type "code", data := Data.fields #[Value.str (Str.ofString "_law_weekday") 585, Value.str (Str.ofString "_law_weekday") 586, Value.str (Str.ofString "/claim/cut.py") 587, Value.int 150 0, Value.int 3 0, Value.int 0 0, Value.int 0 0, Value.int 3 0, Value.ref 266, Value.bool Bool.true, Value.int 181 0, Value.ref 267, Value.none, Value.ref 268, Value.ref 269, Value.ref 270, Value.int 591 0, Value.int 150 0, Value.str (Str.ofString "/claim/cut.py") 592] }) ::
  (nat_lit 272, fO (st 42) (Str.ofString "_law_weekday") (Value.none) (Value.str (Str.ofString "law_no0364_01") 529) (Value.ref 271)) ::
  (nat_lit 273, { cls := Value.type "tuple", data := Data.seq #[] }) ::
  (nat_lit 275, { cls := Value.type "tuple", data := Data.seq #[Value.str (Str.ofString "year") 597, Value.str (Str.ofString "month") 598] }) ::
  (nat_lit 276, { cls := Value.type "tuple", data := Data.seq #[] }) ::
  (nat_lit 278, { cls := Value.type "code", data := Data.fields #[Value.str (Str.ofString "_law_length") 594, Value.str (Str.ofString "_law_length") 595, Value.str (Str.ofString "/claim/cut.py") 596, Value.int 153 0, Value.int 2 0, Value.int 0 0, Value.int 0 0, Value.int 3 0, Value.ref 273, Value.bool Bool.true, Value.int 181 0, Value.ref 274, Value.none, Value.ref 275, Value.ref 276, Value.ref 277, Value.int 599 0, Value.int 153 0, Value.str (Str.ofString "/claim/cut.py") 600] }) ::
  (nat_lit 279, fO (st 43) (Str.ofString "_law_length") (Value.none) (Value.str (Str.ofString "law_no0364_01") 529) (Value.ref 278)) ::
  (nat_lit 280, { cls := Value.type "tuple", data := Data.seq #[] }) ::
  (nat_lit 282, { cls := Value.type "tuple", data := Data.seq #[Value.str (Str.ofString "make") 605, Value.str (Str.ofString "value") 606] }) ::
  (nat_lit 283, { cls := Value.type "tuple", data := Data.seq #[] }) ::
  (nat_lit 285, { cls := Value.type "code", data := Data.fields #[Value.str (Str.ofString "_law_refused") 602, Value.str (Str.ofString "_law_refused") 603, Value.str (Str.ofString "/claim/cut.py") 604, Value.int 157 0, Value.int 2 0, Value.int 0 0, Value.int 0 0, Value.int 3 0, Value.ref 280, Value.bool Bool.true, Value.int 181 0, Value.ref 281, Value.none, Value.ref 282, Value.ref 283, Value.ref 284, Value.int 607 0, Value.int 157 0, Value.str (Str.ofString "/claim/cut.py") 608] }) ::
  (nat_lit 286, fO (st 44) (Str.ofString "_law_refused") (Value.none) (Value.str (Str.ofString "law_no0364_01") 529) (Value.ref 285)) ::
  (nat_lit 287, { cls := Value.type "tuple", data := Data.seq #[] }) ::
  (nat_lit 289, { cls := Value.type "tuple", data := Data.seq #[Value.str (Str.ofString "pool") 613, Value.str (Str.ofString "year") 614, Value.str (Str.ofString "month") 615, Value.str (Str.ofString "day") 616, Value.str (Str.ofString "text") 617, Value.str (Str.ofString "name") 618, Value.str (Str.ofString "other") 619, Value.str (Str.ofString "bad") 620] }) ::
  (nat_lit 290, { cls := Value.type "tuple", data := Data.seq #[] }) ::
  (nat_lit 292, { cls := Value.type "code", data := Data.fields #[Value.str (Str.ofString "_law_texts") 610, Value.str (Str.ofString "_law_texts") 611, Value.str (Str.ofString "/claim/cut.py") 612, Value.int 163 0, Value.int 4 0, Value.int 0 0, Value.int 0 0, Value.int 3 0, Value.ref 287, Value.bool Bool.true, Value.int 181 0, Value.ref 288, Value.none, Value.ref 289, Value.ref 290, Value.ref 291, Value.int 621 0, Value.int 163 0, Value.str (Str.ofString "/claim/cut.py") 622] }) ::
  (nat_lit 293, fO (st 45) (Str.ofString "_law_texts") (Value.none) (Value.str (Str.ofString "law_no0364_01") 529) (Value.ref 292)) ::
  (nat_lit 294, { cls := Value.type "tuple", data := Data.seq #[] }) ::
  (nat_lit 296, { cls := Value.type "tuple", data := Data.seq #[Value.str (Str.ofString "script") 627, Value.str (Str.ofString "pool") 628, Value.str (Str.ofString "sort") 629, Value.str (Str.ofString "year") 630, Value.str (Str.ofString "month") 631, Value.str (Str.ofString "length") 632, Value.str (Str.ofString "day") 633, Value.str (Str.ofString "number") 634, Value.str (Str.ofString "later") 635, Value.str (Str.ofString "hour") 636, Value.str (Str.ofString "minute") 637, Value.str (Str.ofString "second") 638, Value.str (Str.ofString "zone") 639, Value.str (Str.ofString "seconds") 640, Value.str (Str.ofString "moment") 641, Value.str (Str.ofString "back") 642, Value.str (Str.ofString "plain") 643, Value.str (Str.ofString "last") 644, Value.str (Str.ofString "first") 645, Value.str (Str.ofString "parts") 646, Value.str (Str.ofString "spot") 647] }) ::
  (nat_lit 297, { cls := Value.type "tuple", data := Data.seq #[] }) ::
  (nat_lit 299, { cls := Value.type "code", data := Data.fields #[Value.str (Str.ofString "law") 624, Value.str (Str.ofString "law") 625, Value.str (Str.ofString "/claim/cut.py") 626, Value.int 173 0, Value.int 1 0, Value.int 0 0, Value.int 0 0, Value.int 3 0, Value.ref 294, Value.bool Bool.true, Value.int 181 0, Value.ref 295, Value.none, Value.ref 296, Value.ref 297, Value.ref 298, Value.int 648 0, Value.int 173 0, Value.str (Str.ofString "/claim/cut.py") 649] }) ::
  (nat_lit 300, fO (st 46) (Str.ofString "law") (Value.none) (Value.str (Str.ofString "law_no0364_01") 529) (Value.ref 299)) :: []
noncomputable def addrK : List Addr := nat_lit 2 :: nat_lit 3 :: nat_lit 15 :: nat_lit 22 :: nat_lit 23 :: nat_lit 25 :: nat_lit 26 :: nat_lit 28 :: nat_lit 29 :: nat_lit 30 :: nat_lit 32 :: nat_lit 33 :: nat_lit 35 :: nat_lit 36 :: nat_lit 37 :: nat_lit 38 :: nat_lit 39 :: nat_lit 40 :: nat_lit 43 :: nat_lit 50 :: nat_lit 51 :: nat_lit 52 :: nat_lit 55 :: nat_lit 57 :: nat_lit 58 :: nat_lit 60 :: nat_lit 61 :: nat_lit 62 :: nat_lit 65 :: nat_lit 66 :: nat_lit 67 :: nat_lit 68 :: nat_lit 76 :: nat_lit 78 :: nat_lit 79 :: nat_lit 81 :: nat_lit 82 :: nat_lit 83 :: nat_lit 85 :: nat_lit 86 :: nat_lit 88 :: nat_lit 89 :: nat_lit 90 :: nat_lit 91 :: nat_lit 92 :: nat_lit 93 :: nat_lit 94 :: nat_lit 97 :: nat_lit 99 :: nat_lit 100 :: nat_lit 102 :: nat_lit 103 :: nat_lit 104 :: nat_lit 106 :: nat_lit 107 :: nat_lit 109 :: nat_lit 110 :: nat_lit 111 :: nat_lit 113 :: nat_lit 114 :: nat_lit 116 :: nat_lit 117 :: nat_lit 118 :: nat_lit 120 :: nat_lit 121 :: nat_lit 123 :: nat_lit 124 :: nat_lit 125 :: nat_lit 127 :: nat_lit 128 :: nat_lit 130 :: nat_lit 131 :: nat_lit 132 :: nat_lit 134 :: nat_lit 135 :: nat_lit 137 :: nat_lit 138 :: nat_lit 139 :: nat_lit 141 :: nat_lit 142 :: nat_lit 144 :: nat_lit 145 :: nat_lit 146 :: nat_lit 148 :: nat_lit 149 :: nat_lit 151 :: nat_lit 152 :: nat_lit 153 :: nat_lit 155 :: nat_lit 156 :: nat_lit 158 :: nat_lit 159 :: nat_lit 160 :: nat_lit 162 :: nat_lit 163 :: nat_lit 165 :: nat_lit 166 :: nat_lit 167 :: nat_lit 168 :: nat_lit 170 :: nat_lit 171 :: nat_lit 173 :: nat_lit 174 :: nat_lit 175 :: nat_lit 176 :: nat_lit 178 :: nat_lit 179 :: nat_lit 181 :: nat_lit 182 :: nat_lit 183 :: nat_lit 186 :: nat_lit 187 :: nat_lit 188 :: nat_lit 190 :: nat_lit 191 :: nat_lit 193 :: nat_lit 194 :: nat_lit 195 :: nat_lit 197 :: nat_lit 198 :: nat_lit 200 :: nat_lit 201 :: nat_lit 202 :: nat_lit 205 :: nat_lit 206 :: nat_lit 207 :: nat_lit 210 :: nat_lit 211 :: nat_lit 212 :: nat_lit 215 :: nat_lit 216 :: nat_lit 217 :: nat_lit 219 :: nat_lit 220 :: nat_lit 222 :: nat_lit 223 :: nat_lit 224 :: nat_lit 226 :: nat_lit 227 :: nat_lit 229 :: nat_lit 230 :: nat_lit 231 :: nat_lit 233 :: nat_lit 234 :: nat_lit 236 :: nat_lit 237 :: nat_lit 238 :: nat_lit 240 :: nat_lit 241 :: nat_lit 243 :: nat_lit 244 :: nat_lit 245 :: nat_lit 248 :: nat_lit 249 :: nat_lit 250 :: nat_lit 252 :: nat_lit 253 :: nat_lit 255 :: nat_lit 256 :: nat_lit 257 :: nat_lit 258 :: nat_lit 259 :: nat_lit 261 :: nat_lit 262 :: nat_lit 264 :: nat_lit 265 :: nat_lit 266 :: nat_lit 268 :: nat_lit 269 :: nat_lit 271 :: nat_lit 272 :: nat_lit 273 :: nat_lit 275 :: nat_lit 276 :: nat_lit 278 :: nat_lit 279 :: nat_lit 280 :: nat_lit 282 :: nat_lit 283 :: nat_lit 285 :: nat_lit 286 :: nat_lit 287 :: nat_lit 289 :: nat_lit 290 :: nat_lit 292 :: nat_lit 293 :: nat_lit 294 :: nat_lit 296 :: nat_lit 297 :: nat_lit 299 :: nat_lit 300 :: []
/-- the text's statements that the view keeps -/
noncomputable def viewK : Program := { PySem.Challenge.pw_no0364_01 with main := { PySem.Challenge.pw_no0364_01.main with body := [st 1, st 2, st 4, st 5, st 7, st 8, st 9, st 10, st 11, st 12, st 13, st 14, st 15, st 16, st 17, st 18, st 19, st 20, st 21, st 22, st 23, st 26, st 27, st 28, st 29, st 30, st 31, st 32, st 33, st 34, st 35, st 37, st 38, st 39, st 40, st 41, st 42, st 43, st 44, st 45, st 46] } }
end
end Mine
namespace Mine
section
open PySem PySem.W PyProof.Rows
noncomputable def hookK : Hook := kHook heapK addrK (fun _ => by kernel_rfl)
abbrev rowW : RowW := OpenRow.toRowW PySem.Challenge.rw_no0364_01.row
abbrev looseK : List Str := [Str.ofString "PostError", Str.ofString "MOST_ZONE", Str.ofString "moment_of", Str.ofString "day_of"]
abbrev readK : List (Str × WData) := [(Str.ofString "MOST_ZONE", WData.int 5999)]
/-- the top, run to its end, leaves what the view and the written part say -/
theorem leftK : LeftO rowW.prog viewK looseK (fun s => xlAt viewK readK s && recOk (RowW.records rowW) s) (Hook.obs hookK) (Hook.val hookK) 3926 := fun w => by
  kernel_rfl
end
end Mine
section
open PySem.W PyProof.Rows
local macro_rules | `(tactic| walk_at "eval Call Name") => `(tactic| k_extra "eval Call Name")
local macro_rules | `(tactic| walk_at "call ref") => `(tactic| k_extra "call ref")
local macro_rules | `(tactic| walk_at "subscriptTail Name") => `(tactic| k_extra "subscriptTail Name")
local macro_rules | `(tactic| walk_at "exec Assign cons ListComp") => `(tactic| k_extra "exec Assign cons ListComp")
local macro_rules | `(tactic| walk_at "CompSrc") => `(tactic| k_extra "CompSrc")
local macro_rules | `(tactic| walk_at "compareOp Eq ref ref") => `(tactic| k_extra "compareOp Eq ref ref")
local macro_rules | `(tactic| walk_at "CompEnd") => `(tactic| k_extra "CompEnd")
local macro_rules | `(tactic| walk_at "call builtin:chr") => `(tactic| k_extra "call builtin:chr")
local macro_rules | `(tactic| walk_at "call builtin:str.join") => `(tactic| k_extra "call builtin:str.join")
local macro_rules | `(tactic| walk_at "eval ListComp") => `(tactic| k_extra "eval ListComp")
local macro_rules | `(tactic| walk_at "SrcT") => `(tactic| k_extra "SrcT")
local macro_rules | `(tactic| walk_at "call builtin:list.index") => `(tactic| k_extra "call builtin:list.index")
local macro_rules | `(tactic| walk_at "SrcU") => `(tactic| k_extra "SrcU")
local macro_rules | `(tactic| walk_at "subscriptTail Name Constant ref int") => `(tactic| k_extra "subscriptTail Name Constant ref int")
local macro_rules | `(tactic| walk_at "exec Raise some none") => `(tactic| k_extra "exec Raise some none")
local macro_rules | `(tactic| walk_at "call builtin:str.split") => `(tactic| k_extra "call builtin:str.split")
local macro_rules | `(tactic| walk_at "exec Assign") => `(tactic| k_extra "exec Assign")
local macro_rules | `(tactic| walk_at "LeaveK") => `(tactic| k_extra "LeaveK")
local macro_rules | `(tactic| walk_at "exec Try") => `(tactic| k_extra "exec Try")
local macro_rules | `(tactic| walk_at "subscriptTail Tuple") => `(tactic| k_extra "subscriptTail Tuple")
local macro_rules | `(tactic| walk_at "call builtin:str.index") => `(tactic| k_extra "call builtin:str.index")
local macro_rules | `(tactic| walk_at "ite") => `(tactic| k_extra "ite")
local macro_rules | `(tactic| walk_at "compareOp NotEq ref ref") => `(tactic| k_extra "compareOp NotEq ref ref")
local macro_rules | `(tactic| walk_at "subscriptTail Name Slice ref ref") => `(tactic| k_extra "subscriptTail Name Slice ref ref")
local macro_rules | `(tactic| walk_at "execs cons") => `(tactic| k_extra "execs cons")
local macro_rules | `(tactic| walk_at "eval Name") => `(tactic| k_extra "eval Name")
local macro_rules | `(tactic| units_room) => `(tactic| ktr_units)
namespace Mine
section
open PySem PySem.W PyProof.Rows PySem.Spec PySem.Calls
noncomputable section

noncomputable abbrev LO : List Str := looseW viewK [Str.ofString "PostError", Str.ofString "MOST_ZONE", Str.ofString "moment_of", Str.ofString "day_of"]
abbrev Led := List (Addr × Obj)
abbrev Ret := Heap → Addr → (Str → Option Value) → Shared → (Value → Shared → Prop) → Prop

def Con (w : World) (mean : ExcName → Option Value) (mg mb : Str → Option Value) (f : Addr) (vs : List Value) (need : Nat) (news : Led) (R : Ret) : Prop :=
  ∀ (dp un : Nat) (gd : Option (List Code)) (cn : Str) (cs : Scope) (a : Addr) (ccd : Value) (cl : List (Str × Addr)) (outer : List Env) (A₀ : Around) (base h₀ : Heap) (L : Addr) (m : Str → Option Value) (s : Shared) (Q E : Value → Shared → Prop),
    Below A₀ base outer h₀ → Fr h₀ L s.heap m → (heapK w.params).In h₀ → News h₀ L s.heap news → Top viewK LO mean mg mb h₀ → cs.kind = .function → dp + need < recursionLimit → un + 8 * need < cLine →
    R h₀ L m s Q →
    wpAny (model PySem.Challenge.rw_no0364_01.row.prog w) (ktrTop dp un gd cn cs L a ccd cl outer) (call (.ref f) vs) Q E s

theorem con_use {w : World} {mean : ExcName → Option Value} {mg mb : Str → Option Value} {f : Addr} {vs : List Value} {need : Nat} {news : Led} {R : Ret} {dp un : Nat} {gd : Option (List Code)} {cn : Str} {cs : Scope} {a : Addr} {ccd : Value} {cl : List (Str × Addr)} {outer : List Env} {A₀ : Around} {base h₀ : Heap} {L : Addr} {m : Str → Option Value} {s : Shared} {Q E : Value → Shared → Prop}
    (B : Below A₀ base outer h₀) (F : Fr h₀ L s.heap m) (X : (heapK w.params).In h₀) (N : News h₀ L s.heap news) (T : Top viewK LO mean mg mb h₀) (hk : cs.kind = .function) (C : Con w mean mg mb f vs need news R) (hd : dp + need < recursionLimit) (hu : un + 8 * need < cLine)
    (h : R h₀ L m s Q) :
    wpAny (model PySem.Challenge.rw_no0364_01.row.prog w) (ktrTop dp un gd cn cs L a ccd cl outer) (call (.ref f) vs) Q E s := C _ _ _ _ _ _ _ _ _ _ _ _ _ _ _ _ _ B F X N T hk hd hu h

/-- an int comes back, nothing else is left -/
abbrev RI (news : Led) (v : Int) : Ret := fun h₀ L m s Q => ∀ (t : Tok) (h' : Heap) (tk' : Nat), Fr h₀ L h' m → News h₀ L h' news → Q (.int v t) { s with heap := h', toks := tk' }
abbrev RB (news : Led) (v : Bool) : Ret := fun h₀ L m s Q => ∀ (h' : Heap) (tk' : Nat), Fr h₀ L h' m → News h₀ L h' news → Q (.bool v) { s with heap := h', toks := tk' }
abbrev RS (news : Led) (v : Str) : Ret := fun h₀ L m s Q => ∀ (t : Tok) (h' : Heap) (tk' : Nat), Fr h₀ L h' m → News h₀ L h' news → Q (.str v t) { s with heap := h', toks := tk' }
abbrev RN (news : Led) : Ret := fun h₀ L m s Q => ∀ (h' : Heap) (tk' : Nat), Fr h₀ L h' m → News h₀ L h' news → Q .none { s with heap := h', toks := tk' }

abbrev tup (vs : List Value) : Obj := { cls := .type "tuple", data := .seq vs.toArray }
/-- a new tuple of three ints comes back -/
abbrev RT3 (news : Led) (a b c : Int) : Ret := fun h₀ L m s Q => ∀ (x : Addr) (t1 t2 t3 : Tok) (h' : Heap) (tk' : Nat), Fr h₀ L h' m → News h₀ L h' ((x, tup [.int a t1, .int b t2, .int c t3]) :: news) → (∀ p ∈ news, p.1 < x) → Q (.ref x) { s with heap := h', toks := tk' }

theorem ri_end {h₀ h' : Heap} {L : Addr} {m : Str → Option Value} {s : Shared} {news : Led} {Q : Value → Shared → Prop} {v v' : Int} {t : Tok} {tk' : Nat} (h : RI news v h₀ L m s Q) (F : Fr h₀ L h' m) (N : News h₀ L h' news) (e : v' = v) : Q (.int v' t) { s with heap := h', toks := tk' } := e ▸ h t h' tk' F N
theorem rb_end {h₀ h' : Heap} {L : Addr} {m : Str → Option Value} {s : Shared} {news : Led} {Q : Value → Shared → Prop} {v v' : Bool} {tk' : Nat} (h : RB news v h₀ L m s Q) (F : Fr h₀ L h' m) (N : News h₀ L h' news) (e : v' = v) : Q (.bool v') { s with heap := h', toks := tk' } := e ▸ h h' tk' F N
theorem rs_end {h₀ h' : Heap} {L : Addr} {m : Str → Option Value} {s : Shared} {news : Led} {Q : Value → Shared → Prop} {v v' : Str} {t : Tok} {tk' : Nat} (h : RS news v h₀ L m s Q) (F : Fr h₀ L h' m) (N : News h₀ L h' news) (e : v' = v) : Q (.str v' t) { s with heap := h', toks := tk' } := e ▸ h t h' tk' F N

def leap (y : Int) : Bool := (Int.fmod y 4 == 0) && ((Int.fmod y 100 != 0) || (Int.fmod y 400 == 0))
def mlen (y m : Int) : Int := if m = 2 then (if leap y = true then 29 else 28) else if m = 4 ∨ m = 6 ∨ m = 9 ∨ m = 11 then 30 else 31
def dby (y : Int) : Int := (y - 1) * 365 + Int.fdiv (y - 1) 4 - Int.fdiv (y - 1) 100 + Int.fdiv (y - 1) 400

theorem con_is_leap {w : World} {mean : ExcName → Option Value} {mg mb : Str → Option Value} (y : Int) (t : Tok) (news : Led) :
    Con w mean mg mb 103 [.int y t] 1 news (RB news (leap y)) := by
  unfold Con
  k_fill
  intro dp un gd cn cs a ccd cl outer A₀ base h₀ L m s Q E B F X N T hk hd hu hret
  refine wpAny_call ?_
  k_dflt (refine' code_def (binds := [(Str.ofString "year", .int y t)]) ?k1 ?k2 ?k3 ?k4 ?k5 ?kA ?kF ?kK ?k6 ?k7 ?k8 ?k9 ?kB ?_ ?c2 ?c3 ?c4 ?c5; (case kA => exact rfl); (case kF => exact rfl); (case kK => assumption); (case k1 => k_asm); (case k2 => k_asm); (case k3 => k_asm); (case k4 => k_asm); (case k5 => k_asm); (case k6 => k_is); (case k7 => k_is); (case k8 => ktr_room); (case k9 => exact BindsTo.of_eq rfl); (case c5 => decide); (case kB => exact locs rfl); (case c2 => exact rfl); (case c3 => exact rfl); (case c4 => exact rfl); k_whole)
  intro g' L' h' FG' F' N' B' X' T'
  dsimp only [List.reverse, List.reverseAux] at F' ⊢
  try k_fold
  k_steps
  all_goals (refine rb_end hret (by k_asm) (by k_asm) ?_; simp_all [leap])


section
theorem words1 : True := by
  k_with_none
  (k_with "eval Call Name" => ((with_reducible show wpAny _ _ (eval (Expr.Call (Expr.Name _ _) _ _ _) _) _ _ _); refine Call_ ?_))
  (k_with "call ref" => (k_here; k_dflt (refine con_use (by k_asm) (by k_asm) (by k_asm) (by k_asm) (by k_asm) (by first | exact rfl | assumption) (con_is_leap _ _ _) (by ktr_room) (by ktr_units) ?_); intro h9 tk9 F9 N9; (try dsimp only); (try k_fold)))
  trivial
theorem con_month_length {w : World} {mean : ExcName → Option Value} {mg mb : Str → Option Value} (y m' : Int) (t t' : Tok) (news : Led) :
    Con w mean mg mb 110 [.int y t, .int m' t'] 2 news (RI news (mlen y m')) := by
  unfold Con
  k_fill
  intro dp un gd cn cs a ccd cl outer A₀ base h₀ L m s Q E B F X N T hk hd hu hret
  refine wpAny_call ?_
  k_dflt (refine' code_def (binds := [(Str.ofString "year", .int y t), (Str.ofString "month", .int m' t')]) ?k1 ?k2 ?k3 ?k4 ?k5 ?kA ?kF ?kK ?k6 ?k7 ?k8 ?k9 ?kB ?_ ?c2 ?c3 ?c4 ?c5; (case kA => exact rfl); (case kF => exact rfl); (case kK => assumption); (case k1 => k_asm); (case k2 => k_asm); (case k3 => k_asm); (case k4 => k_asm); (case k5 => k_asm); (case k6 => k_is); (case k7 => k_is); (case k8 => ktr_room); (case k9 => exact BindsTo.of_eq rfl); (case c5 => decide); (case kB => exact locs rfl); (case c2 => exact rfl); (case c3 => exact rfl); (case c4 => exact rfl); k_whole)
  intro g' L' h' FG' F' N' B' X' T'
  dsimp only [List.reverse, List.reverseAux] at F' ⊢
  try k_fold
  k_steps
  all_goals (refine ri_end hret (by k_asm) (cb_drop (by k_asm) (by kcj_all)) ?_; unfold mlen; clear hret; (try simp only [List.any_cons, List.any_nil, Bool.or_false, Bool.or_eq_true, Bool.or_eq_false_iff, beq_iff_eq, beq_eq_false_iff_ne] at *); (repeat' split) <;> first | omega | simp_all | (exfalso; omega))

theorem con_days_before_year {w : World} {mean : ExcName → Option Value} {mg mb : Str → Option Value} (y : Int) (t : Tok) (news : Led) (hy : -1000000 ≤ y) (hy' : y ≤ 1000000) :
    Con w mean mg mb 117 [.int y t] 1 news (RI news (dby y)) := by
  unfold Con
  k_fill
  intro dp un gd cn cs a ccd cl outer A₀ base h₀ L m s Q E B F X N T hk hd hu hret
  refine wpAny_call ?_
  k_dflt (refine' code_def (binds := [(Str.ofString "year", .int y t)]) ?k1 ?k2 ?k3 ?k4 ?k5 ?kA ?kF ?kK ?k6 ?k7 ?k8 ?k9 ?kB ?_ ?c2 ?c3 ?c4 ?c5; (case kA => exact rfl); (case kF => exact rfl); (case kK => assumption); (case k1 => k_asm); (case k2 => k_asm); (case k3 => k_asm); (case k4 => k_asm); (case k5 => k_asm); (case k6 => k_is); (case k7 => k_is); (case k8 => ktr_room); (case k9 => exact BindsTo.of_eq rfl); (case c5 => decide); (case kB => exact locs rfl); (case c2 => exact rfl); (case c3 => exact rfl); (case c4 => exact rfl); k_whole)
  intro g' L' h' FG' F' N' B' X' T'
  dsimp only [List.reverse, List.reverseAux] at F' ⊢
  try k_fold
  k_steps
  all_goals (refine ri_end hret (by k_asm) (by k_asm) ?_; simp_all [dby])


theorem words2 : True := by
  k_with_none
  trivial
end

end
end
end Mine
namespace Mine
section
open PySem PySem.W PyProof.Rows PySem.Spec PySem.Calls
noncomputable section

theorem fd4 (a : Int) : Int.fdiv a 4 = a / 4 := Int.fdiv_eq_ediv_of_nonneg a (by decide)
theorem fd100 (a : Int) : Int.fdiv a 100 = a / 100 := Int.fdiv_eq_ediv_of_nonneg a (by decide)
theorem fd400 (a : Int) : Int.fdiv a 400 = a / 400 := Int.fdiv_eq_ediv_of_nonneg a (by decide)
theorem fd5 (a : Int) : Int.fdiv a 5 = a / 5 := Int.fdiv_eq_ediv_of_nonneg a (by decide)
theorem fm4 (a : Int) : Int.fmod a 4 = a % 4 := Int.fmod_eq_emod_of_nonneg a (by decide)
theorem fm100 (a : Int) : Int.fmod a 100 = a % 100 := Int.fmod_eq_emod_of_nonneg a (by decide)
theorem fm400 (a : Int) : Int.fmod a 400 = a % 400 := Int.fmod_eq_emod_of_nonneg a (by decide)

theorem leap_iff (y : Int) : leap y = true ↔ (y % 4 = 0 ∧ (y % 100 ≠ 0 ∨ y % 400 = 0)) := by
  unfold leap
  rw [fm4, fm100, fm400]
  simp
theorem dby_eq (y : Int) : dby y = (y - 1) * 365 + (y - 1) / 4 - (y - 1) / 100 + (y - 1) / 400 := by
  unfold dby; rw [fd4, fd100, fd400]

/-- the days of the year's first n months -/
def cum (y : Int) : Nat → Int
  | 0 => 0
  | n + 1 => cum y n + mlen y (n + 1)
def dnum (y m d : Int) : Int := dby y - 719162 + d - 1 + cum y (m - 1).toNat

def ld (y : Int) : Int := if leap y = true then 1 else 0
theorem dby_next (y : Int) : dby (y + 1) = dby y + 365 + ld y := by
  rw [dby_eq, dby_eq]
  unfold ld
  by_cases h : leap y = true
  · rw [if_pos h]; rw [leap_iff] at h; omega
  · rw [if_neg h]; rw [leap_iff] at h; omega
theorem ld_cases (y : Int) : ld y = 0 ∨ ld y = 1 := by unfold ld; split <;> simp
theorem mlen2 (y : Int) : mlen y 2 = 28 + ld y := by unfold mlen ld; split <;> split <;> simp_all
theorem mlen_1 (y : Int) : mlen y 1 = 31 := by simp [mlen]
theorem mlen_3 (y : Int) : mlen y 3 = 31 := by simp [mlen]
theorem mlen_4 (y : Int) : mlen y 4 = 30 := by simp [mlen]
theorem mlen_5 (y : Int) : mlen y 5 = 31 := by simp [mlen]
theorem mlen_6 (y : Int) : mlen y 6 = 30 := by simp [mlen]
theorem mlen_7 (y : Int) : mlen y 7 = 31 := by simp [mlen]
theorem mlen_8 (y : Int) : mlen y 8 = 31 := by simp [mlen]
theorem mlen_9 (y : Int) : mlen y 9 = 30 := by simp [mlen]
theorem mlen_10 (y : Int) : mlen y 10 = 31 := by simp [mlen]
theorem mlen_11 (y : Int) : mlen y 11 = 30 := by simp [mlen]
theorem mlen_12 (y : Int) : mlen y 12 = 31 := by simp [mlen]
theorem cum_s (y : Int) (n : Nat) : cum y (n + 1) = cum y n + mlen y (n + 1) := rfl
theorem cums (y : Int) : cum y 0 = 0 ∧ cum y 1 = 31 ∧ cum y 2 = 59 + ld y ∧ cum y 3 = 90 + ld y ∧ cum y 4 = 120 + ld y ∧ cum y 5 = 151 + ld y ∧ cum y 6 = 181 + ld y ∧ cum y 7 = 212 + ld y ∧ cum y 8 = 243 + ld y ∧ cum y 9 = 273 + ld y ∧ cum y 10 = 304 + ld y ∧ cum y 11 = 334 + ld y ∧ cum y 12 = 365 + ld y := by
  have e0 : cum y 0 = 0 := rfl
  have e1 : cum y 1 = cum y 0 + mlen y 1 := rfl
  have e2 : cum y 2 = cum y 1 + mlen y 2 := rfl
  have e3 : cum y 3 = cum y 2 + mlen y 3 := rfl
  have e4 : cum y 4 = cum y 3 + mlen y 4 := rfl
  have e5 : cum y 5 = cum y 4 + mlen y 5 := rfl
  have e6 : cum y 6 = cum y 5 + mlen y 6 := rfl
  have e7 : cum y 7 = cum y 6 + mlen y 7 := rfl
  have e8 : cum y 8 = cum y 7 + mlen y 8 := rfl
  have e9 : cum y 9 = cum y 8 + mlen y 9 := rfl
  have e10 : cum y 10 = cum y 9 + mlen y 10 := rfl
  have e11 : cum y 11 = cum y 10 + mlen y 11 := rfl
  have e12 : cum y 12 = cum y 11 + mlen y 12 := rfl
  rw [mlen_1] at e1; rw [mlen2] at e2; rw [mlen_3] at e3; rw [mlen_4] at e4; rw [mlen_5] at e5; rw [mlen_6] at e6; rw [mlen_7] at e7; rw [mlen_8] at e8; rw [mlen_9] at e9; rw [mlen_10] at e10; rw [mlen_11] at e11; rw [mlen_12] at e12
  omega
theorem months {m : Int} (h1 : 1 ≤ m) (h2 : m ≤ 12) : m = 1 ∨ m = 2 ∨ m = 3 ∨ m = 4 ∨ m = 5 ∨ m = 6 ∨ m = 7 ∨ m = 8 ∨ m = 9 ∨ m = 10 ∨ m = 11 ∨ m = 12 := by omega

/-- the law's own day number -/
def ldays (y m d : Int) : Int :=
  (y - (if m < 3 then 1 else 0)).fdiv 400 * 146097 + ((y - (if m < 3 then 1 else 0)) - (y - (if m < 3 then 1 else 0)).fdiv 400 * 400) * 365 + ((y - (if m < 3 then 1 else 0)) - (y - (if m < 3 then 1 else 0)).fdiv 400 * 400).fdiv 4 - ((y - (if m < 3 then 1 else 0)) - (y - (if m < 3 then 1 else 0)).fdiv 400 * 400).fdiv 100 + ((153 * (m + (if m < 3 then 9 else -3)) + 2).fdiv 5 + d - 1) - 719468


theorem era_eq (z : Int) : z / 400 * 146097 + (z - z / 400 * 400) * 365 + (z - z / 400 * 400) / 4 - (z - z / 400 * 400) / 100 = dby (z + 1) := by
  rw [dby_eq]
  have h1 : z + 1 - 1 = z := by omega
  rw [h1]
  have h4 : (z - z / 400 * 400) / 4 = z / 4 - z / 400 * 100 := by omega
  have h100 : (z - z / 400 * 400) / 100 = z / 100 - z / 400 * 4 := by omega
  rw [h4, h100]
  omega
theorem lin (A B L d q N : Int) (hn : A = B + 365 + L) (hq : q + 59 = N) : A + (q + d - 1) - 719468 = B - 719162 + d - 1 + (N + L) := by omega
theorem lin0 (B d q N : Int) (hq : q = N + 306) : B + (q + d - 1) - 719468 = B - 719162 + d - 1 + N := by omega
theorem ldays_eq {y m d : Int} (h1 : 1 ≤ m) (h2 : m ≤ 12) : ldays y m d = dnum y m d := by
  obtain ⟨c0, c1, c2, c3, c4, c5, c6, c7, c8, c9, c10, c11, _⟩ := cums y
  have hn := dby_next y
  have e1 := era_eq y
  have e0 := era_eq (y - 1)
  rw [show y - 1 + 1 = y from Int.sub_add_cancel y 1] at e0
  unfold dnum ldays
  rw [fd400, fd4, fd100, fd5]
  rcases months h1 h2 with h | h | h | h | h | h | h | h | h | h | h | h <;> subst h
  · show _ = _ + cum y 0
    rw [c0]; simp only [Int.reduceLT, if_true]; rw [e0]
    exact lin0 _ _ _ _ (by decide)
  · show _ = _ + cum y 1
    rw [c1]; simp only [Int.reduceLT, if_true]; rw [e0]
    exact lin0 _ _ _ _ (by decide)
  · show _ = _ + cum y 2
    rw [c2]; simp only [Int.reduceLT, if_false, Int.sub_zero, e1]
    exact lin _ _ _ _ _ _ hn (by decide)
  · show _ = _ + cum y 3
    rw [c3]; simp only [Int.reduceLT, if_false, Int.sub_zero, e1]
    exact lin _ _ _ _ _ _ hn (by decide)
  · show _ = _ + cum y 4
    rw [c4]; simp only [Int.reduceLT, if_false, Int.sub_zero, e1]
    exact lin _ _ _ _ _ _ hn (by decide)
  · show _ = _ + cum y 5
    rw [c5]; simp only [Int.reduceLT, if_false, Int.sub_zero, e1]
    exact lin _ _ _ _ _ _ hn (by decide)
  · show _ = _ + cum y 6
    rw [c6]; simp only [Int.reduceLT, if_false, Int.sub_zero, e1]
    exact lin _ _ _ _ _ _ hn (by decide)
  · show _ = _ + cum y 7
    rw [c7]; simp only [Int.reduceLT, if_false, Int.sub_zero, e1]
    exact lin _ _ _ _ _ _ hn (by decide)
  · show _ = _ + cum y 8
    rw [c8]; simp only [Int.reduceLT, if_false, Int.sub_zero, e1]
    exact lin _ _ _ _ _ _ hn (by decide)
  · show _ = _ + cum y 9
    rw [c9]; simp only [Int.reduceLT, if_false, Int.sub_zero, e1]
    exact lin _ _ _ _ _ _ hn (by decide)
  · show _ = _ + cum y 10
    rw [c10]; simp only [Int.reduceLT, if_false, Int.sub_zero, e1]
    exact lin _ _ _ _ _ _ hn (by decide)
  · show _ = _ + cum y 11
    rw [c11]; simp only [Int.reduceLT, if_false, Int.sub_zero, e1]
    exact lin _ _ _ _ _ _ hn (by decide)

/-- the month's length by the law's days -/
theorem dnum_month {y m : Int} (h1 : 1 ≤ m) (h2 : m < 12) : dnum y (m + 1) 1 - dnum y m 1 = mlen y m := by
  unfold dnum
  have e : (m + 1 - 1).toNat = (m - 1).toNat + 1 := by omega
  rw [e, cum_s]
  have e2 : (((m - 1).toNat : Int) + 1) = m := by omega
  rw [e2]; omega
theorem mlen_bounds {y m : Int} : 28 ≤ mlen y m ∧ mlen y m ≤ 31 := by unfold mlen; (repeat' split) <;> omega
theorem cum_bounds (y : Int) {m : Int} (h1 : 1 ≤ m) (h2 : m ≤ 12) : 0 ≤ cum y (m - 1).toNat ∧ cum y (m - 1).toNat + mlen y m ≤ 365 + ld y := by
  obtain ⟨c0, c1, c2, c3, c4, c5, c6, c7, c8, c9, c10, c11, c12⟩ := cums y
  have hl := ld_cases y
  rcases months h1 h2 with h | h | h | h | h | h | h | h | h | h | h | h <;> subst h
  · show 0 ≤ cum y 0 ∧ cum y 0 + _ ≤ _
    rw [c0, mlen_1]; omega
  · show 0 ≤ cum y 1 ∧ cum y 1 + _ ≤ _
    rw [c1, mlen2]; omega
  · show 0 ≤ cum y 2 ∧ cum y 2 + _ ≤ _
    rw [c2, mlen_3]; omega
  · show 0 ≤ cum y 3 ∧ cum y 3 + _ ≤ _
    rw [c3, mlen_4]; omega
  · show 0 ≤ cum y 4 ∧ cum y 4 + _ ≤ _
    rw [c4, mlen_5]; omega
  · show 0 ≤ cum y 5 ∧ cum y 5 + _ ≤ _
    rw [c5, mlen_6]; omega
  · show 0 ≤ cum y 6 ∧ cum y 6 + _ ≤ _
    rw [c6, mlen_7]; omega
  · show 0 ≤ cum y 7 ∧ cum y 7 + _ ≤ _
    rw [c7, mlen_8]; omega
  · show 0 ≤ cum y 8 ∧ cum y 8 + _ ≤ _
    rw [c8, mlen_9]; omega
  · show 0 ≤ cum y 9 ∧ cum y 9 + _ ≤ _
    rw [c9, mlen_10]; omega
  · show 0 ≤ cum y 10 ∧ cum y 10 + _ ≤ _
    rw [c10, mlen_11]; omega
  · show 0 ≤ cum y 11 ∧ cum y 11 + _ ≤ _
    rw [c11, mlen_12]; omega
theorem cum12 (y : Int) : cum y 12 = 365 + ld y := (cums y).2.2.2.2.2.2.2.2.2.2.2.2

/-- a day of the calendar (of any year) -/
def Valid (y m d : Int) : Prop := 1 ≤ m ∧ m ≤ 12 ∧ 1 ≤ d ∧ d ≤ mlen y m
/-- the day behind -/
def nxY (y m d : Int) : Int := if d < mlen y m then y else if m = 12 then y + 1 else y
def nxM (y m d : Int) : Int := if d < mlen y m then m else if m = 12 then 1 else m + 1
def nxD (y m d : Int) : Int := if d < mlen y m then d + 1 else 1
theorem nx_valid {y m d : Int} (v : Valid y m d) : Valid (nxY y m d) (nxM y m d) (nxD y m d) := by
  obtain ⟨v1, v2, v3, v4⟩ := v
  unfold Valid nxY nxM nxD
  by_cases h : d < mlen y m
  · simp only [if_pos h]; omega
  · simp only [if_neg h]
    by_cases h12 : m = 12
    · simp only [if_pos h12]; have := @mlen_bounds (y + 1) 1; omega
    · simp only [if_neg h12]; have := @mlen_bounds y (m + 1); omega
theorem nx_num {y m d : Int} (v : Valid y m d) : dnum (nxY y m d) (nxM y m d) (nxD y m d) = dnum y m d + 1 := by
  obtain ⟨v1, v2, v3, v4⟩ := v
  unfold nxY nxM nxD
  by_cases h : d < mlen y m
  · simp only [if_pos h]; unfold dnum; omega
  · simp only [if_neg h]
    by_cases h12 : m = 12
    · simp only [if_pos h12]
      subst h12
      unfold dnum
      have c12 := cum12 y
      have e : cum y 12 = cum y 11 + mlen y 12 := rfl
      show dby (y + 1) - 719162 + 1 - 1 + cum (y + 1) 0 = dby y - 719162 + d - 1 + cum y 11 + 1
      rw [dby_next]
      have c0 : cum (y + 1) 0 = 0 := rfl
      omega
    · simp only [if_neg h12]
      have := @dnum_month y m v1 (by omega)
      unfold dnum at this ⊢
      omega
/-- the day before -/
theorem pv {y m d : Int} (v : Valid y m d) : ∃ y' m' d', Valid y' m' d' ∧ dnum y' m' d' = dnum y m d - 1 := by
  obtain ⟨v1, v2, v3, v4⟩ := v
  by_cases h : 1 < d
  · exact ⟨y, m, d - 1, ⟨v1, v2, by omega, by omega⟩, by unfold dnum; omega⟩
  · by_cases h1 : m = 1
    · subst h1
      refine ⟨y - 1, 12, 31, ⟨by decide, by decide, by decide, by rw [mlen_12]; decide⟩, ?_⟩
      have hn := dby_next (y - 1)
      rw [show y - 1 + 1 = y by omega] at hn
      have c12 := cum12 (y - 1)
      have e : cum (y - 1) 12 = cum (y - 1) 11 + mlen (y - 1) 12 := rfl
      rw [mlen_12] at e
      unfold dnum
      show dby (y - 1) - 719162 + 31 - 1 + cum (y - 1) 11 = dby y - 719162 + d - 1 + cum y 0 - 1
      have c0 : cum y 0 = 0 := rfl
      omega
    · have hb := @mlen_bounds y (m - 1)
      refine ⟨y, m - 1, mlen y (m - 1), ⟨by omega, by omega, by omega, by omega⟩, ?_⟩
      have := @dnum_month y (m - 1) (by omega) (by omega)
      rw [show m - 1 + 1 = m by omega] at this
      unfold dnum at this ⊢
      omega
theorem all_up : ∀ k : Nat, ∃ y m d, Valid y m d ∧ dnum y m d = (k : Int)
  | 0 => ⟨1970, 1, 1, by unfold Valid; rw [mlen_1]; omega, by unfold dnum; show dby 1970 - 719162 + 1 - 1 + cum 1970 0 = 0; rw [dby_eq]; rfl⟩
  | k + 1 => by
    obtain ⟨y, m, d, v, e⟩ := all_up k
    exact ⟨_, _, _, nx_valid v, by rw [nx_num v, e]; omega⟩
theorem all_down : ∀ k : Nat, ∃ y m d, Valid y m d ∧ dnum y m d = -(k : Int)
  | 0 => ⟨1970, 1, 1, by unfold Valid; rw [mlen_1]; omega, by unfold dnum; show dby 1970 - 719162 + 1 - 1 + cum 1970 0 = 0; rw [dby_eq]; rfl⟩
  | k + 1 => by
    obtain ⟨y, m, d, v, e⟩ := all_down k
    obtain ⟨y', m', d', v', e'⟩ := pv v
    exact ⟨y', m', d', v', by rw [e', e]; omega⟩
/-- every number is a day's -/
theorem day_of_num (n : Int) : ∃ y m d, Valid y m d ∧ dnum y m d = n := by
  rcases Int.le_total 0 n with h | h
  · obtain ⟨y, m, d, v, e⟩ := all_up n.toNat
    exact ⟨y, m, d, v, by rw [e]; omega⟩
  · obtain ⟨y, m, d, v, e⟩ := all_down (-n).toNat
    exact ⟨y, m, d, v, by rw [e]; omega⟩
/-- where a day lies in its year -/
theorem dnum_in {y m d : Int} (v : Valid y m d) : dby y ≤ dnum y m d + 719162 ∧ dnum y m d + 719162 < dby (y + 1) := by
  obtain ⟨v1, v2, v3, v4⟩ := v
  have hb := cum_bounds y v1 v2
  rw [dby_next]
  unfold dnum
  omega
/-- how near the guess by 146097 / 400 comes -/
theorem guess {y days : Int} (h1 : dby y ≤ days) (h2 : days < dby (y + 1)) : days * 400 / 146097 + 1 = y - 1 ∨ days * 400 / 146097 + 1 = y ∨ days * 400 / 146097 + 1 = y + 1 := by
  rw [dby_eq] at h1 h2
  omega
theorem dby_mono {a b : Int} (h : a ≤ b) : dby a ≤ dby b := by
  rw [dby_eq, dby_eq]
  omega
theorem dby_lt {a b : Int} (h : a < b) : dby a + 365 ≤ dby b := by
  have := dby_mono (show a + 1 ≤ b by omega)
  rw [dby_next] at this
  have := ld_cases a
  omega
end
end
end Mine
namespace Mine
section
open PySem PySem.W PyProof.Rows PySem.Spec PySem.Calls
noncomputable section

theorem fold_cum (y z : Int) : ∀ n : Nat, List.foldl (fun a' k' => a' + mlen y k') z (rangeKs 1 n) = z + cum y n
  | 0 => by show z = z + 0; omega
  | n + 1 => by
    have e : rangeKs 1 (n + 1) = rangeKs 1 n ++ [1 + (n : Int)] := by unfold rangeKs; rw [List.range_succ, List.map_append]; rfl
    rw [e, List.foldl_append, fold_cum y z n, cum_s, List.foldl_cons, List.foldl_nil, Int.add_comm 1 (n : Int)]
    omega
theorem while1 {y yr days : Int} (h : yr = y - 1 ∨ yr = y ∨ yr = y + 1) (a : dby yr > days) (h1 : dby y ≤ days) : yr - 1 = y - 1 ∨ yr - 1 = y ∨ yr - 1 = y + 1 := by
  rcases h with h | h | h
  · have := dby_mono (show y - 1 ≤ y by omega); rw [h] at a; omega
  · rw [h] at a; omega
  · omega
theorem while1m {y yr days : Int} (h : yr = y - 1 ∨ yr = y ∨ yr = y + 1) (a : dby yr > days) (h1 : dby y ≤ days) : (yr - 1 - y + 1).toNat < (yr - y + 1).toNat := by
  rcases h with h | h | h
  · have := dby_mono (show y - 1 ≤ y by omega); rw [h] at a; omega
  · rw [h] at a; omega
  · omega
theorem while1e {y yr days : Int} (h : yr = y - 1 ∨ yr = y ∨ yr = y + 1) (a : ¬ dby yr > days) (h2 : days < dby (y + 1)) : yr = y - 1 ∨ yr = y := by
  rcases h with h | h | h
  · exact .inl h
  · exact .inr h
  · rw [h] at a; omega
theorem while2 {y yr days : Int} (h : yr = y - 1 ∨ yr = y) (a : dby (yr + 1) ≤ days) (h2 : days < dby (y + 1)) : yr = y - 1 := by
  rcases h with h | h
  · exact h
  · rw [h] at a; omega
theorem while2s {y yr days : Int} (h : yr = y - 1 ∨ yr = y) (a : dby (yr + 1) ≤ days) (h2 : days < dby (y + 1)) : yr + 1 = y - 1 ∨ yr + 1 = y := by
  have := while2 h a h2; omega
theorem while2m {y yr days : Int} (h : yr = y - 1 ∨ yr = y) (a : dby (yr + 1) ≤ days) (h2 : days < dby (y + 1)) : (y - (yr + 1)).toNat < (y - yr).toNat := by
  have := while2 h a h2; omega
theorem while2e {y yr days : Int} (h : yr = y - 1 ∨ yr = y) (a : ¬ dby (yr + 1) ≤ days) (h1 : dby y ≤ days) : y = yr := by
  rcases h with h | h
  · rw [h, show y - 1 + 1 = y by omega] at a; omega
  · exact h.symm
theorem cum_next {y k : Int} (h : 1 ≤ k) : cum y (k + 1 - 1).toNat = cum y (k - 1).toNat + mlen y k := by
  have e : (k + 1 - 1).toNat = (k - 1).toNat + 1 := by omega
  rw [e, cum_s, show (((k - 1).toNat : Int) + 1) = k by omega]
theorem cum_mono (y : Int) {a b : Nat} (h : a ≤ b) : cum y a ≤ cum y b := by
  induction b with
  | zero => rw [show a = 0 by omega]; exact Int.le_refl _
  | succ b ih =>
    by_cases e : a = b + 1
    · rw [e]; exact Int.le_refl _
    · have := ih (by omega)
      rw [cum_s]
      have := @mlen_bounds y (b + 1)
      omega
theorem while3 {n y m d rest k : Int} (hv : Valid y m d) (hn : n = dnum y m d) (h : rest = n + 719162 - dby y - cum y (k - 1).toNat ∧ 1 ≤ k ∧ k ≤ m) (a : rest ≥ mlen y k) :
    rest - mlen y k = n + 719162 - dby y - cum y (k + 1 - 1).toNat ∧ 1 ≤ k + 1 ∧ k + 1 ≤ m := by
  obtain ⟨v1, v2, v3, v4⟩ := hv
  obtain ⟨h1, h2, h3⟩ := h
  rw [cum_next h2]
  refine ⟨by omega, by omega, ?_⟩
  by_cases e : k = m
  · exfalso
    rw [e] at h1 a
    unfold dnum at hn
    omega
  · omega
theorem while3s {n y m d : Int} (hv : Valid y m d) : n + 719162 - dby y = n + 719162 - dby y - cum y (1 - 1 : Int).toNat ∧ (1 : Int) ≤ 1 ∧ 1 ≤ m := by
  obtain ⟨v1, v2, v3, v4⟩ := hv
  have e : cum y (1 - 1 : Int).toNat = 0 := rfl
  omega
theorem while3m {n y m d rest k : Int} (hv : Valid y m d) (hn : n = dnum y m d) (h : rest = n + 719162 - dby y - cum y (k - 1).toNat ∧ 1 ≤ k ∧ k ≤ m) (a : rest ≥ mlen y k) : (12 - (k + 1)).toNat < (12 - k).toNat := by
  have := while3 hv hn h a
  obtain ⟨v1, v2, v3, v4⟩ := hv
  omega
theorem while3e {n y m d rest k : Int} (hv : Valid y m d) (hn : n = dnum y m d) (h : rest = n + 719162 - dby y - cum y (k - 1).toNat ∧ 1 ≤ k ∧ k ≤ m) (a : ¬ rest ≥ mlen y k) : k = m ∧ rest + 1 = d := by
  obtain ⟨v1, v2, v3, v4⟩ := hv
  obtain ⟨h1, h2, h3⟩ := h
  have e : k = m := by
    by_cases e : k = m
    · exact e
    · exfalso
      have := cum_mono y (show (k + 1 - 1).toNat ≤ (m - 1).toNat by omega)
      rw [cum_next h2] at this
      unfold dnum at hn
      omega
  subst e
  unfold dnum at hn
  exact ⟨rfl, by omega⟩
section
theorem words3 : True := by
  k_with_none
  (k_with "eval Call Name" => ((with_reducible show wpAny _ _ (eval (Expr.Call (Expr.Name _ _) _ _ _) _) _ _ _); refine Call_ ?_))
  (k_with "call ref" => (k_here; k_dflt (refine con_use (by k_asm) (by k_asm) (by k_asm) (by k_asm) (by k_asm) (by first | exact rfl | assumption) (con_days_before_year _ _ _ (by omega) (by omega)) (by ktr_room) (by ktr_units) ?_); intro t9 h9 tk9 F9 N9; (try dsimp only); (try k_fold)))
  (k_with "call ref" => (k_here; k_dflt (refine con_use (by k_asm) (by k_asm) (by k_asm) (by k_asm) (by k_asm) (by first | exact rfl | assumption) (con_month_length _ _ _ _ _) (by ktr_room) (by ktr_units) ?_); intro t9 h9 tk9 F9 N9; (try dsimp only); (try k_fold)))
  trivial
theorem con_day_number {w : World} {mean : ExcName → Option Value} {mg mb : Str → Option Value} (y m' d : Int) (t t' t2 : Tok) (news : Led) (hy : -1000000 ≤ y) (hy' : y ≤ 1000000) (hm : 1 ≤ m') (hm' : m' ≤ 13) :
    Con w mean mg mb 124 [.int y t, .int m' t', .int d t2] 3 news (RI news (dnum y m' d)) := by
  unfold Con
  k_fill
  intro dp un gd cn cs a ccd cl outer A₀ base h₀ L m s Q E B F X N T hk hd hu hret
  refine wpAny_call ?_
  k_dflt (refine' code_def (binds := [(Str.ofString "year", .int y t), (Str.ofString "month", .int m' t'), (Str.ofString "day", .int d t2)]) ?k1 ?k2 ?k3 ?k4 ?k5 ?kA ?kF ?kK ?k6 ?k7 ?k8 ?k9 ?kB ?_ ?c2 ?c3 ?c4 ?c5; (case kA => exact rfl); (case kF => exact rfl); (case kK => assumption); (case k1 => k_asm); (case k2 => k_asm); (case k3 => k_asm); (case k4 => k_asm); (case k5 => k_asm); (case k6 => k_is); (case k7 => k_is); (case k8 => ktr_room); (case k9 => exact BindsTo.of_eq rfl); (case c5 => decide); (case kB => exact locs rfl); (case c2 => exact rfl); (case c3 => exact rfl); (case c4 => exact rfl); k_whole)
  intro g' L' h' FG' F' N' B' X' T'
  dsimp only [List.reverse, List.reverseAux] at F' ⊢
  try k_fold
  k_steps
  all_goals (refine ri_end hret (by k_asm) (cb_drop (by k_asm) (by kcj_all)) ?_; exact fold_cum _ _ _)

theorem con_day_told {w : World} {mean : ExcName → Option Value} {mg mb : Str → Option Value} (n y m' d : Int) (t : Tok) (news : Led) (hy : -10000 ≤ y) (hy' : y ≤ 20000) (hv : Valid y m' d) (hn : n = dnum y m' d) :
    Con w mean mg mb 131 [.int n t] 3 news (RT3 news y m' d) := by
  unfold Con
  k_fill
  intro dp un gd cn cs a ccd cl outer A₀ base h₀ L m s Q E B F X N T hk hd hu hret
  refine wpAny_call ?_
  k_dflt (refine' code_def (binds := [(Str.ofString "number", .int n t)]) ?k1 ?k2 ?k3 ?k4 ?k5 ?kA ?kF ?kK ?k6 ?k7 ?k8 ?k9 ?kB ?_ ?c2 ?c3 ?c4 ?c5; (case kA => exact rfl); (case kF => exact rfl); (case kK => assumption); (case k1 => k_asm); (case k2 => k_asm); (case k3 => k_asm); (case k4 => k_asm); (case k5 => k_asm); (case k6 => k_is); (case k7 => k_is); (case k8 => ktr_room); (case k9 => exact BindsTo.of_eq rfl); (case c5 => decide); (case kB => exact locs rfl); (case c2 => exact rfl); (case c3 => exact rfl); (case c4 => exact rfl); k_whole)
  intro g' L' h' FG' F' N' B' X' T'
  dsimp only [List.reverse, List.reverseAux] at F' ⊢
  try k_fold
  have hin := dnum_in hv
  rw [← hn] at hin
  have hg := guess hin.1 hin.2
  have hf7 : ((n + 719162) * 400).fdiv 146097 = (n + 719162) * 400 / 146097 := Int.fdiv_eq_ediv_of_nonneg _ (by decide)
  rw [← hf7] at hg
  k_with "state" => first | exact hg | exact while1 (by assumption) (by assumption) hin.1 | exact while1e (by assumption) (by assumption) hin.2 | exact while2s (by assumption) (by assumption) hin.2 | exact while3 hv hn ⟨by assumption, by assumption, by assumption⟩ (by assumption) | exact while3s hv
  k_with "measure" => first | exact while1m (by assumption) (by assumption) hin.1 | exact while2m (by assumption) (by assumption) hin.2 | exact while3m hv hn ⟨by assumption, by assumption, by assumption⟩ (by assumption)
  repeat' ((fail_if_success (show wpAny _ _ (exec (Stmt.While _ _ _ _) _) _ _ _)); first | (k_unfold; (try dsimp only)) | (k_end; kc_close) | walk1 | (dsimp only; walk1) | (leave1; (try dsimp only)))
  k_while (fun _ yr => yr = y - 1 ∨ yr = y ∨ yr = y + 1) (fun _ yr => (yr - y + 1).toNat) "year"
  all_goals repeat' ((fail_if_success (show wpAny _ _ (exec (Stmt.While _ _ _ _) _) _ _ _)); first | (k_unfold; (try dsimp only)) | (k_end; kc_close) | walk1 | (dsimp only; walk1) | (leave1; (try dsimp only)))
  k_while (fun _ yr => yr = y - 1 ∨ yr = y) (fun _ yr => (y - yr).toNat) "year"
  all_goals repeat' ((fail_if_success (show wpAny _ _ (exec (Stmt.While _ _ _ _) _) _ _ _)); first | (k_unfold; (try dsimp only)) | (k_end; kc_close) | walk1 | (dsimp only; walk1) | (leave1; (try dsimp only)))
  have e : y = _ := while2e (by assumption) (by assumption) hin.1
  subst e
  k_while (fun _ rest month => rest = n + 719162 - dby y - cum y (month - 1).toNat ∧ 1 ≤ month ∧ month ≤ m') (fun _ rest month => (12 - month).toNat) "rest" "month"
  all_goals repeat' ((fail_if_success (show wpAny _ _ (exec (Stmt.While _ _ _ _) _) _ _ _)); first | (k_unfold; (try dsimp only)) | (k_end; kc_close) | walk1 | (dsimp only; walk1) | (leave1; (try dsimp only)))
  obtain ⟨e1, e2⟩ := while3e hv hn ⟨by assumption, by assumption, by assumption⟩ (by assumption)
  subst e1 e2
  exact hret _ _ _ _ _ _ (by k_asm) (by k_asm) (by assumption)

theorem words4 : True := by
  k_with_none
  trivial
end

theorem con_day_toldR {w : World} {mean : ExcName → Option Value} {mg mb : Str → Option Value} (n y m' d : Int) (t : Tok) (news : Led) (hv : Valid y m' d) (hn : n = dnum y m' d) (hy : -10000 ≤ y) (hy' : y ≤ 20000) :
    Con w mean mg mb 131 [.int n t] 3 news (RT3 news y m' d) := con_day_told n y m' d t news hy hy' hv hn
end
end
end Mine
namespace Mine
section
open PySem PySem.W PyProof.Rows PySem.Spec PySem.Calls
noncomputable section

def isDay (y m d : Int) : Bool := decide (1 ≤ y ∧ y ≤ 9999 ∧ 1 ≤ m ∧ m ≤ 12 ∧ 1 ≤ d ∧ d ≤ mlen y m)
def isTime (h m s : Int) : Bool := decide (0 ≤ h ∧ h ≤ 23 ∧ 0 ≤ m ∧ m ≤ 59 ∧ 0 ≤ s ∧ s ≤ 60)
def wtab (m : Int) : Int := [0, 3, 2, 5, 0, 3, 5, 1, 4, 6, 2, 4].getD (m - 1).toNat 0
/-- the law's own day of the week -/
def lweek (y m d : Int) : Int := Int.fmod ((y - (if m < 3 then 1 else 0)) + (y - (if m < 3 then 1 else 0)).fdiv 4 - (y - (if m < 3 then 1 else 0)).fdiv 100 + (y - (if m < 3 then 1 else 0)).fdiv 400 + wtab m + d + 6) 7
theorem fm7 (a : Int) : Int.fmod a 7 = a % 7 := Int.fmod_eq_emod_of_nonneg a (by decide)
theorem wk (y a b c B L d w N K : Int) (hn : y * 365 + a - b + c = B + 365 + L) (hk : N - w - 719531 = 7 * K) : (y + a - b + c + w + d + 6) % 7 = (B - 719162 + d - 1 + (N + L) + 3) % 7 := by
  have : B - 719162 + d - 1 + (N + L) + 3 = (y + a - b + c + w + d + 6) + 7 * (52 * y + K) := by omega
  rw [this, Int.add_mul_emod_self_left]
theorem wk0 (z a b c d w N K : Int) (hk : N - w - 719166 = 7 * K) : (z + a - b + c + w + d + 6) % 7 = (z * 365 + a - b + c - 719162 + d - 1 + N + 3) % 7 := by
  have : z * 365 + a - b + c - 719162 + d - 1 + N + 3 = (z + a - b + c + w + d + 6) + 7 * (52 * z + K) := by omega
  rw [this, Int.add_mul_emod_self_left]
theorem week_eq {y m d : Int} (h1 : 1 ≤ m) (h2 : m ≤ 12) : lweek y m d = Int.fmod (dnum y m d + 3) 7 := by
  obtain ⟨c0, c1, c2, c3, c4, c5, c6, c7, c8, c9, c10, c11, _⟩ := cums y
  have hn := dby_next y
  have e1 : dby (y + 1) = y * 365 + y / 4 - y / 100 + y / 400 := by rw [dby_eq, show y + 1 - 1 = y from Int.add_sub_cancel y 1]
  have e0 := dby_eq y
  rw [e1] at hn
  unfold dnum lweek
  rw [fd4, fd100, fd400, fm7, fm7]
  rcases months h1 h2 with h | h | h | h | h | h | h | h | h | h | h | h <;> subst h
  · show _ = (_ + cum y 0 + 3) % 7
    rw [c0, show wtab 1 = 0 from rfl, e0]; simp only [Int.reduceLT, if_true]
    exact wk0 _ _ _ _ _ _ _ (-102738) (by decide)
  · show _ = (_ + cum y 1 + 3) % 7
    rw [c1, show wtab 2 = 3 from rfl, e0]; simp only [Int.reduceLT, if_true]
    exact wk0 _ _ _ _ _ _ _ (-102734) (by decide)
  · show _ = (_ + cum y 2 + 3) % 7
    rw [c2, show wtab 3 = 2 from rfl]; simp only [Int.reduceLT, if_false, Int.sub_zero]
    exact wk _ _ _ _ _ _ _ _ _ (-102782) hn (by decide)
  · show _ = (_ + cum y 3 + 3) % 7
    rw [c3, show wtab 4 = 5 from rfl]; simp only [Int.reduceLT, if_false, Int.sub_zero]
    exact wk _ _ _ _ _ _ _ _ _ (-102778) hn (by decide)
  · show _ = (_ + cum y 4 + 3) % 7
    rw [c4, show wtab 5 = 0 from rfl]; simp only [Int.reduceLT, if_false, Int.sub_zero]
    exact wk _ _ _ _ _ _ _ _ _ (-102773) hn (by decide)
  · show _ = (_ + cum y 5 + 3) % 7
    rw [c5, show wtab 6 = 3 from rfl]; simp only [Int.reduceLT, if_false, Int.sub_zero]
    exact wk _ _ _ _ _ _ _ _ _ (-102769) hn (by decide)
  · show _ = (_ + cum y 6 + 3) % 7
    rw [c6, show wtab 7 = 5 from rfl]; simp only [Int.reduceLT, if_false, Int.sub_zero]
    exact wk _ _ _ _ _ _ _ _ _ (-102765) hn (by decide)
  · show _ = (_ + cum y 7 + 3) % 7
    rw [c7, show wtab 8 = 1 from rfl]; simp only [Int.reduceLT, if_false, Int.sub_zero]
    exact wk _ _ _ _ _ _ _ _ _ (-102760) hn (by decide)
  · show _ = (_ + cum y 8 + 3) % 7
    rw [c8, show wtab 9 = 4 from rfl]; simp only [Int.reduceLT, if_false, Int.sub_zero]
    exact wk _ _ _ _ _ _ _ _ _ (-102756) hn (by decide)
  · show _ = (_ + cum y 9 + 3) % 7
    rw [c9, show wtab 10 = 6 from rfl]; simp only [Int.reduceLT, if_false, Int.sub_zero]
    exact wk _ _ _ _ _ _ _ _ _ (-102752) hn (by decide)
  · show _ = (_ + cum y 10 + 3) % 7
    rw [c10, show wtab 11 = 2 from rfl]; simp only [Int.reduceLT, if_false, Int.sub_zero]
    exact wk _ _ _ _ _ _ _ _ _ (-102747) hn (by decide)
  · show _ = (_ + cum y 11 + 3) % 7
    rw [c11, show wtab 12 = 4 from rfl]; simp only [Int.reduceLT, if_false, Int.sub_zero]
    exact wk _ _ _ _ _ _ _ _ _ (-102743) hn (by decide)
section
theorem words5 : True := by
  k_with_none
  (k_with "eval Call Name" => ((with_reducible show wpAny _ _ (eval (Expr.Call (Expr.Name _ _) _ _ _) _) _ _ _); refine Call_ ?_))
  (k_with "call ref" => (k_here; k_dflt (refine con_use (by k_asm) (by k_asm) (by k_asm) (by k_asm) (by k_asm) (by first | exact rfl | assumption) (con_month_length _ _ _ _ _) (by ktr_room) (by ktr_units) ?_); intro t9 h9 tk9 F9 N9; (try dsimp only); (try k_fold)))
  trivial
theorem con_is_day {w : World} {mean : ExcName → Option Value} {mg mb : Str → Option Value} (y m' d : Int) (t t' t2 : Tok) (news : Led) :
    Con w mean mg mb 145 [.int y t, .int m' t', .int d t2] 3 news (RB news (isDay y m' d)) := by
  unfold Con
  k_fill
  intro dp un gd cn cs a ccd cl outer A₀ base h₀ L m s Q E B F X N T hk hd hu hret
  refine wpAny_call ?_
  k_dflt (refine' code_def (binds := [(Str.ofString "year", .int y t), (Str.ofString "month", .int m' t'), (Str.ofString "day", .int d t2)]) ?k1 ?k2 ?k3 ?k4 ?k5 ?kA ?kF ?kK ?k6 ?k7 ?k8 ?k9 ?kB ?_ ?c2 ?c3 ?c4 ?c5; (case kA => exact rfl); (case kF => exact rfl); (case kK => assumption); (case k1 => k_asm); (case k2 => k_asm); (case k3 => k_asm); (case k4 => k_asm); (case k5 => k_asm); (case k6 => k_is); (case k7 => k_is); (case k8 => ktr_room); (case k9 => exact BindsTo.of_eq rfl); (case c5 => decide); (case kB => exact locs rfl); (case c2 => exact rfl); (case c3 => exact rfl); (case c4 => exact rfl); k_whole)
  intro g' L' h' FG' F' N' B' X' T'
  dsimp only [List.reverse, List.reverseAux] at F' ⊢
  try k_fold
  k_steps
  all_goals (refine rb_end hret (by k_asm) (cb_drop (by k_asm) (by kcj_all)) ?_; clear hret; unfold isDay; exact decide_eq_decide.mpr (by omega))

theorem con_is_time {w : World} {mean : ExcName → Option Value} {mg mb : Str → Option Value} (h9' m' s' : Int) (t t' t2 : Tok) (news : Led) :
    Con w mean mg mb 152 [.int h9' t, .int m' t', .int s' t2] 1 news (RB news (isTime h9' m' s')) := by
  unfold Con
  k_fill
  intro dp un gd cn cs a ccd cl outer A₀ base h₀ L m s Q E B F X N T hk hd hu hret
  refine wpAny_call ?_
  k_dflt (refine' code_def (binds := [(Str.ofString "hour", .int h9' t), (Str.ofString "minute", .int m' t'), (Str.ofString "second", .int s' t2)]) ?k1 ?k2 ?k3 ?k4 ?k5 ?kA ?kF ?kK ?k6 ?k7 ?k8 ?k9 ?kB ?_ ?c2 ?c3 ?c4 ?c5; (case kA => exact rfl); (case kF => exact rfl); (case kK => assumption); (case k1 => k_asm); (case k2 => k_asm); (case k3 => k_asm); (case k4 => k_asm); (case k5 => k_asm); (case k6 => k_is); (case k7 => k_is); (case k8 => ktr_room); (case k9 => exact BindsTo.of_eq rfl); (case c5 => decide); (case kB => exact locs rfl); (case c2 => exact rfl); (case c3 => exact rfl); (case c4 => exact rfl); k_whole)
  intro g' L' h' FG' F' N' B' X' T'
  dsimp only [List.reverse, List.reverseAux] at F' ⊢
  try k_fold
  k_steps
  all_goals (refine rb_end hret (by k_asm) (cb_drop (by k_asm) (by kcj_all)) ?_; clear hret; unfold isTime; exact decide_eq_decide.mpr (by omega))

theorem words6 : True := by
  (k_with "call ref" => (k_here; k_dflt (refine con_use (by k_asm) (by k_asm) (by k_asm) (by k_asm) (by k_asm) (by first | exact rfl | assumption) (con_day_number _ _ _ _ _ _ _ (by omega) (by omega) (by omega) (by omega)) (by ktr_room) (by ktr_units) ?_); intro t9 h9 tk9 F9 N9; (try dsimp only); (try k_fold)))
  trivial
theorem con_weekday {w : World} {mean : ExcName → Option Value} {mg mb : Str → Option Value} (y m' d : Int) (t t' t2 : Tok) (news : Led) (hy : -1000000 ≤ y) (hy' : y ≤ 1000000) (hm : 1 ≤ m') (hm' : m' ≤ 12) :
    Con w mean mg mb 138 [.int y t, .int m' t', .int d t2] 4 news (RI news (Int.fmod (dnum y m' d + 3) 7)) := by
  unfold Con
  k_fill
  intro dp un gd cn cs a ccd cl outer A₀ base h₀ L m s Q E B F X N T hk hd hu hret
  refine wpAny_call ?_
  k_dflt (refine' code_def (binds := [(Str.ofString "year", .int y t), (Str.ofString "month", .int m' t'), (Str.ofString "day", .int d t2)]) ?k1 ?k2 ?k3 ?k4 ?k5 ?kA ?kF ?kK ?k6 ?k7 ?k8 ?k9 ?kB ?_ ?c2 ?c3 ?c4 ?c5; (case kA => exact rfl); (case kF => exact rfl); (case kK => assumption); (case k1 => k_asm); (case k2 => k_asm); (case k3 => k_asm); (case k4 => k_asm); (case k5 => k_asm); (case k6 => k_is); (case k7 => k_is); (case k8 => ktr_room); (case k9 => exact BindsTo.of_eq rfl); (case c5 => decide); (case kB => exact locs rfl); (case c2 => exact rfl); (case c3 => exact rfl); (case c4 => exact rfl); k_whole)
  intro g' L' h' FG' F' N' B' X' T'
  dsimp only [List.reverse, List.reverseAux] at F' ⊢
  try k_fold
  k_steps
  all_goals (refine ri_end hret (by k_asm) (by k_asm) ?_; rfl)

theorem con_law_days {w : World} {mean : ExcName → Option Value} {mg mb : Str → Option Value} (y m' d : Int) (t t' t2 : Tok) (news : Led) (hy : -1000000 ≤ y) (hy' : y ≤ 1000000) (hm : 1 ≤ m') (hm' : m' ≤ 12) :
    Con w mean mg mb 265 [.int y t, .int m' t', .int d t2] 4 news (RI news (dnum y m' d)) := by
  unfold Con
  k_fill
  intro dp un gd cn cs a ccd cl outer A₀ base h₀ L m s Q E B F X N T hk hd hu hret
  refine wpAny_call ?_
  k_dflt (refine' code_def (binds := [(Str.ofString "year", .int y t), (Str.ofString "month", .int m' t'), (Str.ofString "day", .int d t2)]) ?k1 ?k2 ?k3 ?k4 ?k5 ?kA ?kF ?kK ?k6 ?k7 ?k8 ?k9 ?kB ?_ ?c2 ?c3 ?c4 ?c5; (case kA => exact rfl); (case kF => exact rfl); (case kK => assumption); (case k1 => k_asm); (case k2 => k_asm); (case k3 => k_asm); (case k4 => k_asm); (case k5 => k_asm); (case k6 => k_is); (case k7 => k_is); (case k8 => ktr_room); (case k9 => exact BindsTo.of_eq rfl); (case c5 => decide); (case kB => exact locs rfl); (case c2 => exact rfl); (case c3 => exact rfl); (case c4 => exact rfl); k_whole)
  intro g' L' h' FG' F' N' B' X' T'
  dsimp only [List.reverse, List.reverseAux] at F' ⊢
  try k_fold
  k_steps
  all_goals (refine ri_end hret (by k_asm) (by k_asm) ?_; clear hret; rw [← ldays_eq hm hm']; unfold ldays; (repeat' split) <;> first | rfl | omega)

theorem words7 : True := by
  (k_with "call ref" => (k_here; k_dflt (refine con_use (by k_asm) (by k_asm) (by k_asm) (by k_asm) (by k_asm) (by first | exact rfl | assumption) (con_law_days _ _ _ _ _ _ _ (by omega) (by omega) (by omega) (by omega)) (by ktr_room) (by ktr_units) ?_); intro t9 h9 tk9 F9 N9; (try dsimp only); (try k_fold)))
  trivial
theorem con_law_length {w : World} {mean : ExcName → Option Value} {mg mb : Str → Option Value} (y m' : Int) (t t' : Tok) (news : Led) (hy : -1000000 ≤ y) (hy' : y ≤ 1000000) (hm : 1 ≤ m') (hm' : m' ≤ 12) :
    Con w mean mg mb 279 [.int y t, .int m' t'] 5 news (RI news (mlen y m')) := by
  unfold Con
  k_fill
  intro dp un gd cn cs a ccd cl outer A₀ base h₀ L m s Q E B F X N T hk hd hu hret
  refine wpAny_call ?_
  k_dflt (refine' code_def (binds := [(Str.ofString "year", .int y t), (Str.ofString "month", .int m' t')]) ?k1 ?k2 ?k3 ?k4 ?k5 ?kA ?kF ?kK ?k6 ?k7 ?k8 ?k9 ?kB ?_ ?c2 ?c3 ?c4 ?c5; (case kA => exact rfl); (case kF => exact rfl); (case kK => assumption); (case k1 => k_asm); (case k2 => k_asm); (case k3 => k_asm); (case k4 => k_asm); (case k5 => k_asm); (case k6 => k_is); (case k7 => k_is); (case k8 => ktr_room); (case k9 => exact BindsTo.of_eq rfl); (case c5 => decide); (case kB => exact locs rfl); (case c2 => exact rfl); (case c3 => exact rfl); (case c4 => exact rfl); k_whole)
  intro g' L' h' FG' F' N' B' X' T'
  dsimp only [List.reverse, List.reverseAux] at F' ⊢
  try k_fold
  k_steps
  all_goals (refine ri_end hret (by k_asm) (by k_asm) ?_; clear hret)
  · rw [show m' = 12 by assumption, mlen_12]
  · exact dnum_month hm (by omega)


theorem wtab_item {m : Int} (h1 : 1 ≤ m) (h2 : m ≤ 12) : ∃ tk, ([.int 0 560, .int 3 561, .int 2 562, .int 5 563, .int 0 564, .int 3 565, .int 5 566, .int 1 567, .int 4 568, .int 6 569, .int 2 570, .int 4 571] : List Value)[(m - 1).toNat]? = some (.int (wtab m) tk) := by
  rcases months h1 h2 with h | h | h | h | h | h | h | h | h | h | h | h <;> subst h <;> exact ⟨_, rfl⟩
theorem wtab_at {m : Int} (h1 : 1 ≤ m) (h2 : m ≤ 12) : seqIndex? (m - 1) 12 = some (m - 1).toNat := by
  rcases months h1 h2 with h | h | h | h | h | h | h | h | h | h | h | h <;> subst h <;> rfl
theorem words8 : True := by
  (k_with "subscriptTail Name" => (k_here; (with_reducible show wpAny _ _ (subscriptTail _ _ (Value.ref _) (Value.int _ _)) _ _ _); k_dflt (refine topTup_K (by k_asm) (by k_asm) (by k_is) (by omega) (by omega) (by exact wtab_at (by omega) (by omega)) (by assumption) ?_; k_whole)))
  trivial
theorem con_law_weekday {w : World} {mean : ExcName → Option Value} {mg mb : Str → Option Value} (y m' d : Int) (t t' t2 : Tok) (news : Led) (hy : -1000000 ≤ y) (hy' : y ≤ 1000000) (hm : 1 ≤ m') (hm' : m' ≤ 12) :
    Con w mean mg mb 272 [.int y t, .int m' t', .int d t2] 5 news (RI news (Int.fmod (dnum y m' d + 3) 7)) := by
  unfold Con
  k_fill
  intro dp un gd cn cs a ccd cl outer A₀ base h₀ L m s Q E B F X N T hk hd hu hret
  refine wpAny_call ?_
  k_dflt (refine' code_def (binds := [(Str.ofString "year", .int y t), (Str.ofString "month", .int m' t'), (Str.ofString "day", .int d t2)]) ?k1 ?k2 ?k3 ?k4 ?k5 ?kA ?kF ?kK ?k6 ?k7 ?k8 ?k9 ?kB ?_ ?c2 ?c3 ?c4 ?c5; (case kA => exact rfl); (case kF => exact rfl); (case kK => assumption); (case k1 => k_asm); (case k2 => k_asm); (case k3 => k_asm); (case k4 => k_asm); (case k5 => k_asm); (case k6 => k_is); (case k7 => k_is); (case k8 => ktr_room); (case k9 => exact BindsTo.of_eq rfl); (case c5 => decide); (case kB => exact locs rfl); (case c2 => exact rfl); (case c3 => exact rfl); (case c4 => exact rfl); k_whole)
  intro g' L' h' FG' F' N' B' X' T'
  dsimp only [List.reverse, List.reverseAux] at F' ⊢
  try k_fold
  obtain ⟨tk0, hx⟩ := wtab_item hm hm'
  k_steps
  all_goals (refine ri_end hret (by k_asm) (by k_asm) ?_; clear hret; rw [← week_eq hm hm']; unfold lweek; (repeat' split) <;> first | rfl | omega)

theorem words9 : True := by
  k_with_none
  trivial
end

end
end
end Mine
namespace Mine
section
open PySem PySem.W PyProof.Rows PySem.Spec PySem.Calls
noncomputable section

/-- the pool: the list of four that the law draws from -/
def poolO (c : Addr) (g st p : Int) (t1 t2 t3 : Tok) (ep : Nat) : Obj := listOf #[.ref c, .int g t1, .int st t2, .int p t3] ep
abbrev RD (pl c : Nat) (most p : Int) (cs : Obj) (rest : Led) : Ret := fun h₀ L m s Q => ∀ (v g' st' : Int) (t t1 t2 t3 : Tok) (ep : Nat) (h' : Heap) (tk' : Nat), 0 ≤ v → v < most → 0 ≤ g' → 0 ≤ st' → st' < 2147483647 →
  Fr h₀ L h' m → News h₀ L h' ((pl, poolO c g' st' (p + 1) t1 t2 t3 ep) :: (c, cs) :: rest) → Q (.int v t) { s with heap := h', toks := tk' }
section
local macro_rules | `(tactic| k_all) => `(tactic| assumption)

theorem fdiv_pos {g k : Int} (h : 0 ≤ g) (hk : 0 < k) : 0 ≤ g.fdiv k := by rw [Int.fdiv_eq_ediv_of_nonneg _ (by omega)]; exact Int.ediv_nonneg h (by omega)
theorem con_draw {w : World} {mean : ExcName → Option Value} {mg mb : Str → Option Value} (pl c : Nat) (most g st p : Int) (t t1 t2 t3 : Tok) (ep epc : Nat) (vs : List Value) (ns : List Int) (rest : Led)
    (hm : 0 < most) (hm' : most ≤ 10000) (hg : 0 ≤ g) (hst : 0 ≤ st) (hst' : st < 2147483647) (hp : 0 ≤ p) (hp' : p ≤ 100) (hI : IntsAre vs ns) (hlen : ns.length ≤ 40) (hpc : c < pl) (hpr : ∀ q ∈ rest, q.1 ≠ pl) :
    Con w mean mg mb 256 [.ref pl, .int most t] 1 ((pl, listOf #[.ref c, .int g t1, .int st t2, .int p t3] ep) :: (c, listOf vs.toArray epc) :: rest) (RD pl c most p (listOf vs.toArray epc) rest) := by
  unfold Con
  k_fill
  intro dp un gd cn cs a ccd cl outer A₀ base h₀ L m s Q E B F X N T hk hd hu hret
  refine wpAny_call ?_
  k_dflt (refine' code_def (binds := [(Str.ofString "pool", .ref pl), (Str.ofString "most", .int most t)]) ?k1 ?k2 ?k3 ?k4 ?k5 ?kA ?kF ?kK ?k6 ?k7 ?k8 ?k9 ?kB ?_ ?c2 ?c3 ?c4 ?c5; (case kA => exact rfl); (case kF => exact rfl); (case kK => assumption); (case k1 => k_asm); (case k2 => k_asm); (case k3 => k_asm); (case k4 => k_asm); (case k5 => k_asm); (case k6 => k_is); (case k7 => k_is); (case k8 => ktr_room); (case k9 => exact BindsTo.of_eq rfl); (case c5 => decide); (case kB => exact locs rfl); (case c2 => exact rfl); (case c3 => exact rfl); (case c4 => exact rfl); k_whole)
  intro g' L' h' FG' F' N' B' X' T'
  dsimp only [List.reverse, List.reverseAux] at F' ⊢
  try k_fold
  k_steps
  all_goals (refine' hret _ _ _ _ _ _ _ _ _ _ ?p1 ?p2 ?p3 ?p4 ?p5 ?pF ?pN; (case pN => k_asm); (case pF => k_asm); (case p1 => exact Int.fmod_nonneg_of_pos _ hm); (case p2 => exact Int.fmod_lt_of_pos _ hm); (case p3 => first | assumption | exact fdiv_pos (by assumption) hm); (case p4 => first | assumption | exact Int.fmod_nonneg_of_pos _ (by decide)); (case p5 => first | assumption | exact Int.fmod_lt_of_pos _ (by decide)))
end

end
end
end Mine
namespace Mine
section
open PySem PySem.W PyProof.Rows PySem.Spec PySem.Calls
noncomputable section

abbrev RX (news : Led) : Ret := fun h₀ L m s Q => ∀ (pl c : Nat) (g st : Int) (t1 t2 t3 : Tok) (ep epc : Nat) (vs : List Value) (ns : List Int) (h' : Heap) (tk' : Nat), 0 ≤ g → 0 ≤ st → st < 2147483647 → IntsAre vs ns → ns.length ≤ 40 → c < pl →
  Fr h₀ L h' m → News h₀ L h' ((pl, poolO c g st 0 t1 t2 t3 ep) :: (c, listOf vs.toArray epc) :: news) → Q (.ref pl) { s with heap := h', toks := tk' }
theorem fold3a {T : Type} {u : T} : ∀ (l : List Int) (a g z : Int) (v : T), 0 ≤ a → a < 2147483647 → 0 ≤ g →
    0 ≤ (List.foldl (fun (σ : Int × Int × Int × T) (n : Int) => ((σ.fst * 48271 + n.fmod 2147483647 + 11).fmod 2147483647, σ.snd.fst, σ.snd.fst, u)) (a, g, z, v) l).snd.fst ∧ 0 ≤ (List.foldl (fun (σ : Int × Int × Int × T) (n : Int) => ((σ.fst * 48271 + n.fmod 2147483647 + 11).fmod 2147483647, σ.snd.fst, σ.snd.fst, u)) (a, g, z, v) l).fst ∧
      (List.foldl (fun (σ : Int × Int × Int × T) (n : Int) => ((σ.fst * 48271 + n.fmod 2147483647 + 11).fmod 2147483647, σ.snd.fst, σ.snd.fst, u)) (a, g, z, v) l).fst < 2147483647
  | [], _, _, _, _, h0, h1, h2 => ⟨h2, h0, h1⟩
  | _ :: l, a, g, _, _, _, _, h2 => fold3a l _ g _ _ (Int.fmod_nonneg_of_pos _ (by decide)) (Int.fmod_lt_of_pos _ (by decide)) h2
theorem fold3b {T : Type} {u : T} : ∀ (l : List Int) (a g : Int) (v : T), 0 ≤ a → a < 2147483647 → 0 ≤ g →
    0 ≤ (List.foldl (fun (σ : Int × Int × T) (n : Int) => ((σ.fst * 48271 + n.fmod 2147483647 + 11).fmod 2147483647, σ.snd.fst, u)) (a, g, v) l).snd.fst ∧ 0 ≤ (List.foldl (fun (σ : Int × Int × T) (n : Int) => ((σ.fst * 48271 + n.fmod 2147483647 + 11).fmod 2147483647, σ.snd.fst, u)) (a, g, v) l).fst ∧
      (List.foldl (fun (σ : Int × Int × T) (n : Int) => ((σ.fst * 48271 + n.fmod 2147483647 + 11).fmod 2147483647, σ.snd.fst, u)) (a, g, v) l).fst < 2147483647
  | [], _, _, _, h0, h1, h2 => ⟨h2, h0, h1⟩
  | _ :: l, a, g, _, _, _, h2 => fold3b l _ g _ (Int.fmod_nonneg_of_pos _ (by decide)) (Int.fmod_lt_of_pos _ (by decide)) h2
theorem pow_pos' (n : Nat) : (0 : Int) < 10 ^ n := Int.pow_pos (by decide)
theorem box_end3 {news : Led} {h₀ h' : Heap} {L : Addr} {m : Str → Option Value} {s : Shared} {Q : Value → Shared → Prop} {pl c : Nat} {g st : Int} {t1 t2 t3 : Tok} {ep epc : Nat} {vs : List Value} {ns : List Int} {tk' : Nat} (hret : RX news h₀ L m s Q)
    (hI : IntsAre vs ns) (hl : ns.length ≤ 40) (lt : c < pl) (N : Fr h₀ L h' m ∧ News h₀ L h' ((pl, poolO c g st 0 t1 t2 t3 ep) :: (c, listOf vs.toArray epc) :: news)) (h : 0 ≤ g ∧ 0 ≤ st ∧ st < 2147483647) : Q (.ref pl) { s with heap := h', toks := tk' } :=
  hret _ _ _ _ _ _ _ _ _ _ _ _ _ h.1 h.2.1 h.2.2 hI hl lt N.1 N.2
section
theorem words10 : True := by
  k_with_none
  (k_with "exec Assign cons ListComp" => (k_here; k_dflt (refine LCg.Assign_ListComp_U (F₀ := by k_asm) (by rfl) (by with_unfolding_all rfl) (by with_unfolding_all rfl) (by decide) (by rfl) (by decide) (by rfl) (by rfl) (by rfl) ?_)))
  (k_with "CompSrc" => (k_here; k_dflt (refine LCg.CompSrc.ledger (by rfl) (by k_asm) (by k_asm) (by k_mem) (by rw [List.size_toArray, IntsAre.length (by assumption), List.length_take, sizeLine_eq]; omega) ?_; intro g'; (refine' kcf_list (fun x => x) (by assumption) (fun k' t' I' oI' C' oC' D' m' ys' h' tk' E' hk' hC' hx' F' N' off' ne' hMark' => ?_) ?_); (all_goals (try (simp only [LCg.Off3, and_true] at off'))))))
  trivial
theorem con_box {w : World} {mean : ExcName → Option Value} {mg mb : Str → Option Value} (dp un : Nat) (gd : Option (List Code)) (cn : Str) (cs : Scope) (a : Addr) (ccd : Value) (cl : List (Str × Addr)) (outer : List Env) (A₀ : Around) (base h₀ : Heap) (L : Addr) (m : Str → Option Value) (s : Shared) (Q E : Value → Shared → Prop) (l : Addr) (ws : List Value) (ks : List Int) (news : Led)
    (B : Below A₀ base outer h₀) (F : Fr h₀ L s.heap m) (X : (heapK w.params).In h₀) (N : News h₀ L s.heap news) (T : Top viewK LO mean mg mb h₀) (hk : cs.kind = .function) (hdp : dp + 1 < recursionLimit) (hu : un + 8 * 1 < cLine)
    (hl : base.IsList l ws.toArray) (hi : IntsAre ws ks) (hfit : ks.length ≤ 63) (hret : RX news h₀ L m s Q) :
    wpAny (model PySem.Challenge.rw_no0364_01.row.prog w) (ktrTop dp un gd cn cs L a ccd cl outer) (call (.ref 249) [.ref l]) Q E s := by
  have kk : PySem.Challenge.rw_no0364_01.row.prog = PySem.Challenge.rw_no0364_01.row.prog ∧ heapK w.params = heapK w.params := ⟨rfl, rfl⟩
  revert kk
  k_fill
  intro _
  refine wpAny_call ?_
  k_dflt (refine' code_def (binds := [(Str.ofString "script", .ref l)]) ?k1 ?k2 ?k3 ?k4 ?k5 ?kA ?kF ?kK ?k6 ?k7 ?k8 ?k9 ?kB ?_ ?c2 ?c3 ?c4 ?c5; (case kA => exact rfl); (case kF => exact rfl); (case kK => assumption); (case k1 => k_asm); (case k2 => k_asm); (case k3 => k_asm); (case k4 => k_asm); (case k5 => k_asm); (case k6 => k_is); (case k7 => k_is); (case k8 => ktr_room); (case k9 => exact BindsTo.of_eq rfl); (case c5 => decide); (case kB => exact locs rfl); (case c2 => exact rfl); (case c3 => exact rfl); (case c4 => exact rfl); k_whole)
  intro g' L' h' FG' F' N' B' X' T'
  dsimp only [List.reverse, List.reverseAux] at F' ⊢
  try k_lift B'
  try k_fold
  k_steps
  all_goals (first
    | (refine' box_end3 hret ?b1 ?b2 ?b3 ?b4 (fold3a _ 7 _ 0 _ (by decide) (by decide) ?b5); (case b4 => exact ⟨by k_asm, cb_drop (by k_asm) (by kcj_all)⟩); (case b1 => k_asm); (case b2 => rw [List.length_map, List.length_take]; omega); (case b3 => omega); (case b5 => exact Int.fmod_nonneg_of_pos _ (pow_pos' _)))
    | (refine' box_end3 hret ?b1 ?b2 ?b3 ?b4 (fold3b _ 7 _ _ (by decide) (by decide) ?b5); (case b4 => exact ⟨by k_asm, cb_drop (by k_asm) (by kcj_all)⟩); (case b1 => k_asm); (case b2 => rw [List.length_map, List.length_take]; omega); (case b3 => omega); (case b5 => first | exact Int.le_refl _ | exact Int.fmod_nonneg_of_pos _ (pow_pos' _))))
theorem words11 : True := by
  k_with_none
  trivial
end

end
end
end Mine
namespace Mine
section
open PySem PySem.W PyProof.Rows PySem.Spec PySem.Calls
section
variable {prog : Program} {w : World} {A : Around} {E : Value → Shared → Prop} {h₀ : Heap} {L : Addr} {m : Str → Option Value} {env : Env} {elt iter : Expr} {x : Str} {scope : Scope} {cl : List (Str × Addr)} {s : Shared} {S : Led → Prop} {P : Nat → Value → Prop} {Fin : List Value → Led → Prop} {news : Led}

/-- the turns of a comprehension whose items and results are texts -/
theorem rest_strs {κ : Type} {n : Nat} {ks : List κ} (it g : κ → Str) (hks : ks.length = n) (hP : ∀ i v, i < n → P i v → ∃ k t, ks[i]? = some k ∧ v = .str (it k) t)
    (turn : ∀ k t I oI C oC D m₂ ys h tk (E' : Value → Shared → Prop), k ∈ ks → LCg.NsObj oC m₂ → m₂ x = some (.str (it k) t) → Fr h₀ L h m → News h₀ L h ((I, oI) :: (C, oC) :: (D, LCg.lst ys) :: news) → LCg.Off3 I C D news → ((@Ne Nat I C) ∧ (@Ne Nat I D) ∧ (@Ne Nat C D)) → KPfMark →
      wpAny (model prog w) A (eval elt (compEnvC scope cl C env)) (LCg.CompEnd h₀ L m { s with heap := h, toks := tk } I oI C oC D (LCg.lst ys) S (fun y news' => KCtEl news (g k) y news')) E' { s with heap := h, toks := tk })
    (fin : KPfDone (∀ ys, StrsAre ys (ks.map g) → Fin ys news)) : LCg.CompRest prog w A h₀ L m env elt x scope cl s S P Fin n 0 [] news := by
  unfold KPfDone at fin
  have key : ∀ (j i : Nat) (ys : List Value), i + j = n → StrsAre ys ((ks.take i).map g) → LCg.CompRest prog w A h₀ L m env elt x scope cl s S P Fin j i ys news := by
    intro j
    induction j with
    | zero =>
      intro i ys hi hy
      have e : i = ks.length := by omega
      subst e
      rw [List.take_length] at hy
      exact LCg.CompRest.zero (fin ys hy)
    | succ j ih =>
      intro i ys hi hy
      refine LCg.CompRest.succ ?_
      intro v I oI C oC D m₂ h tk E' hv hC hx F N off ne
      obtain ⟨k, t, hk, hv'⟩ := hP i v (by omega) hv
      rw [hv'] at hx
      refine wpAny_mono (turn k t I oI C oC D m₂ ys h tk E' (List.mem_of_getElem? hk) hC hx F N off ne True.intro) (fun y s₂ hq => ?_) fun _ _ e => e
      obtain ⟨h', tk', nw, e, F', N', off', hS, hn, t', hy'⟩ := hq
      rw [hn] at N' off' hS
      refine ⟨h', tk', news, e, F', N', off', hS, ?_⟩
      rw [hy']
      refine ih (i + 1) _ (by omega) ?_
      rw [List.take_add_one, hk]
      simpa using kct_snoc hy
  exact key n 0 [] (by omega) (by simp only [List.take_zero, List.map_nil]; exact .nil)

/-- a text as a comprehension's source -/
def SrcT (prog : Program) (w : World) (A : Around) (h₀ : Heap) (L : Addr) (m : Str → Option Value) (env : Env) (elt : Expr) (x : Str) (scope : Scope) (cl : List (Str × Addr)) (Fin : Shared → List Value → Led → Prop) (xv : Value) (s₁ : Shared) : Prop :=
  ∃ y t news, xv = .str y t ∧ A.handled = none ∧ Fr h₀ L s₁.heap m ∧ News h₀ L s₁.heap news ∧ y.cps.all (· < 128) = true ∧ y.cps.size ≤ sizeLine ∧
    ∀ s₂ : Shared, (∃ h, s₂ = { s₁ with heap := h }) → LCg.CompRest prog w A h₀ L m env elt x scope cl s₂ (fun _ => True) (SignAt y) (Fin s₂) y.cps.size 0 [] news
/-- a tuple of the written part as a comprehension's source -/
def SrcU (prog : Program) (w : World) (A : Around) (h₀ : Heap) (L : Addr) (m : Str → Option Value) (env : Env) (elt : Expr) (x : Str) (scope : Scope) (cl : List (Str × Addr)) (Fin : Shared → List Value → Led → Prop) (xv : Value) (s₁ : Shared) : Prop :=
  ∃ a its news, xv = .ref a ∧ A.handled = none ∧ Fr h₀ L s₁.heap m ∧ News h₀ L s₁.heap news ∧ h₀.IsTuple a its ∧ its.size ≤ sizeLine ∧
    ∀ s₂ : Shared, (∃ h, s₂ = { s₁ with heap := h }) → LCg.CompRest prog w A h₀ L m env elt x scope cl s₂ (fun _ => True) (fun i v => its[i]? = some v) (Fin s₂) its.size 0 [] news

theorem SrcT.intro {Fin : Shared → List Value → Led → Prop} {y : Str} {t : Tok} {s₁ : Shared} (hh : A.handled = none) (F : Fr h₀ L s₁.heap m) (N : News h₀ L s₁.heap news) (ha : y.cps.all (· < 128) = true) (hsz : y.cps.size ≤ sizeLine)
    (h : ∀ g, LCg.CompRest prog w A h₀ L m env elt x scope cl { s₁ with heap := g } (fun _ => True) (SignAt y) (Fin { s₁ with heap := g }) y.cps.size 0 [] news) : SrcT prog w A h₀ L m env elt x scope cl Fin (.str y t) s₁ :=
  ⟨y, t, news, rfl, hh, F, N, ha, hsz, fun _ ⟨g, e⟩ => e ▸ h g⟩
theorem SrcU.intro {Fin : Shared → List Value → Led → Prop} {a : Addr} {its : Array Value} {s₁ : Shared} (hh : A.handled = none) (F : Fr h₀ L s₁.heap m) (N : News h₀ L s₁.heap news) (hl : h₀.IsTuple a its) (hsz : its.size ≤ sizeLine)
    (h : ∀ g, LCg.CompRest prog w A h₀ L m env elt x scope cl { s₁ with heap := g } (fun _ => True) (fun i v => its[i]? = some v) (Fin { s₁ with heap := g }) its.size 0 [] news) : SrcU prog w A h₀ L m env elt x scope cl Fin (.ref a) s₁ :=
  ⟨a, its, news, rfl, hh, F, N, hl, hsz, fun _ ⟨g, e⟩ => e ▸ h g⟩

theorem comp_text {px : Pos} {pos : Pos} {Q : Value → Shared → Prop} (F₀ : Fr h₀ L s.heap m)
    (hclos : closureFor scope env = pure cl) (hcell : ∀ y ∈ scope.names, y.2 ≠ .cell) (hkind : scope.kind = .function)
    (hnames : ∀ y ∈ scope.names, y.2 = .local → scope.names.lookup y.1 = some .local) (hx : scope.names.lookup x = some .local)
    (h : wpAny (model prog w) A (eval iter env) (SrcT prog w A h₀ L m env elt x scope cl (fun s₂ => LCg.FinE h₀ L m s₂ Q)) E s)
    (hs : ∀ x, foldedSetIterable iter env x = pure x := by intro _; rfl) :
    wpAny (model prog w) A (eval (.ListComp elt [⟨.Name x px, iter, [], 0⟩] scope pos) env) Q E s := by
  rw [eval_ListComp]
  refine wpAny_comprehension_free (use := none) rfl hs hclos hkind hnames (wpAny_mono h (fun xv s₁ h₁ => ?_) fun _ _ e => e)
  obtain ⟨y, t, news, rfl, hh, F, N, ha, hsz, R⟩ := h₁
  refine wpAny_pyIter_ascii ha ?_
  have up : ∀ b o, s₁.heap.get? b = some o → (s₁.heap.push { cls := .type "str_ascii_iterator", data := .fields #[.str y t, .int 0 0] }).get? b = some o := fun b o e => Heap.get?_push_of_some _ e
  refine LCg.block_U (Walks.strAscii hh s₁.heap.objs.size y t) hsz (fun i h st => by obtain ⟨o, e, _⟩ := st; exact ⟨o, e⟩)
    (fun i h h' o nw st e e' _ _ _ => by obtain ⟨o', e1, r⟩ := st; rw [e] at e1; cases e1; exact ⟨o, e', r⟩) hcell hkind hx ⟨_, Heap.get?_push_size _ rfl, rfl, rfl⟩ (fun b hb => ?_)
    (F.keeps up) (N.grown up) (Nat.ne_of_lt F.ns.lt) (next_is_new F) (fun p hp => Nat.ne_of_lt (Heap.lt_size (N p hp).1)) trivial (R _ ⟨_, rfl⟩) ?_
  · rw [List.mem_singleton.mp hb]
    show s₁.heap.objs.size < (s₁.heap.push _).objs.size
    rw [Heap.size_push]; exact Nat.lt_succ_self _
  · intro D C h tk m' ys news' F' N' o1 hn hC₀ hD₀ hCL hDL hCD offC fin
    refine ⟨m', hn, fun h'' hs'' => fin D h'' tk (F'.change hs'' hCL hC₀) (fun p hp => ?_) o1⟩
    refine ⟨hs''.extBut _ _ ?_ (N' p hp).1, (N' p hp).2⟩
    rcases List.mem_cons.mp hp with rfl | hp
    · exact Ne.symm hCD
    · exact offC p hp

theorem comp_tupleA {y : Str} {px py : Pos} {pos spos : Pos} {Q : Flow → Shared → Prop} (F₀ : Fr h₀ L s.heap m) (hLe : env.locals = L)
    (hsw : swapsWith (.ListComp elt [⟨.Name x px, iter, [], 0⟩] scope pos) (some (.Name y py)) spos.line env = pure true)
    (hclos : closureFor scope env = pure cl) (hcell : ∀ z ∈ scope.names, z.2 ≠ .cell) (hkind : scope.kind = .function)
    (hnames : ∀ z ∈ scope.names, z.2 = .local → scope.names.lookup z.1 = some .local) (hx : scope.names.lookup x = some .local)
    (hy : env.kindOf y = some .local) (hp : (env.scope.kind == .class || (env.scope.kind == .module && env.locals != env.globals)) = false)
    (h : wpAny (model prog w) A (eval iter env) (SrcU prog w A h₀ L m env elt x scope cl (fun s₂ => LCg.FinA h₀ L m s₂ y Q)) E s)
    (hs : ∀ x, foldedSetIterable iter env x = pure x := by intro _; rfl) :
    wpAny (model prog w) A (exec (.Assign [.Name y py] (.ListComp elt [⟨.Name x px, iter, [], 0⟩] scope pos) spos) env) Q E s := by
  subst hLe
  rw [exec_Assign_Name_used _ _ _ _ hsw]
  refine wpAny_bind (wpAny_standAt (wpAny_bind ?_))
  show wpAny _ A (do let _ ← comprehension (.ListComp elt [⟨.Name x px, iter, [], 0⟩] scope pos) scope env _ (newList []) false (eval iter env) (some (assign (.Name y py) env))) _ _ s
  refine wpAny_bind (wpAny_mono (wpAny_comprehension_free (use := some (assign (.Name y py) env)) (Q := fun _ s' => Q .next s') rfl hs hclos hkind hnames
    (wpAny_mono h (fun xv s₁ h₁ => ?_) fun _ _ e => e)) (fun _ s' hq => wpAny_pure (wpAny_pure hq)) fun _ _ e => e)
  obtain ⟨ax, its, news, rfl, hh, F, N, S, hsz, R⟩ := h₁
  have hl : s₁.heap.IsTuple ax its := S.at fun o e => F.keep _ o e
  have hlt : ax < s₁.heap.objs.size := by obtain ⟨_, e, _⟩ := hl; exact Heap.lt_size e
  refine wpAny_pyIter_tuple hl ?_
  have up : ∀ b o, s₁.heap.get? b = some o → (s₁.heap.push { cls := .type "tuple_iterator", data := .fields #[.ref ax, .int 0 0] }).get? b = some o := fun b o e => Heap.get?_push_of_some _ e
  refine LCg.block_U (Walks.tuple hh s₁.heap.objs.size ax (Nat.ne_of_lt hlt) its) hsz (fun i h st => by obtain ⟨o, e, _⟩ := st.1; exact ⟨o, e⟩)
    (fun i h h' o nw st e e' hk _ _ => ⟨by obtain ⟨o', e1, r⟩ := st.1; rw [e] at e1; cases e1; exact ⟨o, e', r⟩, S.at fun o e => hk _ o e⟩) hcell hkind hx ⟨⟨_, Heap.get?_push_size _ rfl, rfl, rfl⟩, hl.at fun o e => up _ o e⟩ (fun b hb => ?_)
    (F.keeps up) (N.grown up) (Nat.ne_of_lt F.ns.lt) (next_is_new F) (fun p hp => Nat.ne_of_lt (Heap.lt_size (N p hp).1)) trivial (R _ ⟨_, rfl⟩) ?_
  · show b < (s₁.heap.push _).objs.size
    rw [Heap.size_push]
    rcases List.mem_cons.mp hb with rfl | hb
    · exact Nat.lt_succ_self _
    · rw [List.mem_singleton.mp hb]; exact Nat.lt_succ_of_lt hlt
  · intro D C h' tk m' ys news' F' N' o1 hn hC₀ hD₀ hCL hDL hCD offC fin
    show wpAny _ A (assign (.Name y py) env (.ref D)) _ _ _
    refine wpAny_assign_Name (wpAny_storeName_local hy F'.ns (fun h₂ hn₂ hs₂ => ?_) hp)
    have hL₀ : h₀.get? env.locals = none := Heap.get?_none_of_le F'.above
    have F₂ : Fr h₀ env.locals h₂ (fun z => if z = y then some (.ref D) else m z) := ⟨hn₂, fun b o e => hs₂.extBut b o (fun q => by rw [q, hL₀] at e; cases e) (F'.keep b o e), F'.above⟩
    refine ⟨m', hn.sameBut hs₂ hCL, fun h'' hs'' => fin D h'' _ (F₂.change hs'' hCL hC₀) (fun p hp => ?_) o1⟩
    have z : h₂.get? p.1 = some p.2 := hs₂.extBut _ _ (N' p hp).2.1 (N' p hp).1
    refine ⟨hs''.extBut _ _ ?_ z, (N' p hp).2⟩
    rcases List.mem_cons.mp hp with rfl | hp
    · exact Ne.symm hCD
    · exact offC p hp
end
end
end Mine
namespace Mine
section
open PySem PySem.W PyProof.Rows PySem.Spec PySem.Calls
noncomputable section

/-- a number's text, filled up with noughts -/
def pad (n k : Int) : Str := Txt.mul (Str.ofString "0") (k - ((Str.ofString (toString n)).length : Int)) ++ Str.ofString (toString n)
def figP (a : Str) : Bool := if (!decide (a.cps.toList < (Str.ofString "0").cps.toList)) = true then !!decide ((Str.ofString "9").cps.toList < a.cps.toList) else !false
/-- is it a text of figures -/
def isFig (x : Str) : Bool := (x != Str.ofString "") && (List.filter figP (signs x)).isEmpty
def lowC (n : Int) : Int := if 65 ≤ n ∧ n ≤ 90 then n + 32 else n
def low1 (c : Nat) : Nat := if 65 ≤ c ∧ c ≤ 90 then c + 32 else c
def lowS (x : Str) : Str := ⟨x.cps.map low1⟩

theorem sign_items (y : Str) : ∀ i v, i < y.cps.size → SignAt y i v → ∃ k t, y.cps.toList[i]? = some k ∧ v = .str ⟨#[k]⟩ t := by
  rintro i v hi ⟨c, u, hc, rfl⟩
  exact ⟨c, u, by rw [Array.getElem?_toList]; exact hc, rfl⟩
theorem ascii_mem {x : Str} (ha : x.cps.all (· < 128) = true) {k : Nat} (h : k ∈ x.cps.toList) : k < 128 := by
  have := (Array.all_eq_true_iff_forall_mem.mp ha) k (by simpa using h)
  simpa using this
theorem lowC_lo (k : Nat) : 0 ≤ lowC (k : Int) := by unfold lowC; split <;> omega
theorem lowC_hi {k : Nat} (h : k < 128) : lowC (k : Int) ≤ 1114111 := by unfold lowC; split <;> omega
theorem lowC_nat (k : Nat) : (lowC (k : Int)).toNat = low1 k := by unfold lowC low1; (repeat' split) <;> omega
theorem join_low (x : Str) : Txt.join (Str.ofString "") (List.map (fun c => (⟨#[low1 c]⟩ : Str)) x.cps.toList) = lowS x := by
  show Builtin.Str.glued _ _ = _
  rw [StrLaws.glued_eq_join, show Str.ofString "" = ⟨#[]⟩ from by decide +kernel]
  have h := join_nil_signs (lowS x)
  rw [← h]
  congr 1
  unfold signs lowS
  rw [Array.toList_map, List.map_map]
  rfl
theorem join_len (l : List Nat) : ((List.map (fun c => (⟨#[low1 c]⟩ : Str)) l).map (·.length)).sum = l.length := by
  induction l with
  | nil => rfl
  | cons a r ih => rw [List.map_cons, List.map_cons, List.sum_cons, ih, List.length_cons]; show 1 + _ = _; omega
theorem can_strs : ∀ ws : List Str, (∀ w ∈ ws, PyData.strOk w = true) → PyData.canLayAll0 (ws.map PyData.str) = true
  | [], _ => rfl
  | w :: r, h => by simp [PyData.canLayAll0, PyData.canLay0, can_strs r (fun u hu => h u (.tail _ hu)), h w (.head _)]
theorem depth_strs : ∀ ws : List Str, PyData.depthAll (ws.map PyData.str) = 0
  | [] => rfl
  | _ :: r => by simp [PyData.depthAll, PyData.depth, depth_strs r]
theorem shaped_strs {ws : List Str} (h : ∀ w ∈ ws, PyData.strOk w = true) : SeqAt.shaped (.list (ws.map PyData.str)) = true := by
  simp [SeqAt.shaped, PyData.canLay0, PyData.depth, can_strs ws h, depth_strs]
theorem sign_ok {x : Str} (ha : x.cps.all (· < 128) = true) {p : Str → Bool} : ∀ w ∈ List.filter p (signs x), PyData.strOk w = true := by
  intro w hw
  obtain ⟨hw, _⟩ := List.mem_filter.mp hw
  obtain ⟨c, hc, rfl⟩ := List.mem_map.mp hw
  have := ascii_mem ha hc
  simp [PyData.strOk]; omega
theorem eqv_nil (ws : List Str) : PyData.eqv (.list (ws.map PyData.str)) (.list []) = ws.isEmpty := by
  cases ws <;> simp [PyData.eqv, PyData.eqvAll]
section
theorem words12 : True := by
  k_with_none
  (k_with "eval Call Name" => ((with_reducible show wpAny _ _ (eval (Expr.Call (Expr.Name _ _) _ _ _) _) _ _ _); refine Call_ ?_))
  (k_with "compareOp Eq ref ref" => (k_here; k_dflt (refine eq_dataH (reads_list_at (News.get (by k_asm) (by k_mem)) rfl rfl (CarriedAll.readsAll _ (by with_reducible assumption))) (reads_list_at (News.get (by k_asm) (by k_mem)) rfl rfl ReadsAll.nil) (shaped_strs (sign_ok (by assumption))) (by rfl) (by ktr_units) ?_); rw [eqv_nil]))
  trivial
theorem con_padded {w : World} {mean : ExcName → Option Value} {mg mb : Str → Option Value} (n k : Int) (t t' : Tok) (news : Led) (h0 : 0 ≤ n) (h1 : n ≤ 9999) (h2 : 0 ≤ k) (h3 : k ≤ 4) :
    Con w mean mg mb 194 [.int n t, .int k t'] 1 news (RS news (pad n k)) := by
  unfold Con
  k_fill
  intro dp un gd cn cs a ccd cl outer A₀ base h₀ L m s Q E B F X N T hk hd hu hret
  refine wpAny_call ?_
  k_dflt (refine' code_def (binds := [(Str.ofString "number", .int n t), (Str.ofString "width", .int k t')]) ?k1 ?k2 ?k3 ?k4 ?k5 ?kA ?kF ?kK ?k6 ?k7 ?k8 ?k9 ?kB ?_ ?c2 ?c3 ?c4 ?c5; (case kA => exact rfl); (case kF => exact rfl); (case kK => assumption); (case k1 => k_asm); (case k2 => k_asm); (case k3 => k_asm); (case k4 => k_asm); (case k5 => k_asm); (case k6 => k_is); (case k7 => k_is); (case k8 => ktr_room); (case k9 => exact BindsTo.of_eq rfl); (case c5 => decide); (case kB => exact locs rfl); (case c2 => exact rfl); (case c3 => exact rfl); (case c4 => exact rfl); k_whole)
  intro g' L' h' FG' F' N' B' X' T'
  dsimp only [List.reverse, List.reverseAux] at F' ⊢
  try k_lift B'
  try k_fold
  k_steps
  all_goals (refine rs_end hret (by k_asm) (by k_asm) ?_; rfl)

theorem con_lower_code {w : World} {mean : ExcName → Option Value} {mg mb : Str → Option Value} (n : Int) (t : Tok) (news : Led) (h0 : 0 ≤ n) (h1 : n ≤ 1114111) :
    Con w mean mg mb 61 [.int n t] 1 news (RI news (lowC n)) := by
  unfold Con
  k_fill
  intro dp un gd cn cs a ccd cl outer A₀ base h₀ L m s Q E B F X N T hk hd hu hret
  refine wpAny_call ?_
  k_dflt (refine' code_def (binds := [(Str.ofString "code", .int n t)]) ?k1 ?k2 ?k3 ?k4 ?k5 ?kA ?kF ?kK ?k6 ?k7 ?k8 ?k9 ?kB ?_ ?c2 ?c3 ?c4 ?c5; (case kA => exact rfl); (case kF => exact rfl); (case kK => assumption); (case k1 => k_asm); (case k2 => k_asm); (case k3 => k_asm); (case k4 => k_asm); (case k5 => k_asm); (case k6 => k_is); (case k7 => k_is); (case k8 => ktr_room); (case k9 => exact BindsTo.of_eq rfl); (case c5 => decide); (case kB => exact locs rfl); (case c2 => exact rfl); (case c3 => exact rfl); (case c4 => exact rfl); k_whole)
  intro g' L' h' FG' F' N' B' X' T'
  dsimp only [List.reverse, List.reverseAux] at F' ⊢
  try k_lift B'
  try k_fold
  k_steps
  all_goals (refine ri_end hret (by k_asm) (by k_asm) ?_; unfold lowC; clear hret; (repeat' split) <;> omega)

theorem con_is_figures {w : World} {mean : ExcName → Option Value} {mg mb : Str → Option Value} (x : Str) (t : Tok) (news : Led) (ha : x.cps.all (· < 128) = true) (hx : x.cps.size ≤ 100) :
    Con w mean mg mb 211 [.str x t] 20 news (RB news (isFig x)) := by
  unfold Con
  k_fill
  intro dp un gd cn cs a ccd cl outer A₀ base h₀ L m s Q E B F X N T hk hd hu hret
  refine wpAny_call ?_
  k_dflt (refine' code_def (binds := [(Str.ofString "text", .str x t)]) ?k1 ?k2 ?k3 ?k4 ?k5 ?kA ?kF ?kK ?k6 ?k7 ?k8 ?k9 ?kB ?_ ?c2 ?c3 ?c4 ?c5; (case kA => exact rfl); (case kF => exact rfl); (case kK => assumption); (case k1 => k_asm); (case k2 => k_asm); (case k3 => k_asm); (case k4 => k_asm); (case k5 => k_asm); (case k6 => k_is); (case k7 => k_is); (case k8 => ktr_room); (case k9 => exact BindsTo.of_eq rfl); (case c5 => decide); (case kB => exact locs rfl); (case c2 => exact rfl); (case c3 => exact rfl); (case c4 => exact rfl); k_whole)
  intro g' L' h' FG' F' N' B' X' T'
  dsimp only [List.reverse, List.reverseAux] at F' ⊢
  try k_lift B'
  try k_fold
  k_steps
  all_goals (refine rb_end hret (by k_asm) (cb_drop (by k_asm) (by kcj_all)) ?_; unfold isFig; first | (rw [show (x != Str.ofString "") = true by assumption, Bool.true_and]; rfl) | (rw [show (x != Str.ofString "") = false by assumption]; rfl))

theorem words13 : True := by
  (k_with "call ref" => (k_here; k_dflt (refine con_use (by k_asm) (by k_asm) (by k_asm) (by k_asm) (by k_asm) (by first | exact rfl | assumption) (con_lower_code _ _ _ (by omega) (by omega)) (by ktr_room) (by ktr_units) ?_); intro t9 h9 tk9 F9 N9; (try dsimp only); (try k_fold)))
  (k_with "CompEnd" => (refine LCg.CompEnd.intro (by assumption) (by assumption) _ (by kcf_all) (by first | assumption | (simp only [LCg.Off3, and_true]; assumption)) trivial (kct_el rfl rfl rfl)))
  (k_with "call builtin:chr" => (refine chr_of_range (lowC_lo _) (lowC_hi (by assumption)) ?_; rw [lowC_nat]))
  (k_with "call builtin:str.join" => (k_here; (with_reducible show wpAny _ _ (call (Value.builtin _) [Value.str _ _, Value.ref _]) _ _ _); k_dflt (refine join_listW (by is_list) (by assumption) (by decide +kernel) (by (rw [join_len, List.length_map, Array.length_toList]; omega)) ?_); intro _ _))
  (k_with "eval ListComp" => (k_here; k_dflt (refine comp_text (F₀ := by k_asm) (by with_unfolding_all rfl) (by decide) (by rfl) (by decide) (by rfl) ?_)))
  (k_with "SrcT" => (k_here; k_dflt (refine SrcT.intro (by rfl) (by k_asm) (by k_asm) (by assumption) (by (rw [sizeLine_eq]; omega)) ?_; intro g'; (refine' rest_strs (ks := (Str.cps _).toList) (fun c => ⟨#[c]⟩) (fun c => ⟨#[low1 c]⟩) (by simp) (sign_items _) (fun k' t' I' oI' C' oC' D' m' ys' h' tk' E' hk' hC' hx' F' N' off' ne' hMark' => ?_) ?_); (all_goals (try (simp only [LCg.Off3, and_true] at off'))); (all_goals (try (have hk9 := ascii_mem (by assumption) hk'))))))
  trivial
theorem con_lower_text {w : World} {mean : ExcName → Option Value} {mg mb : Str → Option Value} (x : Str) (t : Tok) (news : Led) (ha : x.cps.all (· < 128) = true) (hx : x.cps.size ≤ 100) :
    Con w mean mg mb 66 [.str x t] 2 news (RS news (lowS x)) := by
  unfold Con
  k_fill
  intro dp un gd cn cs a ccd cl outer A₀ base h₀ L m s Q E B F X N T hk hd hu hret
  refine wpAny_call ?_
  k_dflt (refine' code_def (binds := [(Str.ofString "text", .str x t)]) ?k1 ?k2 ?k3 ?k4 ?k5 ?kA ?kF ?kK ?k6 ?k7 ?k8 ?k9 ?kB ?_ ?c2 ?c3 ?c4 ?c5; (case kA => exact rfl); (case kF => exact rfl); (case kK => assumption); (case k1 => k_asm); (case k2 => k_asm); (case k3 => k_asm); (case k4 => k_asm); (case k5 => k_asm); (case k6 => k_is); (case k7 => k_is); (case k8 => ktr_room); (case k9 => exact BindsTo.of_eq rfl); (case c5 => decide); (case kB => exact locs rfl); (case c2 => exact rfl); (case c3 => exact rfl); (case c4 => exact rfl); k_whole)
  intro g' L' h' FG' F' N' B' X' T'
  dsimp only [List.reverse, List.reverseAux] at F' ⊢
  try k_lift B'
  try k_fold
  k_steps
  all_goals (refine rs_end hret (by k_asm) (cb_drop (by k_asm) (by kcj_all)) ?_; exact join_low x)

theorem words14 : True := by
  k_with_none
  trivial
end

end
end
end Mine
namespace Mine
section
open PySem PySem.W PyProof.Rows PySem.Spec PySem.Calls
noncomputable section

def monthsL : List (Str × Str) := [(Str.ofString "Jan", Str.ofString "jan"), (Str.ofString "Feb", Str.ofString "feb"), (Str.ofString "Mar", Str.ofString "mar"), (Str.ofString "Apr", Str.ofString "apr"), (Str.ofString "May", Str.ofString "may"), (Str.ofString "Jun", Str.ofString "jun"), (Str.ofString "Jul", Str.ofString "jul"), (Str.ofString "Aug", Str.ofString "aug"), (Str.ofString "Sep", Str.ofString "sep"), (Str.ofString "Oct", Str.ofString "oct"), (Str.ofString "Nov", Str.ofString "nov"), (Str.ofString "Dec", Str.ofString "dec")]
def lowMonths : List Str := [Str.ofString "jan", Str.ofString "feb", Str.ofString "mar", Str.ofString "apr", Str.ofString "may", Str.ofString "jun", Str.ofString "jul", Str.ofString "aug", Str.ofString "sep", Str.ofString "oct", Str.ofString "nov", Str.ofString "dec"]

theorem months_low : ∀ k ∈ monthsL, lowS k.1 = k.2 := by decide +kernel
theorem months_ok : ∀ k ∈ monthsL, k.1.cps.all (· < 128) = true ∧ k.1.cps.size ≤ 100 := by decide +kernel
theorem months_are : StrsAre [.str (Str.ofString "Jan") 262, .str (Str.ofString "Feb") 263, .str (Str.ofString "Mar") 264, .str (Str.ofString "Apr") 265, .str (Str.ofString "May") 266, .str (Str.ofString "Jun") 267, .str (Str.ofString "Jul") 268, .str (Str.ofString "Aug") 269, .str (Str.ofString "Sep") 270, .str (Str.ofString "Oct") 271, .str (Str.ofString "Nov") 272, .str (Str.ofString "Dec") 273] (monthsL.map (·.1)) := by
  unfold monthsL
  simp only [List.map_cons, List.map_nil]
  repeat (first | exact .nil | refine .cons _ _ ?_)
theorem months_items : ∀ i v, i < 12 → ([.str (Str.ofString "Jan") 262, .str (Str.ofString "Feb") 263, .str (Str.ofString "Mar") 264, .str (Str.ofString "Apr") 265, .str (Str.ofString "May") 266, .str (Str.ofString "Jun") 267, .str (Str.ofString "Jul") 268, .str (Str.ofString "Aug") 269, .str (Str.ofString "Sep") 270, .str (Str.ofString "Oct") 271, .str (Str.ofString "Nov") 272, .str (Str.ofString "Dec") 273] : List Value).toArray[i]? = some v → ∃ k t, monthsL[i]? = some k ∧ v = .str k.1 t := by
  intro i v hi hv
  obtain ⟨y, t, h2, h1⟩ := StrsAre.item months_are i v (by simpa using hv)
  rw [List.getElem?_map] at h1
  cases hq : monthsL[i]? with
  | none => rw [hq] at h1; cases h1
  | some k => rw [hq] at h1; cases h1; exact ⟨k, t, rfl, h2⟩

theorem isStrOf_at (k : Str) : ∀ {vs : List Value} {ys : List Str}, StrsAre vs ys → ∀ (j : Nat) (h1 : j < vs.length) (h2 : j < ys.length), isStrOf k vs[j] = (ys[j] == k)
  | _, _, .nil, _, h1, _ => absurd h1 (Nat.not_lt_zero _)
  | _, _, .cons n u h, 0, _, _ => rfl
  | _, _, .cons n u h, j + 1, h1, h2 => isStrOf_at k h j (Nat.lt_of_succ_lt_succ h1) (Nat.lt_of_succ_lt_succ h2)
theorem index_list_strs {prog : Program} {w : World} {A : Around} {E : Value → Shared → Prop} {s : Shared} {l : Addr} {vs : List Value} {ys : List Str} {k : Str} {t : Tok} {Q : Value → Shared → Prop} (hl : s.heap.IsList l vs.toArray) (hi : StrsAre vs ys)
    (hk : ys.any (· == k) = true) (hsz : ys.length ≤ 1000) (h : Q (.int (ys.findIdx (· == k) : Nat) s.toks) { s with toks := s.toks + 1 }) :
    wpAny (model prog w) A (call (.builtin "list.index") [.ref l, .str k t]) Q E s := by
  obtain ⟨⟨cls, dd, data, sl⟩, ho, hc, n, hd⟩ := id hl
  simp only at hc hd
  subst hc hd
  have hlen := StrsAre.length hi
  have hj : ys.findIdx (· == k) < ys.length := by
    obtain ⟨y, hy, e⟩ := List.any_eq_true.mp hk
    exact List.findIdx_lt_length_of_exists ⟨y, hy, e⟩
  refine call_meets PySem.F.slot_list_index ⟨_, ho, rfl⟩ PySem.F.entry_list_index (PySem.F.args_list_index_2 _ _)
    (SeqAt.list_indexAt l vs.toArray n dd sl (.str k t) (isStrOf k) (ys.findIdx (· == k)) (by simpa [hlen] using hj) (by omega) ?_ ?_) ⟨ho, fun y hy => (eq_isStrOf k t hi y (by simpa using hy)).at _ _, h⟩
  · show isStrOf k vs[ys.findIdx (· == k)] = true
    rw [isStrOf_at k hi _ (by omega) hj]
    exact List.findIdx_getElem (w := hj)
  · intro j hjs hlt
    show isStrOf k vs[j] = false
    rw [isStrOf_at k hi j (by simpa using hjs) (by omega)]
    have := List.not_of_lt_findIdx hlt
    simpa using this
/-- a month's number by its name, 0 where there is none -/
def monthNo (x : Str) : Int := if (List.map (fun c => c.snd) monthsL).any (fun y => y == lowS x) = true then (((List.map (fun c => c.snd) monthsL).findIdx (fun y => y == lowS x) : Nat) : Int) + 1 else 0
section
theorem words15 : True := by
  k_with_none
  (k_with "eval Call Name" => ((with_reducible show wpAny _ _ (eval (Expr.Call (Expr.Name _ _) _ _ _) _) _ _ _); refine Call_ ?_))
  (k_with "call builtin:list.index" => (k_here; (with_reducible show wpAny _ _ (call (Value.builtin _) [Value.ref _, Value.str _ _]) _ _ _); k_dflt (refine index_list_strs (by is_list) (by assumption) (by assumption) (by rw [List.length_map]; decide) ?_)))
  (k_with "exec Assign cons ListComp" => (k_here; k_dflt (refine comp_tupleA (F₀ := by k_asm) (by rfl) (by with_unfolding_all rfl) (by with_unfolding_all rfl) (by decide) (by rfl) (by decide) (by rfl) (by rfl) (by rfl) ?_)))
  (k_with "SrcU" => (k_here; k_dflt (refine SrcU.intro (by rfl) (by k_asm) (by k_asm) (tupK (by k_asm) (by k_is)) (by decide) ?_; intro g'; (refine' rest_strs (ks := monthsL) (fun c => c.1) (fun c => c.2) (by rfl) months_items (fun k' t' I' oI' C' oC' D' m' ys' h' tk' E' hk' hC' hx' F' N' off' ne' hMark' => ?_) ?_); (all_goals (try (simp only [LCg.Off3, and_true] at off'))); (all_goals (try (have hk9 := months_ok _ hk'; have hk8 := months_low _ hk'))))))
  (k_with "CompEnd" => (refine LCg.CompEnd.intro (by assumption) (by assumption) _ (by kcf_all) (by first | assumption | (simp only [LCg.Off3, and_true]; assumption)) trivial (kct_el (Eq.symm (by assumption)) rfl rfl)))
  (k_with "call ref" => (k_here; k_dflt (refine con_use (by k_asm) (by k_asm) (by k_asm) (by k_asm) (by k_asm) (by first | exact rfl | assumption) (con_lower_text _ _ _ (by first | assumption | exact And.left (by assumption)) (by first | assumption | exact And.right (by assumption))) (by ktr_room) (by ktr_units) ?_); intro t9 h9 tk9 F9 N9; (try dsimp only); (try k_fold)))
  trivial
theorem con_month_number {w : World} {mean : ExcName → Option Value} {mg mb : Str → Option Value} (x : Str) (t : Tok) (news : Led) (ha : x.cps.all (· < 128) = true) (hx : x.cps.size ≤ 100) :
    Con w mean mg mb 187 [.str x t] 30 news (RI news (monthNo x)) := by
  unfold Con
  k_fill
  intro dp un gd cn cs a ccd cl outer A₀ base h₀ L m s Q E B F X N T hk hd hu hret
  refine wpAny_call ?_
  k_dflt (refine' code_def (binds := [(Str.ofString "text", .str x t)]) ?k1 ?k2 ?k3 ?k4 ?k5 ?kA ?kF ?kK ?k6 ?k7 ?k8 ?k9 ?kB ?_ ?c2 ?c3 ?c4 ?c5; (case kA => exact rfl); (case kF => exact rfl); (case kK => assumption); (case k1 => k_asm); (case k2 => k_asm); (case k3 => k_asm); (case k4 => k_asm); (case k5 => k_asm); (case k6 => k_is); (case k7 => k_is); (case k8 => ktr_room); (case k9 => exact BindsTo.of_eq rfl); (case c5 => decide); (case kB => exact locs rfl); (case c2 => exact rfl); (case c3 => exact rfl); (case c4 => exact rfl); k_whole)
  intro g' L' h' FG' F' N' B' X' T'
  dsimp only [List.reverse, List.reverseAux] at F' ⊢
  try k_lift B'
  try k_fold
  k_steps
  all_goals (refine ri_end hret (by k_asm) (cb_drop (by k_asm) (by kcj_all)) ?_; unfold monthNo; first | rw [if_pos (by assumption)] | (rw [if_neg (by simp only [Bool.not_eq_true]; assumption)]))

theorem words16 : True := by
  k_with_none
  trivial
end

end
end
end Mine
namespace Mine
section
open PySem PySem.W PyProof.Rows PySem.Spec PySem.Calls
noncomputable section

/-! texts: plain laws -/
theorem dig (d : Nat) (h : d < 10) : (Nat.digitChar d).toNat = 48 + d := by
  revert d; decide
theorem num_list (m : Nat) : (Str.ofString (toString ((m : Nat) : Int))).cps.toList = (Nat.toDigits 10 m).map Char.toNat := KIN.signs_num m
theorem digs1 {n : Nat} (h : n < 10) : (Nat.toDigits 10 n).map Char.toNat = [48 + n] := by
  rw [Nat.toDigits_of_lt_base h, List.map_cons, List.map_nil, dig _ h]
theorem digs_s {n : Nat} (h : 10 ≤ n) : (Nat.toDigits 10 n).map Char.toNat = (Nat.toDigits 10 (n / 10)).map Char.toNat ++ [48 + n % 10] := by
  rw [Nat.toDigits_of_base_le (by decide) h, List.map_append, List.map_cons, List.map_nil, dig _ (Nat.mod_lt _ (by decide))]
theorem digs2 {n : Nat} (h : 10 ≤ n) (h' : n < 100) : (Nat.toDigits 10 n).map Char.toNat = [48 + n / 10, 48 + n % 10] := by
  rw [digs_s h, digs1 (by omega)]; rfl
theorem digs3 {n : Nat} (h : 100 ≤ n) (h' : n < 1000) : (Nat.toDigits 10 n).map Char.toNat = [48 + n / 100, 48 + n / 10 % 10, 48 + n % 10] := by
  rw [digs_s (by omega), digs2 (by omega) (by omega), Nat.div_div_eq_div_mul]; rfl
theorem digs4 {n : Nat} (h : 1000 ≤ n) (h' : n < 10000) : (Nat.toDigits 10 n).map Char.toNat = [48 + n / 1000, 48 + n / 100 % 10, 48 + n / 10 % 10, 48 + n % 10] := by
  rw [digs_s (by omega), digs3 (by omega) (by omega), Nat.div_div_eq_div_mul, Nat.div_div_eq_div_mul]; rfl
def year4 (n : Nat) : List Nat := [48 + n / 1000, 48 + n / 100 % 10, 48 + n / 10 % 10, 48 + n % 10]
theorem mul0 (k : Nat) : (Txt.mul (Str.ofString "0") (k : Int)).cps.toList = List.replicate k 48 := by
  have e : Str.ofString "0" = ⟨#[48]⟩ := by decide +kernel
  rw [e]
  unfold Txt.mul
  match k with
  | 0 => rfl
  | 1 => rfl
  | k + 2 =>
    rw [if_neg (by omega), if_neg (by simp [Str.length]; omega)]
    have e2 : ((k + 2 : Nat) : Int).toNat = k + 2 := by omega
    rw [e2]
    have : ∀ (j : Nat) (acc : Array Nat), (((List.replicate j (#[48] : Array Nat)).foldl (· ++ ·) acc)).toList = acc.toList ++ List.replicate j 48 := by
      intro j
      induction j with
      | zero => intro acc; simp
      | succ j ih => intro acc; rw [List.replicate_succ, List.foldl_cons, ih, Array.toList_append, List.replicate_succ, List.append_assoc]; rfl
    rw [this]; rfl
theorem str_len (x : Str) : x.length = x.cps.toList.length := by simp [Str.length]
theorem app_list (x y : Str) : (x ++ y).cps.toList = x.cps.toList ++ y.cps.toList := by rw [PySem.Str.cps_append, Array.toList_append]
theorem pad4 {y : Int} (h1 : 1 ≤ y) (h2 : y ≤ 9999) : (pad y 4).cps.toList = year4 y.toNat := by
  obtain ⟨n, rfl⟩ : ∃ n : Nat, y = (n : Int) := ⟨y.toNat, by omega⟩
  unfold pad year4
  rw [app_list, num_list, str_len, num_list, Int.toNat_natCast]
  have cons4 : ∀ {a b c d a' b' c' d' : Nat}, a = a' → b = b' → c = c' → d = d' → [a, b, c, d] = [a', b', c', d'] := by
    rintro _ _ _ _ _ _ _ _ rfl rfl rfl rfl; rfl
  by_cases c1 : n < 10
  · rw [digs1 c1]
    show (Txt.mul (Str.ofString "0") ((3 : Nat) : Int)).cps.toList ++ _ = _
    rw [mul0]
    exact cons4 (by omega) (by omega) (by omega) (by omega)
  by_cases c2 : n < 100
  · rw [digs2 (by omega) c2]
    show (Txt.mul (Str.ofString "0") ((2 : Nat) : Int)).cps.toList ++ _ = _
    rw [mul0]
    exact cons4 (by omega) (by omega) (by omega) (by omega)
  by_cases c3 : n < 1000
  · rw [digs3 (by omega) c3]
    show (Txt.mul (Str.ofString "0") ((1 : Nat) : Int)).cps.toList ++ _ = _
    rw [mul0]
    exact cons4 (by omega) (by omega) (by omega) (by omega)
  · rw [digs4 (by omega) (by omega)]
    show (Txt.mul (Str.ofString "0") ((0 : Nat) : Int)).cps.toList ++ _ = _
    rw [mul0]; rfl
theorem day_list {d : Int} (h1 : 0 ≤ d) (h2 : d ≤ 99) : (Str.ofString (toString d)).cps.toList = if d < 10 then [48 + d.toNat] else [48 + d.toNat / 10, 48 + d.toNat % 10] := by
  obtain ⟨n, rfl⟩ : ∃ n : Nat, d = (n : Int) := ⟨d.toNat, by omega⟩
  rw [num_list, Int.toNat_natCast]
  by_cases c1 : n < 10
  · rw [digs1 c1, if_pos (by omega)]
  · rw [digs2 (by omega) (by omega), if_neg (by omega)]
theorem free_cut {a : Nat} : ∀ {x y r r' : List Nat}, a ∉ x → a ∉ y → x ++ a :: r = y ++ a :: r' → x = y ∧ r = r'
  | [], [], _, _, _, _, h => ⟨rfl, by simpa using h⟩
  | [], b :: y, _, _, _, hy, h => by
    simp only [List.nil_append, List.cons_append, List.cons.injEq] at h
    exact absurd (h.1 ▸ List.mem_cons_self) hy
  | b :: x, [], _, _, hx, _, h => by
    simp only [List.nil_append, List.cons_append, List.cons.injEq] at h
    exact absurd (h.1 ▸ List.mem_cons_self) hx
  | b :: x, c :: y, _, _, hx, hy, h => by
    simp only [List.cons_append, List.cons.injEq] at h
    obtain ⟨rfl, h⟩ := h
    obtain ⟨rfl, e⟩ := free_cut (fun m => hx (List.mem_cons_of_mem _ m)) (fun m => hy (List.mem_cons_of_mem _ m)) h
    exact ⟨rfl, e⟩
theorem str_ext {x y : Str} (h : x.cps.toList = y.cps.toList) : x = y := PySem.Str.ext' (Array.toList_inj.mp h)
def dash : Str := Str.ofString "-"
theorem dash_is : dash = ⟨#[45]⟩ := by decide +kernel
theorem join_cons2 (x y : Str) (r : List Str) : (Str.join ⟨#[45]⟩ (x :: y :: r)).cps.toList = x.cps.toList ++ 45 :: (Str.join ⟨#[45]⟩ (y :: r)).cps.toList := by
  show (x ++ ⟨#[45]⟩ ++ Str.join ⟨#[45]⟩ (y :: r)).cps.toList = _
  rw [app_list, app_list, List.append_assoc]; rfl
theorem join_inj : ∀ (p q : List Str), p ≠ [] → q ≠ [] → (∀ x ∈ p, 45 ∉ x.cps.toList) → (∀ x ∈ q, 45 ∉ x.cps.toList) → Str.join ⟨#[45]⟩ p = Str.join ⟨#[45]⟩ q → p = q
  | [], _, h, _, _, _, _ => absurd rfl h
  | _, [], _, h, _, _, _ => absurd rfl h
  | [x], [y], _, _, _, _, e => by rw [show x = y from e]
  | [x], y :: z :: r, _, _, hp, _, e => by
    have e' := congrArg (fun s : Str => s.cps.toList) e
    rw [join_cons2] at e'
    exact absurd (show 45 ∈ x.cps.toList by show 45 ∈ (Str.join ⟨#[45]⟩ [x]).cps.toList; rw [e']; simp) (hp x (.head _))
  | x :: z :: r, [y], _, _, _, hq, e => by
    have e' := congrArg (fun s : Str => s.cps.toList) e
    rw [join_cons2] at e'
    exact absurd (show 45 ∈ y.cps.toList by show 45 ∈ (Str.join ⟨#[45]⟩ [y]).cps.toList; rw [← e']; simp) (hq y (.head _))
  | x :: z :: r, y :: w :: t, _, _, hp, hq, e => by
    have e' := congrArg (fun s : Str => s.cps.toList) e
    rw [join_cons2, join_cons2] at e'
    obtain ⟨h1, h2⟩ := free_cut (hp x (.head _)) (hq y (.head _)) e'
    have e2 := join_inj (z :: r) (w :: t) (by simp) (by simp) (fun u hu => hp u (.tail _ hu)) (fun u hu => hq u (.tail _ hu)) (str_ext h2)
    rw [str_ext h1, e2]
theorem split3 {a b c : Str} (ha : 45 ∉ a.cps.toList) (hb : 45 ∉ b.cps.toList) (hc : 45 ∉ c.cps.toList) : Txt.split (a ++ dash ++ b ++ dash ++ c) dash = [a, b, c] := by
  rw [dash_is]
  refine join_inj _ _ (fun h => ?_) (by simp) (StrLaws.split_free _ 45) (fun x hx => ?_) ?_
  · have := split_pos (a ++ ⟨#[45]⟩ ++ b ++ ⟨#[45]⟩ ++ c) ⟨#[45]⟩
    rw [h] at this; exact absurd this (by decide)
  · simp only [List.mem_cons, List.not_mem_nil, or_false] at hx
    rcases hx with rfl | rfl | rfl <;> assumption
  · rw [StrLaws.join_split]
    show _ = a ++ ⟨#[45]⟩ ++ (b ++ ⟨#[45]⟩ ++ c)
    simp only [PySem.Str.append_assoc]
theorem ascii_of {x : Str} (h : ∀ c ∈ x.cps.toList, c < 128) : x.cps.all (· < 128) = true := by
  rw [Array.all_eq_true_iff_forall_mem]
  intro c hc
  simpa using h c (by simpa using hc)
theorem isFig_of {x : Str} (hne : x.cps.toList ≠ []) (h : ∀ c ∈ x.cps.toList, 48 ≤ c ∧ c ≤ 57) : isFig x = true := by
  unfold isFig
  have e0 : (Str.ofString "0").cps.toList = [48] := by decide +kernel
  have e9 : (Str.ofString "9").cps.toList = [57] := by decide +kernel
  rw [Bool.and_eq_true]
  refine ⟨?_, ?_⟩
  · rw [bne_iff_ne]
    intro e
    rw [e] at hne
    exact hne (by decide +kernel)
  · rw [List.isEmpty_iff, List.filter_eq_nil_iff]
    intro y hy
    obtain ⟨c, hc, rfl⟩ := List.mem_map.mp hy
    have := h c hc
    unfold figP
    rw [e0, e9]
    simp only [StrLaws.lt_cons_cons, StrLaws.lt_nil_nil, Bool.and_false, Bool.or_false]
    have h1 : decide (c < 48) = false := by simp; omega
    have h2 : decide (57 < c) = false := by simp; omega
    simp [h1, h2]
end
end
end Mine
namespace Mine
section
open PySem PySem.W PyProof.Rows PySem.Spec PySem.Calls
noncomputable section

/-- the month's name in the program's table -/
def monS (m : Int) : Str := ([Str.ofString "Jan", Str.ofString "Feb", Str.ofString "Mar", Str.ofString "Apr", Str.ofString "May", Str.ofString "Jun", Str.ofString "Jul", Str.ofString "Aug", Str.ofString "Sep", Str.ofString "Oct", Str.ofString "Nov", Str.ofString "Dec"] : List Str).getD (m - 1).toNat (Str.ofString "")
theorem mon_item {m : Int} (h1 : 1 ≤ m) (h2 : m ≤ 12) : ∃ tk, ([.str (Str.ofString "Jan") 262, .str (Str.ofString "Feb") 263, .str (Str.ofString "Mar") 264, .str (Str.ofString "Apr") 265, .str (Str.ofString "May") 266, .str (Str.ofString "Jun") 267, .str (Str.ofString "Jul") 268, .str (Str.ofString "Aug") 269, .str (Str.ofString "Sep") 270, .str (Str.ofString "Oct") 271, .str (Str.ofString "Nov") 272, .str (Str.ofString "Dec") 273] : List Value)[(m - 1).toNat]? = some (.str (monS m) tk) := by
  rcases months h1 h2 with h | h | h | h | h | h | h | h | h | h | h | h <;> subst h <;> exact ⟨_, rfl⟩
theorem mon_facts {m : Int} (h1 : 1 ≤ m) (h2 : m ≤ 12) : (monS m).length = 3 ∧ (monS m).cps.all (· < 128) = true ∧ 45 ∉ (monS m).cps.toList ∧ monthNo (monS m) = m := by
  rcases months h1 h2 with h | h | h | h | h | h | h | h | h | h | h | h <;> subst h <;> decide +kernel
theorem pad_len {y : Int} (h1 : 1 ≤ y) (h2 : y ≤ 9999) : (pad y 4).length = 4 := by
  rw [str_len, pad4 h1 h2]; rfl
/-- a day as the program writes it -/
def dayT (y m d : Int) : Str := Str.ofString (toString d) ++ dash ++ monS m ++ dash ++ pad y 4
section
theorem words17 : True := by
  k_with_none
  (k_with "eval Call Name" => ((with_reducible show wpAny _ _ (eval (Expr.Call (Expr.Name _ _) _ _ _) _) _ _ _); refine Call_ ?_))
  (k_with "subscriptTail Name" => (k_here; (with_reducible show wpAny _ _ (subscriptTail _ _ (Value.ref _) (Value.int _ _)) _ _ _); k_dflt (refine topTup_K (by k_asm) (by k_asm) (by k_is) (by omega) (by omega) (by exact wtab_at (by omega) (by omega)) (by assumption) ?_; k_whole)))
  (k_with "call ref" => (k_here; k_dflt (refine con_use (by k_asm) (by k_asm) (by k_asm) (by k_asm) (by k_asm) (by first | exact rfl | assumption) (con_padded _ _ _ _ _ (by omega) (by omega) (by decide) (by decide)) (by ktr_room) (by ktr_units) ?_); intro t9 h9 tk9 F9 N9; (try dsimp only); (try k_fold)))
  trivial
theorem con_day_text {w : World} {mean : ExcName → Option Value} {mg mb : Str → Option Value} (y m' d : Int) (t t' t2 : Tok) (news : Led) (hy : 1 ≤ y) (hy' : y ≤ 9999) (hm : 1 ≤ m') (hm' : m' ≤ 12) (h1 : 1 ≤ d) (h2 : d ≤ 31) :
    Con w mean mg mb 223 [.int y t, .int m' t', .int d t2] 2 news (RS news (dayT y m' d)) := by
  unfold Con
  k_fill
  intro dp un gd cn cs a ccd cl outer A₀ base h₀ L m s Q E B F X N T hk hd hu hret
  refine wpAny_call ?_
  k_dflt (refine' code_def (binds := [(Str.ofString "year", .int y t), (Str.ofString "month", .int m' t'), (Str.ofString "day", .int d t2)]) ?k1 ?k2 ?k3 ?k4 ?k5 ?kA ?kF ?kK ?k6 ?k7 ?k8 ?k9 ?kB ?_ ?c2 ?c3 ?c4 ?c5; (case kA => exact rfl); (case kF => exact rfl); (case kK => assumption); (case k1 => k_asm); (case k2 => k_asm); (case k3 => k_asm); (case k4 => k_asm); (case k5 => k_asm); (case k6 => k_is); (case k7 => k_is); (case k8 => ktr_room); (case k9 => exact BindsTo.of_eq rfl); (case c5 => decide); (case kB => exact locs rfl); (case c2 => exact rfl); (case c3 => exact rfl); (case c4 => exact rfl); k_whole)
  intro g' L' h' FG' F' N' B' X' T'
  dsimp only [List.reverse, List.reverseAux] at F' ⊢
  try k_lift B'
  try k_fold
  obtain ⟨tk0, hx⟩ := mon_item hm hm'
  have hl3 := (mon_facts hm hm').1
  have hl4 := pad_len hy hy'
  k_steps
  all_goals (refine rs_end hret (by k_asm) (by k_asm) ?_; rfl)

theorem words18 : True := by
  k_with_none
  trivial
end

end
end
end Mine
namespace Mine
section
open PySem PySem.W PyProof.Rows PySem.Spec PySem.Calls
noncomputable section

theorem slice_all (x : Str) : Txt.slice x (some 0) (some (x.length : Int)) = x := by
  have h := PySem.StrLaws.sliceText_nat x (Nat.zero_le x.length) (Nat.le_refl _)
  refine Eq.trans ?_ (h.trans ?_)
  · rfl
  · refine str_ext ?_
    show List.take (x.length - 0) (List.drop 0 x.cps.toList) = _
    rw [List.drop_zero, Nat.sub_zero, str_len, List.take_length]
theorem split3_N {prog : Program} {w : World} {A : Around} {E : Value → Shared → Prop} {s : Shared} {h₀ : Heap} {L : Addr} {m : Str → Option Value} {news : Led} {x y p0 p1 p2 : Str} {t u : Tok} {Q : Value → Shared → Prop} (hF : Fr h₀ L s.heap m) (hN : News h₀ L s.heap news) (hy : (y.length == 0) = false)
    (e3 : Txt.split x y = [p0, p1, p2])
    (h : ∀ (D : Nat) t0 t1 t2 h' k, Fr h₀ L h' m → News h₀ L h' ((D, listOf #[.str p0 t0, .str p1 t1, .str p2 t2] 0) :: news) → (∀ p ∈ news, p.1 < D) → Q (.ref D) { s with heap := h', toks := k }) (hsz : x.length + 2 ≤ sizeLine) :
    wpAny (model prog w) A (call (.builtin "str.split") [.str x t, .str y u]) Q E s :=
  KSpl.split1 hF hN hy (fun D l h' k e S F N lt => by
    rw [e3] at e
    obtain ⟨t0, l1, rfl, e1⟩ := KSpl.cons_of e
    obtain ⟨t1, l2, rfl, e2⟩ := KSpl.cons_of e1
    obtain ⟨t2, l3, rfl, e3'⟩ := KSpl.cons_of e2
    obtain rfl := KSpl.nil_of e3'
    exact h D t0 t1 t2 h' k F N lt) hsz
theorem item_listT {prog : Program} {w : World} {A : Around} {E : Value → Shared → Prop} {s : Shared} {value slice : PySem.Expr} {l : Addr} {vs : List Value} {k : Int} {u : Tok} {v : Value} {Q : Value → Shared → Prop}
    (hl : s.heap.IsList l vs.toArray) (h0 : 0 ≤ k) (hhi : k < 2 ^ 63) (hx : vs[k.toNat]? = some v) (h : Q v s)
    (hs : subscripted slice false (.ref l) (.int k u) = operate [.ref l, .int k u] (getItem (.ref l) (.int k u)) := by with_unfolding_all rfl) :
    wpAny (model prog w) A (subscriptTail value slice (.ref l) (.int k u)) Q E s :=
  tail_any hl.typeIs slot_list_getitem.lookup (wpAny_getItem_list hl h0 hhi (by simpa using hx) h) hs
section
theorem words19 : True := by
  k_with_none
  (k_with "eval Call Name" => ((with_reducible show wpAny _ _ (eval (Expr.Call (Expr.Name _ _) _ _ _) _) _ _ _); refine Call_ ?_))
  (k_with "subscriptTail Name Constant ref int" => (k_here; k_dflt (first | (refine item_tupleT (by exact News.isTup (by k_asm) (by k_mem)) (by decide) (by decide) (by rfl) (by rfl) ?_; k_whole) | (refine item_listT (by exact News.isList (by k_asm) (by k_mem)) (by decide) (by decide) (by rfl) ?_; k_whole))))
  (k_with "exec Raise some none" => (exfalso; first | omega | (simp_all; done)))
  (k_with "call ref" => (k_here; k_dflt (refine con_use (by k_asm) (by k_asm) (by k_asm) (by k_asm) (by k_asm) (by first | exact rfl | assumption) (con_is_day _ _ _ _ _ _ _) (by ktr_room) (by ktr_units) ?_); intro h9 tk9 F9 N9; (try dsimp only); (try k_fold)))
  (k_with "call ref" => (k_here; k_dflt (refine con_use (by k_asm) (by k_asm) (by k_asm) (by k_asm) (by k_asm) (by first | exact rfl | assumption) (con_day_text _ _ _ _ _ _ _ (by omega) (by omega) (by omega) (by omega) (by omega) (by omega)) (by ktr_room) (by ktr_units) ?_); intro t9 h9 tk9 F9 N9; (try dsimp only); (try k_fold)))
  trivial

theorem con_write_day {w : World} {mean : ExcName → Option Value} {mg mb : Str → Option Value} (y m' d : Int) (x : Nat) (t t' t2 : Tok) (news : Led) (hday : isDay y m' d = true) :
    Con w mean mg mb 244 [.ref x] 6 ((x, tup [.int y t, .int m' t', .int d t2]) :: news) (RS ((x, tup [.int y t, .int m' t', .int d t2]) :: news) (dayT y m' d)) := by
  unfold Con
  k_fill
  intro dp un gd cn cs a ccd cl outer A₀ base h₀ L m s Q E B F X N T hk hd hu hret
  refine wpAny_call ?_
  k_dflt (refine' code_def (binds := [(Str.ofString "day", .ref x)]) ?k1 ?k2 ?k3 ?k4 ?k5 ?kA ?kF ?kK ?k6 ?k7 ?k8 ?k9 ?kB ?_ ?c2 ?c3 ?c4 ?c5; (case kA => exact rfl); (case kF => exact rfl); (case kK => assumption); (case k1 => k_asm); (case k2 => k_asm); (case k3 => k_asm); (case k4 => k_asm); (case k5 => k_asm); (case k6 => k_is); (case k7 => k_is); (case k8 => ktr_room); (case k9 => exact BindsTo.of_eq rfl); (case c5 => decide); (case kB => exact locs rfl); (case c2 => exact rfl); (case c3 => exact rfl); (case c4 => exact rfl); k_whole)
  intro g' L' h' FG' F' N' B' X' T'
  dsimp only [List.reverse, List.reverseAux] at F' ⊢
  try k_lift B'
  try k_fold
  have hday' := hday
  unfold isDay at hday'
  simp only [decide_eq_true_eq] at hday'
  have hb := @mlen_bounds y m'
  k_steps
  all_goals (refine rs_end hret (by k_asm) (by k_asm) ?_; rfl)
theorem words20 : True := by
  (k_with "call builtin:str.split" => (k_here; k_dflt (refine split3_N (by k_asm) (by k_asm) (by decide +kernel) (by assumption) ?_ (by (rw [sizeLine_eq]; omega)); k_whole); intro D' u0 u1 u2 h' k' F' N' l1; (try k_lt l1); (try k_sweep)))
  (k_with "call ref" => (k_here; k_dflt (refine con_use (by k_asm) (by k_asm) (by k_asm) (by k_asm) (by k_asm) (by first | exact rfl | assumption) (con_is_figures _ _ _ (by assumption) (by assumption)) (by ktr_room) (by ktr_units) ?_); intro h9 tk9 F9 N9; (try dsimp only); (try k_fold)))
  (k_with "call ref" => (k_here; k_dflt (refine con_use (by k_asm) (by k_asm) (by k_asm) (by k_asm) (by k_asm) (by first | exact rfl | assumption) (con_month_number _ _ _ (by assumption) (by assumption)) (by ktr_room) (by ktr_units) ?_); intro t9 h9 tk9 F9 N9; (try dsimp only); (try k_fold)))
  trivial
theorem con_day_in {w : World} {mean : ExcName → Option Value} {mg mb : Str → Option Value} (x p0 p1 p2 : Str) (y d : Int) (t t' t2 : Tok) (news : Led) (hx : x.length ≤ 100) (hs : Txt.split x dash = [p0, p1, p2]) (a0 : p0.cps.all (· < 128) = true) (a1 : p1.cps.all (· < 128) = true) (a2 : p2.cps.all (· < 128) = true) (b0 : p0.cps.size ≤ 100) (b1 : p1.cps.size ≤ 100) (b2 : p2.cps.size ≤ 100) (f0 : isFig p0 = true) (f2 : isFig p2 = true) (c0 : p0.length ≤ 2) (c2 : p2.length = 4) (i0 : PySem.intText? p0 = some d) (i2 : PySem.intText? p2 = some y)  (hday : isDay y (monthNo p1) d = true) :
    Con w mean mg mb 230 [.str x t, .int 0 t', .int x.length t2] 40 news (RT3 news y (monthNo p1) d) := by
  unfold Con
  k_fill
  intro dp un gd cn cs a ccd cl outer A₀ base h₀ L m s Q E B F X N T hk hd hu hret
  refine wpAny_call ?_
  k_dflt (refine' code_def (binds := [(Str.ofString "text", .str x t), (Str.ofString "at", .int 0 t'), (Str.ofString "end", .int x.length t2)]) ?k1 ?k2 ?k3 ?k4 ?k5 ?kA ?kF ?kK ?k6 ?k7 ?k8 ?k9 ?kB ?_ ?c2 ?c3 ?c4 ?c5; (case kA => exact rfl); (case kF => exact rfl); (case kK => assumption); (case k1 => k_asm); (case k2 => k_asm); (case k3 => k_asm); (case k4 => k_asm); (case k5 => k_asm); (case k6 => k_is); (case k7 => k_is); (case k8 => ktr_room); (case k9 => exact BindsTo.of_eq rfl); (case c5 => decide); (case kB => exact locs rfl); (case c2 => exact rfl); (case c3 => exact rfl); (case c4 => exact rfl); k_whole)
  intro g' L' h' FG' F' N' B' X' T'
  dsimp only [List.reverse, List.reverseAux] at F' ⊢
  try k_lift B'
  try k_fold
  have hs' := hs
  rw [← slice_all x] at hs'
  clear hs
  have c2' : (p2.length : Int) = 4 := by omega
  k_steps
  all_goals exact hret _ _ _ _ _ _ (by k_asm) (cb_drop (by k_asm) (by kcj_all)) (by first | assumption | exact tb_ltOf (And.right (by assumption)) | exact tb_ltOf (And.right (And.right (by assumption))))

theorem words21 : True := by
  k_with_none
  trivial
end

end
end
end Mine
namespace Mine
section
open PySem PySem.W PyProof.Rows PySem.Spec PySem.Calls Builtin Builtin.ObjectAttr
noncomputable section
abbrev excO (C : Addr) (dd : Option Addr) (t : Addr) : Obj := { cls := .ref C, dict := dd, data := .fields #[.ref t, .none, .none, .none, .bool false, .none] }
section
variable {prog : Program} {w : World} {A : Around} {E : Value → Shared → Prop} {h : Heap} {g : Array GenState} {d : Drawn} {t : Nat} {os : OsState}
variable {nm q : Str} {C N : Addr} {bs bm bmB : List Value} {hdct : Bool} {sn : List Str} {sub : List Value} {ab : Bool} {col : Option Bool} {dd : Option Addr} {k0 k1 k2 k3 k5 : Option Value} {B newId initId : String}

theorem ex_new (F : ExcBaseFacts B newId initId bmB) {rest : List Value} {R : Result → Shared → Prop} (hC : h.get? C = some (excClassObj nm q C N bs bm hdct sn sub ab col dd k0 k1 k2 k3 k5 newId))
    (hcB : (Value.ref C :: bm).contains (.type B) = true) (hcA : (Value.ref C :: bm).contains (.type "AttributeError") = false) (hcN : (Value.ref C :: bm).contains (.type "NameError") = false)
    (hq : R (.ok (.ret (.ref (h.objs.size + 1)))) ⟨(h.push (tup rest)).push (excO C none h.objs.size), g, d, t, os⟩) (hrest : rest.length ≤ sizeLine) :
    codeAny (model prog w) A (.builtin newId ⟨.ref C :: rest, []⟩) R ⟨h, g, d, t, os⟩ := by
  have hends := F.ends
  refine codeAny_builtinAt F.entry ?_
  unfold Builtin.«BaseException.__new__»
  refine PySem.wpAt_bind ?_
  show PySem.wpAt _ _ _ (stack >>= _) _ _ _
  refine PySem.wpAt_bind (PySem.wpAt_stack fun p below => PySem.wpAt_of_wpAny ?_)
  wp_walk
  refine PySem.wpAt_of_wpAny ?_
  rw [F.owner]
  repeat (first | with_reducible refine wpAny_madeHere_exc F.canon hC ?_ | with_reducible refine wpAny_loadPart_at hC ?_ | (with_reducible refine wpAny_isSubtype_exc hC ?_; first | rw [hcB] | rw [hcA] | rw [hcN]) | wp_step)
  show R _ _
  rw [Heap.size_push]
  exact hq

theorem ex_check_new (F : ExcBaseFacts B newId initId bmB) {M : Model} {rest : List Value} {Q : Unit → Shared → Prop} (hC : h.get? C = some (excClassObj nm q C N bs bm hdct sn sub ab col dd k0 k1 k2 k3 k5 newId))
    (hcB : (Value.ref C :: bm).contains (.type B) = true)
    (hq : Q () ⟨h, g, d, t, os⟩) : wpAny M A (checkBuiltinCall newId ⟨.ref C :: rest, []⟩) Q E ⟨h, g, d, t, os⟩ := by
  have hstar := F.noStar
  simp only [checkBuiltinCall, F.newKind, F.newSplit, F.newRow]
  repeat (first | refine wpAny_loadPart_at hC ?_ | (refine wpAny_isSubtype_exc hC ?_; rw [hcB]) | refine wpAny_staticBase_exc hC ?_ | refine wpAny_madeBy_exc hC ?_ | simp only [bne_self_eq_false, Bool.false_eq_true, if_false] | wp_step)
  exact hq

theorem ex_call (F : ExcBaseFacts B newId initId bmB) {rest : List Value} {fI : Addr} {R : Result → Shared → Prop}
    (hC : h.get? C = some (excClassObj nm q C N bs bm hdct sn sub ab col dd k0 k1 k2 k3 k5 newId))
    (hcB : (Value.ref C :: bm).contains (.type B) = true) (hcA : (Value.ref C :: bm).contains (.type "AttributeError") = false) (hcN : (Value.ref C :: bm).contains (.type "NameError") = false)
    (hi : ∀ h', (∀ b o, h.get? b = some o → h'.get? b = some o) → Looks (model prog w) h' (typeLookup (.ref C) "__init__") (some (.ref fI)))
    (hb : ∀ h', (∀ b o, h.get? b = some o → h'.get? b = some o) → ∀ self, Looks (model prog w) h' (bindSpecial (.ref fI) self) (.ref fI, [self]))
    (hq : codeAny (model prog w) (A.under (.builtin "type.__call__" ⟨.ref C :: rest, []⟩)) (.call (.ref fI) ⟨.ref (h.objs.size + 1) :: rest, []⟩) (InitBack (h.objs.size + 1) R) ⟨(h.push (tup rest)).push (excO C none h.objs.size), g, d, t, os⟩)
    (hrest : rest.length ≤ sizeLine) :
    codeAny (model prog w) A (.call (.ref C) ⟨rest, []⟩) R ⟨h, g, d, t, os⟩ := by
  have f1 := tc_lookup
  have f2 := tc_bind (.ref C)
  have hT : (⟨h, g, d, t, os⟩ : Shared).TypeIs (.ref C) "type" := ⟨_, hC, rfl⟩
  refine codeAny_of_tree ?_
  show wpAny _ _ (callAny (.ref C) _) _ _ _
  repeat (any_goals (first | assumption | with_reducible refine wpAny_loadPart_at hC ?_ | wp_step))
  refine ⟨rfl, ?_⟩
  refine codeAny_call_builtin_at (Code.quiet_builtin _ (by decide +kernel)) entry_typeCall (wpAny_check_type_call_sub hC ?_)
  repeat (first | with_reducible refine wpAny_loadPart_at hC ?_ | with_reducible refine wpAny_madeBy_exc hC ?_ | wp_step)
  refine codeAny_call_builtin_code (Code.quiet_builtin _ F.quiet) (ex_check_new F hC hcB ?_)
  refine ex_new F hC hcB hcA hcN ?_ hrest
  show wpAny _ _ _ _ _ _
  have kp : ∀ b o, h.get? b = some o → ((h.push (tup rest)).push (excO C none h.objs.size)).get? b = some o := fun b o e => Heap.get?_push_of_some _ (Heap.get?_push_of_some _ e)
  have hC₁ := kp _ _ hC
  have hget : ((h.push (tup rest)).push (excO C none h.objs.size)).get? (h.objs.size + 1) = some (excO C none h.objs.size) := by heap_get
  have hcC : (Value.ref C :: bm).contains (.ref C) = true := by simp
  unfold isInstance
  repeat (first | with_reducible refine wpAny_loadPart_at hget ?_ | (with_reducible refine wpAny_isSubtype_exc hC₁ ?_; rw [hcC]) | wp_step)
  show wpAny _ _ (isSubtype (.ref C) (.ref C)) _ _ _
  refine wpAny_isSubtype_exc hC₁ ?_
  rw [hcC]
  have t1 : Looks (model prog w) ((h.push (tup rest)).push (excO C none h.objs.size)) (typeOf (.ref (h.objs.size + 1))) (.ref C) := (Looks.ld hget).andThen .now
  unfold callSpecial? specialOf
  refine wpAny_bind (wpAny_holding (wpAny_bind (wpAny_bind (t1.here ((hi _ kp).here ?_)))))
  refine wpAny_holding (wpAny_bind ((hb _ kp _).here ?_))
  refine wpAny_bind (wpAny_call (codeAny_mono hq fun r s' z => ?_))
  rcases r with e | (v | _ | _ | _) <;> first | exact z | exact z.elim | skip
  obtain ⟨rfl, z⟩ := z
  exact wpAny_pure (wpAny_pure z)
end

section
variable {prog : Program} {w : World} {A : Around} {E : Value → Shared → Prop} {s : Shared} {h₀ : Heap} {L : Addr} {m : Str → Option Value} {news : Led} {K : Frag} {C e t0 : Addr} {dd : Option Addr} {B newId initId : String} {bmB ws : List Value}

theorem ex_sub (X : K.In s.heap) {cd : ClassData} (hc : clsIn K C = some cd) (hne : cd.mro.isEmpty = false) {b : Value} (hb : cd.mro.contains b = true) (he : s.heap.get? e = some (excO C dd t0)) :
    Looks (model prog w) s.heap (isInstance (.ref e) b) true :=
  ((Looks.ld he).andThen .now).andThen (looks_mroIn X (by unfold mroIn; rw [hc, Option.bind_some, if_neg (by rw [hne]; decide), hb]))

theorem ex_check_init (F : ExcCallFacts B newId initId) {M : Model} {h : Heap} {g : Array GenState} {d : Drawn} {t : Nat} {os : OsState} {nm q : Str} {N : Addr} {bs bm : List Value} {hdct : Bool} {sn : List Str} {sub : List Value} {ab : Bool} {col : Option Bool} {dc : Option Addr} {k0 k1 k2 k3 k5 : Option Value} {nId : String} {rest : List Value} {Q : Unit → Shared → Prop}
    (hC : h.get? C = some (excClassObj nm q C N bs bm hdct sn sub ab col dc k0 k1 k2 k3 k5 nId)) (hcB : (Value.ref C :: bm).contains (.type B) = true) (he : h.get? e = some (excO C dd t0)) (hq : Q () ⟨h, g, d, t, os⟩) :
    wpAny M A (checkBuiltinCall initId ⟨.ref e :: rest, []⟩) Q E ⟨h, g, d, t, os⟩ := by
  have hshort := F.noStar
  have hcls : (excO C dd t0).cls = .ref C := rfl
  simp only [checkBuiltinCall, F.initKind, F.initSplit, F.initRow]
  repeat (first | (with_reducible refine wpAny_loadPart_at he ?_; rw [hcls]) | with_reducible refine wpAny_loadPart_at hC ?_ | (with_reducible refine wpAny_isSubtype_exc hC ?_; rw [hcB]) | wp_step)
  refine wpAny_onRaise ?_
  rw [show ∀ (a b : String) (n : Nat), Bind.check ⟨.positional, "*", B, .self, [⟨"args", .varPos, false⟩]⟩ a b n (List.map (fun x => x.fst) ({ pos := Value.ref e :: rest } : Args).kw) = pure () from
    fun a b n => check_star_args _ _ _ _ _ _]
  exact wpAny_pure hq

theorem ex_init (F : ExcCallFacts B newId initId) {nm q : Str} {Nn : Addr} {bs bm : List Value} {hdct : Bool} {sn : List Str} {sub : List Value} {ab : Bool} {col : Option Bool} {dc : Option Addr} {k0 k1 k2 k3 k5 : Option Value} {nId : String} (Fr₀ : Fr h₀ L s.heap m) (X : K.In h₀) (hC : K.lookup C = some (excClassObj nm q C Nn bs bm hdct sn sub ab col dc k0 k1 k2 k3 k5 nId)) (hcB : (Value.ref C :: bm).contains (.type B) = true)
    (N : News h₀ L s.heap ((e, excO C dd t0) :: (t0, tup ws) :: news)) (hap : ∀ p ∈ news, p.1 ≠ e) {rest : List Value} {Q : Value → Shared → Prop}
    (h : ∀ h' t1, Fr h₀ L h' m → News h₀ L h' ((e, excO C dd t1) :: news) → Q .none { s with heap := h' }) (hrest : rest.length ≤ sizeLine) :
    wpAny (model prog w) A (call (.builtin initId) (.ref e :: rest)) Q E s := by
  have he := (N _ (.head _)).1
  have ht := (N _ (.tail _ (.head _))).1
  have hC' := (X.keeps Fr₀.keep) _ _ hC
  obtain ⟨hp, g, d, tk, os'⟩ := s
  refine wpAny_call (codeAny_call_builtin F.init.plain F.initEntry (ex_check_init F hC' hcB he ?_))
  wp_walk
  have N1 : News h₀ L (hp.push (tup rest)) ([] ++ (e, excO C dd t0) :: news) := fun p hp' => by
    have := N p (by rcases List.mem_cons.mp hp' with rfl | q; exact .head _; exact .tail _ (.tail _ q))
    exact ⟨Heap.get?_push_of_some _ this.1, this.2⟩
  obtain ⟨U1, U2⟩ := news_upd (o' := excO C dd hp.objs.size) (f := Obj.mapFields fun x => x.setIfInBounds 0 (Value.ref hp.objs.size)) (Fr₀.push (tup rest)) N1 (fun _ q => nomatch q) hap rfl rfl
  exact h _ _ U1 U2

abbrev wfMro (C : Addr) : List Value := [.ref C, .ref 39, .type "Exception", .type "BaseException", .type "object"]
theorem ex_refuse (self : Value) (C : Addr) : refuseLoop self "__setattr__" (wfMro C) = pure () := by
  unfold wfMro
  rw [refuseLoop_ref, refuseLoop_ref]
  with_unfolding_all rfl

theorem ex_osa (X : K.In s.heap) {cd : ClassData} (hc : clsIn K C = some cd) (hm : cd.mro = wfMro C) (he : s.heap.get? e = some (excO C dd t0)) {name : Str} {tk : Tok} {v : Value} {R : Result → Shared → Prop} (ha : findIn K (.ref C) name = some none)
    (h : wpAny (model prog w) A.in1 (storeInOwnDict (.ref e) (.ref C) (.str name tk) name v false) (fun fin s' => match fin with | .done f => R (.ok f) s' | .again c' => c'.quiet = true ∧ codeAny (model prog w) A c' R s') (fun e s' => R (.error e) s') s) :
    codeAny (model prog w) A (.call (.builtin "object.__setattr__") ⟨[.ref e, .str name tk, v], []⟩) R s := by
  have SF := PySem.F.store_object
  have ty : Looks (model prog w) s.heap (typeOf (.ref e)) (.ref C) := (Looks.ld he).andThen .now
  refine codeAny_call_builtin SF.slot.plain SF.entry (@check_slot (model prog w) _ _ s "object.__setattr__" "object" "__setattr__" (.ref e) [.str name tk, v] [] _ SF.kind SF.split (ex_sub X hc (by rw [hm]; rfl) (by rw [hm]; simp [wfMro]) he) (SF.args (.ref e) (.str name tk) v) ?_)
  have hm' : Looks (model prog w) s.heap (mroOf (.ref C)) (wfMro C) := hm ▸ (looks_clsIn X hc).andThen .now
  rw [osa_eq, refuse_eq]
  refine wpAny_bind (wpAny_bind (ty.here (wpAny_bind (hm'.here ?_))))
  rw [ex_refuse]
  refine wpAny_pure (wpAny_bind (ty.here (wpAny_bind ((looks_findIn X ha).here ?_))))
  exact wpAny_bind (wpAny_pure h)

theorem ex_setattr {Q : Unit → Shared → Prop} {name : Str} {v : Value} (X : K.In s.heap) (he : s.heap.get? e = some (excO C dd t0))
    (hs : findIn K (.ref C) "__setattr__" = some (some (.builtin "object.__setattr__")))
    (h : codeAny (model prog w) A (.call (.builtin "object.__setattr__") ⟨[.ref e, .str name s.toks, v], []⟩) (fun r s' => match r with | .ok (.ret _) => Q () s' | .ok _ => False | .error e => E e s') { s with toks := s.toks + 1 }) :
    wpAny (model prog w) A (setAttr (.ref e) name v) Q E s := by
  have ty : Looks (model prog w) s.heap (typeOf (.ref e)) (.ref C) := (Looks.ld he).andThen .now
  refine wpAny_bind (wpAny_mkText (wpAny_bind (wpAny_bind (wpAny_bind (ty _ _ _ _ (fun _ _ e => e) (looks_findIn X hs _ _ _ _ (fun _ _ e => e) (wpAny_holding ?_)))))))
  rw [PySem.F.store_object.slot.bind]
  refine wpAny_bind (wpAny_pure (wpAny_bind (wpAny_call (codeAny_mono h fun r s' z => ?_))))
  rcases r with e | (v | _ | _ | _) <;> first | exact z | exact wpAny_pure (wpAny_pure z)

end
end
end
end Mine
namespace Mine
section
open PySem PySem.W PyProof.Rows PySem.Spec PySem.Calls Builtin Builtin.ObjectAttr
noncomputable section
section
variable {prog : Program} {w : World} {A : Around} {E : Value → Shared → Prop} {s : Shared} {h₀ : Heap} {L : Addr} {m : Str → Option Value} {news : Led} {K : Frag} {C e t0 : Addr} {dd : Option Addr} {B newId initId : String} {bmB ws : List Value}

theorem ex_put {name : Str} {es : List DictEntry} (hl : (getL name es).isSome = true) : (!es.toArray.any (·.key.isStr name) && es.toArray.any (·.refKey)) = false := by
  rw [← Array.any_toList, ← Array.any_toList]
  unfold getL at hl
  split at hl
  · rename_i en he
    rw [List.any_eq_true.mpr ⟨en, List.mem_of_find?_eq_some he, List.find?_some he⟩]; rfl
  · split at hl
    · cases hl
    · rename_i z; rw [Bool.not_eq_true] at z; rw [show (List.any es.toArray.toList fun x => x.refKey) = false from z, Bool.and_false]

theorem ex_store {R : Fin → Shared → Prop} {D : Addr} {pre post : Led} {es es' : List DictEntry} {n n' : Nat} {name : Str} {tk : Tok} {v : Value} (F : Fr h₀ L s.heap m) (N : News h₀ L s.heap (pre ++ (D, dictOf es n) :: post)) (h1 : ∀ p ∈ pre, p.1 ≠ D) (h2 : ∀ p ∈ post, p.1 ≠ D)
    (hl : (getL name es).isSome = true) (e1 : putL name (PyData.keyHash w.params name) (.str name s.toks) v es = es') (e2 : putN name es n = n') (hz : es'.length ≤ 1000)
    (h : ∀ h', Fr h₀ L h' m → News h₀ L h' (pre ++ (D, dictOf es' n') :: post) → R (.done (.ret .none)) { s with heap := h', toks := s.toks + 1 }) :
    wpAny (model prog w) A (storeInDict D (.str name tk) name v) R E s := by
  obtain ⟨U1, U2⟩ := news_upd (f := Obj.putName name (PyData.keyHash w.params name) (.str name s.toks) v) (o' := dictOf es' n') F N h1 h2 (by rw [putName_dict, e1, e2]) rfl
  have D0 := (N (D, dictOf es n) (by simp)).1
  have D1 := (U2 (D, dictOf es' n') (by simp)).1
  refine wpAny_bind (wpAny_pure (wpAny_bind ?_))
  unfold nsSet
  refine wpAny_bind (wpAny_bind (wpAny_askSetting (wpAny_pure (wpAny_bind (wpAny_mkText (wpAny_bind (wpAny_loadPart D0 ?_)))))))
  dsimp only
  rw [aRefKeyMayBeTheName_at, ex_put hl]
  refine wpAny_updatePart D0 ?_
  refine wpAny_bind (wpAny_lookBehind D1 (pastItsLine_dict (by rw [List.size_toArray, sizeLine_eq]; omega)) ?_)
  exact wpAny_pure (h _ U1 U2)

theorem ex_set2 {Q : Unit → Shared → Prop} {D : Addr} {name : Str} {v : Value} {es : List DictEntry} {n : Nat} (F : Fr h₀ L s.heap m) (X₀ : K.In h₀) (N : News h₀ L s.heap ((e, excO C (some D) t0) :: (D, dictOf es n) :: news)) (hap : ∀ p ∈ news, p.1 ≠ D) (hne : e ≠ D)
    {cd : ClassData} (hc : clsIn K C = some cd) (hm : cd.mro = wfMro C) (hd : cd.hasDict = true) (ha : findIn K (.ref C) name = some none) (hs : findIn K (.ref C) "__setattr__" = some (some (.builtin "object.__setattr__")))
    (hl : (getL name es).isSome = true) (hz : es.length ≤ 900)
    (h : ∀ h' es' n' tk, Fr h₀ L h' m → News h₀ L h' ((e, excO C (some D) t0) :: (D, dictOf es' n') :: news) → Q () { s with heap := h', toks := tk }) :
    wpAny (model prog w) A (setAttr (.ref e) name v) Q E s := by
  have X := X₀.keeps F.keep
  have he : s.heap.get? e = some (excO C (some D) t0) := (N _ (.head _)).1
  refine ex_setattr X he hs (ex_osa (s := { s with toks := s.toks + 1 }) X hc hm he ha ?_)
  have hc' := looks_clsIn (M := model prog w) X hc
  refine wpAny_bind (wpAny_pure (wpAny_bind (wpAny_bind (wpAny_loadPart he (wpAny_bind (hc' _ _ _ _ (fun _ _ q => q) ?_))))))
  rw [hd]
  refine wpAny_pure (a := some D) ?_
  refine ex_store (s := { s with toks := s.toks + 1 }) (pre := [(e, excO C (some D) t0)]) F N (fun p hp => by rcases List.mem_cons.mp hp with rfl | q; exact hne; cases q) hap hl rfl rfl ?_ (fun h' F' N' => h h' _ _ _ F' N')
  have : ∀ l : List DictEntry, (putL name (PyData.keyHash w.params name) (.str name (s.toks + 1)) v l).length ≤ l.length + 1 := by
    intro l
    induction l with
    | nil => simp [putL]
    | cons a r ih => unfold putL; split <;> simp <;> omega
  have := this es
  show (putL name (PyData.keyHash w.params name) (.str name (s.toks + 1)) v es).length ≤ 1000
  omega

theorem ex_set1 {Q : Unit → Shared → Prop} {name : Str} {v : Value} (F : Fr h₀ L s.heap m) (X₀ : K.In h₀) (N : News h₀ L s.heap ((e, excO C none t0) :: news)) (hap : ∀ p ∈ news, p.1 ≠ e)
    {cd : ClassData} (hc : clsIn K C = some cd) (hm : cd.mro = wfMro C) (hd : cd.hasDict = true) (ha : findIn K (.ref C) name = some none) (hs : findIn K (.ref C) "__setattr__" = some (some (.builtin "object.__setattr__")))
    (h : ∀ h' (D : Nat) k tk, Fr h₀ L h' m → News h₀ L h' ((e, excO C (some D) t0) :: (D, dictOf [⟨PyData.keyHash w.params name, .str name k, v⟩] 1) :: news) → (∀ p ∈ news, p.1 ≠ D) → e ≠ D → Q () { s with heap := h', toks := tk }) :
    wpAny (model prog w) A (setAttr (.ref e) name v) Q E s := by
  have X := X₀.keeps F.keep
  have he : s.heap.get? e = some (excO C none t0) := (N _ (.head _)).1
  refine ex_setattr X he hs (ex_osa (s := { s with toks := s.toks + 1 }) X hc hm he ha ?_)
  have hc' := looks_clsIn (M := model prog w) X hc
  have hlt := Heap.lt_size he
  have N1 : News h₀ L (s.heap.push emptyDict) ([] ++ (e, excO C none t0) :: (s.heap.objs.size, emptyDict) :: news) := (N.push F emptyDict).perm fun p hp => by
    rcases List.mem_cons.mp hp with rfl | hp
    · exact .tail _ (.head _)
    · rcases List.mem_cons.mp hp with rfl | hp
      · exact .head _
      · exact .tail _ (.tail _ hp)
  have hapD : ∀ p ∈ news, p.1 ≠ s.heap.objs.size := fun p hp => Nat.ne_of_lt (Heap.lt_size (N p (.tail _ hp)).1)
  obtain ⟨U1, U2⟩ := news_upd (o' := excO C (some s.heap.objs.size) t0) (f := fun o => { o with dict := some s.heap.objs.size }) (F.push emptyDict) N1 (fun _ q => nomatch q)
    (fun p hp => by rcases List.mem_cons.mp hp with rfl | q; exact Nat.ne_of_gt hlt; exact hap p q) rfl rfl
  refine wpAny_bind (wpAny_pure (wpAny_bind (wpAny_bind (wpAny_loadPart he (wpAny_bind (hc' _ _ _ _ (fun _ _ q => q) ?_))))))
  rw [hd]
  show wpAny _ _ (do let d ← alloc emptyDict; update e (fun o => { o with dict := some d }); dictMade (.ref C) e d) _ _ _
  refine wpAny_bind (wpAny_alloc (wpAny_bind (wpAny_update (N1 _ (.head _)).1 ?_)))
  refine wpAny_bind (wpAny_pure (wpAny_pure ?_))
  refine ex_store (s := { s with heap := _, toks := s.toks + 1 }) (pre := [(e, excO C (some s.heap.objs.size) t0)]) (es := []) (n := 0) U1 U2 (fun p hp => by rcases List.mem_cons.mp hp with rfl | q; exact Nat.ne_of_lt hlt; cases q) hapD rfl rfl rfl (Nat.le_of_ble_eq_true rfl) (fun h' F' N' => h h' _ _ _ F' N' hapD (Nat.ne_of_lt hlt))
end

section
variable {M : Model} {A : Around} {E : Value → Shared → Prop} {s' : Shared} {base g : Heap} {outer : List Env} {L a e : Addr} {m : Str → Option Value} {name : Str} {scope : Scope} {cd : Value} {Q : Unit → Shared → Prop} {news : Led}
/-- a frame is left with a raised object of any class, made in that frame -/
theorem ex_leave {oe : Obj} {vs : Array Value} {a0 : Value} (K : Below A base outer g) (F : Fr g L s'.heap m) (N : News g L s'.heap ((e, oe) :: news)) (hap : ∀ p ∈ news, p.1 ≠ e) (hd : oe.data = .fields vs) (h0 : vs[0]? = some a0) (h1 : vs[1]? = some .none)
    (hQ : ∀ h', RaisedSN base g outer e oe.cls news h' → g.UpToSlots h' → Q () { s' with heap := h' }) (hk : scope.kind = .function) :
    wpAny M (A.deeper (envOf name scope L a cd)) (leaving (envOf name scope L a cd) (.ref e)) Q E s' := by
  have K' := K.push (name := name) (a := a) (cd := cd) F hk
  have hfr : ∀ b, b ∈ (envOf name scope L a cd :: outer).filterMap (·.frame) → base.get? b = none := fun b hb => (K'.frames.mem hb).1
  have hin : ∀ env ∈ (envOf name scope L a cd :: outer), ∀ b, env.frame = some b → b ∈ e :: (envOf name scope L a cd :: outer).filterMap (·.frame) := fun env he b hb => .tail _ (List.mem_filterMap.mpr ⟨env, he, hb⟩)
  have he := (N _ (.head _)).1
  have hge : g.get? e = none := (N _ (.head _)).2.2
  have hbe : base.get? e = none := fresh_of_stays K.stays hge
  have st : base.StaysIn (hideAll s'.heap (e :: (envOf name scope L a cd :: outer).filterMap (·.frame))) := fun b o q => hideAll_get _ (K'.stays b o q) fun hm => by
    rcases List.mem_cons.mp hm with rfl | hm
    · rw [hbe] at q; cases q
    · rw [hfr b hm] at q; cases q
  have sg : ∀ b o, g.get? b = some o → b ∉ outer.filterMap (·.frame) → (hideAll s'.heap (e :: (envOf name scope L a cd :: outer).filterMap (·.frame))).get? b = some o := fun b o q nm => hideAll_get _ (F.keep b o q) fun hm => by
    rcases List.mem_cons.mp hm with rfl | hm
    · rw [hge] at q; cases q
    · rcases kts_mem hm with z | z
      · rw [z, kts_self F] at q; cases q
      · exact nm z
  have hl : ∀ q ∈ news, (hideAll s'.heap (e :: (envOf name scope L a cd :: outer).filterMap (·.frame))).get? q.1 = some q.2 ∧ g.get? q.1 = none ∧ base.get? q.1 = none := fun q hq => by
    have Nq := N q (.tail _ hq)
    refine ⟨hideAll_get _ Nq.1 fun hm => ?_, Nq.2.2, fresh_of_stays K.stays Nq.2.2⟩
    rcases List.mem_cons.mp hm with z | hm
    · exact hap q hq z
    · rcases kts_mem hm with z | z
      · exact Nq.2.1 z
      · obtain ⟨o, ho, _⟩ := (K.frames.mem z).2
        rw [Nq.2.2] at ho; cases ho
  refine wpAny_leaving_firstW (a0 := a0) K'.stack (funFrames_hide K'.frames hin) rfl he (fun b o hb => of_hideAll _ hb) (hideAll_none _ (.head _)) hd h1 h0 fun h' hL => ?_
  obtain ⟨k1, ⟨_, _, k2⟩, k3, k4⟩ := hL
  exact hQ h' ⟨_, a0, st, sg, hl, k1, hideAll_none _ (.head _), k2, k3⟩ ((Heap.UpToSlots.of_keeps F.keep).trans k4)
end
end
end
end Mine
namespace Mine
section
open PySem PySem.W PyProof.Rows PySem.Spec PySem.Calls
noncomputable section
theorem ex_end {g h : Heap} {L e D : Addr} {o d : Obj} {news : Led} (N : News g L h ((e, o) :: (D, d) :: news)) : News g L h ((e, o) :: news) := N.perm fun p hp => by
  rcases List.mem_cons.mp hp with rfl | q
  · exact .head _
  · exact .tail _ (.tail _ q)
theorem stub_exc : Manifest.isStub "Exception" = false := by decide +kernel
theorem meta_exc : typeOf (.type "Exception") = pure (.type "type") := by unfold typeOf; kernel_rfl
section
local macro_rules | `(tactic| walk_at "getMethod type:Exception") => `(tactic| (k_here; refine' method_type ?F ?X ?m stub_exc ?e ?h ?_; (case F => k_asm); (case X => k_asm); (case m => exact meta_exc); (case e => k_dflt k_is); (case h => k_handed)))
local macro_rules | `(tactic| walk_at "call builtin:Exception.__init__") => `(tactic| (k_here; k_dflt (refine' ex_init PySem.F.excCall_Exception ?k1 ?k2 ?k3 ?k4 ?k5 ?k6 ?_ ?k7; (case k1 => k_asm); (case k2 => k_asm); (case k5 => k_asm); (case k3 => k_is); (case k4 => decide); (case k6 => assumption); (case k7 => size_fits); k_whole); intro h' t1 F' N'; (try k_fold)))
local macro_rules | `(tactic| walk_at "setAttr ref") => `(tactic| (k_here; k_dflt (first | (refine' ex_set1 ?k1 ?k2 ?k3 ?k4 ?k5 ?k6 ?k7 ?k8 ?k9 ?_; (case k1 => k_asm); (case k2 => k_asm); (case k3 => k_asm); (case k4 => assumption); (case k5 => k_is); (case k6 => exact rfl); (case k7 => exact rfl); (case k8 => k_is); (case k9 => k_is); k_whole; intro h' D kk tk F' N' ap1 ne1) | (refine' ex_set2 ?k1 ?k2 ?k3 ?k4 ?k5 ?k6 ?k7 ?k8 ?k9 ?ka ?kb ?kc ?_; (case k1 => k_asm); (case k2 => k_asm); (case k3 => k_asm); (case k4 => assumption); (case k5 => assumption); (case k6 => k_is); (case k7 => exact rfl); (case k8 => exact rfl); (case k9 => k_is); (case ka => k_is); (case kb => exact rfl); (case kc => exact Nat.le_of_ble_eq_true rfl); k_whole; intro h' es' n' tk F' N')); (try k_fold)))
theorem words22 : True := by
  k_with_none
  (k_with "eval Call Name" => ((with_reducible show wpAny _ _ (eval (Expr.Call (Expr.Name _ _) _ _ _) _) _ _ _); refine Call_ ?_))
  trivial
theorem ex_init2 {w : World} {mean : ExcName → Option Value} {mg mb : Str → Option Value} (e t0 : Nat) (x : Str) (t t' : Tok) (a : Int) (os : List Value) (news : Led) (hap : ∀ p ∈ news, p.1 ≠ e) :
    ∀ (dp un : Nat) (gd : Option (List Code)) (cn : Str) (cs : Scope) (a5 : Addr) (ccd : Value) (cl : List (Str × Addr)) (outer : List Env) (A₀ : Around) (base h₀ : Heap) (L : Addr) (m : Str → Option Value) (s : Shared) (R : Result → Shared → Prop),
    Below A₀ base outer h₀ → Fr h₀ L s.heap m → (heapK w.params).In h₀ → News h₀ L s.heap ((e, excO 52 none t0) :: (t0, tup os) :: news) → Top viewK LO mean mg mb h₀ → cs.kind = .function → dp + 3 < recursionLimit →
    (∀ h' tk t1 dd, Fr h₀ L h' m → News h₀ L h' ((e, excO 52 dd t1) :: news) → R (.ok (.ret .none)) { s with heap := h', toks := tk }) →
    codeAny (model PySem.Challenge.rw_no0364_01.row.prog w) (ktrTop dp un gd cn cs L a5 ccd cl outer) (.call (.ref 29) ⟨[.ref e, .str x t, .int a t'], []⟩) R s := by
  k_fill
  intro dp un gd cn cs a5 ccd cl outer A₀ base h₀ L m s R B F X N T hk hd hret
  k_dflt (refine' code_def (binds := [(Str.ofString "self", .ref e), (Str.ofString "what", .str x t), (Str.ofString "at", .int a t')]) ?k1 ?k2 ?k3 ?k4 ?k5 ?kA ?kF ?kK ?k6 ?k7 ?k8 ?k9 ?kB ?_ ?c2 ?c3 ?c4 ?c5; (case kA => exact rfl); (case kF => exact rfl); (case kK => assumption); (case k1 => k_asm); (case k2 => k_asm); (case k3 => k_asm); (case k4 => k_asm); (case k5 => k_asm); (case k6 => k_is); (case k7 => k_is); (case k8 => ktr_room); (case k9 => exact binds_K (by k_in) rfl (by k_is) rfl rfl rfl); (case c5 => decide); (case kB => exact locs rfl); (case c2 => exact rfl); (case c3 => exact rfl); (case c4 => exact rfl); k_whole)
  intro g' L' h' FG' F' N' B' X' T'
  dsimp only [List.reverse, List.reverseAux] at F' ⊢
  try k_lift B'
  try k_fold
  k_steps
  all_goals exact hret _ _ _ _ (by k_asm) (ex_end (by k_asm))
theorem ex_init1 {w : World} {mean : ExcName → Option Value} {mg mb : Str → Option Value} (e t0 : Nat) (x : Str) (t t' : Tok) (a : Int) (os : List Value) (news : Led) (hap : ∀ p ∈ news, p.1 ≠ e) :
    ∀ (dp un : Nat) (gd : Option (List Code)) (cn : Str) (cs : Scope) (a5 : Addr) (ccd : Value) (cl : List (Str × Addr)) (outer : List Env) (A₀ : Around) (base h₀ : Heap) (L : Addr) (m : Str → Option Value) (s : Shared) (R : Result → Shared → Prop),
    Below A₀ base outer h₀ → Fr h₀ L s.heap m → (heapK w.params).In h₀ → News h₀ L s.heap ((e, excO 52 none t0) :: (t0, tup os) :: news) → Top viewK LO mean mg mb h₀ → cs.kind = .function → dp + 3 < recursionLimit →
    (∀ h' tk t1 dd, Fr h₀ L h' m → News h₀ L h' ((e, excO 52 dd t1) :: news) → R (.ok (.ret .none)) { s with heap := h', toks := tk }) →
    codeAny (model PySem.Challenge.rw_no0364_01.row.prog w) (ktrTop dp un gd cn cs L a5 ccd cl outer) (.call (.ref 29) ⟨[.ref e, .str x t], []⟩) R s := by
  k_fill
  intro dp un gd cn cs a5 ccd cl outer A₀ base h₀ L m s R B F X N T hk hd hret
  k_dflt (refine' code_def (binds := [(Str.ofString "self", .ref e), (Str.ofString "what", .str x t), (Str.ofString "at", .int (-1) 202)]) ?k1 ?k2 ?k3 ?k4 ?k5 ?kA ?kF ?kK ?k6 ?k7 ?k8 ?k9 ?kB ?_ ?c2 ?c3 ?c4 ?c5; (case kA => exact rfl); (case kF => exact rfl); (case kK => assumption); (case k1 => k_asm); (case k2 => k_asm); (case k3 => k_asm); (case k4 => k_asm); (case k5 => k_asm); (case k6 => k_is); (case k7 => k_is); (case k8 => ktr_room); (case k9 => exact binds_K (by k_in) rfl (by k_is) rfl rfl rfl); (case c5 => decide); (case kB => exact locs rfl); (case c2 => exact rfl); (case c3 => exact rfl); (case c4 => exact rfl); k_whole)
  intro g' L' h' FG' F' N' B' X' T'
  dsimp only [List.reverse, List.reverseAux] at F' ⊢
  try k_lift B'
  try k_fold
  k_steps
  all_goals exact hret _ _ _ _ (by k_asm) (ex_end (by k_asm))
theorem words23 : True := by
  k_with_none
  trivial
end

end
end
end Mine
namespace Mine
section
open PySem PySem.W PyProof.Rows PySem.Spec PySem.Calls
noncomputable section

theorem wf_weight (C : Addr) (rest : List Value) : Code.weight (.builtin "type.__call__" ⟨.ref C :: rest, []⟩) = 1 := by with_unfolding_all rfl
section
variable {w : World} {mean : ExcName → Option Value} {mg mb : Str → Option Value} {dp un : Nat} {gd : Option (List Code)} {cn : Str} {cs : Scope} {a5 : Addr} {ccd : Value} {cl : List (Str × Addr)} {outer : List Env} {A₀ : Around} {base h₀ : Heap} {L : Addr} {m : Str → Option Value} {s : Shared} {news : Led}

theorem wf_call1 {Q E : Value → Shared → Prop} {x : Str} {t : Tok} (B : Below A₀ base outer h₀) (F : Fr h₀ L s.heap m) (X : (heapK w.params).In h₀) (N : News h₀ L s.heap news) (T : Top viewK LO mean mg mb h₀) (hk : cs.kind = .function) (hdp : dp + 4 < recursionLimit)
    (h : ∀ (e : Nat) dd t1 h' tk, Fr h₀ L h' m → News h₀ L h' ((e, excO 52 dd t1) :: news) → (∀ p ∈ news, p.1 < e) → Q (.ref e) { s with heap := h', toks := tk }) :
    wpAny (model PySem.Challenge.rw_no0364_01.row.prog w) (ktrTop dp un gd cn cs L a5 ccd cl outer) (call (.ref 52) [.str x t]) Q E s := by
  revert X
  k_fill
  intro X
  have hlt : ∀ p ∈ news, p.1 < s.heap.objs.size := fun p hp => Heap.lt_size (N p hp).1
  have N1 := (N.push F (tup [.str x t])).push (F.push _) (excO 52 none s.heap.objs.size)
  rw [Heap.size_push] at N1
  have F1 := (F.push (tup [.str x t])).push (excO 52 none s.heap.objs.size)
  have hC : s.heap.get? 52 = _ := (X.keeps F.keep) 52 _ rfl
  have X' := X.keeps F.keep
  obtain ⟨hp, g, d, tk, os⟩ := s
  refine wpAny_call (ex_call PySem.F.excBase_Exception hC (by decide) (by decide) (by decide) (fun h' k => looks_findIn (X'.keeps k) (by k_is)) (fun h' k self => bind_fn (X'.keeps k) self (by k_is)) ?_ (by size_fits))
  refine ex_init1 (hp.objs.size + 1) hp.objs.size x t t 0 _ news (fun p hp' => Nat.ne_of_lt (Nat.lt_succ_of_lt (hlt p hp'))) _ _ _ _ _ _ _ _ _ _ _ _ _ _ _ _ B F1 X N1 T hk (by rw [wf_weight]; omega) ?_
  intro h' tk t1 dd F' N'
  exact ⟨rfl, h _ _ _ _ _ F' N' (fun p hp' => Nat.lt_succ_of_lt (hlt p hp'))⟩
theorem wf_call2 {Q E : Value → Shared → Prop} {x : Str} {t t' : Tok} {y : Int} (B : Below A₀ base outer h₀) (F : Fr h₀ L s.heap m) (X : (heapK w.params).In h₀) (N : News h₀ L s.heap news) (T : Top viewK LO mean mg mb h₀) (hk : cs.kind = .function) (hdp : dp + 4 < recursionLimit)
    (h : ∀ (e : Nat) dd t1 h' tk, Fr h₀ L h' m → News h₀ L h' ((e, excO 52 dd t1) :: news) → (∀ p ∈ news, p.1 < e) → Q (.ref e) { s with heap := h', toks := tk }) :
    wpAny (model PySem.Challenge.rw_no0364_01.row.prog w) (ktrTop dp un gd cn cs L a5 ccd cl outer) (call (.ref 52) [.str x t, .int y t']) Q E s := by
  revert X
  k_fill
  intro X
  have hlt : ∀ p ∈ news, p.1 < s.heap.objs.size := fun p hp => Heap.lt_size (N p hp).1
  have N1 := (N.push F (tup [.str x t, .int y t'])).push (F.push _) (excO 52 none s.heap.objs.size)
  rw [Heap.size_push] at N1
  have F1 := (F.push (tup [.str x t, .int y t'])).push (excO 52 none s.heap.objs.size)
  have hC : s.heap.get? 52 = _ := (X.keeps F.keep) 52 _ rfl
  have X' := X.keeps F.keep
  obtain ⟨hp, g, d, tk, os⟩ := s
  refine wpAny_call (ex_call PySem.F.excBase_Exception hC (by decide) (by decide) (by decide) (fun h' k => looks_findIn (X'.keeps k) (by k_is)) (fun h' k self => bind_fn (X'.keeps k) self (by k_is)) ?_ (by size_fits))
  refine ex_init2 (hp.objs.size + 1) hp.objs.size x t t' y _ news (fun p hp' => Nat.ne_of_lt (Nat.lt_succ_of_lt (hlt p hp'))) _ _ _ _ _ _ _ _ _ _ _ _ _ _ _ _ B F1 X N1 T hk (by rw [wf_weight]; omega) ?_
  intro h' tk t1 dd F' N'
  exact ⟨rfl, h _ _ _ _ _ F' N' (fun p hp' => Nat.lt_succ_of_lt (hlt p hp'))⟩

/-- what a raised expression leaves -/
def XP (w : World) (E : Value → Shared → Prop) (v : Value) (s : Shared) : Prop := ∃ (e : Nat) (dd : Option Addr) (t1 : Addr) (h₀ : Heap) (L : Addr) (m : Str → Option Value), v = .ref e ∧ (heapK w.params).In h₀ ∧ Fr h₀ L s.heap m ∧ News h₀ L s.heap [(e, excO 52 dd t1)] ∧ E (.ref e) s
theorem ex_raise {A : Around} {E : Value → Shared → Prop} {Q : Flow → Shared → Prop} {env : Env} {c : Expr} {pos : Pos} (hh : A.handled = none)
    (h : wpAny (model PySem.Challenge.rw_no0364_01.row.prog w) A (eval c env) (XP w E) E s) : wpAny (model PySem.Challenge.rw_no0364_01.row.prog w) A (exec (.Raise (some c) none pos) env) Q E s := by
  have hbase : ∀ bm : List Value, bm.contains (.type "BaseException") = true → (Value.ref 52 :: bm).contains (.type "BaseException") = true := fun bm q => by rw [List.contains_cons, q, Bool.or_true]
  rw [arm_exec_Raise]
  refine wpAny_bind (wpAny_standAt ?_)
  simp only [evalOpt, Option.map]
  unfold raiseStmt
  refine wpAny_bind (wpAny_bind (wpAny_mono h (fun v s₁ h₁ => wpAny_bind (wpAny_standAt (wpAny_pure ?_))) fun _ _ x => x))
  obtain ⟨e, dd, t1, h₀, L, m', rfl, X, F, N, hE⟩ := h₁
  have he := (N _ (.head _)).1
  have hC : s₁.heap.get? 52 = _ := (X.keeps F.keep) 52 _ rfl
  obtain ⟨hp, g, d, tk, os⟩ := s₁
  repeat (first | with_reducible refine wpAny_loadPart_at he ?_ | with_reducible refine wpAny_loadPart_at hC ?_ | (with_reducible refine wpAny_isSubtype_exc hC ?_; rw [hbase _ (by decide)]) | wp_step)
  exact wpAny_raiseNew_none hh hE
end

def ConR (w : World) (mean : ExcName → Option Value) (mg mb : Str → Option Value) (f : Addr) (vs : List Value) (need : Nat) (news : Led) : Prop :=
  ∀ (dp un : Nat) (gd : Option (List Code)) (cn : Str) (cs : Scope) (a : Addr) (ccd : Value) (cl : List (Str × Addr)) (outer : List Env) (A₀ : Around) (base h₀ : Heap) (L : Addr) (m : Str → Option Value) (s : Shared) (Q E : Value → Shared → Prop),
    Below A₀ base outer h₀ → Fr h₀ L s.heap m → (heapK w.params).In h₀ → News h₀ L s.heap news → Top viewK LO mean mg mb h₀ → cs.kind = .function → dp + need < recursionLimit → un + 8 * need < cLine →
    (∀ (e : Addr) (g h' : Heap) (tk' : Nat), Fr h₀ L g m → RaisedSN base g (envX cn cs L a ccd cl :: outer) e (.ref 52) news h' → g.UpToSlots h' → E (.ref e) { s with heap := h', toks := tk' }) →
    wpAny (model PySem.Challenge.rw_no0364_01.row.prog w) (ktrTop dp un gd cn cs L a ccd cl outer) (call (.ref f) vs) Q E s

theorem conr_use {w : World} {mean : ExcName → Option Value} {mg mb : Str → Option Value} {f : Addr} {vs : List Value} {need : Nat} {news : Led} {dp un : Nat} {gd : Option (List Code)} {cn : Str} {cs : Scope} {a : Addr} {ccd : Value} {cl : List (Str × Addr)} {outer : List Env} {A₀ : Around} {base h₀ : Heap} {L : Addr} {m : Str → Option Value} {s : Shared} {Q E : Value → Shared → Prop}
    (B : Below A₀ base outer h₀) (F : Fr h₀ L s.heap m) (X : (heapK w.params).In h₀) (N : News h₀ L s.heap news) (T : Top viewK LO mean mg mb h₀) (hk : cs.kind = .function) (C : ConR w mean mg mb f vs need news) (hd : dp + need < recursionLimit) (hu : un + 8 * need < cLine)
    (h : ∀ (e : Addr) (g h' : Heap) (tk' : Nat), Fr h₀ L g m → RaisedSN base g (envX cn cs L a ccd cl :: outer) e (.ref 52) news h' → g.UpToSlots h' → E (.ref e) { s with heap := h', toks := tk' }) :
    wpAny (model PySem.Challenge.rw_no0364_01.row.prog w) (ktrTop dp un gd cn cs L a ccd cl outer) (call (.ref f) vs) Q E s := C _ _ _ _ _ _ _ _ _ _ _ _ _ _ _ _ _ B F X N T hk hd hu h

theorem raised_sub {base g h : Heap} {l : List Env} {e : Addr} {cls : Value} {news news' : Led} (R : RaisedSN base g l e cls news' h) (hs : ∀ p ∈ news, p ∈ news') : RaisedSN base g l e cls news h := by
  obtain ⟨B, a0, hB, hBG, hl, hfl⟩ := R
  exact ⟨B, a0, hB, hBG, fun q hq => hl q (hs q hq), hfl⟩

/-- the end of a raise: the raising frame is left -/
theorem xp_end {w : World} {M : Model} {A : Around} {E E' : Value → Shared → Prop} {s' : Shared} {base g : Heap} {outer : List Env} {L a : Addr} {e : Nat} {m : Str → Option Value} {name : Str} {scope : Scope} {cd : Value} {news big : Led} {dd : Option Addr} {t1 : Addr}
    (K : Below A base outer g) (X : (heapK w.params).In g) (F : Fr g L s'.heap m) (N : News g L s'.heap ((e, excO 52 dd t1) :: big)) (hlt : ∀ p ∈ big, p.1 < e) (hs : ∀ p ∈ news, p ∈ big) (hk : scope.kind = .function)
    (hQ : ∀ h', RaisedSN base g outer e (.ref 52) news h' → g.UpToSlots h' → E (.ref e) { s' with heap := h' }) :
    XP w (fun v s => wpAny M (A.deeper (envOf name scope L a cd)) (leaving (envOf name scope L a cd) v) (fun _ s'' => E v s'') E' s) (.ref e) s' :=
  ⟨e, dd, t1, g, L, m, rfl, X, F, N.perm (fun p hp => by rcases List.mem_cons.mp hp with rfl | q; exact .head _; cases q),
    ex_leave K F N (fun p hp => Nat.ne_of_lt (hlt p hp)) rfl rfl rfl (fun h' R u => hQ h' (raised_sub R hs) u) hk⟩

end
end
end Mine
namespace Mine
section
open PySem PySem.W PyProof.Rows PySem.Spec PySem.Calls
noncomputable section
theorem con_is_dayF {w : World} {mean : ExcName → Option Value} {mg mb : Str → Option Value} (y m' d : Int) (t t' t2 : Tok) (news : Led) (h : isDay y m' d = false) : Con w mean mg mb 145 [.int y t, .int m' t', .int d t2] 3 news (RB news false) := h ▸ con_is_day y m' d t t' t2 news
section
theorem words24 : True := by
  k_with_none
  (k_with "eval Call Name" => ((with_reducible show wpAny _ _ (eval (Expr.Call (Expr.Name _ _) _ _ _) _) _ _ _); refine Call_ ?_))
  (k_with "subscriptTail Name Constant ref int" => (k_here; k_dflt (first | (refine item_tupleT (by exact News.isTup (by k_asm) (by k_mem)) (by decide) (by decide) (by rfl) (by rfl) ?_; k_whole) | (refine item_listT (by exact News.isList (by k_asm) (by k_mem)) (by decide) (by decide) (by rfl) ?_; k_whole))))
  (k_with "exec Raise some none" => (k_here; k_dflt (refine ex_raise (by exact rfl) ?_; k_whole)))
  (k_with "call ref" => (k_here; k_dflt (first | (refine wf_call1 (by k_asm) (by k_asm) (by k_asm) (by k_asm) (by k_asm) (by first | exact rfl | assumption) (by ktr_room) ?_; k_whole) | (refine wf_call2 (by k_asm) (by k_asm) (by k_asm) (by k_asm) (by k_asm) (by first | exact rfl | assumption) (by ktr_room) ?_; k_whole)); intro t9 dd9 t19 h9 tk9 F9 N9 lt9; (try dsimp only); (try k_fold)))
  (k_with "call ref" => (k_here; k_dflt (refine con_use (by k_asm) (by k_asm) (by k_asm) (by k_asm) (by k_asm) (by first | exact rfl | assumption) (con_is_dayF _ _ _ _ _ _ _ (by assumption)) (by ktr_room) (by ktr_units) ?_); intro h9 tk9 F9 N9; (try dsimp only); (try k_fold)))
  trivial
theorem conr_write_day {w : World} {mean : ExcName → Option Value} {mg mb : Str → Option Value} (y m' d : Int) (x : Nat) (t t' t2 : Tok) (news : Led) (hday : isDay y m' d = false) :
    ConR w mean mg mb 244 [.ref x] 8 ((x, tup [.int y t, .int m' t', .int d t2]) :: news) := by
  unfold ConR
  k_fill
  intro dp un gd cn cs a ccd cl outer A₀ base h₀ L m s Q E B F X N T hk hd hu hret
  refine wpAny_call ?_
  k_dflt (refine' code_def (binds := [(Str.ofString "day", .ref x)]) ?k1 ?k2 ?k3 ?k4 ?k5 ?kA ?kF ?kK ?k6 ?k7 ?k8 ?k9 ?kB ?_ ?c2 ?c3 ?c4 ?c5; (case kA => exact rfl); (case kF => exact rfl); (case kK => assumption); (case k1 => k_asm); (case k2 => k_asm); (case k3 => k_asm); (case k4 => k_asm); (case k5 => k_asm); (case k6 => k_is); (case k7 => k_is); (case k8 => ktr_room); (case k9 => exact BindsTo.of_eq rfl); (case c5 => decide); (case kB => exact locs rfl); (case c2 => exact rfl); (case c3 => exact rfl); (case c4 => exact rfl); k_whole)
  intro g' L' h' FG' F' N' B' X' T'
  dsimp only [List.reverse, List.reverseAux] at F' ⊢
  try k_lift B'
  try k_fold
  k_steps
  all_goals exact xp_end (E := E) (by k_asm) (by k_asm) (by k_asm) (by k_asm) (by assumption) (by kcj_all) rfl (fun h' R u => hret _ _ _ _ (by k_asm) R u)

theorem words25 : True := by
  k_with_none
  trivial
end

end
end
end Mine
namespace Mine
section
open PySem PySem.W PyProof.Rows PySem.Spec PySem.Calls
noncomputable section
theorem split1_N {prog : Program} {w : World} {A : Around} {E : Value → Shared → Prop} {s : Shared} {h₀ : Heap} {L : Addr} {m : Str → Option Value} {news : Led} {x y p0 : Str} {t u : Tok} {Q : Value → Shared → Prop} (hF : Fr h₀ L s.heap m) (hN : News h₀ L s.heap news) (hy : (y.length == 0) = false)
    (e3 : Txt.split x y = [p0])
    (h : ∀ (D : Nat) t0 h' k, Fr h₀ L h' m → News h₀ L h' ((D, listOf #[.str p0 t0] 0) :: news) → (∀ p ∈ news, p.1 < D) → Q (.ref D) { s with heap := h', toks := k }) (hsz : x.length + 2 ≤ sizeLine) :
    wpAny (model prog w) A (call (.builtin "str.split") [.str x t, .str y u]) Q E s :=
  KSpl.split1 hF hN hy (fun D l h' k e S F N lt => by
    rw [e3] at e
    obtain ⟨t0, l1, rfl, e1'⟩ := KSpl.cons_of e
    obtain rfl := KSpl.nil_of e1'
    exact h D t0 h' k F N lt) hsz
theorem split2_N {prog : Program} {w : World} {A : Around} {E : Value → Shared → Prop} {s : Shared} {h₀ : Heap} {L : Addr} {m : Str → Option Value} {news : Led} {x y p0 p1 : Str} {t u : Tok} {Q : Value → Shared → Prop} (hF : Fr h₀ L s.heap m) (hN : News h₀ L s.heap news) (hy : (y.length == 0) = false)
    (e3 : Txt.split x y = [p0, p1])
    (h : ∀ (D : Nat) t0 t1 h' k, Fr h₀ L h' m → News h₀ L h' ((D, listOf #[.str p0 t0, .str p1 t1] 0) :: news) → (∀ p ∈ news, p.1 < D) → Q (.ref D) { s with heap := h', toks := k }) (hsz : x.length + 2 ≤ sizeLine) :
    wpAny (model prog w) A (call (.builtin "str.split") [.str x t, .str y u]) Q E s :=
  KSpl.split1 hF hN hy (fun D l h' k e S F N lt => by
    rw [e3] at e
    obtain ⟨t0, l1, rfl, e1'⟩ := KSpl.cons_of e
    obtain ⟨t1, l2, rfl, e2'⟩ := KSpl.cons_of e1'
    obtain rfl := KSpl.nil_of e2'
    exact h D t0 t1 h' k F N lt) hsz
theorem split4_N {prog : Program} {w : World} {A : Around} {E : Value → Shared → Prop} {s : Shared} {h₀ : Heap} {L : Addr} {m : Str → Option Value} {news : Led} {x y p0 p1 p2 p3 : Str} {t u : Tok} {Q : Value → Shared → Prop} (hF : Fr h₀ L s.heap m) (hN : News h₀ L s.heap news) (hy : (y.length == 0) = false)
    (e3 : Txt.split x y = [p0, p1, p2, p3])
    (h : ∀ (D : Nat) t0 t1 t2 t3 h' k, Fr h₀ L h' m → News h₀ L h' ((D, listOf #[.str p0 t0, .str p1 t1, .str p2 t2, .str p3 t3] 0) :: news) → (∀ p ∈ news, p.1 < D) → Q (.ref D) { s with heap := h', toks := k }) (hsz : x.length + 2 ≤ sizeLine) :
    wpAny (model prog w) A (call (.builtin "str.split") [.str x t, .str y u]) Q E s :=
  KSpl.split1 hF hN hy (fun D l h' k e S F N lt => by
    rw [e3] at e
    obtain ⟨t0, l1, rfl, e1'⟩ := KSpl.cons_of e
    obtain ⟨t1, l2, rfl, e2'⟩ := KSpl.cons_of e1'
    obtain ⟨t2, l3, rfl, e3'⟩ := KSpl.cons_of e2'
    obtain ⟨t3, l4, rfl, e4'⟩ := KSpl.cons_of e3'
    obtain rfl := KSpl.nil_of e4'
    exact h D t0 t1 t2 t3 h' k F N lt) hsz
theorem con_figB {w : World} {mean : ExcName → Option Value} {mg mb : Str → Option Value} (x : Str) (t : Tok) (b : Bool) (news : Led) (ha : x.cps.all (· < 128) = true) (hl : x.cps.size ≤ 100) (h : isFig x = b) : Con w mean mg mb 211 [.str x t] 20 news (RB news b) := h ▸ con_is_figures x t news ha hl
section
theorem words26 : True := by
  k_with_none
  (k_with "eval Call Name" => ((with_reducible show wpAny _ _ (eval (Expr.Call (Expr.Name _ _) _ _ _) _) _ _ _); refine Call_ ?_))
  (k_with "subscriptTail Name Constant ref int" => (k_here; k_dflt (first | (refine item_tupleT (by exact News.isTup (by k_asm) (by k_mem)) (by decide) (by decide) (by rfl) (by rfl) ?_; k_whole) | (refine item_listT (by exact News.isList (by k_asm) (by k_mem)) (by decide) (by decide) (by rfl) ?_; k_whole))))
  (k_with "exec Raise some none" => (k_here; k_dflt (refine ex_raise (by exact rfl) ?_; k_whole)))
  (k_with "call ref" => (k_here; k_dflt (first | (refine wf_call1 (by k_asm) (by k_asm) (by k_asm) (by k_asm) (by k_asm) (by first | exact rfl | assumption) (by ktr_room) ?_; k_whole) | (refine wf_call2 (by k_asm) (by k_asm) (by k_asm) (by k_asm) (by k_asm) (by first | exact rfl | assumption) (by ktr_room) ?_; k_whole)); intro t9 dd9 t19 h9 tk9 F9 N9 lt9; (try dsimp only); (try k_fold)))
  (k_with "call builtin:str.split" => (k_here; k_dflt (refine split1_N (by k_asm) (by k_asm) (by decide +kernel) (by assumption) ?_ (by (rw [sizeLine_eq]; omega)); k_whole); intro D' u0 h' k' F' N' l1; (try k_lt l1); (try k_sweep)))
  trivial
theorem conr_di1 {w : World} {mean : ExcName → Option Value} {mg mb : Str → Option Value} (x p0 : Str) (t t' t2 : Tok) (news : Led) (hx : x.length ≤ 100) (hs : Txt.split x dash = [p0]) :
    ConR w mean mg mb 230 [.str x t, .int 0 t', .int x.length t2] 46 (news) := by
  unfold ConR
  k_fill
  intro dp un gd cn cs a ccd cl outer A₀ base h₀ L m s Q E B F X N T hk hd hu hret
  refine wpAny_call ?_
  k_dflt (refine' code_def (binds := [(Str.ofString "text", .str x t), (Str.ofString "at", .int 0 t'), (Str.ofString "end", .int x.length t2)]) ?k1 ?k2 ?k3 ?k4 ?k5 ?kA ?kF ?kK ?k6 ?k7 ?k8 ?k9 ?kB ?_ ?c2 ?c3 ?c4 ?c5; (case kA => exact rfl); (case kF => exact rfl); (case kK => assumption); (case k1 => k_asm); (case k2 => k_asm); (case k3 => k_asm); (case k4 => k_asm); (case k5 => k_asm); (case k6 => k_is); (case k7 => k_is); (case k8 => ktr_room); (case k9 => exact BindsTo.of_eq rfl); (case c5 => decide); (case kB => exact locs rfl); (case c2 => exact rfl); (case c3 => exact rfl); (case c4 => exact rfl); k_whole)
  intro g' L' h' FG' F' N' B' X' T'
  dsimp only [List.reverse, List.reverseAux] at F' ⊢
  try k_lift B'
  try k_fold
  have hs' := hs
  rw [← slice_all x] at hs'
  clear hs
  k_steps
  all_goals first | exact xp_end (E := E) (by k_asm) (by k_asm) (by k_asm) (by k_asm) (by assumption) (by kcj_all) rfl (fun h' R u => hret _ _ _ _ (by k_asm) R u)

theorem words27 : True := by
  k_with_none
  trivial
end
section
theorem words28 : True := by
  k_with_none
  (k_with "eval Call Name" => ((with_reducible show wpAny _ _ (eval (Expr.Call (Expr.Name _ _) _ _ _) _) _ _ _); refine Call_ ?_))
  (k_with "subscriptTail Name Constant ref int" => (k_here; k_dflt (first | (refine item_tupleT (by exact News.isTup (by k_asm) (by k_mem)) (by decide) (by decide) (by rfl) (by rfl) ?_; k_whole) | (refine item_listT (by exact News.isList (by k_asm) (by k_mem)) (by decide) (by decide) (by rfl) ?_; k_whole))))
  (k_with "exec Raise some none" => (k_here; k_dflt (refine ex_raise (by exact rfl) ?_; k_whole)))
  (k_with "call ref" => (k_here; k_dflt (first | (refine wf_call1 (by k_asm) (by k_asm) (by k_asm) (by k_asm) (by k_asm) (by first | exact rfl | assumption) (by ktr_room) ?_; k_whole) | (refine wf_call2 (by k_asm) (by k_asm) (by k_asm) (by k_asm) (by k_asm) (by first | exact rfl | assumption) (by ktr_room) ?_; k_whole)); intro t9 dd9 t19 h9 tk9 F9 N9 lt9; (try dsimp only); (try k_fold)))
  (k_with "call builtin:str.split" => (k_here; k_dflt (refine split2_N (by k_asm) (by k_asm) (by decide +kernel) (by assumption) ?_ (by (rw [sizeLine_eq]; omega)); k_whole); intro D' u0 u1 h' k' F' N' l1; (try k_lt l1); (try k_sweep)))
  trivial
theorem conr_di2 {w : World} {mean : ExcName → Option Value} {mg mb : Str → Option Value} (x p0 p1 : Str) (t t' t2 : Tok) (news : Led) (hx : x.length ≤ 100) (hs : Txt.split x dash = [p0, p1]) :
    ConR w mean mg mb 230 [.str x t, .int 0 t', .int x.length t2] 46 (news) := by
  unfold ConR
  k_fill
  intro dp un gd cn cs a ccd cl outer A₀ base h₀ L m s Q E B F X N T hk hd hu hret
  refine wpAny_call ?_
  k_dflt (refine' code_def (binds := [(Str.ofString "text", .str x t), (Str.ofString "at", .int 0 t'), (Str.ofString "end", .int x.length t2)]) ?k1 ?k2 ?k3 ?k4 ?k5 ?kA ?kF ?kK ?k6 ?k7 ?k8 ?k9 ?kB ?_ ?c2 ?c3 ?c4 ?c5; (case kA => exact rfl); (case kF => exact rfl); (case kK => assumption); (case k1 => k_asm); (case k2 => k_asm); (case k3 => k_asm); (case k4 => k_asm); (case k5 => k_asm); (case k6 => k_is); (case k7 => k_is); (case k8 => ktr_room); (case k9 => exact BindsTo.of_eq rfl); (case c5 => decide); (case kB => exact locs rfl); (case c2 => exact rfl); (case c3 => exact rfl); (case c4 => exact rfl); k_whole)
  intro g' L' h' FG' F' N' B' X' T'
  dsimp only [List.reverse, List.reverseAux] at F' ⊢
  try k_lift B'
  try k_fold
  have hs' := hs
  rw [← slice_all x] at hs'
  clear hs
  k_steps
  all_goals first | exact xp_end (E := E) (by k_asm) (by k_asm) (by k_asm) (by k_asm) (by assumption) (by kcj_all) rfl (fun h' R u => hret _ _ _ _ (by k_asm) R u)

theorem words29 : True := by
  k_with_none
  trivial
end
section
theorem words30 : True := by
  k_with_none
  (k_with "eval Call Name" => ((with_reducible show wpAny _ _ (eval (Expr.Call (Expr.Name _ _) _ _ _) _) _ _ _); refine Call_ ?_))
  (k_with "subscriptTail Name Constant ref int" => (k_here; k_dflt (first | (refine item_tupleT (by exact News.isTup (by k_asm) (by k_mem)) (by decide) (by decide) (by rfl) (by rfl) ?_; k_whole) | (refine item_listT (by exact News.isList (by k_asm) (by k_mem)) (by decide) (by decide) (by rfl) ?_; k_whole))))
  (k_with "exec Raise some none" => (k_here; k_dflt (refine ex_raise (by exact rfl) ?_; k_whole)))
  (k_with "call ref" => (k_here; k_dflt (first | (refine wf_call1 (by k_asm) (by k_asm) (by k_asm) (by k_asm) (by k_asm) (by first | exact rfl | assumption) (by ktr_room) ?_; k_whole) | (refine wf_call2 (by k_asm) (by k_asm) (by k_asm) (by k_asm) (by k_asm) (by first | exact rfl | assumption) (by ktr_room) ?_; k_whole)); intro t9 dd9 t19 h9 tk9 F9 N9 lt9; (try dsimp only); (try k_fold)))
  (k_with "call builtin:str.split" => (k_here; k_dflt (refine split4_N (by k_asm) (by k_asm) (by decide +kernel) (by assumption) ?_ (by (rw [sizeLine_eq]; omega)); k_whole); intro D' u0 u1 u2 u3 h' k' F' N' l1; (try k_lt l1); (try k_sweep)))
  trivial
theorem conr_di4 {w : World} {mean : ExcName → Option Value} {mg mb : Str → Option Value} (x p0 p1 p2 p3 : Str) (t t' t2 : Tok) (news : Led) (hx : x.length ≤ 100) (hs : Txt.split x dash = [p0, p1, p2, p3]) :
    ConR w mean mg mb 230 [.str x t, .int 0 t', .int x.length t2] 46 (news) := by
  unfold ConR
  k_fill
  intro dp un gd cn cs a ccd cl outer A₀ base h₀ L m s Q E B F X N T hk hd hu hret
  refine wpAny_call ?_
  k_dflt (refine' code_def (binds := [(Str.ofString "text", .str x t), (Str.ofString "at", .int 0 t'), (Str.ofString "end", .int x.length t2)]) ?k1 ?k2 ?k3 ?k4 ?k5 ?kA ?kF ?kK ?k6 ?k7 ?k8 ?k9 ?kB ?_ ?c2 ?c3 ?c4 ?c5; (case kA => exact rfl); (case kF => exact rfl); (case kK => assumption); (case k1 => k_asm); (case k2 => k_asm); (case k3 => k_asm); (case k4 => k_asm); (case k5 => k_asm); (case k6 => k_is); (case k7 => k_is); (case k8 => ktr_room); (case k9 => exact BindsTo.of_eq rfl); (case c5 => decide); (case kB => exact locs rfl); (case c2 => exact rfl); (case c3 => exact rfl); (case c4 => exact rfl); k_whole)
  intro g' L' h' FG' F' N' B' X' T'
  dsimp only [List.reverse, List.reverseAux] at F' ⊢
  try k_lift B'
  try k_fold
  have hs' := hs
  rw [← slice_all x] at hs'
  clear hs
  k_steps
  all_goals first | exact xp_end (E := E) (by k_asm) (by k_asm) (by k_asm) (by k_asm) (by assumption) (by kcj_all) rfl (fun h' R u => hret _ _ _ _ (by k_asm) R u)

theorem words31 : True := by
  k_with_none
  trivial
end
section
theorem words32 : True := by
  k_with_none
  (k_with "eval Call Name" => ((with_reducible show wpAny _ _ (eval (Expr.Call (Expr.Name _ _) _ _ _) _) _ _ _); refine Call_ ?_))
  (k_with "subscriptTail Name Constant ref int" => (k_here; k_dflt (first | (refine item_tupleT (by exact News.isTup (by k_asm) (by k_mem)) (by decide) (by decide) (by rfl) (by rfl) ?_; k_whole) | (refine item_listT (by exact News.isList (by k_asm) (by k_mem)) (by decide) (by decide) (by rfl) ?_; k_whole))))
  (k_with "exec Raise some none" => (k_here; k_dflt (refine ex_raise (by exact rfl) ?_; k_whole)))
  (k_with "call ref" => (k_here; k_dflt (first | (refine wf_call1 (by k_asm) (by k_asm) (by k_asm) (by k_asm) (by k_asm) (by first | exact rfl | assumption) (by ktr_room) ?_; k_whole) | (refine wf_call2 (by k_asm) (by k_asm) (by k_asm) (by k_asm) (by k_asm) (by first | exact rfl | assumption) (by ktr_room) ?_; k_whole)); intro t9 dd9 t19 h9 tk9 F9 N9 lt9; (try dsimp only); (try k_fold)))
  (k_with "call builtin:str.split" => (k_here; k_dflt (refine split3_N (by k_asm) (by k_asm) (by decide +kernel) (by assumption) ?_ (by (rw [sizeLine_eq]; omega)); k_whole); intro D' u0 u1 u2 h' k' F' N' l1; (try k_lt l1); (try k_sweep)))
  (k_with "exec Assign" => (exfalso; omega))
  (k_with "call ref" => (k_here; k_dflt (refine con_use (by k_asm) (by k_asm) (by k_asm) (by k_asm) (by k_asm) (by first | exact rfl | assumption) (con_figB _ _ _ _ (by assumption) (by assumption) (by assumption)) (by ktr_room) (by ktr_units) ?_); intro h9 tk9 F9 N9; (try dsimp only); (try k_fold)))
  trivial
theorem conr_dif0 {w : World} {mean : ExcName → Option Value} {mg mb : Str → Option Value} (x p0 p1 p2 : Str) (t t' t2 : Tok) (news : Led) (hx : x.length ≤ 100) (hs : Txt.split x dash = [p0, p1, p2]) (a0 : p0.cps.all (· < 128) = true) (a1 : p1.cps.all (· < 128) = true) (a2 : p2.cps.all (· < 128) = true) (b0 : p0.cps.size ≤ 100) (b1 : p1.cps.size ≤ 100) (b2 : p2.cps.size ≤ 100) (f0 : isFig p0 = false) :
    ConR w mean mg mb 230 [.str x t, .int 0 t', .int x.length t2] 46 (news) := by
  unfold ConR
  k_fill
  intro dp un gd cn cs a ccd cl outer A₀ base h₀ L m s Q E B F X N T hk hd hu hret
  refine wpAny_call ?_
  k_dflt (refine' code_def (binds := [(Str.ofString "text", .str x t), (Str.ofString "at", .int 0 t'), (Str.ofString "end", .int x.length t2)]) ?k1 ?k2 ?k3 ?k4 ?k5 ?kA ?kF ?kK ?k6 ?k7 ?k8 ?k9 ?kB ?_ ?c2 ?c3 ?c4 ?c5; (case kA => exact rfl); (case kF => exact rfl); (case kK => assumption); (case k1 => k_asm); (case k2 => k_asm); (case k3 => k_asm); (case k4 => k_asm); (case k5 => k_asm); (case k6 => k_is); (case k7 => k_is); (case k8 => ktr_room); (case k9 => exact BindsTo.of_eq rfl); (case c5 => decide); (case kB => exact locs rfl); (case c2 => exact rfl); (case c3 => exact rfl); (case c4 => exact rfl); k_whole)
  intro g' L' h' FG' F' N' B' X' T'
  dsimp only [List.reverse, List.reverseAux] at F' ⊢
  try k_lift B'
  try k_fold
  have hs' := hs
  rw [← slice_all x] at hs'
  clear hs
  k_steps
  all_goals first | exact xp_end (E := E) (by k_asm) (by k_asm) (by k_asm) (by k_asm) (by assumption) (by kcj_all) rfl (fun h' R u => hret _ _ _ _ (by k_asm) R u)

theorem conr_dif2 {w : World} {mean : ExcName → Option Value} {mg mb : Str → Option Value} (x p0 p1 p2 : Str) (t t' t2 : Tok) (news : Led) (hx : x.length ≤ 100) (hs : Txt.split x dash = [p0, p1, p2]) (a0 : p0.cps.all (· < 128) = true) (a1 : p1.cps.all (· < 128) = true) (a2 : p2.cps.all (· < 128) = true) (b0 : p0.cps.size ≤ 100) (b1 : p1.cps.size ≤ 100) (b2 : p2.cps.size ≤ 100) (f0 : isFig p0 = true) (f2 : isFig p2 = false) :
    ConR w mean mg mb 230 [.str x t, .int 0 t', .int x.length t2] 46 (news) := by
  unfold ConR
  k_fill
  intro dp un gd cn cs a ccd cl outer A₀ base h₀ L m s Q E B F X N T hk hd hu hret
  refine wpAny_call ?_
  k_dflt (refine' code_def (binds := [(Str.ofString "text", .str x t), (Str.ofString "at", .int 0 t'), (Str.ofString "end", .int x.length t2)]) ?k1 ?k2 ?k3 ?k4 ?k5 ?kA ?kF ?kK ?k6 ?k7 ?k8 ?k9 ?kB ?_ ?c2 ?c3 ?c4 ?c5; (case kA => exact rfl); (case kF => exact rfl); (case kK => assumption); (case k1 => k_asm); (case k2 => k_asm); (case k3 => k_asm); (case k4 => k_asm); (case k5 => k_asm); (case k6 => k_is); (case k7 => k_is); (case k8 => ktr_room); (case k9 => exact BindsTo.of_eq rfl); (case c5 => decide); (case kB => exact locs rfl); (case c2 => exact rfl); (case c3 => exact rfl); (case c4 => exact rfl); k_whole)
  intro g' L' h' FG' F' N' B' X' T'
  dsimp only [List.reverse, List.reverseAux] at F' ⊢
  try k_lift B'
  try k_fold
  have hs' := hs
  rw [← slice_all x] at hs'
  clear hs
  k_steps
  all_goals first | exact xp_end (E := E) (by k_asm) (by k_asm) (by k_asm) (by k_asm) (by assumption) (by kcj_all) rfl (fun h' R u => hret _ _ _ _ (by k_asm) R u)

theorem conr_dil0 {w : World} {mean : ExcName → Option Value} {mg mb : Str → Option Value} (x p0 p1 p2 : Str) (t t' t2 : Tok) (news : Led) (hx : x.length ≤ 100) (hs : Txt.split x dash = [p0, p1, p2]) (a0 : p0.cps.all (· < 128) = true) (a1 : p1.cps.all (· < 128) = true) (a2 : p2.cps.all (· < 128) = true) (b0 : p0.cps.size ≤ 100) (b1 : p1.cps.size ≤ 100) (b2 : p2.cps.size ≤ 100) (f0 : isFig p0 = true) (f2 : isFig p2 = true) (c0 : 2 < p0.length) (l0 : p0.length ≤ 100) :
    ConR w mean mg mb 230 [.str x t, .int 0 t', .int x.length t2] 46 (news) := by
  unfold ConR
  k_fill
  intro dp un gd cn cs a ccd cl outer A₀ base h₀ L m s Q E B F X N T hk hd hu hret
  refine wpAny_call ?_
  k_dflt (refine' code_def (binds := [(Str.ofString "text", .str x t), (Str.ofString "at", .int 0 t'), (Str.ofString "end", .int x.length t2)]) ?k1 ?k2 ?k3 ?k4 ?k5 ?kA ?kF ?kK ?k6 ?k7 ?k8 ?k9 ?kB ?_ ?c2 ?c3 ?c4 ?c5; (case kA => exact rfl); (case kF => exact rfl); (case kK => assumption); (case k1 => k_asm); (case k2 => k_asm); (case k3 => k_asm); (case k4 => k_asm); (case k5 => k_asm); (case k6 => k_is); (case k7 => k_is); (case k8 => ktr_room); (case k9 => exact BindsTo.of_eq rfl); (case c5 => decide); (case kB => exact locs rfl); (case c2 => exact rfl); (case c3 => exact rfl); (case c4 => exact rfl); k_whole)
  intro g' L' h' FG' F' N' B' X' T'
  dsimp only [List.reverse, List.reverseAux] at F' ⊢
  try k_lift B'
  try k_fold
  have hs' := hs
  rw [← slice_all x] at hs'
  clear hs
  k_steps
  all_goals first | exact xp_end (E := E) (by k_asm) (by k_asm) (by k_asm) (by k_asm) (by assumption) (by kcj_all) rfl (fun h' R u => hret _ _ _ _ (by k_asm) R u)

theorem conr_dil2 {w : World} {mean : ExcName → Option Value} {mg mb : Str → Option Value} (x p0 p1 p2 : Str) (t t' t2 : Tok) (news : Led) (hx : x.length ≤ 100) (hs : Txt.split x dash = [p0, p1, p2]) (a0 : p0.cps.all (· < 128) = true) (a1 : p1.cps.all (· < 128) = true) (a2 : p2.cps.all (· < 128) = true) (b0 : p0.cps.size ≤ 100) (b1 : p1.cps.size ≤ 100) (b2 : p2.cps.size ≤ 100) (f0 : isFig p0 = true) (f2 : isFig p2 = true) (c2 : (p2.length : Int) ≠ 4) (l0 : p0.length ≤ 100) (l2 : p2.length ≤ 100) :
    ConR w mean mg mb 230 [.str x t, .int 0 t', .int x.length t2] 46 (news) := by
  unfold ConR
  k_fill
  intro dp un gd cn cs a ccd cl outer A₀ base h₀ L m s Q E B F X N T hk hd hu hret
  refine wpAny_call ?_
  k_dflt (refine' code_def (binds := [(Str.ofString "text", .str x t), (Str.ofString "at", .int 0 t'), (Str.ofString "end", .int x.length t2)]) ?k1 ?k2 ?k3 ?k4 ?k5 ?kA ?kF ?kK ?k6 ?k7 ?k8 ?k9 ?kB ?_ ?c2 ?c3 ?c4 ?c5; (case kA => exact rfl); (case kF => exact rfl); (case kK => assumption); (case k1 => k_asm); (case k2 => k_asm); (case k3 => k_asm); (case k4 => k_asm); (case k5 => k_asm); (case k6 => k_is); (case k7 => k_is); (case k8 => ktr_room); (case k9 => exact BindsTo.of_eq rfl); (case c5 => decide); (case kB => exact locs rfl); (case c2 => exact rfl); (case c3 => exact rfl); (case c4 => exact rfl); k_whole)
  intro g' L' h' FG' F' N' B' X' T'
  dsimp only [List.reverse, List.reverseAux] at F' ⊢
  try k_lift B'
  try k_fold
  have hs' := hs
  rw [← slice_all x] at hs'
  clear hs
  k_steps
  all_goals first | exact xp_end (E := E) (by k_asm) (by k_asm) (by k_asm) (by k_asm) (by assumption) (by kcj_all) rfl (fun h' R u => hret _ _ _ _ (by k_asm) R u)

theorem words33 : True := by
  k_with_none
  trivial
end
section
theorem words34 : True := by
  k_with_none
  (k_with "eval Call Name" => ((with_reducible show wpAny _ _ (eval (Expr.Call (Expr.Name _ _) _ _ _) _) _ _ _); refine Call_ ?_))
  (k_with "subscriptTail Name Constant ref int" => (k_here; k_dflt (first | (refine item_tupleT (by exact News.isTup (by k_asm) (by k_mem)) (by decide) (by decide) (by rfl) (by rfl) ?_; k_whole) | (refine item_listT (by exact News.isList (by k_asm) (by k_mem)) (by decide) (by decide) (by rfl) ?_; k_whole))))
  (k_with "exec Raise some none" => (k_here; k_dflt (refine ex_raise (by exact rfl) ?_; k_whole)))
  (k_with "call ref" => (k_here; k_dflt (first | (refine wf_call1 (by k_asm) (by k_asm) (by k_asm) (by k_asm) (by k_asm) (by first | exact rfl | assumption) (by ktr_room) ?_; k_whole) | (refine wf_call2 (by k_asm) (by k_asm) (by k_asm) (by k_asm) (by k_asm) (by first | exact rfl | assumption) (by ktr_room) ?_; k_whole)); intro t9 dd9 t19 h9 tk9 F9 N9 lt9; (try dsimp only); (try k_fold)))
  (k_with "call builtin:str.split" => (k_here; k_dflt (refine split3_N (by k_asm) (by k_asm) (by decide +kernel) (by assumption) ?_ (by (rw [sizeLine_eq]; omega)); k_whole); intro D' u0 u1 u2 h' k' F' N' l1; (try k_lt l1); (try k_sweep)))
  (k_with "call ref" => (k_here; k_dflt (refine con_use (by k_asm) (by k_asm) (by k_asm) (by k_asm) (by k_asm) (by first | exact rfl | assumption) (con_is_dayF _ _ _ _ _ _ _ (by assumption)) (by ktr_room) (by ktr_units) ?_); intro h9 tk9 F9 N9; (try dsimp only); (try k_fold)))
  (k_with "call ref" => (k_here; k_dflt (refine con_use (by k_asm) (by k_asm) (by k_asm) (by k_asm) (by k_asm) (by first | exact rfl | assumption) (con_figB _ _ _ _ (by assumption) (by assumption) (by assumption)) (by ktr_room) (by ktr_units) ?_); intro h9 tk9 F9 N9; (try dsimp only); (try k_fold)))
  (k_with "call ref" => (k_here; k_dflt (refine con_use (by k_asm) (by k_asm) (by k_asm) (by k_asm) (by k_asm) (by first | exact rfl | assumption) (con_month_number _ _ _ (by assumption) (by assumption)) (by ktr_room) (by ktr_units) ?_); intro t9 h9 tk9 F9 N9; (try dsimp only); (try k_fold)))
  trivial
theorem conr_did {w : World} {mean : ExcName → Option Value} {mg mb : Str → Option Value} (x p0 p1 p2 : Str) (t t' t2 : Tok) (news : Led) (hx : x.length ≤ 100) (hs : Txt.split x dash = [p0, p1, p2]) (a0 : p0.cps.all (· < 128) = true) (a1 : p1.cps.all (· < 128) = true) (a2 : p2.cps.all (· < 128) = true) (b0 : p0.cps.size ≤ 100) (b1 : p1.cps.size ≤ 100) (b2 : p2.cps.size ≤ 100) (f0 : isFig p0 = true) (f2 : isFig p2 = true) (c0 : p0.length ≤ 2) (c2 : (p2.length : Int) = 4) (y d : Int) (i0 : PySem.intText? p0 = some d) (i2 : PySem.intText? p2 = some y) (hday : isDay y (monthNo p1) d = false) :
    ConR w mean mg mb 230 [.str x t, .int 0 t', .int x.length t2] 46 (news) := by
  unfold ConR
  k_fill
  intro dp un gd cn cs a ccd cl outer A₀ base h₀ L m s Q E B F X N T hk hd hu hret
  refine wpAny_call ?_
  k_dflt (refine' code_def (binds := [(Str.ofString "text", .str x t), (Str.ofString "at", .int 0 t'), (Str.ofString "end", .int x.length t2)]) ?k1 ?k2 ?k3 ?k4 ?k5 ?kA ?kF ?kK ?k6 ?k7 ?k8 ?k9 ?kB ?_ ?c2 ?c3 ?c4 ?c5; (case kA => exact rfl); (case kF => exact rfl); (case kK => assumption); (case k1 => k_asm); (case k2 => k_asm); (case k3 => k_asm); (case k4 => k_asm); (case k5 => k_asm); (case k6 => k_is); (case k7 => k_is); (case k8 => ktr_room); (case k9 => exact BindsTo.of_eq rfl); (case c5 => decide); (case kB => exact locs rfl); (case c2 => exact rfl); (case c3 => exact rfl); (case c4 => exact rfl); k_whole)
  intro g' L' h' FG' F' N' B' X' T'
  dsimp only [List.reverse, List.reverseAux] at F' ⊢
  try k_lift B'
  try k_fold
  have hs' := hs
  rw [← slice_all x] at hs'
  clear hs
  k_steps
  all_goals first | exact xp_end (E := E) (by k_asm) (by k_asm) (by k_asm) (by k_asm) (by assumption) (by kcj_all) rfl (fun h' R u => hret _ _ _ _ (by k_asm) R u)

theorem words35 : True := by
  k_with_none
  trivial
end

end
end
end Mine
namespace Mine
section
open PySem PySem.W PyProof.Rows PySem.Spec PySem.Calls
noncomputable section

/-- what day_in does is known for a text, whatever the marks of its three arguments -/
def DayR (w : World) (mean : ExcName → Option Value) (mg mb : Str → Option Value) (x : Str) (need : Nat) (news : Led) : Prop := ∀ t t' t2, ConR w mean mg mb 230 [.str x t, .int 0 t', .int x.length t2] need news
def DayC (w : World) (mean : ExcName → Option Value) (mg mb : Str → Option Value) (x : Str) (need : Nat) (news : Led) (R : Ret) : Prop := ∀ t t' t2, Con w mean mg mb 230 [.str x t, .int 0 t', .int x.length t2] need news R

theorem conr_use_day {w : World} {mean : ExcName → Option Value} {mg mb : Str → Option Value} {x : Str} {t t' t2 : Tok} {need : Nat} {news : Led} {dp un : Nat} {gd : Option (List Code)} {cn : Str} {cs : Scope} {a : Addr} {ccd : Value} {cl : List (Str × Addr)} {outer : List Env} {A₀ : Around} {base h₀ : Heap} {L : Addr} {m : Str → Option Value} {s : Shared} {Q E : Value → Shared → Prop}
    (B : Below A₀ base outer h₀) (F : Fr h₀ L s.heap m) (X : (heapK w.params).In h₀) (N : News h₀ L s.heap news) (T : Top viewK LO mean mg mb h₀) (hk : cs.kind = .function) (C : DayR w mean mg mb x need news) (hd : dp + need < recursionLimit) (hu : un + 8 * need < cLine)
    (h : ∀ (e : Addr) (g h' : Heap) (tk' : Nat), Fr h₀ L g m → RaisedSN base g (envX cn cs L a ccd cl :: outer) e (.ref 52) news h' → g.UpToSlots h' → E (.ref e) { s with heap := h', toks := tk' }) :
    wpAny (model PySem.Challenge.rw_no0364_01.row.prog w) (ktrTop dp un gd cn cs L a ccd cl outer) (call (.ref 230) [.str x t, .int 0 t', .int x.length t2]) Q E s := conr_use B F X N T hk (C t t' t2) hd hu h
theorem con_use_day {w : World} {mean : ExcName → Option Value} {mg mb : Str → Option Value} {x : Str} {t t' t2 : Tok} {need : Nat} {news : Led} {R : Ret} {dp un : Nat} {gd : Option (List Code)} {cn : Str} {cs : Scope} {a : Addr} {ccd : Value} {cl : List (Str × Addr)} {outer : List Env} {A₀ : Around} {base h₀ : Heap} {L : Addr} {m : Str → Option Value} {s : Shared} {Q E : Value → Shared → Prop}
    (B : Below A₀ base outer h₀) (F : Fr h₀ L s.heap m) (X : (heapK w.params).In h₀) (N : News h₀ L s.heap news) (T : Top viewK LO mean mg mb h₀) (hk : cs.kind = .function) (C : DayC w mean mg mb x need news R) (hd : dp + need < recursionLimit) (hu : un + 8 * need < cLine)
    (h : R h₀ L m s Q) :
    wpAny (model PySem.Challenge.rw_no0364_01.row.prog w) (ktrTop dp un gd cn cs L a ccd cl outer) (call (.ref 230) [.str x t, .int 0 t', .int x.length t2]) Q E s := con_use B F X N T hk (C t t' t2) hd hu h

theorem pass_on {M : Model} {A : Around} {E E' : Value → Shared → Prop} {s' : Shared} {base g g₂ : Heap} {outer : List Env} {L a : Addr} {e : Addr} {m : Str → Option Value} {name : Str} {scope : Scope} {cd : Value} {news : Led}
    (K : Below A base outer g) (F : Fr g L g₂ m) (R : RaisedSN base g₂ (envOf name scope L a cd :: outer) e (.ref 52) news s'.heap) (u : g₂.UpToSlots s'.heap)
    (hQ : ∀ h', RaisedSN base g outer e (.ref 52) news h' → g.UpToSlots h' → E (.ref e) { s' with heap := h' }) :
    wpAny M (A.deeper (envOf name scope L a cd)) (leaving (envOf name scope L a cd) (.ref e)) (fun _ s'' => E (.ref e) s'') E' s' :=
  leave_onSN K F R u fun h' R' _ u' => hQ h' R' u'
section
theorem words36 : True := by
  k_with_none
  (k_with "eval Call Name" => ((with_reducible show wpAny _ _ (eval (Expr.Call (Expr.Name _ _) _ _ _) _) _ _ _); refine Call_ ?_))
  (k_with "call ref" => (k_here; k_dflt (refine conr_use_day (by k_asm) (by k_asm) (by k_asm) (by k_asm) (by k_asm) (by first | exact rfl | assumption) ((by assumption)) (by ktr_room) (by ktr_units) ?_; k_whole); intro e9 g9 h9 tk9 F9 R9 u9))
  trivial
theorem conr_read_day {w : World} {mean : ExcName → Option Value} {mg mb : Str → Option Value} (x : Str) (t : Tok) (news : Led) (hx : x.length ≤ 100) (H : DayR w mean mg mb x 46 news) :
    ConR w mean mg mb 237 [.str x t] 47 (news) := by
  unfold ConR
  k_fill
  intro dp un gd cn cs a ccd cl outer A₀ base h₀ L m s Q E B F X N T hk hd hu hret
  refine wpAny_call ?_
  k_dflt (refine' code_def (binds := [(Str.ofString "text", .str x t)]) ?k1 ?k2 ?k3 ?k4 ?k5 ?kA ?kF ?kK ?k6 ?k7 ?k8 ?k9 ?kB ?_ ?c2 ?c3 ?c4 ?c5; (case kA => exact rfl); (case kF => exact rfl); (case kK => assumption); (case k1 => k_asm); (case k2 => k_asm); (case k3 => k_asm); (case k4 => k_asm); (case k5 => k_asm); (case k6 => k_is); (case k7 => k_is); (case k8 => ktr_room); (case k9 => exact BindsTo.of_eq rfl); (case c5 => decide); (case kB => exact locs rfl); (case c2 => exact rfl); (case c3 => exact rfl); (case c4 => exact rfl); k_whole)
  intro g' L' h' FG' F' N' B' X' T'
  dsimp only [List.reverse, List.reverseAux] at F' ⊢
  try k_lift B'
  try k_fold
  have hx' := hx
  unfold DayR at H
  k_steps
  all_goals exact pass_on (E := E) (by k_asm) (by assumption) (by assumption) (by assumption) (fun h' R u => hret _ _ _ _ (by k_asm) R u)

theorem words37 : True := by
  k_with_none
  trivial
end
section
theorem words38 : True := by
  k_with_none
  (k_with "eval Call Name" => ((with_reducible show wpAny _ _ (eval (Expr.Call (Expr.Name _ _) _ _ _) _) _ _ _); refine Call_ ?_))
  (k_with "call ref" => (k_here; k_dflt (refine con_use_day (by k_asm) (by k_asm) (by k_asm) (by k_asm) (by k_asm) (by first | exact rfl | assumption) ((by assumption)) (by ktr_room) (by ktr_units) ?_); intro x9 t91 t92 t93 h9 tk9 F9 N9 lt9; (try dsimp only); (try k_fold)))
  trivial
theorem con_read_day {w : World} {mean : ExcName → Option Value} {mg mb : Str → Option Value} (x : Str) (t : Tok) (y m' d : Int) (news : Led) (hx : x.length ≤ 100) (H : DayC w mean mg mb x 40 news (RT3 news y m' d)) :
    Con w mean mg mb 237 [.str x t] 41 news (RT3 news y m' d) := by
  unfold Con
  k_fill
  intro dp un gd cn cs a ccd cl outer A₀ base h₀ L m s Q E B F X N T hk hd hu hret
  refine wpAny_call ?_
  k_dflt (refine' code_def (binds := [(Str.ofString "text", .str x t)]) ?k1 ?k2 ?k3 ?k4 ?k5 ?kA ?kF ?kK ?k6 ?k7 ?k8 ?k9 ?kB ?_ ?c2 ?c3 ?c4 ?c5; (case kA => exact rfl); (case kF => exact rfl); (case kK => assumption); (case k1 => k_asm); (case k2 => k_asm); (case k3 => k_asm); (case k4 => k_asm); (case k5 => k_asm); (case k6 => k_is); (case k7 => k_is); (case k8 => ktr_room); (case k9 => exact BindsTo.of_eq rfl); (case c5 => decide); (case kB => exact locs rfl); (case c2 => exact rfl); (case c3 => exact rfl); (case c4 => exact rfl); k_whole)
  intro g' L' h' FG' F' N' B' X' T'
  dsimp only [List.reverse, List.reverseAux] at F' ⊢
  try k_lift B'
  try k_fold
  have hx' := hx
  unfold DayC at H
  k_steps
  all_goals exact hret _ _ _ _ _ _ (by k_asm) (cb_drop (by k_asm) (by kcj_all)) (by assumption)

theorem words39 : True := by
  k_with_none
  trivial
end

end
end
end Mine
namespace Mine
section
open PySem PySem.W PyProof.Rows PySem.Spec PySem.Calls
noncomputable section
def bads : List Str := [(Str.ofString ""), (Str.ofString "1-Jan"), (Str.ofString "1-Jan-199"), (Str.ofString "001-Jan-1994"), (Str.ofString "1 -Jan-1994"), (Str.ofString "30-Feb-1994"), (Str.ofString "0-Jan-1994"), (Str.ofString "1-Jam-1994"), (Str.ofString "1-Jan-0000"), (Str.ofString "1-Jan-1994-"), (Str.ofString "-Jan-1994"), (Str.ofString "1-Jan-19x4"), (Str.ofString "29-Feb-1900")]
theorem bads_len (v : Nat) : (bads.getD v Str.empty).length ≤ 100 := by
  rcases Nat.lt_or_ge v 13 with h | h
  · have : ∀ v, v < 13 → (bads.getD v Str.empty).length ≤ 100 := by decide +kernel
    exact this v h
  · rw [List.getD_eq_getElem?_getD, List.getElem?_eq_none (by exact h)]; decide
theorem dayr_bad {w : World} {mean : ExcName → Option Value} {mg mb : Str → Option Value} (v : Nat) (hv : v < 13) (news : Led) : DayR w mean mg mb (bads.getD v Str.empty) 46 news := by
  intro t t' t2
  match v, hv with
  | 0, _ => exact conr_di1 (Str.ofString "") (Str.ofString "") t t' t2 news (by decide +kernel) (by decide +kernel)
  | 1, _ => exact conr_di2 (Str.ofString "1-Jan") (Str.ofString "1") (Str.ofString "Jan") t t' t2 news (by decide +kernel) (by decide +kernel)
  | 2, _ => exact conr_dil2 (Str.ofString "1-Jan-199") (Str.ofString "1") (Str.ofString "Jan") (Str.ofString "199") t t' t2 news (by decide +kernel) (by decide +kernel) (by decide +kernel) (by decide +kernel) (by decide +kernel) (by decide +kernel) (by decide +kernel) (by decide +kernel) (by decide +kernel) (by decide +kernel) (by decide +kernel) (by decide +kernel) (by decide +kernel)
  | 3, _ => exact conr_dil0 (Str.ofString "001-Jan-1994") (Str.ofString "001") (Str.ofString "Jan") (Str.ofString "1994") t t' t2 news (by decide +kernel) (by decide +kernel) (by decide +kernel) (by decide +kernel) (by decide +kernel) (by decide +kernel) (by decide +kernel) (by decide +kernel) (by decide +kernel) (by decide +kernel) (by decide +kernel) (by decide +kernel)
  | 4, _ => exact conr_dif0 (Str.ofString "1 -Jan-1994") (Str.ofString "1 ") (Str.ofString "Jan") (Str.ofString "1994") t t' t2 news (by decide +kernel) (by decide +kernel) (by decide +kernel) (by decide +kernel) (by decide +kernel) (by decide +kernel) (by decide +kernel) (by decide +kernel) (by decide +kernel)
  | 5, _ => exact conr_did (Str.ofString "30-Feb-1994") (Str.ofString "30") (Str.ofString "Feb") (Str.ofString "1994") t t' t2 news (by decide +kernel) (by decide +kernel) (by decide +kernel) (by decide +kernel) (by decide +kernel) (by decide +kernel) (by decide +kernel) (by decide +kernel) (by decide +kernel) (by decide +kernel) (by decide +kernel) (by decide +kernel) (1994) (30) (by decide +kernel) (by decide +kernel) (by decide +kernel)
  | 6, _ => exact conr_did (Str.ofString "0-Jan-1994") (Str.ofString "0") (Str.ofString "Jan") (Str.ofString "1994") t t' t2 news (by decide +kernel) (by decide +kernel) (by decide +kernel) (by decide +kernel) (by decide +kernel) (by decide +kernel) (by decide +kernel) (by decide +kernel) (by decide +kernel) (by decide +kernel) (by decide +kernel) (by decide +kernel) (1994) (0) (by decide +kernel) (by decide +kernel) (by decide +kernel)
  | 7, _ => exact conr_did (Str.ofString "1-Jam-1994") (Str.ofString "1") (Str.ofString "Jam") (Str.ofString "1994") t t' t2 news (by decide +kernel) (by decide +kernel) (by decide +kernel) (by decide +kernel) (by decide +kernel) (by decide +kernel) (by decide +kernel) (by decide +kernel) (by decide +kernel) (by decide +kernel) (by decide +kernel) (by decide +kernel) (1994) (1) (by decide +kernel) (by decide +kernel) (by decide +kernel)
  | 8, _ => exact conr_did (Str.ofString "1-Jan-0000") (Str.ofString "1") (Str.ofString "Jan") (Str.ofString "0000") t t' t2 news (by decide +kernel) (by decide +kernel) (by decide +kernel) (by decide +kernel) (by decide +kernel) (by decide +kernel) (by decide +kernel) (by decide +kernel) (by decide +kernel) (by decide +kernel) (by decide +kernel) (by decide +kernel) (0) (1) (by decide +kernel) (by decide +kernel) (by decide +kernel)
  | 9, _ => exact conr_di4 (Str.ofString "1-Jan-1994-") (Str.ofString "1") (Str.ofString "Jan") (Str.ofString "1994") (Str.ofString "") t t' t2 news (by decide +kernel) (by decide +kernel)
  | 10, _ => exact conr_dif0 (Str.ofString "-Jan-1994") (Str.ofString "") (Str.ofString "Jan") (Str.ofString "1994") t t' t2 news (by decide +kernel) (by decide +kernel) (by decide +kernel) (by decide +kernel) (by decide +kernel) (by decide +kernel) (by decide +kernel) (by decide +kernel) (by decide +kernel)
  | 11, _ => exact conr_dif2 (Str.ofString "1-Jan-19x4") (Str.ofString "1") (Str.ofString "Jan") (Str.ofString "19x4") t t' t2 news (by decide +kernel) (by decide +kernel) (by decide +kernel) (by decide +kernel) (by decide +kernel) (by decide +kernel) (by decide +kernel) (by decide +kernel) (by decide +kernel) (by decide +kernel)
  | 12, _ => exact conr_did (Str.ofString "29-Feb-1900") (Str.ofString "29") (Str.ofString "Feb") (Str.ofString "1900") t t' t2 news (by decide +kernel) (by decide +kernel) (by decide +kernel) (by decide +kernel) (by decide +kernel) (by decide +kernel) (by decide +kernel) (by decide +kernel) (by decide +kernel) (by decide +kernel) (by decide +kernel) (by decide +kernel) (1900) (29) (by decide +kernel) (by decide +kernel) (by decide +kernel)
theorem conr_read_bad {w : World} {mean : ExcName → Option Value} {mg mb : Str → Option Value} (v : Nat) (hv : v < 13) (t : Tok) (news : Led) : ConR w mean mg mb 237 [.str (bads.getD v Str.empty) t] 47 news :=
  conr_read_day _ t news (bads_len v) (dayr_bad v hv news)

end
end
end Mine
namespace Mine
section
open PySem PySem.W PyProof.Rows PySem.Spec PySem.Calls
noncomputable section
abbrev momE (w : World) (y mo d hh mi ss z : Int) (ty tmo td thh tmi tss tz ky kmo kd khh kmi kss kz : Tok) : List DictEntry := [⟨PyData.keyHash w.params (Str.ofString "year"), .str (Str.ofString "year") ky, .int y ty⟩, ⟨PyData.keyHash w.params (Str.ofString "month"), .str (Str.ofString "month") kmo, .int mo tmo⟩, ⟨PyData.keyHash w.params (Str.ofString "day"), .str (Str.ofString "day") kd, .int d td⟩, ⟨PyData.keyHash w.params (Str.ofString "hour"), .str (Str.ofString "hour") khh, .int hh thh⟩, ⟨PyData.keyHash w.params (Str.ofString "minute"), .str (Str.ofString "minute") kmi, .int mi tmi⟩, ⟨PyData.keyHash w.params (Str.ofString "second"), .str (Str.ofString "second") kss, .int ss tss⟩, ⟨PyData.keyHash w.params (Str.ofString "zone"), .str (Str.ofString "zone") kz, .int z tz⟩]
/-- a new Moment of seven numbers comes back -/
abbrev RM (w : World) (news : Led) (y mo d hh mi ss z : Int) : Ret := fun h₀ L m s Q => ∀ (x dx : Nat) (ty tmo td thh tmi tss tz ky kmo kd khh kmi kss kz : Tok) (h' : Heap) (tk' : Nat), Fr h₀ L h' m → News h₀ L h' ((x, instObj 92 dx) :: (dx, dictOf (momE w y mo d hh mi ss z ty tmo td thh tmi tss tz ky kmo kd khh kmi kss kz) 7) :: news) → (∀ p ∈ news, p.1 < dx) → dx < x → Q (.ref x) { s with heap := h', toks := tk' }
/-- a new tuple of seven ints comes back -/
abbrev RT7 (news : Led) (a b c d e f g : Int) : Ret := fun h₀ L m s Q => ∀ (x : Nat) (t1 t2 t3 t4 t5 t6 t7 : Tok) (h' : Heap) (tk' : Nat), Fr h₀ L h' m → News h₀ L h' ((x, tup [.int a t1, .int b t2, .int c t3, .int d t4, .int e t5, .int f t6, .int g t7]) :: news) → (∀ p ∈ news, p.1 < x) → Q (.ref x) { s with heap := h', toks := tk' }
def inst (y mo d hh mi ss z : Int) : Int := dnum y mo d * 86400 + hh * 3600 + (mi - z) * 60 + ss
def isMom (y mo d hh mi ss z : Int) : Bool := isDay y mo d && isTime hh mi ss && decide (-5999 ≤ z ∧ z ≤ 5999)
section
theorem words40 : True := by
  k_with_none
  (k_with "eval Call Name" => ((with_reducible show wpAny _ _ (eval (Expr.Call (Expr.Name _ _) _ _ _) _) _ _ _); refine Call_ ?_))
  trivial

theorem con_moment {w : World} {mean : ExcName → Option Value} {mg mb : Str → Option Value} (y mo d hh mi ss z : Int) (ty tmo td thh tmi tss tz : Tok) (news : Led) :
    Con w mean mg mb 92 [.int y ty, .int mo tmo, .int d td, .int hh thh, .int mi tmi, .int ss tss, .int z tz] 3 news (RM w news y mo d hh mi ss z) := by
  unfold Con
  k_fill
  intro dp un gd cn cs a ccd cl outer A₀ base h₀ L m s Q E B F X N T hk hd hu hret
  refine call_cls (fI := 82) (by k_asm) (by k_asm) (by k_asm) (by k_is) (by k_is) (by k_is) ?_
  intro (x : Nat) (dx : Nat) h1 F1 N1 lt1 lt2
  have lt2 : dx < x := lt2
  k_dflt (refine' code_def (binds := [(Str.ofString "self", .ref x), (Str.ofString "year", .int y ty), (Str.ofString "month", .int mo tmo), (Str.ofString "day", .int d td), (Str.ofString "hour", .int hh thh), (Str.ofString "minute", .int mi tmi), (Str.ofString "second", .int ss tss), (Str.ofString "zone", .int z tz)]) ?k1 ?k2 ?k3 ?k4 ?k5 ?kA ?kF ?kK ?k6 ?k7 ?k8 ?k9 ?kB ?_ ?c2 ?c3 ?c4 ?c5; (case kA => exact rfl); (case kF => exact rfl); (case kK => assumption); (case k1 => k_asm); (case k2 => k_asm); (case k3 => k_asm); (case k4 => k_asm); (case k5 => k_asm); (case k6 => k_is); (case k7 => k_is); (case k8 => ktr_room); (case k9 => exact BindsTo.of_eq rfl); (case c5 => decide); (case kB => exact locs rfl); (case c2 => exact rfl); (case c3 => exact rfl); (case c4 => exact rfl); k_whole)
  have ne1 : ∀ p ∈ news, p.1 ≠ dx := fun p hp => Nat.ne_of_lt (lt1 p hp)
  intro g' L' h' FG' F' N' B' X' T'
  dsimp only [List.reverse, List.reverseAux] at F' ⊢
  try k_lift B'
  try k_fold
  k_steps
  all_goals exact hret _ _ _ _ _ _ _ _ _ _ _ _ _ _ _ _ _ _ (by k_asm) (by k_asm) lt1 lt2
theorem con_told {w : World} {mean : ExcName → Option Value} {mg mb : Str → Option Value} (x dx : Nat) (y mo d hh mi ss z : Int) (ty tmo td thh tmi tss tz ky kmo kd khh kmi kss kz : Tok) (news : Led) (ne1 : ∀ p ∈ news, p.1 ≠ dx) (ne2 : dx ≠ x) :
    Con w mean mg mb 89 [.ref x] 2 ((x, instObj 92 dx) :: (dx, dictOf (momE w y mo d hh mi ss z ty tmo td thh tmi tss tz ky kmo kd khh kmi kss kz) 7) :: news) (RT7 ((x, instObj 92 dx) :: (dx, dictOf (momE w y mo d hh mi ss z ty tmo td thh tmi tss tz ky kmo kd khh kmi kss kz) 7) :: news) y mo d hh mi ss z) := by
  unfold Con
  k_fill
  intro dp un gd cn cs a ccd cl outer A₀ base h₀ L m s Q E B F X N T hk hd hu hret
  refine wpAny_call ?_
  k_dflt (refine' code_def (binds := [(Str.ofString "self", .ref x)]) ?k1 ?k2 ?k3 ?k4 ?k5 ?kA ?kF ?kK ?k6 ?k7 ?k8 ?k9 ?kB ?_ ?c2 ?c3 ?c4 ?c5; (case kA => exact rfl); (case kF => exact rfl); (case kK => assumption); (case k1 => k_asm); (case k2 => k_asm); (case k3 => k_asm); (case k4 => k_asm); (case k5 => k_asm); (case k6 => k_is); (case k7 => k_is); (case k8 => ktr_room); (case k9 => exact BindsTo.of_eq rfl); (case c5 => decide); (case kB => exact locs rfl); (case c2 => exact rfl); (case c3 => exact rfl); (case c4 => exact rfl); k_whole)
  intro g' L' h' FG' F' N' B' X' T'
  dsimp only [List.reverse, List.reverseAux] at F' ⊢
  try k_lift B'
  try k_fold
  k_steps
  all_goals exact hret _ _ _ _ _ _ _ _ _ _ (by k_asm) (by k_asm) (by first | assumption | exact tb_ltOf (by assumption) | exact tb_ltOf (And.right (by assumption)) | exact tb_ltOf (And.right (And.right (by assumption))))

theorem words41 : True := by
  k_with_none
  trivial
end

end
end
end Mine
namespace Mine
section
open PySem PySem.W PyProof.Rows PySem.Spec PySem.Calls
noncomputable section
theorem con_is_dayB {w : World} {mean : ExcName → Option Value} {mg mb : Str → Option Value} (y m' d : Int) (t t' t2 : Tok) (b : Bool) (news : Led) (h : isDay y m' d = b) : Con w mean mg mb 145 [.int y t, .int m' t', .int d t2] 3 news (RB news b) := h ▸ con_is_day y m' d t t' t2 news
theorem con_is_timeB {w : World} {mean : ExcName → Option Value} {mg mb : Str → Option Value} (y m' d : Int) (t t' t2 : Tok) (b : Bool) (news : Led) (h : isTime y m' d = b) : Con w mean mg mb 152 [.int y t, .int m' t', .int d t2] 1 news (RB news b) := h ▸ con_is_time y m' d t t' t2 news
section
theorem words42 : True := by
  k_with_none
  (k_with "eval Call Name" => ((with_reducible show wpAny _ _ (eval (Expr.Call (Expr.Name _ _) _ _ _) _) _ _ _); refine Call_ ?_))
  (k_with "call ref" => (k_here; k_dflt (refine con_use (by k_asm) (by k_asm) (by k_asm) (by k_asm) (by k_asm) (by first | exact rfl | assumption) (con_day_number _ _ _ _ _ _ _ (by omega) (by omega) (by omega) (by omega)) (by ktr_room) (by ktr_units) ?_); intro t9 h9 tk9 F9 N9; (try dsimp only); (try k_fold)))
  trivial
theorem con_instant_of {w : World} {mean : ExcName → Option Value} {mg mb : Str → Option Value} (x dx : Nat) (y mo d hh mi ss z : Int) (ty tmo td thh tmi tss tz ky kmo kd khh kmi kss kz : Tok) (news : Led) (ne1 : ∀ p ∈ news, p.1 ≠ dx) (ne2 : dx ≠ x) (hy1 : -1000000 ≤ y) (hy2 : y ≤ 1000000) (hm1 : 1 ≤ mo) (hm2 : mo ≤ 13) :
    Con w mean mg mb 166 [.ref x] 4 ((x, instObj 92 dx) :: (dx, dictOf (momE w y mo d hh mi ss z ty tmo td thh tmi tss tz ky kmo kd khh kmi kss kz) 7) :: news) (RI ((x, instObj 92 dx) :: (dx, dictOf (momE w y mo d hh mi ss z ty tmo td thh tmi tss tz ky kmo kd khh kmi kss kz) 7) :: news) (inst y mo d hh mi ss z)) := by
  unfold Con
  k_fill
  intro dp un gd cn cs a ccd cl outer A₀ base h₀ L m s Q E B F X N T hk hd hu hret
  refine wpAny_call ?_
  k_dflt (refine' code_def (binds := [(Str.ofString "moment", .ref x)]) ?k1 ?k2 ?k3 ?k4 ?k5 ?kA ?kF ?kK ?k6 ?k7 ?k8 ?k9 ?kB ?_ ?c2 ?c3 ?c4 ?c5; (case kA => exact rfl); (case kF => exact rfl); (case kK => assumption); (case k1 => k_asm); (case k2 => k_asm); (case k3 => k_asm); (case k4 => k_asm); (case k5 => k_asm); (case k6 => k_is); (case k7 => k_is); (case k8 => ktr_room); (case k9 => exact BindsTo.of_eq rfl); (case c5 => decide); (case kB => exact locs rfl); (case c2 => exact rfl); (case c3 => exact rfl); (case c4 => exact rfl); k_whole)
  intro g' L' h' FG' F' N' B' X' T'
  dsimp only [List.reverse, List.reverseAux] at F' ⊢
  try k_lift B'
  try k_fold
  k_steps
  all_goals (refine ri_end hret (by k_asm) (cb_drop (by k_asm) (by kcj_all)) ?_; unfold inst; rfl)

theorem words43 : True := by
  (k_with "call ref" => (k_here; k_dflt (refine con_use (by k_asm) (by k_asm) (by k_asm) (by k_asm) (by k_asm) (by first | exact rfl | assumption) (con_is_dayB _ _ _ _ _ _ _ _ (by assumption)) (by ktr_room) (by ktr_units) ?_); intro h9 tk9 F9 N9; (try dsimp only); (try k_fold)))
  (k_with "call ref" => (k_here; k_dflt (refine con_use (by k_asm) (by k_asm) (by k_asm) (by k_asm) (by k_asm) (by first | exact rfl | assumption) (con_is_timeB _ _ _ _ _ _ _ _ (by assumption)) (by ktr_room) (by ktr_units) ?_); intro h9 tk9 F9 N9; (try dsimp only); (try k_fold)))
  (k_with "exec Raise some none" => (exfalso; omega))
  trivial
theorem con_check_moment {w : World} {mean : ExcName → Option Value} {mg mb : Str → Option Value} (x dx : Nat) (y mo d hh mi ss z : Int) (ty tmo td thh tmi tss tz ky kmo kd khh kmi kss kz : Tok) (news : Led) (ne1 : ∀ p ∈ news, p.1 ≠ dx) (ne2 : dx ≠ x) (hd1 : isDay y mo d = true) (ht1 : isTime hh mi ss = true) (hz1 : -5999 ≤ z) (hz2 : z ≤ 5999) :
    Con w mean mg mb 159 [.ref x] 4 ((x, instObj 92 dx) :: (dx, dictOf (momE w y mo d hh mi ss z ty tmo td thh tmi tss tz ky kmo kd khh kmi kss kz) 7) :: news) (RN ((x, instObj 92 dx) :: (dx, dictOf (momE w y mo d hh mi ss z ty tmo td thh tmi tss tz ky kmo kd khh kmi kss kz) 7) :: news)) := by
  unfold Con
  k_fill
  intro dp un gd cn cs a ccd cl outer A₀ base h₀ L m s Q E B F X N T hk hd hu hret
  refine wpAny_call ?_
  k_dflt (refine' code_def (binds := [(Str.ofString "moment", .ref x)]) ?k1 ?k2 ?k3 ?k4 ?k5 ?kA ?kF ?kK ?k6 ?k7 ?k8 ?k9 ?kB ?_ ?c2 ?c3 ?c4 ?c5; (case kA => exact rfl); (case kF => exact rfl); (case kK => assumption); (case k1 => k_asm); (case k2 => k_asm); (case k3 => k_asm); (case k4 => k_asm); (case k5 => k_asm); (case k6 => k_is); (case k7 => k_is); (case k8 => ktr_room); (case k9 => exact BindsTo.of_eq rfl); (case c5 => decide); (case kB => exact locs rfl); (case c2 => exact rfl); (case c3 => exact rfl); (case c4 => exact rfl); k_whole)
  intro g' L' h' FG' F' N' B' X' T'
  dsimp only [List.reverse, List.reverseAux] at F' ⊢
  try k_lift B'
  try k_fold
  k_steps
  all_goals exact hret _ _ (by k_asm) (cb_drop (by k_asm) (by kcj_all))

theorem words44 : True := by
  k_with_none
  trivial
end
section
theorem words45 : True := by
  k_with_none
  (k_with "eval Call Name" => ((with_reducible show wpAny _ _ (eval (Expr.Call (Expr.Name _ _) _ _ _) _) _ _ _); refine Call_ ?_))
  (k_with "call ref" => (k_here; k_dflt (refine con_use (by k_asm) (by k_asm) (by k_asm) (by k_asm) (by k_asm) (by first | exact rfl | assumption) (con_is_dayB _ _ _ _ _ _ _ _ (by assumption)) (by ktr_room) (by ktr_units) ?_); intro h9 tk9 F9 N9; (try dsimp only); (try k_fold)))
  (k_with "call ref" => (k_here; k_dflt (refine con_use (by k_asm) (by k_asm) (by k_asm) (by k_asm) (by k_asm) (by first | exact rfl | assumption) (con_is_timeB _ _ _ _ _ _ _ _ (by assumption)) (by ktr_room) (by ktr_units) ?_); intro h9 tk9 F9 N9; (try dsimp only); (try k_fold)))
  (k_with "exec Raise some none" => (k_here; k_dflt (refine ex_raise (by exact rfl) ?_; k_whole)))
  (k_with "call ref" => (k_here; k_dflt (first | (refine wf_call1 (by k_asm) (by k_asm) (by k_asm) (by k_asm) (by k_asm) (by first | exact rfl | assumption) (by ktr_room) ?_; k_whole) | (refine wf_call2 (by k_asm) (by k_asm) (by k_asm) (by k_asm) (by k_asm) (by first | exact rfl | assumption) (by ktr_room) ?_; k_whole)); intro t9 dd9 t19 h9 tk9 F9 N9 lt9; (try dsimp only); (try k_fold)))
  trivial
theorem conr_cm_day {w : World} {mean : ExcName → Option Value} {mg mb : Str → Option Value} (x dx : Nat) (y mo d hh mi ss z : Int) (ty tmo td thh tmi tss tz ky kmo kd khh kmi kss kz : Tok) (news : Led) (ne1 : ∀ p ∈ news, p.1 ≠ dx) (ne2 : dx ≠ x) (hd1 : isDay y mo d = false) :
    ConR w mean mg mb 159 [.ref x] 8 ((x, instObj 92 dx) :: (dx, dictOf (momE w y mo d hh mi ss z ty tmo td thh tmi tss tz ky kmo kd khh kmi kss kz) 7) :: news) := by
  unfold ConR
  k_fill
  intro dp un gd cn cs a ccd cl outer A₀ base h₀ L m s Q E B F X N T hk hd hu hret
  refine wpAny_call ?_
  k_dflt (refine' code_def (binds := [(Str.ofString "moment", .ref x)]) ?k1 ?k2 ?k3 ?k4 ?k5 ?kA ?kF ?kK ?k6 ?k7 ?k8 ?k9 ?kB ?_ ?c2 ?c3 ?c4 ?c5; (case kA => exact rfl); (case kF => exact rfl); (case kK => assumption); (case k1 => k_asm); (case k2 => k_asm); (case k3 => k_asm); (case k4 => k_asm); (case k5 => k_asm); (case k6 => k_is); (case k7 => k_is); (case k8 => ktr_room); (case k9 => exact BindsTo.of_eq rfl); (case c5 => decide); (case kB => exact locs rfl); (case c2 => exact rfl); (case c3 => exact rfl); (case c4 => exact rfl); k_whole)
  intro g' L' h' FG' F' N' B' X' T'
  dsimp only [List.reverse, List.reverseAux] at F' ⊢
  try k_lift B'
  try k_fold
  k_steps
  all_goals first | exact xp_end (E := E) (by k_asm) (by k_asm) (by k_asm) (by k_asm) (by assumption) (by kcj_all) rfl (fun h' R u => hret _ _ _ _ (by k_asm) R u)

theorem words46 : True := by
  k_with_none
  trivial
end
section
theorem words47 : True := by
  k_with_none
  (k_with "eval Call Name" => ((with_reducible show wpAny _ _ (eval (Expr.Call (Expr.Name _ _) _ _ _) _) _ _ _); refine Call_ ?_))
  (k_with "call ref" => (k_here; k_dflt (refine con_use (by k_asm) (by k_asm) (by k_asm) (by k_asm) (by k_asm) (by first | exact rfl | assumption) (con_is_dayB _ _ _ _ _ _ _ _ (by assumption)) (by ktr_room) (by ktr_units) ?_); intro h9 tk9 F9 N9; (try dsimp only); (try k_fold)))
  (k_with "call ref" => (k_here; k_dflt (refine con_use (by k_asm) (by k_asm) (by k_asm) (by k_asm) (by k_asm) (by first | exact rfl | assumption) (con_is_timeB _ _ _ _ _ _ _ _ (by assumption)) (by ktr_room) (by ktr_units) ?_); intro h9 tk9 F9 N9; (try dsimp only); (try k_fold)))
  (k_with "exec Raise some none" => (k_here; k_dflt (refine ex_raise (by exact rfl) ?_; k_whole)))
  (k_with "call ref" => (k_here; k_dflt (first | (refine wf_call1 (by k_asm) (by k_asm) (by k_asm) (by k_asm) (by k_asm) (by first | exact rfl | assumption) (by ktr_room) ?_; k_whole) | (refine wf_call2 (by k_asm) (by k_asm) (by k_asm) (by k_asm) (by k_asm) (by first | exact rfl | assumption) (by ktr_room) ?_; k_whole)); intro t9 dd9 t19 h9 tk9 F9 N9 lt9; (try dsimp only); (try k_fold)))
  trivial
theorem conr_cm_time {w : World} {mean : ExcName → Option Value} {mg mb : Str → Option Value} (x dx : Nat) (y mo d hh mi ss z : Int) (ty tmo td thh tmi tss tz ky kmo kd khh kmi kss kz : Tok) (news : Led) (ne1 : ∀ p ∈ news, p.1 ≠ dx) (ne2 : dx ≠ x) (hd1 : isDay y mo d = true) (ht1 : isTime hh mi ss = false) :
    ConR w mean mg mb 159 [.ref x] 8 ((x, instObj 92 dx) :: (dx, dictOf (momE w y mo d hh mi ss z ty tmo td thh tmi tss tz ky kmo kd khh kmi kss kz) 7) :: news) := by
  unfold ConR
  k_fill
  intro dp un gd cn cs a ccd cl outer A₀ base h₀ L m s Q E B F X N T hk hd hu hret
  refine wpAny_call ?_
  k_dflt (refine' code_def (binds := [(Str.ofString "moment", .ref x)]) ?k1 ?k2 ?k3 ?k4 ?k5 ?kA ?kF ?kK ?k6 ?k7 ?k8 ?k9 ?kB ?_ ?c2 ?c3 ?c4 ?c5; (case kA => exact rfl); (case kF => exact rfl); (case kK => assumption); (case k1 => k_asm); (case k2 => k_asm); (case k3 => k_asm); (case k4 => k_asm); (case k5 => k_asm); (case k6 => k_is); (case k7 => k_is); (case k8 => ktr_room); (case k9 => exact BindsTo.of_eq rfl); (case c5 => decide); (case kB => exact locs rfl); (case c2 => exact rfl); (case c3 => exact rfl); (case c4 => exact rfl); k_whole)
  intro g' L' h' FG' F' N' B' X' T'
  dsimp only [List.reverse, List.reverseAux] at F' ⊢
  try k_lift B'
  try k_fold
  k_steps
  all_goals first | exact xp_end (E := E) (by k_asm) (by k_asm) (by k_asm) (by k_asm) (by assumption) (by kcj_all) rfl (fun h' R u => hret _ _ _ _ (by k_asm) R u)

theorem words48 : True := by
  k_with_none
  trivial
end
section
theorem words49 : True := by
  k_with_none
  (k_with "eval Call Name" => ((with_reducible show wpAny _ _ (eval (Expr.Call (Expr.Name _ _) _ _ _) _) _ _ _); refine Call_ ?_))
  (k_with "call ref" => (k_here; k_dflt (refine con_use (by k_asm) (by k_asm) (by k_asm) (by k_asm) (by k_asm) (by first | exact rfl | assumption) (con_is_dayB _ _ _ _ _ _ _ _ (by assumption)) (by ktr_room) (by ktr_units) ?_); intro h9 tk9 F9 N9; (try dsimp only); (try k_fold)))
  (k_with "call ref" => (k_here; k_dflt (refine con_use (by k_asm) (by k_asm) (by k_asm) (by k_asm) (by k_asm) (by first | exact rfl | assumption) (con_is_timeB _ _ _ _ _ _ _ _ (by assumption)) (by ktr_room) (by ktr_units) ?_); intro h9 tk9 F9 N9; (try dsimp only); (try k_fold)))
  (k_with "exec Raise some none" => (k_here; k_dflt (refine ex_raise (by exact rfl) ?_; k_whole)))
  (k_with "call ref" => (k_here; k_dflt (first | (refine wf_call1 (by k_asm) (by k_asm) (by k_asm) (by k_asm) (by k_asm) (by first | exact rfl | assumption) (by ktr_room) ?_; k_whole) | (refine wf_call2 (by k_asm) (by k_asm) (by k_asm) (by k_asm) (by k_asm) (by first | exact rfl | assumption) (by ktr_room) ?_; k_whole)); intro t9 dd9 t19 h9 tk9 F9 N9 lt9; (try dsimp only); (try k_fold)))
  (k_with "LeaveK" => (exfalso; omega))
  trivial
theorem conr_cm_zone {w : World} {mean : ExcName → Option Value} {mg mb : Str → Option Value} (x dx : Nat) (y mo d hh mi ss z : Int) (ty tmo td thh tmi tss tz ky kmo kd khh kmi kss kz : Tok) (news : Led) (ne1 : ∀ p ∈ news, p.1 ≠ dx) (ne2 : dx ≠ x) (hd1 : isDay y mo d = true) (ht1 : isTime hh mi ss = true) (hz1 : z < -5999 ∨ 5999 < z) :
    ConR w mean mg mb 159 [.ref x] 8 ((x, instObj 92 dx) :: (dx, dictOf (momE w y mo d hh mi ss z ty tmo td thh tmi tss tz ky kmo kd khh kmi kss kz) 7) :: news) := by
  unfold ConR
  k_fill
  intro dp un gd cn cs a ccd cl outer A₀ base h₀ L m s Q E B F X N T hk hd hu hret
  refine wpAny_call ?_
  k_dflt (refine' code_def (binds := [(Str.ofString "moment", .ref x)]) ?k1 ?k2 ?k3 ?k4 ?k5 ?kA ?kF ?kK ?k6 ?k7 ?k8 ?k9 ?kB ?_ ?c2 ?c3 ?c4 ?c5; (case kA => exact rfl); (case kF => exact rfl); (case kK => assumption); (case k1 => k_asm); (case k2 => k_asm); (case k3 => k_asm); (case k4 => k_asm); (case k5 => k_asm); (case k6 => k_is); (case k7 => k_is); (case k8 => ktr_room); (case k9 => exact BindsTo.of_eq rfl); (case c5 => decide); (case kB => exact locs rfl); (case c2 => exact rfl); (case c3 => exact rfl); (case c4 => exact rfl); k_whole)
  intro g' L' h' FG' F' N' B' X' T'
  dsimp only [List.reverse, List.reverseAux] at F' ⊢
  try k_lift B'
  try k_fold
  k_steps
  all_goals first | exact xp_end (E := E) (by k_asm) (by k_asm) (by k_asm) (by k_asm) (by assumption) (by kcj_all) rfl (fun h' R u => hret _ _ _ _ (by k_asm) R u)

theorem words50 : True := by
  k_with_none
  trivial
end

end
end
end Mine
namespace Mine
section
open PySem PySem.W PyProof.Rows PySem.Spec PySem.Calls
noncomputable section

theorem ne_of_all {news : Led} {D : Nat} (h : ∀ p ∈ news, p.1 < D) : ∀ p ∈ news, p.1 ≠ D := fun p hp => Nat.ne_of_lt (h p hp)
theorem conr_check_moment {w : World} {mean : ExcName → Option Value} {mg mb : Str → Option Value} (x dx : Nat) (y mo d hh mi ss z : Int) (ty tmo td thh tmi tss tz ky kmo kd khh kmi kss kz : Tok) (news : Led) (ne1 : ∀ p ∈ news, p.1 ≠ dx) (ne2 : dx ≠ x) (h : isMom y mo d hh mi ss z = false) : ConR w mean mg mb 159 [.ref x] 8 ((x, instObj 92 dx) :: (dx, dictOf (momE w y mo d hh mi ss z ty tmo td thh tmi tss tz ky kmo kd khh kmi kss kz) 7) :: news) := by
  unfold isMom at h
  cases h1 : isDay y mo d with
  | false => exact conr_cm_day _ _ _ _ _ _ _ _ _ _ _ _ _ _ _ _ _ _ _ _ _ _ _ _ ne1 ne2 h1
  | true =>
    cases h2 : isTime hh mi ss with
    | false => exact conr_cm_time _ _ _ _ _ _ _ _ _ _ _ _ _ _ _ _ _ _ _ _ _ _ _ _ ne1 ne2 h1 h2
    | true =>
      rw [h1, h2] at h
      simp only [Bool.true_and, decide_eq_false_iff_not] at h
      exact conr_cm_zone _ _ _ _ _ _ _ _ _ _ _ _ _ _ _ _ _ _ _ _ _ _ _ _ ne1 ne2 h1 h2 (by omega)

abbrev rHh (a : Int) : Int := Int.fdiv (Int.fmod a 86400) 3600
abbrev rMi (a : Int) : Int := Int.fmod (Int.fdiv (Int.fmod a 86400) 60) 60
abbrev rSs (a : Int) : Int := Int.fmod (Int.fmod a 86400) 60
theorem time_ok (a : Int) : isTime (rHh a) (rMi a) (rSs a) = true := by
  unfold isTime rHh rMi rSs
  rw [decide_eq_true_eq, Int.fmod_eq_emod_of_nonneg a (by decide), Int.fdiv_eq_ediv_of_nonneg _ (by decide), Int.fdiv_eq_ediv_of_nonneg _ (by decide), Int.fmod_eq_emod_of_nonneg _ (by decide), Int.fmod_eq_emod_of_nonneg _ (by decide)]
  omega
theorem lt_sub {news big : Led} {D : Nat} (h : ∀ p ∈ big, p.1 < D) (hs : ∀ p ∈ news, p ∈ big) : ∀ p ∈ news, p.1 < D := fun p hp => h p (hs p hp)
section
theorem words51 : True := by
  k_with_none
  (k_with "eval Call Name" => ((with_reducible show wpAny _ _ (eval (Expr.Call (Expr.Name _ _) _ _ _) _) _ _ _); refine Call_ ?_))
  (k_with "subscriptTail Name Constant ref int" => (k_here; k_dflt (first | (refine item_tupleT (by exact News.isTup (by k_asm) (by k_mem)) (by decide) (by decide) (by rfl) (by rfl) ?_; k_whole) | (refine item_listT (by exact News.isList (by k_asm) (by k_mem)) (by decide) (by decide) (by rfl) ?_; k_whole))))
  (k_with "call ref" => (k_here; k_dflt (refine con_use (by k_asm) (by k_asm) (by k_asm) (by k_asm) (by k_asm) (by first | exact rfl | assumption) (con_day_toldR _ _ _ _ _ _ (by assumption) (by assumption) (by omega) (by omega)) (by ktr_room) (by ktr_units) ?_); intro x9 t91 t92 t93 h9 tk9 F9 N9 lt9; (try k_lt lt9); (try dsimp only); (try k_fold)))
  (k_with "call ref" => (k_here; k_dflt (refine con_use (by k_asm) (by k_asm) (by k_asm) (by k_asm) (by k_asm) (by first | exact rfl | assumption) (con_moment _ _ _ _ _ _ _ _ _ _ _ _ _ _ _) (by ktr_room) (by ktr_units) ?_); intro (x9 : Nat) (dx9 : Nat) q0 q1 q2 q3 q4 q5 q6 q7 q8 q9 q10 q11 q12 q13 h9 tk9 F9 N9 lt9 lt10; have ne9 := ne_of_all lt9; have ne10 := Nat.ne_of_lt lt10; (try dsimp only); (try k_fold)))
  (k_with "call ref" => (k_here; k_dflt (refine con_use (by k_asm) (by k_asm) (by k_asm) (by k_asm) (by k_asm) (by first | exact rfl | assumption) (con_check_moment _ _ _ _ _ _ _ _ _ _ _ _ _ _ _ _ _ _ _ _ _ _ _ _ (by assumption) (by assumption) (by assumption) (by assumption) (by assumption) (by assumption)) (by ktr_room) (by ktr_units) ?_); intro h9 tk9 F9 N9; (try dsimp only); (try k_fold)))
  trivial
theorem con_moment_of {w : World} {mean : ExcName → Option Value} {mg mb : Str → Option Value} (sec z y mo d : Int) (t tz : Tok) (news : Led) (hy1 : -10000 ≤ y) (hy2 : y ≤ 20000) (hv : Valid y mo d) (hn : Int.fdiv (sec + z * 60) 86400 = dnum y mo d) (hday : isDay y mo d = true) (hz1 : -5999 ≤ z) (hz2 : z ≤ 5999) :
    Con w mean mg mb 174 [.int sec t, .int z tz] 12 news (RM w news y mo d (rHh (sec + z * 60)) (rMi (sec + z * 60)) (rSs (sec + z * 60)) z) := by
  unfold Con
  k_fill
  intro dp un gd cn cs a ccd cl outer A₀ base h₀ L m s Q E B F X N T hk hd hu hret
  refine wpAny_call ?_
  k_dflt (refine' code_def (binds := [(Str.ofString "seconds", .int sec t), (Str.ofString "zone", .int z tz)]) ?k1 ?k2 ?k3 ?k4 ?k5 ?kA ?kF ?kK ?k6 ?k7 ?k8 ?k9 ?kB ?_ ?c2 ?c3 ?c4 ?c5; (case kA => exact rfl); (case kF => exact rfl); (case kK => assumption); (case k1 => k_asm); (case k2 => k_asm); (case k3 => k_asm); (case k4 => k_asm); (case k5 => k_asm); (case k6 => k_is); (case k7 => k_is); (case k8 => ktr_room); (case k9 => exact binds_K (by k_in) rfl (by k_is) rfl rfl rfl); (case c5 => decide); (case kB => exact locs rfl); (case c2 => exact rfl); (case c3 => exact rfl); (case c4 => exact rfl); k_whole)
  intro g' L' h' FG' F' N' B' X' T'
  dsimp only [List.reverse, List.reverseAux] at F' ⊢
  try k_lift B'
  try k_fold
  have ht := time_ok (sec + z * 60)
  k_steps
  all_goals exact hret _ _ _ _ _ _ _ _ _ _ _ _ _ _ _ _ _ _ (by k_asm) (cb_drop (by k_asm) (by kcj_all)) (fun p hp => lt_sub (by assumption) (by kcj_all) p hp) (by assumption)

theorem con_moment_of0 {w : World} {mean : ExcName → Option Value} {mg mb : Str → Option Value} (sec y mo d : Int) (t : Tok) (news : Led) (hy1 : -10000 ≤ y) (hy2 : y ≤ 20000) (hv : Valid y mo d) (hn : Int.fdiv (sec + 0 * 60) 86400 = dnum y mo d) (hday : isDay y mo d = true) :
    Con w mean mg mb 174 [.int sec t] 12 news (RM w news y mo d (rHh (sec + 0 * 60)) (rMi (sec + 0 * 60)) (rSs (sec + 0 * 60)) 0) := by
  unfold Con
  k_fill
  intro dp un gd cn cs a ccd cl outer A₀ base h₀ L m s Q E B F X N T hk hd hu hret
  refine wpAny_call ?_
  k_dflt (refine' code_def (binds := [(Str.ofString "seconds", .int sec t), (Str.ofString "zone", .int 0 431)]) ?k1 ?k2 ?k3 ?k4 ?k5 ?kA ?kF ?kK ?k6 ?k7 ?k8 ?k9 ?kB ?_ ?c2 ?c3 ?c4 ?c5; (case kA => exact rfl); (case kF => exact rfl); (case kK => assumption); (case k1 => k_asm); (case k2 => k_asm); (case k3 => k_asm); (case k4 => k_asm); (case k5 => k_asm); (case k6 => k_is); (case k7 => k_is); (case k8 => ktr_room); (case k9 => exact binds_K (by k_in) rfl (by k_is) rfl rfl rfl); (case c5 => decide); (case kB => exact locs rfl); (case c2 => exact rfl); (case c3 => exact rfl); (case c4 => exact rfl); k_whole)
  intro g' L' h' FG' F' N' B' X' T'
  dsimp only [List.reverse, List.reverseAux] at F' ⊢
  try k_lift B'
  try k_fold
  have hz1 : (-5999 : Int) ≤ 0 := by decide
  have hz2 : (0 : Int) ≤ 5999 := by decide
  have ht := time_ok (sec + 0 * 60)
  k_steps
  all_goals exact hret _ _ _ _ _ _ _ _ _ _ _ _ _ _ _ _ _ _ (by k_asm) (cb_drop (by k_asm) (by kcj_all)) (fun p hp => lt_sub (by assumption) (by kcj_all) p hp) (by assumption)

theorem words52 : True := by
  k_with_none
  trivial
end
section
theorem words53 : True := by
  k_with_none
  (k_with "eval Call Name" => ((with_reducible show wpAny _ _ (eval (Expr.Call (Expr.Name _ _) _ _ _) _) _ _ _); refine Call_ ?_))
  (k_with "subscriptTail Name Constant ref int" => (k_here; k_dflt (first | (refine item_tupleT (by exact News.isTup (by k_asm) (by k_mem)) (by decide) (by decide) (by rfl) (by rfl) ?_; k_whole) | (refine item_listT (by exact News.isList (by k_asm) (by k_mem)) (by decide) (by decide) (by rfl) ?_; k_whole))))
  (k_with "call ref" => (k_here; k_dflt (refine con_use (by k_asm) (by k_asm) (by k_asm) (by k_asm) (by k_asm) (by first | exact rfl | assumption) (con_day_toldR _ _ _ _ _ _ (by assumption) (by assumption) (by omega) (by omega)) (by ktr_room) (by ktr_units) ?_); intro x9 t91 t92 t93 h9 tk9 F9 N9 lt9; (try k_lt lt9); (try dsimp only); (try k_fold)))
  (k_with "call ref" => (k_here; k_dflt (refine con_use (by k_asm) (by k_asm) (by k_asm) (by k_asm) (by k_asm) (by first | exact rfl | assumption) (con_moment _ _ _ _ _ _ _ _ _ _ _ _ _ _ _) (by ktr_room) (by ktr_units) ?_); intro (x9 : Nat) (dx9 : Nat) q0 q1 q2 q3 q4 q5 q6 q7 q8 q9 q10 q11 q12 q13 h9 tk9 F9 N9 lt9 lt10; have ne9 := ne_of_all lt9; have ne10 := Nat.ne_of_lt lt10; (try dsimp only); (try k_fold)))
  (k_with "call ref" => (k_here; k_dflt (refine conr_use (by k_asm) (by k_asm) (by k_asm) (by k_asm) (by k_asm) (by first | exact rfl | assumption) (conr_check_moment _ _ _ _ _ _ _ _ _ _ _ _ _ _ _ _ _ _ _ _ _ _ _ _ (by assumption) (by assumption) (by assumption)) (by ktr_room) (by ktr_units) ?_; k_whole); intro e9 g9 h9 tk9 F9 R9 u9))
  trivial
theorem conr_moment_of0 {w : World} {mean : ExcName → Option Value} {mg mb : Str → Option Value} (sec y mo d : Int) (t : Tok) (news : Led) (hy1 : -10000 ≤ y) (hy2 : y ≤ 20000) (hv : Valid y mo d) (hn : Int.fdiv (sec + 0 * 60) 86400 = dnum y mo d) (hday : isDay y mo d = false) :
    ConR w mean mg mb 174 [.int sec t] 14 (news) := by
  unfold ConR
  k_fill
  intro dp un gd cn cs a ccd cl outer A₀ base h₀ L m s Q E B F X N T hk hd hu hret
  refine wpAny_call ?_
  k_dflt (refine' code_def (binds := [(Str.ofString "seconds", .int sec t), (Str.ofString "zone", .int 0 431)]) ?k1 ?k2 ?k3 ?k4 ?k5 ?kA ?kF ?kK ?k6 ?k7 ?k8 ?k9 ?kB ?_ ?c2 ?c3 ?c4 ?c5; (case kA => exact rfl); (case kF => exact rfl); (case kK => assumption); (case k1 => k_asm); (case k2 => k_asm); (case k3 => k_asm); (case k4 => k_asm); (case k5 => k_asm); (case k6 => k_is); (case k7 => k_is); (case k8 => ktr_room); (case k9 => exact binds_K (by k_in) rfl (by k_is) rfl rfl rfl); (case c5 => decide); (case kB => exact locs rfl); (case c2 => exact rfl); (case c3 => exact rfl); (case c4 => exact rfl); k_whole)
  intro g' L' h' FG' F' N' B' X' T'
  dsimp only [List.reverse, List.reverseAux] at F' ⊢
  try k_lift B'
  try k_fold
  have hbad : isMom y mo d (rHh (sec + 0 * 60)) (rMi (sec + 0 * 60)) (rSs (sec + 0 * 60)) 0 = false := by unfold isMom; rw [hday]; rfl
  k_steps
  all_goals exact pass_on (E := E) (by k_asm) (by assumption) (by assumption) (by assumption) (fun h' R u => hret _ _ _ _ (by k_asm) (raised_sub R (by kcj_all)) u)

theorem words54 : True := by
  k_with_none
  trivial
end
section
theorem words55 : True := by
  k_with_none
  (k_with "eval Call Name" => ((with_reducible show wpAny _ _ (eval (Expr.Call (Expr.Name _ _) _ _ _) _) _ _ _); refine Call_ ?_))
  (k_with "subscriptTail Name Constant ref int" => (k_here; k_dflt (first | (refine item_tupleT (by exact News.isTup (by k_asm) (by k_mem)) (by decide) (by decide) (by rfl) (by rfl) ?_; k_whole) | (refine item_listT (by exact News.isList (by k_asm) (by k_mem)) (by decide) (by decide) (by rfl) ?_; k_whole))))
  (k_with "call ref" => (k_here; k_dflt (refine con_use (by k_asm) (by k_asm) (by k_asm) (by k_asm) (by k_asm) (by first | exact rfl | assumption) (con_day_toldR _ _ _ _ _ _ (by assumption) (by assumption) (by omega) (by omega)) (by ktr_room) (by ktr_units) ?_); intro x9 t91 t92 t93 h9 tk9 F9 N9 lt9; (try k_lt lt9); (try dsimp only); (try k_fold)))
  (k_with "call ref" => (k_here; k_dflt (refine con_use (by k_asm) (by k_asm) (by k_asm) (by k_asm) (by k_asm) (by first | exact rfl | assumption) (con_moment _ _ _ _ _ _ _ _ _ _ _ _ _ _ _) (by ktr_room) (by ktr_units) ?_); intro (x9 : Nat) (dx9 : Nat) q0 q1 q2 q3 q4 q5 q6 q7 q8 q9 q10 q11 q12 q13 h9 tk9 F9 N9 lt9 lt10; have ne9 := ne_of_all lt9; have ne10 := Nat.ne_of_lt lt10; (try dsimp only); (try k_fold)))
  trivial
theorem con_day_of {w : World} {mean : ExcName → Option Value} {mg mb : Str → Option Value} (sec z y mo d : Int) (t tz : Tok) (news : Led) (hy1 : -10000 ≤ y) (hy2 : y ≤ 20000) (hv : Valid y mo d) (hn : Int.fdiv (sec + z * 60) 86400 = dnum y mo d) :
    Con w mean mg mb 182 [.int sec t, .int z tz] 6 news (RT3 news y mo d) := by
  unfold Con
  k_fill
  intro dp un gd cn cs a ccd cl outer A₀ base h₀ L m s Q E B F X N T hk hd hu hret
  refine wpAny_call ?_
  k_dflt (refine' code_def (binds := [(Str.ofString "seconds", .int sec t), (Str.ofString "zone", .int z tz)]) ?k1 ?k2 ?k3 ?k4 ?k5 ?kA ?kF ?kK ?k6 ?k7 ?k8 ?k9 ?kB ?_ ?c2 ?c3 ?c4 ?c5; (case kA => exact rfl); (case kF => exact rfl); (case kK => assumption); (case k1 => k_asm); (case k2 => k_asm); (case k3 => k_asm); (case k4 => k_asm); (case k5 => k_asm); (case k6 => k_is); (case k7 => k_is); (case k8 => ktr_room); (case k9 => exact binds_K (by k_in) rfl (by k_is) rfl rfl rfl); (case c5 => decide); (case kB => exact locs rfl); (case c2 => exact rfl); (case c3 => exact rfl); (case c4 => exact rfl); k_whole)
  intro g' L' h' FG' F' N' B' X' T'
  dsimp only [List.reverse, List.reverseAux] at F' ⊢
  try k_lift B'
  try k_fold
  k_steps
  all_goals exact hret _ _ _ _ _ _ (by k_asm) (cb_drop (by k_asm) (by kcj_all)) (by first | assumption | exact tb_ltOf (by assumption) | exact tb_ltOf (And.right (by assumption)))

theorem con_day_of0 {w : World} {mean : ExcName → Option Value} {mg mb : Str → Option Value} (sec y mo d : Int) (t : Tok) (news : Led) (hy1 : -10000 ≤ y) (hy2 : y ≤ 20000) (hv : Valid y mo d) (hn : Int.fdiv (sec + 0 * 60) 86400 = dnum y mo d) :
    Con w mean mg mb 182 [.int sec t] 6 news (RT3 news y mo d) := by
  unfold Con
  k_fill
  intro dp un gd cn cs a ccd cl outer A₀ base h₀ L m s Q E B F X N T hk hd hu hret
  refine wpAny_call ?_
  k_dflt (refine' code_def (binds := [(Str.ofString "seconds", .int sec t), (Str.ofString "zone", .int 0 446)]) ?k1 ?k2 ?k3 ?k4 ?k5 ?kA ?kF ?kK ?k6 ?k7 ?k8 ?k9 ?kB ?_ ?c2 ?c3 ?c4 ?c5; (case kA => exact rfl); (case kF => exact rfl); (case kK => assumption); (case k1 => k_asm); (case k2 => k_asm); (case k3 => k_asm); (case k4 => k_asm); (case k5 => k_asm); (case k6 => k_is); (case k7 => k_is); (case k8 => ktr_room); (case k9 => exact binds_K (by k_in) rfl (by k_is) rfl rfl rfl); (case c5 => decide); (case kB => exact locs rfl); (case c2 => exact rfl); (case c3 => exact rfl); (case c4 => exact rfl); k_whole)
  intro g' L' h' FG' F' N' B' X' T'
  dsimp only [List.reverse, List.reverseAux] at F' ⊢
  try k_lift B'
  try k_fold
  k_steps
  all_goals exact hret _ _ _ _ _ _ (by k_asm) (cb_drop (by k_asm) (by kcj_all)) (by first | assumption | exact tb_ltOf (by assumption) | exact tb_ltOf (And.right (by assumption)))

theorem words56 : True := by
  k_with_none
  trivial
end
section
theorem words57 : True := by
  k_with_none
  (k_with "eval Call Name" => ((with_reducible show wpAny _ _ (eval (Expr.Call (Expr.Name _ _) _ _ _) _) _ _ _); refine Call_ ?_))
  (k_with "call ref" => (k_here; k_dflt (refine conr_use (by k_asm) (by k_asm) (by k_asm) (by k_asm) (by k_asm) (by first | exact rfl | assumption) (conr_check_moment _ _ _ _ _ _ _ _ _ _ _ _ _ _ _ _ _ _ _ _ _ _ _ _ (by assumption) (by assumption) (by assumption)) (by ktr_room) (by ktr_units) ?_; k_whole); intro e9 g9 h9 tk9 F9 R9 u9))
  trivial
theorem conr_write_date {w : World} {mean : ExcName → Option Value} {mg mb : Str → Option Value} (x dx : Nat) (y mo d hh mi ss z : Int) (ty tmo td thh tmi tss tz ky kmo kd khh kmi kss kz : Tok) (news : Led) (ne1 : ∀ p ∈ news, p.1 ≠ dx) (ne2 : dx ≠ x) (hbad : isMom y mo d hh mi ss z = false) :
    ConR w mean mg mb 216 [.ref x] 10 ((x, instObj 92 dx) :: (dx, dictOf (momE w y mo d hh mi ss z ty tmo td thh tmi tss tz ky kmo kd khh kmi kss kz) 7) :: news) := by
  unfold ConR
  k_fill
  intro dp un gd cn cs a ccd cl outer A₀ base h₀ L m s Q E B F X N T hk hd hu hret
  refine wpAny_call ?_
  k_dflt (refine' code_def (binds := [(Str.ofString "moment", .ref x)]) ?k1 ?k2 ?k3 ?k4 ?k5 ?kA ?kF ?kK ?k6 ?k7 ?k8 ?k9 ?kB ?_ ?c2 ?c3 ?c4 ?c5; (case kA => exact rfl); (case kF => exact rfl); (case kK => assumption); (case k1 => k_asm); (case k2 => k_asm); (case k3 => k_asm); (case k4 => k_asm); (case k5 => k_asm); (case k6 => k_is); (case k7 => k_is); (case k8 => ktr_room); (case k9 => exact BindsTo.of_eq rfl); (case c5 => decide); (case kB => exact locs rfl); (case c2 => exact rfl); (case c3 => exact rfl); (case c4 => exact rfl); k_whole)
  intro g' L' h' FG' F' N' B' X' T'
  dsimp only [List.reverse, List.reverseAux] at F' ⊢
  try k_lift B'
  try k_fold
  k_steps
  all_goals exact pass_on (E := E) (by k_asm) (by assumption) (by assumption) (by assumption) (fun h' R u => hret _ _ _ _ (by k_asm) (raised_sub R (by kcj_all)) u)

theorem words58 : True := by
  k_with_none
  trivial
end

section
variable {w : World} {mean : ExcName → Option Value} {mg mb : Str → Option Value}
theorem con_moment_ofR (sec z y mo d : Int) (t tz : Tok) (news : Led) (hn : Int.fdiv (sec + z * 60) 86400 = dnum y mo d) (hv : Valid y mo d) (hday : isDay y mo d = true) (hz1 : -5999 ≤ z) (hz2 : z ≤ 5999) (hy1 : -10000 ≤ y) (hy2 : y ≤ 20000) :
    Con w mean mg mb 174 [.int sec t, .int z tz] 12 news (RM w news y mo d (rHh (sec + z * 60)) (rMi (sec + z * 60)) (rSs (sec + z * 60)) z) := con_moment_of sec z y mo d t tz news hy1 hy2 hv hn hday hz1 hz2
theorem con_moment_of0R (sec y mo d : Int) (t : Tok) (news : Led) (hn : Int.fdiv (sec + 0 * 60) 86400 = dnum y mo d) (hv : Valid y mo d) (hday : isDay y mo d = true) (hy1 : -10000 ≤ y) (hy2 : y ≤ 20000) :
    Con w mean mg mb 174 [.int sec t] 12 news (RM w news y mo d (rHh (sec + 0 * 60)) (rMi (sec + 0 * 60)) (rSs (sec + 0 * 60)) 0) := con_moment_of0 sec y mo d t news hy1 hy2 hv hn hday
theorem conr_moment_of0R (sec y mo d : Int) (t : Tok) (news : Led) (hn : Int.fdiv (sec + 0 * 60) 86400 = dnum y mo d) (hv : Valid y mo d) (hday : isDay y mo d = false) (hy1 : -10000 ≤ y) (hy2 : y ≤ 20000) :
    ConR w mean mg mb 174 [.int sec t] 14 news := conr_moment_of0 sec y mo d t news hy1 hy2 hv hn hday
theorem con_day_ofR (sec z y mo d : Int) (t tz : Tok) (news : Led) (hn : Int.fdiv (sec + z * 60) 86400 = dnum y mo d) (hv : Valid y mo d) (hy1 : -10000 ≤ y) (hy2 : y ≤ 20000) :
    Con w mean mg mb 182 [.int sec t, .int z tz] 6 news (RT3 news y mo d) := con_day_of sec z y mo d t tz news hy1 hy2 hv hn
theorem con_day_of0R (sec y mo d : Int) (t : Tok) (news : Led) (hn : Int.fdiv (sec + 0 * 60) 86400 = dnum y mo d) (hv : Valid y mo d) (hy1 : -10000 ≤ y) (hy2 : y ≤ 20000) :
    Con w mean mg mb 182 [.int sec t] 6 news (RT3 news y mo d) := con_day_of0 sec y mo d t news hy1 hy2 hv hn
end
end
end
end Mine
namespace Mine
section
open PySem PySem.W PyProof.Rows PySem.Spec PySem.Calls
noncomputable section

def ConT (w : World) (mean : ExcName → Option Value) (mg mb : Str → Option Value) (f : Addr) (vs : List Value) (need : Nat) (news : Led) (v : Value) : Prop :=
  ∀ (dp un : Nat) (gd : Option (List Code)) (cn : Str) (cs : Scope) (a : Addr) (ccd : Value) (outer : List Env) (A₀ : Around) (base h₀ : Heap) (L : Addr) (m : Str → Option Value) (s : Shared) (Q E : Value → Shared → Prop),
    Below A₀ base outer h₀ → Fr h₀ L s.heap m → (heapK w.params).In h₀ → News h₀ L s.heap news → Top viewK LO mean mg mb h₀ → (heapK w.params).In base → Top viewK LO mean mg mb base → KtsDicts (outer.filterMap (·.frame)) h₀ → cs.kind = .function → dp + need < recursionLimit → un + 8 * need < cLine →
    (∀ (h₀' h' : Heap) (tk' : Nat), KtsTurn (outer.filterMap (·.frame)) h₀ h₀' → Fr h₀' L h' m → News h₀' L h' news → Below A₀ base outer h₀' → (heapK w.params).In h₀' → Top viewK LO mean mg mb h₀' → KtsDicts (outer.filterMap (·.frame)) h₀' → Q v { s with heap := h', toks := tk' }) →
    wpAny (model PySem.Challenge.rw_no0364_01.row.prog w) (ktrTop dp un gd cn cs L a ccd [] outer) (call (.ref f) vs) Q E s
section
theorem words59 : True := by
  k_with_none
  (k_with "eval Call Name" => ((with_reducible show wpAny _ _ (eval (Expr.Call (Expr.Name _ _) _ _ _) _) _ _ _); refine Call_ ?_))
  (k_with "call ref" => (k_here; k_dflt (refine conr_use (by k_asm) (by k_asm) (by k_asm) (by k_asm) (by k_asm) (by first | exact rfl | assumption) ((by assumption)) (by ktr_room) (by ktr_units) ?_; k_whole); intro e9 g9 h9 tk9 F9 R9 u9))
  (k_with "exec Try" => (k_here; refine wpAny_Try_except ?_))
  trivial
theorem cont_refused237 {w : World} {mean : ExcName → Option Value} {mg mb : Str → Option Value} (v : Value) (news : Led) (H : ConR w mean mg mb 237 [v] 47 news) :
    ConT w mean mg mb 286 [.ref 237, v] 62 news (.bool true) := by
  unfold ConT
  k_fill
  intro dp un gd cn cs a ccd outer A₀ base h₀ L m s Q E B F X N T XB TB DD hk hd hu hret
  refine wpAny_call ?_
  k_dflt (refine' code_defS (g₀ := h₀) (binds := [(Str.ofString "make", .ref 237), (Str.ofString "value", v)]) ?k1 ?k2 ?k3 ?k4 ?k5 ?XB ?TB ?D ?T0 ?kA ?k6 ?k7 ?k8 ?k9 ?kB ?_ ?cK ?c2 ?c3 ?c4 ?c5; (case kA => exact rfl); (case k2 => k_asm); (case k1 => k_asm); (case XB => assumption); (case TB => assumption); (case D => assumption); (case T0 => exact KtsTurn.refl); (case k3 => assumption); (case k4 => k_asm); (case k5 => assumption); (case k6 => k_is); (case k7 => k_is); (case k8 => ktr_room); (case k9 => exact BindsTo.of_eq rfl); (case kB => exact locs rfl); (case cK => assumption); (case c2 => exact rfl); (case c3 => exact rfl); (case c4 => exact rfl); (case c5 => decide); k_whole)
  intro g' L' h' FG' F' N' B' X' T' D'
  dsimp only [List.reverse, List.reverseAux] at F' ⊢
  try k_lift B'
  try k_fold
  k_steps
  all_goals exact hret _ _ _ (by assumption) (by k_asm) (by assumption) (by assumption) (by assumption) (by assumption) (by assumption)
theorem cont_refused174 {w : World} {mean : ExcName → Option Value} {mg mb : Str → Option Value} (v : Value) (news : Led) (H : ConR w mean mg mb 174 [v] 14 news) :
    ConT w mean mg mb 286 [.ref 174, v] 62 news (.bool true) := by
  unfold ConT
  k_fill
  intro dp un gd cn cs a ccd outer A₀ base h₀ L m s Q E B F X N T XB TB DD hk hd hu hret
  refine wpAny_call ?_
  k_dflt (refine' code_defS (g₀ := h₀) (binds := [(Str.ofString "make", .ref 174), (Str.ofString "value", v)]) ?k1 ?k2 ?k3 ?k4 ?k5 ?XB ?TB ?D ?T0 ?kA ?k6 ?k7 ?k8 ?k9 ?kB ?_ ?cK ?c2 ?c3 ?c4 ?c5; (case kA => exact rfl); (case k2 => k_asm); (case k1 => k_asm); (case XB => assumption); (case TB => assumption); (case D => assumption); (case T0 => exact KtsTurn.refl); (case k3 => assumption); (case k4 => k_asm); (case k5 => assumption); (case k6 => k_is); (case k7 => k_is); (case k8 => ktr_room); (case k9 => exact BindsTo.of_eq rfl); (case kB => exact locs rfl); (case cK => assumption); (case c2 => exact rfl); (case c3 => exact rfl); (case c4 => exact rfl); (case c5 => decide); k_whole)
  intro g' L' h' FG' F' N' B' X' T' D'
  dsimp only [List.reverse, List.reverseAux] at F' ⊢
  try k_lift B'
  try k_fold
  k_steps
  all_goals exact hret _ _ _ (by assumption) (by k_asm) (by assumption) (by assumption) (by assumption) (by assumption) (by assumption)
theorem cont_refused244 {w : World} {mean : ExcName → Option Value} {mg mb : Str → Option Value} (v : Value) (news : Led) (H : ConR w mean mg mb 244 [v] 8 news) :
    ConT w mean mg mb 286 [.ref 244, v] 62 news (.bool true) := by
  unfold ConT
  k_fill
  intro dp un gd cn cs a ccd outer A₀ base h₀ L m s Q E B F X N T XB TB DD hk hd hu hret
  refine wpAny_call ?_
  k_dflt (refine' code_defS (g₀ := h₀) (binds := [(Str.ofString "make", .ref 244), (Str.ofString "value", v)]) ?k1 ?k2 ?k3 ?k4 ?k5 ?XB ?TB ?D ?T0 ?kA ?k6 ?k7 ?k8 ?k9 ?kB ?_ ?cK ?c2 ?c3 ?c4 ?c5; (case kA => exact rfl); (case k2 => k_asm); (case k1 => k_asm); (case XB => assumption); (case TB => assumption); (case D => assumption); (case T0 => exact KtsTurn.refl); (case k3 => assumption); (case k4 => k_asm); (case k5 => assumption); (case k6 => k_is); (case k7 => k_is); (case k8 => ktr_room); (case k9 => exact BindsTo.of_eq rfl); (case kB => exact locs rfl); (case cK => assumption); (case c2 => exact rfl); (case c3 => exact rfl); (case c4 => exact rfl); (case c5 => decide); k_whole)
  intro g' L' h' FG' F' N' B' X' T' D'
  dsimp only [List.reverse, List.reverseAux] at F' ⊢
  try k_lift B'
  try k_fold
  k_steps
  all_goals exact hret _ _ _ (by assumption) (by k_asm) (by assumption) (by assumption) (by assumption) (by assumption) (by assumption)
theorem cont_refused216 {w : World} {mean : ExcName → Option Value} {mg mb : Str → Option Value} (v : Value) (news : Led) (H : ConR w mean mg mb 216 [v] 10 news) :
    ConT w mean mg mb 286 [.ref 216, v] 62 news (.bool true) := by
  unfold ConT
  k_fill
  intro dp un gd cn cs a ccd outer A₀ base h₀ L m s Q E B F X N T XB TB DD hk hd hu hret
  refine wpAny_call ?_
  k_dflt (refine' code_defS (g₀ := h₀) (binds := [(Str.ofString "make", .ref 216), (Str.ofString "value", v)]) ?k1 ?k2 ?k3 ?k4 ?k5 ?XB ?TB ?D ?T0 ?kA ?k6 ?k7 ?k8 ?k9 ?kB ?_ ?cK ?c2 ?c3 ?c4 ?c5; (case kA => exact rfl); (case k2 => k_asm); (case k1 => k_asm); (case XB => assumption); (case TB => assumption); (case D => assumption); (case T0 => exact KtsTurn.refl); (case k3 => assumption); (case k4 => k_asm); (case k5 => assumption); (case k6 => k_is); (case k7 => k_is); (case k8 => ktr_room); (case k9 => exact BindsTo.of_eq rfl); (case kB => exact locs rfl); (case cK => assumption); (case c2 => exact rfl); (case c3 => exact rfl); (case c4 => exact rfl); (case c5 => decide); k_whole)
  intro g' L' h' FG' F' N' B' X' T' D'
  dsimp only [List.reverse, List.reverseAux] at F' ⊢
  try k_lift B'
  try k_fold
  k_steps
  all_goals exact hret _ _ _ (by assumption) (by k_asm) (by assumption) (by assumption) (by assumption) (by assumption) (by assumption)
theorem words60 : True := by
  k_with_none
  trivial
end

end
end
end Mine
namespace Mine
section
open PySem PySem.W PyProof.Rows PySem.Spec PySem.Calls
noncomputable section

def lawN (m : Int) : Str := ([(Str.ofString "jan"), (Str.ofString "FEB"), (Str.ofString "Mar"), (Str.ofString "aPr"), (Str.ofString "May"), (Str.ofString "Jun"), (Str.ofString "Jul"), (Str.ofString "Aug"), (Str.ofString "Sep"), (Str.ofString "Oct"), (Str.ofString "Nov"), (Str.ofString "Dec")] : List Str).getD (m - 1).toNat Str.empty
theorem mon_at {m : Int} (h1 : 1 ≤ m) (h2 : m ≤ 12) (u0 u1 u2 u3 u4 u5 u6 u7 u8 u9 u10 u11 : Tok) : ∃ tk, ([.str (Str.ofString "Jan") u0, .str (Str.ofString "Feb") u1, .str (Str.ofString "Mar") u2, .str (Str.ofString "Apr") u3, .str (Str.ofString "May") u4, .str (Str.ofString "Jun") u5, .str (Str.ofString "Jul") u6, .str (Str.ofString "Aug") u7, .str (Str.ofString "Sep") u8, .str (Str.ofString "Oct") u9, .str (Str.ofString "Nov") u10, .str (Str.ofString "Dec") u11] : List Value)[(m - 1).toNat]? = some (.str (monS m) tk) := by
  have : m = 1 ∨ m = 2 ∨ m = 3 ∨ m = 4 ∨ m = 5 ∨ m = 6 ∨ m = 7 ∨ m = 8 ∨ m = 9 ∨ m = 10 ∨ m = 11 ∨ m = 12 := by omega
  rcases this with rfl | rfl | rfl | rfl | rfl | rfl | rfl | rfl | rfl | rfl | rfl | rfl <;> exact ⟨_, rfl⟩
theorem lawn_at {m : Int} (h1 : 1 ≤ m) (h2 : m ≤ 12) (u0 u1 u2 u3 u4 u5 u6 u7 u8 u9 u10 u11 : Tok) : ([.str (Str.ofString "jan") u0, .str (Str.ofString "FEB") u1, .str (Str.ofString "Mar") u2, .str (Str.ofString "aPr") u3, .str (Str.ofString "May") u4, .str (Str.ofString "Jun") u5, .str (Str.ofString "Jul") u6, .str (Str.ofString "Aug") u7, .str (Str.ofString "Sep") u8, .str (Str.ofString "Oct") u9, .str (Str.ofString "Nov") u10, .str (Str.ofString "Dec") u11] : List Value)[(m - 1).toNat]? = some (.str (lawN m) (([u0, u1, u2, u3, u4, u5, u6, u7, u8, u9, u10, u11] : List Tok).getD (m - 1).toNat 0)) := by
  have : m = 1 ∨ m = 2 ∨ m = 3 ∨ m = 4 ∨ m = 5 ∨ m = 6 ∨ m = 7 ∨ m = 8 ∨ m = 9 ∨ m = 10 ∨ m = 11 ∨ m = 12 := by omega
  rcases this with rfl | rfl | rfl | rfl | rfl | rfl | rfl | rfl | rfl | rfl | rfl | rfl <;> rfl
theorem item_mon {prog : Program} {w : World} {A : Around} {E : Value → Shared → Prop} {s : Shared} {value slice : PySem.Expr} {h₀ : Heap} {L : Addr} {news : Led} {l : Addr} {m : Int} {u : Tok} {u0 u1 u2 u3 u4 u5 u6 u7 u8 u9 u10 u11 : Tok} {Q : Value → Shared → Prop} (hN : News h₀ L s.heap news) (hm : (l, tup [.str (Str.ofString "Jan") u0, .str (Str.ofString "Feb") u1, .str (Str.ofString "Mar") u2, .str (Str.ofString "Apr") u3, .str (Str.ofString "May") u4, .str (Str.ofString "Jun") u5, .str (Str.ofString "Jul") u6, .str (Str.ofString "Aug") u7, .str (Str.ofString "Sep") u8, .str (Str.ofString "Oct") u9, .str (Str.ofString "Nov") u10, .str (Str.ofString "Dec") u11]) ∈ news) (h1 : 1 ≤ m) (h2 : m ≤ 12) (h : ∀ tk, Q (.str (monS m) tk) s)
    (hs : subscripted slice false (.ref l) (.int (m - 1) u) = operate [.ref l, .int (m - 1) u] (getItem (.ref l) (.int (m - 1) u)) := by with_unfolding_all rfl) :
    wpAny (model prog w) A (subscriptTail value slice (.ref l) (.int (m - 1) u)) Q E s := by
  obtain ⟨tk, hx⟩ := mon_at h1 h2 u0 u1 u2 u3 u4 u5 u6 u7 u8 u9 u10 u11
  exact item_tupleT (News.isTup hN hm) (by omega) (by omega) (wtab_at h1 h2) hx (h tk) hs
/-- what is known of the day's figures, plain and filled up to two -/
def sd (d : Int) : Str := Str.ofString (toString d)
def sd2 (d : Int) : Str := Txt.mul (Str.ofString "0") (2 - ((sd d).length : Int)) ++ sd d
abbrev figOk (x : Str) (d : Int) : Prop := x.cps.all (· < 128) = true ∧ x.cps.size ≤ 100 ∧ isFig x = true ∧ x.length ≤ 2 ∧ PySem.intText? x = some d ∧ 45 ∉ x.cps.toList ∧ x.length = x.cps.size
theorem fig_all : ∀ d : Fin 31, figOk (sd ((d.val : Int) + 1)) ((d.val : Int) + 1) ∧ figOk (sd2 ((d.val : Int) + 1)) ((d.val : Int) + 1) := by decide +kernel
theorem fig_ok {d : Int} (h1 : 1 ≤ d) (h2 : d ≤ 31) : figOk (sd d) d ∧ figOk (sd2 d) d := by
  have h := fig_all ⟨(d - 1).toNat, by omega⟩
  have e : (((d - 1).toNat : Nat) : Int) + 1 = d := by omega
  simp only [e] at h
  exact h
theorem lawn_all : ∀ k : Fin 12, (lawN ((k.val : Int) + 1)).length = 3 ∧ (lawN ((k.val : Int) + 1)).cps.size = 3 ∧ (lawN ((k.val : Int) + 1)).cps.all (· < 128) = true ∧ 45 ∉ (lawN ((k.val : Int) + 1)).cps.toList ∧ monthNo (lawN ((k.val : Int) + 1)) = (k.val : Int) + 1 := by decide +kernel
theorem lawn_ok {m : Int} (h1 : 1 ≤ m) (h2 : m ≤ 12) : (lawN m).length = 3 ∧ (lawN m).cps.size = 3 ∧ (lawN m).cps.all (· < 128) = true ∧ 45 ∉ (lawN m).cps.toList ∧ monthNo (lawN m) = m := by
  have h := lawn_all ⟨(m - 1).toNat, by omega⟩
  have e : (((m - 1).toNat : Nat) : Int) + 1 = m := by omega
  simp only [e] at h
  exact h
theorem year_fig (n : Nat) (h : n ≤ 9999) : ∀ c ∈ year4 n, 48 ≤ c ∧ c ≤ 57 := by
  intro c hc
  unfold year4 at hc
  simp only [List.mem_cons, List.mem_nil_iff, or_false] at hc
  rcases hc with rfl | rfl | rfl | rfl <;> omega
structure YearOk (y : Int) : Prop where
  asc : (pad y 4).cps.all (· < 128) = true
  size : (pad y 4).cps.size ≤ 100
  fig : isFig (pad y 4) = true
  len : (pad y 4).length = 4
  int : PySem.intText? (pad y 4) = some y
  free : 45 ∉ (pad y 4).cps.toList
theorem year_ok {y : Int} (h1 : 1 ≤ y) (h2 : y ≤ 9999) : YearOk y := by
  have e := pad4 h1 h2
  have f : ∀ c ∈ (pad y 4).cps.toList, 48 ≤ c ∧ c ≤ 57 := by rw [e]; exact year_fig _ (by omega)
  have l4 := pad_len h1 h2
  have sz : (pad y 4).cps.size = 4 := l4
  refine ⟨ascii_of fun c hc => by have := f c hc; omega, by omega, isFig_of (by rw [e]; simp [year4]) f, l4, ?_, fun hc => by have := f 45 hc; omega⟩
  rw [PySem.intText_digits f (by rw [e]; simp [year4]) (by omega), e]
  congr 1
  unfold year4 PySem.NumText.digitsVal
  simp only [List.foldl_cons, List.foldl_nil]
  omega

theorem dayc_of {w : World} {mean : ExcName → Option Value} {mg mb : Str → Option Value} {p0 p1 p2 : Str} {y d : Int} {mo : Int} {news : Led} (hday : isDay y mo d = true) (hm : monthNo p1 = mo) (f0 : figOk p0 d) (hy : YearOk y) (e2 : p2 = pad y 4) (l1 : p1.length = 3) (s1 : p1.cps.size = 3) (a1 : p1.cps.all (· < 128) = true) (n1 : 45 ∉ p1.cps.toList) :
    DayC w mean mg mb (p0 ++ dash ++ p1 ++ dash ++ p2) 40 news (RT3 news y mo d) := by
  subst e2 hm
  obtain ⟨b1, b2, b3, b4, b5, b6, b7⟩ := f0
  intro t t' t2
  have hl : (p0 ++ dash ++ p1 ++ dash ++ pad y 4).length ≤ 100 := by
    have hy4 := hy.len
    simp only [str_len, app_list, List.length_append] at *
    have : dash.cps.toList.length = 1 := by decide +kernel
    omega
  exact con_day_in _ p0 p1 (pad y 4) y d t t' t2 news hl (split3 b6 n1 hy.free) b1 a1 hy.asc b2 (by omega) hy.size b3 hy.fig b4 hy.len b5 hy.int hday
theorem dayT_eq (y m d : Int) : dayT y m d = sd d ++ dash ++ monS m ++ dash ++ pad y 4 := rfl
theorem dayc_dayT {w : World} {mean : ExcName → Option Value} {mg mb : Str → Option Value} {y m d : Int} {news : Led} (hday : isDay y m d = true) : DayC w mean mg mb (dayT y m d) 40 news (RT3 news y m d) := by
  have h := hday
  unfold isDay at h
  rw [decide_eq_true_eq] at h
  have hb := @mlen_bounds y m
  obtain ⟨m1, m2, m3, m4⟩ := mon_facts h.2.2.1 h.2.2.2.1
  exact dayc_of hday m4 (fig_ok (by omega) (by omega)).1 (year_ok h.1 h.2.1) rfl m1 m1 m2 m3

structure LenOk (x : Str) : Prop where
  out : x.length ≤ 100
theorem con_read_day' {w : World} {mean : ExcName → Option Value} {mg mb : Str → Option Value} (x : Str) (t : Tok) (y m' d : Int) (news : Led) (hx : LenOk x) (H : DayC w mean mg mb x 40 news (RT3 news y m' d)) : Con w mean mg mb 237 [.str x t] 41 news (RT3 news y m' d) := con_read_day x t y m' d news hx.out H

theorem dayT_len {y m d : Int} (h1 : 1 ≤ y) (h2 : y ≤ 9999) (h3 : 1 ≤ m) (h4 : m ≤ 12) (h5 : 1 ≤ d) (h6 : d ≤ 31) : LenOk (dayT y m d) := by
  constructor
  obtain ⟨m1, m2, m3, m4⟩ := mon_facts h3 h4
  have hy4 := (year_ok h1 h2).len
  have b4 := (fig_ok h5 h6).1.2.2.2.1
  rw [dayT_eq]
  simp only [str_len, app_list, List.length_append] at *
  have : dash.cps.toList.length = 1 := by decide +kernel
  omega

theorem con_read_dayT {w : World} {mean : ExcName → Option Value} {mg mb : Str → Option Value} (y m d : Int) (t : Tok) (news : Led) (hday : isDay y m d = true) : Con w mean mg mb 237 [.str (dayT y m d) t] 41 news (RT3 news y m d) := by
  have h := hday
  unfold isDay at h
  rw [decide_eq_true_eq] at h
  have hb := @mlen_bounds y m
  exact con_read_day _ t y m d news (dayT_len h.1 h.2.1 h.2.2.1 h.2.2.2.1 h.2.2.2.2.1 (by omega)).out (dayc_dayT hday)

end
end
end Mine
namespace Mine
section
open PySem PySem.W PyProof.Rows PySem.Spec PySem.Calls Builtin Builtin.Str
noncomputable section
section
theorem sub_dash (x : Str) (i : Nat) : subAt x dash i = (x.cps.toList[i]? == some 45) := by
  have hd : dash.cps = #[45] := by decide +kernel
  have hl : dash.length = 1 := by decide +kernel
  unfold subAt
  rw [hd, hl]
  rw [Bool.eq_iff_iff, beq_iff_eq, beq_iff_eq, ← Array.toList_inj, Array.toList_extract, List.extract_eq_take_drop]
  rw [show i + 1 - i = 1 by omega]
  cases h : x.cps.toList.drop i with
  | nil => 
    have : x.cps.toList[i]? = none := by rw [List.getElem?_eq_none_iff]; have := congrArg List.length h; simp only [List.length_drop, Array.length_toList, List.length_nil] at this ⊢; omega
    simp [this]
  | cons a r =>
    have : x.cps.toList[i]? = some a := by
      have := congrArg (·[0]?) h
      simpa using this
    simp [this]
variable {x : Str}
theorem occ_skip : ∀ (l r : List Nat), (∀ i ∈ l, subAt x dash i = false) → (forIn (m := Id) (l ++ r) ((#[] : Array Nat), 0) (StrLaws.occBody x dash x.length 1)) = forIn (m := Id) r ((#[] : Array Nat), 0) (StrLaws.occBody x dash x.length 1)
  | [], r, _ => rfl
  | i :: l, r, h => by
    have hi : ¬ ((((#[] : Array Nat).size < 1 ∧ 0 ≤ i) ∧ i + dash.length ≤ x.length) ∧ subAt x dash i = true) := fun c => by rw [h i (.head _)] at c; cases c.2
    rw [List.cons_append, List.forIn_cons]
    have : StrLaws.occBody x dash x.length 1 i ((#[] : Array Nat), 0) = pure (.yield (#[], 0)) := by
      simp only [StrLaws.occBody, if_neg hi]
    rw [this]
    exact occ_skip l r fun j hj => h j (.tail _ hj)
theorem occ_done (k f : Nat) : ∀ (l : List Nat), (forIn (m := Id) l ((#[k] : Array Nat), f) (StrLaws.occBody x dash x.length 1)) = pure (#[k], f)
  | [] => rfl
  | i :: l => by
    have hi : ¬ ((((#[k] : Array Nat).size < 1 ∧ f ≤ i) ∧ i + dash.length ≤ x.length) ∧ subAt x dash i = true) := fun c => by have := c.1.1.1; simp at this
    rw [List.forIn_cons]
    have : StrLaws.occBody x dash x.length 1 i ((#[k] : Array Nat), f) = pure (.yield (#[k], f)) := by
      simp only [StrLaws.occBody, if_neg hi]
    rw [this]
    exact occ_done k f l
theorem occ_one {a r : List Nat} (hx : x.cps.toList = a ++ 45 :: r) (ha : 45 ∉ a) : occurrences x dash 0 x.length 1 = [a.length] := by
  have hlen : x.length = a.length + 1 + r.length := by rw [str_len, hx]; simp; omega
  rw [StrLaws.occ_eq]
  have e : List.range' 0 (x.length + 1 - 0) = List.range' 0 a.length ++ a.length :: List.range' (a.length + 1) (x.length - a.length) := by
    rw [show x.length + 1 - 0 = a.length + ((x.length - a.length) + 1) by omega, ← List.range'_append_1, Nat.zero_add, List.range'_succ]
  rw [e, occ_skip _ _ fun i hi => ?_]
  · have hk : ((((#[] : Array Nat).size < 1 ∧ 0 ≤ a.length) ∧ a.length + dash.length ≤ x.length) ∧ subAt x dash a.length = true) := by
      refine ⟨⟨⟨by simp, by omega⟩, ?_⟩, ?_⟩
      · have : dash.length = 1 := by decide +kernel
        omega
      · rw [sub_dash, hx]; simp
    rw [List.forIn_cons]
    have : StrLaws.occBody x dash x.length 1 a.length ((#[] : Array Nat), 0) = pure (.yield (#[a.length], a.length + dash.length)) := by
      simp only [StrLaws.occBody, if_pos hk]
      rfl
    rw [this]
    show (forIn (m := Id) _ ((#[a.length] : Array Nat), _) _).run.fst.toList = _
    rw [occ_done]
    rfl
  · rw [sub_dash, hx]
    have hi' : i < a.length := by simp at hi; exact hi
    rw [List.getElem?_append_left hi']
    rw [Bool.eq_false_iff]
    intro c
    exact ha (List.mem_of_getElem? (beq_iff_eq.mp c))
end
structure IdxOk (x : Str) (n : Int) : Prop where
  occ : occurrences x dash 0 x.length 1 = [n.toNat]
  pos : 0 ≤ n
theorem index_day {prog : Program} {w : World} {A : Around} {E : Value → Shared → Prop} {s : Shared} {x : Str} {n : Int} {t u : Tok} {Q : Value → Shared → Prop} (hn : IdxOk x n) (h : ∀ t k, Q (.int n t) { s with toks := k }) :
    wpAny (model prog w) A (call (.builtin "str.index") [.str x t, .str (Str.ofString "-") u]) Q E s := by
  refine SC.index hn.occ ?_
  have e : ((n.toNat : Nat) : Int) = n := Int.toNat_of_nonneg hn.pos
  rw [e]
  exact h _ _
theorem day_idx {y m d : Int} (h3 : 1 ≤ m) (h4 : m ≤ 12) (h5 : 1 ≤ d) (h6 : d ≤ 31) : IdxOk (dayT y m d) ((sd d).length : Int) := by
  refine ⟨?_, Int.natCast_nonneg _⟩
  obtain ⟨-, -, -, -, -, hf, -⟩ := (fig_ok h5 h6).1
  have e : (dayT y m d).cps.toList = (sd d).cps.toList ++ 45 :: ((monS m).cps.toList ++ dash.cps.toList ++ (pad y 4).cps.toList) := by
    have hd : dash.cps.toList = [45] := by decide +kernel
    rw [dayT_eq]
    simp only [app_list, hd, List.append_assoc, List.cons_append, List.nil_append]
  rw [occ_one e hf, Int.toNat_natCast, str_len]
theorem day_len {y m d : Int} (h1 : 1 ≤ y) (h2 : y ≤ 9999) (h3 : 1 ≤ m) (h4 : m ≤ 12) : (dayT y m d).length = (sd d).length + 9 := by
  obtain ⟨m1, m2, m3, m4⟩ := mon_facts h3 h4
  have hy4 := (year_ok h1 h2).len
  rw [dayT_eq]
  simp only [str_len, app_list, List.length_append] at *
  have : dash.cps.toList.length = 1 := by decide +kernel
  omega
theorem day_tail {y m d : Int} (h1 : 1 ≤ y) (h2 : y ≤ 9999) (h3 : 1 ≤ m) (h4 : m ≤ 12) {n : Int} (hn : n = ((sd d).length : Int)) : Txt.slice (dayT y m d) (some (n + 4)) none = dash ++ pad y 4 := by
  have hl := @day_len y m d h1 h2 h3 h4
  obtain ⟨m1, m2, m3, m4⟩ := mon_facts h3 h4
  rw [slice_from_eq (b := ((dayT y m d).length : Int)) (by omega) (by omega) rfl]
  refine str_ext ?_
  have hd : dash.cps.toList = [45] := by decide +kernel
  have e : (dayT y m d).cps.toList = ((sd d).cps.toList ++ [45] ++ (monS m).cps.toList) ++ (dash.cps.toList ++ (pad y 4).cps.toList) := by
    rw [dayT_eq]
    simp only [app_list, hd, List.append_assoc, List.cons_append, List.nil_append]
  have hk : (n + 4).toNat = ((sd d).cps.toList ++ [45] ++ (monS m).cps.toList).length := by
    rw [str_len] at m1 hn
    simp only [List.length_append, List.length_cons, List.length_nil]
    omega
  show List.take _ (List.drop _ _) = _
  rw [e, hk, List.drop_left, app_list]
  refine List.take_of_length_le ?_
  have := congrArg List.length e
  rw [← str_len, List.length_append] at this
  omega
abbrev otherT (y m d n : Int) : Str := Txt.mul (Str.ofString "0") (2 - ((Str.ofString (toString d)).length : Int)) ++ Str.ofString (toString d) ++ Str.ofString "-" ++ lawN m ++ Txt.slice (dayT y m d) (some (n + 4)) none
theorem con_read_other {w : World} {mean : ExcName → Option Value} {mg mb : Str → Option Value} (y m d n : Int) (t : Tok) (news : Led) (hday : isDay y m d = true) (hn : n = ((sd d).length : Int)) : Con w mean mg mb 237 [.str (otherT y m d n) t] 41 news (RT3 news y m d) := by
  have h := hday
  unfold isDay at h
  rw [decide_eq_true_eq] at h
  have hb := @mlen_bounds y m
  have f := (fig_ok (d := d) h.2.2.2.2.1 (by omega)).2
  have hy := year_ok h.1 h.2.1
  obtain ⟨l1, l2, l3, l4, l5⟩ := lawn_ok h.2.2.1 h.2.2.2.1
  have e : otherT y m d n = sd2 d ++ dash ++ lawN m ++ dash ++ pad y 4 := by
    unfold otherT
    rw [day_tail h.1 h.2.1 h.2.2.1 h.2.2.2.1 hn, ← PySem.Str.append_assoc]
    rfl
  rw [e]
  refine con_read_day _ t y m d news ?_ (dayc_of hday l5 f hy rfl l1 l2 l3 l4)
  have f4 := f.2.2.2.1
  have hy4 := hy.len
  simp only [str_len, app_list, List.length_append] at *
  have : dash.cps.toList.length = 1 := by decide +kernel
  omega
end
end
end Mine
namespace Mine
section
open PySem PySem.W PyProof.Rows PySem.Spec PySem.Calls
noncomputable section

/-! the law's own body, cut into pieces -/
def bodyOf : Stmt → List Stmt
  | .FunctionDef _ _ b _ _ _ _ _ _ _ => b
  | _ => []
def scopeOf : Stmt → Scope
  | .FunctionDef _ _ _ _ _ _ sc _ _ _ => sc
  | _ => default
def lawDef : Stmt := PySem.Challenge.rw_no0364_01.row.prog.main.body.getLast?.getD default
def lawBody : List Stmt := bodyOf lawDef
def lawScope : Scope := scopeOf lawDef
def lawSeg (k j : Nat) : List Stmt := List.take j (List.drop k lawBody)

theorem wp_app {M : Model} {A : Around} {E : Value → Shared → Prop} {env : Env} {b : List Stmt} {Q : Flow → Shared → Prop} {Γ : PySem.Ctx} (hΓ : Γ.In A) : ∀ {a : List Stmt} {p : _} {s : Shared},
    Sem.wp M Γ (execs a env) (fun f _ s' => match f with | .next => wpAny M A (execs b env) Q E s' | f => Q f s') (fun e _ s' => E e s') p s → Sem.wp M Γ (execs (a ++ b) env) (fun f _ s' => Q f s') (fun e _ s' => E e s') p s
  | [], p, s, h => h Γ p hΓ
  | st :: a, p, s, h => by
    rw [List.cons_append, execs_cons, Sem.wp_bind']
    rw [execs_cons, Sem.wp_bind'] at h
    refine Sem.wp_mono M Γ _ (fun f p' s' h1 => ?_) (fun _ _ _ h1 => h1) _ _ h
    cases f with
    | next => exact wp_app hΓ h1
    | brk => exact h1
    | cont => exact h1
    | ret v => exact h1
theorem wpAny_app {M : Model} {A : Around} {E : Value → Shared → Prop} {env : Env} {a b : List Stmt} {s : Shared} {Q : Flow → Shared → Prop}
    (h : wpAny M A (execs a env) (fun f s' => match f with | .next => wpAny M A (execs b env) Q E s' | f => Q f s') E s) : wpAny M A (execs (a ++ b) env) Q E s :=
  fun Γ p hΓ => wp_app hΓ (h Γ p hΓ)
/-- a piece's walk, closed to the elaborator's eye -/
structure Walks (M : Model) (A : Around) (t : Sem Flow) (Q : Flow → Shared → Prop) (E : Value → Shared → Prop) (s : Shared) : Prop where
  go : wpAny M A t Q E s
theorem walks_app {M : Model} {A : Around} {E : Value → Shared → Prop} {env : Env} {a b : List Stmt} {s : Shared} {Q : Flow → Shared → Prop}
    (h : Walks M A (execs a env) (fun f s' => match f with | .next => Walks M A (execs b env) Q E s' | f => Q f s') E s) : Walks M A (execs (a ++ b) env) Q E s :=
  ⟨wpAny_app (wpAny_mono h.go (fun f s' hf => by
    cases f with
    | next => exact Walks.go hf
    | brk => exact hf
    | cont => exact hf
    | ret v => exact hf) fun _ _ e => e)⟩
/-- a frame's names and what they hold, the newest first -/
def fm (l : List (Str × Value)) : Str → Option Value := fun x => l.lookup x
theorem fm_set {l : List (Str × Value)} {x : Str} {v : Value} : (fun y => if y = x then some v else fm l y) = fm ((x, v) :: l) := by
  funext y
  show (if y = x then some v else List.lookup y l) = List.lookup y ((x, v) :: l)
  rw [List.lookup_cons]
  by_cases h : y = x
  · rw [if_pos h, h, beq_self_eq_true]
  · rw [if_neg h, beq_eq_false_iff_ne.mpr h]
theorem fm_step {f : Str → Option Value} {l : List (Str × Value)} {x : Str} {v : Value} (e : f = fm l) : (fun y => if y = x then some v else f y) = fm ((x, v) :: l) := by
  subst e; exact fm_set
theorem fm_dup {l : List (Str × Value)} {x : Str} {v : Value} (h : l.lookup x = some v) : fm l = fm ((x, v) :: l) := by
  rw [← fm_set]
  funext y
  by_cases e : y = x
  · rw [if_pos e, e]; exact h
  · rw [if_neg e]
theorem fm_fr {h₀ h : Heap} {L : Addr} {m m' : Str → Option Value} (F : Fr h₀ L h m') (e : m' = m) : Fr h₀ L h m := e ▸ F
theorem mlen_pos {y m : Int} : 0 < mlen y m := by have := @mlen_bounds y m; omega
theorem mlen_le {y m : Int} : mlen y m ≤ 10000 := by have := @mlen_bounds y m; omega
theorem menu10 {k : Int} (h1 : 0 ≤ k) (h2 : k < 10) : 1 ≤ ([1, 4, 100, 400, 1600, 1900, 1969, 1970, 2000, 9999] : List Int).getD k.toNat 0 ∧ ([1, 4, 100, 400, 1600, 1900, 1969, 1970, 2000, 9999] : List Int).getD k.toNat 0 ≤ 9999 := by
  have : k = 0 ∨ k = 1 ∨ k = 2 ∨ k = 3 ∨ k = 4 ∨ k = 5 ∨ k = 6 ∨ k = 7 ∨ k = 8 ∨ k = 9 := by omega
  rcases this with rfl | rfl | rfl | rfl | rfl | rfl | rfl | rfl | rfl | rfl <;> decide
theorem leap29 (y : Int) : leap y = (mlen y 2 == 29) := by
  unfold mlen
  rw [if_pos rfl]
  cases leap y <;> rfl
theorem nx_eq1 {y m d : Int} (h : d < mlen y m) : (nxY y m d == y && (nxM y m d == m && nxD y m d == d + 1)) = true := by
  unfold nxY nxM nxD
  rw [if_pos h, if_pos h, if_pos h]
  simp
theorem nx_eq2 {y m d : Int} (h1 : 1 ≤ m) (h2 : m ≤ 12) (h : mlen y m ≤ d) : (nxY y m d == y + m.fdiv 12 && (nxM y m d == m.fmod 12 + 1 && nxD y m d == 1)) = true := by
  unfold nxY nxM nxD
  simp only [if_neg (show ¬ d < mlen y m by omega), Int.fdiv_eq_ediv_of_nonneg m (show (0 : Int) ≤ 12 by decide), Int.fmod_eq_emod_of_nonneg m (show (0 : Int) ≤ 12 by decide), Bool.and_eq_true, beq_iff_eq]
  refine ⟨?_, ?_, ?_⟩ <;> first | exact trivial | rfl | (split <;> omega)
theorem ne_parts {pre post : Led} {pl : Addr} (h1 : ∀ p ∈ pre, p.1 ≠ pl) (h2 : ∀ p ∈ post, p.1 ≠ pl) : ∀ p ∈ pre ++ post, p.1 ≠ pl := fun p hp => by
  rcases List.mem_append.mp hp with q | q
  · exact h1 p q
  · exact h2 p q
/-- a draw, wherever the pool stands in the ledger -/
theorem draw_use {w : World} {mean : ExcName → Option Value} {mg mb : Str → Option Value} {pl c : Nat} {most g st p : Int} {t t1 t2 t3 : Tok} {ep epc : Nat} {vs : List Value} {ns : List Int} {big : Led} {gg : Obj → Led} {dp un : Nat} {gd : Option (List Code)} {cn : Str} {cs : Scope} {a : Addr} {ccd : Value} {cl : List (Str × Addr)} {outer : List Env} {A₀ : Around} {base h₀ : Heap} {L : Addr} {m : Str → Option Value} {s : Shared} {Q E : Value → Shared → Prop}
    (B : Below A₀ base outer h₀) (F : Fr h₀ L s.heap m) (X : (heapK w.params).In h₀) (N : News h₀ L s.heap big) (T : Top viewK LO mean mg mb h₀) (hk : cs.kind = .function) (hdp : dp + 1 < recursionLimit) (hu : un + 8 * 1 < cLine)
    (U : UpdF pl (poolO c g st p t1 t2 t3 ep) big gg) (hc : (c, listOf vs.toArray epc) ∈ big)
    (hm : 0 < most) (hm' : most ≤ 10000) (hg : 0 ≤ g) (hst : 0 ≤ st) (hst' : st < 2147483647) (hp : 0 ≤ p) (hp' : p ≤ 100) (hI : IntsAre vs ns) (hlen : ns.length ≤ 40) (hpc : c < pl)
    (h : ∀ (v g' st' : Int) (t t1 t2 t3 : Tok) (ep : Nat) (h' : Heap) (tk' : Nat), 0 ≤ v → v < most → 0 ≤ g' → 0 ≤ st' → st' < 2147483647 → Fr h₀ L h' m → News h₀ L h' (gg (poolO c g' st' (p + 1) t1 t2 t3 ep)) → Q (.int v t) { s with heap := h', toks := tk' }) :
    wpAny (model PySem.Challenge.rw_no0364_01.row.prog w) (ktrTop dp un gd cn cs L a ccd cl outer) (call (.ref 256) [.ref pl, .int most t]) Q E s := by
  obtain ⟨pre, post, rfl, hgg, n1, n2⟩ := U.split
  have N' : News h₀ L s.heap ((pl, listOf #[.ref c, .int g t1, .int st t2, .int p t3] ep) :: (c, listOf vs.toArray epc) :: (pre ++ post)) := fun q hq => by
    rcases List.mem_cons.mp hq with rfl | hq
    · exact N _ (List.mem_append.mpr (.inr (.head _)))
    rcases List.mem_cons.mp hq with rfl | hq
    · exact N _ hc
    · rcases List.mem_append.mp hq with r | r
      · exact N _ (List.mem_append.mpr (.inl r))
      · exact N _ (List.mem_append.mpr (.inr (.tail _ r)))
  refine con_use B F X N' T hk (con_draw pl c most g st p t t1 t2 t3 ep epc vs ns (pre ++ post) hm hm' hg hst hst' hp hp' hI hlen hpc (ne_parts n1 n2)) hdp hu ?_
  intro v g' st' t t1 t2 t3 ep h' tk' p1 p2 p3 p4 p5 F' N9
  refine h v g' st' t t1 t2 t3 ep h' tk' p1 p2 p3 p4 p5 F' ?_
  rw [hgg]
  intro q hq
  rcases List.mem_append.mp hq with r | r
  · exact N9 _ (.tail _ (.tail _ (List.mem_append.mpr (.inl r))))
  · rcases List.mem_cons.mp r with rfl | r
    · exact N9 _ (.head _)
    · exact N9 _ (.tail _ (.tail _ (List.mem_append.mpr (.inr r))))
theorem turn_fr {h₀ h₀' h' : Heap} {L : Addr} {m : Str → Option Value} (T : KtsTurn [] h₀ h₀') (F : Fr h₀' L h' m) : Fr h₀ L h' m :=
  ⟨F.ns, fun b o e => F.keep b o (T.other b o e (fun x => nomatch x)), T.size ▸ F.above⟩
theorem turn_news {h₀ h₀' h' : Heap} {L : Addr} {news : Led} (T : KtsTurn [] h₀ h₀') (N : News h₀' L h' news) : News h₀ L h' news := fun p hp =>
  ⟨(N p hp).1, (N p hp).2.1, by
    cases q : h₀.get? p.1 with
    | none => rfl
    | some o => exact absurd (T.other _ _ q (fun x => nomatch x)) (by rw [(N p hp).2.2]; exact fun x => nomatch x)⟩
end
end
end Mine
namespace Mine
section
open PySem PySem.W PyProof.Rows PySem.Spec PySem.Calls
noncomputable section

theorem text_eq (y m d : Int) : dayT y m d = Str.ofString (toString d) ++ Str.ofString "-" ++ monS m ++ Str.ofString "-" ++ Txt.mul (Str.ofString "0") (4 - ((Str.ofString (toString y)).length : Int)) ++ Str.ofString (toString y) := by
  rw [dayT_eq]
  unfold pad sd dash
  simp only [PySem.Str.append_assoc]
theorem bad_at {v : Int} (h1 : 0 ≤ v) (h2 : v < 13) (u0 u1 u2 u3 u4 u5 u6 u7 u8 u9 u10 u11 u12 : Tok) : ∃ tk, ([.str (Str.ofString "") u0, .str (Str.ofString "1-Jan") u1, .str (Str.ofString "1-Jan-199") u2, .str (Str.ofString "001-Jan-1994") u3, .str (Str.ofString "1 -Jan-1994") u4, .str (Str.ofString "30-Feb-1994") u5, .str (Str.ofString "0-Jan-1994") u6, .str (Str.ofString "1-Jam-1994") u7, .str (Str.ofString "1-Jan-0000") u8, .str (Str.ofString "1-Jan-1994-") u9, .str (Str.ofString "-Jan-1994") u10, .str (Str.ofString "1-Jan-19x4") u11, .str (Str.ofString "29-Feb-1900") u12] : List Value)[v.toNat]? = some (.str (bads.getD v.toNat Str.empty) tk) := by
  have : v = 0 ∨ v = 1 ∨ v = 2 ∨ v = 3 ∨ v = 4 ∨ v = 5 ∨ v = 6 ∨ v = 7 ∨ v = 8 ∨ v = 9 ∨ v = 10 ∨ v = 11 ∨ v = 12 := by omega
  rcases this with rfl | rfl | rfl | rfl | rfl | rfl | rfl | rfl | rfl | rfl | rfl | rfl | rfl <;> exact ⟨_, rfl⟩
theorem bad_ix {v : Int} (h1 : 0 ≤ v) (h2 : v < 13) : seqIndex? v 13 = some v.toNat := by
  have : v = 0 ∨ v = 1 ∨ v = 2 ∨ v = 3 ∨ v = 4 ∨ v = 5 ∨ v = 6 ∨ v = 7 ∨ v = 8 ∨ v = 9 ∨ v = 10 ∨ v = 11 ∨ v = 12 := by omega
  rcases this with rfl | rfl | rfl | rfl | rfl | rfl | rfl | rfl | rfl | rfl | rfl | rfl | rfl <;> rfl
theorem item_bad {prog : Program} {w : World} {A : Around} {E : Value → Shared → Prop} {s : Shared} {value slice : PySem.Expr} {h₀ : Heap} {L : Addr} {news : Led} {l : Addr} {v : Int} {u : Tok} {u0 u1 u2 u3 u4 u5 u6 u7 u8 u9 u10 u11 u12 : Tok} {Q : Value → Shared → Prop} (hN : News h₀ L s.heap news) (hm : (l, tup [.str (Str.ofString "") u0, .str (Str.ofString "1-Jan") u1, .str (Str.ofString "1-Jan-199") u2, .str (Str.ofString "001-Jan-1994") u3, .str (Str.ofString "1 -Jan-1994") u4, .str (Str.ofString "30-Feb-1994") u5, .str (Str.ofString "0-Jan-1994") u6, .str (Str.ofString "1-Jam-1994") u7, .str (Str.ofString "1-Jan-0000") u8, .str (Str.ofString "1-Jan-1994-") u9, .str (Str.ofString "-Jan-1994") u10, .str (Str.ofString "1-Jan-19x4") u11, .str (Str.ofString "29-Feb-1900") u12]) ∈ news) (h1 : 0 ≤ v) (h2 : v < 13) (h : ∀ tk, Q (.str (bads.getD v.toNat Str.empty) tk) s)
    (hs : subscripted slice false (.ref l) (.int v u) = operate [.ref l, .int v u] (getItem (.ref l) (.int v u)) := by with_unfolding_all rfl) :
    wpAny (model prog w) A (subscriptTail value slice (.ref l) (.int v u)) Q E s := by
  obtain ⟨tk, hx⟩ := bad_at h1 h2 u0 u1 u2 u3 u4 u5 u6 u7 u8 u9 u10 u11 u12
  exact item_tupleT (News.isTup hN hm) (by omega) (by omega) (bad_ix h1 h2) hx (h tk) hs
/-- one of _law_refused's calls, told by a contract -/
theorem cont_use {w : World} {mean : ExcName → Option Value} {mg mb : Str → Option Value} {f : Addr} {vs : List Value} {need : Nat} {news : Led} {v : Value} {dp un : Nat} {gd : Option (List Code)} {cn : Str} {cs : Scope} {a : Addr} {ccd : Value} {outer : List Env} {A₀ : Around} {base h₀ : Heap} {L : Addr} {m : Str → Option Value} {s : Shared} {Q E : Value → Shared → Prop}
    (B : Below A₀ base outer h₀) (F : Fr h₀ L s.heap m) (X : (heapK w.params).In h₀) (N : News h₀ L s.heap news) (T : Top viewK LO mean mg mb h₀) (XB : (heapK w.params).In base) (TB : Top viewK LO mean mg mb base) (DD : KtsDicts (outer.filterMap (·.frame)) h₀) (hk : cs.kind = .function) (C : ConT w mean mg mb f vs need news v) (hdp : dp + need < recursionLimit) (hu : un + 8 * need < cLine)
    (h : ∀ (h₀' h' : Heap) (tk' : Nat), KtsTurn (outer.filterMap (·.frame)) h₀ h₀' → Fr h₀' L h' m → News h₀' L h' news → Below A₀ base outer h₀' → (heapK w.params).In h₀' → Top viewK LO mean mg mb h₀' → KtsDicts (outer.filterMap (·.frame)) h₀' → Q v { s with heap := h', toks := tk' }) :
    wpAny (model PySem.Challenge.rw_no0364_01.row.prog w) (ktrTop dp un gd cn cs L a ccd [] outer) (call (.ref f) vs) Q E s := C _ _ _ _ _ _ _ _ _ _ _ _ _ _ _ _ B F X N T XB TB DD hk hdp hu h
def ConT2 (w : World) (mean : ExcName → Option Value) (mg mb : Str → Option Value) (f : Addr) (vs' : List Value) (need : Nat) (news : Led) (P : Led → Prop) (v : Value) : Prop :=
  ∀ (dp un : Nat) (gd : Option (List Code)) (cn : Str) (cs : Scope) (a : Addr) (ccd : Value) (outer : List Env) (A₀ : Around) (base h₀ : Heap) (L : Addr) (m : Str → Option Value) (s : Shared) (Q E : Value → Shared → Prop),
    Below A₀ base outer h₀ → Fr h₀ L s.heap m → (heapK w.params).In h₀ → News h₀ L s.heap news → Top viewK LO mean mg mb h₀ → (heapK w.params).In base → Top viewK LO mean mg mb base → KtsDicts (outer.filterMap (·.frame)) h₀ → cs.kind = .function → dp + need < recursionLimit → un + 8 * need < cLine →
    (∀ (h₀' h' : Heap) (tk' : Nat) (news' : Led), P news' → KtsTurn (outer.filterMap (·.frame)) h₀ h₀' → Fr h₀' L h' m → News h₀' L h' news' → Below A₀ base outer h₀' → (heapK w.params).In h₀' → Top viewK LO mean mg mb h₀' → KtsDicts (outer.filterMap (·.frame)) h₀' → Q v { s with heap := h', toks := tk' }) →
    wpAny (model PySem.Challenge.rw_no0364_01.row.prog w) (ktrTop dp un gd cn cs L a ccd [] outer) (call (.ref f) vs') Q E s
theorem cmp_tup3 {prog : Program} {w : World} {A : Around} {E : Value → Shared → Prop} {s : Shared} {h₀ : Heap} {L a b : Addr} {news : Led} {x y z : Int} {t1 t2 t3 u1 u2 u3 : Tok} {Q : Value → Shared → Prop} (N : News h₀ L s.heap news) (ha : (a, tup [.int x t1, .int y t2, .int z t3]) ∈ news) (hb : (b, tup [.int x u1, .int y u2, .int z u3]) ∈ news) (hu : A.units + 64 < cLine) (h : Q (.bool false) s) :
    wpAny (model prog w) A (compareOp .NotEq (.ref a) (.ref b)) Q E s := by
  refine ne_dataH (reads_tuple_at (N.get ha) rfl rfl (ReadsAll.cons (Reads.int _ _) (ReadsAll.cons (Reads.int _ _) (ReadsAll.cons (Reads.int _ _) ReadsAll.nil)))) (reads_tuple_at (N.get hb) rfl rfl (ReadsAll.cons (Reads.int _ _) (ReadsAll.cons (Reads.int _ _) (ReadsAll.cons (Reads.int _ _) ReadsAll.nil)))) rfl rfl hu ?_
  simp only [PyData.eqv, PyData.eqvAll, beq_self_eq_true, Bool.and_true, Bool.not_true, decide_true]
  exact h
section
theorem words61 : True := by
  k_with_none
  (k_with "eval Call Name" => ((with_reducible show wpAny _ _ (eval (Expr.Call (Expr.Name _ _) _ _ _) _) _ _ _); refine Call_ ?_))
  (k_with "subscriptTail Name Constant ref int" => (k_here; k_dflt (first | (refine item_tupleT (by exact News.isTup (by k_asm) (by k_mem)) (by decide) (by decide) (by rfl) (by rfl) ?_; k_whole) | (refine item_listT (by exact News.isList (by k_asm) (by k_mem)) (by decide) (by decide) (by rfl) ?_; k_whole))))
  (k_with "call ref" => (k_here; k_dflt (refine con_use (by k_asm) (by k_asm) (by k_asm) (by k_asm) (by k_asm) (by first | exact rfl | assumption) (con_write_day _ _ _ _ _ _ _ _ (by assumption)) (by ktr_room) (by ktr_units) ?_); intro t9 h9 tk9 F9 N9; (try dsimp only); (try k_fold)))
  (k_with "subscriptTail Tuple" => (k_here; k_dflt (refine item_mon (by k_asm) (by k_mem) (by omega) (by omega) ?_; k_whole); intro tm9))
  (k_with "call ref" => (k_here; (with_reducible show wpAny _ _ (call (Value.ref 237) [Value.str (dayT _ _ _) _]) _ _ _); k_dflt (refine con_use (by k_asm) (by k_asm) (by k_asm) (by k_asm) (by k_asm) (by first | exact rfl | assumption) (con_read_dayT _ _ _ _ _ (by assumption)) (by ktr_room) (by ktr_units) ?_); intro x9 t91 t92 t93 h9 tk9 F9 N9 lt9; (try k_lt lt9); (try dsimp only); (try k_fold)))
  (k_with "call ref" => (k_here; (with_reducible show wpAny _ _ (call (Value.ref 237) [Value.str (_ ++ Txt.slice _ _ _) _]) _ _ _); k_dflt (refine con_use (by k_asm) (by k_asm) (by k_asm) (by k_asm) (by k_asm) (by first | exact rfl | assumption) (con_read_other _ _ _ _ _ _ (by assumption) (by assumption)) (by ktr_room) (by ktr_units) ?_); intro x9 t91 t92 t93 h9 tk9 F9 N9 lt9; (try k_lt lt9); (try dsimp only); (try k_fold)))
  (k_with "call builtin:str.index" => (k_here; k_dflt (refine index_day (by assumption) ?_; k_whole); intro tm9 tk9))
  (k_with "subscriptTail Name" => (k_here; (with_reducible show wpAny _ _ (subscriptTail _ _ (Value.ref _) (Value.int _ _)) _ _ _); k_dflt (refine topTup_K (by k_asm) (by k_asm) (by k_is) (by omega) (by omega) (by exact wtab_at (by omega) (by omega)) (by exact lawn_at (by omega) (by omega) _ _ _ _ _ _ _ _ _ _ _ _) ?_; k_whole)))
  (k_with "ite" => (k_here; first | with_reducible refine ite_tt ?_ | with_reducible refine ite_ff ?_))
  (k_with "compareOp NotEq ref ref" => (k_here; k_dflt (refine cmp_tup3 (by k_asm) (by k_mem) (by k_mem) (by ke_room) ?_; k_whole)))
  (k_with "call ref" => (k_here; (with_reducible show wpAny _ _ (call (Value.ref 256) _) _ _ _); k_dflt (refine draw_use (by k_asm) (by k_asm) (by k_asm) (by k_asm) (by k_asm) (by first | exact rfl | assumption) (by ktr_room) (by ktr_units) (by k_updF) (by k_mem) (by omega) (by omega) (by assumption) (by assumption) (by assumption) (by omega) (by omega) (by assumption) (by assumption) (by assumption) ?_); intro v9 g9 st9 t9 t91 t92 t93 ep9 h9 tk9 pv9 pw9 pg9 ps9 pt9 F9 N9; (try dsimp only at N9); (try dsimp only); (try k_fold)))
  (k_with "subscriptTail Name" => (k_here; k_dflt (refine item_bad (by k_asm) (by k_mem) (by assumption) (by assumption) ?_; k_whole); intro tm9))
  (k_with "call ref" => (k_here; (with_reducible show wpAny _ _ (call (Value.ref 286) _) _ _ _); k_dflt (refine cont_use (by k_asm) (by k_asm) (by k_asm) (by k_asm) (by k_asm) (by assumption) (by assumption) (by assumption) (by first | exact rfl | assumption) (cont_refused237 _ _ (conr_read_bad _ (by omega) _ _)) (by ktr_room) (by ktr_units) ?_); intro g9 h9 tk9 G9 F9 N9 B9 X9 T9 D9; (try k_lift B9); (try dsimp only); (try k_fold)))
  trivial

theorem cont_texts {w : World} {mean : ExcName → Option Value} {mg mb : Str → Option Value} (pl c : Nat) (g st p : Int) (q1 q2 q3 : Tok) (ep epc : Nat) (vs : List Value) (ns : List Int) (y m' d : Int) (t t' t2 : Tok) (hg : 0 ≤ g) (hst : 0 ≤ st) (hst' : st < 2147483647) (hp : 0 ≤ p) (hp' : p ≤ 50) (hI : IntsAre vs ns) (hlen : ns.length ≤ 40) (hpc : c < pl) (hday : isDay y m' d = true) :
    ConT2 w mean mg mb 293 [.ref pl, .int y t, .int m' t', .int d t2] 70 ([(pl, poolO c g st p q1 q2 q3 ep), (c, listOf vs.toArray epc)]) (fun N => ∃ g' st' q1' q2' q3' ep', 0 ≤ g' ∧ 0 ≤ st' ∧ st' < 2147483647 ∧ N = [(pl, poolO c g' st' (p + 1) q1' q2' q3' ep'), (c, listOf vs.toArray epc)]) (.bool true) := by
  unfold ConT2
  k_fill
  intro dp un gd cn cs a ccd outer A₀ base h₀ L m s Q E B F X N T XB TB DD hk hd hu hret
  refine wpAny_call ?_
  k_dflt (refine' code_defS (g₀ := h₀) (binds := [(Str.ofString "pool", .ref pl), (Str.ofString "year", .int y t), (Str.ofString "month", .int m' t'), (Str.ofString "day", .int d t2)]) ?k1 ?k2 ?k3 ?k4 ?k5 ?XB ?TB ?D ?T0 ?kA ?k6 ?k7 ?k8 ?k9 ?kB ?_ ?cK ?c2 ?c3 ?c4 ?c5; (case kA => exact rfl); (case k2 => k_asm); (case k1 => k_asm); (case XB => assumption); (case TB => assumption); (case D => assumption); (case T0 => exact KtsTurn.refl); (case k3 => assumption); (case k4 => k_asm); (case k5 => assumption); (case k6 => k_is); (case k7 => k_is); (case k8 => ktr_room); (case k9 => exact BindsTo.of_eq rfl); (case kB => exact locs rfl); (case cK => assumption); (case c2 => exact rfl); (case c3 => exact rfl); (case c4 => exact rfl); (case c5 => decide); k_whole)
  intro g' L' h' FG' F' N' B' X' T' D'
  dsimp only [List.reverse, List.reverseAux] at F' ⊢
  try k_lift B'
  try k_fold
  have hday' := hday
  unfold isDay at hday'
  simp only [decide_eq_true_eq] at hday'
  obtain ⟨hy1, hy2, hm1, hm2, hd1, hd2⟩ := hday'
  have hb := @mlen_bounds y m'
  have hd3 : d ≤ 31 := by omega
  clear hb hd2
  have hl3 := (mon_facts hm1 hm2).1
  have hl4 := pad_len hy1 hy2
  have hl5 := (lawn_ok hm1 hm2).1
  obtain ⟨n, hn⟩ : ∃ n : Int, n = ((sd d).length : Int) := ⟨_, rfl⟩
  have hIx : IdxOk (dayT y m' d) n := hn ▸ day_idx hm1 hm2 hd1 hd3
  have hf := (fig_ok hd1 hd3).1
  have hn1 : 1 ≤ n ∧ n ≤ 2 := by
    have h4 := hf.2.2.2.1
    have h7 : (sd d).cps.toList ≠ [] := fun e => by
      have := hf.2.2.1
      rw [show sd d = ⟨#[]⟩ from str_ext e] at this
      revert this; decide
    have : (sd d).length ≠ 0 := fun e => h7 (by rw [str_len] at e; exact List.length_eq_zero_iff.mp e)
    omega
  have hl9 : ((dayT y m' d).length : Int) = n + 9 := by rw [hn, day_len hy1 hy2 hm1 hm2]; omega
  clear hf
  k_steps
  · exact absurd (text_eq y m' d) (bne_iff_ne.mp (by assumption))
  all_goals (refine' hret _ _ _ _ ⟨_, _, _, _, _, _, ?pa, ?pb, ?pc, rfl⟩ ?pT ?pF ?pN ?pB ?pX ?pP ?pD; (case pT => assumption); (case pF => k_asm); (case pN => exact cb_drop (by k_asm) (by kcj_all)); (case pB => assumption); (case pX => assumption); (case pP => assumption); (case pD => assumption); (case pa => assumption); (case pb => assumption); (case pc => assumption))
theorem words62 : True := by
  k_with_none
  trivial
end

end
end
end Mine
namespace Mine
section
open PySem PySem.W PyProof.Rows PySem.Spec PySem.Calls
noncomputable section
/-- no frame below: the turn changes nothing -/
theorem dicts_nil {h : Heap} : KtsDicts (([] : List Env).filterMap (·.frame)) h := fun b hb => nomatch hb
theorem cont_use0 {w : World} {mean : ExcName → Option Value} {mg mb : Str → Option Value} {f : Addr} {vs : List Value} {need : Nat} {news : Led} {v : Value} {dp un : Nat} {gd : Option (List Code)} {cn : Str} {cs : Scope} {a : Addr} {ccd : Value} {A₀ : Around} {base h₀ : Heap} {L : Addr} {m : Str → Option Value} {s : Shared} {Q E : Value → Shared → Prop}
    (B : Below A₀ base [] h₀) (F : Fr h₀ L s.heap m) (X : (heapK w.params).In h₀) (N : News h₀ L s.heap news) (T : Top viewK LO mean mg mb h₀) (XB : (heapK w.params).In base) (TB : Top viewK LO mean mg mb base) (hk : cs.kind = .function) (C : ConT w mean mg mb f vs need news v) (hdp : dp + need < recursionLimit) (hu : un + 8 * need < cLine)
    (h : ∀ (h' : Heap) (tk' : Nat), Fr h₀ L h' m → News h₀ L h' news → Q v { s with heap := h', toks := tk' }) :
    wpAny (model PySem.Challenge.rw_no0364_01.row.prog w) (ktrTop dp un gd cn cs L a ccd [] []) (call (.ref f) vs) Q E s :=
  cont_use B F X N T XB TB dicts_nil hk C hdp hu fun _ _ _ G F' N' _ _ _ _ => h _ _ (turn_fr G F') (turn_news G N')
theorem texts_use {w : World} {mean : ExcName → Option Value} {mg mb : Str → Option Value} {pl c : Nat} {g st p : Int} {q1 q2 q3 : Tok} {ep epc : Nat} {vs : List Value} {ns : List Int} {y m' d : Int} {t t' t2 : Tok} {dp un : Nat} {gd : Option (List Code)} {cn : Str} {cs : Scope} {a : Addr} {ccd : Value} {A₀ : Around} {base h₀ : Heap} {L : Addr} {m : Str → Option Value} {s : Shared} {Q E : Value → Shared → Prop}
    (B : Below A₀ base [] h₀) (F : Fr h₀ L s.heap m) (X : (heapK w.params).In h₀) (N : News h₀ L s.heap [(pl, poolO c g st p q1 q2 q3 ep), (c, listOf vs.toArray epc)]) (T : Top viewK LO mean mg mb h₀) (XB : (heapK w.params).In base) (TB : Top viewK LO mean mg mb base) (hk : cs.kind = .function) (hdp : dp + 70 < recursionLimit) (hu : un + 8 * 70 < cLine)
    (hg : 0 ≤ g) (hst : 0 ≤ st) (hst' : st < 2147483647) (hp : 0 ≤ p) (hp' : p ≤ 50) (hI : IntsAre vs ns) (hlen : ns.length ≤ 40) (hpc : c < pl) (hday : isDay y m' d = true)
    (h : ∀ (g' st' : Int) (q1' q2' q3' : Tok) (ep' : Nat) (h' : Heap) (tk' : Nat), 0 ≤ g' → 0 ≤ st' → st' < 2147483647 → Fr h₀ L h' m → News h₀ L h' [(pl, poolO c g' st' (p + 1) q1' q2' q3' ep'), (c, listOf vs.toArray epc)] → Q (.bool true) { s with heap := h', toks := tk' }) :
    wpAny (model PySem.Challenge.rw_no0364_01.row.prog w) (ktrTop dp un gd cn cs L a ccd [] []) (call (.ref 293) [.ref pl, .int y t, .int m' t', .int d t2]) Q E s := by
  refine cont_texts pl c g st p q1 q2 q3 ep epc vs ns y m' d t t' t2 hg hst hst' hp hp' hI hlen hpc hday _ _ _ _ _ _ _ _ _ _ _ _ _ _ _ _ B F X N T XB TB dicts_nil hk hdp hu ?_
  rintro h₀' h' tk' news' ⟨g', st', q1', q2', q3', ep', a1, a2, a3, rfl⟩ G F' N' _ _ _ _
  exact h g' st' q1' q2' q3' ep' h' tk' a1 a2 a3 (turn_fr G F') (turn_news G N')
end
end
end Mine
namespace Mine
section
open PySem PySem.W PyProof.Rows PySem.Spec PySem.Calls
noncomputable section
theorem menu4 {k : Int} (h1 : 0 ≤ k) (h2 : k < 4) : -5999 ≤ ([0, 5999, -5999, 30] : List Int).getD k.toNat 0 ∧ ([0, 5999, -5999, 30] : List Int).getD k.toNat 0 ≤ 5999 := by
  have : k = 0 ∨ k = 1 ∨ k = 2 ∨ k = 3 := by omega
  rcases this with rfl | rfl | rfl | rfl <;> decide
theorem lt_head {q : Addr × Obj} {r : Led} {D : Nat} (h : ∀ p ∈ q :: r, p.1 < D) : q.1 < D := h _ (.head _)
/-- the sub-ledger that the Moment's contracts ask for -/
theorem mom_led {h₀ h : Heap} {L : Addr} {big : Led} {x dx : Addr} {o d : Obj} (N : News h₀ L h big) (hx : (x, o) ∈ big) (hd : (dx, d) ∈ big) :
    ∃ news : Led, News h₀ L h ((x, o) :: (dx, d) :: news) ∧ (∀ p ∈ news, p.1 ≠ dx) ∧ ∀ p ∈ big, p ∈ ((x, o) :: (dx, d) :: news) := by
  refine ⟨big.filter (fun p => p.1 ≠ dx), fun p hp => ?_, fun p hp => ?_, fun p hp => ?_⟩
  · rcases List.mem_cons.mp hp with rfl | hp
    · exact N _ hx
    rcases List.mem_cons.mp hp with rfl | hp
    · exact N _ hd
    · exact N _ (List.mem_filter.mp hp).1
  · have := (List.mem_filter.mp hp).2
    simpa using this
  · by_cases e : p.1 = dx
    · obtain ⟨a, b⟩ := p
      have e' : a = dx := e
      subst e'
      have h1 := (N _ hp).1
      have h2 := (N _ hd).1
      rw [h1] at h2
      cases h2
      exact .tail _ (.head _)
    · exact .tail _ (.tail _ (List.mem_filter.mpr ⟨hp, by simpa using e⟩))
section
variable {w : World} {mean : ExcName → Option Value} {mg mb : Str → Option Value} {x dx : Nat} {y mo d hh mi ss z : Int} {ty tmo td thh tmi tss tz ky kmo kd khh kmi kss kz : Tok} {big : Led} {dp un : Nat} {gd : Option (List Code)} {cn : Str} {cs : Scope} {a : Addr} {ccd : Value} {cl : List (Str × Addr)} {outer : List Env} {A₀ : Around} {base h₀ : Heap} {L : Addr} {m : Str → Option Value} {s : Shared} {Q E : Value → Shared → Prop}
theorem told_use (B : Below A₀ base outer h₀) (F : Fr h₀ L s.heap m) (X : (heapK w.params).In h₀) (N : News h₀ L s.heap big) (T : Top viewK LO mean mg mb h₀) (hk : cs.kind = .function) (hdp : dp + 2 < recursionLimit) (hu : un + 8 * 2 < cLine)
    (hx : (x, instObj 92 dx) ∈ big) (hdx : (dx, dictOf (momE w y mo d hh mi ss z ty tmo td thh tmi tss tz ky kmo kd khh kmi kss kz) 7) ∈ big) (ne : dx ≠ x)
    (h : ∀ (r : Nat) (t1 t2 t3 t4 t5 t6 t7 : Tok) (h' : Heap) (tk' : Nat), Fr h₀ L h' m → News h₀ L h' ((r, tup [.int y t1, .int mo t2, .int d t3, .int hh t4, .int mi t5, .int ss t6, .int z t7]) :: big) → (∀ p ∈ big, p.1 < r) → Q (.ref r) { s with heap := h', toks := tk' }) :
    wpAny (model PySem.Challenge.rw_no0364_01.row.prog w) (ktrTop dp un gd cn cs L a ccd cl outer) (call (.ref 89) [.ref x]) Q E s := by
  obtain ⟨news, N', n1, n2⟩ := mom_led N hx hdx
  refine con_use B F X N' T hk (con_told x dx y mo d hh mi ss z ty tmo td thh tmi tss tz ky kmo kd khh kmi kss kz news n1 ne) hdp hu ?_
  intro r t1 t2 t3 t4 t5 t6 t7 h' tk' F9 N9 lt9
  exact h r t1 t2 t3 t4 t5 t6 t7 h' tk' F9 (fun p hp => N9 p (by rcases List.mem_cons.mp hp with rfl | q; exact .head _; exact .tail _ (n2 p q))) (fun p hp => lt9 p (n2 p hp))
theorem inst_use (B : Below A₀ base outer h₀) (F : Fr h₀ L s.heap m) (X : (heapK w.params).In h₀) (N : News h₀ L s.heap big) (T : Top viewK LO mean mg mb h₀) (hk : cs.kind = .function) (hdp : dp + 4 < recursionLimit) (hu : un + 8 * 4 < cLine)
    (hx : (x, instObj 92 dx) ∈ big) (hdx : (dx, dictOf (momE w y mo d hh mi ss z ty tmo td thh tmi tss tz ky kmo kd khh kmi kss kz) 7) ∈ big) (ne : dx ≠ x) (hy1 : -1000000 ≤ y) (hy2 : y ≤ 1000000) (hm1 : 1 ≤ mo) (hm2 : mo ≤ 13)
    (h : RI big (inst y mo d hh mi ss z) h₀ L m s Q) :
    wpAny (model PySem.Challenge.rw_no0364_01.row.prog w) (ktrTop dp un gd cn cs L a ccd cl outer) (call (.ref 166) [.ref x]) Q E s := by
  obtain ⟨news, N', n1, n2⟩ := mom_led N hx hdx
  refine con_use B F X N' T hk (con_instant_of x dx y mo d hh mi ss z ty tmo td thh tmi tss tz ky kmo kd khh kmi kss kz news n1 ne hy1 hy2 hm1 hm2) hdp hu ?_
  intro t9 h9 tk9 F9 N9
  exact h t9 h9 tk9 F9 (fun p hp => N9 p (n2 p hp))
end
end
end
end Mine
namespace Mine
section
open PySem PySem.W PyProof.Rows PySem.Spec PySem.Calls
noncomputable section
theorem fdd (a : Int) : Int.fdiv a 86400 = a / 86400 := Int.fdiv_eq_ediv_of_nonneg a (by decide)
theorem fmd (a : Int) : Int.fmod a 86400 = a % 86400 := Int.fmod_eq_emod_of_nonneg a (by decide)
theorem rHh_eq (a : Int) : rHh a = a % 86400 / 3600 := by
  show Int.fdiv (Int.fmod a 86400) 3600 = _
  rw [fmd, Int.fdiv_eq_ediv_of_nonneg _ (by decide)]
theorem rMi_eq (a : Int) : rMi a = a % 86400 / 60 % 60 := by
  show Int.fmod (Int.fdiv (Int.fmod a 86400) 60) 60 = _
  rw [fmd, Int.fdiv_eq_ediv_of_nonneg _ (by decide), Int.fmod_eq_emod_of_nonneg _ (by decide)]
theorem rSs_eq (a : Int) : rSs a = a % 86400 % 60 := by
  show Int.fmod (Int.fmod a 86400) 60 = _
  rw [fmd, Int.fmod_eq_emod_of_nonneg _ (by decide)]
theorem rSs_ne (a : Int) : rSs a ≠ 60 := by rw [rSs_eq]; omega
theorem isDay_year {y m d : Int} (h : isDay y m d = true) : 1 ≤ y ∧ y ≤ 9999 := by
  unfold isDay at h
  rw [decide_eq_true_eq] at h
  exact ⟨h.1, h.2.1⟩
theorem isDay_of {y m d : Int} (v : Valid y m d) (h1 : 1 ≤ y) (h2 : y ≤ 9999) : isDay y m d = true := by
  unfold isDay
  rw [decide_eq_true_eq]
  exact ⟨h1, h2, v.1, v.2.1, v.2.2.1, v.2.2.2⟩
theorem inst_back {a z y m d : Int} (h : Int.fdiv (a + z * 60) 86400 = dnum y m d) : inst y m d (rHh (a + z * 60)) (rMi (a + z * 60)) (rSs (a + z * 60)) z = a := by
  unfold inst
  rw [rHh_eq, rMi_eq, rSs_eq]
  rw [fdd] at h
  omega
theorem back_day {sec y mo d hh mi ss z : Int} (hsec : sec = inst y mo d hh mi ss z) (v : Valid y mo d) (hy1 : 1 < y) (hy2 : y < 9999) (hh1 : 0 ≤ hh) (hh2 : hh < 24) (mi1 : 0 ≤ mi) (mi2 : mi < 60) (ss1 : 0 ≤ ss) (ss2 : ss < 61) :
    ∃ y2 m2 d2, Valid y2 m2 d2 ∧ Int.fdiv (sec + z * 60) 86400 = dnum y2 m2 d2 ∧ isDay y2 m2 d2 = true ∧ inst y2 m2 d2 (rHh (sec + z * 60)) (rMi (sec + z * 60)) (rSs (sec + z * 60)) z = sec ∧
      (ss < 60 → (y2 == y && (m2 == mo && (d2 == d && (rHh (sec + z * 60) == hh && (rMi (sec + z * 60) == mi && rSs (sec + z * 60) == ss))))) = true) := by
  have ha : sec + z * 60 = dnum y mo d * 86400 + hh * 3600 + mi * 60 + ss := by rw [hsec]; unfold inst; omega
  by_cases c : hh * 3600 + mi * 60 + ss < 86400
  · have hn : Int.fdiv (sec + z * 60) 86400 = dnum y mo d := by rw [fdd, ha]; omega
    refine ⟨y, mo, d, v, hn, isDay_of v (by omega) (by omega), inst_back hn, fun hs => ?_⟩
    have e1 : rHh (sec + z * 60) = hh := by rw [rHh_eq, ha]; omega
    have e2 : rMi (sec + z * 60) = mi := by rw [rMi_eq, ha]; omega
    have e3 : rSs (sec + z * 60) = ss := by rw [rSs_eq, ha]; omega
    rw [e1, e2, e3]
    simp
  · have hn : Int.fdiv (sec + z * 60) 86400 = dnum (nxY y mo d) (nxM y mo d) (nxD y mo d) := by rw [nx_num v, fdd, ha]; omega
    have hb : 1 ≤ nxY y mo d ∧ nxY y mo d ≤ 9999 := by unfold nxY; (repeat' split) <;> omega
    refine ⟨_, _, _, nx_valid v, hn, isDay_of (nx_valid v) hb.1 hb.2, inst_back hn, fun hs => ?_⟩
    exfalso; omega
theorem near {n y mo d : Int} (v : Valid y mo d) (hy1 : 1 < y) (hy2 : y < 9999) (h1 : dnum y mo d - 10 ≤ n) (h2 : n ≤ dnum y mo d + 10) : ∃ y3 m3 d3, Valid y3 m3 d3 ∧ dnum y3 m3 d3 = n ∧ 1 ≤ y3 ∧ y3 ≤ 9999 := by
  obtain ⟨y3, m3, d3, v3, e⟩ := day_of_num n
  refine ⟨y3, m3, d3, v3, e, ?_, ?_⟩
  · refine Int.not_lt.mp fun c => ?_
    have a1 := dnum_in v
    have a2 := dnum_in v3
    have a3 := dby_lt (a := y3 + 1) (b := y) (by omega)
    omega
  · refine Int.not_lt.mp fun c => ?_
    have a1 := dnum_in v
    have a2 := dnum_in v3
    have a3 := dby_lt (a := y + 1) (b := y3) (by omega)
    omega
theorem plain_day {sec y mo d hh mi ss z : Int} (hsec : sec = inst y mo d hh mi ss z) (v : Valid y mo d) (hy1 : 1 < y) (hy2 : y < 9999) (hh1 : 0 ≤ hh) (hh2 : hh < 24) (mi1 : 0 ≤ mi) (mi2 : mi < 60) (ss1 : 0 ≤ ss) (ss2 : ss < 61) (hz1 : -5999 ≤ z) (hz2 : z ≤ 5999) :
    ∃ y2 m2 d2, Valid y2 m2 d2 ∧ Int.fdiv (sec + 0 * 60) 86400 = dnum y2 m2 d2 ∧ isDay y2 m2 d2 = true ∧ inst y2 m2 d2 (rHh (sec + 0 * 60)) (rMi (sec + 0 * 60)) (rSs (sec + 0 * 60)) 0 = sec ∧ True := by
  have ha : sec = dnum y mo d * 86400 + hh * 3600 + (mi - z) * 60 + ss := hsec
  obtain ⟨y3, m3, d3, v3, e, b1, b2⟩ := near (n := Int.fdiv (sec + 0 * 60) 86400) v hy1 hy2 (by rw [fdd]; omega) (by rw [fdd]; omega)
  exact ⟨y3, m3, d3, v3, e.symm, isDay_of v3 b1 b2, inst_back e.symm, trivial⟩
end
end
end Mine
namespace Mine
section
open PySem PySem.W PyProof.Rows PySem.Spec PySem.Calls
noncomputable section
/-! a tuple of seven, cut at three -/
section
variable {prog : Program} {w : World} {A : Around} {E : Value → Shared → Prop} {s : Shared}
theorem cut3_applied {sl : Addr} {u : Tok} {Q : Int × Int × Nat → Shared → Prop} (hs : s.heap.IsSliceOf sl .none (.int 3 u) .none) (h : Q (0, 1, 3) s) :
    wpAny (model prog w) A (Builtin.Slice.sliceApplied (.ref sl) (pure (7 : Int))) Q E s := by
  obtain ⟨os, hos, hcs, hds⟩ := id hs
  unfold Builtin.Slice.sliceApplied Builtin.Slice.sliceFields
  refine wpAny_bind (wpAny_bind (wpAny_field hos hds (x := .none) rfl (wpAny_bind (wpAny_field hos hds (x := .int 3 u) rfl (wpAny_bind (wpAny_field hos hds (x := .none) rfl (wpAny_pure ?_)))))))
  refine wpAny_bind (slicePart_none ?_)
  show wpAny _ _ (if ((1 : Int) == 0) = true then _ else _) _ _ s
  rw [if_neg (by decide)]
  refine wpAny_bind (slicePart_none (wpAny_bind (slicePart_int (wpAny_bind (wpAny_pure ?_)))))
  exact wpAny_pure h
theorem cut3_get {t sl : Addr} {v0 v1 v2 v3 v4 v5 v6 : Value} {u : Tok} {Q : Value → Shared → Prop} (ht : IsTup s.heap t #[v0, v1, v2, v3, v4, v5, v6]) (hs : s.heap.IsSliceOf sl .none (.int 3 u) .none)
    (h : Q (.ref s.heap.objs.size) { s with heap := s.heap.push (tup [v0, v1, v2]) }) : wpAny (model prog w) A (getItem (.ref t) (.ref sl)) Q E s := by
  have hsz : sizeOk (.seq (#[v0, v1, v2] : Array Value)) := by
    show 3 ≤ sizeLine
    rw [sizeLine_eq]; decide
  obtain ⟨os, hos, hcs, hds⟩ := id hs
  have hTs : s.TypeIs (.ref sl) "slice" := ⟨os, hos, hcs⟩
  unfold getItem
  try with_reducible refine wpAny_holding ?_
  first | refine wpAny_bind (wpAny_pure ?_) | skip
  refine wpAny_bind (wpAny_sequenceKey ht.typeIs (by decide) ?_)
  refine wpAny_bind (wpAny_callSpecial?_slot (name := Str.ofString "__getitem__") ht.typeIs PySem.F.slot_tuple_getitem
    (wpAny_call_entry PySem.F.slot_tuple_getitem ht.typeIs PySem.F.entry_tuple_getitem ?_ (PyProof.Rows.args_tuple_getitem _ _)))
  show wpAny _ _ (Builtin.Tuple.tupleItemsOf (.ref t) >>= _) _ _ s
  refine wpAny_bind (tupleItemsOf_ ht ?_)
  refine wpAny_bind (wpAny_typeOf hTs ?_)
  rw [if_pos (by decide)]
  refine wpAny_bind (cut3_applied hs ?_)
  show wpAny _ _ (if ((0 : Int) == 0 && (1 : Int) == 1 && (3 : Nat) == 7) = true then _ else _) _ _ s
  rw [if_neg (by decide)]
  first
    | exact wpAny_bind (m := Builtin.Tuple.tupleExact _) (wpAny_newObj_type (wpAny_pure ⟨_, rfl, wpAny_pure h⟩) hsz)
    | exact wpAny_bind (m := Builtin.Tuple.tupleExact _) (wpAny_newObj_type (wpAny_bind (wpAny_pure (wpAny_pure ⟨_, rfl, wpAny_pure h⟩))) hsz)
    | exact wpAny_bind (wpAny_bind (m := Builtin.Tuple.tupleExact _) (wpAny_newObj_type (wpAny_pure (wpAny_pure ⟨_, rfl, wpAny_pure h⟩)) hsz))
    | exact wpAny_bind (wpAny_bind (m := Builtin.Tuple.tupleExact _) (wpAny_newObj_type (wpAny_pure ⟨_, rfl, wpAny_pure h⟩) hsz))
theorem cut3 {h₀ : Heap} {L : Addr} {m : Str → Option Value} {news : Led} {value slice : PySem.Expr} {t : Addr} {v0 v1 v2 v3 v4 v5 v6 : Value} {u : Tok} {Q : Value → Shared → Prop}
    (F : Fr h₀ L s.heap m) (N : News h₀ L s.heap news) (hm : (t, tup [v0, v1, v2, v3, v4, v5, v6]) ∈ news)
    (h : ∀ (D : Addr) h', Fr h₀ L h' m → News h₀ L h' ((D, tup [v0, v1, v2]) :: news) → (∀ p ∈ news, p.1 < D) → Q (.ref D) { s with heap := h' })
    (hs : subscripted slice false (.ref t) (.ref s.heap.objs.size) = operate [.ref s.heap.objs.size, .ref t] (getItem (.ref t) (.ref s.heap.objs.size)) := by with_unfolding_all rfl)
    (hg : ∀ r, letTemporaryGo value (.ref t) r = pure () := by intro _; with_unfolding_all rfl) :
    wpAny (model prog w) A (subscriptTail value slice (.ref t) (.ref s.heap.objs.size)) Q E { s with heap := s.heap.push { cls := .type "slice", data := .fields #[.none, .int 3 u, .none] } } := by
  have ht := News.isTup N hm
  have ht' : IsTup (s.heap.push { cls := .type "slice", data := .fields #[.none, .int 3 u, .none] }) t #[v0, v1, v2, v3, v4, v5, v6] := ht.keeps fun _ _ e => Heap.get?_push_of_some _ e
  refine subscriptTail_ops (s := { s with heap := s.heap.push { cls := .type "slice", data := .fields #[.none, .int 3 u, .none] } }) ht'.typeIs PySem.F.slot_tuple_getitem.lookup
    (cut3_get ht' (Heap.IsSliceOf.new ..) ?_) hs hg
  have N1 := News.push (F.push { cls := .type "slice", data := .fields #[.none, .int 3 u, .none] }) (N.grown fun _ _ e => Heap.get?_push_of_some _ e) (tup [v0, v1, v2])
  rw [Heap.size_push] at N1
  show Q (.ref (s.heap.push _).objs.size) _
  rw [Heap.size_push]
  exact h _ _ ((F.push _).push _) N1 fun p hp => Nat.lt_succ_of_lt (Heap.lt_size (N p hp).1)
end
end
end
end Mine
namespace Mine
section
open PySem PySem.W PyProof.Rows PySem.Spec PySem.Calls
noncomputable section
/-- a statement that leaves the frame and a part of the ledger as they were: its ways meet behind it -/
theorem join_at {M : Model} {A : Around} {E : Value → Shared → Prop} {s : Shared} {env : Env} {st : Stmt} {rest : List Stmt} {Q : Flow → Shared → Prop} {h₀ : Heap} {L : Addr} {m : Str → Option Value} {news : Led}
    (_F : Fr h₀ L s.heap m) (_N : News h₀ L s.heap news)
    (h1 : wpAny M A (exec st env) (fun f s' => f = .next ∧ ∃ h' tk', s' = { s with heap := h', toks := tk' } ∧ Fr h₀ L h' m ∧ News h₀ L h' news) E s)
    (h2 : ∀ h' tk', Fr h₀ L h' m → News h₀ L h' news → wpAny M A (execs rest env) Q E { s with heap := h', toks := tk' }) : wpAny M A (execs (st :: rest) env) Q E s := by
  refine wpAny_execs_cons (wpAny_mono h1 (fun f s' hf => ?_) fun _ _ e => e)
  obtain ⟨rfl, h', tk', rfl, F, N⟩ := hf
  exact h2 h' tk' F N
theorem join_at2 {M : Model} {A : Around} {E : Value → Shared → Prop} {s : Shared} {env : Env} {st : Stmt} {rest : List Stmt} {Q : Flow → Shared → Prop} {h₀ : Heap} {L : Addr} {m : Str → Option Value} {news : Led}
    (F : Fr h₀ L s.heap m) (N : News h₀ L s.heap news)
    (h2 : ∀ h' tk', Fr h₀ L h' m → News h₀ L h' news → wpAny M A (execs rest env) Q E { s with heap := h', toks := tk' })
    (h1 : wpAny M A (exec st env) (fun f s' => f = .next ∧ ∃ h' tk', s' = { s with heap := h', toks := tk' } ∧ Fr h₀ L h' m ∧ News h₀ L h' news) E s) : wpAny M A (execs (st :: rest) env) Q E s := join_at F N h1 h2
end
end
end Mine
namespace Mine
section
open PySem PySem.W PyProof.Rows PySem.Spec PySem.Calls
noncomputable section
theorem nlook {f : Str → Option Value} {x n : Str} {v u : Value} (h : f n = some u) (ne : n ≠ x) : (fun y => if y = x then some v else f y) n = some u := (if_neg ne).trans h
theorem dn9999 : dnum 9999 12 31 = 2932896 := by decide +kernel
theorem dn1 : dnum 1 1 1 = -719162 := by decide +kernel
theorem dn10000 : dnum 10000 1 1 = 2932897 := by decide +kernel
theorem dn0 : dnum 0 12 31 = -719163 := by decide +kernel
theorem edge1 : Valid 9999 12 31 := by unfold Valid; decide
theorem edge2 : Valid 1 1 1 := by unfold Valid; decide
theorem edge3 : Valid 10000 1 1 := by unfold Valid; decide
theorem edge4 : Valid 0 12 31 := by unfold Valid; decide
theorem edgeN1 : Int.fdiv (86400 * dnum 9999 12 31 + 86399 + 0 * 60) 86400 = dnum 9999 12 31 := by rw [dn9999]; decide
theorem edgeN2 : Int.fdiv (86400 * dnum 1 1 1 + 0 * 60) 86400 = dnum 1 1 1 := by rw [dn1]; decide
theorem edgeN3 : Int.fdiv (86400 * dnum 9999 12 31 + 86399 + 1 + 0 * 60) 86400 = dnum 10000 1 1 := by rw [dn9999, dn10000]; decide
theorem edgeN4 : Int.fdiv (86400 * dnum 1 1 1 - 1 + 0 * 60) 86400 = dnum 0 12 31 := by rw [dn1, dn0]; decide
end
end
end Mine
namespace Mine
section
open PySem PySem.W PyProof.Rows PySem.Spec PySem.Calls
noncomputable section
theorem p1_of {p : Int} (h : 0 ≤ p) : 0 ≤ p + 1 := by omega
theorem p2_of {p : Int} (h : p ≤ 20) : p + 1 ≤ 30 := by omega
theorem mp_of {p q : Prop} (h : p → q) (hp : p) : q := h hp
theorem get2 {a b k : Int} (h1 : 0 ≤ k) (h2 : k < 2) : ([a, b] : List Int).getD k.toNat 0 = a ∨ ([a, b] : List Int).getD k.toNat 0 = b := by
  have : k = 0 ∨ k = 1 := by omega
  rcases this with rfl | rfl
  · exact .inl rfl
  · exact .inr rfl
theorem mom_day {y mo d hh mi ss z : Int} (h : isDay y mo d = false) : isMom y mo d hh mi ss z = false := by unfold isMom; rw [h]; rfl
theorem mom_time {y mo d hh mi ss z : Int} (h : isTime hh mi ss = false) : isMom y mo d hh mi ss z = false := by unfold isMom; rw [h, Bool.and_false]; rfl
theorem mom_zone {y mo d hh mi ss z : Int} (h : ¬ (-5999 ≤ z ∧ z ≤ 5999)) : isMom y mo d hh mi ss z = false := by unfold isMom; rw [decide_eq_false h, Bool.and_false]
theorem bad_all {y mo d hh mi ss z sp v : Int} (hy1 : 1 ≤ y) (hy2 : y ≤ 9999) (hm1 : 1 ≤ mo) (hm2 : mo ≤ 12) (hd1 : 1 ≤ d) (hd2 : d ≤ mlen y mo)
    (h : (sp = 0 ∧ (v = 0 ∨ v = 10000)) ∨ (sp = 1 ∧ (v = 0 ∨ v = 13)) ∨ (sp = 2 ∧ (v = 0 ∨ v = mlen y mo + 1)) ∨ (sp = 3 ∧ (v = -1 ∨ v = 24)) ∨ (sp = 4 ∧ (v = -1 ∨ v = 60)) ∨ (sp = 5 ∧ (v = -1 ∨ v = 61)) ∨ (sp = 6 ∧ (v = -6000 ∨ v = 6000))) :
    isMom (if sp = 0 then v else y) (if sp = 1 then v else mo) (if sp = 2 then v else d) (if sp = 3 then v else hh) (if sp = 4 then v else mi) (if sp = 5 then v else ss) (if sp = 6 then v else z) = false ∧
      (sp < 3 → isDay (if sp = 0 then v else y) (if sp = 1 then v else mo) (if sp = 2 then v else d) = false) := by
  have key : sp < 3 → isDay (if sp = 0 then v else y) (if sp = 1 then v else mo) (if sp = 2 then v else d) = false := by
    intro h3
    unfold isDay
    rw [decide_eq_false_iff_not]
    rintro ⟨a1, a2, a3, a4, a5, a6⟩
    rcases h with ⟨rfl, h⟩ | ⟨rfl, h⟩ | ⟨rfl, h⟩ | ⟨rfl, h⟩ | ⟨rfl, h⟩ | ⟨rfl, h⟩ | ⟨rfl, h⟩
    · rw [if_pos rfl] at a1 a2; omega
    · rw [if_pos rfl] at a3 a4; omega
    · simp only [Int.reduceEq, ↓reduceIte] at a5 a6; omega
    all_goals (exact absurd h3 (by decide))
  refine ⟨?_, key⟩
  by_cases c : sp < 3
  · exact mom_day (key c)
  by_cases c6 : sp = 6
  · refine mom_zone ?_
    rw [if_pos c6]
    omega
  · refine mom_time ?_
    unfold isTime
    rw [decide_eq_false_iff_not]
    rintro ⟨a1, a2, a3, a4, a5, a6⟩
    have hc : sp = 3 ∨ sp = 4 ∨ sp = 5 := by omega
    rcases hc with rfl | rfl | rfl <;> simp only [Int.reduceEq, ↓reduceIte] at a1 a2 a3 a4 a5 a6 <;> omega
end
end
end Mine
namespace Mine
section
open PySem PySem.W PyProof.Rows PySem.Spec PySem.Calls
noncomputable section
section
theorem words63 : True := by
  k_with_none
  (k_with "eval Call Name" => ((with_reducible show wpAny _ _ (eval (Expr.Call (Expr.Name _ _) _ _ _) _) _ _ _); refine Call_ ?_))
  (k_with "call ref" => (k_here; (with_reducible show wpAny _ _ (call (Value.ref 256) _) _ _ _); k_dflt (refine draw_use (by k_asm) (by k_asm) (by k_asm) (by k_asm) (by k_asm) (by first | exact rfl | assumption) (by ktr_room) (by ktr_units) (by k_updF) (by k_mem) (by omega) (by omega) (by assumption) (by assumption) (by assumption) (by omega) (by omega) (by assumption) (by assumption) (by assumption) ?_); intro v9 g9 st9 t9 t91 t92 t93 ep9 h9 tk9 pv9 pw9 pg9 ps9 pt9 F9 N9; (try dsimp only at N9); (try dsimp only); (try k_fold)))
  (k_with "call ref" => (k_here; (with_reducible show wpAny _ _ (call (Value.ref 249) _) _ _ _); k_dflt (refine con_box _ _ _ _ _ _ _ _ _ _ _ _ _ _ _ _ _ _ _ _ _ (by k_asm) (by k_asm) (by k_asm) (by k_asm) (by k_asm) (by first | exact rfl | assumption) (by ktr_room) (by ktr_units) (by assumption) (by assumption) (by assumption) ?_); intro (pl : Nat) (c : Nat) g st q1 q2 q3 ep epc vs ns h9 tk9 hg hst hst' hI hlen hpc F9 N9; (try dsimp only); (try k_fold)))
  trivial
theorem seg1 {w : World} {mean : ExcName → Option Value} {mg mb : Str → Option Value} (dp un : Nat) (gd : Option (List Code)) (a : Addr) (ccd : Value) (A₀ : Around) (base h₀ : Heap) (L : Addr) (s : Shared) (Q : Flow → Shared → Prop) (E : Value → Shared → Prop) (l : Addr) (ws : List Value) (ks : List Int)
    (B : Below A₀ base [] h₀) (F : Fr h₀ L s.heap (fm [((Str.ofString "script"), .ref l)])) (X : (heapK w.params).In h₀) (N : News h₀ L s.heap ([])) (T : Top viewK LO mean mg mb h₀) (hdp : dp + 120 < recursionLimit) (hu : un + 8 * 120 < cLine) (hl : base.IsList l ws.toArray) (hi : IntsAre ws ks) (hfit : ks.length ≤ 63)
    (hret : ∀ (pl c : Nat) (g' st' : Int) (q1' q2' q3' : Tok) (ep' epc : Nat) (vs : List Value) (ns : List Int) (so y : Int) (t1 t2 : Tok) (h' : Heap) (tk' : Nat), 0 ≤ g' → 0 ≤ st' → st' < 2147483647 → IntsAre vs ns → ns.length ≤ 40 → c < pl → 0 ≤ so → so < 4 → 1 ≤ y → y ≤ 9999 → Fr h₀ L h' (fm [((Str.ofString "year"), .int y t2), ((Str.ofString "sort"), .int so t1), ((Str.ofString "pool"), .ref pl), ((Str.ofString "script"), .ref l)]) → News h₀ L h' ((pl, poolO c g' st' 2 q1' q2' q3' ep') :: (c, listOf vs.toArray epc) :: []) → Q .next { s with heap := h', toks := tk' }) :
    Walks (model PySem.Challenge.rw_no0364_01.row.prog w) (ktrTop dp un gd (Str.ofString "law") lawScope L a ccd [] []) (execs (lawSeg 0 3) (envOf (Str.ofString "law") lawScope L a ccd)) Q E s := by
  refine ⟨?_⟩
  have kk : PySem.Challenge.rw_no0364_01.row.prog = PySem.Challenge.rw_no0364_01.row.prog ∧ heapK w.params = heapK w.params := ⟨rfl, rfl⟩
  revert kk
  k_fill
  intro _
  unfold lawSeg
  conv in (List.drop _ _) => whnf
  simp only [List.take_succ_cons, List.take_zero]
  try k_lift B
  try k_fold
  k_steps
  all_goals (refine' hret _ _ _ _ _ _ _ _ _ _ _ _ _ _ _ _ _ ?p0 ?p1 ?p2 ?p3 ?p4 ?p5 ?p6 ?p7 ?p8 ?p9 ?pF ?pN; (case pF => exact (fm_fr (by k_asm) (by repeat' (first | with_reducible refine fm_step ?_ | exact rfl | exact fm_dup rfl)))); (case pN => exact (cb_drop (by k_asm) (by kcj_all))); (case p0 => assumption); (case p1 => assumption); (case p2 => assumption); (case p3 => assumption); (case p4 => assumption); (case p5 => assumption); (case p6 => assumption); (case p7 => assumption); (case p8 => omega); (case p9 => omega))
theorem words64 : True := by
  k_with_none
  trivial
end

end
end
end Mine
namespace Mine
section
open PySem PySem.W PyProof.Rows PySem.Spec PySem.Calls
noncomputable section
section
theorem words65 : True := by
  k_with_none
  (k_with "eval Call Name" => ((with_reducible show wpAny _ _ (eval (Expr.Call (Expr.Name _ _) _ _ _) _) _ _ _); refine Call_ ?_))
  trivial
theorem seg2 {w : World} {mean : ExcName → Option Value} {mg mb : Str → Option Value} (dp un : Nat) (gd : Option (List Code)) (a : Addr) (ccd : Value) (A₀ : Around) (base h₀ : Heap) (L : Addr) (s : Shared) (Q : Flow → Shared → Prop) (E : Value → Shared → Prop) (l : Addr) (pl c : Nat) (g st : Int) (q1 q2 q3 : Tok) (ep epc : Nat) (vs : List Value) (ns : List Int) (so y0 : Int) (t1 t2 : Tok)
    (B : Below A₀ base [] h₀) (F : Fr h₀ L s.heap (fm [((Str.ofString "year"), .int y0 t2), ((Str.ofString "sort"), .int so t1), ((Str.ofString "pool"), .ref pl), ((Str.ofString "script"), .ref l)])) (X : (heapK w.params).In h₀) (N : News h₀ L s.heap ((pl, poolO c g st 2 q1 q2 q3 ep) :: (c, listOf vs.toArray epc) :: [])) (T : Top viewK LO mean mg mb h₀) (hdp : dp + 120 < recursionLimit) (hu : un + 8 * 120 < cLine) (hg : 0 ≤ g) (hst : 0 ≤ st) (hst' : st < 2147483647) (hI : IntsAre vs ns) (hlen : ns.length ≤ 40) (hpc : c < pl) (hy1 : 1 ≤ y0) (hy2 : y0 ≤ 9999)
    (hret : ∀ (y : Int) (t3 : Tok) (h' : Heap) (tk' : Nat), 1 ≤ y → y ≤ 9999 → Fr h₀ L h' (fm [((Str.ofString "year"), .int y t3), ((Str.ofString "year"), .int y0 t2), ((Str.ofString "sort"), .int so t1), ((Str.ofString "pool"), .ref pl), ((Str.ofString "script"), .ref l)]) → News h₀ L h' ((pl, poolO c g st 2 q1 q2 q3 ep) :: (c, listOf vs.toArray epc) :: []) → Q .next { s with heap := h', toks := tk' }) :
    Walks (model PySem.Challenge.rw_no0364_01.row.prog w) (ktrTop dp un gd (Str.ofString "law") lawScope L a ccd [] []) (execs (lawSeg 3 1) (envOf (Str.ofString "law") lawScope L a ccd)) Q E s := by
  refine ⟨?_⟩
  have kk : PySem.Challenge.rw_no0364_01.row.prog = PySem.Challenge.rw_no0364_01.row.prog ∧ heapK w.params = heapK w.params := ⟨rfl, rfl⟩
  revert kk
  k_fill
  intro _
  unfold lawSeg
  conv in (List.drop _ _) => whnf
  simp only [List.take_succ_cons, List.take_zero]
  try k_lift B
  try k_fold
  k_steps
  · (refine' hret _ _ _ _ ?p0 ?p1 ?pF ?pN; (case pF => exact (fm_fr (by k_asm) (by repeat' (first | with_reducible refine fm_step ?_ | exact rfl | exact fm_dup rfl)))); (case pN => exact (cb_drop (by k_asm) (by kcj_all))); (case p0 => exact (menu10 (by assumption) (by assumption)).1); (case p1 => exact (menu10 (by assumption) (by assumption)).2))
  · (refine' hret y0 t2 _ _ ?p0 ?p1 ?pF ?pN; (case pF => exact (fm_fr (by k_asm) (by repeat' (first | with_reducible refine fm_step ?_ | exact rfl | exact fm_dup rfl)))); (case pN => exact (cb_drop (by k_asm) (by kcj_all))); (case p0 => assumption); (case p1 => assumption))
theorem words66 : True := by
  k_with_none
  trivial
end

end
end
end Mine
namespace Mine
section
open PySem PySem.W PyProof.Rows PySem.Spec PySem.Calls
noncomputable section
section
theorem words67 : True := by
  k_with_none
  (k_with "eval Call Name" => ((with_reducible show wpAny _ _ (eval (Expr.Call (Expr.Name _ _) _ _ _) _) _ _ _); refine Call_ ?_))
  (k_with "call ref" => (k_here; (with_reducible show wpAny _ _ (call (Value.ref 256) _) _ _ _); k_dflt (refine draw_use (by k_asm) (by k_asm) (by k_asm) (by k_asm) (by k_asm) (by first | exact rfl | assumption) (by ktr_room) (by ktr_units) (by k_updF) (by k_mem) (by first | omega | exact mlen_pos) (by first | omega | exact mlen_le) (by assumption) (by assumption) (by assumption) (by omega) (by omega) (by assumption) (by assumption) (by assumption) ?_); intro v9 g9 st9 t9 t91 t92 t93 ep9 h9 tk9 pv9 pw9 pg9 ps9 pt9 F9 N9; (try dsimp only at N9); (try dsimp only); (try k_fold)))
  (k_with "call ref" => (k_here; (with_reducible show wpAny _ _ (call (Value.ref 279) _) _ _ _); k_dflt (refine con_use (by k_asm) (by k_asm) (by k_asm) (by k_asm) (by k_asm) (by first | exact rfl | assumption) (con_law_length _ _ _ _ _ (by omega) (by omega) (by omega) (by omega)) (by ktr_room) (by ktr_units) ?_); intro t9 h9 tk9 F9 N9; (try dsimp only); (try k_fold)))
  trivial
theorem seg3 {w : World} {mean : ExcName → Option Value} {mg mb : Str → Option Value} (dp un : Nat) (gd : Option (List Code)) (a : Addr) (ccd : Value) (A₀ : Around) (base h₀ : Heap) (L : Addr) (s : Shared) (Q : Flow → Shared → Prop) (E : Value → Shared → Prop) (l : Addr) (pl c : Nat) (g st : Int) (q1 q2 q3 : Tok) (ep epc : Nat) (vs : List Value) (ns : List Int) (so y0 : Int) (t1 t2 : Tok) (y : Int) (t3 : Tok)
    (B : Below A₀ base [] h₀) (F : Fr h₀ L s.heap (fm [((Str.ofString "year"), .int y t3), ((Str.ofString "year"), .int y0 t2), ((Str.ofString "sort"), .int so t1), ((Str.ofString "pool"), .ref pl), ((Str.ofString "script"), .ref l)])) (X : (heapK w.params).In h₀) (N : News h₀ L s.heap ((pl, poolO c g st 2 q1 q2 q3 ep) :: (c, listOf vs.toArray epc) :: [])) (T : Top viewK LO mean mg mb h₀) (hdp : dp + 120 < recursionLimit) (hu : un + 8 * 120 < cLine) (hg : 0 ≤ g) (hst : 0 ≤ st) (hst' : st < 2147483647) (hI : IntsAre vs ns) (hlen : ns.length ≤ 40) (hpc : c < pl) (hy1 : 1 ≤ y) (hy2 : y ≤ 9999)
    (hret : ∀ (g' st' : Int) (q1' q2' q3' : Tok) (ep' : Nat) (mo d0 : Int) (t4 t5 t6 : Tok) (h' : Heap) (tk' : Nat), 0 ≤ g' → 0 ≤ st' → st' < 2147483647 → 1 ≤ mo → mo ≤ 12 → 1 ≤ d0 → d0 ≤ mlen y mo → Fr h₀ L h' (fm [((Str.ofString "day"), .int d0 t6), ((Str.ofString "length"), .int (mlen y mo) t5), ((Str.ofString "month"), .int mo t4), ((Str.ofString "year"), .int y t3), ((Str.ofString "year"), .int y0 t2), ((Str.ofString "sort"), .int so t1), ((Str.ofString "pool"), .ref pl), ((Str.ofString "script"), .ref l)]) → News h₀ L h' ((pl, poolO c g' st' 4 q1' q2' q3' ep') :: (c, listOf vs.toArray epc) :: []) → Q .next { s with heap := h', toks := tk' }) :
    Walks (model PySem.Challenge.rw_no0364_01.row.prog w) (ktrTop dp un gd (Str.ofString "law") lawScope L a ccd [] []) (execs (lawSeg 4 3) (envOf (Str.ofString "law") lawScope L a ccd)) Q E s := by
  refine ⟨?_⟩
  have kk : PySem.Challenge.rw_no0364_01.row.prog = PySem.Challenge.rw_no0364_01.row.prog ∧ heapK w.params = heapK w.params := ⟨rfl, rfl⟩
  revert kk
  k_fill
  intro _
  unfold lawSeg
  conv in (List.drop _ _) => whnf
  simp only [List.take_succ_cons, List.take_zero]
  try k_lift B
  try k_fold
  k_steps
  all_goals (refine' hret _ _ _ _ _ _ _ _ _ _ _ _ _ ?p0 ?p1 ?p2 ?p3 ?p4 ?p5 ?p6 ?pF ?pN; (case pF => exact (fm_fr (by k_asm) (by repeat' (first | with_reducible refine fm_step ?_ | exact rfl | exact fm_dup rfl)))); (case pN => exact (cb_drop (by k_asm) (by kcj_all))); (case p0 => assumption); (case p1 => assumption); (case p2 => assumption); (case p3 => omega); (case p4 => omega); (case p5 => omega); (case p6 => omega))
theorem words68 : True := by
  k_with_none
  trivial
end

end
end
end Mine
namespace Mine
section
open PySem PySem.W PyProof.Rows PySem.Spec PySem.Calls
noncomputable section
section
theorem words69 : True := by
  k_with_none
  (k_with "eval Call Name" => ((with_reducible show wpAny _ _ (eval (Expr.Call (Expr.Name _ _) _ _ _) _) _ _ _); refine Call_ ?_))
  (k_with "call ref" => (k_here; (with_reducible show wpAny _ _ (call (Value.ref 256) _) _ _ _); k_dflt (refine draw_use (by k_asm) (by k_asm) (by k_asm) (by k_asm) (by k_asm) (by first | exact rfl | assumption) (by ktr_room) (by ktr_units) (by k_updF) (by k_mem) (by omega) (by omega) (by assumption) (by assumption) (by assumption) (by omega) (by omega) (by assumption) (by assumption) (by assumption) ?_); intro v9 g9 st9 t9 t91 t92 t93 ep9 h9 tk9 pv9 pw9 pg9 ps9 pt9 F9 N9; (try dsimp only at N9); (try dsimp only); (try k_fold)))
  trivial
theorem seg4 {w : World} {mean : ExcName → Option Value} {mg mb : Str → Option Value} (dp un : Nat) (gd : Option (List Code)) (a : Addr) (ccd : Value) (A₀ : Around) (base h₀ : Heap) (L : Addr) (s : Shared) (Q : Flow → Shared → Prop) (E : Value → Shared → Prop) (l : Addr) (pl c : Nat) (g st : Int) (q1 q2 q3 : Tok) (ep epc : Nat) (vs : List Value) (ns : List Int) (so y0 : Int) (t1 t2 : Tok) (y : Int) (t3 : Tok) (mo d0 : Int) (t4 t5 t6 : Tok)
    (B : Below A₀ base [] h₀) (F : Fr h₀ L s.heap (fm [((Str.ofString "day"), .int d0 t6), ((Str.ofString "length"), .int (mlen y mo) t5), ((Str.ofString "month"), .int mo t4), ((Str.ofString "year"), .int y t3), ((Str.ofString "year"), .int y0 t2), ((Str.ofString "sort"), .int so t1), ((Str.ofString "pool"), .ref pl), ((Str.ofString "script"), .ref l)])) (X : (heapK w.params).In h₀) (N : News h₀ L s.heap ((pl, poolO c g st 4 q1 q2 q3 ep) :: (c, listOf vs.toArray epc) :: [])) (T : Top viewK LO mean mg mb h₀) (hdp : dp + 120 < recursionLimit) (hu : un + 8 * 120 < cLine) (hg : 0 ≤ g) (hst : 0 ≤ st) (hst' : st < 2147483647) (hI : IntsAre vs ns) (hlen : ns.length ≤ 40) (hpc : c < pl) (hy1 : 1 ≤ y) (hy2 : y ≤ 9999) (hm1 : 1 ≤ mo) (hm2 : mo ≤ 12) (hd1 : 1 ≤ d0) (hd2 : d0 ≤ mlen y mo)
    (hret : ∀ (g' st' : Int) (q1' q2' q3' : Tok) (ep' : Nat) (d : Int) (t7 : Tok) (h' : Heap) (tk' : Nat), 0 ≤ g' → 0 ≤ st' → st' < 2147483647 → 1 ≤ d → d ≤ mlen y mo → Fr h₀ L h' (fm [((Str.ofString "day"), .int d t7), ((Str.ofString "day"), .int d0 t6), ((Str.ofString "length"), .int (mlen y mo) t5), ((Str.ofString "month"), .int mo t4), ((Str.ofString "year"), .int y t3), ((Str.ofString "year"), .int y0 t2), ((Str.ofString "sort"), .int so t1), ((Str.ofString "pool"), .ref pl), ((Str.ofString "script"), .ref l)]) → News h₀ L h' ((pl, poolO c g' st' 5 q1' q2' q3' ep') :: (c, listOf vs.toArray epc) :: []) → Q .next { s with heap := h', toks := tk' }) :
    Walks (model PySem.Challenge.rw_no0364_01.row.prog w) (ktrTop dp un gd (Str.ofString "law") lawScope L a ccd [] []) (execs (lawSeg 7 1) (envOf (Str.ofString "law") lawScope L a ccd)) Q E s := by
  refine ⟨?_⟩
  have kk : PySem.Challenge.rw_no0364_01.row.prog = PySem.Challenge.rw_no0364_01.row.prog ∧ heapK w.params = heapK w.params := ⟨rfl, rfl⟩
  revert kk
  k_fill
  intro _
  unfold lawSeg
  conv in (List.drop _ _) => whnf
  simp only [List.take_succ_cons, List.take_zero]
  try k_lift B
  try k_fold
  k_steps
  · (refine' hret _ _ _ _ _ _ _ _ _ _ ?p0 ?p1 ?p2 ?p3 ?p4 ?pF ?pN; (case pF => exact (fm_fr (by k_asm) (by repeat' (first | with_reducible refine fm_step ?_ | exact rfl | exact fm_dup rfl)))); (case pN => exact (cb_drop (by k_asm) (by kcj_all))); (case p0 => assumption); (case p1 => assumption); (case p2 => assumption); (case p3 => omega); (case p4 => omega))
  · (refine' hret _ _ _ _ _ _ d0 t6 _ _ ?p0 ?p1 ?p2 ?p3 ?p4 ?pF ?pN; (case pF => exact (fm_fr (by k_asm) (by repeat' (first | with_reducible refine fm_step ?_ | exact rfl | exact fm_dup rfl)))); (case pN => exact (cb_drop (by k_asm) (by kcj_all))); (case p0 => assumption); (case p1 => assumption); (case p2 => assumption); (case p3 => omega); (case p4 => omega))
theorem words70 : True := by
  k_with_none
  trivial
end

end
end
end Mine
namespace Mine
section
open PySem PySem.W PyProof.Rows PySem.Spec PySem.Calls
noncomputable section
section
theorem words71 : True := by
  k_with_none
  (k_with "eval Call Name" => ((with_reducible show wpAny _ _ (eval (Expr.Call (Expr.Name _ _) _ _ _) _) _ _ _); refine Call_ ?_))
  (k_with "call ref" => (k_here; (with_reducible show wpAny _ _ (call (Value.ref 265) _) _ _ _); k_dflt (refine con_use (by k_asm) (by k_asm) (by k_asm) (by k_asm) (by k_asm) (by first | exact rfl | assumption) (con_law_days _ _ _ _ _ _ _ (by omega) (by omega) (by omega) (by omega)) (by ktr_room) (by ktr_units) ?_); intro t9 h9 tk9 F9 N9; (try dsimp only); (try k_fold)))
  (k_with "call ref" => (k_here; (with_reducible show wpAny _ _ (call (Value.ref 110) _) _ _ _); k_dflt (refine con_use (by k_asm) (by k_asm) (by k_asm) (by k_asm) (by k_asm) (by first | exact rfl | assumption) (con_month_length _ _ _ _ _ ) (by ktr_room) (by ktr_units) ?_); intro t9 h9 tk9 F9 N9; (try dsimp only); (try k_fold)))
  (k_with "call ref" => (k_here; (with_reducible show wpAny _ _ (call (Value.ref 103) _) _ _ _); k_dflt (refine con_use (by k_asm) (by k_asm) (by k_asm) (by k_asm) (by k_asm) (by first | exact rfl | assumption) (con_is_leap _ _ _ ) (by ktr_room) (by ktr_units) ?_); intro h9 tk9 F9 N9; (try dsimp only); (try k_fold)))
  (k_with "call ref" => (k_here; (with_reducible show wpAny _ _ (call (Value.ref 279) _) _ _ _); k_dflt (refine con_use (by k_asm) (by k_asm) (by k_asm) (by k_asm) (by k_asm) (by first | exact rfl | assumption) (con_law_length _ _ _ _ _ (by omega) (by omega) (by omega) (by omega)) (by ktr_room) (by ktr_units) ?_); intro t9 h9 tk9 F9 N9; (try dsimp only); (try k_fold)))
  trivial
theorem seg5 {w : World} {mean : ExcName → Option Value} {mg mb : Str → Option Value} (dp un : Nat) (gd : Option (List Code)) (a : Addr) (ccd : Value) (A₀ : Around) (base h₀ : Heap) (L : Addr) (s : Shared) (Q : Flow → Shared → Prop) (E : Value → Shared → Prop) (l : Addr) (pl c : Nat) (g st : Int) (q1 q2 q3 : Tok) (ep epc : Nat) (vs : List Value) (ns : List Int) (so y0 : Int) (t1 t2 : Tok) (y : Int) (t3 : Tok) (mo d0 : Int) (t4 t5 t6 : Tok) (d : Int) (t7 : Tok)
    (B : Below A₀ base [] h₀) (F : Fr h₀ L s.heap (fm [((Str.ofString "day"), .int d t7), ((Str.ofString "day"), .int d0 t6), ((Str.ofString "length"), .int (mlen y mo) t5), ((Str.ofString "month"), .int mo t4), ((Str.ofString "year"), .int y t3), ((Str.ofString "year"), .int y0 t2), ((Str.ofString "sort"), .int so t1), ((Str.ofString "pool"), .ref pl), ((Str.ofString "script"), .ref l)])) (X : (heapK w.params).In h₀) (N : News h₀ L s.heap ((pl, poolO c g st 5 q1 q2 q3 ep) :: (c, listOf vs.toArray epc) :: [])) (T : Top viewK LO mean mg mb h₀) (hdp : dp + 120 < recursionLimit) (hu : un + 8 * 120 < cLine) (hg : 0 ≤ g) (hst : 0 ≤ st) (hst' : st < 2147483647) (hI : IntsAre vs ns) (hlen : ns.length ≤ 40) (hpc : c < pl) (hy1 : 1 ≤ y) (hy2 : y ≤ 9999) (hm1 : 1 ≤ mo) (hm2 : mo ≤ 12) (hd1 : 1 ≤ d) (hd2 : d ≤ mlen y mo)
    (hret : ∀ (t8 : Tok) (h' : Heap) (tk' : Nat), Fr h₀ L h' (fm [((Str.ofString "number"), .int (dnum y mo d) t8), ((Str.ofString "day"), .int d t7), ((Str.ofString "day"), .int d0 t6), ((Str.ofString "length"), .int (mlen y mo) t5), ((Str.ofString "month"), .int mo t4), ((Str.ofString "year"), .int y t3), ((Str.ofString "year"), .int y0 t2), ((Str.ofString "sort"), .int so t1), ((Str.ofString "pool"), .ref pl), ((Str.ofString "script"), .ref l)]) → News h₀ L h' ((pl, poolO c g st 5 q1 q2 q3 ep) :: (c, listOf vs.toArray epc) :: []) → Q .next { s with heap := h', toks := tk' }) :
    Walks (model PySem.Challenge.rw_no0364_01.row.prog w) (ktrTop dp un gd (Str.ofString "law") lawScope L a ccd [] []) (execs (lawSeg 8 2) (envOf (Str.ofString "law") lawScope L a ccd)) Q E s := by
  refine ⟨?_⟩
  have kk : PySem.Challenge.rw_no0364_01.row.prog = PySem.Challenge.rw_no0364_01.row.prog ∧ heapK w.params = heapK w.params := ⟨rfl, rfl⟩
  revert kk
  k_fill
  intro _
  unfold lawSeg
  conv in (List.drop _ _) => whnf
  simp only [List.take_succ_cons, List.take_zero]
  try k_lift B
  try k_fold
  k_steps
  · exact absurd rfl (by assumption)
  · exact absurd (leap29 y) (bne_iff_ne.mp (by assumption))
  · (refine' hret _ _ _  ?pF ?pN; (case pF => exact (fm_fr (by k_asm) (by repeat' (first | with_reducible refine fm_step ?_ | exact rfl | exact fm_dup rfl)))); (case pN => exact (cb_drop (by k_asm) (by kcj_all))))
theorem words72 : True := by
  k_with_none
  trivial
end

end
end
end Mine
namespace Mine
section
open PySem PySem.W PyProof.Rows PySem.Spec PySem.Calls
noncomputable section
section
theorem words73 : True := by
  k_with_none
  (k_with "eval Call Name" => ((with_reducible show wpAny _ _ (eval (Expr.Call (Expr.Name _ _) _ _ _) _) _ _ _); refine Call_ ?_))
  (k_with "call ref" => (k_here; (with_reducible show wpAny _ _ (call (Value.ref 124) _) _ _ _); k_dflt (refine con_use (by k_asm) (by k_asm) (by k_asm) (by k_asm) (by k_asm) (by first | exact rfl | assumption) (con_day_number _ _ _ _ _ _ _ (by omega) (by omega) (by omega) (by omega)) (by ktr_room) (by ktr_units) ?_); intro t9 h9 tk9 F9 N9; (try dsimp only); (try k_fold)))
  (k_with "call ref" => (k_here; (with_reducible show wpAny _ _ (call (Value.ref 131) _) _ _ _); k_dflt (refine con_use (by k_asm) (by k_asm) (by k_asm) (by k_asm) (by k_asm) (by first | exact rfl | assumption) (con_day_toldR _ _ _ _ _ _ (by assumption) (by first | assumption | exact rfl) (by omega) (by omega)) (by ktr_room) (by ktr_units) ?_); intro x9 t91 t92 t93 h9 tk9 F9 N9 lt9; (try k_lt lt9); (try dsimp only); (try k_fold)))
  (k_with "call ref" => (k_here; (with_reducible show wpAny _ _ (call (Value.ref 138) _) _ _ _); k_dflt (refine con_use (by k_asm) (by k_asm) (by k_asm) (by k_asm) (by k_asm) (by first | exact rfl | assumption) (con_weekday _ _ _ _ _ _ _ (by omega) (by omega) (by omega) (by omega)) (by ktr_room) (by ktr_units) ?_); intro t9 h9 tk9 F9 N9; (try dsimp only); (try k_fold)))
  (k_with "call ref" => (k_here; (with_reducible show wpAny _ _ (call (Value.ref 272) _) _ _ _); k_dflt (refine con_use (by k_asm) (by k_asm) (by k_asm) (by k_asm) (by k_asm) (by first | exact rfl | assumption) (con_law_weekday _ _ _ _ _ _ _ (by omega) (by omega) (by omega) (by omega)) (by ktr_room) (by ktr_units) ?_); intro t9 h9 tk9 F9 N9; (try dsimp only); (try k_fold)))
  (k_with "compareOp NotEq ref ref" => (k_here; k_dflt (refine cmp_tup3 (by k_asm) (by k_mem) (by k_mem) (by ke_room) ?_; k_whole)))
  trivial
theorem seg6 {w : World} {mean : ExcName → Option Value} {mg mb : Str → Option Value} (dp un : Nat) (gd : Option (List Code)) (a : Addr) (ccd : Value) (A₀ : Around) (base h₀ : Heap) (L : Addr) (s : Shared) (Q : Flow → Shared → Prop) (E : Value → Shared → Prop) (l : Addr) (pl c : Nat) (g st : Int) (q1 q2 q3 : Tok) (ep epc : Nat) (vs : List Value) (ns : List Int) (so y0 : Int) (t1 t2 : Tok) (y : Int) (t3 : Tok) (mo d0 : Int) (t4 t5 t6 : Tok) (d : Int) (t7 : Tok) (t8 : Tok)
    (B : Below A₀ base [] h₀) (F : Fr h₀ L s.heap (fm [((Str.ofString "number"), .int (dnum y mo d) t8), ((Str.ofString "day"), .int d t7), ((Str.ofString "day"), .int d0 t6), ((Str.ofString "length"), .int (mlen y mo) t5), ((Str.ofString "month"), .int mo t4), ((Str.ofString "year"), .int y t3), ((Str.ofString "year"), .int y0 t2), ((Str.ofString "sort"), .int so t1), ((Str.ofString "pool"), .ref pl), ((Str.ofString "script"), .ref l)])) (X : (heapK w.params).In h₀) (N : News h₀ L s.heap ((pl, poolO c g st 5 q1 q2 q3 ep) :: (c, listOf vs.toArray epc) :: [])) (T : Top viewK LO mean mg mb h₀) (hdp : dp + 120 < recursionLimit) (hu : un + 8 * 120 < cLine) (hg : 0 ≤ g) (hst : 0 ≤ st) (hst' : st < 2147483647) (hI : IntsAre vs ns) (hlen : ns.length ≤ 40) (hpc : c < pl) (hy1 : 1 ≤ y) (hy2 : y ≤ 9999) (hm1 : 1 ≤ mo) (hm2 : mo ≤ 12) (hd1 : 1 ≤ d) (hd2 : d ≤ mlen y mo)
    (hret : ∀ (h' : Heap) (tk' : Nat), Fr h₀ L h' (fm [((Str.ofString "number"), .int (dnum y mo d) t8), ((Str.ofString "day"), .int d t7), ((Str.ofString "day"), .int d0 t6), ((Str.ofString "length"), .int (mlen y mo) t5), ((Str.ofString "month"), .int mo t4), ((Str.ofString "year"), .int y t3), ((Str.ofString "year"), .int y0 t2), ((Str.ofString "sort"), .int so t1), ((Str.ofString "pool"), .ref pl), ((Str.ofString "script"), .ref l)]) → News h₀ L h' ((pl, poolO c g st 5 q1 q2 q3 ep) :: (c, listOf vs.toArray epc) :: []) → Q .next { s with heap := h', toks := tk' }) :
    Walks (model PySem.Challenge.rw_no0364_01.row.prog w) (ktrTop dp un gd (Str.ofString "law") lawScope L a ccd [] []) (execs (lawSeg 10 1) (envOf (Str.ofString "law") lawScope L a ccd)) Q E s := by
  refine ⟨?_⟩
  have kk : PySem.Challenge.rw_no0364_01.row.prog = PySem.Challenge.rw_no0364_01.row.prog ∧ heapK w.params = heapK w.params := ⟨rfl, rfl⟩
  revert kk
  k_fill
  intro _
  unfold lawSeg
  conv in (List.drop _ _) => whnf
  simp only [List.take_succ_cons, List.take_zero]
  try k_lift B
  try k_fold
  have hv : Valid y mo d := ⟨hm1, hm2, hd1, hd2⟩
  k_steps
  all_goals first | exact absurd rfl (by assumption) | ((refine' hret _ _  ?pF ?pN; (case pF => exact (fm_fr (by k_asm) (by repeat' (first | with_reducible refine fm_step ?_ | exact rfl | exact fm_dup rfl)))); (case pN => exact (cb_drop (by k_asm) (by kcj_all)))))
theorem words74 : True := by
  k_with_none
  trivial
end

end
end
end Mine
namespace Mine
section
open PySem PySem.W PyProof.Rows PySem.Spec PySem.Calls
noncomputable section
section
theorem words75 : True := by
  k_with_none
  (k_with "eval Call Name" => ((with_reducible show wpAny _ _ (eval (Expr.Call (Expr.Name _ _) _ _ _) _) _ _ _); refine Call_ ?_))
  (k_with "call ref" => (k_here; (with_reducible show wpAny _ _ (call (Value.ref 131) _) _ _ _); k_dflt (refine con_use (by k_asm) (by k_asm) (by k_asm) (by k_asm) (by k_asm) (by first | exact rfl | assumption) (con_day_toldR _ _ _ _ _ _ (by assumption) (by assumption) (by omega) (by omega)) (by ktr_room) (by ktr_units) ?_); intro x9 t91 t92 t93 h9 tk9 F9 N9 lt9; (try k_lt lt9); (try dsimp only); (try k_fold)))
  (k_with "compareOp NotEq ref ref" => (k_here; k_dflt (refine cmp_tup3 (by k_asm) (by k_mem) (by k_mem) (by ke_room) ?_; k_whole)))
  trivial
theorem seg7 {w : World} {mean : ExcName → Option Value} {mg mb : Str → Option Value} (dp un : Nat) (gd : Option (List Code)) (a : Addr) (ccd : Value) (A₀ : Around) (base h₀ : Heap) (L : Addr) (s : Shared) (Q : Flow → Shared → Prop) (E : Value → Shared → Prop) (l : Addr) (pl c : Nat) (g st : Int) (q1 q2 q3 : Tok) (ep epc : Nat) (vs : List Value) (ns : List Int) (so y0 : Int) (t1 t2 : Tok) (y : Int) (t3 : Tok) (mo d0 : Int) (t4 t5 t6 : Tok) (d : Int) (t7 : Tok) (t8 : Tok)
    (B : Below A₀ base [] h₀) (F : Fr h₀ L s.heap (fm [((Str.ofString "number"), .int (dnum y mo d) t8), ((Str.ofString "day"), .int d t7), ((Str.ofString "day"), .int d0 t6), ((Str.ofString "length"), .int (mlen y mo) t5), ((Str.ofString "month"), .int mo t4), ((Str.ofString "year"), .int y t3), ((Str.ofString "year"), .int y0 t2), ((Str.ofString "sort"), .int so t1), ((Str.ofString "pool"), .ref pl), ((Str.ofString "script"), .ref l)])) (X : (heapK w.params).In h₀) (N : News h₀ L s.heap ((pl, poolO c g st 5 q1 q2 q3 ep) :: (c, listOf vs.toArray epc) :: [])) (T : Top viewK LO mean mg mb h₀) (hdp : dp + 120 < recursionLimit) (hu : un + 8 * 120 < cLine) (hg : 0 ≤ g) (hst : 0 ≤ st) (hst' : st < 2147483647) (hI : IntsAre vs ns) (hlen : ns.length ≤ 40) (hpc : c < pl) (hy1 : 1 ≤ y) (hy2 : y ≤ 9999) (hm1 : 1 ≤ mo) (hm2 : mo ≤ 12) (hd1 : 1 ≤ d) (hd2 : d ≤ mlen y mo)
    (hret : ∀ (la : Addr) (h' : Heap) (tk' : Nat), Fr h₀ L h' (fm [((Str.ofString "later"), .ref la), ((Str.ofString "number"), .int (dnum y mo d) t8), ((Str.ofString "day"), .int d t7), ((Str.ofString "day"), .int d0 t6), ((Str.ofString "length"), .int (mlen y mo) t5), ((Str.ofString "month"), .int mo t4), ((Str.ofString "year"), .int y t3), ((Str.ofString "year"), .int y0 t2), ((Str.ofString "sort"), .int so t1), ((Str.ofString "pool"), .ref pl), ((Str.ofString "script"), .ref l)]) → News h₀ L h' ((pl, poolO c g st 5 q1 q2 q3 ep) :: (c, listOf vs.toArray epc) :: []) → Q .next { s with heap := h', toks := tk' }) :
    Walks (model PySem.Challenge.rw_no0364_01.row.prog w) (ktrTop dp un gd (Str.ofString "law") lawScope L a ccd [] []) (execs (lawSeg 11 2) (envOf (Str.ofString "law") lawScope L a ccd)) Q E s := by
  refine ⟨?_⟩
  have kk : PySem.Challenge.rw_no0364_01.row.prog = PySem.Challenge.rw_no0364_01.row.prog ∧ heapK w.params = heapK w.params := ⟨rfl, rfl⟩
  revert kk
  k_fill
  intro _
  unfold lawSeg
  conv in (List.drop _ _) => whnf
  simp only [List.take_succ_cons, List.take_zero]
  try k_lift B
  try k_fold
  have hv := nx_valid (y := y) (m := mo) (d := d) ⟨hm1, hm2, hd1, hd2⟩
  have hn := (nx_num (y := y) (m := mo) (d := d) ⟨hm1, hm2, hd1, hd2⟩).symm
  have hb1 : -10000 ≤ nxY y mo d := by unfold nxY; (repeat' split) <;> omega
  have hb2 : nxY y mo d ≤ 20000 := by unfold nxY; (repeat' split) <;> omega
  k_steps
  all_goals first | ((refine' hret _ _ _  ?pF ?pN; (case pF => exact (fm_fr (by k_asm) (by repeat' (first | with_reducible refine fm_step ?_ | exact rfl | exact fm_dup rfl)))); (case pN => exact (cb_drop (by k_asm) (by kcj_all))))) | exact absurd (nx_eq1 (by assumption)) (Bool.eq_false_iff.mp (by assumption)) | exact absurd (nx_eq2 (y := y) (d := d) hm1 hm2 (by omega)) (Bool.eq_false_iff.mp (by assumption))
theorem words76 : True := by
  k_with_none
  trivial
end

end
end
end Mine
namespace Mine
section
open PySem PySem.W PyProof.Rows PySem.Spec PySem.Calls
noncomputable section
section
theorem words77 : True := by
  k_with_none
  (k_with "eval Call Name" => ((with_reducible show wpAny _ _ (eval (Expr.Call (Expr.Name _ _) _ _ _) _) _ _ _); refine Call_ ?_))
  (k_with "call ref" => (k_here; (with_reducible show wpAny _ _ (call (Value.ref 293) _) _ _ _); k_dflt (refine texts_use (by k_asm) (by k_asm) (by k_asm) (by k_asm) (by k_asm) (by assumption) (by assumption) (by first | exact rfl | assumption) (by ktr_room) (by ktr_units) (by assumption) (by assumption) (by assumption) (by omega) (by omega) (by assumption) (by assumption) (by assumption) (by assumption) ?_); intro g9 st9 t91 t92 t93 ep9 h9 tk9 pg9 ps9 pt9 F9 N9; (try dsimp only); (try k_fold)))
  trivial
theorem seg8 {w : World} {mean : ExcName → Option Value} {mg mb : Str → Option Value} (dp un : Nat) (gd : Option (List Code)) (a : Addr) (ccd : Value) (A₀ : Around) (base h₀ : Heap) (L : Addr) (s : Shared) (Q : Flow → Shared → Prop) (E : Value → Shared → Prop) (l : Addr) (pl c : Nat) (g st : Int) (q1 q2 q3 : Tok) (ep epc : Nat) (vs : List Value) (ns : List Int) (so y0 : Int) (t1 t2 : Tok) (y : Int) (t3 : Tok) (mo d0 : Int) (t4 t5 t6 : Tok) (d : Int) (t7 : Tok) (t8 : Tok) (la : Addr)
    (XB : (heapK w.params).In base) (TB : Top viewK LO mean mg mb base) (B : Below A₀ base [] h₀) (F : Fr h₀ L s.heap (fm [((Str.ofString "later"), .ref la), ((Str.ofString "number"), .int (dnum y mo d) t8), ((Str.ofString "day"), .int d t7), ((Str.ofString "day"), .int d0 t6), ((Str.ofString "length"), .int (mlen y mo) t5), ((Str.ofString "month"), .int mo t4), ((Str.ofString "year"), .int y t3), ((Str.ofString "year"), .int y0 t2), ((Str.ofString "sort"), .int so t1), ((Str.ofString "pool"), .ref pl), ((Str.ofString "script"), .ref l)])) (X : (heapK w.params).In h₀) (N : News h₀ L s.heap ((pl, poolO c g st 5 q1 q2 q3 ep) :: (c, listOf vs.toArray epc) :: [])) (T : Top viewK LO mean mg mb h₀) (hdp : dp + 120 < recursionLimit) (hu : un + 8 * 120 < cLine) (hg : 0 ≤ g) (hst : 0 ≤ st) (hst' : st < 2147483647) (hI : IntsAre vs ns) (hlen : ns.length ≤ 40) (hpc : c < pl) (hy1 : 1 ≤ y) (hy2 : y ≤ 9999) (hm1 : 1 ≤ mo) (hm2 : mo ≤ 12) (hd1 : 1 ≤ d) (hd2 : d ≤ mlen y mo)
    (hret : ∀ (g' st' : Int) (q1' q2' q3' : Tok) (ep' : Nat) (h' : Heap) (tk' : Nat), 0 ≤ g' → 0 ≤ st' → st' < 2147483647 → Fr h₀ L h' (fm [((Str.ofString "later"), .ref la), ((Str.ofString "number"), .int (dnum y mo d) t8), ((Str.ofString "day"), .int d t7), ((Str.ofString "day"), .int d0 t6), ((Str.ofString "length"), .int (mlen y mo) t5), ((Str.ofString "month"), .int mo t4), ((Str.ofString "year"), .int y t3), ((Str.ofString "year"), .int y0 t2), ((Str.ofString "sort"), .int so t1), ((Str.ofString "pool"), .ref pl), ((Str.ofString "script"), .ref l)]) → News h₀ L h' ((pl, poolO c g' st' 6 q1' q2' q3' ep') :: (c, listOf vs.toArray epc) :: []) → Q .next { s with heap := h', toks := tk' }) :
    Walks (model PySem.Challenge.rw_no0364_01.row.prog w) (ktrTop dp un gd (Str.ofString "law") lawScope L a ccd [] []) (execs (lawSeg 13 1) (envOf (Str.ofString "law") lawScope L a ccd)) Q E s := by
  refine ⟨?_⟩
  have kk : PySem.Challenge.rw_no0364_01.row.prog = PySem.Challenge.rw_no0364_01.row.prog ∧ heapK w.params = heapK w.params := ⟨rfl, rfl⟩
  revert kk
  k_fill
  intro _
  unfold lawSeg
  conv in (List.drop _ _) => whnf
  simp only [List.take_succ_cons, List.take_zero]
  try k_lift B
  try k_fold
  have hday : isDay y mo d = true := by unfold isDay; rw [decide_eq_true_eq]; exact ⟨hy1, hy2, hm1, hm2, hd1, hd2⟩
  k_steps
  all_goals (refine' hret _ _ _ _ _ _ _ _ ?p0 ?p1 ?p2 ?pF ?pN; (case pF => exact (fm_fr (by k_asm) (by repeat' (first | with_reducible refine fm_step ?_ | exact rfl | exact fm_dup rfl)))); (case pN => exact (cb_drop (by k_asm) (by kcj_all))); (case p0 => assumption); (case p1 => assumption); (case p2 => assumption))
theorem words78 : True := by
  k_with_none
  trivial
end

end
end
end Mine
namespace Mine
section
open PySem PySem.W PyProof.Rows PySem.Spec PySem.Calls
noncomputable section
section
theorem words79 : True := by
  k_with_none
  (k_with "eval Call Name" => ((with_reducible show wpAny _ _ (eval (Expr.Call (Expr.Name _ _) _ _ _) _) _ _ _); refine Call_ ?_))
  (k_with "call ref" => (k_here; (with_reducible show wpAny _ _ (call (Value.ref 256) _) _ _ _); k_dflt (refine draw_use (by k_asm) (by k_asm) (by k_asm) (by k_asm) (by k_asm) (by first | exact rfl | assumption) (by ktr_room) (by ktr_units) (by k_updF) (by k_mem) (by omega) (by omega) (by assumption) (by assumption) (by assumption) (by omega) (by omega) (by assumption) (by assumption) (by assumption) ?_); intro v9 g9 st9 t9 t91 t92 t93 ep9 h9 tk9 pv9 pw9 pg9 ps9 pt9 F9 N9; (try dsimp only at N9); (try dsimp only); (try k_fold)))
  trivial
theorem seg9 {w : World} {mean : ExcName → Option Value} {mg mb : Str → Option Value} (dp un : Nat) (gd : Option (List Code)) (a : Addr) (ccd : Value) (A₀ : Around) (base h₀ : Heap) (L : Addr) (s : Shared) (Q : Flow → Shared → Prop) (E : Value → Shared → Prop) (l : Addr) (pl c : Nat) (g st : Int) (q1 q2 q3 : Tok) (ep epc : Nat) (vs : List Value) (ns : List Int) (so y0 : Int) (t1 t2 : Tok) (y : Int) (t3 : Tok) (mo d0 : Int) (t4 t5 t6 : Tok) (d : Int) (t7 : Tok) (t8 : Tok) (la : Addr)
    (B : Below A₀ base [] h₀) (F : Fr h₀ L s.heap (fm [((Str.ofString "later"), .ref la), ((Str.ofString "number"), .int (dnum y mo d) t8), ((Str.ofString "day"), .int d t7), ((Str.ofString "day"), .int d0 t6), ((Str.ofString "length"), .int (mlen y mo) t5), ((Str.ofString "month"), .int mo t4), ((Str.ofString "year"), .int y t3), ((Str.ofString "year"), .int y0 t2), ((Str.ofString "sort"), .int so t1), ((Str.ofString "pool"), .ref pl), ((Str.ofString "script"), .ref l)])) (X : (heapK w.params).In h₀) (N : News h₀ L s.heap ((pl, poolO c g st 6 q1 q2 q3 ep) :: (c, listOf vs.toArray epc) :: [])) (T : Top viewK LO mean mg mb h₀) (hdp : dp + 120 < recursionLimit) (hu : un + 8 * 120 < cLine) (hg : 0 ≤ g) (hst : 0 ≤ st) (hst' : st < 2147483647) (hI : IntsAre vs ns) (hlen : ns.length ≤ 40) (hpc : c < pl) (hy1 : 1 ≤ y) (hy2 : y ≤ 9999) (hm1 : 1 ≤ mo) (hm2 : mo ≤ 12) (hd1 : 1 ≤ d) (hd2 : d ≤ mlen y mo)
    (hret : ∀ (g' st' : Int) (q1' q2' q3' : Tok) (ep' : Nat) (hh mi ss z0 : Int) (t9 t10 t11 t12 : Tok) (h' : Heap) (tk' : Nat), 0 ≤ g' → 0 ≤ st' → st' < 2147483647 → 0 ≤ hh → hh < 24 → 0 ≤ mi → mi < 60 → 0 ≤ ss → ss < 61 → -1440 ≤ z0 → z0 ≤ 1439 → Fr h₀ L h' (fm [((Str.ofString "zone"), .int z0 t12), ((Str.ofString "hour"), .int hh t9), ((Str.ofString "minute"), .int mi t10), ((Str.ofString "second"), .int ss t11), ((Str.ofString "later"), .ref la), ((Str.ofString "number"), .int (dnum y mo d) t8), ((Str.ofString "day"), .int d t7), ((Str.ofString "day"), .int d0 t6), ((Str.ofString "length"), .int (mlen y mo) t5), ((Str.ofString "month"), .int mo t4), ((Str.ofString "year"), .int y t3), ((Str.ofString "year"), .int y0 t2), ((Str.ofString "sort"), .int so t1), ((Str.ofString "pool"), .ref pl), ((Str.ofString "script"), .ref l)]) → News h₀ L h' ((pl, poolO c g' st' 10 q1' q2' q3' ep') :: (c, listOf vs.toArray epc) :: []) → Q .next { s with heap := h', toks := tk' }) :
    Walks (model PySem.Challenge.rw_no0364_01.row.prog w) (ktrTop dp un gd (Str.ofString "law") lawScope L a ccd [] []) (execs (lawSeg 14 2) (envOf (Str.ofString "law") lawScope L a ccd)) Q E s := by
  refine ⟨?_⟩
  have kk : PySem.Challenge.rw_no0364_01.row.prog = PySem.Challenge.rw_no0364_01.row.prog ∧ heapK w.params = heapK w.params := ⟨rfl, rfl⟩
  revert kk
  k_fill
  intro _
  unfold lawSeg
  conv in (List.drop _ _) => whnf
  simp only [List.take_succ_cons, List.take_zero]
  try k_lift B
  try k_fold
  k_steps
  all_goals (refine' hret _ _ _ _ _ _ _ _ _ _ _ _ _ _ _ _ ?p0 ?p1 ?p2 ?p3 ?p4 ?p5 ?p6 ?p7 ?p8 ?p9 ?p10 ?pF ?pN; (case pF => exact (fm_fr (by k_asm) (by repeat' (first | with_reducible refine fm_step ?_ | exact rfl | exact fm_dup rfl)))); (case pN => exact (cb_drop (by k_asm) (by kcj_all))); (case p0 => assumption); (case p1 => assumption); (case p2 => assumption); (case p3 => assumption); (case p4 => assumption); (case p5 => assumption); (case p6 => assumption); (case p7 => assumption); (case p8 => assumption); (case p9 => omega); (case p10 => omega))
theorem words80 : True := by
  k_with_none
  trivial
end

end
end
end Mine
namespace Mine
section
open PySem PySem.W PyProof.Rows PySem.Spec PySem.Calls
noncomputable section
section
theorem words81 : True := by
  k_with_none
  (k_with "eval Call Name" => ((with_reducible show wpAny _ _ (eval (Expr.Call (Expr.Name _ _) _ _ _) _) _ _ _); refine Call_ ?_))
  (k_with "call ref" => (k_here; (with_reducible show wpAny _ _ (call (Value.ref 256) _) _ _ _); k_dflt (refine draw_use (by k_asm) (by k_asm) (by k_asm) (by k_asm) (by k_asm) (by first | exact rfl | assumption) (by ktr_room) (by ktr_units) (by k_updF) (by k_mem) (by omega) (by omega) (by assumption) (by assumption) (by assumption) (by omega) (by omega) (by assumption) (by assumption) (by assumption) ?_); intro v9 g9 st9 t9 t91 t92 t93 ep9 h9 tk9 pv9 pw9 pg9 ps9 pt9 F9 N9; (try dsimp only at N9); (try dsimp only); (try k_fold)))
  trivial
theorem seg10 {w : World} {mean : ExcName → Option Value} {mg mb : Str → Option Value} (dp un : Nat) (gd : Option (List Code)) (a : Addr) (ccd : Value) (A₀ : Around) (base h₀ : Heap) (L : Addr) (s : Shared) (Q : Flow → Shared → Prop) (E : Value → Shared → Prop) (l : Addr) (pl c : Nat) (g st : Int) (q1 q2 q3 : Tok) (ep epc : Nat) (vs : List Value) (ns : List Int) (so y0 : Int) (t1 t2 : Tok) (y : Int) (t3 : Tok) (mo d0 : Int) (t4 t5 t6 : Tok) (d : Int) (t7 : Tok) (t8 : Tok) (la : Addr) (hh mi ss z0 : Int) (t9 t10 t11 t12 : Tok)
    (B : Below A₀ base [] h₀) (F : Fr h₀ L s.heap (fm [((Str.ofString "zone"), .int z0 t12), ((Str.ofString "hour"), .int hh t9), ((Str.ofString "minute"), .int mi t10), ((Str.ofString "second"), .int ss t11), ((Str.ofString "later"), .ref la), ((Str.ofString "number"), .int (dnum y mo d) t8), ((Str.ofString "day"), .int d t7), ((Str.ofString "day"), .int d0 t6), ((Str.ofString "length"), .int (mlen y mo) t5), ((Str.ofString "month"), .int mo t4), ((Str.ofString "year"), .int y t3), ((Str.ofString "year"), .int y0 t2), ((Str.ofString "sort"), .int so t1), ((Str.ofString "pool"), .ref pl), ((Str.ofString "script"), .ref l)])) (X : (heapK w.params).In h₀) (N : News h₀ L s.heap ((pl, poolO c g st 10 q1 q2 q3 ep) :: (c, listOf vs.toArray epc) :: [])) (T : Top viewK LO mean mg mb h₀) (hdp : dp + 120 < recursionLimit) (hu : un + 8 * 120 < cLine) (hg : 0 ≤ g) (hst : 0 ≤ st) (hst' : st < 2147483647) (hI : IntsAre vs ns) (hlen : ns.length ≤ 40) (hpc : c < pl) (hy1 : 1 ≤ y) (hy2 : y ≤ 9999) (hm1 : 1 ≤ mo) (hm2 : mo ≤ 12) (hd1 : 1 ≤ d) (hd2 : d ≤ mlen y mo) (hh1 : 0 ≤ hh) (hh2 : hh < 24) (mi1 : 0 ≤ mi) (mi2 : mi < 60) (ss1 : 0 ≤ ss) (ss2 : ss < 61) (hz1 : -1440 ≤ z0) (hz2 : z0 ≤ 1439)
    (hret : ∀ (g' st' : Int) (q1' q2' q3' : Tok) (ep' : Nat) (p' z : Int) (t13 : Tok) (h' : Heap) (tk' : Nat), 0 ≤ g' → 0 ≤ st' → st' < 2147483647 → 0 ≤ p' → p' ≤ 20 → -5999 ≤ z → z ≤ 5999 → Fr h₀ L h' (fm [((Str.ofString "zone"), .int z t13), ((Str.ofString "zone"), .int z0 t12), ((Str.ofString "hour"), .int hh t9), ((Str.ofString "minute"), .int mi t10), ((Str.ofString "second"), .int ss t11), ((Str.ofString "later"), .ref la), ((Str.ofString "number"), .int (dnum y mo d) t8), ((Str.ofString "day"), .int d t7), ((Str.ofString "day"), .int d0 t6), ((Str.ofString "length"), .int (mlen y mo) t5), ((Str.ofString "month"), .int mo t4), ((Str.ofString "year"), .int y t3), ((Str.ofString "year"), .int y0 t2), ((Str.ofString "sort"), .int so t1), ((Str.ofString "pool"), .ref pl), ((Str.ofString "script"), .ref l)]) → News h₀ L h' ((pl, poolO c g' st' p' q1' q2' q3' ep') :: (c, listOf vs.toArray epc) :: []) → Q .next { s with heap := h', toks := tk' }) :
    Walks (model PySem.Challenge.rw_no0364_01.row.prog w) (ktrTop dp un gd (Str.ofString "law") lawScope L a ccd [] []) (execs (lawSeg 16 1) (envOf (Str.ofString "law") lawScope L a ccd)) Q E s := by
  refine ⟨?_⟩
  have kk : PySem.Challenge.rw_no0364_01.row.prog = PySem.Challenge.rw_no0364_01.row.prog ∧ heapK w.params = heapK w.params := ⟨rfl, rfl⟩
  revert kk
  k_fill
  intro _
  unfold lawSeg
  conv in (List.drop _ _) => whnf
  simp only [List.take_succ_cons, List.take_zero]
  try k_lift B
  try k_fold
  k_steps
  · (refine' hret _ _ _ _ _ _ _ _ _ _ _ ?p0 ?p1 ?p2 ?p3 ?p4 ?p5 ?p6 ?pF ?pN; (case pF => exact (fm_fr (by k_asm) (by repeat' (first | with_reducible refine fm_step ?_ | exact rfl | exact fm_dup rfl)))); (case pN => exact (cb_drop (by k_asm) (by kcj_all))); (case p0 => assumption); (case p1 => assumption); (case p2 => assumption); (case p3 => omega); (case p4 => omega); (case p5 => exact (menu4 (by assumption) (by assumption)).1); (case p6 => exact (menu4 (by assumption) (by assumption)).2))
  · (refine' hret _ _ _ _ _ _ _ z0 t12 _ _ ?p0 ?p1 ?p2 ?p3 ?p4 ?p5 ?p6 ?pF ?pN; (case pF => exact (fm_fr (by k_asm) (by repeat' (first | with_reducible refine fm_step ?_ | exact rfl | exact fm_dup rfl)))); (case pN => exact (cb_drop (by k_asm) (by kcj_all))); (case p0 => assumption); (case p1 => assumption); (case p2 => assumption); (case p3 => omega); (case p4 => omega); (case p5 => omega); (case p6 => omega))
theorem words82 : True := by
  k_with_none
  trivial
end

end
end
end Mine
namespace Mine
section
open PySem PySem.W PyProof.Rows PySem.Spec PySem.Calls
noncomputable section
section
theorem words83 : True := by
  k_with_none
  (k_with "eval Call Name" => ((with_reducible show wpAny _ _ (eval (Expr.Call (Expr.Name _ _) _ _ _) _) _ _ _); refine Call_ ?_))
  (k_with "call ref" => (k_here; k_dflt (refine con_use (by k_asm) (by k_asm) (by k_asm) (by k_asm) (by k_asm) (by first | exact rfl | assumption) (con_moment _ _ _ _ _ _ _ _ _ _ _ _ _ _ _) (by ktr_room) (by ktr_units) ?_); intro (x9 : Nat) (dx9 : Nat) q0 q1 q2 q3 q4 q5 q6 q7 q8 q9 q10 q11 q12 q13 h9 tk9 F9 N9 lt9 lt10; have ne9 := ne_of_all lt9; have ne10 := Nat.ne_of_lt lt10; (try dsimp only); (try k_fold)))
  trivial
theorem seg11 {w : World} {mean : ExcName → Option Value} {mg mb : Str → Option Value} (dp un : Nat) (gd : Option (List Code)) (a : Addr) (ccd : Value) (A₀ : Around) (base h₀ : Heap) (L : Addr) (s : Shared) (Q : Flow → Shared → Prop) (E : Value → Shared → Prop) (l : Addr) (pl c : Nat) (g st : Int) (q1 q2 q3 : Tok) (ep epc : Nat) (vs : List Value) (ns : List Int) (so y0 : Int) (t1 t2 : Tok) (y : Int) (t3 : Tok) (mo d0 : Int) (t4 t5 t6 : Tok) (d : Int) (t7 : Tok) (t8 : Tok) (la : Addr) (hh mi ss z0 : Int) (t9 t10 t11 t12 : Tok) (z : Int) (t13 : Tok) (p : Int)
    (B : Below A₀ base [] h₀) (F : Fr h₀ L s.heap (fm [((Str.ofString "zone"), .int z t13), ((Str.ofString "zone"), .int z0 t12), ((Str.ofString "hour"), .int hh t9), ((Str.ofString "minute"), .int mi t10), ((Str.ofString "second"), .int ss t11), ((Str.ofString "later"), .ref la), ((Str.ofString "number"), .int (dnum y mo d) t8), ((Str.ofString "day"), .int d t7), ((Str.ofString "day"), .int d0 t6), ((Str.ofString "length"), .int (mlen y mo) t5), ((Str.ofString "month"), .int mo t4), ((Str.ofString "year"), .int y t3), ((Str.ofString "year"), .int y0 t2), ((Str.ofString "sort"), .int so t1), ((Str.ofString "pool"), .ref pl), ((Str.ofString "script"), .ref l)])) (X : (heapK w.params).In h₀) (N : News h₀ L s.heap ((pl, poolO c g st p q1 q2 q3 ep) :: (c, listOf vs.toArray epc) :: [])) (T : Top viewK LO mean mg mb h₀) (hdp : dp + 120 < recursionLimit) (hu : un + 8 * 120 < cLine) (hg : 0 ≤ g) (hst : 0 ≤ st) (hst' : st < 2147483647) (hI : IntsAre vs ns) (hlen : ns.length ≤ 40) (hpc : c < pl) (hy1 : 1 ≤ y) (hy2 : y ≤ 9999) (hm1 : 1 ≤ mo) (hm2 : mo ≤ 12) (hd1 : 1 ≤ d) (hd2 : d ≤ mlen y mo) (hh1 : 0 ≤ hh) (hh2 : hh < 24) (mi1 : 0 ≤ mi) (mi2 : mi < 60) (ss1 : 0 ≤ ss) (ss2 : ss < 61) (hz1 : -5999 ≤ z) (hz2 : z ≤ 5999) (hp1 : 0 ≤ p) (hp2 : p ≤ 20)
    (hret : ∀ (sec : Int) (t14 : Tok) (x dx : Nat) (ty tmo td thh tmi tss tz ky kmo kd khh kmi kss kz : Tok) (h' : Heap) (tk' : Nat), sec = inst y mo d hh mi ss z → pl < dx → dx < x → Fr h₀ L h' (fm [((Str.ofString "moment"), .ref x), ((Str.ofString "seconds"), .int sec t14), ((Str.ofString "zone"), .int z t13), ((Str.ofString "zone"), .int z0 t12), ((Str.ofString "hour"), .int hh t9), ((Str.ofString "minute"), .int mi t10), ((Str.ofString "second"), .int ss t11), ((Str.ofString "later"), .ref la), ((Str.ofString "number"), .int (dnum y mo d) t8), ((Str.ofString "day"), .int d t7), ((Str.ofString "day"), .int d0 t6), ((Str.ofString "length"), .int (mlen y mo) t5), ((Str.ofString "month"), .int mo t4), ((Str.ofString "year"), .int y t3), ((Str.ofString "year"), .int y0 t2), ((Str.ofString "sort"), .int so t1), ((Str.ofString "pool"), .ref pl), ((Str.ofString "script"), .ref l)]) → News h₀ L h' ((x, instObj 92 dx) :: (dx, dictOf (momE w y mo d hh mi ss z ty tmo td thh tmi tss tz ky kmo kd khh kmi kss kz) 7) :: (pl, poolO c g st p q1 q2 q3 ep) :: (c, listOf vs.toArray epc) :: []) → Q .next { s with heap := h', toks := tk' }) :
    Walks (model PySem.Challenge.rw_no0364_01.row.prog w) (ktrTop dp un gd (Str.ofString "law") lawScope L a ccd [] []) (execs (lawSeg 17 2) (envOf (Str.ofString "law") lawScope L a ccd)) Q E s := by
  refine ⟨?_⟩
  have kk : PySem.Challenge.rw_no0364_01.row.prog = PySem.Challenge.rw_no0364_01.row.prog ∧ heapK w.params = heapK w.params := ⟨rfl, rfl⟩
  revert kk
  k_fill
  intro _
  unfold lawSeg
  conv in (List.drop _ _) => whnf
  simp only [List.take_succ_cons, List.take_zero]
  try k_lift B
  try k_fold
  k_steps
  all_goals (refine' hret _ _ _ _ _ _ _ _ _ _ _ _ _ _ _ _ _ _ _ _ ?p0 ?p1 ?p2 ?pF ?pN; (case pF => exact (fm_fr (by k_asm) (by repeat' (first | with_reducible refine fm_step ?_ | exact rfl | exact fm_dup rfl)))); (case pN => exact (cb_drop (by k_asm) (by kcj_all))); (case p0 => unfold inst; omega); (case p1 => exact lt_head (by assumption)); (case p2 => assumption))
theorem words84 : True := by
  k_with_none
  trivial
end

end
end
end Mine
namespace Mine
section
open PySem PySem.W PyProof.Rows PySem.Spec PySem.Calls
noncomputable section
section
theorem words85 : True := by
  k_with_none
  (k_with "eval Call Name" => ((with_reducible show wpAny _ _ (eval (Expr.Call (Expr.Name _ _) _ _ _) _) _ _ _); refine Call_ ?_))
  (k_with "call ref" => (k_here; (with_reducible show wpAny _ _ (call (Value.ref 89) _) _ _ _); k_dflt (refine told_use (by k_asm) (by k_asm) (by k_asm) (by k_asm) (by k_asm) (by first | exact rfl | assumption) (by ktr_room) (by ktr_units) (by k_mem) (by k_mem) (by omega) ?_); intro (r9 : Nat) t91 t92 t93 t94 t95 t96 t97 h9 tk9 F9 N9 lt9; (try k_lt lt9); (try dsimp only); (try k_fold)))
  (k_with "call ref" => (k_here; (with_reducible show wpAny _ _ (call (Value.ref 166) _) _ _ _); k_dflt (refine inst_use (by k_asm) (by k_asm) (by k_asm) (by k_asm) (by k_asm) (by first | exact rfl | assumption) (by ktr_room) (by ktr_units) (by k_mem) (by k_mem) (by omega) (by omega) (by omega) (by omega) (by omega) ?_); intro t9 h9 tk9 F9 N9; (try dsimp only); (try k_fold)))
  trivial
theorem seg12 {w : World} {mean : ExcName → Option Value} {mg mb : Str → Option Value} (dp un : Nat) (gd : Option (List Code)) (a : Addr) (ccd : Value) (A₀ : Around) (base h₀ : Heap) (L : Addr) (s : Shared) (Q : Flow → Shared → Prop) (E : Value → Shared → Prop) (l : Addr) (pl c : Nat) (g st : Int) (q1 q2 q3 : Tok) (ep epc : Nat) (vs : List Value) (ns : List Int) (so y0 : Int) (t1 t2 : Tok) (y : Int) (t3 : Tok) (mo d0 : Int) (t4 t5 t6 : Tok) (d : Int) (t7 : Tok) (t8 : Tok) (la : Addr) (hh mi ss z0 : Int) (t9 t10 t11 t12 : Tok) (z : Int) (t13 : Tok) (p : Int) (sec : Int) (t14 : Tok) (x dx : Nat) (ty tmo td thh tmi tss tz ky kmo kd khh kmi kss kz : Tok)
    (B : Below A₀ base [] h₀) (F : Fr h₀ L s.heap (fm [((Str.ofString "moment"), .ref x), ((Str.ofString "seconds"), .int sec t14), ((Str.ofString "zone"), .int z t13), ((Str.ofString "zone"), .int z0 t12), ((Str.ofString "hour"), .int hh t9), ((Str.ofString "minute"), .int mi t10), ((Str.ofString "second"), .int ss t11), ((Str.ofString "later"), .ref la), ((Str.ofString "number"), .int (dnum y mo d) t8), ((Str.ofString "day"), .int d t7), ((Str.ofString "day"), .int d0 t6), ((Str.ofString "length"), .int (mlen y mo) t5), ((Str.ofString "month"), .int mo t4), ((Str.ofString "year"), .int y t3), ((Str.ofString "year"), .int y0 t2), ((Str.ofString "sort"), .int so t1), ((Str.ofString "pool"), .ref pl), ((Str.ofString "script"), .ref l)])) (X : (heapK w.params).In h₀) (N : News h₀ L s.heap ((x, instObj 92 dx) :: (dx, dictOf (momE w y mo d hh mi ss z ty tmo td thh tmi tss tz ky kmo kd khh kmi kss kz) 7) :: (pl, poolO c g st p q1 q2 q3 ep) :: (c, listOf vs.toArray epc) :: [])) (T : Top viewK LO mean mg mb h₀) (hdp : dp + 120 < recursionLimit) (hu : un + 8 * 120 < cLine) (hg : 0 ≤ g) (hst : 0 ≤ st) (hst' : st < 2147483647) (hI : IntsAre vs ns) (hlen : ns.length ≤ 40) (hpc : c < pl) (hy1 : 1 ≤ y) (hy2 : y ≤ 9999) (hm1 : 1 ≤ mo) (hm2 : mo ≤ 12) (hd1 : 1 ≤ d) (hd2 : d ≤ mlen y mo) (hh1 : 0 ≤ hh) (hh2 : hh < 24) (mi1 : 0 ≤ mi) (mi2 : mi < 60) (ss1 : 0 ≤ ss) (ss2 : ss < 61) (hz1 : -5999 ≤ z) (hz2 : z ≤ 5999) (hp1 : 0 ≤ p) (hp2 : p ≤ 20) (hsec : sec = inst y mo d hh mi ss z) (hx1 : pl < dx) (hx2 : dx < x)
    (hret : ∀ (h' : Heap) (tk' : Nat), Fr h₀ L h' (fm [((Str.ofString "moment"), .ref x), ((Str.ofString "seconds"), .int sec t14), ((Str.ofString "zone"), .int z t13), ((Str.ofString "zone"), .int z0 t12), ((Str.ofString "hour"), .int hh t9), ((Str.ofString "minute"), .int mi t10), ((Str.ofString "second"), .int ss t11), ((Str.ofString "later"), .ref la), ((Str.ofString "number"), .int (dnum y mo d) t8), ((Str.ofString "day"), .int d t7), ((Str.ofString "day"), .int d0 t6), ((Str.ofString "length"), .int (mlen y mo) t5), ((Str.ofString "month"), .int mo t4), ((Str.ofString "year"), .int y t3), ((Str.ofString "year"), .int y0 t2), ((Str.ofString "sort"), .int so t1), ((Str.ofString "pool"), .ref pl), ((Str.ofString "script"), .ref l)]) → News h₀ L h' ((x, instObj 92 dx) :: (dx, dictOf (momE w y mo d hh mi ss z ty tmo td thh tmi tss tz ky kmo kd khh kmi kss kz) 7) :: (pl, poolO c g st p q1 q2 q3 ep) :: (c, listOf vs.toArray epc) :: []) → Q .next { s with heap := h', toks := tk' }) :
    Walks (model PySem.Challenge.rw_no0364_01.row.prog w) (ktrTop dp un gd (Str.ofString "law") lawScope L a ccd [] []) (execs (lawSeg 19 1) (envOf (Str.ofString "law") lawScope L a ccd)) Q E s := by
  refine ⟨?_⟩
  have kk : PySem.Challenge.rw_no0364_01.row.prog = PySem.Challenge.rw_no0364_01.row.prog ∧ heapK w.params = heapK w.params := ⟨rfl, rfl⟩
  revert kk
  k_fill
  intro _
  unfold lawSeg
  conv in (List.drop _ _) => whnf
  simp only [List.take_succ_cons, List.take_zero]
  try k_lift B
  try k_fold
  k_steps
  · exact absurd hsec.symm (by assumption)
  · (refine' hret _ _  ?pF ?pN; (case pF => exact (fm_fr (by k_asm) (by repeat' (first | with_reducible refine fm_step ?_ | exact rfl | exact fm_dup rfl)))); (case pN => exact (cb_drop (by k_asm) (by kcj_all))))
theorem words86 : True := by
  k_with_none
  trivial
end

end
end
end Mine
namespace Mine
section
open PySem PySem.W PyProof.Rows PySem.Spec PySem.Calls
noncomputable section
section
theorem words87 : True := by
  k_with_none
  (k_with "eval Call Name" => ((with_reducible show wpAny _ _ (eval (Expr.Call (Expr.Name _ _) _ _ _) _) _ _ _); refine Call_ ?_))
  (k_with "call ref" => (k_here; (with_reducible show wpAny _ _ (call (Value.ref 89) _) _ _ _); k_dflt (refine told_use (by k_asm) (by k_asm) (by k_asm) (by k_asm) (by k_asm) (by first | exact rfl | assumption) (by ktr_room) (by ktr_units) (by k_mem) (by k_mem) (by omega) ?_); intro (r9 : Nat) t91 t92 t93 t94 t95 t96 t97 h9 tk9 F9 N9 lt9; (try k_lt lt9); (try dsimp only); (try k_fold)))
  (k_with "call ref" => (k_here; (with_reducible show wpAny _ _ (call (Value.ref 166) _) _ _ _); k_dflt (refine inst_use (by k_asm) (by k_asm) (by k_asm) (by k_asm) (by k_asm) (by first | exact rfl | assumption) (by ktr_room) (by ktr_units) (by k_mem) (by k_mem) (by omega) (by omega) (by omega) (by omega) (by omega) ?_); intro t9 h9 tk9 F9 N9; (try dsimp only); (try k_fold)))
  (k_with "call ref" => (k_here; (with_reducible show wpAny _ _ (call (Value.ref 174) [_, _]) _ _ _); k_dflt (refine con_use (by k_asm) (by k_asm) (by k_asm) (by k_asm) (by k_asm) (by first | exact rfl | assumption) (con_moment_ofR _ _ _ _ _ _ _ _ (by assumption) (by assumption) (by assumption) (by assumption) (by assumption) (by omega) (by omega)) (by ktr_room) (by ktr_units) ?_); intro (x9 : Nat) (dx9 : Nat) q0 q1 q2 q3 q4 q5 q6 q7 q8 q9 q10 q11 q12 q13 h9 tk9 F9 N9 lt9 lt10; (try k_lt lt9); (try dsimp only); (try k_fold)))
  (k_with "call ref" => (k_here; (with_reducible show wpAny _ _ (call (Value.ref 174) [_]) _ _ _); k_dflt (refine con_use (by k_asm) (by k_asm) (by k_asm) (by k_asm) (by k_asm) (by first | exact rfl | assumption) (con_moment_of0R _ _ _ _ _ _ (by assumption) (by assumption) (by assumption) (by omega) (by omega)) (by ktr_room) (by ktr_units) ?_); intro (x9 : Nat) (dx9 : Nat) q0 q1 q2 q3 q4 q5 q6 q7 q8 q9 q10 q11 q12 q13 h9 tk9 F9 N9 lt9 lt10; (try k_lt lt9); (try dsimp only); (try k_fold)))
  (k_with "call ref" => (k_here; (with_reducible show wpAny _ _ (call (Value.ref 182) [_, _]) _ _ _); k_dflt (refine con_use (by k_asm) (by k_asm) (by k_asm) (by k_asm) (by k_asm) (by first | exact rfl | assumption) (con_day_ofR _ _ _ _ _ _ _ _ (by assumption) (by assumption) (by omega) (by omega)) (by ktr_room) (by ktr_units) ?_); intro x9 t91 t92 t93 h9 tk9 F9 N9 lt9; (try k_lt lt9); (try dsimp only); (try k_fold)))
  (k_with "call ref" => (k_here; (with_reducible show wpAny _ _ (call (Value.ref 182) [_]) _ _ _); k_dflt (refine con_use (by k_asm) (by k_asm) (by k_asm) (by k_asm) (by k_asm) (by first | exact rfl | assumption) (con_day_of0R _ _ _ _ _ _ (by assumption) (by assumption) (by omega) (by omega)) (by ktr_room) (by ktr_units) ?_); intro x9 t91 t92 t93 h9 tk9 F9 N9 lt9; (try k_lt lt9); (try dsimp only); (try k_fold)))
  (k_with "subscriptTail Name Slice ref ref" => (k_here; k_dflt (refine cut3 (by k_asm) (by k_asm) (by k_mem) ?_ (by with_unfolding_all rfl) (by kmk_pure)); intro D' h' F' N' l1; (try k_lt l1); (try k_sweep)))
  (k_with "execs cons" => (k_here; (with_reducible show wpAny _ _ (execs (Stmt.If _ _ [] _ :: _) _) _ _ _); refine join_at2 (by k_asm) (by k_asm) ?_ ?_; intro h' tk' F' N'; (try k_sweep)))
  trivial
theorem seg13 {w : World} {mean : ExcName → Option Value} {mg mb : Str → Option Value} (dp un : Nat) (gd : Option (List Code)) (a : Addr) (ccd : Value) (A₀ : Around) (base h₀ : Heap) (L : Addr) (s : Shared) (Q : Flow → Shared → Prop) (E : Value → Shared → Prop) (l : Addr) (pl c : Nat) (g st : Int) (q1 q2 q3 : Tok) (ep epc : Nat) (vs : List Value) (ns : List Int) (so y0 : Int) (t1 t2 : Tok) (y : Int) (t3 : Tok) (mo d0 : Int) (t4 t5 t6 : Tok) (d : Int) (t7 : Tok) (t8 : Tok) (la : Addr) (hh mi ss z0 : Int) (t9 t10 t11 t12 : Tok) (z : Int) (t13 : Tok) (p : Int) (sec : Int) (t14 : Tok) (x dx : Nat) (ty tmo td thh tmi tss tz ky kmo kd khh kmi kss kz : Tok)
    (B : Below A₀ base [] h₀) (F : Fr h₀ L s.heap (fm [((Str.ofString "moment"), .ref x), ((Str.ofString "seconds"), .int sec t14), ((Str.ofString "zone"), .int z t13), ((Str.ofString "zone"), .int z0 t12), ((Str.ofString "hour"), .int hh t9), ((Str.ofString "minute"), .int mi t10), ((Str.ofString "second"), .int ss t11), ((Str.ofString "later"), .ref la), ((Str.ofString "number"), .int (dnum y mo d) t8), ((Str.ofString "day"), .int d t7), ((Str.ofString "day"), .int d0 t6), ((Str.ofString "length"), .int (mlen y mo) t5), ((Str.ofString "month"), .int mo t4), ((Str.ofString "year"), .int y t3), ((Str.ofString "year"), .int y0 t2), ((Str.ofString "sort"), .int so t1), ((Str.ofString "pool"), .ref pl), ((Str.ofString "script"), .ref l)])) (X : (heapK w.params).In h₀) (N : News h₀ L s.heap ((x, instObj 92 dx) :: (dx, dictOf (momE w y mo d hh mi ss z ty tmo td thh tmi tss tz ky kmo kd khh kmi kss kz) 7) :: (pl, poolO c g st p q1 q2 q3 ep) :: (c, listOf vs.toArray epc) :: [])) (T : Top viewK LO mean mg mb h₀) (hdp : dp + 120 < recursionLimit) (hu : un + 8 * 120 < cLine) (hg : 0 ≤ g) (hst : 0 ≤ st) (hst' : st < 2147483647) (hI : IntsAre vs ns) (hlen : ns.length ≤ 40) (hpc : c < pl) (hy1 : 1 ≤ y) (hy2 : y ≤ 9999) (hm1 : 1 ≤ mo) (hm2 : mo ≤ 12) (hd1 : 1 ≤ d) (hd2 : d ≤ mlen y mo) (hh1 : 0 ≤ hh) (hh2 : hh < 24) (mi1 : 0 ≤ mi) (mi2 : mi < 60) (ss1 : 0 ≤ ss) (ss2 : ss < 61) (hz1 : -5999 ≤ z) (hz2 : z ≤ 5999) (hp1 : 0 ≤ p) (hp2 : p ≤ 20) (hsec : sec = inst y mo d hh mi ss z) (hx1 : pl < dx) (hx2 : dx < x)
    (hret : ∀ (m : Str → Option Value) (h' : Heap) (tk' : Nat), Fr h₀ L h' m → News h₀ L h' ((pl, poolO c g st p q1 q2 q3 ep) :: (c, listOf vs.toArray epc) :: []) → m (Str.ofString "pool") = some (.ref pl) → m (Str.ofString "year") = some (.int y t3) → m (Str.ofString "month") = some (.int mo t4) → m (Str.ofString "day") = some (.int d t7) → m (Str.ofString "hour") = some (.int hh t9) → m (Str.ofString "minute") = some (.int mi t10) → m (Str.ofString "second") = some (.int ss t11) → m (Str.ofString "zone") = some (.int z t13) → m (Str.ofString "length") = some (.int (mlen y mo) t5) → Q .next { s with heap := h', toks := tk' }) :
    Walks (model PySem.Challenge.rw_no0364_01.row.prog w) (ktrTop dp un gd (Str.ofString "law") lawScope L a ccd [] []) (execs (lawSeg 20 1) (envOf (Str.ofString "law") lawScope L a ccd)) Q E s := by
  refine ⟨?_⟩
  have kk : PySem.Challenge.rw_no0364_01.row.prog = PySem.Challenge.rw_no0364_01.row.prog ∧ heapK w.params = heapK w.params := ⟨rfl, rfl⟩
  revert kk
  k_fill
  intro _
  unfold lawSeg
  conv in (List.drop _ _) => whnf
  simp only [List.take_succ_cons, List.take_zero]
  try k_lift B
  try k_fold
  have hday : isDay y mo d = true := by unfold isDay; rw [decide_eq_true_eq]; exact ⟨hy1, hy2, hm1, hm2, hd1, hd2⟩
  by_cases hyy : 1 < y ∧ y < 9999
  · obtain ⟨y2, m2, d2, v2, n2, b2, e2, k2⟩ := back_day hsec ⟨hm1, hm2, hd1, hd2⟩ hyy.1 hyy.2 hh1 hh2 mi1 mi2 ss1 ss2
    obtain ⟨y3, m3, d3, v3, n3, b3, e3, k3⟩ := plain_day hsec ⟨hm1, hm2, hd1, hd2⟩ hyy.1 hyy.2 hh1 hh2 mi1 mi2 ss1 ss2 hz1 hz2
    have c2 := isDay_year b2
    have c3 := isDay_year b3
    have c4 := v2.1
    have c5 := v2.2.1
    have c6 := v3.1
    have c7 := v3.2.1
    refine wpAny_execs_cons ?_
    k_steps
    all_goals first
      | (exact hret _ _ _ (by k_asm) (cb_drop (by k_asm) (by kcj_all)) (by exact rfl) (by exact rfl) (by exact rfl) (by exact rfl) (by exact rfl) (by exact rfl) (by exact rfl) (by exact rfl) (by exact rfl))
      | exact absurd e2 (by assumption)
      | exact absurd e3 (by assumption)
      | exact absurd (by assumption) (rSs_ne _)
      | exact absurd (k2 (by assumption)) (Bool.eq_false_iff.mp (by assumption))
      | exact (by k_asm)
      | exact (cb_drop (by k_asm) (by kcj_all))
  · refine wpAny_execs_cons ?_
    k_steps
    all_goals (exact hret _ _ _ (by k_asm) (cb_drop (by k_asm) (by kcj_all)) (by exact rfl) (by exact rfl) (by exact rfl) (by exact rfl) (by exact rfl) (by exact rfl) (by exact rfl) (by exact rfl) (by exact rfl))
theorem words88 : True := by
  k_with_none
  trivial
end

end
end
end Mine
namespace Mine
section
open PySem PySem.W PyProof.Rows PySem.Spec PySem.Calls
noncomputable section
section
theorem words89 : True := by
  k_with_none
  (k_with "eval Call Name" => ((with_reducible show wpAny _ _ (eval (Expr.Call (Expr.Name _ _) _ _ _) _) _ _ _); refine Call_ ?_))
  (k_with "call ref" => (k_here; (with_reducible show wpAny _ _ (call (Value.ref 89) _) _ _ _); k_dflt (refine told_use (by k_asm) (by k_asm) (by k_asm) (by k_asm) (by k_asm) (by first | exact rfl | assumption) (by ktr_room) (by ktr_units) (by k_mem) (by k_mem) (by omega) ?_); intro (r9 : Nat) t91 t92 t93 t94 t95 t96 t97 h9 tk9 F9 N9 lt9; (try k_lt lt9); (try dsimp only); (try k_fold)))
  (k_with "call ref" => (k_here; (with_reducible show wpAny _ _ (call (Value.ref 174) [_]) _ _ _); k_dflt (refine con_use (by k_asm) (by k_asm) (by k_asm) (by k_asm) (by k_asm) (by first | exact rfl | assumption) (con_moment_of0R _ _ _ _ _ _ (by assumption) (by assumption) (by assumption) (by omega) (by omega)) (by ktr_room) (by ktr_units) ?_); intro (x9 : Nat) (dx9 : Nat) q0 q1 q2 q3 q4 q5 q6 q7 q8 q9 q10 q11 q12 q13 h9 tk9 F9 N9 lt9 lt10; (try k_lt lt9); (try dsimp only); (try k_fold)))
  (k_with "subscriptTail Name Slice ref ref" => (k_here; k_dflt (refine cut3 (by k_asm) (by k_asm) (by k_mem) ?_ (by with_unfolding_all rfl) (by kmk_pure)); intro D' h' F' N' l1; (try k_lt l1); (try k_sweep)))
  (k_with "execs cons" => (k_here; (with_reducible show wpAny _ _ (execs (Stmt.If _ _ [] _ :: _) _) _ _ _); refine join_at2 (by k_asm) (by k_asm) ?_ ?_; intro h' tk' F' N'; (try k_sweep)))
  (k_with "call ref" => (k_here; (with_reducible show wpAny _ _ (call (Value.ref 265) _) _ _ _); k_dflt (refine con_use (by k_asm) (by k_asm) (by k_asm) (by k_asm) (by k_asm) (by first | exact rfl | assumption) (con_law_days _ _ _ _ _ _ _ (by omega) (by omega) (by omega) (by omega)) (by ktr_room) (by ktr_units) ?_); intro t9 h9 tk9 F9 N9; (try dsimp only); (try k_fold)))
  (k_with "call ref" => (k_here; (with_reducible show wpAny _ _ (call (Value.ref 286) _) _ _ _); k_dflt (refine cont_use0 (by k_asm) (by k_asm) (by k_asm) (by k_asm) (by k_asm) (by assumption) (by assumption) (by first | exact rfl | assumption) (cont_refused174 _ _ (conr_moment_of0R _ _ _ _ _ _ (by assumption) (by assumption) (by assumption) (by omega) (by omega))) (by ktr_room) (by ktr_units) ?_); intro h9 tk9 F9 N9; (try dsimp only); (try k_fold)))
  trivial
theorem seg14 {w : World} {mean : ExcName → Option Value} {mg mb : Str → Option Value} (dp un : Nat) (gd : Option (List Code)) (a : Addr) (ccd : Value) (A₀ : Around) (base h₀ : Heap) (L : Addr) (s : Shared) (Q : Flow → Shared → Prop) (E : Value → Shared → Prop) (m : Str → Option Value) (pl c : Nat) (g st : Int) (q1 q2 q3 : Tok) (ep epc : Nat) (vs : List Value) (ns : List Int) (y mo d hh mi ss z p : Int) (t3 t4 t5 t7 t9 t10 t11 t13 : Tok)
    (XB : (heapK w.params).In base) (TB : Top viewK LO mean mg mb base) (B : Below A₀ base [] h₀) (F : Fr h₀ L s.heap (m)) (X : (heapK w.params).In h₀) (N : News h₀ L s.heap ((pl, poolO c g st p q1 q2 q3 ep) :: (c, listOf vs.toArray epc) :: [])) (T : Top viewK LO mean mg mb h₀) (hdp : dp + 120 < recursionLimit) (hu : un + 8 * 120 < cLine) (hg : 0 ≤ g) (hst : 0 ≤ st) (hst' : st < 2147483647) (hI : IntsAre vs ns) (hlen : ns.length ≤ 40) (hpc : c < pl) (hy1 : 1 ≤ y) (hy2 : y ≤ 9999) (hm1 : 1 ≤ mo) (hm2 : mo ≤ 12) (hd1 : 1 ≤ d) (hd2 : d ≤ mlen y mo) (hh1 : 0 ≤ hh) (hh2 : hh < 24) (mi1 : 0 ≤ mi) (mi2 : mi < 60) (ss1 : 0 ≤ ss) (ss2 : ss < 61) (hz1 : -5999 ≤ z) (hz2 : z ≤ 5999) (hp1 : 0 ≤ p) (hp2 : p ≤ 20) (l0 : m (Str.ofString "pool") = some (.ref pl)) (l1 : m (Str.ofString "year") = some (.int y t3)) (l2 : m (Str.ofString "month") = some (.int mo t4)) (l3 : m (Str.ofString "day") = some (.int d t7)) (l4 : m (Str.ofString "hour") = some (.int hh t9)) (l5 : m (Str.ofString "minute") = some (.int mi t10)) (l6 : m (Str.ofString "second") = some (.int ss t11)) (l7 : m (Str.ofString "zone") = some (.int z t13)) (l8 : m (Str.ofString "length") = some (.int (mlen y mo) t5))
    (hret : ∀ (m' : Str → Option Value) (h' : Heap) (tk' : Nat), Fr h₀ L h' m' → News h₀ L h' ((pl, poolO c g st p q1 q2 q3 ep) :: (c, listOf vs.toArray epc) :: []) → m' (Str.ofString "pool") = some (.ref pl) → m' (Str.ofString "year") = some (.int y t3) → m' (Str.ofString "month") = some (.int mo t4) → m' (Str.ofString "day") = some (.int d t7) → m' (Str.ofString "hour") = some (.int hh t9) → m' (Str.ofString "minute") = some (.int mi t10) → m' (Str.ofString "second") = some (.int ss t11) → m' (Str.ofString "zone") = some (.int z t13) → m' (Str.ofString "length") = some (.int (mlen y mo) t5) → Q .next { s with heap := h', toks := tk' }) :
    Walks (model PySem.Challenge.rw_no0364_01.row.prog w) (ktrTop dp un gd (Str.ofString "law") lawScope L a ccd [] []) (execs (lawSeg 21 4) (envOf (Str.ofString "law") lawScope L a ccd)) Q E s := by
  refine ⟨?_⟩
  have kk : PySem.Challenge.rw_no0364_01.row.prog = PySem.Challenge.rw_no0364_01.row.prog ∧ heapK w.params = heapK w.params := ⟨rfl, rfl⟩
  revert kk
  k_fill
  intro _
  unfold lawSeg
  conv in (List.drop _ _) => whnf
  simp only [List.take_succ_cons, List.take_zero]
  try k_lift B
  try k_fold
  have v1 := edge1
  have v2 := edge2
  have v3 := edge3
  have v4 := edge4
  have d1 : isDay 9999 12 31 = true := by decide
  have d2 : isDay 1 1 1 = true := by decide
  have d3 : isDay 10000 1 1 = false := by decide
  have d4 : isDay 0 12 31 = false := by decide
  have n1 := edgeN1
  have n2 := edgeN2
  have n3 := edgeN3
  have n4 := edgeN4
  k_steps
  all_goals first
    | exact hret _ _ _ (by k_asm) (cb_drop (by k_asm) (by kcj_all)) (by exact (if_neg (by decide)).trans ((if_neg (by decide)).trans l0)) (by exact (if_neg (by decide)).trans ((if_neg (by decide)).trans l1)) (by exact (if_neg (by decide)).trans ((if_neg (by decide)).trans l2)) (by exact (if_neg (by decide)).trans ((if_neg (by decide)).trans l3)) (by exact (if_neg (by decide)).trans ((if_neg (by decide)).trans l4)) (by exact (if_neg (by decide)).trans ((if_neg (by decide)).trans l5)) (by exact (if_neg (by decide)).trans ((if_neg (by decide)).trans l6)) (by exact (if_neg (by decide)).trans ((if_neg (by decide)).trans l7)) (by exact (if_neg (by decide)).trans ((if_neg (by decide)).trans l8))
    | (k_asm; done)
    | exact (cb_drop (by k_asm) (by kcj_all))
theorem words90 : True := by
  k_with_none
  trivial
end

end
end
end Mine
namespace Mine
section
open PySem PySem.W PyProof.Rows PySem.Spec PySem.Calls
noncomputable section
section
theorem words91 : True := by
  k_with_none
  (k_with "eval Call Name" => ((with_reducible show wpAny _ _ (eval (Expr.Call (Expr.Name _ _) _ _ _) _) _ _ _); refine Call_ ?_))
  (k_with "call ref" => (k_here; (with_reducible show wpAny _ _ (call (Value.ref 256) _) _ _ _); k_dflt (refine draw_use (by k_asm) (by k_asm) (by k_asm) (by k_asm) (by k_asm) (by first | exact rfl | assumption) (by ktr_room) (by ktr_units) (by k_updF) (by k_mem) (by omega) (by omega) (by assumption) (by assumption) (by assumption) (by omega) (by omega) (by assumption) (by assumption) (by assumption) ?_); intro v9 g9 st9 t9 t91 t92 t93 ep9 h9 tk9 pv9 pw9 pg9 ps9 pt9 F9 N9; (try dsimp only at N9); (try dsimp only); (try k_fold)))
  (k_with "eval Name" => (k_here; k_dflt (refine PyProof.Rows.ld (by k_asm) (by first | assumption | exact nlook (by assumption) (by decide) | exact nlook (nlook (by assumption) (by decide)) (by decide)) ?_; k_whole)))
  trivial
theorem seg15 {w : World} {mean : ExcName → Option Value} {mg mb : Str → Option Value} (dp un : Nat) (gd : Option (List Code)) (a : Addr) (ccd : Value) (A₀ : Around) (base h₀ : Heap) (L : Addr) (s : Shared) (Q : Flow → Shared → Prop) (E : Value → Shared → Prop) (m : Str → Option Value) (pl c : Nat) (g st : Int) (q1 q2 q3 : Tok) (ep epc : Nat) (vs : List Value) (ns : List Int) (y mo d hh mi ss z p : Int) (t3 t4 t5 t7 t9 t10 t11 t13 : Tok)
    (XB : (heapK w.params).In base) (TB : Top viewK LO mean mg mb base) (B : Below A₀ base [] h₀) (F : Fr h₀ L s.heap (m)) (X : (heapK w.params).In h₀) (N : News h₀ L s.heap ((pl, poolO c g st p q1 q2 q3 ep) :: (c, listOf vs.toArray epc) :: [])) (T : Top viewK LO mean mg mb h₀) (hdp : dp + 120 < recursionLimit) (hu : un + 8 * 120 < cLine) (hg : 0 ≤ g) (hst : 0 ≤ st) (hst' : st < 2147483647) (hI : IntsAre vs ns) (hlen : ns.length ≤ 40) (hpc : c < pl) (hy1 : 1 ≤ y) (hy2 : y ≤ 9999) (hm1 : 1 ≤ mo) (hm2 : mo ≤ 12) (hd1 : 1 ≤ d) (hd2 : d ≤ mlen y mo) (hh1 : 0 ≤ hh) (hh2 : hh < 24) (mi1 : 0 ≤ mi) (mi2 : mi < 60) (ss1 : 0 ≤ ss) (ss2 : ss < 61) (hz1 : -5999 ≤ z) (hz2 : z ≤ 5999) (hp1 : 0 ≤ p) (hp2 : p ≤ 20) (l0 : m (Str.ofString "pool") = some (.ref pl)) (l1 : m (Str.ofString "year") = some (.int y t3)) (l2 : m (Str.ofString "month") = some (.int mo t4)) (l3 : m (Str.ofString "day") = some (.int d t7)) (l4 : m (Str.ofString "hour") = some (.int hh t9)) (l5 : m (Str.ofString "minute") = some (.int mi t10)) (l6 : m (Str.ofString "second") = some (.int ss t11)) (l7 : m (Str.ofString "zone") = some (.int z t13)) (l8 : m (Str.ofString "length") = some (.int (mlen y mo) t5))
    (hret : ∀ (m' : Str → Option Value) (lp : Nat) (sp : Int) (tsp : Tok) (g' st' : Int) (q1' q2' q3' : Tok) (ep' : Nat) (h' : Heap) (tk' : Nat), Fr h₀ L h' m' → News h₀ L h' ((lp, listOf #[.int y t3, .int mo t4, .int d t7, .int hh t9, .int mi t10, .int ss t11, .int z t13] 0) :: (pl, poolO c g' st' (p + 1) q1' q2' q3' ep') :: (c, listOf vs.toArray epc) :: []) → m' (Str.ofString "parts") = some (.ref lp) → m' (Str.ofString "spot") = some (.int sp tsp) → 0 ≤ sp → sp < 7 → pl < lp → c < lp → 0 ≤ g' → 0 ≤ st' → st' < 2147483647 → m' (Str.ofString "pool") = some (.ref pl) → m' (Str.ofString "year") = some (.int y t3) → m' (Str.ofString "month") = some (.int mo t4) → m' (Str.ofString "day") = some (.int d t7) → m' (Str.ofString "hour") = some (.int hh t9) → m' (Str.ofString "minute") = some (.int mi t10) → m' (Str.ofString "second") = some (.int ss t11) → m' (Str.ofString "zone") = some (.int z t13) → m' (Str.ofString "length") = some (.int (mlen y mo) t5) → Q .next { s with heap := h', toks := tk' }) :
    Walks (model PySem.Challenge.rw_no0364_01.row.prog w) (ktrTop dp un gd (Str.ofString "law") lawScope L a ccd [] []) (execs (lawSeg 25 2) (envOf (Str.ofString "law") lawScope L a ccd)) Q E s := by
  refine ⟨?_⟩
  have kk : PySem.Challenge.rw_no0364_01.row.prog = PySem.Challenge.rw_no0364_01.row.prog ∧ heapK w.params = heapK w.params := ⟨rfl, rfl⟩
  revert kk
  k_fill
  intro _
  unfold lawSeg
  conv in (List.drop _ _) => whnf
  simp only [List.take_succ_cons, List.take_zero]
  try k_lift B
  try k_fold
  k_steps
  · exact hret _ _ _ _ _ _ _ _ _ _ _ _ (by k_asm) (cb_drop (by k_asm) (by kcj_all)) (by exact (if_neg (by decide)).trans (if_pos rfl)) (by exact if_pos rfl) (by assumption) (by assumption) (by omega) (by omega) (by assumption) (by assumption) (by assumption) (by exact (if_neg (by decide)).trans ((if_neg (by decide)).trans l0)) (by exact (if_neg (by decide)).trans ((if_neg (by decide)).trans l1)) (by exact (if_neg (by decide)).trans ((if_neg (by decide)).trans l2)) (by exact (if_neg (by decide)).trans ((if_neg (by decide)).trans l3)) (by exact (if_neg (by decide)).trans ((if_neg (by decide)).trans l4)) (by exact (if_neg (by decide)).trans ((if_neg (by decide)).trans l5)) (by exact (if_neg (by decide)).trans ((if_neg (by decide)).trans l6)) (by exact (if_neg (by decide)).trans ((if_neg (by decide)).trans l7)) (by exact (if_neg (by decide)).trans ((if_neg (by decide)).trans l8))
theorem words92 : True := by
  k_with_none
  trivial
end

end
end
end Mine
namespace Mine
section
open PySem PySem.W PyProof.Rows PySem.Spec PySem.Calls
noncomputable section
section
theorem words93 : True := by
  k_with_none
  (k_with "eval Call Name" => ((with_reducible show wpAny _ _ (eval (Expr.Call (Expr.Name _ _) _ _ _) _) _ _ _); refine Call_ ?_))
  (k_with "call ref" => (k_here; (with_reducible show wpAny _ _ (call (Value.ref 256) _) _ _ _); k_dflt (refine draw_use (by k_asm) (by k_asm) (by k_asm) (by k_asm) (by k_asm) (by first | exact rfl | assumption) (by ktr_room) (by ktr_units) (by k_updF) (by k_mem) (by omega) (by omega) (by assumption) (by assumption) (by assumption) (by omega) (by omega) (by assumption) (by assumption) (by assumption) ?_); intro v9 g9 st9 t9 t91 t92 t93 ep9 h9 tk9 pv9 pw9 pg9 ps9 pt9 F9 N9; (try dsimp only at N9); (try dsimp only); (try k_fold)))
  (k_with "eval Name" => (k_here; k_dflt (refine PyProof.Rows.ld (by k_asm) (by first | assumption | exact nlook (by assumption) (by decide) | exact nlook (nlook (by assumption) (by decide)) (by decide)) ?_; k_whole)))
  trivial
theorem seg16 {w : World} {mean : ExcName → Option Value} {mg mb : Str → Option Value} (dp un : Nat) (gd : Option (List Code)) (a : Addr) (ccd : Value) (A₀ : Around) (base h₀ : Heap) (L : Addr) (s : Shared) (Q : Flow → Shared → Prop) (E : Value → Shared → Prop) (m : Str → Option Value) (pl c : Nat) (g st : Int) (q1 q2 q3 : Tok) (ep epc : Nat) (vs : List Value) (ns : List Int) (y mo d hh mi ss z p : Int) (t3 t4 t5 t7 t9 t10 t11 t13 : Tok) (lp : Nat) (sp : Int) (tsp : Tok)
    (XB : (heapK w.params).In base) (TB : Top viewK LO mean mg mb base) (B : Below A₀ base [] h₀) (F : Fr h₀ L s.heap (m)) (X : (heapK w.params).In h₀) (N : News h₀ L s.heap ((lp, listOf #[.int y t3, .int mo t4, .int d t7, .int hh t9, .int mi t10, .int ss t11, .int z t13] 0) :: (pl, poolO c g st p q1 q2 q3 ep) :: (c, listOf vs.toArray epc) :: [])) (T : Top viewK LO mean mg mb h₀) (hdp : dp + 120 < recursionLimit) (hu : un + 8 * 120 < cLine) (hg : 0 ≤ g) (hst : 0 ≤ st) (hst' : st < 2147483647) (hI : IntsAre vs ns) (hlen : ns.length ≤ 40) (hpc : c < pl) (hy1 : 1 ≤ y) (hy2 : y ≤ 9999) (hm1 : 1 ≤ mo) (hm2 : mo ≤ 12) (hd1 : 1 ≤ d) (hd2 : d ≤ mlen y mo) (hh1 : 0 ≤ hh) (hh2 : hh < 24) (mi1 : 0 ≤ mi) (mi2 : mi < 60) (ss1 : 0 ≤ ss) (ss2 : ss < 61) (hz1 : -5999 ≤ z) (hz2 : z ≤ 5999) (hp1 : 0 ≤ p) (hp2 : p ≤ 30) (l0 : m (Str.ofString "pool") = some (.ref pl)) (l1 : m (Str.ofString "year") = some (.int y t3)) (l2 : m (Str.ofString "month") = some (.int mo t4)) (l3 : m (Str.ofString "day") = some (.int d t7)) (l4 : m (Str.ofString "hour") = some (.int hh t9)) (l5 : m (Str.ofString "minute") = some (.int mi t10)) (l6 : m (Str.ofString "second") = some (.int ss t11)) (l7 : m (Str.ofString "zone") = some (.int z t13)) (l8 : m (Str.ofString "length") = some (.int (mlen y mo) t5)) (hs1 : 0 ≤ sp) (hs2 : sp < 7) (hl1 : pl < lp) (hl2 : c < lp) (la : m (Str.ofString "parts") = some (.ref lp)) (lb : m (Str.ofString "spot") = some (.int sp tsp))
    (hret : ∀ (y' mo' d' hh' mi' ss' z' : Int) (ty tmo td thh tmi tss tz : Tok) (h' : Heap) (tk' : Nat), Fr h₀ L h' m → News h₀ L h' ((lp, listOf #[.int y' ty, .int mo' tmo, .int d' td, .int hh' thh, .int mi' tmi, .int ss' tss, .int z' tz] 0) :: []) → isMom y' mo' d' hh' mi' ss' z' = false → (sp < 3 → isDay y' mo' d' = false) → Q .next { s with heap := h', toks := tk' }) :
    Walks (model PySem.Challenge.rw_no0364_01.row.prog w) (ktrTop dp un gd (Str.ofString "law") lawScope L a ccd [] []) (execs (lawSeg 27 1) (envOf (Str.ofString "law") lawScope L a ccd)) Q E s := by
  refine ⟨?_⟩
  have kk : PySem.Challenge.rw_no0364_01.row.prog = PySem.Challenge.rw_no0364_01.row.prog ∧ heapK w.params = heapK w.params := ⟨rfl, rfl⟩
  revert kk
  k_fill
  intro _
  unfold lawSeg
  conv in (List.drop _ _) => whnf
  simp only [List.take_succ_cons, List.take_zero]
  try k_lift B
  try k_fold
  k_steps
  · exact hret _ _ _ _ _ _ _ _ _ _ _ _ _ _ _ _ (by k_asm) (cb_drop (by k_asm) (by kcj_all)) (bad_all (hh := hh) (mi := mi) (ss := ss) (z := z) hy1 hy2 hm1 hm2 hd1 hd2 (.inl ⟨by omega, get2 (by assumption) (by assumption)⟩)).1 (bad_all (hh := hh) (mi := mi) (ss := ss) (z := z) hy1 hy2 hm1 hm2 hd1 hd2 (.inl ⟨by omega, get2 (by assumption) (by assumption)⟩)).2
  · exact hret _ _ _ _ _ _ _ _ _ _ _ _ _ _ _ _ (by k_asm) (cb_drop (by k_asm) (by kcj_all)) (bad_all (hh := hh) (mi := mi) (ss := ss) (z := z) hy1 hy2 hm1 hm2 hd1 hd2 (.inr (.inl ⟨by omega, get2 (by assumption) (by assumption)⟩))).1 (bad_all (hh := hh) (mi := mi) (ss := ss) (z := z) hy1 hy2 hm1 hm2 hd1 hd2 (.inr (.inl ⟨by omega, get2 (by assumption) (by assumption)⟩))).2
  · exact hret _ _ _ _ _ _ _ _ _ _ _ _ _ _ _ _ (by k_asm) (cb_drop (by k_asm) (by kcj_all)) (bad_all (hh := hh) (mi := mi) (ss := ss) (z := z) hy1 hy2 hm1 hm2 hd1 hd2 (.inr (.inr (.inl ⟨by omega, get2 (by assumption) (by assumption)⟩)))).1 (bad_all (hh := hh) (mi := mi) (ss := ss) (z := z) hy1 hy2 hm1 hm2 hd1 hd2 (.inr (.inr (.inl ⟨by omega, get2 (by assumption) (by assumption)⟩)))).2
  · exact hret _ _ _ _ _ _ _ _ _ _ _ _ _ _ _ _ (by k_asm) (cb_drop (by k_asm) (by kcj_all)) (bad_all (hh := hh) (mi := mi) (ss := ss) (z := z) hy1 hy2 hm1 hm2 hd1 hd2 (.inr (.inr (.inr (.inl ⟨by omega, get2 (by assumption) (by assumption)⟩))))).1 (bad_all (hh := hh) (mi := mi) (ss := ss) (z := z) hy1 hy2 hm1 hm2 hd1 hd2 (.inr (.inr (.inr (.inl ⟨by omega, get2 (by assumption) (by assumption)⟩))))).2
  · exact hret _ _ _ _ _ _ _ _ _ _ _ _ _ _ _ _ (by k_asm) (cb_drop (by k_asm) (by kcj_all)) (bad_all (hh := hh) (mi := mi) (ss := ss) (z := z) hy1 hy2 hm1 hm2 hd1 hd2 (.inr (.inr (.inr (.inr (.inl ⟨by omega, get2 (by assumption) (by assumption)⟩)))))).1 (bad_all (hh := hh) (mi := mi) (ss := ss) (z := z) hy1 hy2 hm1 hm2 hd1 hd2 (.inr (.inr (.inr (.inr (.inl ⟨by omega, get2 (by assumption) (by assumption)⟩)))))).2
  · exact hret _ _ _ _ _ _ _ _ _ _ _ _ _ _ _ _ (by k_asm) (cb_drop (by k_asm) (by kcj_all)) (bad_all (hh := hh) (mi := mi) (ss := ss) (z := z) hy1 hy2 hm1 hm2 hd1 hd2 (.inr (.inr (.inr (.inr (.inr (.inl ⟨by omega, get2 (by assumption) (by assumption)⟩))))))).1 (bad_all (hh := hh) (mi := mi) (ss := ss) (z := z) hy1 hy2 hm1 hm2 hd1 hd2 (.inr (.inr (.inr (.inr (.inr (.inl ⟨by omega, get2 (by assumption) (by assumption)⟩))))))).2
  · exact hret _ _ _ _ _ _ _ _ _ _ _ _ _ _ _ _ (by k_asm) (cb_drop (by k_asm) (by kcj_all)) (bad_all (hh := hh) (mi := mi) (ss := ss) (z := z) hy1 hy2 hm1 hm2 hd1 hd2 (.inr (.inr (.inr (.inr (.inr (.inr ⟨by omega, get2 (by assumption) (by assumption)⟩))))))).1 (bad_all (hh := hh) (mi := mi) (ss := ss) (z := z) hy1 hy2 hm1 hm2 hd1 hd2 (.inr (.inr (.inr (.inr (.inr (.inr ⟨by omega, get2 (by assumption) (by assumption)⟩))))))).2
theorem words94 : True := by
  k_with_none
  trivial
end

end
end
end Mine
namespace Mine
section
open PySem PySem.W PyProof.Rows PySem.Spec PySem.Calls
noncomputable section
section
theorem words95 : True := by
  k_with_none
  (k_with "eval Call Name" => ((with_reducible show wpAny _ _ (eval (Expr.Call (Expr.Name _ _) _ _ _) _) _ _ _); refine Call_ ?_))
  (k_with "subscriptTail Name Constant ref int" => (k_here; k_dflt (first | (refine item_tupleT (by exact News.isTup (by k_asm) (by k_mem)) (by decide) (by decide) (by rfl) (by rfl) ?_; k_whole) | (refine item_listT (by exact News.isList (by k_asm) (by k_mem)) (by decide) (by decide) (by rfl) ?_; k_whole))))
  (k_with "eval Name" => (k_here; k_dflt (refine PyProof.Rows.ld (by k_asm) (by first | assumption | exact nlook (by assumption) (by decide) | exact nlook (nlook (by assumption) (by decide)) (by decide)) ?_; k_whole)))
  (k_with "call ref" => (k_here; (with_reducible show wpAny _ _ (call (Value.ref 286) _) _ _ _); k_dflt (refine cont_use0 (by k_asm) (by k_asm) (by k_asm) (by k_asm) (by k_asm) (by assumption) (by assumption) (by first | exact rfl | assumption) (cont_refused244 _ _ (conr_write_day _ _ _ _ _ _ _ _ (by exact mp_of (by assumption) (by omega)))) (by ktr_room) (by ktr_units) ?_); intro h9 tk9 F9 N9; (try dsimp only); (try k_fold)))
  (k_with "call ref" => (k_here; k_dflt (refine con_use (by k_asm) (by k_asm) (by k_asm) (by k_asm) (by k_asm) (by first | exact rfl | assumption) (con_moment _ _ _ _ _ _ _ _ _ _ _ _ _ _ _) (by ktr_room) (by ktr_units) ?_); intro (x9 : Nat) (dx9 : Nat) q0 q1 q2 q3 q4 q5 q6 q7 q8 q9 q10 q11 q12 q13 h9 tk9 F9 N9 lt9 lt10; have ne9 := ne_of_all lt9; have ne10 := Nat.ne_of_lt lt10; (try dsimp only); (try k_fold)))
  (k_with "call ref" => (k_here; (with_reducible show wpAny _ _ (call (Value.ref 286) _) _ _ _); k_dflt (refine cont_use0 (by k_asm) (by k_asm) (by k_asm) (by k_asm) (by k_asm) (by assumption) (by assumption) (by first | exact rfl | assumption) (cont_refused216 _ _ (conr_write_date _ _ _ _ _ _ _ _ _ _ _ _ _ _ _ _ _ _ _ _ _ _ _ _ (by assumption) (by assumption) (by assumption))) (by ktr_room) (by ktr_units) ?_); intro h9 tk9 F9 N9; (try dsimp only); (try k_fold)))
  (k_with "execs cons" => (k_here; (with_reducible show wpAny _ _ (execs (Stmt.If _ _ [] _ :: _) _) _ _ _); refine join_at2 (by k_asm) (by k_asm) ?_ ?_; intro h' tk' F' N'; (try k_sweep)))
  trivial
theorem seg17 {w : World} {mean : ExcName → Option Value} {mg mb : Str → Option Value} (dp un : Nat) (gd : Option (List Code)) (a : Addr) (ccd : Value) (A₀ : Around) (base h₀ : Heap) (L : Addr) (s : Shared) (Q : Flow → Shared → Prop) (E : Value → Shared → Prop) (m : Str → Option Value) (y mo d hh mi ss z : Int) (ty tmo td thh tmi tss tz : Tok) (lp : Nat) (sp : Int) (tsp : Tok) (elp : Nat)
    (XB : (heapK w.params).In base) (TB : Top viewK LO mean mg mb base) (B : Below A₀ base [] h₀) (F : Fr h₀ L s.heap (m)) (X : (heapK w.params).In h₀) (N : News h₀ L s.heap ((lp, listOf #[.int y ty, .int mo tmo, .int d td, .int hh thh, .int mi tmi, .int ss tss, .int z tz] elp) :: [])) (T : Top viewK LO mean mg mb h₀) (hdp : dp + 120 < recursionLimit) (hu : un + 8 * 120 < cLine) (la : m (Str.ofString "parts") = some (.ref lp)) (lb : m (Str.ofString "spot") = some (.int sp tsp)) (hbad : isMom y mo d hh mi ss z = false) (hbd : sp < 3 → isDay y mo d = false)
    (hret : ∀ (h' : Heap) (tk' : Nat), Fr h₀ L h' m → Q (.ret (.bool true)) { s with heap := h', toks := tk' }) :
    Walks (model PySem.Challenge.rw_no0364_01.row.prog w) (ktrTop dp un gd (Str.ofString "law") lawScope L a ccd [] []) (execs (lawSeg 28 2) (envOf (Str.ofString "law") lawScope L a ccd)) Q E s := by
  refine ⟨?_⟩
  have kk : PySem.Challenge.rw_no0364_01.row.prog = PySem.Challenge.rw_no0364_01.row.prog ∧ heapK w.params = heapK w.params := ⟨rfl, rfl⟩
  revert kk
  k_fill
  intro _
  unfold lawSeg
  conv in (List.drop _ _) => whnf
  simp only [List.take_succ_cons, List.take_zero]
  try k_lift B
  try k_fold
  k_steps
  all_goals first | exact hret _ _ (by k_asm) | (k_asm; done) | exact (cb_drop (by k_asm) (by kcj_all))
theorem words96 : True := by
  k_with_none
  trivial
end

end
end
end Mine
namespace Mine
section
open PySem PySem.W PyProof.Rows PySem.Spec PySem.Calls
noncomputable section
theorem law_split : lawBody = lawSeg 0 3 ++ (lawSeg 3 1 ++ (lawSeg 4 3 ++ (lawSeg 7 1 ++ (lawSeg 8 2 ++ (lawSeg 10 1 ++ (lawSeg 11 2 ++ (lawSeg 13 1 ++ (lawSeg 14 2 ++ (lawSeg 16 1 ++ (lawSeg 17 2 ++ (lawSeg 19 1 ++ (lawSeg 20 1 ++ (lawSeg 21 4 ++ (lawSeg 25 2 ++ (lawSeg 27 1 ++ (lawSeg 28 2)))))))))))))))) := by rfl
theorem law_walk {w : World} {mean : ExcName → Option Value} {mg mb : Str → Option Value} (dp un : Nat) (gd : Option (List Code)) (a : Addr) (ccd : Value) (A₀ : Around) (base h₀ : Heap) (L : Addr) (s : Shared) (Q : Flow → Shared → Prop) (E : Value → Shared → Prop) (l : Addr) (ws : List Value) (ks : List Int)
    (XB : (heapK w.params).In base) (TB : Top viewK LO mean mg mb base) (B : Below A₀ base [] h₀) (F : Fr h₀ L s.heap (fm [(Str.ofString "script", .ref l)])) (X : (heapK w.params).In h₀) (N : News h₀ L s.heap []) (T : Top viewK LO mean mg mb h₀) (hdp : dp + 120 < recursionLimit) (hu : un + 8 * 120 < cLine)
    (hl : base.IsList l ws.toArray) (hi : IntsAre ws ks) (hfit : ks.length ≤ 63)
    (hret : ∀ (m : Str → Option Value) (h' : Heap) (tk' : Nat), Fr h₀ L h' m → Q (.ret (.bool true)) { s with heap := h', toks := tk' }) :
    Walks (model PySem.Challenge.rw_no0364_01.row.prog w) (ktrTop dp un gd (Str.ofString "law") lawScope L a ccd [] []) (execs lawBody (envOf (Str.ofString "law") lawScope L a ccd)) Q E s := by
  rw [law_split]
  refine walks_app (seg1 _ _ _ _ _ _ _ _ _ _ _ _ _ _ _  B F X N T hdp hu hl hi hfit ?_)
  intro pl c g1 st1 qa1 qb1 qc1 ep1 epc vs ns so y0 t1 t2 h1 k1 pg1 ps1 pt1 hI hlen hpc so1 so2 y01 y02 F1 N1
  dsimp only
  refine walks_app (seg2 _ _ _ _ _ _ _ _ _ _ _ _ _ _ _ _ _ _ _ _ _ _ _ _ _ _ _ _  B F1 X N1 T hdp hu pg1 ps1 pt1 hI hlen hpc y01 y02 ?_)
  intro y t3 h2 k2 hy1 hy2 F2 N2
  dsimp only
  refine walks_app (seg3 _ _ _ _ _ _ _ _ _ _ _ _ _ _ _ _ _ _ _ _ _ _ _ _ _ _ _ _ _ _  B F2 X N2 T hdp hu pg1 ps1 pt1 hI hlen hpc hy1 hy2 ?_)
  intro g2 st2 qa2 qb2 qc2 ep2 mo d0 t4 t5 t6 h3 k3 pg2 ps2 pt2 hm1 hm2 d01 d02 F3 N3
  dsimp only
  refine walks_app (seg4 _ _ _ _ _ _ _ _ _ _ _ _ _ _ _ _ _ _ _ _ _ _ _ _ _ _ _ _ _ _ _ _ _ _ _  B F3 X N3 T hdp hu pg2 ps2 pt2 hI hlen hpc hy1 hy2 hm1 hm2 d01 d02 ?_)
  intro g3 st3 qa3 qb3 qc3 ep3 d t7 h4 k4 pg3 ps3 pt3 hd1 hd2 F4 N4
  dsimp only
  refine walks_app (seg5 _ _ _ _ _ _ _ _ _ _ _ _ _ _ _ _ _ _ _ _ _ _ _ _ _ _ _ _ _ _ _ _ _ _ _ _ _  B F4 X N4 T hdp hu pg3 ps3 pt3 hI hlen hpc hy1 hy2 hm1 hm2 hd1 hd2 ?_)
  intro t8 h5 k5 F5 N5
  dsimp only
  refine walks_app (seg6 _ _ _ _ _ _ _ _ _ _ _ _ _ _ _ _ _ _ _ _ _ _ _ _ _ _ _ _ _ _ _ _ _ _ _ _ _ _  B F5 X N5 T hdp hu pg3 ps3 pt3 hI hlen hpc hy1 hy2 hm1 hm2 hd1 hd2 ?_)
  intro h6 k6 F6 N6
  dsimp only
  refine walks_app (seg7 _ _ _ _ _ _ _ _ _ _ _ _ _ _ _ _ _ _ _ _ _ _ _ _ _ _ _ _ _ _ _ _ _ _ _ _ _ _  B F6 X N6 T hdp hu pg3 ps3 pt3 hI hlen hpc hy1 hy2 hm1 hm2 hd1 hd2 ?_)
  intro la h7 k7 F7 N7
  dsimp only
  refine walks_app (seg8 _ _ _ _ _ _ _ _ _ _ _ _ _ _ _ _ _ _ _ _ _ _ _ _ _ _ _ _ _ _ _ _ _ _ _ _ _ _ _ XB TB B F7 X N7 T hdp hu pg3 ps3 pt3 hI hlen hpc hy1 hy2 hm1 hm2 hd1 hd2 ?_)
  intro g4 st4 qa4 qb4 qc4 ep4 h8 k8 pg4 ps4 pt4 F8 N8
  dsimp only
  refine walks_app (seg9 _ _ _ _ _ _ _ _ _ _ _ _ _ _ _ _ _ _ _ _ _ _ _ _ _ _ _ _ _ _ _ _ _ _ _ _ _ _ _  B F8 X N8 T hdp hu pg4 ps4 pt4 hI hlen hpc hy1 hy2 hm1 hm2 hd1 hd2 ?_)
  intro g5 st5 qa5 qb5 qc5 ep5 hh mi ss z0 t9 t10 t11 t12 h9 k9 pg5 ps5 pt5 hh1 hh2 mi1 mi2 ss1 ss2 z01 z02 F9 N9
  dsimp only
  refine walks_app (seg10 _ _ _ _ _ _ _ _ _ _ _ _ _ _ _ _ _ _ _ _ _ _ _ _ _ _ _ _ _ _ _ _ _ _ _ _ _ _ _ _ _ _ _ _ _ _ _  B F9 X N9 T hdp hu pg5 ps5 pt5 hI hlen hpc hy1 hy2 hm1 hm2 hd1 hd2 hh1 hh2 mi1 mi2 ss1 ss2 z01 z02 ?_)
  intro g6 st6 qa6 qb6 qc6 ep6 p z t13 h10 k10 pg6 ps6 pt6 hp1 hp2 hz1 hz2 F10 N10
  dsimp only
  refine walks_app (seg11 _ _ _ _ _ _ _ _ _ _ _ _ _ _ _ _ _ _ _ _ _ _ _ _ _ _ _ _ _ _ _ _ _ _ _ _ _ _ _ _ _ _ _ _ _ _ _ _ _ _  B F10 X N10 T hdp hu pg6 ps6 pt6 hI hlen hpc hy1 hy2 hm1 hm2 hd1 hd2 hh1 hh2 mi1 mi2 ss1 ss2 hz1 hz2 hp1 hp2 ?_)
  intro sec t14 x dx u0 u1 u2 u3 u4 u5 u6 u7 u8 u9 u10 u11 u12 u13 h11 k11 hsec hx1 hx2 F11 N11
  dsimp only
  refine walks_app (seg12 _ _ _ _ _ _ _ _ _ _ _ _ _ _ _ _ _ _ _ _ _ _ _ _ _ _ _ _ _ _ _ _ _ _ _ _ _ _ _ _ _ _ _ _ _ _ _ _ _ _ _ _ _ _ _ _ _ _ _ _ _ _ _ _ _ _ _ _  B F11 X N11 T hdp hu pg6 ps6 pt6 hI hlen hpc hy1 hy2 hm1 hm2 hd1 hd2 hh1 hh2 mi1 mi2 ss1 ss2 hz1 hz2 hp1 hp2 hsec hx1 hx2 ?_)
  intro h12 k12 F12 N12
  dsimp only
  refine walks_app (seg13 _ _ _ _ _ _ _ _ _ _ _ _ _ _ _ _ _ _ _ _ _ _ _ _ _ _ _ _ _ _ _ _ _ _ _ _ _ _ _ _ _ _ _ _ _ _ _ _ _ _ _ _ _ _ _ _ _ _ _ _ _ _ _ _ _ _ _ _  B F12 X N12 T hdp hu pg6 ps6 pt6 hI hlen hpc hy1 hy2 hm1 hm2 hd1 hd2 hh1 hh2 mi1 mi2 ss1 ss2 hz1 hz2 hp1 hp2 hsec hx1 hx2 ?_)
  intro m h13 k13 F13 N13 l0 l1 l2 l3 l4 l5 l6 l7 l8
  dsimp only
  refine walks_app (seg14 _ _ _ _ _ _ _ _ _ _ _ _ _ _ _ _ _ _ _ _ _ _ _ _ _ _ _ _ _ _ _ _ _ _ _ _ _ _ _ _ XB TB B F13 X N13 T hdp hu pg6 ps6 pt6 hI hlen hpc hy1 hy2 hm1 hm2 hd1 hd2 hh1 hh2 mi1 mi2 ss1 ss2 hz1 hz2 hp1 hp2 l0 l1 l2 l3 l4 l5 l6 l7 l8 ?_)
  intro m' h14 k14 F14 N14 l0 l1 l2 l3 l4 l5 l6 l7 l8
  dsimp only
  refine walks_app (seg15 _ _ _ _ _ _ _ _ _ _ _ _ _ _ _ _ _ _ _ _ _ _ _ _ _ _ _ _ _ _ _ _ _ _ _ _ _ _ _ _ XB TB B F14 X N14 T hdp hu pg6 ps6 pt6 hI hlen hpc hy1 hy2 hm1 hm2 hd1 hd2 hh1 hh2 mi1 mi2 ss1 ss2 hz1 hz2 hp1 hp2 l0 l1 l2 l3 l4 l5 l6 l7 l8 ?_)
  intro m'' lp sp tsp g7 st7 qa7 qb7 qc7 ep7 h15 k15 F15 N15 la' lb' hs1 hs2 hl1 hl2 pg7 ps7 pt7 l0 l1 l2 l3 l4 l5 l6 l7 l8
  dsimp only
  refine walks_app (seg16 _ _ _ _ _ _ _ _ _ _ _ _ _ _ _ _ _ _ _ _ _ _ _ _ _ _ _ _ _ _ _ _ _ _ _ _ _ _ _ _ _ _ _ XB TB B F15 X N15 T hdp hu pg7 ps7 pt7 hI hlen hpc hy1 hy2 hm1 hm2 hd1 hd2 hh1 hh2 mi1 mi2 ss1 ss2 hz1 hz2 (p1_of hp1) (p2_of hp2) l0 l1 l2 l3 l4 l5 l6 l7 l8 hs1 hs2 hl1 hl2 la' lb' ?_)
  intro y' mo' d' hh' mi' ss' z' v0 v1 v2 v3 v4 v5 v6 h16 k16 F16 N16 hbad hbd
  dsimp only
  refine seg17 _ _ _ _ _ _ _ _ _ _ _ _ _ _ _ _ _ _ _ _ _ _ _ _ _ _ _ _ _ _ _ XB TB B F16 X N16 T hdp hu la' lb' hbad hbd ?_
  intro h17 k17 F17
  exact hret _ _ _ F17

end
end
end Mine
open PySem PySem.W PyProof.Rows PySem.Spec PySem.Calls
theorem PySem.Challenge.cw_no0364_01_holds : PySem.Challenge.rw_no0364_01.Holds := by
  w_on
  refine holds_law (by decide +kernel) fun said => ?_
  refine holds_open (q := Mine.viewK) (loose := Mine.looseK) (Xt := fun s => xlAt Mine.viewK Mine.readK s && recOk (RowW.records Mine.rowW) s) (XP := XL Mine.viewK Mine.readK) (Yf := Hook.obs Mine.hookK) (Ya := Hook.val Mine.hookK) (YP := Hook.says Mine.hookK) (N := 3926) Mine.leftK (Hook.of Mine.hookK) (Hook.keeps Mine.hookK) (fun s e => xl_of s (Bool.and_eq_true_iff.mp e).1) XL.keeps (by rfl) (by rfl) (by rfl) (fun s e => recFacts_of (Bool.and_eq_true_iff.mp e).2) (by rfl) (by assumption) (by decide +kernel) ⟨rfl, rfl, rfl, rfl, rfl, by decide +kernel⟩ ?hw ?hc
  case hw => w_witness2
  case hc =>
    intro w s₀ s₁ mg mb G Y fa o pm cd doc dV kV ho hd hcd hD hmg hg args vals as hpre hlay hrd hwl hlo
    have KX := kIn_of (K := Mine.heapK) (as := Mine.addrK) (e := fun _ => by kernel_rfl) Y
    have X := (Ground.X G).1
    have V := (Ground.X G).2
    refine Ground.open G ?_
    intro T B D TE TW
    try (refine guard_noD D (by decide +kernel) ?_; clear D)
    obtain ⟨_, _, M⟩ := bmod_of_top T
    have TA := at_of_top T
    clear hmg
    wrow_args hpre hlay hrd hwl hlo
    all_goals (
      first | refine callC_kw (enter_call ?_) | refine enter_call ?_
      w_top on
      try refine codeAny_mono ?_ (fun _ _ g => GoodW.toG g)
      have K0 := below_caller (Top.heap T)
      w_call any ho hd hcd hD T F
      clear hd TA
      k_drop
      skip)
    refine Mine.Walks.go ?_
    refine' Mine.law_walk _ _ _ _ _ _ _ _ _ _ _ _ _ _ _ ?XB ?TB ?B ?F ?X ?N ?T ?hdp ?hu ?hl ?hi ?hfit ?hret
    case F => assumption
    case B => assumption
    case X => assumption
    case N => assumption
    case T => assumption
    case XB => assumption
    case TB => assumption
    case hl => assumption
    case hi => assumption
    case hfit => omega
    case hdp => ktr_room
    case hu => ktr_units
    case hret =>
      intro m8 h8 tk8 F8
      dsimp only
      k_steps
end
