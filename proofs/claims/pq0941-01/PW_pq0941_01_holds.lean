import PyProof.Rows.All
import Wide.All
import OpenK.AllK
import Wide.FinOn
import Lean
import PySem.Challenge.RW_pq0941_01
open PySem PySem.W PyProof.Rows PySem.Calls
set_option maxRecDepth 100000
namespace Mine
abbrev body : List Stmt := PySem.Challenge.pw_pq0941_01.main.body
noncomputable def fnParts : Option Stmt → Option (Arguments × List Stmt × Scope)
  | some (.FunctionDef _ a b _ _ _ sc ..) => some (a, b, sc)
  | _ => none
noncomputable def clsBody : Option Stmt → List Stmt
  | some (.ClassDef _ _ _ b ..) => b
  | _ => []
@[reducible] noncomputable def fo {x : Option Stmt} {a : Arguments} {b : List Stmt} {sc : Scope} (_ : fnParts x = some (a, b, sc)) (name qual : Str) (dV pm cd : Value) : Obj :=
  { cls := .type "function", data := .func { name, qualname := qual, params := a, body := .stmts b, scope := sc, globals := 3, closure := [], defaults := dV, kwdefaults := .none, pyModule := pm, code := cd } }
set_option maxHeartbeats 4000000 in
noncomputable def K (P : Params) : Frag :=
  (nat_lit 2, ({ cls := .none, data := .dict #[{ hash := PyData.keyHash P (Str.ofString "type.__subclasses__.Exception.0"), key := .str (Str.ofString "type.__subclasses__.Exception.0") 225, val := .int 39 0 }, { hash := PyData.keyHash P (Str.ofString "type.__subclasses__.Exception.n"), key := .str (Str.ofString "type.__subclasses__.Exception.n") 226, val := .int 1 0 }] 2 } : Obj)) ::
  (nat_lit 3, ({ cls := .type "dict", data := .dict #[{ hash := PyData.keyHash P (Str.ofString "__name__"), key := .str (Str.ofString "__name__") 165, val := .str (Str.ofString "law_pq0941_01") 693 }, { hash := PyData.keyHash P (Str.ofString "__doc__"), key := .str (Str.ofString "__doc__") 166, val := .none }, { hash := PyData.keyHash P (Str.ofString "__package__"), key := .str (Str.ofString "__package__") 167, val := .none }, { hash := PyData.keyHash P (Str.ofString "__loader__"), key := .str (Str.ofString "__loader__") 168, val := .builtin "__main__.__loader__#opaque" }, { hash := PyData.keyHash P (Str.ofString "__spec__"), key := .str (Str.ofString "__spec__") 169, val := .none }, { hash := PyData.keyHash P (Str.ofString "__annotations__"), key := .str (Str.ofString "__annotations__") 170, val := .ref 6 }, { hash := PyData.keyHash P (Str.ofString "__builtins__"), key := .str (Str.ofString "__builtins__") 171, val := .ref 4 }, { hash := PyData.keyHash P (Str.ofString "__file__"), key := .str (Str.ofString "__file__") 173, val := .str (Str.ofString "/claim/cut.py") 172 }, { hash := PyData.keyHash P (Str.ofString "__cached__"), key := .str (Str.ofString "__cached__") 174, val := .none }, { hash := PyData.keyHash P (Str.ofString "PostError"), key := .str (Str.ofString "PostError") 228, val := .ref 39 }, { hash := PyData.keyHash P (Str.ofString "WordFault"), key := .str (Str.ofString "WordFault") 244, val := .ref 52 }, { hash := PyData.keyHash P (Str.ofString "lower_code"), key := .str (Str.ofString "lower_code") 253, val := .ref 61 }, { hash := PyData.keyHash P (Str.ofString "lower_text"), key := .str (Str.ofString "lower_text") 259, val := .ref 66 }, { hash := PyData.keyHash P (Str.ofString "MOST_DEPTH"), key := .str (Str.ofString "MOST_DEPTH") 263, val := .int 20 262 }, { hash := PyData.keyHash P (Str.ofString "SIGNS"), key := .str (Str.ofString "SIGNS") 265, val := .bytes #[60, 62, 64, 44, 59, 58, 46, 92] 264 }, { hash := PyData.keyHash P (Str.ofString "ATOM_SIGNS"), key := .str (Str.ofString "ATOM_SIGNS") 267, val := .bytes #[33, 35, 36, 37, 38, 39, 42, 43, 45, 47, 61, 63, 94, 95, 96, 123, 124, 125, 126] 266 }, { hash := PyData.keyHash P (Str.ofString "NEVER_ESCAPED"), key := .str (Str.ofString "NEVER_ESCAPED") 271, val := .ref 67 }, { hash := PyData.keyHash P (Str.ofString "is_atom_code"), key := .str (Str.ofString "is_atom_code") 278, val := .ref 74 }, { hash := PyData.keyHash P (Str.ofString "line_end"), key := .str (Str.ofString "line_end") 286, val := .ref 81 }, { hash := PyData.keyHash P (Str.ofString "inside_at"), key := .str (Str.ofString "inside_at") 296, val := .ref 88 }, { hash := PyData.keyHash P (Str.ofString "closed_at"), key := .str (Str.ofString "closed_at") 309, val := .ref 95 }, { hash := PyData.keyHash P (Str.ofString "comment_at"), key := .str (Str.ofString "comment_at") 322, val := .ref 102 }, { hash := PyData.keyHash P (Str.ofString "atom_at"), key := .str (Str.ofString "atom_at") 331, val := .ref 109 }, { hash := PyData.keyHash P (Str.ofString "token_at"), key := .str (Str.ofString "token_at") 342, val := .ref 116 }, { hash := PyData.keyHash P (Str.ofString "past_white"), key := .str (Str.ofString "past_white") 351, val := .ref 123 }, { hash := PyData.keyHash P (Str.ofString "tokens_of"), key := .str (Str.ofString "tokens_of") 361, val := .ref 130 }, { hash := PyData.keyHash P (Str.ofString "without_comments"), key := .str (Str.ofString "without_comments") 367, val := .ref 135 }, { hash := PyData.keyHash P (Str.ofString "MONTHS"), key := .str (Str.ofString "MONTHS") 382, val := .ref 136 }, { hash := PyData.keyHash P (Str.ofString "DAYS"), key := .str (Str.ofString "DAYS") 390, val := .ref 137 }, { hash := PyData.keyHash P (Str.ofString "MOST_YEAR"), key := .str (Str.ofString "MOST_YEAR") 392, val := .int 9999 391 }, { hash := PyData.keyHash P (Str.ofString "MOST_ZONE"), key := .str (Str.ofString "MOST_ZONE") 398, val := .int 5999 397 }, { hash := PyData.keyHash P (Str.ofString "DAY_SECONDS"), key := .str (Str.ofString "DAY_SECONDS") 400, val := .int 86400 399 }, { hash := PyData.keyHash P (Str.ofString "FIRST_DAY"), key := .str (Str.ofString "FIRST_DAY") 402, val := .int 719162 401 }, { hash := PyData.keyHash P (Str.ofString "Moment"), key := .str (Str.ofString "Moment") 450, val := .ref 161 }, { hash := PyData.keyHash P (Str.ofString "is_leap"), key := .str (Str.ofString "is_leap") 457, val := .ref 172 }, { hash := PyData.keyHash P (Str.ofString "month_length"), key := .str (Str.ofString "month_length") 465, val := .ref 179 }, { hash := PyData.keyHash P (Str.ofString "days_before_year"), key := .str (Str.ofString "days_before_year") 473, val := .ref 186 }, { hash := PyData.keyHash P (Str.ofString "day_number"), key := .str (Str.ofString "day_number") 484, val := .ref 193 }, { hash := PyData.keyHash P (Str.ofString "day_told"), key := .str (Str.ofString "day_told") 495, val := .ref 200 }, { hash := PyData.keyHash P (Str.ofString "is_day"), key := .str (Str.ofString "is_day") 504, val := .ref 207 }, { hash := PyData.keyHash P (Str.ofString "is_time"), key := .str (Str.ofString "is_time") 513, val := .ref 214 }, { hash := PyData.keyHash P (Str.ofString "check_moment"), key := .str (Str.ofString "check_moment") 521, val := .ref 221 }, { hash := PyData.keyHash P (Str.ofString "instant_of"), key := .str (Str.ofString "instant_of") 529, val := .ref 228 }, { hash := PyData.keyHash P (Str.ofString "moment_of"), key := .str (Str.ofString "moment_of") 544, val := .ref 236 }, { hash := PyData.keyHash P (Str.ofString "month_number"), key := .str (Str.ofString "month_number") 550, val := .ref 241 }, { hash := PyData.keyHash P (Str.ofString "is_day_name"), key := .str (Str.ofString "is_day_name") 556, val := .ref 246 }, { hash := PyData.keyHash P (Str.ofString "is_figures"), key := .str (Str.ofString "is_figures") 562, val := .ref 251 }, { hash := PyData.keyHash P (Str.ofString "zone_in"), key := .str (Str.ofString "zone_in") 570, val := .ref 258 }, { hash := PyData.keyHash P (Str.ofString "named_zone"), key := .str (Str.ofString "named_zone") 576, val := .ref 263 }, { hash := PyData.keyHash P (Str.ofString "DateReader"), key := .str (Str.ofString "DateReader") 647, val := .ref 313 }, { hash := PyData.keyHash P (Str.ofString "full_year"), key := .str (Str.ofString "full_year") 655, val := .ref 324 }, { hash := PyData.keyHash P (Str.ofString "read_clock"), key := .str (Str.ofString "read_clock") 665, val := .ref 331 }, { hash := PyData.keyHash P (Str.ofString "read_zone"), key := .str (Str.ofString "read_zone") 674, val := .ref 338 }, { hash := PyData.keyHash P (Str.ofString "read_date"), key := .str (Str.ofString "read_date") 692, val := .ref 345 }, { hash := PyData.keyHash P (Str.ofString "_law_letters"), key := .str (Str.ofString "_law_letters") 696, val := .str (Str.ofString "abcdefghijklmnopqrstuvwxyz") 695 }, { hash := PyData.keyHash P (Str.ofString "_law_named"), key := .str (Str.ofString "_law_named") 707, val := .ref 346 }, { hash := PyData.keyHash P (Str.ofString "_law_gaps"), key := .str (Str.ofString "_law_gaps") 714, val := .ref 347 }, { hash := PyData.keyHash P (Str.ofString "_law_month_words"), key := .str (Str.ofString "_law_month_words") 727, val := .ref 348 }, { hash := PyData.keyHash P (Str.ofString "_law_reel"), key := .str (Str.ofString "_law_reel") 733, val := .ref 353 }, { hash := PyData.keyHash P (Str.ofString "_law_draw"), key := .str (Str.ofString "_law_draw") 742, val := .ref 360 }, { hash := PyData.keyHash P (Str.ofString "_law_cased"), key := .str (Str.ofString "_law_cased") 748, val := .ref 365 }, { hash := PyData.keyHash P (Str.ofString "_law_minutes"), key := .str (Str.ofString "_law_minutes") 755, val := .ref 372 }, { hash := PyData.keyHash P (Str.ofString "_law_two"), key := .str (Str.ofString "_law_two") 762, val := .ref 379 }, { hash := PyData.keyHash P (Str.ofString "_law_clock"), key := .str (Str.ofString "_law_clock") 775, val := .ref 386 }, { hash := PyData.keyHash P (Str.ofString "_law_head"), key := .str (Str.ofString "_law_head") 781, val := .ref 391 }, { hash := PyData.keyHash P (Str.ofString "_law_octets"), key := .str (Str.ofString "_law_octets") 787, val := .ref 396 }, { hash := PyData.keyHash P (Str.ofString "_law_is_zone"), key := .str (Str.ofString "_law_is_zone") 799, val := .ref 403 }, { hash := PyData.keyHash P (Str.ofString "_law_bent"), key := .str (Str.ofString "_law_bent") 813, val := .ref 410 }, { hash := PyData.keyHash P (Str.ofString "law"), key := .str (Str.ofString "law") 819, val := .ref 415 }] 69 } : Obj)) ::
  (nat_lit 15, ({ cls := .type "tuple", data := .seq #[.type "Exception"] } : Obj)) ::
  (nat_lit 22, ({ cls := .type "tuple", data := .seq #[.int (-1) 202] } : Obj)) ::
  (nat_lit 23, ({ cls := .type "tuple", data := .seq #[] } : Obj)) ::
  (nat_lit 25, ({ cls := .type "tuple", data := .seq #[.str (Str.ofString "self") 206, .str (Str.ofString "what") 207, .str (Str.ofString "at") 208] } : Obj)) ::
  (nat_lit 26, ({ cls := .type "tuple", data := .seq #[] } : Obj)) ::
  (nat_lit 28, ({ cls := .type "code", data := .fields #[.str (Str.ofString "__init__") 203, .str (Str.ofString "PostError.__init__") 204, .str (Str.ofString "/claim/cut.py") 205, .int 4 0, .int 3 0, .int 0 0, .int 0 0, .int 3 0, .ref 23, .bool true, .int 181 0, .ref 24, .none, .ref 25, .ref 26, .ref 27, .int 209 0, .int 4 0, .str (Str.ofString "/claim/cut.py") 210] } : Obj)) ::
  (nat_lit 29, (fo (x := ((clsBody body[1]?)[0]?)) rfl (Str.ofString "__init__") (Str.ofString "PostError.__init__") (.ref 22) (.str (Str.ofString "postkeep.errors") 187) (.ref 28) : Obj)) ::
  (nat_lit 30, ({ cls := .type "tuple", data := .seq #[] } : Obj)) ::
  (nat_lit 32, ({ cls := .type "tuple", data := .seq #[.str (Str.ofString "self") 215] } : Obj)) ::
  (nat_lit 33, ({ cls := .type "tuple", data := .seq #[] } : Obj)) ::
  (nat_lit 35, ({ cls := .type "code", data := .fields #[.str (Str.ofString "told") 212, .str (Str.ofString "PostError.told") 213, .str (Str.ofString "/claim/cut.py") 214, .int 9 0, .int 1 0, .int 0 0, .int 0 0, .int 3 0, .ref 30, .bool true, .int 181 0, .ref 31, .none, .ref 32, .ref 33, .ref 34, .int 216 0, .int 9 0, .str (Str.ofString "/claim/cut.py") 217] } : Obj)) ::
  (nat_lit 36, (fo (x := ((clsBody body[1]?)[1]?)) rfl (Str.ofString "told") (Str.ofString "PostError.told") (.none) (.str (Str.ofString "postkeep.errors") 187) (.ref 35) : Obj)) ::
  (nat_lit 37, ({ cls := .type "tuple", data := .seq #[.str (Str.ofString "at") 219, .str (Str.ofString "what") 220] } : Obj)) ::
  (nat_lit 38, ({ cls := .type "dict", data := .dict #[{ hash := PyData.keyHash P (Str.ofString "__module__"), key := .str (Str.ofString "__module__") 196, val := .str (Str.ofString "postkeep.errors") 187 }, { hash := PyData.keyHash P (Str.ofString "__firstlineno__"), key := .str (Str.ofString "__firstlineno__") 200, val := .int 2 199 }, { hash := PyData.keyHash P (Str.ofString "__init__"), key := .str (Str.ofString "__init__") 211, val := .ref 29 }, { hash := PyData.keyHash P (Str.ofString "told"), key := .str (Str.ofString "told") 218, val := .ref 36 }, { hash := PyData.keyHash P (Str.ofString "__static_attributes__"), key := .str (Str.ofString "__static_attributes__") 221, val := .ref 37 }, { hash := PyData.keyHash P (Str.ofString "__weakref__"), key := .str (Str.ofString "__weakref__") 223, val := .ref 40 }, { hash := PyData.keyHash P (Str.ofString "__doc__"), key := .str (Str.ofString "__doc__") 224, val := .none }] 3 } : Obj)) ::
  (nat_lit 39, ({ cls := .type "type", data := .cls { name := Str.ofString "PostError", bases := [.type "Exception"], mro := [.ref 39, .type "Exception", .type "BaseException", .type "object"], ns := 38, qualname := Str.ofString "PostError", subclasses := [.ref 52] }, slots := #[some (.ref 15), none, some (.str (Str.ofString "PostError") 189), some (.str (Str.ofString "PostError") 197), some (.builtin "Exception.__new__"), some (.bool true)] } : Obj)) ::
  (nat_lit 40, ({ cls := .type "getset_descriptor", data := .fields #[.str (Str.ofString "__weakref__") 222, .ref 39, .builtin "ExceptionGroup.__weakref__", .none] } : Obj)) ::
  (nat_lit 43, ({ cls := .type "tuple", data := .seq #[.ref 39] } : Obj)) ::
  (nat_lit 50, ({ cls := .type "tuple", data := .seq #[] } : Obj)) ::
  (nat_lit 51, ({ cls := .type "dict", data := .dict #[{ hash := PyData.keyHash P (Str.ofString "__module__"), key := .str (Str.ofString "__module__") 236, val := .str (Str.ofString "postkeep.errors") 187 }, { hash := PyData.keyHash P (Str.ofString "__firstlineno__"), key := .str (Str.ofString "__firstlineno__") 240, val := .int 11 239 }, { hash := PyData.keyHash P (Str.ofString "__static_attributes__"), key := .str (Str.ofString "__static_attributes__") 241, val := .ref 50 }, { hash := PyData.keyHash P (Str.ofString "__doc__"), key := .str (Str.ofString "__doc__") 242, val := .none }] 2 } : Obj)) ::
  (nat_lit 52, ({ cls := .type "type", data := .cls { name := Str.ofString "WordFault", bases := [.ref 39], mro := [.ref 52, .ref 39, .type "Exception", .type "BaseException", .type "object"], ns := 51, qualname := Str.ofString "WordFault" }, slots := #[some (.ref 43), none, some (.str (Str.ofString "WordFault") 229), some (.str (Str.ofString "WordFault") 237), some (.builtin "Exception.__new__"), some (.bool true)] } : Obj)) ::
  (nat_lit 55, ({ cls := .type "tuple", data := .seq #[] } : Obj)) ::
  (nat_lit 57, ({ cls := .type "tuple", data := .seq #[.str (Str.ofString "code") 250] } : Obj)) ::
  (nat_lit 58, ({ cls := .type "tuple", data := .seq #[] } : Obj)) ::
  (nat_lit 60, ({ cls := .type "code", data := .fields #[.str (Str.ofString "lower_code") 247, .str (Str.ofString "lower_code") 248, .str (Str.ofString "/claim/cut.py") 249, .int 14 0, .int 1 0, .int 0 0, .int 0 0, .int 3 0, .ref 55, .bool true, .int 181 0, .ref 56, .none, .ref 57, .ref 58, .ref 59, .int 251 0, .int 14 0, .str (Str.ofString "/claim/cut.py") 252] } : Obj)) ::
  (nat_lit 61, (fo (x := (body[4]?)) rfl (Str.ofString "lower_code") (Str.ofString "lower_code") (.none) (.str (Str.ofString "postkeep.octets") 245) (.ref 60) : Obj)) ::
  (nat_lit 62, ({ cls := .type "tuple", data := .seq #[] } : Obj)) ::
  (nat_lit 65, ({ cls := .type "code", data := .fields #[.str (Str.ofString "lower_text") 254, .str (Str.ofString "lower_text") 255, .str (Str.ofString "/claim/cut.py") 256, .int 16 0, .int 1 0, .int 0 0, .int 0 0, .int 3 0, .ref 62, .bool true, .int 181 0, .ref 63, .none, .none, .none, .ref 64, .int 257 0, .int 16 0, .str (Str.ofString "/claim/cut.py") 258] } : Obj)) ::
  (nat_lit 66, (fo (x := (body[5]?)) rfl (Str.ofString "lower_text") (Str.ofString "lower_text") (.none) (.str (Str.ofString "postkeep.octets") 245) (.ref 65) : Obj)) ::
  (nat_lit 67, ({ cls := .type "tuple", data := .seq #[.int 0 268, .int 10 269, .int 13 270] } : Obj)) ::
  (nat_lit 68, ({ cls := .type "tuple", data := .seq #[] } : Obj)) ::
  (nat_lit 70, ({ cls := .type "tuple", data := .seq #[.str (Str.ofString "code") 275] } : Obj)) ::
  (nat_lit 71, ({ cls := .type "tuple", data := .seq #[] } : Obj)) ::
  (nat_lit 73, ({ cls := .type "code", data := .fields #[.str (Str.ofString "is_atom_code") 272, .str (Str.ofString "is_atom_code") 273, .str (Str.ofString "/claim/cut.py") 274, .int 23 0, .int 1 0, .int 0 0, .int 0 0, .int 3 0, .ref 68, .bool true, .int 181 0, .ref 69, .none, .ref 70, .ref 71, .ref 72, .int 276 0, .int 23 0, .str (Str.ofString "/claim/cut.py") 277] } : Obj)) ::
  (nat_lit 74, (fo (x := (body[11]?)) rfl (Str.ofString "is_atom_code") (Str.ofString "is_atom_code") (.none) (.str (Str.ofString "postkeep.tokens") 260) (.ref 73) : Obj)) ::
  (nat_lit 75, ({ cls := .type "tuple", data := .seq #[] } : Obj)) ::
  (nat_lit 77, ({ cls := .type "tuple", data := .seq #[.str (Str.ofString "data") 282, .str (Str.ofString "at") 283] } : Obj)) ::
  (nat_lit 78, ({ cls := .type "tuple", data := .seq #[] } : Obj)) ::
  (nat_lit 80, ({ cls := .type "code", data := .fields #[.str (Str.ofString "line_end") 279, .str (Str.ofString "line_end") 280, .str (Str.ofString "/claim/cut.py") 281, .int 25 0, .int 2 0, .int 0 0, .int 0 0, .int 3 0, .ref 75, .bool true, .int 181 0, .ref 76, .none, .ref 77, .ref 78, .ref 79, .int 284 0, .int 25 0, .str (Str.ofString "/claim/cut.py") 285] } : Obj)) ::
  (nat_lit 81, (fo (x := (body[12]?)) rfl (Str.ofString "line_end") (Str.ofString "line_end") (.none) (.str (Str.ofString "postkeep.tokens") 260) (.ref 80) : Obj)) ::
  (nat_lit 82, ({ cls := .type "tuple", data := .seq #[] } : Obj)) ::
  (nat_lit 84, ({ cls := .type "tuple", data := .seq #[.str (Str.ofString "data") 290, .str (Str.ofString "at") 291, .str (Str.ofString "begun") 292, .str (Str.ofString "behind") 293] } : Obj)) ::
  (nat_lit 85, ({ cls := .type "tuple", data := .seq #[] } : Obj)) ::
  (nat_lit 87, ({ cls := .type "code", data := .fields #[.str (Str.ofString "inside_at") 287, .str (Str.ofString "inside_at") 288, .str (Str.ofString "/claim/cut.py") 289, .int 29 0, .int 3 0, .int 0 0, .int 0 0, .int 3 0, .ref 82, .bool true, .int 181 0, .ref 83, .none, .ref 84, .ref 85, .ref 86, .int 294 0, .int 29 0, .str (Str.ofString "/claim/cut.py") 295] } : Obj)) ::
  (nat_lit 88, (fo (x := (body[13]?)) rfl (Str.ofString "inside_at") (Str.ofString "inside_at") (.none) (.str (Str.ofString "postkeep.tokens") 260) (.ref 87) : Obj)) ::
  (nat_lit 89, ({ cls := .type "tuple", data := .seq #[] } : Obj)) ::
  (nat_lit 91, ({ cls := .type "tuple", data := .seq #[.str (Str.ofString "data") 300, .str (Str.ofString "begun") 301, .str (Str.ofString "closing") 302, .str (Str.ofString "barred") 303, .str (Str.ofString "parts") 304, .str (Str.ofString "at") 305, .str (Str.ofString "octets") 306] } : Obj)) ::
  (nat_lit 92, ({ cls := .type "tuple", data := .seq #[] } : Obj)) ::
  (nat_lit 94, ({ cls := .type "code", data := .fields #[.str (Str.ofString "closed_at") 297, .str (Str.ofString "closed_at") 298, .str (Str.ofString "/claim/cut.py") 299, .int 42 0, .int 4 0, .int 0 0, .int 0 0, .int 3 0, .ref 89, .bool true, .int 181 0, .ref 90, .none, .ref 91, .ref 92, .ref 93, .int 307 0, .int 42 0, .str (Str.ofString "/claim/cut.py") 308] } : Obj)) ::
  (nat_lit 95, (fo (x := (body[14]?)) rfl (Str.ofString "closed_at") (Str.ofString "closed_at") (.none) (.str (Str.ofString "postkeep.tokens") 260) (.ref 94) : Obj)) ::
  (nat_lit 96, ({ cls := .type "tuple", data := .seq #[] } : Obj)) ::
  (nat_lit 98, ({ cls := .type "tuple", data := .seq #[.str (Str.ofString "data") 313, .str (Str.ofString "begun") 314, .str (Str.ofString "parts") 315, .str (Str.ofString "depth") 316, .str (Str.ofString "at") 317, .str (Str.ofString "sign") 318, .str (Str.ofString "octets") 319] } : Obj)) ::
  (nat_lit 99, ({ cls := .type "tuple", data := .seq #[] } : Obj)) ::
  (nat_lit 101, ({ cls := .type "code", data := .fields #[.str (Str.ofString "comment_at") 310, .str (Str.ofString "comment_at") 311, .str (Str.ofString "/claim/cut.py") 312, .int 51 0, .int 2 0, .int 0 0, .int 0 0, .int 3 0, .ref 96, .bool true, .int 181 0, .ref 97, .none, .ref 98, .ref 99, .ref 100, .int 320 0, .int 51 0, .str (Str.ofString "/claim/cut.py") 321] } : Obj)) ::
  (nat_lit 102, (fo (x := (body[15]?)) rfl (Str.ofString "comment_at") (Str.ofString "comment_at") (.none) (.str (Str.ofString "postkeep.tokens") 260) (.ref 101) : Obj)) ::
  (nat_lit 103, ({ cls := .type "tuple", data := .seq #[] } : Obj)) ::
  (nat_lit 105, ({ cls := .type "tuple", data := .seq #[.str (Str.ofString "data") 326, .str (Str.ofString "at") 327, .str (Str.ofString "end") 328] } : Obj)) ::
  (nat_lit 106, ({ cls := .type "tuple", data := .seq #[] } : Obj)) ::
  (nat_lit 108, ({ cls := .type "code", data := .fields #[.str (Str.ofString "atom_at") 323, .str (Str.ofString "atom_at") 324, .str (Str.ofString "/claim/cut.py") 325, .int 66 0, .int 2 0, .int 0 0, .int 0 0, .int 3 0, .ref 103, .bool true, .int 181 0, .ref 104, .none, .ref 105, .ref 106, .ref 107, .int 329 0, .int 66 0, .str (Str.ofString "/claim/cut.py") 330] } : Obj)) ::
  (nat_lit 109, (fo (x := (body[16]?)) rfl (Str.ofString "atom_at") (Str.ofString "atom_at") (.none) (.str (Str.ofString "postkeep.tokens") 260) (.ref 108) : Obj)) ::
  (nat_lit 110, ({ cls := .type "tuple", data := .seq #[] } : Obj)) ::
  (nat_lit 112, ({ cls := .type "tuple", data := .seq #[.str (Str.ofString "data") 335, .str (Str.ofString "at") 336, .str (Str.ofString "sign") 337, .str (Str.ofString "worth") 338, .str (Str.ofString "behind") 339] } : Obj)) ::
  (nat_lit 113, ({ cls := .type "tuple", data := .seq #[] } : Obj)) ::
  (nat_lit 115, ({ cls := .type "code", data := .fields #[.str (Str.ofString "token_at") 332, .str (Str.ofString "token_at") 333, .str (Str.ofString "/claim/cut.py") 334, .int 71 0, .int 2 0, .int 0 0, .int 0 0, .int 3 0, .ref 110, .bool true, .int 181 0, .ref 111, .none, .ref 112, .ref 113, .ref 114, .int 340 0, .int 71 0, .str (Str.ofString "/claim/cut.py") 341] } : Obj)) ::
  (nat_lit 116, (fo (x := (body[17]?)) rfl (Str.ofString "token_at") (Str.ofString "token_at") (.none) (.str (Str.ofString "postkeep.tokens") 260) (.ref 115) : Obj)) ::
  (nat_lit 117, ({ cls := .type "tuple", data := .seq #[] } : Obj)) ::
  (nat_lit 119, ({ cls := .type "tuple", data := .seq #[.str (Str.ofString "data") 346, .str (Str.ofString "at") 347, .str (Str.ofString "behind") 348] } : Obj)) ::
  (nat_lit 120, ({ cls := .type "tuple", data := .seq #[] } : Obj)) ::
  (nat_lit 122, ({ cls := .type "code", data := .fields #[.str (Str.ofString "past_white") 343, .str (Str.ofString "past_white") 344, .str (Str.ofString "/claim/cut.py") 345, .int 88 0, .int 2 0, .int 0 0, .int 0 0, .int 3 0, .ref 117, .bool true, .int 181 0, .ref 118, .none, .ref 119, .ref 120, .ref 121, .int 349 0, .int 88 0, .str (Str.ofString "/claim/cut.py") 350] } : Obj)) ::
  (nat_lit 123, (fo (x := (body[18]?)) rfl (Str.ofString "past_white") (Str.ofString "past_white") (.none) (.str (Str.ofString "postkeep.tokens") 260) (.ref 122) : Obj)) ::
  (nat_lit 124, ({ cls := .type "tuple", data := .seq #[] } : Obj)) ::
  (nat_lit 126, ({ cls := .type "tuple", data := .seq #[.str (Str.ofString "octets") 355, .str (Str.ofString "found") 356, .str (Str.ofString "at") 357, .str (Str.ofString "token") 358] } : Obj)) ::
  (nat_lit 127, ({ cls := .type "tuple", data := .seq #[] } : Obj)) ::
  (nat_lit 129, ({ cls := .type "code", data := .fields #[.str (Str.ofString "tokens_of") 352, .str (Str.ofString "tokens_of") 353, .str (Str.ofString "/claim/cut.py") 354, .int 95 0, .int 1 0, .int 0 0, .int 0 0, .int 3 0, .ref 124, .bool true, .int 181 0, .ref 125, .none, .ref 126, .ref 127, .ref 128, .int 359 0, .int 95 0, .str (Str.ofString "/claim/cut.py") 360] } : Obj)) ::
  (nat_lit 130, (fo (x := (body[19]?)) rfl (Str.ofString "tokens_of") (Str.ofString "tokens_of") (.none) (.str (Str.ofString "postkeep.tokens") 260) (.ref 129) : Obj)) ::
  (nat_lit 131, ({ cls := .type "tuple", data := .seq #[] } : Obj)) ::
  (nat_lit 134, ({ cls := .type "code", data := .fields #[.str (Str.ofString "without_comments") 362, .str (Str.ofString "without_comments") 363, .str (Str.ofString "/claim/cut.py") 364, .int 103 0, .int 1 0, .int 0 0, .int 0 0, .int 3 0, .ref 131, .bool true, .int 181 0, .ref 132, .none, .none, .none, .ref 133, .int 365 0, .int 103 0, .str (Str.ofString "/claim/cut.py") 366] } : Obj)) ::
  (nat_lit 135, (fo (x := (body[20]?)) rfl (Str.ofString "without_comments") (Str.ofString "without_comments") (.none) (.str (Str.ofString "postkeep.tokens") 260) (.ref 134) : Obj)) ::
  (nat_lit 136, ({ cls := .type "tuple", data := .seq #[.str (Str.ofString "Jan") 370, .str (Str.ofString "Feb") 371, .str (Str.ofString "Mar") 372, .str (Str.ofString "Apr") 373, .str (Str.ofString "May") 374, .str (Str.ofString "Jun") 375, .str (Str.ofString "Jul") 376, .str (Str.ofString "Aug") 377, .str (Str.ofString "Sep") 378, .str (Str.ofString "Oct") 379, .str (Str.ofString "Nov") 380, .str (Str.ofString "Dec") 381] } : Obj)) ::
  (nat_lit 137, ({ cls := .type "tuple", data := .seq #[.str (Str.ofString "Mon") 383, .str (Str.ofString "Tue") 384, .str (Str.ofString "Wed") 385, .str (Str.ofString "Thu") 386, .str (Str.ofString "Fri") 387, .str (Str.ofString "Sat") 388, .str (Str.ofString "Sun") 389] } : Obj)) ::
  (nat_lit 145, ({ cls := .type "tuple", data := .seq #[] } : Obj)) ::
  (nat_lit 147, ({ cls := .type "tuple", data := .seq #[.str (Str.ofString "self") 418, .str (Str.ofString "year") 419, .str (Str.ofString "month") 420, .str (Str.ofString "day") 421, .str (Str.ofString "hour") 422, .str (Str.ofString "minute") 423, .str (Str.ofString "second") 424, .str (Str.ofString "zone") 425] } : Obj)) ::
  (nat_lit 148, ({ cls := .type "tuple", data := .seq #[] } : Obj)) ::
  (nat_lit 150, ({ cls := .type "code", data := .fields #[.str (Str.ofString "__init__") 415, .str (Str.ofString "Moment.__init__") 416, .str (Str.ofString "/claim/cut.py") 417, .int 114 0, .int 8 0, .int 0 0, .int 0 0, .int 3 0, .ref 145, .bool true, .int 181 0, .ref 146, .none, .ref 147, .ref 148, .ref 149, .int 426 0, .int 114 0, .str (Str.ofString "/claim/cut.py") 427] } : Obj)) ::
  (nat_lit 151, (fo (x := ((clsBody body[28]?)[0]?)) rfl (Str.ofString "__init__") (Str.ofString "Moment.__init__") (.none) (.str (Str.ofString "postkeep.dates") 368) (.ref 150) : Obj)) ::
  (nat_lit 152, ({ cls := .type "tuple", data := .seq #[] } : Obj)) ::
  (nat_lit 154, ({ cls := .type "tuple", data := .seq #[.str (Str.ofString "self") 432] } : Obj)) ::
  (nat_lit 155, ({ cls := .type "tuple", data := .seq #[] } : Obj)) ::
  (nat_lit 157, ({ cls := .type "code", data := .fields #[.str (Str.ofString "told") 429, .str (Str.ofString "Moment.told") 430, .str (Str.ofString "/claim/cut.py") 431, .int 123 0, .int 1 0, .int 0 0, .int 0 0, .int 3 0, .ref 152, .bool true, .int 181 0, .ref 153, .none, .ref 154, .ref 155, .ref 156, .int 433 0, .int 123 0, .str (Str.ofString "/claim/cut.py") 434] } : Obj)) ::
  (nat_lit 158, (fo (x := ((clsBody body[28]?)[1]?)) rfl (Str.ofString "told") (Str.ofString "Moment.told") (.none) (.str (Str.ofString "postkeep.dates") 368) (.ref 157) : Obj)) ::
  (nat_lit 159, ({ cls := .type "tuple", data := .seq #[.str (Str.ofString "day") 436, .str (Str.ofString "hour") 437, .str (Str.ofString "minute") 438, .str (Str.ofString "month") 439, .str (Str.ofString "second") 440, .str (Str.ofString "year") 441, .str (Str.ofString "zone") 442] } : Obj)) ::
  (nat_lit 160, ({ cls := .type "dict", data := .dict #[{ hash := PyData.keyHash P (Str.ofString "__module__"), key := .str (Str.ofString "__module__") 410, val := .str (Str.ofString "postkeep.dates") 368 }, { hash := PyData.keyHash P (Str.ofString "__firstlineno__"), key := .str (Str.ofString "__firstlineno__") 414, val := .int 112 413 }, { hash := PyData.keyHash P (Str.ofString "__init__"), key := .str (Str.ofString "__init__") 428, val := .ref 151 }, { hash := PyData.keyHash P (Str.ofString "told"), key := .str (Str.ofString "told") 435, val := .ref 158 }, { hash := PyData.keyHash P (Str.ofString "__static_attributes__"), key := .str (Str.ofString "__static_attributes__") 443, val := .ref 159 }, { hash := PyData.keyHash P (Str.ofString "__dict__"), key := .str (Str.ofString "__dict__") 445, val := .ref 162 }, { hash := PyData.keyHash P (Str.ofString "__weakref__"), key := .str (Str.ofString "__weakref__") 447, val := .ref 163 }, { hash := PyData.keyHash P (Str.ofString "__doc__"), key := .str (Str.ofString "__doc__") 448, val := .none }] 4 } : Obj)) ::
  (nat_lit 161, ({ cls := .type "type", data := .cls { name := Str.ofString "Moment", bases := [.type "object"], mro := [.ref 161, .type "object"], ns := 160, qualname := Str.ofString "Moment" }, slots := #[none, none, some (.str (Str.ofString "Moment") 403), some (.str (Str.ofString "Moment") 411), some (.builtin "object.__new__"), some (.bool true)] } : Obj)) ::
  (nat_lit 162, ({ cls := .type "getset_descriptor", data := .fields #[.str (Str.ofString "__dict__") 444, .ref 161, .builtin "function.__dict__", .builtin "function.__dict__#set"] } : Obj)) ::
  (nat_lit 163, ({ cls := .type "getset_descriptor", data := .fields #[.str (Str.ofString "__weakref__") 446, .ref 161, .builtin "ExceptionGroup.__weakref__", .none] } : Obj)) ::
  (nat_lit 166, ({ cls := .type "tuple", data := .seq #[] } : Obj)) ::
  (nat_lit 168, ({ cls := .type "tuple", data := .seq #[.str (Str.ofString "year") 454] } : Obj)) ::
  (nat_lit 169, ({ cls := .type "tuple", data := .seq #[] } : Obj)) ::
  (nat_lit 171, ({ cls := .type "code", data := .fields #[.str (Str.ofString "is_leap") 451, .str (Str.ofString "is_leap") 452, .str (Str.ofString "/claim/cut.py") 453, .int 125 0, .int 1 0, .int 0 0, .int 0 0, .int 3 0, .ref 166, .bool true, .int 181 0, .ref 167, .none, .ref 168, .ref 169, .ref 170, .int 455 0, .int 125 0, .str (Str.ofString "/claim/cut.py") 456] } : Obj)) ::
  (nat_lit 172, (fo (x := (body[29]?)) rfl (Str.ofString "is_leap") (Str.ofString "is_leap") (.none) (.str (Str.ofString "postkeep.dates") 368) (.ref 171) : Obj)) ::
  (nat_lit 173, ({ cls := .type "tuple", data := .seq #[] } : Obj)) ::
  (nat_lit 175, ({ cls := .type "tuple", data := .seq #[.str (Str.ofString "year") 461, .str (Str.ofString "month") 462] } : Obj)) ::
  (nat_lit 176, ({ cls := .type "tuple", data := .seq #[] } : Obj)) ::
  (nat_lit 178, ({ cls := .type "code", data := .fields #[.str (Str.ofString "month_length") 458, .str (Str.ofString "month_length") 459, .str (Str.ofString "/claim/cut.py") 460, .int 127 0, .int 2 0, .int 0 0, .int 0 0, .int 3 0, .ref 173, .bool true, .int 181 0, .ref 174, .none, .ref 175, .ref 176, .ref 177, .int 463 0, .int 127 0, .str (Str.ofString "/claim/cut.py") 464] } : Obj)) ::
  (nat_lit 179, (fo (x := (body[30]?)) rfl (Str.ofString "month_length") (Str.ofString "month_length") (.none) (.str (Str.ofString "postkeep.dates") 368) (.ref 178) : Obj)) ::
  (nat_lit 180, ({ cls := .type "tuple", data := .seq #[] } : Obj)) ::
  (nat_lit 182, ({ cls := .type "tuple", data := .seq #[.str (Str.ofString "year") 469, .str (Str.ofString "past") 470] } : Obj)) ::
  (nat_lit 183, ({ cls := .type "tuple", data := .seq #[] } : Obj)) ::
  (nat_lit 185, ({ cls := .type "code", data := .fields #[.str (Str.ofString "days_before_year") 466, .str (Str.ofString "days_before_year") 467, .str (Str.ofString "/claim/cut.py") 468, .int 131 0, .int 1 0, .int 0 0, .int 0 0, .int 3 0, .ref 180, .bool true, .int 181 0, .ref 181, .none, .ref 182, .ref 183, .ref 184, .int 471 0, .int 131 0, .str (Str.ofString "/claim/cut.py") 472] } : Obj)) ::
  (nat_lit 186, (fo (x := (body[31]?)) rfl (Str.ofString "days_before_year") (Str.ofString "days_before_year") (.none) (.str (Str.ofString "postkeep.dates") 368) (.ref 185) : Obj)) ::
  (nat_lit 187, ({ cls := .type "tuple", data := .seq #[] } : Obj)) ::
  (nat_lit 189, ({ cls := .type "tuple", data := .seq #[.str (Str.ofString "year") 477, .str (Str.ofString "month") 478, .str (Str.ofString "day") 479, .str (Str.ofString "total") 480, .str (Str.ofString "earlier") 481] } : Obj)) ::
  (nat_lit 190, ({ cls := .type "tuple", data := .seq #[] } : Obj)) ::
  (nat_lit 192, ({ cls := .type "code", data := .fields #[.str (Str.ofString "day_number") 474, .str (Str.ofString "day_number") 475, .str (Str.ofString "/claim/cut.py") 476, .int 134 0, .int 3 0, .int 0 0, .int 0 0, .int 3 0, .ref 187, .bool true, .int 181 0, .ref 188, .none, .ref 189, .ref 190, .ref 191, .int 482 0, .int 134 0, .str (Str.ofString "/claim/cut.py") 483] } : Obj)) ::
  (nat_lit 193, (fo (x := (body[32]?)) rfl (Str.ofString "day_number") (Str.ofString "day_number") (.none) (.str (Str.ofString "postkeep.dates") 368) (.ref 192) : Obj)) ::
  (nat_lit 194, ({ cls := .type "tuple", data := .seq #[] } : Obj)) ::
  (nat_lit 196, ({ cls := .type "tuple", data := .seq #[.str (Str.ofString "number") 488, .str (Str.ofString "days") 489, .str (Str.ofString "year") 490, .str (Str.ofString "rest") 491, .str (Str.ofString "month") 492] } : Obj)) ::
  (nat_lit 197, ({ cls := .type "tuple", data := .seq #[] } : Obj)) ::
  (nat_lit 199, ({ cls := .type "code", data := .fields #[.str (Str.ofString "day_told") 485, .str (Str.ofString "day_told") 486, .str (Str.ofString "/claim/cut.py") 487, .int 139 0, .int 1 0, .int 0 0, .int 0 0, .int 3 0, .ref 194, .bool true, .int 181 0, .ref 195, .none, .ref 196, .ref 197, .ref 198, .int 493 0, .int 139 0, .str (Str.ofString "/claim/cut.py") 494] } : Obj)) ::
  (nat_lit 200, (fo (x := (body[33]?)) rfl (Str.ofString "day_told") (Str.ofString "day_told") (.none) (.str (Str.ofString "postkeep.dates") 368) (.ref 199) : Obj)) ::
  (nat_lit 201, ({ cls := .type "tuple", data := .seq #[] } : Obj)) ::
  (nat_lit 203, ({ cls := .type "tuple", data := .seq #[.str (Str.ofString "year") 499, .str (Str.ofString "month") 500, .str (Str.ofString "day") 501] } : Obj)) ::
  (nat_lit 204, ({ cls := .type "tuple", data := .seq #[] } : Obj)) ::
  (nat_lit 206, ({ cls := .type "code", data := .fields #[.str (Str.ofString "is_day") 496, .str (Str.ofString "is_day") 497, .str (Str.ofString "/claim/cut.py") 498, .int 152 0, .int 3 0, .int 0 0, .int 0 0, .int 3 0, .ref 201, .bool true, .int 181 0, .ref 202, .none, .ref 203, .ref 204, .ref 205, .int 502 0, .int 152 0, .str (Str.ofString "/claim/cut.py") 503] } : Obj)) ::
  (nat_lit 207, (fo (x := (body[34]?)) rfl (Str.ofString "is_day") (Str.ofString "is_day") (.none) (.str (Str.ofString "postkeep.dates") 368) (.ref 206) : Obj)) ::
  (nat_lit 208, ({ cls := .type "tuple", data := .seq #[] } : Obj)) ::
  (nat_lit 210, ({ cls := .type "tuple", data := .seq #[.str (Str.ofString "hour") 508, .str (Str.ofString "minute") 509, .str (Str.ofString "second") 510] } : Obj)) ::
  (nat_lit 211, ({ cls := .type "tuple", data := .seq #[] } : Obj)) ::
  (nat_lit 213, ({ cls := .type "code", data := .fields #[.str (Str.ofString "is_time") 505, .str (Str.ofString "is_time") 506, .str (Str.ofString "/claim/cut.py") 507, .int 154 0, .int 3 0, .int 0 0, .int 0 0, .int 3 0, .ref 208, .bool true, .int 181 0, .ref 209, .none, .ref 210, .ref 211, .ref 212, .int 511 0, .int 154 0, .str (Str.ofString "/claim/cut.py") 512] } : Obj)) ::
  (nat_lit 214, (fo (x := (body[35]?)) rfl (Str.ofString "is_time") (Str.ofString "is_time") (.none) (.str (Str.ofString "postkeep.dates") 368) (.ref 213) : Obj)) ::
  (nat_lit 215, ({ cls := .type "tuple", data := .seq #[] } : Obj)) ::
  (nat_lit 217, ({ cls := .type "tuple", data := .seq #[.str (Str.ofString "moment") 517, .str (Str.ofString "is_right") 518] } : Obj)) ::
  (nat_lit 218, ({ cls := .type "tuple", data := .seq #[] } : Obj)) ::
  (nat_lit 220, ({ cls := .type "code", data := .fields #[.str (Str.ofString "check_moment") 514, .str (Str.ofString "check_moment") 515, .str (Str.ofString "/claim/cut.py") 516, .int 156 0, .int 1 0, .int 0 0, .int 0 0, .int 3 0, .ref 215, .bool true, .int 181 0, .ref 216, .none, .ref 217, .ref 218, .ref 219, .int 519 0, .int 156 0, .str (Str.ofString "/claim/cut.py") 520] } : Obj)) ::
  (nat_lit 221, (fo (x := (body[36]?)) rfl (Str.ofString "check_moment") (Str.ofString "check_moment") (.none) (.str (Str.ofString "postkeep.dates") 368) (.ref 220) : Obj)) ::
  (nat_lit 222, ({ cls := .type "tuple", data := .seq #[] } : Obj)) ::
  (nat_lit 224, ({ cls := .type "tuple", data := .seq #[.str (Str.ofString "moment") 525, .str (Str.ofString "days") 526] } : Obj)) ::
  (nat_lit 225, ({ cls := .type "tuple", data := .seq #[] } : Obj)) ::
  (nat_lit 227, ({ cls := .type "code", data := .fields #[.str (Str.ofString "instant_of") 522, .str (Str.ofString "instant_of") 523, .str (Str.ofString "/claim/cut.py") 524, .int 160 0, .int 1 0, .int 0 0, .int 0 0, .int 3 0, .ref 222, .bool true, .int 181 0, .ref 223, .none, .ref 224, .ref 225, .ref 226, .int 527 0, .int 160 0, .str (Str.ofString "/claim/cut.py") 528] } : Obj)) ::
  (nat_lit 228, (fo (x := (body[37]?)) rfl (Str.ofString "instant_of") (Str.ofString "instant_of") (.none) (.str (Str.ofString "postkeep.dates") 368) (.ref 227) : Obj)) ::
  (nat_lit 229, ({ cls := .type "tuple", data := .seq #[.int 0 530] } : Obj)) ::
  (nat_lit 230, ({ cls := .type "tuple", data := .seq #[] } : Obj)) ::
  (nat_lit 232, ({ cls := .type "tuple", data := .seq #[.str (Str.ofString "seconds") 534, .str (Str.ofString "zone") 535, .str (Str.ofString "local") 536, .str (Str.ofString "rest") 537, .str (Str.ofString "year") 538, .str (Str.ofString "month") 539, .str (Str.ofString "day") 540, .str (Str.ofString "found") 541] } : Obj)) ::
  (nat_lit 233, ({ cls := .type "tuple", data := .seq #[] } : Obj)) ::
  (nat_lit 235, ({ cls := .type "code", data := .fields #[.str (Str.ofString "moment_of") 531, .str (Str.ofString "moment_of") 532, .str (Str.ofString "/claim/cut.py") 533, .int 163 0, .int 2 0, .int 0 0, .int 0 0, .int 3 0, .ref 230, .bool true, .int 181 0, .ref 231, .none, .ref 232, .ref 233, .ref 234, .int 542 0, .int 163 0, .str (Str.ofString "/claim/cut.py") 543] } : Obj)) ::
  (nat_lit 236, (fo (x := (body[38]?)) rfl (Str.ofString "moment_of") (Str.ofString "moment_of") (.ref 229) (.str (Str.ofString "postkeep.dates") 368) (.ref 235) : Obj)) ::
  (nat_lit 237, ({ cls := .type "tuple", data := .seq #[] } : Obj)) ::
  (nat_lit 240, ({ cls := .type "code", data := .fields #[.str (Str.ofString "month_number") 545, .str (Str.ofString "month_number") 546, .str (Str.ofString "/claim/cut.py") 547, .int 170 0, .int 1 0, .int 0 0, .int 0 0, .int 3 0, .ref 237, .bool true, .int 181 0, .ref 238, .none, .none, .none, .ref 239, .int 548 0, .int 170 0, .str (Str.ofString "/claim/cut.py") 549] } : Obj)) ::
  (nat_lit 241, (fo (x := (body[39]?)) rfl (Str.ofString "month_number") (Str.ofString "month_number") (.none) (.str (Str.ofString "postkeep.dates") 368) (.ref 240) : Obj)) ::
  (nat_lit 242, ({ cls := .type "tuple", data := .seq #[] } : Obj)) ::
  (nat_lit 245, ({ cls := .type "code", data := .fields #[.str (Str.ofString "is_day_name") 551, .str (Str.ofString "is_day_name") 552, .str (Str.ofString "/claim/cut.py") 553, .int 173 0, .int 1 0, .int 0 0, .int 0 0, .int 3 0, .ref 242, .bool true, .int 181 0, .ref 243, .none, .none, .none, .ref 244, .int 554 0, .int 173 0, .str (Str.ofString "/claim/cut.py") 555] } : Obj)) ::
  (nat_lit 246, (fo (x := (body[40]?)) rfl (Str.ofString "is_day_name") (Str.ofString "is_day_name") (.none) (.str (Str.ofString "postkeep.dates") 368) (.ref 245) : Obj)) ::
  (nat_lit 247, ({ cls := .type "tuple", data := .seq #[] } : Obj)) ::
  (nat_lit 250, ({ cls := .type "code", data := .fields #[.str (Str.ofString "is_figures") 557, .str (Str.ofString "is_figures") 558, .str (Str.ofString "/claim/cut.py") 559, .int 175 0, .int 1 0, .int 0 0, .int 0 0, .int 3 0, .ref 247, .bool true, .int 181 0, .ref 248, .none, .none, .none, .ref 249, .int 560 0, .int 175 0, .str (Str.ofString "/claim/cut.py") 561] } : Obj)) ::
  (nat_lit 251, (fo (x := (body[41]?)) rfl (Str.ofString "is_figures") (Str.ofString "is_figures") (.none) (.str (Str.ofString "postkeep.dates") 368) (.ref 250) : Obj)) ::
  (nat_lit 252, ({ cls := .type "tuple", data := .seq #[] } : Obj)) ::
  (nat_lit 254, ({ cls := .type "tuple", data := .seq #[.str (Str.ofString "text") 566, .str (Str.ofString "minutes") 567] } : Obj)) ::
  (nat_lit 255, ({ cls := .type "tuple", data := .seq #[] } : Obj)) ::
  (nat_lit 257, ({ cls := .type "code", data := .fields #[.str (Str.ofString "zone_in") 563, .str (Str.ofString "zone_in") 564, .str (Str.ofString "/claim/cut.py") 565, .int 177 0, .int 1 0, .int 0 0, .int 0 0, .int 3 0, .ref 252, .bool true, .int 181 0, .ref 253, .none, .ref 254, .ref 255, .ref 256, .int 568 0, .int 177 0, .str (Str.ofString "/claim/cut.py") 569] } : Obj)) ::
  (nat_lit 258, (fo (x := (body[42]?)) rfl (Str.ofString "zone_in") (Str.ofString "zone_in") (.none) (.str (Str.ofString "postkeep.dates") 368) (.ref 257) : Obj)) ::
  (nat_lit 259, ({ cls := .type "tuple", data := .seq #[] } : Obj)) ::
  (nat_lit 262, ({ cls := .type "code", data := .fields #[.str (Str.ofString "named_zone") 571, .str (Str.ofString "named_zone") 572, .str (Str.ofString "/claim/cut.py") 573, .int 182 0, .int 1 0, .int 0 0, .int 0 0, .int 3 0, .ref 259, .bool true, .int 181 0, .ref 260, .none, .none, .none, .ref 261, .int 574 0, .int 182 0, .str (Str.ofString "/claim/cut.py") 575] } : Obj)) ::
  (nat_lit 263, (fo (x := (body[43]?)) rfl (Str.ofString "named_zone") (Str.ofString "named_zone") (.none) (.str (Str.ofString "postkeep.dates") 368) (.ref 262) : Obj)) ::
  (nat_lit 271, ({ cls := .type "tuple", data := .seq #[] } : Obj)) ::
  (nat_lit 273, ({ cls := .type "tuple", data := .seq #[.str (Str.ofString "self") 592, .str (Str.ofString "octets") 593] } : Obj)) ::
  (nat_lit 274, ({ cls := .type "tuple", data := .seq #[] } : Obj)) ::
  (nat_lit 276, ({ cls := .type "code", data := .fields #[.str (Str.ofString "__init__") 589, .str (Str.ofString "DateReader.__init__") 590, .str (Str.ofString "/claim/cut.py") 591, .int 189 0, .int 2 0, .int 0 0, .int 0 0, .int 3 0, .ref 271, .bool true, .int 181 0, .ref 272, .none, .ref 273, .ref 274, .ref 275, .int 594 0, .int 189 0, .str (Str.ofString "/claim/cut.py") 595] } : Obj)) ::
  (nat_lit 277, (fo (x := ((clsBody body[44]?)[0]?)) rfl (Str.ofString "__init__") (Str.ofString "DateReader.__init__") (.none) (.str (Str.ofString "postkeep.dates") 368) (.ref 276) : Obj)) ::
  (nat_lit 278, ({ cls := .type "tuple", data := .seq #[] } : Obj)) ::
  (nat_lit 280, ({ cls := .type "tuple", data := .seq #[.str (Str.ofString "self") 600] } : Obj)) ::
  (nat_lit 281, ({ cls := .type "tuple", data := .seq #[] } : Obj)) ::
  (nat_lit 283, ({ cls := .type "code", data := .fields #[.str (Str.ofString "place") 597, .str (Str.ofString "DateReader.place") 598, .str (Str.ofString "/claim/cut.py") 599, .int 194 0, .int 1 0, .int 0 0, .int 0 0, .int 3 0, .ref 278, .bool true, .int 181 0, .ref 279, .none, .ref 280, .ref 281, .ref 282, .int 601 0, .int 194 0, .str (Str.ofString "/claim/cut.py") 602] } : Obj)) ::
  (nat_lit 284, (fo (x := ((clsBody body[44]?)[1]?)) rfl (Str.ofString "place") (Str.ofString "DateReader.place") (.none) (.str (Str.ofString "postkeep.dates") 368) (.ref 283) : Obj)) ::
  (nat_lit 285, ({ cls := .type "tuple", data := .seq #[] } : Obj)) ::
  (nat_lit 288, ({ cls := .type "code", data := .fields #[.str (Str.ofString "atom") 604, .str (Str.ofString "DateReader.atom") 605, .str (Str.ofString "/claim/cut.py") 606, .int 197 0, .int 1 0, .int 0 0, .int 0 0, .int 3 0, .ref 285, .bool true, .int 181 0, .ref 286, .none, .none, .none, .ref 287, .int 607 0, .int 197 0, .str (Str.ofString "/claim/cut.py") 608] } : Obj)) ::
  (nat_lit 289, (fo (x := ((clsBody body[44]?)[2]?)) rfl (Str.ofString "atom") (Str.ofString "DateReader.atom") (.none) (.str (Str.ofString "postkeep.dates") 368) (.ref 288) : Obj)) ::
  (nat_lit 290, ({ cls := .type "tuple", data := .seq #[] } : Obj)) ::
  (nat_lit 292, ({ cls := .type "tuple", data := .seq #[.str (Str.ofString "self") 613, .str (Str.ofString "sign") 614] } : Obj)) ::
  (nat_lit 293, ({ cls := .type "tuple", data := .seq #[] } : Obj)) ::
  (nat_lit 295, ({ cls := .type "code", data := .fields #[.str (Str.ofString "skip") 610, .str (Str.ofString "DateReader.skip") 611, .str (Str.ofString "/claim/cut.py") 612, .int 202 0, .int 2 0, .int 0 0, .int 0 0, .int 3 0, .ref 290, .bool true, .int 181 0, .ref 291, .none, .ref 292, .ref 293, .ref 294, .int 615 0, .int 202 0, .str (Str.ofString "/claim/cut.py") 616] } : Obj)) ::
  (nat_lit 296, (fo (x := ((clsBody body[44]?)[3]?)) rfl (Str.ofString "skip") (Str.ofString "DateReader.skip") (.none) (.str (Str.ofString "postkeep.dates") 368) (.ref 295) : Obj)) ::
  (nat_lit 297, ({ cls := .type "tuple", data := .seq #[] } : Obj)) ::
  (nat_lit 299, ({ cls := .type "tuple", data := .seq #[.str (Str.ofString "self") 621, .str (Str.ofString "least_figures") 622, .str (Str.ofString "most_figures") 623, .str (Str.ofString "text") 624] } : Obj)) ::
  (nat_lit 300, ({ cls := .type "tuple", data := .seq #[] } : Obj)) ::
  (nat_lit 302, ({ cls := .type "code", data := .fields #[.str (Str.ofString "number") 618, .str (Str.ofString "DateReader.number") 619, .str (Str.ofString "/claim/cut.py") 620, .int 208 0, .int 3 0, .int 0 0, .int 0 0, .int 3 0, .ref 297, .bool true, .int 181 0, .ref 298, .none, .ref 299, .ref 300, .ref 301, .int 625 0, .int 208 0, .str (Str.ofString "/claim/cut.py") 626] } : Obj)) ::
  (nat_lit 303, (fo (x := ((clsBody body[44]?)[4]?)) rfl (Str.ofString "number") (Str.ofString "DateReader.number") (.none) (.str (Str.ofString "postkeep.dates") 368) (.ref 302) : Obj)) ::
  (nat_lit 304, ({ cls := .type "tuple", data := .seq #[] } : Obj)) ::
  (nat_lit 306, ({ cls := .type "tuple", data := .seq #[.str (Str.ofString "self") 631, .str (Str.ofString "is_right") 632, .str (Str.ofString "what") 633] } : Obj)) ::
  (nat_lit 307, ({ cls := .type "tuple", data := .seq #[] } : Obj)) ::
  (nat_lit 309, ({ cls := .type "code", data := .fields #[.str (Str.ofString "need") 628, .str (Str.ofString "DateReader.need") 629, .str (Str.ofString "/claim/cut.py") 630, .int 215 0, .int 3 0, .int 0 0, .int 0 0, .int 3 0, .ref 304, .bool true, .int 181 0, .ref 305, .none, .ref 306, .ref 307, .ref 308, .int 634 0, .int 215 0, .str (Str.ofString "/claim/cut.py") 635] } : Obj)) ::
  (nat_lit 310, (fo (x := ((clsBody body[44]?)[5]?)) rfl (Str.ofString "need") (Str.ofString "DateReader.need") (.none) (.str (Str.ofString "postkeep.dates") 368) (.ref 309) : Obj)) ::
  (nat_lit 311, ({ cls := .type "tuple", data := .seq #[.str (Str.ofString "at") 637, .str (Str.ofString "length") 638, .str (Str.ofString "tokens") 639] } : Obj)) ::
  (nat_lit 312, ({ cls := .type "dict", data := .dict #[{ hash := PyData.keyHash P (Str.ofString "__module__"), key := .str (Str.ofString "__module__") 584, val := .str (Str.ofString "postkeep.dates") 368 }, { hash := PyData.keyHash P (Str.ofString "__firstlineno__"), key := .str (Str.ofString "__firstlineno__") 588, val := .int 187 587 }, { hash := PyData.keyHash P (Str.ofString "__init__"), key := .str (Str.ofString "__init__") 596, val := .ref 277 }, { hash := PyData.keyHash P (Str.ofString "place"), key := .str (Str.ofString "place") 603, val := .ref 284 }, { hash := PyData.keyHash P (Str.ofString "atom"), key := .str (Str.ofString "atom") 609, val := .ref 289 }, { hash := PyData.keyHash P (Str.ofString "skip"), key := .str (Str.ofString "skip") 617, val := .ref 296 }, { hash := PyData.keyHash P (Str.ofString "number"), key := .str (Str.ofString "number") 627, val := .ref 303 }, { hash := PyData.keyHash P (Str.ofString "need"), key := .str (Str.ofString "need") 636, val := .ref 310 }, { hash := PyData.keyHash P (Str.ofString "__static_attributes__"), key := .str (Str.ofString "__static_attributes__") 640, val := .ref 311 }, { hash := PyData.keyHash P (Str.ofString "__dict__"), key := .str (Str.ofString "__dict__") 642, val := .ref 314 }, { hash := PyData.keyHash P (Str.ofString "__weakref__"), key := .str (Str.ofString "__weakref__") 644, val := .ref 315 }, { hash := PyData.keyHash P (Str.ofString "__doc__"), key := .str (Str.ofString "__doc__") 645, val := .none }] 4 } : Obj)) ::
  (nat_lit 313, ({ cls := .type "type", data := .cls { name := Str.ofString "DateReader", bases := [.type "object"], mro := [.ref 313, .type "object"], ns := 312, qualname := Str.ofString "DateReader" }, slots := #[none, none, some (.str (Str.ofString "DateReader") 577), some (.str (Str.ofString "DateReader") 585), some (.builtin "object.__new__"), some (.bool true)] } : Obj)) ::
  (nat_lit 314, ({ cls := .type "getset_descriptor", data := .fields #[.str (Str.ofString "__dict__") 641, .ref 313, .builtin "function.__dict__", .builtin "function.__dict__#set"] } : Obj)) ::
  (nat_lit 315, ({ cls := .type "getset_descriptor", data := .fields #[.str (Str.ofString "__weakref__") 643, .ref 313, .builtin "ExceptionGroup.__weakref__", .none] } : Obj)) ::
  (nat_lit 318, ({ cls := .type "tuple", data := .seq #[] } : Obj)) ::
  (nat_lit 320, ({ cls := .type "tuple", data := .seq #[.str (Str.ofString "number") 651, .str (Str.ofString "figures") 652] } : Obj)) ::
  (nat_lit 321, ({ cls := .type "tuple", data := .seq #[] } : Obj)) ::
  (nat_lit 323, ({ cls := .type "code", data := .fields #[.str (Str.ofString "full_year") 648, .str (Str.ofString "full_year") 649, .str (Str.ofString "/claim/cut.py") 650, .int 219 0, .int 2 0, .int 0 0, .int 0 0, .int 3 0, .ref 318, .bool true, .int 181 0, .ref 319, .none, .ref 320, .ref 321, .ref 322, .int 653 0, .int 219 0, .str (Str.ofString "/claim/cut.py") 654] } : Obj)) ::
  (nat_lit 324, (fo (x := (body[45]?)) rfl (Str.ofString "full_year") (Str.ofString "full_year") (.none) (.str (Str.ofString "postkeep.dates") 368) (.ref 323) : Obj)) ::
  (nat_lit 325, ({ cls := .type "tuple", data := .seq #[] } : Obj)) ::
  (nat_lit 327, ({ cls := .type "tuple", data := .seq #[.str (Str.ofString "reader") 659, .str (Str.ofString "hour") 660, .str (Str.ofString "minute") 661, .str (Str.ofString "second") 662] } : Obj)) ::
  (nat_lit 328, ({ cls := .type "tuple", data := .seq #[] } : Obj)) ::
  (nat_lit 330, ({ cls := .type "code", data := .fields #[.str (Str.ofString "read_clock") 656, .str (Str.ofString "read_clock") 657, .str (Str.ofString "/claim/cut.py") 658, .int 223 0, .int 1 0, .int 0 0, .int 0 0, .int 3 0, .ref 325, .bool true, .int 181 0, .ref 326, .none, .ref 327, .ref 328, .ref 329, .int 663 0, .int 223 0, .str (Str.ofString "/claim/cut.py") 664] } : Obj)) ::
  (nat_lit 331, (fo (x := (body[46]?)) rfl (Str.ofString "read_clock") (Str.ofString "read_clock") (.none) (.str (Str.ofString "postkeep.dates") 368) (.ref 330) : Obj)) ::
  (nat_lit 332, ({ cls := .type "tuple", data := .seq #[] } : Obj)) ::
  (nat_lit 334, ({ cls := .type "tuple", data := .seq #[.str (Str.ofString "reader") 669, .str (Str.ofString "text") 670, .str (Str.ofString "zone") 671] } : Obj)) ::
  (nat_lit 335, ({ cls := .type "tuple", data := .seq #[] } : Obj)) ::
  (nat_lit 337, ({ cls := .type "code", data := .fields #[.str (Str.ofString "read_zone") 666, .str (Str.ofString "read_zone") 667, .str (Str.ofString "/claim/cut.py") 668, .int 230 0, .int 1 0, .int 0 0, .int 0 0, .int 3 0, .ref 332, .bool true, .int 181 0, .ref 333, .none, .ref 334, .ref 335, .ref 336, .int 672 0, .int 230 0, .str (Str.ofString "/claim/cut.py") 673] } : Obj)) ::
  (nat_lit 338, (fo (x := (body[47]?)) rfl (Str.ofString "read_zone") (Str.ofString "read_zone") (.none) (.str (Str.ofString "postkeep.dates") 368) (.ref 337) : Obj)) ::
  (nat_lit 339, ({ cls := .type "tuple", data := .seq #[] } : Obj)) ::
  (nat_lit 341, ({ cls := .type "tuple", data := .seq #[.str (Str.ofString "octets") 678, .str (Str.ofString "reader") 679, .str (Str.ofString "begun") 680, .str (Str.ofString "day") 681, .str (Str.ofString "month") 682, .str (Str.ofString "number") 683, .str (Str.ofString "figures") 684, .str (Str.ofString "year") 685, .str (Str.ofString "hour") 686, .str (Str.ofString "minute") 687, .str (Str.ofString "second") 688, .str (Str.ofString "zone") 689] } : Obj)) ::
  (nat_lit 342, ({ cls := .type "tuple", data := .seq #[] } : Obj)) ::
  (nat_lit 344, ({ cls := .type "code", data := .fields #[.str (Str.ofString "read_date") 675, .str (Str.ofString "read_date") 676, .str (Str.ofString "/claim/cut.py") 677, .int 237 0, .int 1 0, .int 0 0, .int 0 0, .int 3 0, .ref 339, .bool true, .int 181 0, .ref 340, .none, .ref 341, .ref 342, .ref 343, .int 690 0, .int 237 0, .str (Str.ofString "/claim/cut.py") 691] } : Obj)) ::
  (nat_lit 345, (fo (x := (body[48]?)) rfl (Str.ofString "read_date") (Str.ofString "read_date") (.none) (.str (Str.ofString "postkeep.dates") 368) (.ref 344) : Obj)) ::
  (nat_lit 346, ({ cls := .type "tuple", data := .seq #[.str (Str.ofString "ut") 697, .str (Str.ofString "gmt") 698, .str (Str.ofString "est") 699, .str (Str.ofString "edt") 700, .str (Str.ofString "cst") 701, .str (Str.ofString "cdt") 702, .str (Str.ofString "mst") 703, .str (Str.ofString "mdt") 704, .str (Str.ofString "pst") 705, .str (Str.ofString "pdt") 706] } : Obj)) ::
  (nat_lit 347, ({ cls := .type "tuple", data := .seq #[.str (Str.ofString " ") 708, .str (Str.ofString "(PDT)") 709, .str (Str.ofString " (a (b) \\) )\x0d\n ") 710, .str (Str.ofString "\t") 711, .str (Str.ofString "\x0d\n ") 712, .str (Str.ofString "  ") 713] } : Obj)) ::
  (nat_lit 348, ({ cls := .type "tuple", data := .seq #[.str (Str.ofString "Mar") 715, .str (Str.ofString "Apr") 716, .str (Str.ofString "May") 717, .str (Str.ofString "Jun") 718, .str (Str.ofString "Jul") 719, .str (Str.ofString "Aug") 720, .str (Str.ofString "Sep") 721, .str (Str.ofString "Oct") 722, .str (Str.ofString "Nov") 723, .str (Str.ofString "Dec") 724, .str (Str.ofString "Jan") 725, .str (Str.ofString "Feb") 726] } : Obj)) ::
  (nat_lit 349, ({ cls := .type "tuple", data := .seq #[] } : Obj)) ::
  (nat_lit 352, ({ cls := .type "code", data := .fields #[.str (Str.ofString "_law_reel") 728, .str (Str.ofString "_law_reel") 729, .str (Str.ofString "/claim/cut.py") 730, .int 263 0, .int 1 0, .int 0 0, .int 0 0, .int 3 0, .ref 349, .bool true, .int 181 0, .ref 350, .none, .none, .none, .ref 351, .int 731 0, .int 263 0, .str (Str.ofString "/claim/cut.py") 732] } : Obj)) ::
  (nat_lit 353, (fo (x := (body[54]?)) rfl (Str.ofString "_law_reel") (Str.ofString "_law_reel") (.none) (.str (Str.ofString "law_pq0941_01") 693) (.ref 352) : Obj)) ::
  (nat_lit 354, ({ cls := .type "tuple", data := .seq #[] } : Obj)) ::
  (nat_lit 356, ({ cls := .type "tuple", data := .seq #[.str (Str.ofString "reel") 737, .str (Str.ofString "most") 738, .str (Str.ofString "digit") 739] } : Obj)) ::
  (nat_lit 357, ({ cls := .type "tuple", data := .seq #[] } : Obj)) ::
  (nat_lit 359, ({ cls := .type "code", data := .fields #[.str (Str.ofString "_law_draw") 734, .str (Str.ofString "_law_draw") 735, .str (Str.ofString "/claim/cut.py") 736, .int 266 0, .int 2 0, .int 0 0, .int 0 0, .int 3 0, .ref 354, .bool true, .int 181 0, .ref 355, .none, .ref 356, .ref 357, .ref 358, .int 740 0, .int 266 0, .str (Str.ofString "/claim/cut.py") 741] } : Obj)) ::
  (nat_lit 360, (fo (x := (body[55]?)) rfl (Str.ofString "_law_draw") (Str.ofString "_law_draw") (.none) (.str (Str.ofString "law_pq0941_01") 693) (.ref 359) : Obj)) ::
  (nat_lit 361, ({ cls := .type "tuple", data := .seq #[] } : Obj)) ::
  (nat_lit 364, ({ cls := .type "code", data := .fields #[.str (Str.ofString "_law_cased") 743, .str (Str.ofString "_law_cased") 744, .str (Str.ofString "/claim/cut.py") 745, .int 276 0, .int 2 0, .int 0 0, .int 0 0, .int 3 0, .ref 361, .bool true, .int 181 0, .ref 362, .none, .none, .none, .ref 363, .int 746 0, .int 276 0, .str (Str.ofString "/claim/cut.py") 747] } : Obj)) ::
  (nat_lit 365, (fo (x := (body[56]?)) rfl (Str.ofString "_law_cased") (Str.ofString "_law_cased") (.none) (.str (Str.ofString "law_pq0941_01") 693) (.ref 364) : Obj)) ::
  (nat_lit 366, ({ cls := .type "tuple", data := .seq #[] } : Obj)) ::
  (nat_lit 368, ({ cls := .type "tuple", data := .seq #[.str (Str.ofString "word") 752] } : Obj)) ::
  (nat_lit 369, ({ cls := .type "tuple", data := .seq #[] } : Obj)) ::
  (nat_lit 371, ({ cls := .type "code", data := .fields #[.str (Str.ofString "_law_minutes") 749, .str (Str.ofString "_law_minutes") 750, .str (Str.ofString "/claim/cut.py") 751, .int 279 0, .int 1 0, .int 0 0, .int 0 0, .int 3 0, .ref 366, .bool true, .int 181 0, .ref 367, .none, .ref 368, .ref 369, .ref 370, .int 753 0, .int 279 0, .str (Str.ofString "/claim/cut.py") 754] } : Obj)) ::
  (nat_lit 372, (fo (x := (body[57]?)) rfl (Str.ofString "_law_minutes") (Str.ofString "_law_minutes") (.none) (.str (Str.ofString "law_pq0941_01") 693) (.ref 371) : Obj)) ::
  (nat_lit 373, ({ cls := .type "tuple", data := .seq #[] } : Obj)) ::
  (nat_lit 375, ({ cls := .type "tuple", data := .seq #[.str (Str.ofString "number") 759] } : Obj)) ::
  (nat_lit 376, ({ cls := .type "tuple", data := .seq #[] } : Obj)) ::
  (nat_lit 378, ({ cls := .type "code", data := .fields #[.str (Str.ofString "_law_two") 756, .str (Str.ofString "_law_two") 757, .str (Str.ofString "/claim/cut.py") 758, .int 283 0, .int 1 0, .int 0 0, .int 0 0, .int 3 0, .ref 373, .bool true, .int 181 0, .ref 374, .none, .ref 375, .ref 376, .ref 377, .int 760 0, .int 283 0, .str (Str.ofString "/claim/cut.py") 761] } : Obj)) ::
  (nat_lit 379, (fo (x := (body[58]?)) rfl (Str.ofString "_law_two") (Str.ofString "_law_two") (.none) (.str (Str.ofString "law_pq0941_01") 693) (.ref 378) : Obj)) ::
  (nat_lit 380, ({ cls := .type "tuple", data := .seq #[] } : Obj)) ::
  (nat_lit 382, ({ cls := .type "tuple", data := .seq #[.str (Str.ofString "seconds") 766, .str (Str.ofString "days") 767, .str (Str.ofString "rest") 768, .str (Str.ofString "era") 769, .str (Str.ofString "day") 770, .str (Str.ofString "year") 771, .str (Str.ofString "month") 772] } : Obj)) ::
  (nat_lit 383, ({ cls := .type "tuple", data := .seq #[] } : Obj)) ::
  (nat_lit 385, ({ cls := .type "code", data := .fields #[.str (Str.ofString "_law_clock") 763, .str (Str.ofString "_law_clock") 764, .str (Str.ofString "/claim/cut.py") 765, .int 285 0, .int 1 0, .int 0 0, .int 0 0, .int 3 0, .ref 380, .bool true, .int 181 0, .ref 381, .none, .ref 382, .ref 383, .ref 384, .int 773 0, .int 285 0, .str (Str.ofString "/claim/cut.py") 774] } : Obj)) ::
  (nat_lit 386, (fo (x := (body[59]?)) rfl (Str.ofString "_law_clock") (Str.ofString "_law_clock") (.none) (.str (Str.ofString "law_pq0941_01") 693) (.ref 385) : Obj)) ::
  (nat_lit 387, ({ cls := .type "tuple", data := .seq #[] } : Obj)) ::
  (nat_lit 390, ({ cls := .type "code", data := .fields #[.str (Str.ofString "_law_head") 776, .str (Str.ofString "_law_head") 777, .str (Str.ofString "/claim/cut.py") 778, .int 294 0, .int 1 0, .int 0 0, .int 0 0, .int 3 0, .ref 387, .bool true, .int 181 0, .ref 388, .none, .none, .none, .ref 389, .int 779 0, .int 294 0, .str (Str.ofString "/claim/cut.py") 780] } : Obj)) ::
  (nat_lit 391, (fo (x := (body[60]?)) rfl (Str.ofString "_law_head") (Str.ofString "_law_head") (.none) (.str (Str.ofString "law_pq0941_01") 693) (.ref 390) : Obj)) ::
  (nat_lit 392, ({ cls := .type "tuple", data := .seq #[] } : Obj)) ::
  (nat_lit 395, ({ cls := .type "code", data := .fields #[.str (Str.ofString "_law_octets") 782, .str (Str.ofString "_law_octets") 783, .str (Str.ofString "/claim/cut.py") 784, .int 298 0, .int 1 0, .int 0 0, .int 0 0, .int 3 0, .ref 392, .bool true, .int 181 0, .ref 393, .none, .none, .none, .ref 394, .int 785 0, .int 298 0, .str (Str.ofString "/claim/cut.py") 786] } : Obj)) ::
  (nat_lit 396, (fo (x := (body[61]?)) rfl (Str.ofString "_law_octets") (Str.ofString "_law_octets") (.none) (.str (Str.ofString "law_pq0941_01") 693) (.ref 395) : Obj)) ::
  (nat_lit 397, ({ cls := .type "tuple", data := .seq #[] } : Obj)) ::
  (nat_lit 399, ({ cls := .type "tuple", data := .seq #[.str (Str.ofString "reel") 791, .str (Str.ofString "word") 792, .str (Str.ofString "minutes") 793, .str (Str.ofString "lead") 794, .str (Str.ofString "octets") 795, .str (Str.ofString "reader") 796] } : Obj)) ::
  (nat_lit 400, ({ cls := .type "tuple", data := .seq #[] } : Obj)) ::
  (nat_lit 402, ({ cls := .type "code", data := .fields #[.str (Str.ofString "_law_is_zone") 788, .str (Str.ofString "_law_is_zone") 789, .str (Str.ofString "/claim/cut.py") 790, .int 300 0, .int 3 0, .int 0 0, .int 0 0, .int 3 0, .ref 397, .bool true, .int 181 0, .ref 398, .none, .ref 399, .ref 400, .ref 401, .int 797 0, .int 300 0, .str (Str.ofString "/claim/cut.py") 798] } : Obj)) ::
  (nat_lit 403, (fo (x := (body[62]?)) rfl (Str.ofString "_law_is_zone") (Str.ofString "_law_is_zone") (.none) (.str (Str.ofString "law_pq0941_01") 693) (.ref 402) : Obj)) ::
  (nat_lit 404, ({ cls := .type "tuple", data := .seq #[] } : Obj)) ::
  (nat_lit 406, ({ cls := .type "tuple", data := .seq #[.str (Str.ofString "reel") 803, .str (Str.ofString "spoil") 804, .str (Str.ofString "other") 805, .str (Str.ofString "head") 806, .str (Str.ofString "word") 807, .str (Str.ofString "lead") 808, .str (Str.ofString "trail") 809, .str (Str.ofString "at") 810] } : Obj)) ::
  (nat_lit 407, ({ cls := .type "tuple", data := .seq #[] } : Obj)) ::
  (nat_lit 409, ({ cls := .type "code", data := .fields #[.str (Str.ofString "_law_bent") 800, .str (Str.ofString "_law_bent") 801, .str (Str.ofString "/claim/cut.py") 802, .int 305 0, .int 5 0, .int 0 0, .int 0 0, .int 3 0, .ref 404, .bool true, .int 181 0, .ref 405, .none, .ref 406, .ref 407, .ref 408, .int 811 0, .int 305 0, .str (Str.ofString "/claim/cut.py") 812] } : Obj)) ::
  (nat_lit 410, (fo (x := (body[63]?)) rfl (Str.ofString "_law_bent") (Str.ofString "_law_bent") (.none) (.str (Str.ofString "law_pq0941_01") 693) (.ref 409) : Obj)) ::
  (nat_lit 411, ({ cls := .type "tuple", data := .seq #[] } : Obj)) ::
  (nat_lit 414, ({ cls := .type "code", data := .fields #[.str (Str.ofString "law") 814, .str (Str.ofString "law") 815, .str (Str.ofString "/claim/cut.py") 816, .int 316 0, .int 1 0, .int 0 0, .int 0 0, .int 3 0, .ref 411, .bool true, .int 181 0, .ref 412, .none, .none, .none, .ref 413, .int 817 0, .int 316 0, .str (Str.ofString "/claim/cut.py") 818] } : Obj)) ::
  (nat_lit 415, (fo (x := (body[64]?)) rfl (Str.ofString "law") (Str.ofString "law") (.none) (.str (Str.ofString "law_pq0941_01") 693) (.ref 414) : Obj)) ::
  []

end Mine

open PySem PySem.W PyProof.Rows PySem.Calls
set_option Elab.async false
set_option maxRecDepth 100000
set_option maxHeartbeats 8000000
set_option linter.all false
namespace Mine

-- part base
theorem fill1 : (fun (_ : OpenLaw) (_ : Params → Frag) => True) PySem.Challenge.rw_pq0941_01 Mine.K := by
  k_fill
  trivial
abbrev PW := PySem.Challenge.pw_pq0941_01
section
variable {h₀ h' : Heap} {L : Addr} {m : Str → Option Value} {news : List (Addr × Obj)} {s : Shared} {Q : Value → Shared → Prop} {t : Tok} {tk' : Nat}
theorem rB {x y : Bool} (hret : ∀ (h' : Heap) (tk' : Nat), Fr h₀ L h' m → News h₀ L h' news → Q (.bool x) { s with heap := h', toks := tk' }) (e : y = x) (F : Fr h₀ L h' m) (N : News h₀ L h' news) : Q (.bool y) { s with heap := h', toks := tk' } := by
  subst e
  exact hret h' tk' F N
theorem rI {x y : Int} (hret : ∀ (t : Tok) (h' : Heap) (tk' : Nat), Fr h₀ L h' m → News h₀ L h' news → Q (.int x t) { s with heap := h', toks := tk' }) (e : y = x) (F : Fr h₀ L h' m) (N : News h₀ L h' news) : Q (.int y t) { s with heap := h', toks := tk' } := by
  subst e
  exact hret t h' tk' F N
theorem rS {x y : Str} (hret : ∀ (t : Tok) (h' : Heap) (tk' : Nat), Fr h₀ L h' m → News h₀ L h' news → Q (.str x t) { s with heap := h', toks := tk' }) (e : y = x) (F : Fr h₀ L h' m) (N : News h₀ L h' news) : Q (.str y t) { s with heap := h', toks := tk' } := by
  subst e
  exact hret t h' tk' F N
end
theorem fm (a : Int) {b : Int} (h : 0 ≤ b) : a.fmod b = a % b := Int.fmod_eq_emod_of_nonneg a h
theorem fd (a : Int) {b : Int} (h : 0 ≤ b) : a.fdiv b = a / b := Int.fdiv_eq_ediv_of_nonneg a h
def Stop (P : Prop) : Prop := P
theorem Stop.out {P : Prop} (h : Stop P) : P := h
theorem ltAll {d : Addr} {l : List (Addr × Obj)} (h : AllLt d l) : ∀ p ∈ l, p.1 < d := fun p hp => by
  induction hp with
  | head => exact h.1
  | tail _ _ ih => exact ih h.2
theorem room1 {d j k c : Nat} (h : d + k < c) (e : j + 1 ≤ k) : (d + 1) + j < c := by omega
theorem room2 {d j k c : Nat} (h : d + k < c) (e : j + 2 ≤ k) : ((d + 1) + 1) + j < c := by omega
theorem room0 {d j k c : Nat} (h : d + k < c) (e : j ≤ k) : d + j < c := by omega
theorem unit1 {d j k c : Nat} (h : d + k < c) (e : j + 3 ≤ k) : (d + 3) + j < c := by omega
theorem unit2 {d j k c : Nat} (h : d + k < c) (e : j + 4 ≤ k) : ((d + 1) + 3) + j < c := by omega
theorem News.tl {h₀ h : Heap} {L : Addr} {x : Addr × Obj} {r : List (Addr × Obj)} (N : News h₀ L h (x :: r)) : News h₀ L h r := fun q hq => N q (.tail _ hq)
theorem News.no2 {h₀ h : Heap} {L : Addr} {x y : Addr × Obj} {r : List (Addr × Obj)} (N : News h₀ L h (x :: y :: r)) : News h₀ L h (x :: r) := fun q hq => N q ((List.mem_cons.mp hq).elim (fun e => e ▸ .head _) fun h => .tail _ (.tail _ h))
section
variable {prog : Program} {w : World} {A : Around} {env : Env} {E : Value → Shared → Prop} {s : Shared} {h₀ : Heap} {L : Addr} {m : Str → Option Value}
theorem fold_A {body : List Stmt} {Q : Flow → Shared → Prop} (k : let env' := env; let A' := A; wpAny (model prog w) A' (execs body env') Q E s) : wpAny (model prog w) A (execs body env) Q E s := k
theorem fold_m {P : Prop} {h : Heap} (F : Fr h₀ L h m) (k : let m' := m; Fr h₀ L h m' → P) : P := k F
/-- a name stored: the new map under a name of its own -/
theorem store_E {cn : Str} {cs : Scope} {a : Addr} {ccd : Value} {cl : List (Str × Addr)} {news : List (Addr × Obj)} {x : Str} {v : Value} {Q : Unit → Shared → Prop} {h : Heap} {gs : Array GenState} {ds : Drawn} {tk : Nat} {os : OsState} (he : env = envX cn cs L a ccd cl) (F : Fr h₀ L h m) (N : News h₀ L h news)
    (k : let m' := fun y => if y = x then some v else m y; ∀ h' tk', Fr h₀ L h' m' → News h₀ L h' news → Q () ⟨h', gs, ds, tk', os⟩)
    (hk : cs.kind = .function) (hx : env.kindOf x = some .local) : wpAny (model prog w) A (storeName env x v) Q E ⟨h, gs, ds, tk, os⟩ := by
  subst he
  exact storeX_L (s := ⟨h, gs, ds, tk, os⟩) F N (fun h' F' N' => k h' _ F' N') hk hx
theorem ite_skip {x n : Str} {v r z : Option Value} (h : ¬ x = n) (k : r = z) : (if x = n then v else r) = z := (if_neg h).trans k
theorem not_in {z n : Str} {l : List Str} (h : (n :: l).contains z = false) : ¬ z = n := fun e => by subst e; simp at h
theorem not_in' {z n : Str} {l : List Str} (h : (n :: l).contains z = false) : l.contains z = false := by
  rw [List.contains_cons, Bool.or_eq_false_iff] at h
  exact h.2
theorem if_t {P R : Prop} (h : P) : if true = true then P else R := h
theorem if_f {P R : Prop} (h : R) : if false = true then P else R := h
theorem unitL {d k c : Nat} (h : d + k < c) : d < c := Nat.lt_of_le_of_lt (Nat.le_add_right d k) h
theorem unit0 {d k c : Nat} (h : d + k < c) (e : 3 ≤ k) : d + 3 < c := by omega
end
/-- the entry of a def: the state's parts, the scope, the first map and the surroundings under names of their own -/
theorem enter_E {prog : Program} {w : World} {A A₀ : Around} {s : Shared} {base h₀ : Heap} {L : Addr} {m mg mb : Str → Option Value} {K : Frag} {p : Program} {loose : List Str} {mean : ExcName → Option Value} {news : List (Addr × Obj)}
    {env : Env} {outer : List Env} {R : Result → Shared → Prop} {name qual : Str} {params : Arguments} {body : List Stmt} {scope : Scope} {dV kV doc pm cdv ct oc : Value} {an od : Option Addr} {osl : Array (Option Value)} {f : Addr} {args : Args} {binds : List (Str × Value)}
    (hA : A.frames = some (env :: outer)) (hf : env.frame = some L) (hke : env.scope.kind = .function) (B : Below A₀ base outer h₀) (F : Fr h₀ L s.heap m) (X₀ : K.In h₀) (N : News h₀ L s.heap news) (T : Top p loose mean mg mb h₀)
    (ho : K.lookup f = some ⟨oc, od, .func (fnOf name qual params body scope dV kV doc pm an cdv ct), osl⟩) (hcd : codeIn K cdv qual = true) (hroom : A.depth < recursionLimit)
    (hbind : BindsTo s (fnOf name qual params body scope dV kV doc pm an cdv ct) args binds) (hloc : ∀ y ∈ binds, scope.names.lookup y.1 = some .local)
    (h : ∀ g L' h₁ tk', let gs' := s.gens; let ds' := s.drawn; let os' := s.os; let env' := envOf qual scope L' f cdv; let m' := fun y => binds.reverse.lookup y; let A' := A.deeper env'
      Fr h₀ L g m → Fr g L' h₁ m' → News g L' h₁ news → Below A base (env :: outer) g → K.In g → Top p loose mean mg mb g →
      wpAny (model prog w) A' (execs body env') (fun fl s' => LeaveK h₀ L m g R (match fl with | .ret v => v | _ => .none) s')
        (fun e s' => wpAny (model prog w) A' (leaving env' e) (fun _ s'' => R (.error e) s'') (fun e' s'' => R (.error e') s'') s') ⟨h₁, gs', ds', tk', os'⟩)
    (hco : scope.isCoroutine = false) (hgen : scope.isGenerator = false) (hk : scope.kind = .function) (hcell : ∀ x ∈ scope.names, x.2 ≠ .cell) : codeAny (model prog w) A (.call (.ref f) args) R s :=
  code_def B F X₀ N T hA hf hke ho hcd hroom hbind hloc (fun g L' h₁ FG F' N' B' X' T' => h g L' h₁ _ FG F' N' B' X' T') hco hgen hk hcell
/-- what stands behind a statement: the rest of the block -/
def SeqQ (M : Model) (A : Around) (rest : List Stmt) (env : Env) (Q : Flow → Shared → Prop) (E : Value → Shared → Prop) : Flow → Shared → Prop := fun f s' => match f with | .next => wpAny M A (execs rest env) Q E s' | f => Q f s'
/-- what stands behind a def's body: its leaving -/
def LeaveV (h₀ : Heap) (L : Addr) (m : Str → Option Value) (g : Heap) (Q : Value → Shared → Prop) (v : Value) (s' : Shared) : Prop :=
  ∃ L' m' news', Fr g L' s'.heap m' ∧ News g L' s'.heap news' ∧ (Fr h₀ L s'.heap m → News h₀ L s'.heap news' → Q v s')
def RetQ (h₀ : Heap) (L : Addr) (m : Str → Option Value) (g : Heap) (Q : Value → Shared → Prop) : Flow → Shared → Prop := fun fl s' => LeaveV h₀ L m g Q (match fl with | .ret v => v | _ => .none) s'
section
variable {M : Model} {A : Around} {env : Env} {E : Value → Shared → Prop} {s : Shared} {Q : Flow → Shared → Prop} {st : Stmt} {rest : List Stmt} {v : Value}
theorem cons_E (k : let q := SeqQ M A rest env Q E; wpAny M A (exec st env) q E s) : wpAny M A (execs (st :: rest) env) Q E s := wpAny_execs_cons k
theorem seq_next (k : wpAny M A (execs rest env) Q E s) : SeqQ M A rest env Q E .next s := k
theorem seq_ret (k : Q (.ret v) s) : SeqQ M A rest env Q E (.ret v) s := k
theorem seq_brk (k : Q .brk s) : SeqQ M A rest env Q E .brk s := k
theorem seq_cont (k : Q .cont s) : SeqQ M A rest env Q E .cont s := k
theorem fold_Q {α : Type} {t : Sem α} {Q : α → Shared → Prop} (k : let qk := Q; let ek := E; wpAny M A t qk ek s) : wpAny M A t Q E s := k
theorem ret_V {h₀ g : Heap} {L : Addr} {m : Str → Option Value} {Q : Value → Shared → Prop} (k : LeaveV h₀ L m g Q v s) : RetQ h₀ L m g Q (.ret v) s := k
theorem nxt_V {h₀ g : Heap} {L : Addr} {m : Str → Option Value} {Q : Value → Shared → Prop} (k : LeaveV h₀ L m g Q .none s) : RetQ h₀ L m g Q .next s := k
theorem leaveV {h₀ g : Heap} {L L' : Addr} {m m' : Str → Option Value} {news' : List (Addr × Obj)} {Q : Value → Shared → Prop} (F' : Fr g L' s.heap m') (N' : News g L' s.heap news')
    (k : Fr h₀ L s.heap m → News h₀ L s.heap news' → Q v s) : LeaveV h₀ L m g Q v s := ⟨L', m', news', F', N', k⟩
end
/-- a def that may be entered plainly -/
def enterOk (sc : Scope) (ps : Arguments) : Bool := decide (sc.isCoroutine = false ∧ sc.isGenerator = false ∧ sc.kind = .function ∧ (∀ x ∈ sc.names, x.2 ≠ .cell) ∧ ∀ a ∈ ps.args, sc.names.lookup a.arg = some .local)
/-- a call of a def of the text, by places alone: its entry -/
theorem enter_C {prog : Program} {w : World} {A A₀ : Around} {s : Shared} {base h₀ : Heap} {L : Addr} {m mg mb : Str → Option Value} {K : Frag} {p : Program} {loose : List Str} {mean : ExcName → Option Value} {news : List (Addr × Obj)}
    {env : Env} {outer : List Env} {Q E : Value → Shared → Prop} {name qual : Str} {params : Arguments} {body : List Stmt} {scope : Scope} {dV kV doc pm cdv ct oc : Value} {an od : Option Addr} {osl : Array (Option Value)} {f : Addr} {vs : List Value}
    (hA : A.frames = some (env :: outer)) (hf : env.frame = some L) (hke : env.scope.kind = .function) (B : Below A₀ base outer h₀) (F : Fr h₀ L s.heap m) (X₀ : K.In h₀) (N : News h₀ L s.heap news) (T : Top p loose mean mg mb h₀)
    (ho : K.lookup f = some ⟨oc, od, .func (fnOf name qual params body scope dV kV doc pm an cdv ct), osl⟩) (hcd : codeIn K cdv qual = true) (hroom : A.depth < recursionLimit)
    (hbind : BindsTo s (fnOf name qual params body scope dV kV doc pm an cdv ct) ⟨vs, []⟩ ((params.args.map (·.arg)).zip vs)) (hchk : enterOk scope params = true)
    (h : ∀ g L' h₁ tk', let gs' := s.gens; let ds' := s.drawn; let os' := s.os; let env' := envOf qual scope L' f cdv; let m' := fun y => ((params.args.map (·.arg)).zip vs).reverse.lookup y; let A' := A.deeper env'
      let qk := RetQ h₀ L m g Q; let ek := fun e s' => wpAny (model prog w) A' (leaving env' e) (fun _ s'' => E e s'') E s'
      Fr h₀ L g m → Fr g L' h₁ m' → News g L' h₁ news → Below A base (env :: outer) g → K.In g → Top p loose mean mg mb g → wpAny (model prog w) A' (execs body env') qk ek ⟨h₁, gs', ds', tk', os'⟩) :
    wpAny (model prog w) A (call (.ref f) vs) Q E s := by
  obtain ⟨h1, h2, h3, h4, h5⟩ := of_decide_eq_true hchk
  refine wpAny_call (code_def B F X₀ N T hA hf hke ho hcd hroom hbind (fun y hy => ?_) (fun g L' h₁ FG F' N' B' X' T' => wpAny_mono (h g L' h₁ _ FG F' N' B' X' T') (fun fl s' q => by cases fl <;> exact q) fun _ _ q => q) h1 h2 h3 h4)
  obtain ⟨a, ha, e⟩ := List.mem_map.mp (List.of_mem_zip hy).1
  exact e ▸ h5 a ha
section
variable {M : Model} {A : Around} {env : Env} {E : Value → Shared → Prop} {h h₀ : Heap} {g : Array GenState} {d : Drawn} {os : OsState} {tk tk1 tk2 : Nat} {L : Addr} {m : Str → Option Value} {e l r : Expr} {v va vb : Value} {pos : Pos} {op : Operator} {cop : CmpOp}
/-- a plain expression has one worth, and turns the count of tokens alone -/
structure Ev (M : Model) (env : Env) (h : Heap) (g : Array GenState) (d : Drawn) (os : OsState) (e : Expr) (tk : Nat) (v : Value) (tk' : Nat) : Prop where
  go : ∀ (A : Around) (E Q : Value → Shared → Prop), Q v ⟨h, g, d, tk', os⟩ → wpAny M A (eval e env) Q E ⟨h, g, d, tk, os⟩
theorem ev_loc {x : Str} (F : Fr h₀ L h m) (hL : env.locals = L) (hx : env.kindOf x = some .local) (hk : env.scope.kind = .function) (hv : m x = some v) (hd : (x == ("__debug__" : Str)) = false) : Ev M env h g d os (.Name x pos) tk v tk :=
  ⟨fun _ _ _ q => wpAny_Name (wpAny_loadName_local hk hx (hL ▸ F.ns) hv q) hd⟩
theorem ev_int {i : Int} {k : Nat} : Ev M env h g d os (.Constant (.int i) k pos) tk (.int i tk) (tk + 1) := ⟨fun _ _ _ q => wpAny_Constant_int q⟩
theorem ev_str {x : Str} {k : Nat} : Ev M env h g d os (.Constant (.str x) k pos) tk (.str x tk) (tk + 1) := ⟨fun _ _ _ q => wpAny_Constant_str q⟩
theorem ev_bytes {x : List UInt8} {k : Nat} : Ev M env h g d os (.Constant (.bytes x) k pos) tk (.bytes x.toArray tk) (tk + 1) := ⟨fun _ _ _ q => Constant_bytes q⟩
theorem ev_add {prog : Program} {w : World} {a b : Int} {t u : Tok} (h1 : Ev (model prog w) env h g d os l tk (.int a t) tk1) (h2 : Ev (model prog w) env h g d os r tk1 (.int b u) tk2) : Ev (model prog w) env h g d os (.BinOp l .Add r pos) tk (.int (a + b) tk2) (tk2 + 1) :=
  ⟨fun _ _ _ q => wpAny_BinOp (h1.go _ _ _ (h2.go _ _ _ (add_int q)))⟩
theorem ev_sub {prog : Program} {w : World} {a b : Int} {t u : Tok} (h1 : Ev (model prog w) env h g d os l tk (.int a t) tk1) (h2 : Ev (model prog w) env h g d os r tk1 (.int b u) tk2) : Ev (model prog w) env h g d os (.BinOp l .Sub r pos) tk (.int (a - b) tk2) (tk2 + 1) :=
  ⟨fun _ _ _ q => wpAny_BinOp (h1.go _ _ _ (h2.go _ _ _ (sub_int q)))⟩
theorem name_E {x : Str} {Q : Value → Shared → Prop} (F : Fr h₀ L h m) (hL : env.locals = L) (hx : env.kindOf x = some .local) (hk : env.scope.kind = .function) (hv : m x = some v) (hd : (x == ("__debug__" : Str)) = false) (q : Q v ⟨h, g, d, tk, os⟩) : wpAny M A (eval (.Name x pos) env) Q E ⟨h, g, d, tk, os⟩ :=
  (ev_loc (M := M) (g := g) (d := d) (os := os) (tk := tk) (pos := pos) F hL hx hk hv hd).go _ _ _ q
theorem val_E {Q : Value → Shared → Prop} (h1 : Ev M env h g d os e tk v tk1) (q : Q v ⟨h, g, d, tk1, os⟩) : wpAny M A (eval e env) Q E ⟨h, g, d, tk, os⟩ := h1.go _ _ _ q
theorem bin_E {Q : Value → Shared → Prop} (h1 : Ev M env h g d os l tk va tk1) (h2 : Ev M env h g d os r tk1 vb tk2) (q : wpAny M A (binaryOp op va vb) Q E ⟨h, g, d, tk2, os⟩) : wpAny M A (eval (.BinOp l op r pos) env) Q E ⟨h, g, d, tk, os⟩ := wpAny_BinOp (h1.go _ _ _ (h2.go _ _ _ q))
theorem cmp_E {whole : Sem Value} {Q : Bool → Shared → Prop} (h1 : Ev M env h g d os l tk va tk1) (h2 : Ev M env h g d os r tk1 vb tk2) (hm : behindInMarks cop r = false) (q : wpAny M A (compareOp cop va vb) (fun c s₃ => wpAny M A (truthy c) Q E s₃) E ⟨h, g, d, tk2, os⟩) :
    wpAny M A (isTrue (.Compare l [cop] [r] pos) env whole) Q E ⟨h, g, d, tk, os⟩ := wpAny_isTrue_Compare1 (h1.go _ _ _ (h2.go _ _ _ q)) hm
theorem sub_E {Q : Value → Shared → Prop} (h1 : Ev M env h g d os l tk va tk1) (h2 : Ev M env h g d os r tk1 vb tk2) (q : wpAny M A (subscriptTail l r va vb) Q E ⟨h, g, d, tk2, os⟩) : wpAny M A (eval (.Subscript l r pos) env) Q E ⟨h, g, d, tk, os⟩ := Subscript_ (h1.go _ _ _ (h2.go _ _ _ q))
/-- the worths of plain arguments -/
structure EvL (M : Model) (env : Env) (h : Heap) (g : Array GenState) (d : Drawn) (os : OsState) (es : List Expr) (tk : Nat) (vs : List Value) (tk' : Nat) : Prop where
  go : ∀ (A : Around) (E : Value → Shared → Prop) (pos : Pos) (Q : List Value → Shared → Prop), Q vs ⟨h, g, d, tk', os⟩ → wpAny M A (spliced (backTo pos (starEach es env))) Q E ⟨h, g, d, tk, os⟩
theorem evl_nil : EvL M env h g d os [] tk [] tk := ⟨fun _ _ _ _ q => args_nil q⟩
theorem evl_cons {es : List Expr} {vs : List Value} (h1 : Ev M env h g d os e tk v tk1) (h2 : EvL M env h g d os es tk1 vs tk2) (he : starEach (e :: es) env = (false, eval e env) :: starEach es env) : EvL M env h g d os (e :: es) tk (v :: vs) tk2 := ⟨fun _ _ pos _ q => args_cons (h1.go _ _ _ (h2.go _ _ pos _ q)) he⟩
theorem args_E {es : List Expr} {vs : List Value} {Q : List Value → Shared → Prop} (h1 : EvL M env h g d os es tk vs tk1) (q : Q vs ⟨h, g, d, tk1, os⟩) : wpAny M A (spliced (backTo pos (starEach es env))) Q E ⟨h, g, d, tk, os⟩ := h1.go _ _ _ _ q
end
section
variable {M : Model} {A : Around} {E : Value → Shared → Prop} {K : Frag} {hp h₀ : Heap} {g : Array GenState} {dr : Drawn} {os : OsState} {tk tk1 : Nat} {L a : Addr} {m mg mb : Str → Option Value} {cn : Str} {cs : Scope} {ccd : Value} {cl : List (Str × Addr)} {p : Program} {loose : List Str} {Q : Value → Shared → Prop} {pos p0 : Pos} {f : Value} {x : Str} {e : Expr} {es : List Expr} {vs : List Value}
/-- a call of a def of the text's own with plain arguments -/
theorem call_E {env : Env} (hn : env = envX cn cs L a ccd cl) (F : Fr h₀ L hp m) (X : K.In h₀) (T : TopRead p loose mg mb h₀) (hf : nsIn K mainGlobals x = some (some f)) (hq : keepIn K f = true) (ha : EvL M env hp g dr os (e :: es) tk vs tk1) (q : wpAny M A (call f vs) Q E ⟨hp, g, dr, tk1, os⟩)
    (hk : cs.kind = .function) (hx : env.kindOf x = some .globalImplicit) (hd : (x == ("__debug__" : Str)) = false) (he : starEach (e :: es) env = (false, eval e env) :: starEach es env) (hp9 : (backTo pos (starEach es env)).any (·.1) = false) :
    wpAny M A (eval (.Call (.Name x p0) (e :: es) [] pos) env) Q E ⟨hp, g, dr, tk, os⟩ := by
  subst hn
  exact Call_ (nameX_K F X T hf (callWith_K X hq (ha.go _ _ _ _ ⟨X.keeps F.keep, q⟩) he hp9) hk hx hd)
/-- a name of the text's own top -/
theorem name_G {env : Env} (hx : env.kindOf x = some .globalImplicit) (hn : env = envX cn cs L a ccd cl) (F : Fr h₀ L hp m) (X : K.In h₀) (T : TopRead p loose mg mb h₀) (hf : nsIn K mainGlobals x = some (some f)) (hk : cs.kind = .function) (hd : (x == ("__debug__" : Str)) = false) (q : Q f ⟨hp, g, dr, tk, os⟩) :
    wpAny M A (eval (.Name x pos) env) Q E ⟨hp, g, dr, tk, os⟩ := by
  subst hn
  exact nameX_K F X T hf q hk hx hd
/-- a name of the language's own -/
theorem name_B {env : Env} (hx : env.kindOf x = some .globalImplicit) (hn : env = envX cn cs L a ccd cl) (F : Fr h₀ L hp m) (X : K.In h₀) (T : TopRead p loose mg mb h₀) (hf : nsIn K mainGlobals x = some none) (hv : bootBuiltins x = some f) (hm : x ≠ "__name__") (hk : cs.kind = .function) (hd : (x == ("__debug__" : Str)) = false) (q : Q f ⟨hp, g, dr, tk, os⟩) :
    wpAny M A (eval (.Name x pos) env) Q E ⟨hp, g, dr, tk, os⟩ := by
  subst hn
  exact nameX_B F X T hf hv hm q hk hx hd
/-- a call of the language's own with plain arguments -/
theorem call_B {env : Env} {id : String} (hn : env = envX cn cs L a ccd cl) (F : Fr h₀ L hp m) (X : K.In h₀) (T : TopRead p loose mg mb h₀) (hf : nsIn K mainGlobals x = some none) (hv : bootBuiltins x = some f) (hb : f = .builtin id) (hm : x ≠ "__name__") (ha : EvL M env hp g dr os (e :: es) tk vs tk1) (q : wpAny M A (call (.builtin id) vs) Q E ⟨hp, g, dr, tk1, os⟩)
    (hk : cs.kind = .function) (hx : env.kindOf x = some .globalImplicit) (hd : (x == ("__debug__" : Str)) = false) (he : starEach (e :: es) env = (false, eval e env) :: starEach es env) (hp9 : (backTo pos (starEach es env)).any (·.1) = false) :
    wpAny M A (eval (.Call (.Name x p0) (e :: es) [] pos) env) Q E ⟨hp, g, dr, tk, os⟩ := by
  subst hn hb
  exact Call_ (nameX_B F X T hf hv hm (PyProof.Rows.callWith_builtin1 (ha.go _ _ _ _ q) he hp9) hk hx hd)
/-- a call without arguments -/
theorem call_0 {env : Env} {first : List Value} (F : Fr h₀ L hp m) (X : K.In h₀) (hk : keepIn K f = true) (q : wpAny M A (call f (first ++ [])) Q E ⟨hp, g, dr, tk, os⟩) : wpAny M A (callWith pos f first (backTo pos (starEach [] env)) []) Q E ⟨hp, g, dr, tk, os⟩ :=
  callWith_K0 (X.keeps F.keep) hk q
/-- the sign of a stop that the text asked for -/
inductive StopM (n : Addr) : Prop | mk
theorem stop_call {M : Model} {A : Around} {Q E : Value → Shared → Prop} {s : Shared} {n : Addr} {vs : List Value} (_ : StopM n) (h : Stop (wpAny M A (call (.ref n) vs) Q E s)) : wpAny M A (call (.ref n) vs) Q E s := h
end

-- part comp
inductive F2 {α β : Type} (R : α → β → Prop) : List α → List β → Prop
  | nil : F2 R [] []
  | cons {a : α} {b : β} {l : List α} {r : List β} : R a b → F2 R l r → F2 R (a :: l) (b :: r)
theorem forall2_snoc {α β : Type} {R : α → β → Prop} {a : α} {b : β} {l : List α} {r : List β} (h : F2 R l r) (x : R a b) : F2 R (l ++ [a]) (r ++ [b]) := by
  induction h with
  | nil => exact .cons x .nil
  | cons y _ ih => exact .cons y ih
theorem F2.len {α β : Type} {R : α → β → Prop} {l : List α} {r : List β} (h : F2 R l r) : l.length = r.length := by
  induction h with
  | nil => rfl
  | cons _ _ ih => exact congrArg Nat.succ ih
section
open PyProof.Rows.LCg
variable {prog : Program} {w : World} {A : Around} {E : Value → Shared → Prop} {s s₁ : Shared} {h₀ : Heap} {L : Addr} {m : Str → Option Value} {env : Env} {news : List (Addr × Obj)}
/-- a source of a comprehension: what its iterator walks, and what is asked of the turns -/
inductive Src (prog : Program) (w : World) (A : Around) (h₀ : Heap) (L : Addr) (m : Str → Option Value) (R : Nat → (Nat → Value → Prop) → (List (Addr × Obj) → Prop) → Shared → List (Addr × Obj) → Prop) (s₂ : Shared) : Value → Prop
  | mk (I : Addr) (fp : List Addr) (n : Nat) (P : Nat → Value → Prop) (St : Nat → Heap → Prop) (S : List (Addr × Obj) → Prop) (news : List (Addr × Obj)) (W : Walks prog w A I fp [I] n P St) (hsz : n ≤ sizeLine)
    (hIo : ∀ i h, St i h → ∃ o, h.get? I = some o)
    (hSt : ∀ i h h' o nw, St i h → h.get? I = some o → h'.get? I = some o → (∀ b o, h₀.get? b = some o → h'.get? b = some o) → News h₀ L h' nw → S nw → St i h')
    (hst : St 0 s₂.heap) (hfp : ∀ b ∈ fp, b < s₂.heap.objs.size) (F : Fr h₀ L s₂.heap m) (N : News h₀ L s₂.heap news) (hLI : L ≠ I) (hI₀ : h₀.get? I = none) (off : ∀ p ∈ news, p.1 ≠ I) (hS : S news) (r : R n P S s₂ news) : Src prog w A h₀ L m R s₂ (.ref I)
def CW (prog : Program) (w : World) (A : Around) (E : Value → Shared → Prop) (h₀ : Heap) (L : Addr) (m : Str → Option Value) (R : Nat → (Nat → Value → Prop) → (List (Addr × Obj) → Prop) → Shared → List (Addr × Obj) → Prop) (xv : Value) (s₁ : Shared) : Prop :=
  wpAny (model prog w) A (pyIter xv) (fun it s₂ => Src prog w A h₀ L m R s₂ it) E s₁
variable {R : Nat → (Nat → Value → Prop) → (List (Addr × Obj) → Prop) → Shared → List (Addr × Obj) → Prop}
/-- a fresh iterator -/
theorem Src.new {o : Obj} {fp : List Addr} {n : Nat} {P : Nat → Value → Prop} {St : Nat → Heap → Prop} (S : List (Addr × Obj) → Prop) (F : Fr h₀ L s₁.heap m) (N : News h₀ L s₁.heap news) (hz : n ≤ sizeLine)
    (W : Walks prog w A s₁.heap.objs.size fp [s₁.heap.objs.size] n P St) (hIo : ∀ i h, St i h → ∃ o, h.get? s₁.heap.objs.size = some o)
    (hSt : ∀ i h h' o nw, St i h → h.get? s₁.heap.objs.size = some o → h'.get? s₁.heap.objs.size = some o → (∀ b o, h₀.get? b = some o → h'.get? b = some o) → News h₀ L h' nw → S nw → St i h')
    (hst : St 0 (s₁.heap.push o)) (hfp : ∀ b ∈ fp, b = s₁.heap.objs.size ∨ b < s₁.heap.objs.size) (hS : S news) (r : R n P S { s₁ with heap := s₁.heap.push o } news) : Src prog w A h₀ L m R { s₁ with heap := s₁.heap.push o } (.ref s₁.heap.objs.size) :=
  .mk _ fp n P St S news W hz hIo hSt hst (fun b hb => by show b < (s₁.heap.push o).objs.size; rw [Heap.size_push]; exact Nat.lt_succ_of_le ((hfp b hb).elim Nat.le_of_eq Nat.le_of_lt))
    (F.push _) (fun p hp => ⟨Heap.get?_push_of_some _ (N p hp).1, (N p hp).2⟩) (Nat.ne_of_lt F.ns.lt) (next_is_new F) (fun p hp => Nat.ne_of_lt (Heap.lt_size (N p hp).1)) hS r
theorem CW.str {x : Str} {t : Tok} (hh : A.handled = none) (F : Fr h₀ L s₁.heap m) (N : News h₀ L s₁.heap news) (hz : x.cps.size ≤ sizeLine)
    (h : ∀ g, R x.cps.size (SignAt x) (fun _ => True) { s₁ with heap := g } news) : CW prog w A E h₀ L m R (.str x t) s₁ := by
  have go : ∀ (Tp : String) (o : Obj), Walks prog w A s₁.heap.objs.size [s₁.heap.objs.size] [s₁.heap.objs.size] x.cps.size (SignAt x) (fun i h => h.IsStrIter s₁.heap.objs.size Tp x t i) →
      (s₁.heap.push o).IsStrIter s₁.heap.objs.size Tp x t 0 → Src prog w A h₀ L m R { s₁ with heap := s₁.heap.push o } (.ref s₁.heap.objs.size) := fun Tp o W hst =>
    Src.new (fun _ => True) F N hz W (fun i h ⟨o, e, _⟩ => ⟨o, e⟩) (fun i h h' o nw ⟨_, q, r⟩ e e' _ _ _ => ⟨o, e', by rw [e] at q; cases q; exact r⟩) hst (fun b hb => .inl (List.mem_singleton.mp hb)) trivial (h _)
  unfold CW
  cases ha : x.cps.all (· < 128)
  · exact wpAny_pyIter_wide ha (go _ _ (Walks.strWide hh _ x t) ⟨_, Heap.get?_push_size _ rfl, rfl, rfl⟩)
  · exact wpAny_pyIter_ascii ha (go _ _ (Walks.strAscii hh _ x t) ⟨_, Heap.get?_push_size _ rfl, rfl, rfl⟩)
theorem CW.bytes {b : Array UInt8} {t : Tok} (hh : A.handled = none) (F : Fr h₀ L s₁.heap m) (N : News h₀ L s₁.heap news) (hz : b.size ≤ sizeLine)
    (h : ∀ g, R b.size (fun i v => ∃ c u, b[i]? = some c ∧ v = .int (c.toNat : Int) u) (fun _ => True) { s₁ with heap := g } news) : CW prog w A E h₀ L m R (.bytes b t) s₁ :=
  KBw.pyIter_bytes (Src.new (fun _ => True) F N hz (KBw.walks hh _ b t) (fun i h ⟨o, e, _⟩ => ⟨o, e⟩) (fun i h h' o nw ⟨_, q, r⟩ e e' _ _ _ => ⟨o, e', by rw [e] at q; cases q; exact r⟩) ⟨_, Heap.get?_push_size _ rfl, rfl, rfl⟩
    (fun b hb => .inl (List.mem_singleton.mp hb)) trivial (h _))
/-- a tuple that stands below the frame -/
theorem CW.tup {ax : Addr} {its : Array Value} (hh : A.handled = none) (F : Fr h₀ L s₁.heap m) (N : News h₀ L s₁.heap news) (hl : h₀.IsTuple ax its) (hz : its.size ≤ sizeLine)
    (h : ∀ g, R its.size (fun i v => its[i]? = some v) (fun _ => True) { s₁ with heap := g } news) : CW prog w A E h₀ L m R (.ref ax) s₁ := by
  have hl' : s₁.heap.IsTuple ax its := hl.at fun o e => F.keep _ o e
  have hlt : ax < s₁.heap.objs.size := by obtain ⟨_, e, _⟩ := hl'; exact Heap.lt_size e
  exact wpAny_pyIter_tuple hl' (Src.new (fun _ => True) F N hz (Walks.tuple hh s₁.heap.objs.size ax (Nat.ne_of_lt hlt) its) (fun i h ⟨⟨o, e, _⟩, _⟩ => ⟨o, e⟩)
    (fun i h h' o nw ⟨⟨_, q, r⟩, _⟩ e e' k _ _ => ⟨⟨o, e', by rw [e] at q; cases q; exact r⟩, hl.at fun o e => k _ o e⟩) ⟨⟨_, Heap.get?_push_size _ rfl, rfl, rfl⟩, hl'.at fun o e => Heap.get?_push_of_some _ e⟩
    (fun b hb => (List.mem_cons.mp hb).imp id fun hb => Nat.lt_of_le_of_lt (Nat.le_of_eq (List.mem_singleton.mp hb)) hlt) trivial (h _))
/-- a list of the ledger -/
theorem CW.led {ax : Addr} {its : Array Value} {k : Nat} (hh : A.handled = none) (F : Fr h₀ L s₁.heap m) (N : News h₀ L s₁.heap news) (hm : (ax, ({ cls := .type "list", data := .seq its k } : Obj)) ∈ news) (hz : its.size ≤ sizeLine)
    (h : ∀ g, R its.size (fun i v => its[i]? = some v) (SrcAt h₀ ax its) { s₁ with heap := g } news) : CW prog w A E h₀ L m R (.ref ax) s₁ := by
  have S : SrcAt h₀ ax its news := .inr ⟨_, hm, rfl, _, rfl⟩
  have hl := S.list F.keep N
  have hlt : ax < s₁.heap.objs.size := by obtain ⟨_, e, _⟩ := hl; exact Heap.lt_size e
  exact wpAny_pyIter_list hl (Src.new (SrcAt h₀ ax its) F N hz (Walks.list hh s₁.heap.objs.size ax (Nat.ne_of_lt hlt) its) (fun i h ⟨⟨o, e, _⟩, _⟩ => ⟨o, e⟩) list_st ⟨⟨_, Heap.get?_push_size _ rfl, rfl, rfl⟩, hl.push _⟩
    (fun b hb => (List.mem_cons.mp hb).imp id fun hb => Nat.lt_of_le_of_lt (Nat.le_of_eq (List.mem_singleton.mp hb)) hlt) S (h _))
theorem CW.range {r : Addr} {a b : Int} {t u v : Tok} {n : Nat} (hh : A.handled = none) (F : Fr h₀ L s₁.heap m) (N : News h₀ L s₁.heap news) (hr : IsRange s₁.heap r a b 1 t u v) (hsm : Builtin.Range.small a b 1 = true) (hn : Builtin.Range.rangeSize a b 1 = ((n : Nat) : Int)) (hsz : n ≤ sizeLine)
    (h : ∀ g, R n (fun i v => ∃ t, v = .int (a + (i : Int)) t) (fun _ => True) { s₁ with heap := g } news) : CW prog w A E h₀ L m R (.ref r) s₁ :=
  wpAny_pyIter_range hr hsm (Src.new (fun _ => True) F N hsz (range_walks hh a n) (fun i h st => ⟨_, st⟩) range_st (by show IsRangeIter _ _ _ _ _; rw [hn]; simpa using Heap.get?_push_size _ rfl) (fun b hb => .inl (List.mem_singleton.mp hb)) trivial (h _))

theorem comp_W {elt iter : Expr} {x : Str} {px : Pos} {scope : Scope} {cl : List (Str × Addr)} {pos : Pos} {Q : Value → Shared → Prop} (F₀ : Fr h₀ L s.heap m)
    (hclos : closureFor scope env = pure cl) (hcell : ∀ y ∈ scope.names, y.2 ≠ .cell) (hkind : scope.kind = .function)
    (hnames : ∀ y ∈ scope.names, y.2 = .local → scope.names.lookup y.1 = some .local) (hx : scope.names.lookup x = some .local)
    (h : wpAny (model prog w) A (eval iter env) (CW prog w A E h₀ L m (fun n P S s₂ news => CompRest prog w A h₀ L m env elt x scope cl s₂ S P (FinE h₀ L m s₂ Q) n 0 [] news)) E s)
    (hs : ∀ x, foldedSetIterable iter env x = pure x := by intro _; rfl) :
    wpAny (model prog w) A (eval (.ListComp elt [⟨.Name x px, iter, [], 0⟩] scope pos) env) Q E s := by
  rw [eval_ListComp]
  refine wpAny_comprehension_free (use := none) rfl hs hclos hkind hnames (wpAny_mono h (fun xv s₁ h₁ => ?_) fun _ _ e => e)
  refine wpAny_mono h₁ (fun it s₂ h₂ => ?_) fun _ _ e => e
  obtain ⟨I, fp, n, P, St, S, news, W, hsz, hIo, hSt, hst, hfp, F, N, hLI, hI₀, off, hS, R⟩ := h₂
  refine block_U W hsz hIo hSt hcell hkind hx hst hfp F N hLI hI₀ off hS R ?_
  intro D C h tk m' ys news' F' N' o1 hn hC₀ hD₀ hCL hDL hCD offC fin
  refine ⟨m', hn, fun h'' hs'' => fin D h'' tk (F'.change hs'' hCL hC₀) (fun p hp => ?_) o1⟩
  refine ⟨hs''.extBut _ _ ?_ (N' p hp).1, (N' p hp).2⟩
  rcases List.mem_cons.mp hp with rfl | hp
  · exact Ne.symm hCD
  · exact offC p hp
theorem comp_WT {ct elt iter : Expr} {x : Str} {px : Pos} {scope : Scope} {cl : List (Str × Addr)} {pos : Pos} {Q : Value → Shared → Prop} (F₀ : Fr h₀ L s.heap m)
    (hclos : closureFor scope env = pure cl) (hcell : ∀ y ∈ scope.names, y.2 ≠ .cell) (hkind : scope.kind = .function)
    (hnames : ∀ y ∈ scope.names, y.2 = .local → scope.names.lookup y.1 = some .local) (hx : scope.names.lookup x = some .local)
    (h : wpAny (model prog w) A (eval iter env) (CW prog w A E h₀ L m (fun n P S s₂ news => LCt.CompRestT prog w A h₀ L m env ct elt x scope cl s₂ S P (FinE h₀ L m s₂ Q) n 0 [] news)) E s)
    (hs : ∀ x, foldedSetIterable iter env x = pure x := by intro _; rfl) :
    wpAny (model prog w) A (eval (.ListComp elt [⟨.Name x px, iter, [ct], 0⟩] scope pos) env) Q E s := by
  rw [eval_ListComp]
  refine wpAny_comprehension_free (use := none) rfl hs hclos hkind hnames (wpAny_mono h (fun xv s₁ h₁ => ?_) fun _ _ e => e)
  refine wpAny_mono h₁ (fun it s₂ h₂ => ?_) fun _ _ e => e
  obtain ⟨I, fp, n, P, St, S, news, W, hsz, hIo, hSt, hst, hfp, F, N, hLI, hI₀, off, hS, R⟩ := h₂
  refine LCt.block_T W hsz hIo hSt hcell hkind hx hst hfp F N hLI hI₀ off hS R ?_
  intro D C h tk m' ys news' F' N' o1 hn hC₀ hD₀ hCL hDL hCD offC fin
  refine ⟨m', hn, fun h'' hs'' => fin D h'' tk (F'.change hs'' hCL hC₀) (fun p hp => ?_) o1⟩
  refine ⟨hs''.extBut _ _ ?_ (N' p hp).1, (N' p hp).2⟩
  rcases List.mem_cons.mp hp with rfl | hp
  · exact Ne.symm hCD
  · exact offC p hp
theorem comp_WA {elt iter : Expr} {x y : Str} {px py : Pos} {scope : Scope} {cl : List (Str × Addr)} {pos spos : Pos} {Q : Flow → Shared → Prop} (F₀ : Fr h₀ L s.heap m) (hLe : env.locals = L)
    (hsw : swapsWith (.ListComp elt [⟨.Name x px, iter, [], 0⟩] scope pos) (some (.Name y py)) spos.line env = pure true)
    (hclos : closureFor scope env = pure cl) (hcell : ∀ z ∈ scope.names, z.2 ≠ .cell) (hkind : scope.kind = .function)
    (hnames : ∀ z ∈ scope.names, z.2 = .local → scope.names.lookup z.1 = some .local) (hx : scope.names.lookup x = some .local)
    (hy : env.kindOf y = some .local) (hp : (env.scope.kind == .class || (env.scope.kind == .module && env.locals != env.globals)) = false)
    (h : wpAny (model prog w) A (eval iter env) (CW prog w A E h₀ L m (fun n P S s₂ news => CompRest prog w A h₀ L m env elt x scope cl s₂ S P (FinA h₀ L m s₂ y Q) n 0 [] news)) E s)
    (hs : ∀ x, foldedSetIterable iter env x = pure x := by intro _; rfl) :
    wpAny (model prog w) A (exec (.Assign [.Name y py] (.ListComp elt [⟨.Name x px, iter, [], 0⟩] scope pos) spos) env) Q E s := by
  subst hLe
  rw [exec_Assign_Name_used _ _ _ _ hsw]
  refine wpAny_bind (wpAny_standAt (wpAny_bind ?_))
  show wpAny _ A (do let _ ← comprehension (.ListComp elt [⟨.Name x px, iter, [], 0⟩] scope pos) scope env _ (newList []) false (eval iter env) (some (assign (.Name y py) env))) _ _ s
  refine wpAny_bind (wpAny_mono (wpAny_comprehension_free (use := some (assign (.Name y py) env)) (Q := fun _ s' => Q .next s') rfl hs hclos hkind hnames
    (wpAny_mono h (fun xv s₁ h₁ => ?_) fun _ _ e => e)) (fun _ s' hq => wpAny_pure (wpAny_pure hq)) fun _ _ e => e)
  refine wpAny_mono h₁ (fun it s₂ h₂ => ?_) fun _ _ e => e
  obtain ⟨I, fp, n, P, St, S, news, W, hsz, hIo, hSt, hst, hfp, F, N, hLI, hI₀, off, hS, R⟩ := h₂
  refine block_U W hsz hIo hSt hcell hkind hx hst hfp F N hLI hI₀ off hS R ?_
  intro D C h' tk m' ys news' F' N' o1 hn hC₀ hD₀ hCL hDL hCD offC fin
  show wpAny _ A (assign (.Name y py) env (.ref D)) _ _ _
  refine wpAny_assign_Name (wpAny_storeName_local hy F'.ns (fun h₂ hn₂ hs₂ => ?_) hp)
  have hL₀ : h₀.get? env.locals = none := Heap.get?_none_of_le F'.above
  have F₂ : Fr h₀ env.locals h₂ (fun z => if z = y then some (.ref D) else m z) := ⟨hn₂, fun b o e => hs₂.extBut b o (fun q => by rw [q, hL₀] at e; cases e) (F'.keep b o e), F'.above⟩
  refine ⟨m', hn.sameBut hs₂ hCL, fun h'' hs'' => fin D h'' _ (F₂.change hs'' hCL hC₀) (fun p hp => ?_) o1⟩
  have z : h₂.get? p.1 = some p.2 := hs₂.extBut _ _ (N' p hp).2.1 (N' p hp).1
  refine ⟨hs''.extBut _ _ ?_ z, (N' p hp).2⟩
  rcases List.mem_cons.mp hp with rfl | hp
  · exact Ne.symm hCD
  · exact offC p hp

variable {elt ct : Expr} {x : Str} {scope : Scope} {cl : List (Str × Addr)} {S : List (Addr × Obj) → Prop} {P : Nat → Value → Prop} {Fin : List Value → List (Addr × Obj) → Prop}
theorem endMono {I C D : Addr} {oI oC oD : Obj} {r r' : Value → List (Addr × Obj) → Prop} {y y' : Value} {s₂ : Shared} (q : CompEnd h₀ L m s I oI C oC D oD S r y s₂) (h : ∀ nw, r y nw → r' y' nw) : CompEnd h₀ L m s I oI C oC D oD S r' y' s₂ :=
  let ⟨a, b, c, d, e, f, g, k, l⟩ := q; ⟨a, b, c, d, e, f, g, k, h _ l⟩
/-- the turns by an invariant over what is gathered and the ledger -/
theorem rest_J {n : Nat} (J : Nat → List Value → List (Addr × Obj) → Prop) (h0 : J 0 [] news)
    (turn : ∀ i ys nw v I oI C oC D m₂ h tk (E' : Value → Shared → Prop), i < n → P i v → J i ys nw → NsObj oC m₂ → m₂ x = some v → Fr h₀ L h m → News h₀ L h ((I, oI) :: (C, oC) :: (D, lst ys) :: nw) → Off3 I C D nw → ((@Ne Nat I C) ∧ (@Ne Nat I D) ∧ (@Ne Nat C D)) →
      wpAny (model prog w) A (eval elt (compEnvC scope cl C env)) (CompEnd h₀ L m { s with heap := h, toks := tk } I oI C oC D (lst ys) S (fun y nw' => J (i + 1) (ys ++ [y]) nw')) E' { s with heap := h, toks := tk })
    (fin : ∀ ys nw, J n ys nw → Fin ys nw) : CompRest prog w A h₀ L m env elt x scope cl s S P Fin n 0 [] news := by
  have key : ∀ (j i : Nat) (ys : List Value) (nw : List (Addr × Obj)), i + j = n → J i ys nw → CompRest prog w A h₀ L m env elt x scope cl s S P Fin j i ys nw := by
    intro j
    induction j with
    | zero => exact fun i ys nw hi hy => CompRest.zero (fin ys nw (hi ▸ hy))
    | succ j ih =>
      exact fun i ys nw hi hy => CompRest.succ fun v I oI C oC D m₂ h tk E' hv hC hx F N off ne =>
        wpAny_mono (turn i ys nw v I oI C oC D m₂ h tk E' (hi ▸ Nat.lt_add_of_pos_right (Nat.succ_pos j)) hv hy hC hx F N off ne) (fun y s₂ hq => endMono hq fun nw' hn => ih (i + 1) _ _ ((Nat.succ_add i j).trans hi) hn) fun _ _ e => e
  exact key n 0 [] news (Nat.zero_add n) h0
theorem F2.strs {α : Type} {f : α → Str} {ks : List α} {ys : List Value} (h : F2 (fun k y => ∃ t, y = .str (f k) t) ks ys) : StrsAre ys (ks.map f) := by
  induction h with
  | nil => exact .nil
  | cons y _ ih => exact y.elim fun t e => e ▸ .cons _ t ih
theorem F2.ints {α : Type} {f : α → Int} {ks : List α} {ys : List Value} (h : F2 (fun k y => ∃ t, y = .int (f k) t) ks ys) : IntsAre ys (ks.map f) := by
  induction h with
  | nil => exact .nil
  | cons y _ ih => exact y.elim fun t e => e ▸ .cons _ t ih
theorem strs_snoc {y : Str} {t : Tok} {vs : List Value} {ys : List Str} (h : StrsAre vs ys) : StrsAre (vs ++ [.str y t]) (ys ++ [y]) := by
  induction h with
  | nil => exact .cons y t .nil
  | cons z u _ ih => exact .cons z u ih
theorem take_next {α : Type} {ks : List α} {i : Nat} {k : α} (hk : ks[i]? = some k) : ks.take (i + 1) = ks.take i ++ [k] := by rw [List.take_add_one, hk]; rfl
/-- elements told by the items; the ledger stays -/
theorem rest_map {α : Type} {ks : List α} (r : α → Value → Prop) (item : α → Value → Prop) {n : Nat} (hks : ks.length = n) (hP : ∀ i v, i < n → P i v → ∃ k, ks[i]? = some k ∧ item k v)
    (turn : ∀ k v I oI C oC D m₂ ys h tk (E' : Value → Shared → Prop), k ∈ ks → item k v → NsObj oC m₂ → m₂ x = some v → Fr h₀ L h m → News h₀ L h ((I, oI) :: (C, oC) :: (D, lst ys) :: news) → Off3 I C D news → ((@Ne Nat I C) ∧ (@Ne Nat I D) ∧ (@Ne Nat C D)) →
      wpAny (model prog w) A (eval elt (compEnvC scope cl C env)) (CompEnd h₀ L m { s with heap := h, toks := tk } I oI C oC D (lst ys) S (fun y nw' => nw' = news ∧ r k y)) E' { s with heap := h, toks := tk })
    (fin : ∀ ys, F2 r ks ys → Fin ys news) : CompRest prog w A h₀ L m env elt x scope cl s S P Fin n 0 [] news :=
  rest_J (fun i ys nw => nw = news ∧ F2 r (ks.take i) ys) ⟨rfl, .nil⟩
    (fun i ys nw v I oI C oC D m₂ h tk E' hi hv ⟨e, hy⟩ hC hx F N off ne => by
      subst e
      obtain ⟨k, hk, hk'⟩ := hP i v hi hv
      exact wpAny_mono (turn k v I oI C oC D m₂ ys h tk E' (List.mem_of_getElem? hk) hk' hC hx F N off ne) (fun y s₂ hq => endMono hq fun nw' hn => ⟨hn.1, take_next hk ▸ forall2_snoc hy hn.2⟩) fun _ _ e => e)
    fun ys nw ⟨e, hy⟩ => e ▸ fin ys (by rwa [← hks, List.take_length] at hy)
/-- elements that are texts; the ledger stays -/
theorem rest_strs {α : Type} {ks : List α} (f : α → Str) (item : α → Value → Prop) {n : Nat} (hks : ks.length = n) (hP : ∀ i v, i < n → P i v → ∃ k, ks[i]? = some k ∧ item k v)
    (turn : ∀ k v I oI C oC D m₂ ys h tk (E' : Value → Shared → Prop), k ∈ ks → item k v → NsObj oC m₂ → m₂ x = some v → Fr h₀ L h m → News h₀ L h ((I, oI) :: (C, oC) :: (D, lst ys) :: news) → Off3 I C D news → ((@Ne Nat I C) ∧ (@Ne Nat I D) ∧ (@Ne Nat C D)) →
      wpAny (model prog w) A (eval elt (compEnvC scope cl C env)) (CompEnd h₀ L m { s with heap := h, toks := tk } I oI C oC D (lst ys) S (fun y nw' => nw' = news ∧ ∃ t, y = .str (f k) t)) E' { s with heap := h, toks := tk })
    (fin : ∀ ys, StrsAre ys (ks.map f) → Fin ys news) : CompRest prog w A h₀ L m env elt x scope cl s S P Fin n 0 [] news :=
  rest_map (fun k y => ∃ t, y = .str (f k) t) item hks hP turn fun ys q => fin ys q.strs
theorem rest_ints {α : Type} {ks : List α} (f : α → Int) (item : α → Value → Prop) {n : Nat} (hks : ks.length = n) (hP : ∀ i v, i < n → P i v → ∃ k, ks[i]? = some k ∧ item k v)
    (turn : ∀ k v I oI C oC D m₂ ys h tk (E' : Value → Shared → Prop), k ∈ ks → item k v → NsObj oC m₂ → m₂ x = some v → Fr h₀ L h m → News h₀ L h ((I, oI) :: (C, oC) :: (D, lst ys) :: news) → Off3 I C D news → ((@Ne Nat I C) ∧ (@Ne Nat I D) ∧ (@Ne Nat C D)) →
      wpAny (model prog w) A (eval elt (compEnvC scope cl C env)) (CompEnd h₀ L m { s with heap := h, toks := tk } I oI C oC D (lst ys) S (fun y nw' => nw' = news ∧ ∃ t, y = .int (f k) t)) E' { s with heap := h, toks := tk })
    (fin : ∀ ys, IntsAre ys (ks.map f) → Fin ys news) : CompRest prog w A h₀ L m env elt x scope cl s S P Fin n 0 [] news :=
  rest_map (fun k y => ∃ t, y = .int (f k) t) item hks hP turn fun ys q => fin ys q.ints
/-- the items that pass a test, as they are -/
theorem restT_items {α : Type} {ks : List α} (q : α → Bool) (item : α → Value → Prop) {n : Nat} (hks : ks.length = n) (hP : ∀ i v, i < n → P i v → ∃ k, ks[i]? = some k ∧ item k v)
    (turn : ∀ k v I oI C oC D m₂ ys h tk (E' : Value → Shared → Prop), k ∈ ks → item k v → NsObj oC m₂ → m₂ x = some v → Fr h₀ L h m → News h₀ L h ((I, oI) :: (C, oC) :: (D, lst ys) :: news) → Off3 I C D news → ((@Ne Nat I C) ∧ (@Ne Nat I D) ∧ (@Ne Nat C D)) →
      wpAny (model prog w) A (isTrue ct (compEnvC scope cl C env) (eval ct (compEnvC scope cl C env))) (fun b s' => if b = true then
        wpAny (model prog w) A (eval elt (compEnvC scope cl C env)) (CompEnd h₀ L m { s with heap := h, toks := tk } I oI C oC D (lst ys) S (fun y nw' => nw' = news ∧ q k = true ∧ item k y)) E' s'
        else CompEnd h₀ L m { s with heap := h, toks := tk } I oI C oC D (lst ys) S (fun _ nw' => nw' = news ∧ q k = false) Value.none s') E' { s with heap := h, toks := tk })
    (fin : ∀ ys, F2 item (ks.filter q) ys → Fin ys news) : LCt.CompRestT prog w A h₀ L m env ct elt x scope cl s S P Fin n 0 [] news := by
  have key : ∀ (j i : Nat) (ys : List Value), i + j = n → F2 item ((ks.take i).filter q) ys → LCt.CompRestT prog w A h₀ L m env ct elt x scope cl s S P Fin j i ys news := by
    intro j
    induction j with
    | zero =>
      refine fun i ys hi hy => LCt.CompRestT.zero (fin ys ?_)
      rwa [show i = ks.length from hi.trans hks.symm, List.take_length] at hy
    | succ j ih =>
      refine fun i ys hi hy => LCt.CompRestT.succ fun v I oI C oC D m₂ h tk E' hv hC hx F N off ne => ?_
      obtain ⟨k, hk, hk'⟩ := hP i v (hi ▸ Nat.lt_add_of_pos_right (Nat.succ_pos j)) hv
      refine wpAny_mono (turn k v I oI C oC D m₂ ys h tk E' (List.mem_of_getElem? hk) hk' hC hx F N off ne) (fun b s₂ => ?_) fun _ _ e => e
      cases b with
      | true => exact fun hq => wpAny_mono hq (fun y s₃ hr => endMono hr fun nw' hn => hn.1 ▸ ih (i + 1) _ ((Nat.succ_add i j).trans hi) (by rw [take_next hk, List.filter_append, List.filter_cons_of_pos hn.2.1, List.filter_nil]; exact forall2_snoc hy hn.2.2)) fun _ _ e => e
      | false => exact fun hq => Eq.mpr (if_neg Bool.false_ne_true) (endMono (Eq.mp (if_neg Bool.false_ne_true) hq) fun nw' hn => hn.1 ▸ ih (i + 1) _ ((Nat.succ_add i j).trans hi) (by rw [take_next hk, List.filter_append, List.filter_cons_of_neg (by rw [hn.2]; exact Bool.false_ne_true), List.filter_nil, List.append_nil]; exact hy))
  exact key n 0 [] (Nat.zero_add n) .nil
end

local macro_rules | `(tactic| walk_at $s:str) => do
  let t := Lean.Syntax.mkStrLit ("!" ++ s.getString)
  `(tactic| k_extra $t)
local macro_rules | `(tactic| k_all) => `(tactic| k_extra "all")
local macro_rules | `(tactic| ktr_units) => `(tactic| k_extra "units")
local macro_rules | `(tactic| ktr_room) => `(tactic| k_extra "room")
local macro_rules | `(tactic| cell_enter) => `(tactic| k_extra "cell")
local macro_rules | `(tactic| ksw_same) => `(tactic| k_extra "same")
local macro_rules | `(tactic| k_steps) => `(tactic| k_extra "steps")
local macro_rules | `(tactic| omega) => `(tactic| k_extra "omega")
local macro_rules | `(tactic| units_room) => `(tactic| k_extra "uroom")
local macro_rules | `(tactic| k_mem) => `(tactic| k_extra "mem")
theorem rows_all : True := by
  (k_with "!pre fn" => first | assumption | exact rfl)
  (k_with "!pre" => first | with_reducible assumption | with_reducible exact Nat.zero_le _ | with_reducible exact Int.natCast_nonneg _ | omega | assumption | exact rfl | l_fact)
  (k_with "!pre mem" => first | assumption | k_mem)
  (k_with "!nw" => first | k_asm | (refine cb_drop (by assumption) (by kcf_all)))
  (k_with "!fin" => first | (simp_all; done) | (simp_all; omega) | (simp_all; intros; omega))
  (k_with "!call ref" => k_extra "mc")
  (k_with "!eval ListComp" => (k_here; k_dflt (first
  | ((with_reducible show wpAny _ _ (eval (Expr.ListComp _ [Comprehension.mk (Expr.Name _ _) _ [] 0] _ _) _) _ _ _); refine comp_W (F₀ := by k_asm) (by with_unfolding_all rfl) (by decide) (by rfl) (by decide) (by rfl) ?_)
  | ((with_reducible show wpAny _ _ (eval (Expr.ListComp _ [Comprehension.mk (Expr.Name _ _) _ [_] 0] _ _) _) _ _ _); refine comp_WT (F₀ := by k_asm) (by with_unfolding_all rfl) (by decide) (by rfl) (by decide) (by rfl) ?_))))
  (k_with "!ce" => refine LCg.CompEnd.intro (by assumption) (by assumption) _ (by kcf_all) (by assumption) (by first | exact True.intro | assumption) ?_)
  (k_with "all" => assumption)
  (k_with "!lt" => first | assumption | exact ltAll (And.right (by assumption)) | exact ltAll (And.right (And.right (by assumption))) | exact ltAll (And.right (And.right (And.right (by assumption)))) | exact ltAll (And.right (And.right (And.right (And.right (by assumption))))))
  (k_with "!lt1" => first | assumption | exact And.left (by assumption) | exact And.left (And.right (by assumption)))
  (k_with "!exec Assign cons ListComp" => (k_here; (with_reducible show wpAny _ _ (exec (Stmt.Assign [Expr.Name _ _] (Expr.ListComp _ [Comprehension.mk (Expr.Name _ _) _ [] 0] _ _) _) _) _ _ _); k_dflt refine comp_WA (F₀ := by k_asm) (by rfl) (by with_unfolding_all rfl) (by with_unfolding_all rfl) (by decide) (by rfl) (by decide) (by rfl) (by rfl) (by rfl) ?_))
  (k_with "!cellD" => (refine enter_E (by exact rfl) (by exact rfl) (by assumption) (by k_asm) (by k_asm) (by k_asm) (by k_asm) (by k_asm) (by k_is) (by k_is) (by ktr_room) (by exact binds_K (by k_in) rfl (by k_is) rfl rfl rfl) (by exact locs rfl) ?_ (by exact rfl) (by exact rfl) (by exact rfl) (by decide); k_whole; intro g₇ L₇ h₇ tk₇ gs₇ ds₇ os₇ env₇ m₇ A₇ FG₇ F₇ N₇ B₇ X₇ T₇; (try dsimp only); (try k_lift B₇); (try k_fold)))
  (k_with "!cellI" => (refine enter_E (by exact rfl) (by exact rfl) (by first | assumption | exact rfl) (by k_asm) (by k_asm) (by k_asm) (by k_asm) (by k_asm) (by k_is) (by k_is) (by ktr_room) (by first | exact BindsTo.of_eq rfl | exact binds_K (by k_in) rfl (by k_is) rfl rfl rfl) (by exact locs rfl) ?_ (by exact rfl) (by exact rfl) (by exact rfl) (by decide); k_whole; intro g₇ L₇ h₇ tk₇ gs₇ ds₇ os₇ env₇ m₇ A₇ FG₇ F₇ N₇ B₇ X₇ T₇; (try dsimp only); (try k_lift B₇); (try k_fold)))
  (k_with "!cls" => (refine call_cls (by k_asm) (by k_asm) (by k_asm) (by k_is) (by k_is) (by k_is) ?_; k_whole; intro x₇ d₇ h₇ F₇ N₇ l1 l2; (try k_lt l1); (try k_lt2 l2); (try k_sweep); k_extra "!cellI"))
  (k_with "units" => (have hcL9 := cLine_is; ((try simp only [units_under_make, units_in1, units_deeper, Around.mark_units, units_caller] at *); (try dsimp only [ktrTop] at *); omega)))
  (k_with "!bsm" => first | k_mem | assumption | exact List.Mem.tail _ (by assumption) | exact List.Mem.tail _ (List.Mem.tail _ (by assumption)) | exact List.Mem.tail _ (List.Mem.tail _ (List.Mem.tail _ (by assumption))) | exact List.Mem.tail _ (List.Mem.tail _ (List.Mem.tail _ (List.Mem.tail _ (by assumption)))))
  (k_with "room" => first | exact room1 (by assumption) (by decide) | exact room2 (by assumption) (by decide) | exact room0 (by assumption) (by decide) | fail "no room")
  (k_with "units" => first | exact unit1 (by assumption) (by decide) | exact unit2 (by assumption) (by decide) | exact room0 (by assumption) (by decide) | fail "no room")
  (k_with "!nwN" => first | k_asm | exact News.tl (by k_asm) | exact News.tl (News.tl (by k_asm)) | exact News.tl (News.tl (News.tl (by k_asm))))
  (k_with "cell" => first
  | (refine enter_C (by exact rfl) (by exact rfl) (by first | exact hk | assumption) (by k_asm) (by k_asm) (by k_asm) (by k_asm) (by k_asm) (by k_is) (by k_is) (by ktr_room) (by exact BindsTo.of_eq rfl) (by exact rfl) ?_; k_whole; intro g₇ L₇ h₇ tk₇ gs₇ ds₇ os₇ env₇ m₇ A₇ qk ek FG₇ F₇ N₇ B₇ X₇ T₇; (try k_lift B₇))
  | (walk_say "ENTER by hand"; refine wpAny_call ?_; refine enter_E (by exact rfl) (by exact rfl) (by assumption) (by k_asm) (by k_asm) (by k_asm) (by k_asm) (by k_asm) (by k_is) (by k_is) (by ktr_room) (by exact BindsTo.of_eq rfl) (by exact locs rfl) ?_ (by exact rfl) (by exact rfl) (by exact rfl) (by decide); k_whole; intro g₇ L₇ h₇ tk₇ gs₇ ds₇ os₇ env₇ m₇ A₇ FG₇ F₇ N₇ B₇ X₇ T₇; (try dsimp only); (try k_lift B₇); (try k_fold)))
  (k_with "!storeName" => (k_here; (with_reducible refine store_E (by k_dflt (exact rfl)) (by k_dflt k_asm) (by k_dflt k_asm) ?_ (by k_dflt rfl) (by k_dflt rfl)); k_whole; intro m₈ h₈ tk₈ F₈ N₈; (try k_sweep)))
  (k_with "same" => (intro z h2 h3; repeat (first | exact rfl | exact if_neg (Bool.eq_false_iff.mp h3) | (refine ite_skip (by first | exact h2 _ (.head _) | exact h2 _ (.tail _ (.head _)) | exact not_in h3 | exact not_in (not_in' h3) | exact not_in (not_in' (not_in' h3))) ?_))))
  (k_with "steps" => repeat' (first
  | ((with_reducible refine seq_next ?_); (try dsimp only))
  | (with_reducible refine seq_ret ?_)
  | (with_reducible refine ret_V ?_)
  | (with_reducible refine nxt_V ?_)
  | ((with_reducible show LeaveV _ _ _ _ _ _ _); k_dflt (refine leaveV (by k_asm) (by k_asm) ?_; k_whole); intro kF kN; (try dsimp only))
  | (with_reducible refine seq_brk ?_)
  | (with_reducible refine seq_cont ?_)
  | (k_unfold; (try dsimp only)) | (k_end; wrow_close) | ((with_reducible first | show wpAny _ _ (execs (_ :: _) _) _ _ _ | show wpAny _ _ (exec _ _) _ _ _); (fail_if_success (fail_if_success k_fold)); (with_reducible refine fold_Q ?_); intro qk ek) | walk1 | (dsimp only; walk1) | (leave1; walk_say "STEP leave1"; try dsimp only) | fail "no step"))
  (k_with "!execs cons" => ((with_reducible refine cons_E ?_); intro qk))
  (k_with "execsP" => ((with_reducible refine wpAny_execs_cons ?_); try dsimp only))
  (k_with "omega" => first | decide | ((fail_if_success (fail_if_success omega +splitDisjunctions)); lia))
  (k_with "uroom" => first | exact unit0 (by assumption) (by decide) | exact unit1 (by assumption) (by decide) | exact unitL (by k_dflt assumption))
  (k_with "!exec Raise some none" => (k_here; (with_reducible show wpAny _ _ (exec (Stmt.Raise (some (Expr.Call (Expr.Name _ _) (_ :: _) [] _)) none _) _) _ _ _); (with_reducible refine Raise_new (by k_dflt rfl) ?_)))
  (k_with "!subscriptTail" => (k_here; (fail_if_success (with_reducible show wpAny _ _ (subscriptTail (PySem.Expr.Name _ _) _ _ _) _ _ _)); k_dflt (refine kba_turn (value' := PySem.Expr.Name (PySem.Str.ofString "_") ⟨0, 0, 0, 0⟩) (fun _ => rfl) ?_)))
  (k_with "!subscriptTail" => (k_here; (with_reducible show wpAny _ _ (subscriptTail _ _ (Value.bytes _ _) (Value.int _ _)) _ _ _); (refine KBw.item_K (by kba_ints) (by kba_size) (by omega) (by omega) ?_); intro _ _ kbaLo kbaHi))
  (k_with "!callWith ref" => (k_here; (first | (with_reducible refine callWith_K (by k_dflt k_asm) (by k_dflt k_is) ?_ (by k_dflt rfl) (by k_dflt rfl)) | (with_reducible refine call_0 (by k_dflt k_asm) (by k_dflt k_asm) (by k_dflt k_is) ?_)); k_whole))
  (k_with "!callWith" => (first
  | (with_reducible refine PyProof.Rows.callWith_builtin1 ?_ (by k_dflt rfl) (by k_dflt rfl))
  | (with_reducible refine callWith_method1 ?_ (by k_dflt rfl) (by k_dflt rfl))))
  (k_with "!eval Call Attribute" => (with_reducible refine MethodCall_ ?_ (by k_dflt rfl)))
  (k_with "!eval Name" => (k_here; (fail_if_success (with_reducible show wpAny _ _ (eval (Expr.Name _ _) (PySem.compEnvC _ _ _ _)) _ _ _)); (first
  | (with_reducible refine name_E (by k_dflt k_asm) (by k_dflt (exact rfl)) (by k_dflt (exact rfl)) (by k_dflt (exact rfl)) (by k_dflt (k_extra "!evv")) (by k_dflt decide) ?_)
  | (with_reducible refine name_G (by k_dflt (exact rfl)) (by k_dflt (exact rfl)) (by k_dflt k_asm) (by k_dflt k_asm) (by k_dflt k_asm) (by k_dflt k_is) (by k_dflt (exact rfl)) (by k_dflt decide) ?_)
  | (with_reducible refine name_B (by k_dflt (exact rfl)) (by k_dflt (exact rfl)) (by k_dflt k_asm) (by k_dflt k_asm) (by k_dflt k_asm) (by k_dflt k_is) (by k_dflt boot_fast) (by k_dflt decide) (by k_dflt (exact rfl)) (by k_dflt decide) ?_)); k_whole))
  (k_with "!exec Assign" => (k_here; (with_reducible show wpAny _ _ (exec (Stmt.Assign [Expr.Name _ _] _ _) _) _ _ _); (with_reducible refine wpAny_Assign_Name ?_ (by k_dflt rfl))))
  (k_with "!ite" => first | (with_reducible refine if_t ?_) | (with_reducible refine if_f ?_) | (k_closed; (first | (with_reducible refine PySem.W.ite_pos (by k_dflt decide) ?_) | (with_reducible refine PySem.W.ite_neg (by k_dflt decide) ?_))))
  (k_with "!evv" => exact rfl)
  (k_with "!ev" => (first
  | ((with_reducible show Ev _ _ _ _ _ _ (Expr.Name _ _) _ _ _); refine ev_loc (by k_asm) (by exact rfl) (by exact rfl) (by exact rfl) (by k_extra "!evv") (by decide))
  | exact ev_int | exact ev_str | exact ev_bytes
  | ((with_reducible show Ev _ _ _ _ _ _ (Expr.BinOp _ Operator.Add _ _) _ _ _); refine ev_add (by k_extra "!ev") (by k_extra "!ev"))
  | ((with_reducible show Ev _ _ _ _ _ _ (Expr.BinOp _ Operator.Sub _ _) _ _ _); refine ev_sub (by k_extra "!ev") (by k_extra "!ev"))))
  (k_with "!evl" => first | exact evl_nil | ((with_reducible show EvL _ _ _ _ _ _ (_ :: _) _ _ _); refine evl_cons (by k_extra "!ev") (by k_extra "!evl") (by exact rfl)))
  (k_with "!eval BinOp" => (k_here; (with_reducible refine bin_E (by k_dflt (k_extra "!ev")) (by k_dflt (k_extra "!ev")) ?_); k_whole))
  (k_with "!isTrue Compare" => (k_here; (with_reducible show wpAny _ _ (isTrue (Expr.Compare _ [_] [_] _) _ _) _ _ _); (with_reducible refine cmp_E (by k_dflt (k_extra "!ev")) (by k_dflt (k_extra "!ev")) (by with_unfolding_all rfl) ?_); k_whole))
  (k_with "!eval Subscript" => (k_here; (with_reducible refine sub_E (by k_dflt (k_extra "!ev")) (by k_dflt (k_extra "!ev")) ?_); k_whole))
  (k_with "!spliced" => (with_reducible refine args_cons ?_ (by k_dflt rfl)))
  (k_with "!spliced" => (k_here; (with_reducible refine args_E (by k_dflt (k_extra "!evl")) ?_); k_whole; (try dsimp only [List.cons_append, List.nil_append])))
  (k_with "!eval Call" => (k_here; (with_reducible show wpAny _ _ (eval (Expr.Call (Expr.Name _ _) _ [] _) _) _ _ _); (with_reducible refine Call_ ?_ (by k_dflt rfl))))
  (k_with "!eval Call" => (k_here; (with_reducible show wpAny _ _ (eval (Expr.Call (Expr.Name _ _) (_ :: _) [] _) _) _ _ _); (first
  | (with_reducible refine call_E (by k_dflt (exact rfl)) (by k_dflt k_asm) (by k_dflt k_asm) (by k_dflt k_asm) (by k_dflt k_is) (by k_dflt k_is) (by k_dflt (k_extra "!evl")) ?_ (by k_dflt (exact rfl)) (by k_dflt (exact rfl)) (by k_dflt decide) (by k_dflt (exact rfl)) (by k_dflt (exact rfl)))
  | (with_reducible refine call_B (by k_dflt (exact rfl)) (by k_dflt k_asm) (by k_dflt k_asm) (by k_dflt k_asm) (by k_dflt k_is) (by k_dflt boot_fast) (by k_dflt (exact rfl)) (by k_dflt decide) (by k_dflt (k_extra "!evl")) ?_ (by k_dflt (exact rfl)) (by k_dflt (exact rfl)) (by k_dflt decide) (by k_dflt (exact rfl)) (by k_dflt (exact rfl)))); k_whole))
  (k_with "cellP" => (refine wpAny_call ?_; refine code_def (by k_asm) (by k_asm) (by k_asm) (by k_asm) (by k_asm) (by exact rfl) (by exact rfl) (by assumption) (by k_is) (by k_is) (by ktr_room) (by exact BindsTo.of_eq rfl) (by exact locs rfl) ?_ (by exact rfl) (by exact rfl) (by exact rfl) (by decide); k_whole; intro g₇ L₇ h₇ FG₇ F₇ N₇ B₇ X₇ T₇; (try dsimp only); (try k_lift B₇); (try k_fold)))
  (k_with "storeP" => (k_here; k_dflt (refine storeX_L (by k_asm) (by k_asm) ?_ (by rfl) (by rfl); k_whole; intro h₈ F₈ N₈; (try k_sweep))))
  (k_with "stepsP" => repeat' (first | (k_unfold; (try dsimp only)) | (k_end; wrow_close) | walk1 | (dsimp only; walk1) | (leave1; walk_say "STEP leave1"; try dsimp only) | fail "no step"))
  (k_with "!exec While Compare cons nil" => (refine Stop.out ?_))
  (k_with "!exec While BoolOp cons nil" => (refine Stop.out ?_))
  (k_with "!call ref cons nil" => ((with_reducible refine stop_call (by assumption) ?_); (rename StopM _ => hS₇); clear hS₇))
  (k_with "!subscriptTail Name Slice ref ref" => ((rename StopM 1 => hS₇); clear hS₇; refine Stop.out ?_))
  (k_with "!subscriptTail Name Subscript ref int" => ((rename StopM 1 => hS₇); clear hS₇; refine Stop.out ?_))
  (k_with "!subscriptTail Name Name bytes int" => ((rename StopM 1 => hS₇); clear hS₇; refine Stop.out ?_))
  (k_with "!subscriptTail Name Constant ref int" => ((rename StopM 7 => hS₇); clear hS₇; refine Stop.out ?_))
  (k_with "!KswEnd cons" => ((rename StopM 2 => hS₇); clear hS₇; refine Stop.out ?_))
  (k_with "!KswEnd nil" => ((rename StopM 2 => hS₇); clear hS₇; refine Stop.out ?_))
  (k_with "!binaryOp Add ref ref" => ((rename StopM 3 => hS₇); clear hS₇; refine Stop.out ?_))
  (k_with "!compareOp NotEq ref ref" => ((rename StopM 4 => hS₇); clear hS₇; refine Stop.out ?_))
  (k_with "!compareOp Eq ref ref" => ((rename StopM 4 => hS₇); clear hS₇; refine Stop.out ?_))
  (k_with "!call builtin:str.join cons nil" => ((rename StopM 5 => hS₇); clear hS₇; refine Stop.out ?_))
  (k_with "!call builtin:bytes.join cons nil" => ((rename StopM 5 => hS₇); clear hS₇; refine Stop.out ?_))
  (k_with "!call builtin:list.index cons nil" => ((rename StopM 5 => hS₇); clear hS₇; refine Stop.out ?_))
  (k_with "!call type:bytes cons nil" => ((rename StopM 5 => hS₇); clear hS₇; refine Stop.out ?_))
  (k_with "!getAttr ref true" => ((rename StopM 6 => hS₇); clear hS₇; refine Stop.out ?_))
  (k_with "!setAttr ref str" => ((rename StopM 6 => hS₇); clear hS₇; refine Stop.out ?_))
  (k_with "!setAttr ref int" => ((rename StopM 6 => hS₇); clear hS₇; refine Stop.out ?_))
  trivial

-- part prim
section
open Builtin Builtin.Bytes
theorem sb_bytes : typeLookup (.type "bytes") "__buffer__" = pure (some (.builtin "bytes.__buffer__")) := by rw [typeLookup_type, builtinLookup_eq_fast]; kernel_rfl
theorem so_bytes (b : Array UInt8) (t : Tok) : specialOf (.bytes b t) "__buffer__" = pure (some (.builtin "bytes.__buffer__")) := by
  unfold specialOf
  show (pure (.type "bytes") >>= fun ty => typeLookup ty "__buffer__") = _
  exact sb_bytes
theorem buf_bytes (b : Array UInt8) (t : Tok) (id : String) (full : Bool) : buffer? id (.bytes b t) full = pure (some b) := by
  unfold buffer?
  rw [so_bytes]
  kernel_rfl
theorem take_bytes (b : Array UInt8) (t : Tok) (id : String) : takeBufferQuiet? id (.bytes b t) 0 = pure (some (b, none)) := by
  unfold takeBufferQuiet? takeBuffer?
  rw [so_bytes, buf_bytes]
  kernel_rfl
theorem cont_int (b : Array UInt8) (t u : Tok) (i : Int) (h0 : 0 ≤ i) (h1 : i < 256) : containsIn "bytes.__contains__" (.bytes b t) (.int i u) = pure (b.contains i.toNat.toUInt8) := by
  have e : (decide (i < 0) || decide (i ≥ 256)) = false := by simp; omega
  unfold containsIn
  rw [buf_bytes]
  show (if (decide (i < 0) || decide (i ≥ 256)) = true then _ else pure (b.contains i.toNat.toUInt8)) = _
  rw [e]
  rfl
theorem gives_in_int (b : Array UInt8) (t u : Tok) (i : Int) (h0 : 0 ≤ i) (h1 : i < 256) : Gives («bytes.__contains__» ⟨[.bytes b t, .int i u], []⟩) (.val (.bool (b.contains i.toNat.toUInt8))) := by
  refine .of_eq ?_
  show (containsIn "bytes.__contains__" (.bytes b t) (.int i u) >>= fun x => ret (.bool x)) = _
  rw [cont_int b t u i h0 h1]
  rfl
section
variable {prog : Program} {w : World} {A : Around} {E : Value → Shared → Prop} {s : Shared}
theorem in_bytes_int {b : Array UInt8} {t u : Tok} {i : Int} {Q : Value → Shared → Prop} (h0 : 0 ≤ i) (h1 : i < 256) (h : Q (.bool (b.contains i.toNat.toUInt8)) s) :
    wpAny (model prog w) A (compareOp .In (.int i u) (.bytes b t)) Q E s :=
  in_gives (typeIs_bytes s b t) FB.slot_bytes_contains FB.entry_bytes_contains (FB.args_bytes_contains_2 _ _) (gives_in_int b t u i h0 h1) h
end
theorem tn_bytes (b : Array UInt8) (t : Tok) : PySem.typeNameOfCut 200 (.bytes b t) = pure "bytes" := by kernel_rfl
theorem asInt_bytes (b : Array UInt8) (t : Tok) : asInt? (.bytes b t) = pure none := by kernel_rfl
theorem noIndex_bytes : typeLookup (.type "bytes") "__index__" = pure none := by rw [typeLookup_type, builtinLookup_eq_fast]; kernel_rfl
section
variable {prog : Program} {w : World} {A : Around} {E : Value → Shared → Prop} {s : Shared} {h₀ : Heap} {L : Addr} {m : Str → Option Value} {news : List (Addr × Obj)}
theorem in_bytes_bytes {b c : Array UInt8} {t u : Tok} {Q : Value → Shared → Prop} (F : Fr h₀ L s.heap m) (N : News h₀ L s.heap news) (hh : A.handled = none)
    (h : ∀ h' tk, Fr h₀ L h' m → News h₀ L h' news → Q (.bool (find? b c 0 b.size).isSome) { s with heap := h', toks := tk }) :
    wpAny (model prog w) A (compareOp .In (.bytes c u) (.bytes b t)) Q E s := by
  show wpAny _ _ (do return .bool (← contains (.bytes b t) (.bytes c u))) Q E s
  refine wpAny_bind (wpAny_contains_slot (typeIs_bytes s b t) FB.slot_bytes_contains (wpAny_call_entry FB.slot_bytes_contains (typeIs_bytes s b t) FB.entry_bytes_contains ?_ (FB.args_bytes_contains_2 _ _)))
  show wpAny _ _ (containsIn "bytes.__contains__" (.bytes b t) (.bytes c u) >>= fun x => ret (.bool x)) _ _ s
  unfold containsIn
  rw [buf_bytes]
  refine wpAny_bind (wpAny_bind (wpAny_attempt ?_))
  unfold asIndex
  rw [asInt_bytes]
  show wpAny _ _ (callSpecial? (.bytes c u) "__index__" >>= fun r => _) _ _ s
  refine wpAny_bind (wpAny_callSpecial?_none (typeIs_bytes s c u) noIndex_bytes ?_)
  rw [tn_bytes]
  show wpAny _ _ (raiseErrorMade "TypeError" _) _ _ s
  refine wpAny_raiseErrorMade plainExc_TypeError hh (fun h' tk e ne => ?_) (by decide +kernel)
  dsimp only
  rw [buf_bytes]
  refine wpAny_bind (wpAny_pure ?_)
  dsimp only
  refine wpAny_bind (wpAny_pure ?_)
  refine wpAny_bind (wpAny_rule ?_)
  refine wpAny_pure (wpAny_pure ⟨_, rfl, ?_⟩)
  exact wpAny_pure (wpAny_pure (h h' tk (F.keeps ne.1) (N.grown ne.1)))
end
theorem slot_join : Slot "bytes" "join" "bytes.join" :=
  .of (owner := "bytes") (n := "join") (by rw [typeLookup_type, builtinLookup_eq_fast]; kernel_rfl) (by decide +kernel) (by decide +kernel) (by decide +kernel)
    (by first | exact .inl (by decide +kernel) | exact .inr (by decide +kernel)) (by rw [isSubtype_type]; kernel_rfl)
theorem entry_join : entryFor table "bytes.join" = some Builtin.«bytes.join» := entryFor_of_tree (by kernel_rfl)
theorem args_join (a b : Value) : argsOk "bytes.join" ⟨[a, b], []⟩ := by
  unfold argsOk; rw [signature?_of (id := "bytes.join") (n := ['n', 'i', 'o', 'j']) (o := ['s', 'e', 't', 'y', 'b']) (by kernel_rfl) FB.owner_bytes]; kernel_rfl
theorem type_join : typeOf (.builtin "bytes.join") = pure (.type "method_descriptor") := by show builtinType _ = _; rw [builtinType_eq_fast]; kernel_rfl
theorem method_join {M : Model} {A : Around} {E : Value → Shared → Prop} {s : Shared} {t : Tok} {b : Array UInt8} {pl : Sem Bool} {Q : Value × List Value → Shared → Prop} (h : Q (.builtin "bytes.join", [.bytes b t]) s) : wpAny M A (getMethod (.bytes b t) "join" pl) Q E s := by
  with_reducible exact KBd.method_of (.bytes b t) (typeIs_bytes _ _ _) slot_join type_join (fun _ e => nomatch e) h
theorem mem_pick {items : Array Value} {lo hi : Option Int} {x : Value} (h : x ∈ (slicePick items lo hi none).toList) : x ∈ items.toList := by
  rw [slicePick_plain] at h
  exact List.mem_of_mem_drop (List.mem_of_mem_take h)
theorem fold_le (B : Nat) : ∀ (l : List (Array UInt8)) (a : Nat), (∀ p ∈ l, p.size ≤ B) → l.foldl (fun x y => x + y.size) a ≤ a + B * l.length
  | [], a, _ => by simp
  | p :: r, a, h => by
    rw [List.foldl_cons, List.length_cons]
    have h1 := fold_le B r (a + p.size) fun q hq => h q (.tail _ hq)
    have h2 := h p (.head _)
    have h3 : B * (r.length + 1) = B * r.length + B := Nat.mul_succ _ _
    omega
theorem joined_le (B : Nat) : ∀ (l : List (Array UInt8 × Nat)) (a : Array UInt8), (∀ p ∈ l, p.1.size ≤ B) → (l.foldl (fun out (x : Array UInt8 × Nat) => (if x.2 > 0 then out ++ (#[] : Array UInt8) else out) ++ x.1) a).size ≤ a.size + B * l.length
  | [], a, _ => by simp
  | p :: r, a, h => by
    rw [List.foldl_cons, List.length_cons]
    have h1 := joined_le B r ((if p.2 > 0 then a ++ (#[] : Array UInt8) else a) ++ p.1) fun q hq => h q (.tail _ hq)
    have h2 := h p (.head _)
    have h3 : B * (r.length + 1) = B * r.length + B := Nat.mul_succ _ _
    have h4 : ((if p.2 > 0 then a ++ (#[] : Array UInt8) else a) ++ p.1).size = a.size + p.1.size := by split <;> simp
    omega
section
variable {prog : Program} {w : World} {A : Around} {E : Value → Shared → Prop} {s : Shared} {h₀ : Heap} {L : Addr} {m : Str → Option Value} {news : List (Addr × Obj)}
theorem letGo_all {keep : List Value} {Q : Unit → Shared → Prop} : ∀ (taken : List (Value × Option Value)), (∀ p ∈ taken, ∃ b u, p = (.bytes b u, none)) → Q () s → wpAny (model prog w) A (joinLetGo taken keep) Q E s
  | [], _, h => wpAny_pure h
  | p :: r, ht, h => by
    obtain ⟨b, u, rfl⟩ := ht p (.head _)
    unfold joinLetGo
    dsimp only
    exact wpAny_bind (wpAny_letGo (letGo_all r (fun q hq => ht q (.tail _ hq)) h))
theorem match_one {α : Type} (items : Array Value) (f : Value → α) (g : Array Value → α) (h : ∀ x, items ≠ #[x]) : joinM.match_1 (fun _ => α) items f g = g items := by
  rcases items with ⟨_ | ⟨x, _ | ⟨y, r⟩⟩⟩
  · rfl
  · exact absurd rfl (h x)
  · rfl
theorem join_bytes {t : Tok} {D : Addr} {items : Array Value} {Q : Value → Shared → Prop} (hl : s.heap.IsList D items) (hi : ∀ x ∈ items.toList, ∃ b u, x = .bytes b u ∧ b.size ≤ 100) (hn : items.size ≤ 10000)
    (h : ∀ b t' k, Q (.bytes b t') { s with toks := k }) : wpAny (model prog w) A (call (.builtin "bytes.join") [.bytes #[] t, .ref D]) Q E s := by
  refine wpAny_call_entry slot_join (typeIs_bytes s _ t) entry_join ?_ (args_join _ _)
  show wpAny _ _ (joinM .bytes ⟨[.bytes #[] t, .ref D], []⟩) _ _ s
  unfold joinM
  show wpAny _ _ (joinItems (.ref D) >>= fun seq => _) _ _ s
  refine wpAny_bind ?_
  unfold joinItems
  refine wpAny_bind (wpAny_typeOf hl.typeIs ?_)
  refine wpAny_pure ?_
  have hseq : ∀ {R : Option (Array Value) → Shared → Prop} {E' : Value → Shared → Prop} {A' : Around} {s' : Shared}, s'.heap = s.heap → R (some items) s' → wpAny (model prog w) A' (seqItems? (.ref D)) R E' s' := by
    intro R E' A' s' e hR
    obtain ⟨o, ho, hc, n, hd⟩ := hl
    unfold seqItems?
    refine wpAny_bind (wpAny_load (by rw [e]; exact ho) ?_)
    rw [hd]
    exact wpAny_pure hR
  refine wpAny_bind (hseq rfl ?_)
  dsimp only
  rw [if_pos (show (Kind.bytes == Kind.bytes) = true by rfl)]
  have tyb : ∀ (b : Array UInt8) (u : Tok) (s' : Shared), s'.TypeIs (.bytes b u) "bytes" := fun b u s' => typeIs_bytes s' b u
  have single : ∀ x, items = #[x] → ∃ b u, x = .bytes b u := fun x e => by
    obtain ⟨b, u, h, _⟩ := hi x (by simp [e])
    exact ⟨b, u, h⟩
  by_cases hone : ∃ x, items = #[x]
  · obtain ⟨x, rfl⟩ := hone
    obtain ⟨b, u, rfl⟩ := single x rfl
    show wpAny _ _ (typeOf (.bytes b u) >>= fun ty => _) _ _ s
    refine wpAny_bind (wpAny_typeOf (tyb b u _) ?_)
    rw [if_pos (show (Value.type "bytes" == Value.type "bytes") = true by rfl)]
    exact wpAny_bind (wpAny_rule (wpAny_pure ⟨_, rfl, h b u _⟩))
  · rw [match_one _ _ _ fun x e => hone ⟨x, e⟩]
    refine wpAny_bind ?_
    rw [Std.Legacy.Range.forIn_eq_forIn_range']
    simp only [Std.Legacy.Range.size, Nat.sub_zero, Nat.add_sub_cancel, Nat.div_one]
    refine wpAny_forIn_list _ (fun rest st s' => s' = s ∧ ∃ i, rest = List.range' i (items.size - i) ∧ i ≤ items.size ∧ st.1.size = i ∧ (∀ p ∈ st.1.toList, p.size ≤ 100) ∧ ∀ p ∈ st.2, ∃ b u, p = (.bytes b u, none)) _ ?_ ?_ _ _ ⟨rfl, 0, (by simp), Nat.zero_le _, rfl, (fun p hp => nomatch hp), fun p hp => nomatch hp⟩
    · rintro x rest ⟨parts, taken⟩ s' ⟨rfl, i, hr, hin, hsz, hp, ht⟩
      dsimp only at hsz hp ht
      have hlt : i < items.size := by
        rcases Nat.lt_or_ge i items.size with h | h
        · exact h
        · rw [Nat.sub_eq_zero_of_le h] at hr; simp at hr
      obtain ⟨rfl, hrest⟩ : x = i ∧ rest = List.range' (i + 1) (items.size - (i + 1)) := by
        have e : items.size - i = (items.size - (i + 1)) + 1 := by omega
        rw [e, List.range'_succ] at hr
        injection hr with h1 h2
        exact ⟨h1, h2⟩
      obtain ⟨b, u, hx, hb⟩ := hi items[x] (by simp)
      have hxd : items.getD x .none = .bytes b u := by simp [hlt, hx]
      refine wpAny_bind (hseq rfl ?_)
      dsimp only
      rw [hxd]
      have hno : (Kind.bytes == Kind.bytearray || taken.any fun x => x.fst.onHeap) = false := by
        have : (taken.any fun x => x.fst.onHeap) = false := by
          rw [List.any_eq_false]
          intro p hp
          obtain ⟨b, u, rfl⟩ := ht p hp
          exact Bool.false_ne_true
        rw [this]; rfl
      rw [hno, if_neg Bool.false_ne_true]
      refine wpAny_bind (wpAny_holding ?_)
      rw [take_bytes]
      refine wpAny_pure ?_
      dsimp only
      refine wpAny_bind (hseq rfl ?_)
      dsimp only
      rw [if_neg (by simp)]
      refine wpAny_pure ⟨rfl, x + 1, hrest, hlt, by simp [hsz], ?_, ?_⟩
      · intro p hp'
        simp only [Array.toList_push, List.mem_append, List.mem_singleton] at hp'
        rcases hp' with hp' | rfl
        · exact hp p hp'
        · exact hb
      · intro p hp'
        rcases List.mem_append.mp hp' with hp' | hp'
        · exact ht p hp'
        · rw [List.mem_singleton.mp hp']; exact ⟨_, _, rfl⟩
    · rintro ⟨parts, taken⟩ s' ⟨rfl, i, hr, hin, hsz, hp, ht⟩
      dsimp only at hsz hp ht ⊢
      refine wpAny_bind (wpAny_of_eq (a := #[]) rfl ?_)
      have hl9 := fold_le 100 parts.toList ((#[] : Array UInt8).size * (parts.size - 1)) hp
      have hlong : tooLong (parts.foldl (fun x y => x + y.size) ((#[] : Array UInt8).size * (parts.size - 1))) = false := by
        rw [← Array.foldl_toList]
        simp only [tooLong, decide_eq_false_iff_not, sizeLine_eq]
        simp only [List.size_toArray, List.length_nil, Nat.zero_mul, Array.length_toList] at hl9 ⊢
        omega
      rw [hlong, if_neg Bool.false_ne_true]
      have hj : (joined #[] parts.toList).size ≤ 1000000 := by
        unfold joined
        have h9 := joined_le 100 parts.toList.zipIdx #[] fun p hp' => by
          obtain ⟨q, i⟩ := p
          exact hp q (List.fst_mem_of_mem_zipIdx hp')
        simp only [List.length_zipIdx, Array.length_toList, List.size_toArray, List.length_nil] at h9
        exact Nat.le_trans h9 (by omega)
      refine wpAny_bind ?_
      show wpAny _ _ (mkBytes _) _ _ _
      refine wpAny_mkBytes ?_ (by rw [sizeLine_eq]; omega)
      refine wpAny_bind (wpAny_holding (wpAny_point ?_))
      refine wpAny_bind (letGo_all _ ht ?_)
      exact wpAny_pure ⟨_, rfl, h _ _ _⟩
end
end
theorem hk_w7791f809 : True := by
  (k_with "compareOp In int bytes" => (k_here; refine in_bytes_int (by k_extra "!pre") (by k_extra "!pre") ?_))
  trivial
theorem hk_wfc2b66a3 : True := by
  (k_with "compareOp In bytes bytes" => (k_here; k_dflt (refine in_bytes_bytes (by k_asm) (by k_asm) (by rfl) ?_); k_whole; intro h9 tk9 F9 N9; (try k_sweep); (try dsimp only)))
  trivial
theorem hk_w79af7845 : True := by
  (k_with "getMethod bytes" => (refine method_join ?_))
  trivial
theorem hk_w1022ed8b : True := by
  (k_with "subscriptTail Name Slice ref ref" => (k_here; k_dflt (refine kmk_slice (s := ⟨_, _, _, _, _⟩) (by k_asm) (by k_asm) (News.isList (by k_asm) (by k_mem)) (by constructor) (by constructor) ?_ (by with_unfolding_all rfl) (by kmk_pure) (by first | assumption | kmk_size)); intro l9 h9 F9 N9 l19; (try k_lt l19); (try k_sweep)))
  trivial

-- part bsp
/-- the plain readings of the octets' functions, over what is left of the data -/
def lineEnd (r : List UInt8) : Option Nat := if r.take 1 = [10] then some 1 else if r.take 2 = [13, 10] then some 2 else none
def isAtom (c : UInt8) : Bool := (48 ≤ c && c ≤ 57) || (65 ≤ c && c ≤ 90) || (97 ≤ c && c ≤ 122) || (127 < c) || (#[33, 35, 36, 37, 38, 39, 42, 43, 45, 47, 61, 63, 94, 95, 96, 123, 124, 125, 126] : Array UInt8).contains c
def never (c : UInt8) : Bool := c == 0 || c == 10 || c == 13
def inside : List UInt8 → Option Nat
  | [] => none
  | c :: r => if c = 92 then (match r with | [] => none | e :: _ => if never e then none else some 2)
    else match lineEnd (c :: r) with
      | some k => some k
      | none => if never c then none else some 1
theorem pick_list (b : Array UInt8) (n k : Nat) : (KBy.picked b (some (n : Int)) (some ((n : Int) + (k : Int)))).toList = (b.toList.drop n).take k := by
  rw [KBc.picked_eq]
  simp only [Option.elim]
  have e : ((n : Int) + (k : Int)) = ((n + k : Nat) : Int) := by push_cast; rfl
  rw [e, clipAt_nat, clipAt_nat]
  rcases Nat.le_total n b.size with h | h
  · rw [Nat.min_eq_left h]
    rcases Nat.le_total (n + k) b.size with h2 | h2
    · rw [Nat.min_eq_left h2, Nat.add_sub_cancel_left]
    · rw [Nat.min_eq_right h2, List.take_of_length_le (by simp), List.take_of_length_le (by simp; omega)]
  · rw [Nat.min_eq_right h, Nat.min_eq_right (by omega), Nat.sub_self]
    rw [List.take_zero, List.drop_of_length_le (by simpa using h), List.take_nil]
theorem pick1 (b : Array UInt8) (n : Nat) : (KBy.picked b (some (n : Int)) (some ((n : Int) + 1))).toList = (b.toList.drop n).take 1 := pick_list b n 1
theorem pick2 (b : Array UInt8) (n : Nat) : (KBy.picked b (some (n : Int)) (some ((n : Int) + 2))).toList = (b.toList.drop n).take 2 := pick_list b n 2
theorem item_at (b : Array UInt8) (n : Nat) (c : UInt8) (r : List UInt8) (h : b.toList.drop n = c :: r) : (KBw.bInts b).getD n 0 = (c.toNat : Int) := by
  have : b.toList[n]? = some c := by
    have h2 : (b.toList.drop n)[0]? = some c := by rw [h]; rfl
    simpa using h2
  rw [List.getD_eq_getElem?_getD]
  unfold KBw.bInts
  rw [List.getElem?_map, this]
  rfl
theorem drop_len {b : Array UInt8} {n : Nat} {r : List UInt8} (h : b.toList.drop n = r) : b.size - n = r.length := by rw [← h]; simp
noncomputable def whiteF : Nat → List UInt8 → Option Nat
  | 0, _ => none
  | _ + 1, [] => some 0
  | f + 1, c :: r => if c = 9 ∨ c = 32 then (whiteF f r).map (· + 1) else match lineEnd (c :: r) with
    | some k => (whiteF f ((c :: r).drop k)).map (· + k)
    | none => some 0
theorem lineEnd_in {r : List UInt8} {k : Nat} (h : lineEnd r = some k) : 1 ≤ k ∧ k ≤ r.length := by
  unfold lineEnd at h
  split at h
  · rename_i e
    cases h
    refine ⟨by omega, ?_⟩
    rcases r with _ | ⟨c, r⟩
    · simp at e
    · simp
  · split at h
    · rename_i e
      cases h
      refine ⟨by omega, ?_⟩
      rcases r with _ | ⟨c, _ | ⟨d, r⟩⟩
      · simp at e
      · simp at e
      · simp
    · cases h
theorem whiteF_nil {f k : Nat} (h : whiteF f [] = some k) : k = 0 := by
  cases f <;> simp [whiteF] at h; omega
theorem whiteF_sp {f k : Nat} {c : UInt8} {r : List UInt8} (hc : c = 9 ∨ c = 32) (h : whiteF f (c :: r) = some k) : ∃ f' j, whiteF f' r = some j ∧ k = j + 1 := by
  cases f with
  | zero => simp [whiteF] at h
  | succ f =>
    simp only [whiteF, if_pos hc, Option.map_eq_some_iff] at h
    obtain ⟨j, hj, e⟩ := h
    exact ⟨f, j, hj, e.symm⟩
theorem whiteF_le {f k j : Nat} {c : UInt8} {r : List UInt8} (hc : ¬ (c = 9 ∨ c = 32)) (hl : lineEnd (c :: r) = some j) (h : whiteF f (c :: r) = some k) : ∃ f' i, whiteF f' ((c :: r).drop j) = some i ∧ k = i + j := by
  cases f with
  | zero => simp [whiteF] at h
  | succ f =>
    simp only [whiteF, if_neg hc, hl, Option.map_eq_some_iff] at h
    obtain ⟨i, hi, e⟩ := h
    exact ⟨f, i, hi, e.symm⟩
theorem whiteF_no {f k : Nat} {c : UInt8} {r : List UInt8} (hc : ¬ (c = 9 ∨ c = 32)) (hl : lineEnd (c :: r) = none) (h : whiteF f (c :: r) = some k) : k = 0 := by
  cases f with
  | zero => simp [whiteF] at h
  | succ f => simp only [whiteF, if_neg hc, hl, Option.some.injEq] at h; omega
def nextDep (c : UInt8) (dep : Nat) : Nat := if c = 40 then dep + 1 else if c = 41 then dep - 1 else dep
/-- how far a comment goes: depth, what is left -/
noncomputable def cmt : Nat → Nat → List UInt8 → Option Nat
  | 0, _, _ => none
  | _ + 1, _, [] => none
  | f + 1, dep, c :: r => match inside (c :: r) with
    | none => none
    | some k => if nextDep c dep > 20 then none else if nextDep c dep = 0 then some k else (cmt f (nextDep c dep) ((c :: r).drop k)).map (· + k)
theorem cmt_step {f dep N : Nat} {r : List UInt8} (h : cmt f dep r = some N) : ∃ c r' k, r = c :: r' ∧ inside r = some k ∧ nextDep c dep ≤ 20 ∧ ((nextDep c dep = 0 ∧ N = k) ∨ (0 < nextDep c dep ∧ ∃ f' j, cmt f' (nextDep c dep) (r.drop k) = some j ∧ N = j + k)) := by
  cases f with
  | zero => simp [cmt] at h
  | succ f =>
    rcases r with _ | ⟨c, r⟩
    · simp [cmt] at h
    refine ⟨c, r, ?_⟩
    simp only [cmt] at h
    cases hi : inside (c :: r) with
    | none => rw [hi] at h; cases h
    | some k =>
      rw [hi] at h
      dsimp only at h
      refine ⟨k, rfl, rfl, ?_⟩
      split at h
      · cases h
      · rename_i h20
        refine ⟨by omega, ?_⟩
        split at h
        · rename_i h0
          exact .inl ⟨h0, by cases h; rfl⟩
        · rename_i h0
          simp only [Option.map_eq_some_iff] at h
          obtain ⟨j, hj, e⟩ := h
          exact .inr ⟨by omega, f, j, hj, e.symm⟩
theorem inside_in {r : List UInt8} {k : Nat} (h : inside r = some k) : 1 ≤ k ∧ k ≤ r.length := by
  rcases r with _ | ⟨c, r⟩
  · simp [inside] at h
  · simp only [inside] at h
    split at h
    · rcases r with _ | ⟨e, r⟩
      · cases h
      · dsimp only at h
        split at h
        · cases h
        · cases h; simp
    · cases hl : lineEnd (c :: r) with
      | some j => rw [hl] at h; cases h; exact lineEnd_in hl
      | none =>
        rw [hl] at h
        dsimp only at h
        split at h
        · cases h
        · cases h; simp
theorem cmt_le : ∀ (f : Nat) {dep k : Nat} {r : List UInt8}, cmt f dep r = some k → k ≤ r.length
  | 0, _, _, _, h => by simp [cmt] at h
  | f + 1, dep, k, r, h => by
    rcases r with _ | ⟨c, r⟩
    · simp [cmt] at h
    simp only [cmt] at h
    cases hi : inside (c :: r) with
    | none => rw [hi] at h; cases h
    | some j =>
      have := inside_in hi
      rw [hi] at h
      dsimp only at h
      split at h
      · cases h
      · split at h
        · cases h; exact this.2
        · simp only [Option.map_eq_some_iff] at h
          obtain ⟨i, hi, e⟩ := h
          have := cmt_le f hi
          simp only [List.length_drop] at this
          omega
def aLen (r : List UInt8) : Nat := (r.takeWhile isAtom).length
theorem at_cons (b : Array UInt8) (i : Nat) (h : i < b.size) : b.toList.drop i = ((KBw.bInts b).getD ((i : Int)).toNat 0).toNat.toUInt8 :: b.toList.drop (i + 1) := by
  have hl : i < b.toList.length := by simpa using h
  rw [List.drop_eq_getElem_cons hl]
  congr 1
  have := item_at b i (b.toList[i]) _ (List.drop_eq_getElem_cons hl)
  show _ = ((KBw.bInts b).getD i 0).toNat.toUInt8
  rw [this]
  simp
theorem aLen_yes (b : Array UInt8) (i : Nat) (h : i < b.size) (ha : isAtom ((KBw.bInts b).getD ((i : Int)).toNat 0).toNat.toUInt8 = true) : aLen (b.toList.drop i) = aLen (b.toList.drop (i + 1)) + 1 := by
  rw [at_cons b i h]
  unfold aLen
  rw [List.takeWhile_cons, ha]
  rfl
theorem aLen_no (b : Array UInt8) (i : Nat) (h : i < b.size) (ha : isAtom ((KBw.bInts b).getD ((i : Int)).toNat 0).toNat.toUInt8 = false) : aLen (b.toList.drop i) = 0 := by
  rw [at_cons b i h]
  unfold aLen
  rw [List.takeWhile_cons, ha]
  rfl
theorem aLen_end (b : Array UInt8) (i : Nat) (h : b.size ≤ i) : aLen (b.toList.drop i) = 0 := by
  rw [List.drop_of_length_le (by simpa using h)]; rfl
theorem take_aLen (r : List UInt8) : r.take (aLen r) = r.takeWhile isAtom := by
  unfold aLen
  induction r with
  | nil => rfl
  | cons c r ih =>
    rw [List.takeWhile_cons]
    split
    · rw [List.length_cons, List.take_succ_cons, ih]
    · simp
theorem getD_b (b : Array UInt8) (i : Nat) : 0 ≤ (KBw.bInts b).getD ((i : Int)).toNat 0 ∧ (KBw.bInts b).getD ((i : Int)).toNat 0 < 256 := KBw.getD_in fun _ hk => KBw.ints_in hk
theorem if_b {b : Array UInt8} {i : Nat} {x y : Bool} (h : (if 0 ≤ (KBw.bInts b).getD ((i : Int)).toNat 0 ∧ (KBw.bInts b).getD ((i : Int)).toNat 0 < 256 then x else false) = y) : x = y := by
  rw [if_pos (getD_b b i)] at h; exact h
def leInt (r : List UInt8) (n : Nat) : Int := match lineEnd r with | some k => ((n + k : Nat) : Int) | none => -1
theorem getD_int {ks : List Int} {n : Nat} : ks.getD ((n : Int)).toNat 0 = ks.getD n 0 := rfl
theorem never_no {e : UInt8} (h : never e = false) : (([0, 10, 13] : List Int).any fun x => x == (e.toNat : Int)) = false := by
  simp only [never, Bool.or_eq_false_iff, beq_eq_false_iff_ne, ne_eq] at h
  obtain ⟨⟨h1, h2⟩, h3⟩ := h
  simp only [← UInt8.toNat_inj] at h1 h2 h3
  simp at h1 h2 h3 ⊢
  omega
theorem isTup_K {K : Frag} {h : Heap} {a : Addr} {its : Array Value} {n : Nat} (X : K.In h) (e : K.lookup a = some { cls := .type "tuple", data := .seq its n }) : IsTup h a its := ⟨_, X _ _ e, rfl, n, rfl⟩
theorem hk_w7d8de11c : True := by
  (k_with "compareOp In int ref" => (k_here; k_dflt (refine in_tuple_ints (isTup_K (by k_in) (by k_is)) (by repeat constructor) ?_); k_whole))
  trivial
theorem sgn_yes {l : List UInt8} {c : UInt8} {d : Array UInt8} {k : UInt8} (e : l = [c]) (h : (l == d.toList) = true) (hd : d.toList = [k] := by rfl) : c = k := by
  rw [e, hd] at h; simpa using h
theorem sgn_no {l : List UInt8} {c : UInt8} {d : Array UInt8} {k : UInt8} (e : l = [c]) (h : (l == d.toList) = false) (hd : d.toList = [k] := by rfl) : c ≠ k := by
  rw [e, hd] at h; simpa using h
/-- how far a quoted text goes behind its opening sign -/
noncomputable def qt : Nat → List UInt8 → Option Nat
  | 0, _ => none
  | _ + 1, [] => none
  | f + 1, c :: r => if c = 34 then some 1 else match inside (c :: r) with
    | none => none
    | some k => (qt f ((c :: r).drop k)).map (· + k)
theorem qt_step {f N : Nat} {r : List UInt8} (h : qt f r = some N) : ∃ c r', r = c :: r' ∧ ((c = 34 ∧ N = 1) ∨ (c ≠ 34 ∧ ∃ k f' j, inside r = some k ∧ qt f' (r.drop k) = some j ∧ N = j + k)) := by
  cases f with
  | zero => simp [qt] at h
  | succ f =>
    rcases r with _ | ⟨c, r⟩
    · simp [qt] at h
    refine ⟨c, r, rfl, ?_⟩
    simp only [qt] at h
    split at h
    · rename_i hc; exact .inl ⟨hc, by cases h; rfl⟩
    · rename_i hc
      cases hi : inside (c :: r) with
      | none => rw [hi] at h; cases h
      | some k =>
        rw [hi] at h
        simp only [Option.map_eq_some_iff] at h
        obtain ⟨j, hj, e⟩ := h
        exact .inr ⟨hc, k, f, j, rfl, hj, e.symm⟩
theorem qt_le : ∀ (f : Nat) {k : Nat} {r : List UInt8}, qt f r = some k → 1 ≤ k ∧ k ≤ r.length
  | 0, _, _, h => by simp [qt] at h
  | f + 1, k, r, h => by
    obtain ⟨c, r', rfl, h2⟩ := qt_step h
    rcases h2 with ⟨-, rfl⟩ | ⟨hc, j, f', i, hi, hq, rfl⟩
    · exact ⟨Nat.le_refl _, by simp⟩
    · have h3 := inside_in hi
      simp only [qt, if_neg hc, hi, Option.map_eq_some_iff] at h
      obtain ⟨i2, h4, e⟩ := h
      have := qt_le f h4
      simp only [List.length_drop] at this
      omega

-- part cal
def isLeap (y : Int) : Bool := y % 4 == 0 && (y % 100 != 0 || y % 400 == 0)
def monthLen (y mo : Int) : Int := if mo = 2 then (if isLeap y then 29 else 28) else if mo = 4 ∨ mo = 6 ∨ mo = 9 ∨ mo = 11 then 30 else 31
theorem monthLen_in (y mo : Int) : 28 ≤ monthLen y mo ∧ monthLen y mo ≤ 31 := by unfold monthLen; (repeat' split) <;> omega
def dby (y : Int) : Int := (y - 1) * 365 + (y - 1) / 4 - (y - 1) / 100 + (y - 1) / 400
def dnum (y mo d : Int) : Int := (rangeKs 1 (mo - 1).toNat).foldl (fun a k => a + monthLen y k) (dby y - 719162 + d - 1)
theorem dnum_fold (y b : Int) (ks : List Int) : ks.foldl (fun a' k' => if 28 ≤ monthLen y k' ∧ monthLen y k' ≤ 31 then a' + monthLen y k' else a') b = ks.foldl (fun a k => a + monthLen y k) b := by
  congr 1
  funext a k
  exact if_pos (monthLen_in y k)
def monthB (b : Bool) (mo : Int) : Int := if mo = 2 then (if b then 29 else 28) else if mo = 4 ∨ mo = 6 ∨ mo = 9 ∨ mo = 11 then 30 else 31
def dbmB (b : Bool) (mo : Int) : Int :=
  (if mo ≤ 1 then 0 else if mo = 2 then 31 else if mo = 3 then 59 else if mo = 4 then 90 else if mo = 5 then 120 else if mo = 6 then 151 else if mo = 7 then 181 else if mo = 8 then 212 else if mo = 9 then 243 else if mo = 10 then 273 else if mo = 11 then 304 else if mo = 12 then 334 else 365)
  + (if 2 < mo ∧ b = true then 1 else 0)
/-- days before a month -/
def dbm (y mo : Int) : Int :=
  (if mo ≤ 1 then 0 else if mo = 2 then 31 else if mo = 3 then 59 else if mo = 4 then 90 else if mo = 5 then 120 else if mo = 6 then 151 else if mo = 7 then 181 else if mo = 8 then 212 else if mo = 9 then 243 else if mo = 10 then 273 else if mo = 11 then 304 else if mo = 12 then 334 else 365)
  + (if 2 < mo ∧ isLeap y = true then 1 else 0)
theorem dbm_all : ∀ (b : Bool) (k : Fin 12), dbmB b ((k.val : Int) + 1 + 1) = dbmB b ((k.val : Int) + 1) + monthB b ((k.val : Int) + 1) := by decide +kernel
theorem dbm_succ (y mo : Int) (h : 1 ≤ mo) (h' : mo ≤ 12) : dbm y (mo + 1) = dbm y mo + monthLen y mo := by
  have h9 := dbm_all (isLeap y) ⟨(mo - 1).toNat, by omega⟩
  have e : (((mo - 1).toNat : Nat) : Int) + 1 = mo := by omega
  dsimp only at h9
  rw [e] at h9
  exact h9
theorem dby_succ (y : Int) : dby (y + 1) = dby y + 365 + (if isLeap y = true then 1 else 0) := by
  simp only [dby, isLeap, Bool.and_eq_true, Bool.or_eq_true, beq_iff_eq, bne_iff_ne]
  split <;> omega
theorem dbm_13 (y : Int) : dby y + dbm y 13 = dby (y + 1) := by
  rw [dby_succ]; simp only [dbm]; simp; split <;> omega
section
variable {w : World} {loose : List Str} {mean : ExcName → Option Value} {mg mb : Str → Option Value} {dp un : Nat} {gd : Option (List Code)} {cn : Str} {cs : Scope} {a : Addr} {ccd : Value} {cl : List (Str × Addr)} {outer : List Env} {A₀ : Around} {base h₀ : Heap} {L : Addr} {m : Str → Option Value} {s : Shared} {Q E : Value → Shared → Prop} {news : List (Addr × Obj)} {p : Program}
variable (B : Below A₀ base outer h₀) (F : Fr h₀ L s.heap m) (X : (K w.params).In h₀) (N : News h₀ L s.heap news) (T : Top p loose mean mg mb h₀) (hk : cs.kind = .function)
include B F X N T hk
theorem is_leap_c (hd : dp + 15 < recursionLimit) (hu : un + 60 < cLine) {y : Int} {t : Tok} (h0 : 0 ≤ y) (h1 : y < 100000)
    (ret : ∀ h' tk', Fr h₀ L h' m → News h₀ L h' news → Q (.bool (isLeap y)) { s with heap := h', toks := tk' }) :
    wpAny (model PW w) (ktrTop dp un gd cn cs L a ccd cl outer) (call (.ref 172) [.int y t]) Q E s := by
  k_dflt cell_enter
  k_steps
  all_goals (refine rB ret ?_ (by k_asm) (by k_extra "!nw"); simp (disch := decide) only [isLeap, fm] at *; k_extra "!fin")

theorem hk_is_leap_c : True := by
  (k_with "mc" => (k_here; (with_reducible show wpAny _ _ (call (Value.ref 172) _) _ _ _); k_dflt (refine is_leap_c (by k_asm) (by k_asm) (by k_asm) (by k_extra "!nwN") (by k_asm) (by k_extra "!pre fn") (by ktr_room) (by ktr_units) (by k_extra "!pre") (by k_extra "!pre") ?_); k_whole; intro h9 tk9 F9 N9; (try k_sweep); (try dsimp only)))
  trivial
theorem month_length_c (hd : dp + 30 < recursionLimit) (hu : un + 120 < cLine) {y mo : Int} {t t' : Tok} (h0 : 0 ≤ y) (h1 : y < 100000) (h2 : 0 ≤ mo) (h3 : mo < 100000)
    (ret : 28 ≤ monthLen y mo → monthLen y mo ≤ 31 → ∀ t h' tk', Fr h₀ L h' m → News h₀ L h' news → Q (.int (monthLen y mo) t) { s with heap := h', toks := tk' }) :
    wpAny (model PW w) (ktrTop dp un gd cn cs L a ccd cl outer) (call (.ref 179) [.int y t, .int mo t']) Q E s := by
  replace ret := ret (monthLen_in y mo).1 (monthLen_in y mo).2
  k_dflt cell_enter
  k_steps
  all_goals (refine rI ret ?_ (by k_asm) (by k_extra "!nw"); simp only [monthLen] at *; k_extra "!fin")

theorem hk_month_length_c : True := by
  (k_with "mc" => (k_here; (with_reducible show wpAny _ _ (call (Value.ref 179) _) _ _ _); k_dflt (refine month_length_c (by k_asm) (by k_asm) (by k_asm) (by k_extra "!nwN") (by k_asm) (by k_extra "!pre fn") (by ktr_room) (by ktr_units) (by k_extra "!pre") (by k_extra "!pre") (by k_extra "!pre") (by k_extra "!pre") ?_); k_whole; intro g1 g2 t9 h9 tk9 F9 N9; (try k_sweep); (try dsimp only)))
  trivial
theorem days_before_year_c (hd : dp + 15 < recursionLimit) (hu : un + 60 < cLine) {y : Int} {t : Tok} (h0 : 0 ≤ y) (h1 : y < 100000)
    (ret : -1000 ≤ dby y → dby y < 100000000 → ∀ t h' tk', Fr h₀ L h' m → News h₀ L h' news → Q (.int (dby y) t) { s with heap := h', toks := tk' }) :
    wpAny (model PW w) (ktrTop dp un gd cn cs L a ccd cl outer) (call (.ref 186) [.int y t]) Q E s := by
  replace ret := ret (by unfold dby; omega) (by unfold dby; omega)
  k_dflt cell_enter
  k_steps
  all_goals (refine rI ret ?_ (by k_asm) (by k_extra "!nw"); simp (disch := decide) only [dby, fd])

theorem hk_days_before_year_c : True := by
  (k_with "mc" => (k_here; (with_reducible show wpAny _ _ (call (Value.ref 186) _) _ _ _); k_dflt (refine days_before_year_c (by k_asm) (by k_asm) (by k_asm) (by k_extra "!nwN") (by k_asm) (by k_extra "!pre fn") (by ktr_room) (by ktr_units) (by k_extra "!pre") (by k_extra "!pre") ?_); k_whole; intro g1 g2 t9 h9 tk9 F9 N9; (try k_sweep); (try dsimp only)))
  trivial
theorem is_day_c (hd : dp + 45 < recursionLimit) (hu : un + 180 < cLine) {y mo d : Int} {t t' t'' : Tok} (h0 : 0 ≤ y) (h1 : y < 100000) (h2 : 0 ≤ mo) (h3 : mo < 100000) (h4 : 0 ≤ d) (h5 : d < 100000)
    (ret : ∀ h' tk', Fr h₀ L h' m → News h₀ L h' news → Q (.bool (decide (1 ≤ y ∧ y ≤ 9999 ∧ 1 ≤ mo ∧ mo ≤ 12 ∧ 1 ≤ d ∧ d ≤ monthLen y mo))) { s with heap := h', toks := tk' }) :
    wpAny (model PW w) (ktrTop dp un gd cn cs L a ccd cl outer) (call (.ref 207) [.int y t, .int mo t', .int d t'']) Q E s := by
  k_dflt cell_enter
  k_steps
  all_goals (refine rB ret ?_ (by k_asm) (by k_extra "!nw"); k_extra "!fin")

theorem hk_is_day_c : True := by
  (k_with "mc" => (k_here; (with_reducible show wpAny _ _ (call (Value.ref 207) _) _ _ _); k_dflt (refine is_day_c (by k_asm) (by k_asm) (by k_asm) (by k_extra "!nwN") (by k_asm) (by k_extra "!pre fn") (by ktr_room) (by ktr_units) (by k_extra "!pre") (by k_extra "!pre") (by k_extra "!pre") (by k_extra "!pre") (by k_extra "!pre") (by k_extra "!pre") ?_); k_whole; intro h9 tk9 F9 N9; (try k_sweep); (try dsimp only)))
  trivial
theorem is_time_c (hd : dp + 15 < recursionLimit) (hu : un + 60 < cLine) {y mo d : Int} {t t' t'' : Tok} (h0 : 0 ≤ y) (h1 : y < 100000) (h2 : 0 ≤ mo) (h3 : mo < 100000) (h4 : 0 ≤ d) (h5 : d < 100000)
    (ret : ∀ h' tk', Fr h₀ L h' m → News h₀ L h' news → Q (.bool (decide (y ≤ 23 ∧ mo ≤ 59 ∧ d ≤ 60))) { s with heap := h', toks := tk' }) :
    wpAny (model PW w) (ktrTop dp un gd cn cs L a ccd cl outer) (call (.ref 214) [.int y t, .int mo t', .int d t'']) Q E s := by
  k_dflt cell_enter
  k_steps
  all_goals (refine rB ret ?_ (by k_asm) (by k_extra "!nw"); k_extra "!fin")

theorem hk_is_time_c : True := by
  (k_with "mc" => (k_here; (with_reducible show wpAny _ _ (call (Value.ref 214) _) _ _ _); k_dflt (refine is_time_c (by k_asm) (by k_asm) (by k_asm) (by k_extra "!nwN") (by k_asm) (by k_extra "!pre fn") (by ktr_room) (by ktr_units) (by k_extra "!pre") (by k_extra "!pre") (by k_extra "!pre") (by k_extra "!pre") (by k_extra "!pre") (by k_extra "!pre") ?_); k_whole; intro h9 tk9 F9 N9; (try k_sweep); (try dsimp only)))
  trivial
def fullYear (n f : Int) : Int := if f = 2 then n + (if n < 50 then 2000 else 1900) else if f = 3 then n + 1900 else n
theorem full_year_c (hd : dp + 15 < recursionLimit) (hu : un + 60 < cLine) {y mo : Int} {t t' : Tok} (h0 : 0 ≤ y) (h1 : y < 100000) (h2 : 0 ≤ mo) (h3 : mo < 100000)
    (ret : ∀ t h' tk', Fr h₀ L h' m → News h₀ L h' news → Q (.int (fullYear y mo) t) { s with heap := h', toks := tk' }) :
    wpAny (model PW w) (ktrTop dp un gd cn cs L a ccd cl outer) (call (.ref 324) [.int y t, .int mo t']) Q E s := by
  k_dflt cell_enter
  k_steps
  all_goals (refine rI ret ?_ (by k_asm) (by k_extra "!nw"); simp only [fullYear] at *; k_extra "!fin")

theorem hk_full_year_c : True := by
  (k_with "mc" => (k_here; (with_reducible show wpAny _ _ (call (Value.ref 324) _) _ _ _); k_dflt (refine full_year_c (by k_asm) (by k_asm) (by k_asm) (by k_extra "!nwN") (by k_asm) (by k_extra "!pre fn") (by ktr_room) (by ktr_units) (by k_extra "!pre") (by k_extra "!pre") (by k_extra "!pre") (by k_extra "!pre") ?_); k_whole; intro t9 h9 tk9 F9 N9; (try k_sweep); (try dsimp only)))
  trivial
local macro_rules | `(tactic| cell_enter) => `(tactic| k_extra "cellP")
local macro_rules | `(tactic| walk_at "storeName") => `(tactic| k_extra "storeP")
local macro_rules | `(tactic| k_steps) => `(tactic| k_extra "stepsP")
local macro_rules | `(tactic| walk_at "execs cons") => `(tactic| k_extra "execsP")
theorem day_number_c (hd : dp + 45 < recursionLimit) (hu : un + 180 < cLine) {y mo d : Int} {t t' t'' : Tok} (h0 : 0 ≤ y) (h1 : y < 100000) (h2 : 1 ≤ mo) (h3 : mo < 100) (h4 : 0 ≤ d) (h5 : d < 100)
    (ret : ∀ t h' tk', Fr h₀ L h' m → News h₀ L h' news → Q (.int (dnum y mo d) t) { s with heap := h', toks := tk' }) :
    wpAny (model PW w) (ktrTop dp un gd cn cs L a ccd cl outer) (call (.ref 193) [.int y t, .int mo t', .int d t'']) Q E s := by
  k_dflt cell_enter
  k_steps
  all_goals (refine rI ret ?_ (by k_asm) (by k_extra "!nw"); exact dnum_fold _ _ _)
theorem hk_day_number_c : True := by
  (k_with "mc" => (k_here; (with_reducible show wpAny _ _ (call (Value.ref 193) _) _ _ _); k_dflt (refine day_number_c (by k_asm) (by k_asm) (by k_asm) (by k_extra "!nwN") (by k_asm) (by k_extra "!pre fn") (by ktr_room) (by ktr_units) (by k_extra "!pre") (by k_extra "!pre") (by k_extra "!pre") (by k_extra "!pre") (by k_extra "!pre") (by k_extra "!pre") ?_); k_whole; intro t9 h9 tk9 F9 N9; (try k_sweep); (try dsimp only)))
  trivial
end

-- part told
theorem told_start {yr D : Int} (h : dby yr ≤ D) : 0 ≤ D - dby yr ∧ (1 : Int) ≤ 1 ∧ (1 : Int) ≤ 12 ∧ D - dby yr + dby yr + dbm yr 1 = D := by
  have : dbm yr 1 = 0 := by simp [dbm]
  omega
theorem told_turn {yr rest mo D : Int} (h1 : 1 ≤ mo) (h2 : mo ≤ 12) (e : rest + dby yr + dbm yr mo = D) (hlt : D < dby (yr + 1)) (h : monthLen yr mo ≤ rest) :
    0 ≤ rest - monthLen yr mo ∧ 1 ≤ mo + 1 ∧ mo + 1 ≤ 12 ∧ rest - monthLen yr mo + dby yr + dbm yr (mo + 1) = D := by
  have h3 := dbm_succ yr mo h1 h2
  have h4 := dbm_13 yr
  by_cases hm : mo = 12
  · subst hm
    simp only [show (12 : Int) + 1 = 13 from rfl] at h3
    omega
  · omega
theorem hk_w39032dec : True := by
  (k_with "!KswEnd" => (k_dflt ksw_close))
  trivial
section
variable {w : World} {loose : List Str} {mean : ExcName → Option Value} {mg mb : Str → Option Value} {dp un : Nat} {gd : Option (List Code)} {cn : Str} {cs : Scope} {a : Addr} {ccd : Value} {cl : List (Str × Addr)} {outer : List Env} {A₀ : Around} {base h₀ : Heap} {L : Addr} {m : Str → Option Value} {s : Shared} {Q E : Value → Shared → Prop} {news : List (Addr × Obj)} {p : Program}
variable (B : Below A₀ base outer h₀) (F : Fr h₀ L s.heap m) (X : (K w.params).In h₀) (N : News h₀ L s.heap news) (T : Top p loose mean mg mb h₀) (hk : cs.kind = .function)
include B F X N T hk
theorem day_told_c (hd : dp + 45 < recursionLimit) (hu : un + 180 < cLine) {n : Int} {t : Tok} (h0 : -719162 ≤ n) (h1 : n < 3000000)
    (ret : ∀ y mo d ty tmo td x h' tk', 1 ≤ y → y < 20000 → 1 ≤ mo → mo ≤ 12 → 1 ≤ d → d ≤ monthLen y mo → n + 719162 = dby y + dbm y mo + d - 1 → Fr h₀ L h' m → News h₀ L h' ((x, { cls := .type "tuple", data := .seq #[.int y ty, .int mo tmo, .int d td] }) :: news) → Q (.ref x) { s with heap := h', toks := tk' }) :
    wpAny (model PW w) (ktrTop dp un gd cn cs L a ccd cl outer) (call (.ref 200) [.int n t]) Q E s := by
  k_dflt cell_enter
  (k_with "state" => ((try dsimp only); (try simp (disch := decide) only [fd, fm, decide_eq_true_eq, decide_eq_false_iff_not] at *); (try unfold dby at *); omega))
  (k_with "measure" => ((try dsimp only); (try simp (disch := decide) only [fd, fm, decide_eq_true_eq, decide_eq_false_iff_not] at *); (try unfold dby at *); omega))
  k_steps
  unfold Stop
  k_while (fun _ y => 1 ≤ y ∧ y < 20000) (fun _ y => y.toNat) "year"
  k_steps
  unfold Stop
  k_while (fun _ y => 1 ≤ y ∧ y < 20000 ∧ dby y ≤ n + 719162) (fun _ y => (20000 - y).toNat) "year"
  k_steps
  unfold Stop
  (k_with "state" => ((try simp only [decide_eq_true_eq, decide_eq_false_iff_not, ge_iff_le, gt_iff_lt, Int.not_le, Int.not_lt] at *); first | (refine told_turn ?_ ?_ ?_ ?_ ?_ <;> omega) | exact told_start (by omega)))
  (k_with "measure" => ((try simp only [decide_eq_true_eq, decide_eq_false_iff_not, ge_iff_le, gt_iff_lt, Int.not_le, Int.not_lt] at *); omega))
  k_while_given ["year"] (fun yr _ rest mo => 0 ≤ rest ∧ 1 ≤ mo ∧ mo ≤ 12 ∧ rest + dby yr + dbm yr mo = n + 719162) (fun _ _ rest _ => rest.toNat) "rest" "month"
  k_steps
  rename Fr _ _ _ _ => FF
  rename News _ _ _ _ => NN
  refine ret _ _ _ _ _ _ _ _ _ ?_ ?_ ?_ ?_ ?_ ?_ ?_ FF NN
  all_goals (clear ret; (try simp only [decide_eq_true_eq, decide_eq_false_iff_not, ge_iff_le, gt_iff_lt, Int.not_le, Int.not_lt] at *); omega)

end
theorem hk_day_told_c : True := by
  (k_with "mc" => (k_here; (with_reducible show wpAny _ _ (call (Value.ref 200) _) _ _ _); k_dflt (refine day_told_c (by k_asm) (by k_asm) (by k_asm) (by k_extra "!nwN") (by k_asm) (by k_extra "!pre fn") (by ktr_room) (by ktr_units) (by k_extra "!pre") (by k_extra "!pre") ?_); k_whole; intro y9 mo9 d9 ty9 tmo9 td9 x9 h9 tk9 g1 g2 g3 g4 g5 g6 g7 F9 N9; (try k_sweep); (try dsimp only)))
  trivial

-- part text
def lowerCode (c : Int) : Int := if 65 ≤ c ∧ c ≤ 90 then c + 32 else c
def lowN (c : Nat) : Nat := if 65 ≤ c ∧ c ≤ 90 then c + 32 else c
theorem lowerCode_nat (c : Nat) : lowerCode (c : Int) = (lowN c : Int) := by unfold lowerCode lowN; (repeat' split) <;> omega
theorem lowN_lt {c : Nat} (h : c < 1114112) : lowN c < 1114112 := by unfold lowN; split <;> omega
def tx (l : List Nat) : Str := ⟨l.toArray⟩
def lowerT (x : Str) : Str := tx (x.cps.toList.map lowN)
theorem sum_ones {α : Type} (f : α → Nat) : ∀ l : List α, ((l.map fun c => (⟨#[f c]⟩ : Str)).map (·.length)).sum = l.length
  | [] => rfl
  | c :: r => by
    have := sum_ones f r
    simp only [List.map_cons, List.sum_cons, List.length_cons, this]
    show (#[f c] : Array Nat).size + r.length = r.length + 1
    simp; omega
theorem join_map_ones {α : Type} (f : α → Nat) (l : List α) : Txt.join (Str.ofString "") (l.map fun c => (⟨#[f c]⟩ : Str)) = tx (l.map f) := by
  rw [beq_iff_eq.mp (join_plain_closes _ _)]
  have e : Str.ofString "" = ⟨#[]⟩ := by decide +kernel
  have h := join_ones (l.map f)
  rw [List.map_map] at h
  rw [e]
  exact h
section
variable {w : World} {loose : List Str} {mean : ExcName → Option Value} {mg mb : Str → Option Value} {dp un : Nat} {gd : Option (List Code)} {cn : Str} {cs : Scope} {a : Addr} {ccd : Value} {cl : List (Str × Addr)} {outer : List Env} {A₀ : Around} {base h₀ : Heap} {L : Addr} {m : Str → Option Value} {s : Shared} {Q E : Value → Shared → Prop} {news : List (Addr × Obj)} {p : Program}
variable (B : Below A₀ base outer h₀) (F : Fr h₀ L s.heap m) (X : (K w.params).In h₀) (N : News h₀ L s.heap news) (T : Top p loose mean mg mb h₀) (hk : cs.kind = .function)
include B F X N T hk
theorem lower_code_c (hd : dp + 15 < recursionLimit) (hu : un + 60 < cLine) {c : Nat} {t : Tok} (h1 : c < 1114112)
    (ret : lowN c < 1114112 → ∀ t h' tk', Fr h₀ L h' m → News h₀ L h' news → Q (.int (lowN c : Nat) t) { s with heap := h', toks := tk' }) :
    wpAny (model PW w) (ktrTop dp un gd cn cs L a ccd cl outer) (call (.ref 61) [.int (c : Nat) t]) Q E s := by
  replace ret := ret (lowN_lt h1)
  k_dflt cell_enter
  k_steps
  all_goals (refine rI ret ?_ (by k_asm) (by k_extra "!nw"); rw [← lowerCode_nat]; simp only [lowerCode] at *; k_extra "!fin")

theorem hk_lower_code_c : True := by
  (k_with "mc" => (k_here; (with_reducible show wpAny _ _ (call (Value.ref 61) _) _ _ _); k_dflt (refine lower_code_c (by k_asm) (by k_asm) (by k_asm) (by k_extra "!nwN") (by k_asm) (by k_extra "!pre fn") (by ktr_room) (by ktr_units) (by k_extra "!pre") ?_); k_whole; intro g1 t9 h9 tk9 F9 N9; (try k_sweep); (try dsimp only)))
  trivial
theorem lower_text_c (hd : dp + 30 < recursionLimit) (hu : un + 120 < cLine) {x : Str} {t : Tok} (h0 : ∀ c ∈ x.cps.toList, c < 1114112) (h1 : x.cps.size < 10000)
    (ret : ∀ t h' tk', Fr h₀ L h' m → News h₀ L h' news → Q (.str (lowerT x) t) { s with heap := h', toks := tk' }) :
    wpAny (model PW w) (ktrTop dp un gd cn cs L a ccd cl outer) (call (.ref 66) [.str x t]) Q E s := by
  k_dflt cell_enter
  k_steps
  rename Fr _ _ _ _ => FF
  rename News _ _ _ _ => NN
  refine CW.str rfl FF NN (by rw [sizeLine_eq]; omega) ?_
  intro g
  refine rest_strs (ks := x.cps.toList) (fun c => (⟨#[lowN c]⟩ : Str)) (fun c v => ∃ u, v = .str ⟨#[c]⟩ u) (by simp) ?_ ?_ ?_
  · rintro i v hi ⟨c, u, hc, rfl⟩
    exact ⟨c, by simpa using hc, u, rfl⟩
  · rintro k v I oI C oC D m₂ ys h tk E' hk ⟨u, rfl⟩ hC hx F' N' off ne
    have hk' := h0 k hk
    k_steps
    k_extra "!ce"
    exact ⟨rfl, _, rfl⟩
  intro ys hys
  have hS5 : StopM 5 := .mk
  k_steps
  all_goals (try unfold Stop)
  refine join_list (News.isList (by k_asm) (by k_mem)) (by simpa using hys) ?_ ?_
  · rw [sum_ones, show (Str.ofString "").length = 0 from by decide +kernel, Nat.mul_zero, Array.length_toList]; omega
  intro t' k'
  rw [join_map_ones]
  k_steps
  all_goals (refine rS ret ?_ (by k_asm) (by k_extra "!nw"); rfl)

theorem hk_lower_text_c : True := by
  (k_with "mc" => (k_here; (with_reducible show wpAny _ _ (call (Value.ref 66) _) _ _ _); k_dflt (refine lower_text_c (by k_asm) (by k_asm) (by k_asm) (by k_extra "!nwN") (by k_asm) (by k_extra "!pre fn") (by ktr_room) (by ktr_units) (by k_extra "!pre") (by k_extra "!pre") ?_); k_whole; intro t9 h9 tk9 F9 N9; (try k_sweep); (try dsimp only)))
  trivial
end

-- part oct
section
variable {w : World} {loose : List Str} {mean : ExcName → Option Value} {mg mb : Str → Option Value} {dp un : Nat} {gd : Option (List Code)} {cn : Str} {cs : Scope} {a : Addr} {ccd : Value} {cl : List (Str × Addr)} {outer : List Env} {A₀ : Around} {base h₀ : Heap} {L : Addr} {m : Str → Option Value} {s : Shared} {Q E : Value → Shared → Prop} {news : List (Addr × Obj)} {p : Program}
variable (B : Below A₀ base outer h₀) (F : Fr h₀ L s.heap m) (X : (K w.params).In h₀) (N : News h₀ L s.heap news) (T : Top p loose mean mg mb h₀) (hk : cs.kind = .function)
include B F X N T hk
theorem line_end_c (hd : dp + 15 < recursionLimit) (hu : un + 60 < cLine) {b : Array UInt8} {t t' : Tok} {n : Nat} (h1 : b.size < 10000) (h3 : n < b.size)
    (ret : ∀ t h' tk', Fr h₀ L h' m → News h₀ L h' news → Q (.int (leInt (b.toList.drop n) n) t) { s with heap := h', toks := tk' }) :
    wpAny (model PW w) (ktrTop dp un gd cn cs L a ccd cl outer) (call (.ref 81) [.bytes b t, .int (n : Nat) t']) Q E s := by
  have hk := KBw.ints_length b
  have hp1 := pick1 b n
  have hp2 := pick2 b n
  generalize hks : KBw.bInts b = ks at hk
  k_dflt cell_enter
  k_steps
  all_goals
    refine rI ret ?_ (by k_asm) (by k_extra "!nw")
    clear ret
    simp only [hp1, hp2] at *
    generalize b.toList.drop n = r at *
    simp only [leInt, lineEnd]
    simp_all
end
theorem hk_line_end_c : True := by
  (k_with "mc" => (k_here; (with_reducible show wpAny _ _ (call (Value.ref 81) _) _ _ _); k_dflt (refine line_end_c (by k_asm) (by k_asm) (by k_asm) (by k_extra "!nwN") (by k_asm) (by k_extra "!pre fn") (by ktr_room) (by ktr_units) (by k_extra "!pre") (by k_extra "!pre") ?_); k_whole; intro t9 h9 tk9 F9 N9; (try simp only [leInt, hrr, hle]); (try k_sweep); (try dsimp only)))
  trivial
theorem at_all : ∀ n : Fin 256, (((48 ≤ ((n.val : Nat) : Int) ∧ ((n.val : Nat) : Int) ≤ 57) ∨ (65 ≤ ((n.val : Nat) : Int) ∧ ((n.val : Nat) : Int) ≤ 90) ∨ (97 ≤ ((n.val : Nat) : Int) ∧ ((n.val : Nat) : Int) ≤ 122) ∨ 127 < ((n.val : Nat) : Int)) → isAtom (UInt8.ofNat n.val) = true) ∧ (¬ ((48 ≤ ((n.val : Nat) : Int) ∧ ((n.val : Nat) : Int) ≤ 57) ∨ (65 ≤ ((n.val : Nat) : Int) ∧ ((n.val : Nat) : Int) ≤ 90) ∨ (97 ≤ ((n.val : Nat) : Int) ∧ ((n.val : Nat) : Int) ≤ 122) ∨ 127 < ((n.val : Nat) : Int)) → isAtom (UInt8.ofNat n.val) = (#[33, 35, 36, 37, 38, 39, 42, 43, 45, 47, 61, 63, 94, 95, 96, 123, 124, 125, 126] : Array UInt8).contains (UInt8.ofNat n.val)) := by decide +kernel
theorem at_yes {i : Int} {p : Prop} [Decidable p] (h0 : 0 ≤ i) (h1 : i < 256) (hp : p) (h : ((48 ≤ i ∧ i ≤ 57) ∨ (65 ≤ i ∧ i ≤ 90) ∨ (97 ≤ i ∧ i ≤ 122) ∨ 127 < i)) : decide p = isAtom i.toNat.toUInt8 := by
  have h9 := (at_all ⟨i.toNat, by omega⟩).1
  dsimp only at h9
  rw [Int.toNat_of_nonneg h0] at h9
  exact (decide_eq_true hp).trans (h9 h).symm
theorem at_no {i : Int} (h0 : 0 ≤ i) (h1 : i < 256) (h : ¬ ((48 ≤ i ∧ i ≤ 57) ∨ (65 ≤ i ∧ i ≤ 90) ∨ (97 ≤ i ∧ i ≤ 122) ∨ 127 < i)) : (#[33, 35, 36, 37, 38, 39, 42, 43, 45, 47, 61, 63, 94, 95, 96, 123, 124, 125, 126] : Array UInt8).contains i.toNat.toUInt8 = isAtom i.toNat.toUInt8 := by
  have h9 := (at_all ⟨i.toNat, by omega⟩).2
  dsimp only at h9
  rw [Int.toNat_of_nonneg h0] at h9
  exact (h9 h).symm
section
variable {w : World} {loose : List Str} {mean : ExcName → Option Value} {mg mb : Str → Option Value} {dp un : Nat} {gd : Option (List Code)} {cn : Str} {cs : Scope} {a : Addr} {ccd : Value} {cl : List (Str × Addr)} {outer : List Env} {A₀ : Around} {base h₀ : Heap} {L : Addr} {m : Str → Option Value} {s : Shared} {Q E : Value → Shared → Prop} {news : List (Addr × Obj)} {p : Program}
variable (B : Below A₀ base outer h₀) (F : Fr h₀ L s.heap m) (X : (K w.params).In h₀) (N : News h₀ L s.heap news) (T : Top p loose mean mg mb h₀) (hk : cs.kind = .function)
include B F X N T hk
theorem is_atom_code_c (hd : dp + 15 < recursionLimit) (hu : un + 60 < cLine) {i : Int} {t : Tok} (h0 : 0 ≤ i) (h1 : i < 256)
    (ret : ∀ h' tk', Fr h₀ L h' m → News h₀ L h' news → Q (.bool (isAtom i.toNat.toUInt8)) { s with heap := h', toks := tk' }) :
    wpAny (model PW w) (ktrTop dp un gd cn cs L a ccd cl outer) (call (.ref 74) [.int i t]) Q E s := by
  k_dflt cell_enter
  k_steps
  all_goals (refine rB ret ?_ (by k_asm) (by k_extra "!nw"); first | exact at_yes h0 h1 (by assumption) (by clear ret; omega) | exact at_no h0 h1 (by clear ret; omega))
end
theorem hk_is_atom_code_c : True := by
  (k_with "mc" => (k_here; (with_reducible show wpAny _ _ (call (Value.ref 74) _) _ _ _); k_dflt (refine is_atom_code_c (by k_asm) (by k_asm) (by k_asm) (by k_extra "!nwN") (by k_asm) (by k_extra "!pre fn") (by ktr_room) (by ktr_units) (by k_extra "!pre") (by k_extra "!pre") ?_); k_whole; intro h9 tk9 F9 N9; (try k_sweep); (try dsimp only)))
  trivial

-- part ins
section
variable {w : World} {loose : List Str} {mean : ExcName → Option Value} {mg mb : Str → Option Value} {dp un : Nat} {gd : Option (List Code)} {cn : Str} {cs : Scope} {a : Addr} {ccd : Value} {cl : List (Str × Addr)} {outer : List Env} {A₀ : Around} {base h₀ : Heap} {L : Addr} {m : Str → Option Value} {s : Shared} {Q E : Value → Shared → Prop} {news : List (Addr × Obj)} {p : Program}
variable (B : Below A₀ base outer h₀) (F : Fr h₀ L s.heap m) (X : (K w.params).In h₀) (N : News h₀ L s.heap news) (T : Top p loose mean mg mb h₀) (hk : cs.kind = .function)
include B F X N T hk
theorem inside_at_c (hd : dp + 30 < recursionLimit) (hu : un + 120 < cLine) {b : Array UInt8} {t t' t'' : Tok} {n k : Nat} {bg : Int} (h1 : b.size < 10000) (hr : inside (b.toList.drop n) = some k)
    (ret : ∀ x y tx ty h' tk', y.size ≤ 1 → Fr h₀ L h' m → News h₀ L h' ((x, { cls := .type "tuple", data := .seq #[.bytes y ty, .int ((n + k : Nat) : Int) tx] }) :: news) → (∀ p ∈ news, p.1 < x) → Q (.ref x) { s with heap := h', toks := tk' }) :
    wpAny (model PW w) (ktrTop dp un gd cn cs L a ccd cl outer) (call (.ref 88) [.bytes b t, .int (n : Nat) t', .int bg t'']) Q E s := by
  have hk := KBw.ints_length b
  have hp1 := pick1 b n
  have hp3 : (KBy.picked b (some ((n : Int) + 1)) (some ((n : Int) + 2))).toList = (b.toList.drop (n + 1)).take 1 := pick1 b (n + 1)
  have hlen : b.size - n = (b.toList.drop n).length := by simp
  generalize hrr : b.toList.drop n = r at *
  rcases r with _ | ⟨c, r⟩
  · simp [inside] at hr
  have hi1 : (KBw.bInts b).getD ((n : Int)).toNat 0 = (c.toNat : Int) := item_at b n c r hrr
  have hn1 : n < b.size := by simp at hlen; omega
  have hlt := c.toNat_lt
  by_cases hc : c = 92
  · subst hc
    simp only [inside, if_true] at hr
    replace hi1 : (KBw.bInts b).getD ((n : Int)).toNat 0 = 92 := hi1
    rcases r with _ | ⟨e, r⟩
    · simp at hr
    have hi2 : (KBw.bInts b).getD ((n : Int) + 1).toNat 0 = (e.toNat : Int) := by
      refine item_at b (n + 1) e r ?_
      rw [← List.drop_drop, hrr]; rfl
    have hn2 : n + 1 < b.size := by simp at hlen; omega
    have hne : never e = false ∧ k = 2 := by
      dsimp only at hr
      split at hr <;> simp_all
    obtain ⟨hne, rfl⟩ := hne
    have hne' := never_no hne
    rw [← hi2] at hne'
    generalize hks : KBw.bInts b = ks at *
    k_dflt cell_enter
    have hS52 : StopM 52 := .mk
    k_steps
    all_goals (try unfold Stop)
    all_goals first
      | (exfalso; clear ret; (try simp only [decide_eq_true_eq, decide_eq_false_iff_not, ge_iff_le, Int.not_le] at *); omega)
      | (exfalso; exact absurd (by assumption) (ne_true_of_eq_false hne'))
      | (refine ret _ _ _ _ _ _ ?_ (by k_asm) (by k_extra "!nw") (by assumption); rw [← Array.length_toList, hp3]; simp; omega)
  · have hle : lineEnd (c :: r) = some k ∨ (lineEnd (c :: r) = none ∧ never c = false ∧ k = 1) := by
      simp only [inside, if_neg hc] at hr
      split at hr
      · left; simp_all
      · right; simp_all
    have hc92 : ¬ (KBw.bInts b).getD ((n : Int)).toNat 0 = 92 := by
      rw [hi1]
      intro h
      exact hc (UInt8.toNat_inj.mp (by simp; omega))
    rcases hle with hle | ⟨hle, hnv, rfl⟩
    · generalize hks : KBw.bInts b = ks at *
      k_dflt cell_enter
      have hS52 : StopM 52 := .mk
      k_steps
      all_goals (try unfold Stop)
      all_goals first
        | (exfalso; clear ret; (try simp only [decide_eq_true_eq, decide_eq_false_iff_not, ge_iff_le, Int.not_le] at *); omega)
        | (refine ret _ _ _ _ _ _ ?_ (by k_asm) (by k_extra "!nw") (by assumption); simp; done)
    · have hne' := never_no hnv
      rw [← hi1] at hne'
      generalize hks : KBw.bInts b = ks at *
      k_dflt cell_enter
      have hS52 : StopM 52 := .mk
      k_steps
      all_goals (try unfold Stop)
      all_goals first
        | (exfalso; clear ret; (try simp only [decide_eq_true_eq, decide_eq_false_iff_not, ge_iff_le, Int.not_le] at *); omega)
        | (exfalso; exact absurd (by assumption) (ne_true_of_eq_false hne'))
        | (refine ret _ _ _ _ _ _ ?_ (by k_asm) (by k_extra "!nw") (by assumption); rw [← Array.length_toList, hp1]; simp; done)
end
theorem hk_inside_at_c : True := by
  (k_with "mc" => (k_here; (with_reducible show wpAny _ _ (call (Value.ref 88) _) _ _ _); k_dflt (refine inside_at_c (by k_asm) (by k_asm) (by k_asm) (by k_extra "!nwN") (by k_asm) (by k_extra "!pre fn") (by ktr_room) (by ktr_units) (by k_extra "!pre") (by k_extra "!pre") ?_); k_whole; intro x9 y9 tx9 ty9 h9 tk9 g1 F9 N9 l9; (try k_lt l9); (try k_sweep); (try dsimp only)))
  trivial

-- part whi
section
variable {w : World} {loose : List Str} {mean : ExcName → Option Value} {mg mb : Str → Option Value} {dp un : Nat} {gd : Option (List Code)} {cn : Str} {cs : Scope} {a : Addr} {ccd : Value} {cl : List (Str × Addr)} {outer : List Env} {A₀ : Around} {base h₀ : Heap} {L : Addr} {m : Str → Option Value} {s : Shared} {Q E : Value → Shared → Prop} {news : List (Addr × Obj)} {p : Program}
variable (B : Below A₀ base outer h₀) (F : Fr h₀ L s.heap m) (X : (K w.params).In h₀) (N : News h₀ L s.heap news) (T : Top p loose mean mg mb h₀) (hk : cs.kind = .function)
include B F X N T hk
theorem past_white_c (hd : dp + 30 < recursionLimit) (hu : un + 120 < cLine) {b : Array UInt8} {t t' : Tok} {n k f : Nat} (h1 : b.size < 10000) (hw : whiteF f (b.toList.drop n) = some k)
    (ret : ∀ tx h' tk', Fr h₀ L h' m → News h₀ L h' news → Q (.int ((n + k : Nat) : Int) tx) { s with heap := h', toks := tk' }) :
    wpAny (model PW w) (ktrTop dp un gd cn cs L a ccd cl outer) (call (.ref 123) [.bytes b t, .int (n : Nat) t']) Q E s := by
  have hk := KBw.ints_length b
  k_dflt cell_enter
  k_steps
  unfold Stop
  refine ksw_while (σ := Nat × Tok) (fun _ => news) (fun c => [(Str.ofString "at", .int ((c.1 : Nat) : Int) c.2)]) (fun _ => True) [Str.ofString "behind"]
    (fun c => (∃ f, whiteF f (b.toList.drop c.1) = some (n + k - c.1)) ∧ c.1 ≤ n + k) (fun c => b.size - c.1) (n, t') (by k_asm) (by k_asm) trivial (by kst_all) ⟨⟨f, by rw [hw]; congr 1; omega⟩, by omega⟩ ?_
  rintro ⟨i, ti⟩ u h tk - ⟨⟨f', hf⟩, hin0⟩ F' N'
  dsimp only [kstB] at hf hin0 F' N'
  generalize hrr : b.toList.drop i = r at *
  have hlen : b.size - i = r.length := by rw [← hrr]; simp
  rcases r with _ | ⟨c, r⟩
  · have hz := whiteF_nil hf
    have hi : i = n + k := by omega
    subst hi
    have hS1 : StopM 1 := .mk
    k_steps
    all_goals (try unfold Stop)
    all_goals first
      | (exfalso; clear ret; (try simp only [decide_eq_true_eq, decide_eq_false_iff_not, ge_iff_le, Int.not_le, List.length_nil] at *); omega)
      | exact ret _ _ _ (by k_asm) (by k_extra "!nw")
  · have hi1 : (KBw.bInts b).getD ((i : Int)).toNat 0 = (c.toNat : Int) := item_at b i c r hrr
    have hn1 : i < b.size := by simp at hlen; omega
    have hlt := c.toNat_lt
    have hd1 : b.toList.drop (i + 1) = r := by rw [← List.drop_drop, hrr]; rfl
    by_cases hc : c = 9 ∨ c = 32
    · obtain ⟨f2, j, hj, hjj⟩ := whiteF_sp hc hf
      have hc9 : ((([9, 32] : List Int).any fun x => x == (KBw.bInts b).getD ((i : Int)).toNat 0)) = true := by
        rw [hi1]; rcases hc with rfl | rfl <;> decide
      generalize hks : KBw.bInts b = ks at *
      have hS2 : StopM 2 := .mk
      k_steps
      all_goals (try unfold Stop)
      all_goals first
        | (exfalso; clear ret; (try simp only [decide_eq_true_eq, decide_eq_false_iff_not, ge_iff_le, Int.not_le] at *); omega)
        | (refine ksw_end (i + 1, _) (by k_asm) (by k_asm) (by kcf_all) trivial (by kst_all) (by ksw_same) ⟨⟨f2, ?_⟩, ?_⟩ ?_
           · dsimp only; rw [hd1, hj]; congr 1; omega
           · dsimp only; omega
           · dsimp only; omega)
    · have hc9 : ((([9, 32] : List Int).any fun x => x == (KBw.bInts b).getD ((i : Int)).toNat 0)) = false := by
        rw [hi1]
        simp only [← UInt8.toNat_inj] at hc
        simp at hc ⊢
        omega
      cases hle : lineEnd (c :: r) with
      | none =>
        have hz := whiteF_no hc hle hf
        have hi : i = n + k := by omega
        subst hi
        generalize hks : KBw.bInts b = ks at *
        k_steps
        all_goals first
          | exact ret _ _ _ (by k_asm) (by k_extra "!nw")
          | (exfalso; clear ret; (try simp only [decide_eq_true_eq, decide_eq_false_iff_not, ge_iff_le, Int.not_le, Int.not_lt] at *); omega)
      | some j =>
        obtain ⟨f2, j2, hj, hjj⟩ := whiteF_le hc hle hf
        have hin := lineEnd_in hle
        generalize hks : KBw.bInts b = ks at *
        have hS2 : StopM 2 := .mk
        k_steps
        all_goals (try unfold Stop)
        all_goals first
          | (exfalso; clear ret; (try simp only [decide_eq_true_eq, decide_eq_false_iff_not, ge_iff_le, Int.not_le, Int.not_lt] at *); omega)
          | (refine ksw_end (i + j, _) (by k_asm) (by k_asm) (by kcf_all) trivial (by kst_all) (by ksw_same) ⟨⟨f2, ?_⟩, ?_⟩ ?_
             · dsimp only; rw [← List.drop_drop, hrr, hj]; congr 1; omega
             · dsimp only; omega
             · dsimp only; (try simp only [List.length_cons] at *); omega)
end
theorem hk_past_white_c : True := by
  (k_with "mc" => (k_here; (with_reducible show wpAny _ _ (call (Value.ref 123) _) _ _ _); k_dflt (refine past_white_c (by k_asm) (by k_asm) (by k_asm) (by k_extra "!nwN") (by k_asm) (by k_extra "!pre fn") (by ktr_room) (by ktr_units) (by k_extra "!pre") (by k_extra "!pre") ?_); k_whole; intro tx9 h9 tk9 F9 N9; (try k_sweep); (try dsimp only)))
  trivial

-- part ato
section
variable {w : World} {loose : List Str} {mean : ExcName → Option Value} {mg mb : Str → Option Value} {dp un : Nat} {gd : Option (List Code)} {cn : Str} {cs : Scope} {a : Addr} {ccd : Value} {cl : List (Str × Addr)} {outer : List Env} {A₀ : Around} {base h₀ : Heap} {L : Addr} {m : Str → Option Value} {s : Shared} {Q E : Value → Shared → Prop} {news : List (Addr × Obj)} {p : Program}
variable (B : Below A₀ base outer h₀) (F : Fr h₀ L s.heap m) (X : (K w.params).In h₀) (N : News h₀ L s.heap news) (T : Top p loose mean mg mb h₀) (hk : cs.kind = .function)
include B F X N T hk
theorem atom_at_c (hd : dp + 30 < recursionLimit) (hu : un + 120 < cLine) {b : Array UInt8} {t t' : Tok} {n : Nat} (h1 : b.size < 10000)
    (ret : ∀ x y tx ty h' tk', y.toList = (b.toList.drop n).takeWhile isAtom → Fr h₀ L h' m → News h₀ L h' ((x, { cls := .type "tuple", data := .seq #[.bytes y ty, .int ((n + aLen (b.toList.drop n) : Nat) : Int) tx] }) :: news) → (∀ p ∈ news, p.1 < x) → Q (.ref x) { s with heap := h', toks := tk' }) :
    wpAny (model PW w) (ktrTop dp un gd cn cs L a ccd cl outer) (call (.ref 109) [.bytes b t, .int (n : Nat) t']) Q E s := by
  have hk := KBw.ints_length b
  k_dflt cell_enter
  k_steps
  unfold Stop
  refine ksw_while (σ := Nat × Tok) (fun _ => news) (fun c => [(Str.ofString "end", .int ((c.1 : Nat) : Int) c.2)]) (fun _ => True) []
    (fun c => c.1 + aLen (b.toList.drop c.1) = n + aLen (b.toList.drop n)) (fun c => b.size - c.1) (n, t') (by k_asm) (by k_asm) trivial (by kst_all) rfl ?_
  rintro ⟨i, ti⟩ u h tk - hI F' N'
  dsimp only [kstB] at hI F' N'
  generalize hks : KBw.bInts b = ks at *
  have hS2 : StopM 2 := .mk
  k_steps
  all_goals (try unfold Stop)
  · have hlt : i < b.size := by (try simp only [decide_eq_true_eq] at *); omega
    have hy := aLen_yes b i hlt (by subst hks; first | assumption | exact if_b (by assumption))
    refine ksw_end (i + 1, _) (by k_asm) (by k_asm) (by kcf_all) trivial (by kst_all) (by ksw_same) ?_ ?_
    · dsimp only; omega
    · dsimp only; omega
  · have hlt : i < b.size := by (try simp only [decide_eq_true_eq] at *); omega
    have hy := aLen_no b i hlt (by subst hks; first | assumption | exact if_b (by assumption))
    have hi : i = n + aLen (b.toList.drop n) := by omega
    subst hi
    refine ret _ _ _ _ _ _ ?_ (by k_asm) (by k_asm) (by assumption)
    exact (pick_list b n _).trans (take_aLen _)
  · have hlt : b.size ≤ i := by (try simp only [decide_eq_true_eq, decide_eq_false_iff_not] at *); omega
    have hy := aLen_end b i hlt
    have hi : i = n + aLen (b.toList.drop n) := by omega
    subst hi
    refine ret _ _ _ _ _ _ ?_ (by k_asm) (by k_asm) (by assumption)
    exact (pick_list b n _).trans (take_aLen _)
end
theorem hk_atom_at_c : True := by
  (k_with "mc" => (k_here; (with_reducible show wpAny _ _ (call (Value.ref 109) _) _ _ _); k_dflt (refine atom_at_c (by k_asm) (by k_asm) (by k_asm) (by k_extra "!nwN") (by k_asm) (by k_extra "!pre fn") (by ktr_room) (by ktr_units) (by k_extra "!pre") ?_); k_whole; intro x9 y9 tx9 ty9 h9 tk9 g1 F9 N9 l9; (try k_lt l9); (try k_sweep); (try dsimp only)))
  trivial

-- part cmn
theorem hk_w57589517 : True := by
  (k_with "omega" => omega +splitDisjunctions)
  trivial
section
variable {w : World} {loose : List Str} {mean : ExcName → Option Value} {mg mb : Str → Option Value} {dp un : Nat} {gd : Option (List Code)} {cn : Str} {cs : Scope} {a : Addr} {ccd : Value} {cl : List (Str × Addr)} {outer : List Env} {A₀ : Around} {base h₀ : Heap} {L : Addr} {m : Str → Option Value} {s : Shared} {Q E : Value → Shared → Prop} {news : List (Addr × Obj)} {p : Program}
variable (B : Below A₀ base outer h₀) (F : Fr h₀ L s.heap m) (X : (K w.params).In h₀) (N : News h₀ L s.heap news) (T : Top p loose mean mg mb h₀) (hk : cs.kind = .function)
include B F X N T hk
theorem comment_at_c (hd : dp + 45 < recursionLimit) (hu : un + 180 < cLine) {b : Array UInt8} {t t' : Tok} {n k f : Nat} (h1 : b.size < 10000) (hc : cmt f 1 (b.toList.drop (n + 1)) = some k)
    (ret : ∀ x y tx ty h' tk', Fr h₀ L h' m → News h₀ L h' ((x, { cls := .type "tuple", data := .seq #[.bytes y ty, .int ((n + 1 + k : Nat) : Int) tx] }) :: news) → (∀ p ∈ news, p.1 < x) → Q (.ref x) { s with heap := h', toks := tk' }) :
    wpAny (model PW w) (ktrTop dp un gd cn cs L a ccd cl outer) (call (.ref 102) [.bytes b t, .int (n : Nat) t']) Q E s := by
  have hk := KBw.ints_length b
  have hcl : n + 1 + k ≤ b.size := by
    have h2 := cmt_le f hc
    obtain ⟨c, r, j, -, hi, -, h3⟩ := cmt_step hc
    have := (inside_in hi).1
    have : 1 ≤ k := by rcases h3 with h | ⟨-, f2, j2, -, h⟩ <;> omega
    simp only [List.length_drop, Array.length_toList] at h2; omega
  k_dflt cell_enter
  k_steps
  unfold Stop
  rename_i D _ hl1 _ _ _ _ _ _ _ _
  have hnD : ∀ p ∈ news, p.1 ≠ D := fun p hp => Nat.ne_of_lt (hl1 p hp)
  refine ksw_while (σ := (Array Value × Nat) × (Int × Tok) × (Nat × Tok)) (fun c => (D, W.listOf c.1.1 c.1.2) :: news)
    (fun c => [(Str.ofString "depth", .int c.2.1.1 c.2.1.2), (Str.ofString "at", .int ((c.2.2.1 : Nat) : Int) c.2.2.2)])
    (fun c => (∀ x ∈ c.1.1.toList, ∃ b u, x = .bytes b u ∧ b.size ≤ 100)) [Str.ofString "sign", Str.ofString "octets"]
    (fun c => c.1.1.size ≤ c.2.2.1 ∧ ((c.2.1.1 = 0 ∧ c.2.2.1 = n + 1 + k) ∨ (0 < c.2.1.1 ∧ c.2.2.1 ≤ n + 1 + k ∧ ∃ f, cmt f c.2.1.1.toNat (b.toList.drop c.2.2.1) = some (n + 1 + k - c.2.2.1)))) (fun c => b.size + 1 - c.2.2.1) ((#[], 0), (1, _), (n + 1, _)) F₈ N₈ (fun _ h => nomatch h) (by kst_all)
    ⟨by simp, .inr ⟨by dsimp only; omega, by dsimp only; omega, f, by dsimp only; rw [show Int.toNat 1 = 1 from rfl, hc]; congr 1; omega⟩⟩ ?_
  rintro ⟨⟨vs, ep⟩, ⟨dep, td⟩, ⟨e, te⟩⟩ u h tk hvs ⟨hl, hI⟩ F' N'
  dsimp only [kstB] at hvs hl hI F' N'
  have hsz : vs.size ≤ sizeLine := by rw [sizeLine_eq]; rcases hI with h | h <;> omega
  by_cases h0 : dep = 0
  · have he : e = n + 1 + k := by omega
    subst he h0
    have hS5 : StopM 5 := .mk
    k_steps
    all_goals (try unfold Stop)
    refine join_bytes (items := slicePick vs none (some (-1)) none) (News.isList (by k_asm) (by k_mem)) (fun x hx => hvs x (mem_pick hx)) ?_ ?_
    · have := slicePick_size_le vs none (some (-1)) none; omega
    intro b9 t9 k9
    k_steps
    exact ret _ _ _ _ _ _ (by k_asm) (by k_extra "!nw") (by k_extra "!lt")
  · obtain ⟨hd0, hle0, f', hf⟩ : 0 < dep ∧ e ≤ n + 1 + k ∧ ∃ f, cmt f dep.toNat (b.toList.drop e) = some (n + 1 + k - e) := by
      rcases hI with h | h
      · exact absurd h.1 h0
      · exact h
    obtain ⟨c, r', j, hrr, hin, h20, hnx⟩ := cmt_step hf
    have hin2 := inside_in hin
    have hsg : (KBy.picked b (some (e : Int)) (some ((e : Int) + 1))).toList = [c] := by rw [pick1, hrr]; rfl
    generalize hks : KBw.bInts b = ks at *
    have hS52 : StopM 52 := .mk
    have hS2 : StopM 2 := .mk
    k_steps
    all_goals (try unfold Stop)
    · exfalso
      have hc1 := sgn_yes hsg (by assumption)
      simp only [nextDep, if_pos hc1] at h20
      omega
    all_goals
      have hvs' : ∀ x ∈ (vs.push (.bytes y9 ty9)).toList, ∃ b u, x = .bytes b u ∧ b.size ≤ 100 := by
        intro x hx
        rw [Array.toList_push, List.mem_append] at hx
        rcases hx with hx | hx
        · exact hvs x hx
        · rw [List.mem_singleton] at hx; exact ⟨_, _, hx, by omega⟩
      have hnx2 : ∀ dq : Int, ((nextDep c dep.toNat : Nat) : Int) = dq → (dq = 0 ∧ e + j = n + 1 + k) ∨ (0 < dq ∧ e + j ≤ n + 1 + k ∧ ∃ f, cmt f dq.toNat (b.toList.drop (e + j)) = some (n + 1 + k - (e + j))) := by
        intro dq hq
        rcases hnx with ⟨q1, q2⟩ | ⟨q1, f2, j2, q2, q3⟩
        · left; omega
        · right
          refine ⟨by omega, by omega, f2, ?_⟩
          rw [← List.drop_drop, ← hq, Int.toNat_natCast, q2]
          congr 1; omega
    · have hc1 := sgn_yes hsg (by assumption)
      have hnd : ((nextDep c dep.toNat : Nat) : Int) = dep + 1 := by simp only [nextDep, if_pos hc1]; omega
      refine ksw_end ((vs.push (.bytes y9 ty9), ep + 1), (dep + 1, _), (e + j, _)) (by k_asm) (by k_extra "!nw") (by kcf_all) hvs' (by kst_all) (by ksw_same) ⟨?_, hnx2 _ hnd⟩ ?_
      all_goals (dsimp only; try rw [Array.size_push]); omega
    · have hc0 := sgn_no hsg (d := #[40]) (k := 40) (by assumption)
      have hc1 := sgn_yes hsg (by assumption)
      have hnd : ((nextDep c dep.toNat : Nat) : Int) = dep - 1 := by simp only [nextDep, if_neg hc0, if_pos hc1]; omega
      refine ksw_end ((vs.push (.bytes y9 ty9), ep + 1), (dep - 1, _), (e + j, _)) (by k_asm) (by k_extra "!nw") (by kcf_all) hvs' (by kst_all) (by ksw_same) ⟨?_, hnx2 _ hnd⟩ ?_
      all_goals (dsimp only; try rw [Array.size_push]); omega
    · have hnd : ((nextDep c dep.toNat : Nat) : Int) = dep := by simp only [nextDep, if_neg (sgn_no hsg (d := #[40]) (k := 40) (by assumption)), if_neg (sgn_no hsg (d := #[41]) (k := 41) (by assumption))]; omega
      refine ksw_end ((vs.push (.bytes y9 ty9), ep + 1), (dep, _), (e + j, _)) (by k_asm) (by k_extra "!nw") (by kcf_all) hvs' (by kst_all) (by ksw_same) ⟨?_, hnx2 _ hnd⟩ ?_
      all_goals (dsimp only; try rw [Array.size_push]); omega
end
theorem hk_comment_at_c : True := by
  (k_with "mc" => (k_here; (with_reducible show wpAny _ _ (call (Value.ref 102) _) _ _ _); k_dflt (refine comment_at_c (by k_asm) (by k_asm) (by k_asm) (by k_extra "!nwN") (by k_asm) (by k_extra "!pre fn") (by ktr_room) (by ktr_units) (by k_extra "!pre") (by k_extra "!pre") ?_); k_whole; intro x9 y9 tx9 ty9 h9 tk9 F9 N9 l9; (try k_lt l9); (try k_sweep); (try dsimp only)))
  trivial
theorem hk_w35bd834f : True := by
  (k_with "omega" => ((fail_if_success (fail_if_success omega +splitDisjunctions)); lia))
  trivial

-- part fig
def isFig (l : List Nat) : Bool := !l.isEmpty && l.all (fun c => 48 ≤ c && c ≤ 57)
theorem one_lt {c d : Nat} : (({ cps := #[c] } : Str).cps.toList < [d]) ↔ c < d := by simp [List.cons_lt_cons_iff]
theorem lt_one {c d : Nat} : ([d] < ({ cps := #[c] } : Str).cps.toList) ↔ d < c := by simp [List.cons_lt_cons_iff]
theorem eq_nil {prog : Program} {w : World} {A : Around} {E : Value → Shared → Prop} {s : Shared} {Q : Value → Shared → Prop} {l b : Addr} {items : Array Value} (hl : s.heap.IsList l items) (hb : s.heap.IsList b #[]) (hu : A.units < cLine)
    (h : Q (.bool (items.toList.isEmpty)) s) : wpAny (model prog w) A (compareOp .Eq (.ref l) (.ref b)) Q E s := by
  by_cases hz : items.size = 0
  · have e : items = #[] := Array.eq_empty_of_size_eq_zero hz
    subst e
    exact SeqAt.eq_listAt (e := fun _ => true) hl hb rfl hu (fun j h1 => absurd h1 (by simp)) h
  · have e : items.toList.isEmpty = false := by
      obtain ⟨l⟩ := items
      cases l with
      | nil => simp at hz
      | cons => rfl
    rw [e] at h
    exact SeqAt.eq_list_lengthsAt hl hb (by simpa using hz) hu h
theorem ne_nil {prog : Program} {w : World} {A : Around} {E : Value → Shared → Prop} {s : Shared} {Q : Value → Shared → Prop} {l b : Addr} {items : Array Value} (hl : s.heap.IsList l items) (hb : s.heap.IsList b #[]) (hu : A.units < cLine)
    (h : Q (.bool (!items.toList.isEmpty)) s) : wpAny (model prog w) A (compareOp .NotEq (.ref l) (.ref b)) Q E s := by
  by_cases hz : items.size = 0
  · have e : items = #[] := Array.eq_empty_of_size_eq_zero hz
    subst e
    exact EqBoolInt.of_rcne (SeqAt.RcNeAt.lists (e := fun _ => true) hl hb rfl hu (fun j h1 => absurd h1 (by simp))) h
  · have e : items.toList.isEmpty = false := by
      obtain ⟨l⟩ := items
      cases l with
      | nil => simp at hz
      | cons => rfl
    rw [e] at h
    exact EqBoolInt.of_rcne (SeqAt.RcNeAt.lists_lengths hl hb (by simpa using hz) hu) h
theorem F2.empty {α β : Type} {R : α → β → Prop} {l : List α} {r : List β} (h : F2 R l r) : r.isEmpty = l.isEmpty := by cases h <;> rfl
theorem filter_none {p : Nat → Bool} : ∀ l : List Nat, (l.filter fun c => !p c).isEmpty = l.all p
  | [] => rfl
  | c :: r => by
    rw [List.filter_cons, List.all_cons]
    cases h : p c <;> simp [filter_none r]
theorem str_ne_nil (x : Str) : (x != Str.ofString "") = !x.cps.toList.isEmpty := by
  obtain ⟨⟨l⟩⟩ := x
  rw [show Str.ofString "" = ⟨#[]⟩ from by decide +kernel]
  cases l with
  | nil => decide +kernel
  | cons c r =>
    show (_ != _) = true
    rw [bne_iff_ne]
    intro h
    have := congrArg (fun z : Str => z.cps.size) h
    simp at this
theorem str_eq_nil (x : Str) : (x == Str.ofString "") = x.cps.toList.isEmpty := by
  have := str_ne_nil x
  unfold bne at this
  simpa using this
section
variable {w : World} {loose : List Str} {mean : ExcName → Option Value} {mg mb : Str → Option Value} {dp un : Nat} {gd : Option (List Code)} {cn : Str} {cs : Scope} {a : Addr} {ccd : Value} {cl : List (Str × Addr)} {outer : List Env} {A₀ : Around} {base h₀ : Heap} {L : Addr} {m : Str → Option Value} {s : Shared} {Q E : Value → Shared → Prop} {news : List (Addr × Obj)} {p : Program}
variable (B : Below A₀ base outer h₀) (F : Fr h₀ L s.heap m) (X : (K w.params).In h₀) (N : News h₀ L s.heap news) (T : Top p loose mean mg mb h₀) (hk : cs.kind = .function)
include B F X N T hk
theorem is_figures_c (hd : dp + 30 < recursionLimit) (hu : un + 120 < cLine) {x : Str} {t : Tok} (h1 : x.length < 10000)
    (ret : ∀ h' tk', Fr h₀ L h' m → News h₀ L h' news → Q (.bool (isFig x.cps.toList)) { s with heap := h', toks := tk' }) :
    wpAny (model PW w) (ktrTop dp un gd cn cs L a ccd cl outer) (call (.ref 251) [.str x t]) Q E s := by
  k_dflt cell_enter
  k_steps
  · rename Fr _ _ _ _ => FF
    rename News _ _ _ _ => NN
    refine CW.str rfl FF NN (by rw [sizeLine_eq]; have : x.cps.size < 10000 := h1; omega) ?_
    intro g
    refine restT_items (ks := x.cps.toList) (fun c => !(48 ≤ c && c ≤ 57)) (fun c v => ∃ u, v = .str ⟨#[c]⟩ u) (by simp) ?_ ?_ ?_
    · rintro i v hi ⟨c, u, hc, rfl⟩
      exact ⟨c, by simpa using hc, u, rfl⟩
    · rintro c v I oI C oC D m₂ ys h tk E' hk ⟨u, rfl⟩ hC hx F' N' off ne
      k_steps
      all_goals
        k_extra "!ce"
        have hcs : (({ cps := #[c] } : Str).cps.toList < (Str.ofString "0").cps.toList) ∨ ((Str.ofString "9").cps.toList < ({ cps := #[c] } : Str).cps.toList) ↔ ¬ (48 ≤ c ∧ c ≤ 57) := by
          rw [show (Str.ofString "0").cps.toList = [48] from by decide +kernel, show (Str.ofString "9").cps.toList = [57] from by decide +kernel, one_lt, lt_one]; omega
        have hb : (decide (48 ≤ c) && decide (c ≤ 57)) = (decide (48 ≤ c ∧ c ≤ 57)) := by simp
        clear ret
        first
          | exact ⟨rfl, by rw [hb, Bool.not_eq_true', decide_eq_false_iff_not]; exact hcs.mp (.inl (by assumption)), _, rfl⟩
          | exact ⟨rfl, by rw [hb, Bool.not_eq_true', decide_eq_false_iff_not]; exact hcs.mp (.inr (by assumption)), _, rfl⟩
          | exact ⟨rfl, by rw [hb, Bool.not_eq_false', decide_eq_true_iff]; exact Decidable.of_not_not fun h => (hcs.mpr h).elim (by assumption) (by assumption)⟩
    intro ys hys
    have hS4 : StopM 4 := .mk
    k_steps
    all_goals (try unfold Stop)
    refine eq_nil (by is_list) (by is_list) (by units_room) ?_
    k_steps
    refine rB ret ?_ (by k_asm) (by k_extra "!nw")
    have he : x.cps.toList.isEmpty = false := by
      have := str_ne_nil x
      simp_all
    unfold isFig
    rw [he, hys.empty, filter_none]
    rfl
  · refine rB ret ?_ (by k_asm) (by k_extra "!nw")
    have := str_ne_nil x
    simp_all [isFig]
end
theorem hk_is_figures_c : True := by
  (k_with "mc" => (k_here; (with_reducible show wpAny _ _ (call (Value.ref 251) _) _ _ _); k_dflt (refine is_figures_c (by k_asm) (by k_asm) (by k_asm) (by k_extra "!nwN") (by k_asm) (by k_extra "!pre fn") (by ktr_room) (by ktr_units) (by k_extra "!pre") ?_); k_whole; intro h9 tk9 F9 N9; (try k_sweep); (try dsimp only)))
  trivial

-- part zin
def zoneIn : List Nat → Option Int
  | [s0, a, b, c, d] => if (s0 = 43 ∨ s0 = 45) ∧ isFig [a, b, c, d] = true ∧ NumText.digitsVal [c, d] ≤ 59 then some (if s0 = 45 then -((NumText.digitsVal [a, b] : Int) * 60 + (NumText.digitsVal [c, d] : Int)) else (NumText.digitsVal [a, b] : Int) * 60 + (NumText.digitsVal [c, d] : Int)) else none
  | _ => none
theorem zoneIn_len {l : List Nat} (h : l.length ≠ 5) : zoneIn l = none := by
  rcases l with _ | ⟨_, _ | ⟨_, _ | ⟨_, _ | ⟨_, _ | ⟨_, _ | ⟨_, _⟩⟩⟩⟩⟩⟩ <;> first | rfl | simp at h
def ZV : Option Int → Value → Prop
  | none, v => v = .none
  | some i, v => ∃ t, v = .int i t
theorem slice_toList {x : Str} {i j : Int} (h : 0 ≤ i ∧ i ≤ j ∧ j ≤ x.cps.toList.length) : (Txt.slice x (some i) (some j)).cps.toList = (x.cps.toList.drop i.toNat).take (j - i).toNat := by
  rw [beq_iff_eq.mp (slice_closes h)]
theorem slice_toList1 {x : Str} {i : Int} (h0 : 0 ≤ i) (h : i ≤ x.cps.toList.length) : (Txt.slice x (some i) none).cps.toList = x.cps.toList.drop i.toNat := by
  have hx : (x.length : Int) = x.cps.toList.length := by rw [Array.length_toList]; rfl
  rw [slice_from_eq h0 (by omega) rfl]
  simp only
  rw [List.take_of_length_le]
  rw [List.length_drop, hx]; omega
theorem in_sign (c : Nat) : (Builtin.Str.occurrences (Str.ofString "+-") ⟨#[c]⟩ 0 (Str.ofString "+-").length 1).isEmpty = !decide (c = 43 ∨ c = 45) := by
  have h := StrLaws.found_one (Str.ofString "+-") c
  rw [show (Str.ofString "+-").cps.toList = [43, 45] from by decide +kernel] at h
  rw [← Bool.not_not (List.isEmpty _), h]
  simp
theorem isFig_all {l : List Nat} (h : isFig l = true) : NumText.AllDigits l := by
  intro c hc
  unfold isFig at h
  simp only [Bool.and_eq_true, List.all_eq_true, decide_eq_true_eq] at h
  exact h.2 c hc
theorem dv2 {a b : Nat} : NumText.digitsVal [a, b] = (a - 48) * 10 + (b - 48) := by simp [NumText.digitsVal]
theorem dv2_le {a b : Nat} (ha : a ≤ 57) (hb : b ≤ 57) : NumText.digitsVal [a, b] ≤ 99 := by rw [dv2]; omega
theorem five {x : Str} (hx : (x.length : Int) = 5) : ∃ s0 a1 a2 a3 a4, x.cps.toList = [s0, a1, a2, a3, a4] ∧ Txt.item x 0 = ⟨#[s0]⟩ ∧ (Txt.slice x (some 1) none).cps.toList = [a1, a2, a3, a4] ∧ (Txt.slice x (some 3) none).cps.toList = [a3, a4] ∧ (Txt.slice x (some 1) (some 3)).cps.toList = [a1, a2] := by
  have hxl : x.cps.toList.length = x.length := by rw [Array.length_toList]; rfl
  have h5 : x.cps.toList.length = 5 := by omega
  obtain ⟨s0, a1, a2, a3, a4, hl⟩ : ∃ s0 a1 a2 a3 a4, x.cps.toList = [s0, a1, a2, a3, a4] := by
    rcases h : x.cps.toList with _ | ⟨b0, _ | ⟨b1, _ | ⟨b2, _ | ⟨b3, _ | ⟨b4, _ | ⟨b5, _⟩⟩⟩⟩⟩⟩ <;> rw [h] at h5 <;> simp at h5
    exact ⟨_, _, _, _, _, rfl⟩
  refine ⟨s0, a1, a2, a3, a4, hl, item_meets (by decide) (by rw [← Array.getElem?_toList, hl]; rfl), ?_, ?_, ?_⟩
  · rw [slice_toList1 (by decide) (by omega), hl]; rfl
  · rw [slice_toList1 (by decide) (by omega), hl]; rfl
  · rw [slice_toList (by omega), hl]; rfl
theorem zi_sign {x : Str} (hx : (x.length : Int) = 5) (h : (Builtin.Str.occurrences (Str.ofString "+-") (Txt.item x 0) 0 (Str.ofString "+-").length 1).isEmpty = true) : zoneIn x.cps.toList = none := by
  obtain ⟨s0, a1, a2, a3, a4, hl, hi, -, -, -⟩ := five hx
  rw [hi, in_sign] at h
  rw [hl]
  simp only [zoneIn]
  rw [if_neg]
  intro h2
  simp [h2.1] at h
theorem zi_fig {x : Str} (hx : (x.length : Int) = 5) (h : isFig (Txt.slice x (some 1) none).cps.toList = false) : zoneIn x.cps.toList = none := by
  obtain ⟨s0, a1, a2, a3, a4, hl, hi, h1, -, -⟩ := five hx
  rw [h1] at h
  rw [hl]
  simp [zoneIn, h]
theorem zi_int3 {x : Str} (hx : (x.length : Int) = 5) (h : isFig (Txt.slice x (some 1) none).cps.toList = true) : ∃ m2 : Nat, m2 ≤ 99 ∧ PySem.intText? (Txt.slice x (some 3) none) = some (m2 : Int) ∧ m2 = NumText.digitsVal (x.cps.toList.drop 3) := by
  obtain ⟨s0, a1, a2, a3, a4, hl, hi, h1, h3, -⟩ := five hx
  rw [h1] at h
  have hd := isFig_all h
  have d3 := hd a3 (by simp)
  have d4 := hd a4 (by simp)
  refine ⟨_, ?_, intText_digits (by rw [h3]; intro c hc; exact hd c (by simp at hc ⊢; omega)) (by rw [h3]; simp) ?_, ?_⟩
  · rw [h3]; exact dv2_le d3.2 d4.2
  · have := PyProof.Txt.length_slice_le x (some 3) none; omega
  · rw [h3, hl]; rfl
theorem zi_int1 {x : Str} (hx : (x.length : Int) = 5) (h : isFig (Txt.slice x (some 1) none).cps.toList = true) : ∃ m1 : Nat, m1 ≤ 99 ∧ PySem.intText? (Txt.slice x (some 1) (some 3)) = some (m1 : Int) ∧ m1 = NumText.digitsVal ((x.cps.toList.drop 1).take 2) := by
  obtain ⟨s0, a1, a2, a3, a4, hl, hi, h1, -, h3⟩ := five hx
  rw [h1] at h
  have hd := isFig_all h
  have d3 := hd a1 (by simp)
  have d4 := hd a2 (by simp)
  refine ⟨_, ?_, intText_digits (by rw [h3]; intro c hc; exact hd c (by simp at hc ⊢; omega)) (by rw [h3]; simp) ?_, ?_⟩
  · rw [h3]; exact dv2_le d3.2 d4.2
  · have := PyProof.Txt.length_slice_le x (some 1) (some 3); omega
  · rw [h3, hl]; rfl
theorem zi_much {x : Str} {m2 : Nat} (hx : (x.length : Int) = 5) (hm : m2 = NumText.digitsVal (x.cps.toList.drop 3)) (h : 59 < m2) : zoneIn x.cps.toList = none := by
  obtain ⟨s0, a1, a2, a3, a4, hl, -, -, -, -⟩ := five hx
  rw [hl] at hm ⊢
  have : NumText.digitsVal [a3, a4] = m2 := hm.symm
  simp only [zoneIn, this]
  rw [if_neg]; omega
theorem zi_some {x : Str} {m1 m2 : Nat} (hx : (x.length : Int) = 5) (h0 : (Builtin.Str.occurrences (Str.ofString "+-") (Txt.item x 0) 0 (Str.ofString "+-").length 1).isEmpty = false) (hf : isFig (Txt.slice x (some 1) none).cps.toList = true)
    (hm : m2 = NumText.digitsVal (x.cps.toList.drop 3)) (hm1 : m1 = NumText.digitsVal ((x.cps.toList.drop 1).take 2)) (h : m2 ≤ 59) : zoneIn x.cps.toList = some (if (Txt.item x 0 == Str.ofString "-") = true then -((m1 : Int) * 60 + m2) else (m1 : Int) * 60 + m2) := by
  obtain ⟨s0, a1, a2, a3, a4, hl, hi, h1, -, -⟩ := five hx
  rw [h1] at hf
  rw [hi, in_sign] at h0
  simp only [Bool.not_eq_false', decide_eq_true_eq] at h0
  rw [hl] at hm hm1 ⊢
  have e2 : NumText.digitsVal [a3, a4] = m2 := hm.symm
  have e1 : NumText.digitsVal [a1, a2] = m1 := hm1.symm
  simp only [zoneIn, e1, e2]
  rw [if_pos ⟨h0, hf, h⟩, hi, show Str.ofString "-" = ⟨#[45]⟩ from by decide +kernel]
  congr 1
  by_cases hs : s0 = 45
  · subst hs; simp
  · have : ((⟨#[s0]⟩ : Str) == ⟨#[45]⟩) = false := by
      rw [beq_eq_false_iff_ne]; intro e; exact hs (by simpa using congrArg (fun z : Str => z.cps) e)
    rw [this, if_neg hs]; rfl
section
variable {w : World} {loose : List Str} {mean : ExcName → Option Value} {mg mb : Str → Option Value} {dp un : Nat} {gd : Option (List Code)} {cn : Str} {cs : Scope} {a : Addr} {ccd : Value} {cl : List (Str × Addr)} {outer : List Env} {A₀ : Around} {base h₀ : Heap} {L : Addr} {m : Str → Option Value} {s : Shared} {Q E : Value → Shared → Prop} {news : List (Addr × Obj)} {p : Program}
variable (B : Below A₀ base outer h₀) (F : Fr h₀ L s.heap m) (X : (K w.params).In h₀) (N : News h₀ L s.heap news) (T : Top p loose mean mg mb h₀) (hk : cs.kind = .function)
include B F X N T hk
theorem zone_in_c (hd : dp + 45 < recursionLimit) (hu : un + 180 < cLine) {x : Str} {t : Tok} (h1 : x.length < 10000)
    (ret : ∀ v h' tk', ZV (zoneIn x.cps.toList) v → Fr h₀ L h' m → News h₀ L h' news → Q v { s with heap := h', toks := tk' }) :
    wpAny (model PW w) (ktrTop dp un gd cn cs L a ccd cl outer) (call (.ref 258) [.str x t]) Q E s := by
  have hxl : x.cps.toList.length = x.length := by rw [Array.length_toList]; rfl
  k_dflt cell_enter
  k_steps
  · refine ret _ _ _ ?_ (by k_asm) (by k_extra "!nw")
    rw [zoneIn_len (by omega)]; rfl
  · refine ret _ _ _ ?_ (by k_asm) (by k_extra "!nw")
    rw [zi_sign (by with_reducible assumption) (by with_reducible assumption)]; rfl
  · have hx : (x.length : Int) = 5 := by with_reducible assumption
    have hf : isFig (Txt.slice x (some 1) none).cps.toList = true := by with_reducible assumption
    obtain ⟨m2, g2, g3, g4⟩ := zi_int3 hx hf
    obtain ⟨m1, g5, g6, g7⟩ := zi_int1 hx hf
    refine KIN.call_text g3 (by omega) ?_
    k_steps
    · refine ret _ _ _ ?_ (by k_asm) (by k_extra "!nw")
      rw [zi_much hx g4 (by omega)]; rfl
    all_goals
      refine ret _ _ _ ?_ (by k_asm) (by k_extra "!nw")
      rw [zi_some hx (by with_reducible assumption) hf g4 g7 (by omega)]
      first | rw [show (Txt.item x 0 == Str.ofString "-") = true by with_reducible assumption] | rw [show (Txt.item x 0 == Str.ofString "-") = false by with_reducible assumption]
      exact ⟨_, rfl⟩
  · refine ret _ _ _ ?_ (by k_asm) (by k_extra "!nw")
    rw [zi_fig (by with_reducible assumption) (by with_reducible assumption)]; rfl
end
section
variable {w : World} {loose : List Str} {mean : ExcName → Option Value} {mg mb : Str → Option Value} {dp un : Nat} {gd : Option (List Code)} {cn : Str} {cs : Scope} {a : Addr} {ccd : Value} {cl : List (Str × Addr)} {outer : List Env} {A₀ : Around} {base h₀ : Heap} {L : Addr} {m : Str → Option Value} {s : Shared} {Q E : Value → Shared → Prop} {news : List (Addr × Obj)} {p : Program}
variable (B : Below A₀ base outer h₀) (F : Fr h₀ L s.heap m) (X : (K w.params).In h₀) (N : News h₀ L s.heap news) (T : Top p loose mean mg mb h₀) (hk : cs.kind = .function)
include B F X N T hk
theorem zone_in_n (hd : dp + 45 < recursionLimit) (hu : un + 180 < cLine) {x : Str} {t : Tok} (h1 : x.length < 10000) (hz : zoneIn x.cps.toList = none)
    (ret : ∀ h' tk', Fr h₀ L h' m → News h₀ L h' news → Q .none { s with heap := h', toks := tk' }) :
    wpAny (model PW w) (ktrTop dp un gd cn cs L a ccd cl outer) (call (.ref 258) [.str x t]) Q E s :=
  zone_in_c B F X N T hk hd hu h1 fun v h' tk' z F N => by rw [hz] at z; cases z; exact ret _ _ F N
theorem zone_in_s (hd : dp + 45 < recursionLimit) (hu : un + 180 < cLine) {x : Str} {t : Tok} {i : Int} (h1 : x.length < 10000) (hz : zoneIn x.cps.toList = some i)
    (ret : ∀ t h' tk', Fr h₀ L h' m → News h₀ L h' news → Q (.int i t) { s with heap := h', toks := tk' }) :
    wpAny (model PW w) (ktrTop dp un gd cn cs L a ccd cl outer) (call (.ref 258) [.str x t]) Q E s :=
  zone_in_c B F X N T hk hd hu h1 fun v h' tk' z F N => by rw [hz] at z; obtain ⟨t, rfl⟩ := z; exact ret _ _ _ F N
end
theorem hk_zone_in_n : True := by
  (k_with "mc" => (k_here; (with_reducible show wpAny _ _ (call (Value.ref 258) _) _ _ _); k_dflt (refine zone_in_n (by k_asm) (by k_asm) (by k_asm) (by k_extra "!nwN") (by k_asm) (by k_extra "!pre fn") (by ktr_room) (by ktr_units) (by k_extra "!pre") (by k_extra "!pre") ?_); k_whole; intro h9 tk9 F9 N9; (try k_sweep); (try dsimp only)))
  trivial
theorem hk_zone_in_s : True := by
  (k_with "mc" => (k_here; (with_reducible show wpAny _ _ (call (Value.ref 258) _) _ _ _); k_dflt (refine zone_in_s (by k_asm) (by k_asm) (by k_asm) (by k_extra "!nwN") (by k_asm) (by k_extra "!pre fn") (by ktr_room) (by ktr_units) (by k_extra "!pre") (by k_extra "!pre") ?_); k_whole; intro t9 h9 tk9 F9 N9; (try k_sweep); (try dsimp only)))
  trivial

-- part nz
def isLow (l : List Nat) : Bool := !l.isEmpty && l.all (fun c => 97 ≤ c && c ≤ 122)
def hoursOf (y : Str) : Int :=
  if Str.ofString "est" = y then -5 else if Str.ofString "edt" = y then -4 else if Str.ofString "cst" = y then -6 else if Str.ofString "cdt" = y then -5
  else if Str.ofString "mst" = y then -7 else if Str.ofString "mdt" = y then -6 else if Str.ofString "pst" = y then -8 else if Str.ofString "pdt" = y then -7 else 0
theorem hours_in (y : Str) : -8 ≤ hoursOf y ∧ hoursOf y ≤ 0 := by unfold hoursOf; (repeat' split) <;> omega
def namedZone (x : Str) : Option Int := if isLow (lowerT x).cps.toList then some (hoursOf (lowerT x) * 60) else none
theorem low_toList (x : Str) : (lowerT x).cps.toList = x.cps.toList.map lowN := rfl
theorem low_len (x : Str) : (lowerT x).cps.size = x.cps.size := by simp [lowerT, tx]
theorem hours_at {v : Value} {y : Str} {t1 t2 t3 t4 t5 t6 t7 t8 : Tok} (h : PyProof.V.Flat v ((Spec.lookup (.str y) [(.str (Str.ofString "est"), (datumOf (.int (-5) t1)).getD .none), (.str (Str.ofString "edt"), (datumOf (.int (-4) t2)).getD .none),
    (.str (Str.ofString "cst"), (datumOf (.int (-6) t3)).getD .none), (.str (Str.ofString "cdt"), (datumOf (.int (-5) t4)).getD .none), (.str (Str.ofString "mst"), (datumOf (.int (-7) t5)).getD .none), (.str (Str.ofString "mdt"), (datumOf (.int (-6) t6)).getD .none),
    (.str (Str.ofString "pst"), (datumOf (.int (-8) t7)).getD .none), (.str (Str.ofString "pdt"), (datumOf (.int (-7) t8)).getD .none)]).getD (.int 0))) : ∃ t, v = .int (hoursOf y) t := by
  refine PyProof.V.Flat.int_inv ?_
  refine Eq.mp (congrArg (PyProof.V.Flat v) ?_) h
  unfold hoursOf
  simp only [Spec.lookup, PyProof.V.same_str, datumOf, Option.getD_some, decide_eq_true_eq]
  iterate 8 (split; rfl)
  rfl
section
variable {w : World} {loose : List Str} {mean : ExcName → Option Value} {mg mb : Str → Option Value} {dp un : Nat} {gd : Option (List Code)} {cn : Str} {cs : Scope} {a : Addr} {ccd : Value} {cl : List (Str × Addr)} {outer : List Env} {A₀ : Around} {base h₀ : Heap} {L : Addr} {m : Str → Option Value} {s : Shared} {Q E : Value → Shared → Prop} {news : List (Addr × Obj)} {p : Program}
variable (B : Below A₀ base outer h₀) (F : Fr h₀ L s.heap m) (X : (K w.params).In h₀) (N : News h₀ L s.heap news) (T : Top p loose mean mg mb h₀) (hk : cs.kind = .function)
include B F X N T hk
theorem named_zone_c (hd : dp + 45 < recursionLimit) (hu : un + 220 < cLine) {x : Str} {t : Tok} (h0 : ∀ c ∈ x.cps.toList, c < 1114112) (h1 : x.cps.size < 10000)
    (ret : ∀ v h' tk', ZV (namedZone x) v → Fr h₀ L h' m → News h₀ L h' news → Q v { s with heap := h', toks := tk' }) :
    wpAny (model PW w) (ktrTop dp un gd cn cs L a ccd cl outer) (call (.ref 263) [.str x t]) Q E s := by
  k_dflt cell_enter
  k_steps
  · refine ret _ _ _ ?_ (by k_asm) (by k_extra "!nw")
    have he : x.cps.toList.isEmpty = true := by rw [← str_eq_nil]; assumption
    rw [namedZone, isLow, low_toList, List.isEmpty_map, he]; rfl
  · rename Fr _ _ _ _ => FF
    rename News _ _ _ _ => NN
    have hls : (lowerT x).cps.size = x.cps.size := by simp [lowerT, tx]
    refine CW.str rfl FF NN (by rw [sizeLine_eq]; omega) ?_
    intro g
    refine restT_items (ks := (lowerT x).cps.toList) (fun c => !(97 ≤ c && c ≤ 122)) (fun c v => ∃ u, v = .str ⟨#[c]⟩ u) (by simp) ?_ ?_ ?_
    · rintro i v hi ⟨c, u, hc, rfl⟩
      exact ⟨c, by simpa using hc, u, rfl⟩
    · rintro c v I oI C oC D m₂ ys h tk E' hk ⟨u, rfl⟩ hC hx F' N' off ne
      k_steps
      all_goals
        k_extra "!ce"
        have hcs : (({ cps := #[c] } : Str).cps.toList < (Str.ofString "a").cps.toList) ∨ ((Str.ofString "z").cps.toList < ({ cps := #[c] } : Str).cps.toList) ↔ ¬ (97 ≤ c ∧ c ≤ 122) := by
          rw [show (Str.ofString "a").cps.toList = [97] from by decide +kernel, show (Str.ofString "z").cps.toList = [122] from by decide +kernel, one_lt, lt_one]; omega
        have hb : (decide (97 ≤ c) && decide (c ≤ 122)) = (decide (97 ≤ c ∧ c ≤ 122)) := by simp
        clear ret
        first
          | exact ⟨rfl, by rw [hb, Bool.not_eq_true', decide_eq_false_iff_not]; exact hcs.mp (.inl (by assumption)), _, rfl⟩
          | exact ⟨rfl, by rw [hb, Bool.not_eq_true', decide_eq_false_iff_not]; exact hcs.mp (.inr (by assumption)), _, rfl⟩
          | exact ⟨rfl, by rw [hb, Bool.not_eq_false', decide_eq_true_iff]; exact Decidable.of_not_not fun h => (hcs.mpr h).elim (by assumption) (by assumption)⟩
    intro ys hys
    have hS4 : StopM 4 := .mk
    k_steps
    all_goals (try unfold Stop)
    refine ne_nil (by is_list) (by is_list) (by units_room) ?_
    k_steps
    · rename PyProof.V.Flat _ _ => hv
      obtain ⟨t8, rfl⟩ := hours_at hv
      have hin := hours_in (lowerT x)
      clear hv
      have hy : (List.filter (fun c => !(decide (97 ≤ c) && decide (c ≤ 122))) (lowerT x).cps.toList).isEmpty = true := by
        have h9 : ys.toArray.toList.isEmpty = true := by assumption
        rw [← hys.empty]; exact h9
      k_steps
      refine ret _ _ _ ?_ (by k_asm) (by k_extra "!nw")
      have he : x.cps.toList.isEmpty = false := by rw [← str_eq_nil]; assumption
      rw [namedZone, isLow, if_pos]
      · exact ⟨_, rfl⟩
      · rw [filter_none] at hy
        rw [hy, low_toList, List.isEmpty_map, he]; rfl
    · refine ret _ _ _ ?_ (by k_asm) (by k_extra "!nw")
      have hy : (List.filter (fun c => !(decide (97 ≤ c) && decide (c ≤ 122))) (lowerT x).cps.toList).isEmpty = false := by
        have h9 : ys.toArray.toList.isEmpty = false := by assumption
        rw [← hys.empty]; exact h9
      rw [filter_none] at hy
      rw [namedZone, isLow, hy, Bool.and_false]; rfl
end
section
variable {w : World} {loose : List Str} {mean : ExcName → Option Value} {mg mb : Str → Option Value} {dp un : Nat} {gd : Option (List Code)} {cn : Str} {cs : Scope} {a : Addr} {ccd : Value} {cl : List (Str × Addr)} {outer : List Env} {A₀ : Around} {base h₀ : Heap} {L : Addr} {m : Str → Option Value} {s : Shared} {Q E : Value → Shared → Prop} {news : List (Addr × Obj)} {p : Program}
variable (B : Below A₀ base outer h₀) (F : Fr h₀ L s.heap m) (X : (K w.params).In h₀) (N : News h₀ L s.heap news) (T : Top p loose mean mg mb h₀) (hk : cs.kind = .function)
include B F X N T hk
theorem named_zone_n (hd : dp + 45 < recursionLimit) (hu : un + 220 < cLine) {x : Str} {t : Tok} (h0 : ∀ c ∈ x.cps.toList, c < 1114112) (h1 : x.cps.size < 10000) (hz : namedZone x = none)
    (ret : ∀ h' tk', Fr h₀ L h' m → News h₀ L h' news → Q .none { s with heap := h', toks := tk' }) :
    wpAny (model PW w) (ktrTop dp un gd cn cs L a ccd cl outer) (call (.ref 263) [.str x t]) Q E s :=
  named_zone_c B F X N T hk hd hu h0 h1 fun v h' tk' z F N => by rw [hz] at z; cases z; exact ret _ _ F N
theorem named_zone_s (hd : dp + 45 < recursionLimit) (hu : un + 220 < cLine) {x : Str} {t : Tok} {i : Int} (h0 : ∀ c ∈ x.cps.toList, c < 1114112) (h1 : x.cps.size < 10000) (hz : namedZone x = some i)
    (ret : ∀ t h' tk', Fr h₀ L h' m → News h₀ L h' news → Q (.int i t) { s with heap := h', toks := tk' }) :
    wpAny (model PW w) (ktrTop dp un gd cn cs L a ccd cl outer) (call (.ref 263) [.str x t]) Q E s :=
  named_zone_c B F X N T hk hd hu h0 h1 fun v h' tk' z F N => by rw [hz] at z; obtain ⟨t, rfl⟩ := z; exact ret _ _ _ F N
end
theorem hk_named_zone_n : True := by
  (k_with "mc" => (k_here; (with_reducible show wpAny _ _ (call (Value.ref 263) _) _ _ _); k_dflt (refine named_zone_n (by k_asm) (by k_asm) (by k_asm) (by k_extra "!nwN") (by k_asm) (by k_extra "!pre fn") (by ktr_room) (by ktr_units) (by k_extra "!pre") (by k_extra "!pre") (by k_extra "!pre") ?_); k_whole; intro h9 tk9 F9 N9; (try k_sweep); (try dsimp only)))
  trivial
theorem hk_named_zone_s : True := by
  (k_with "mc" => (k_here; (with_reducible show wpAny _ _ (call (Value.ref 263) _) _ _ _); k_dflt (refine named_zone_s (by k_asm) (by k_asm) (by k_asm) (by k_extra "!nwN") (by k_asm) (by k_extra "!pre fn") (by ktr_room) (by ktr_units) (by k_extra "!pre") (by k_extra "!pre") (by k_extra "!pre") ?_); k_whole; intro t9 h9 tk9 F9 N9; (try k_sweep); (try dsimp only)))
  trivial

-- part sin
theorem tupK {K : Frag} {h : Heap} {a : Addr} {its : Array Value} {n : Nat} (X : K.In h) (e : K.lookup a = some { cls := .type "tuple", data := .seq its n }) : h.IsTuple a its := ⟨_, X _ _ e, rfl, n, rfl⟩
def isStr (y : Str) : Value → Bool
  | .str z _ => z.cps.toList == y.cps.toList
  | _ => false
theorem strs_any (y : Str) {vs : List Value} {xs : List Str} (h : StrsAre vs xs) : vs.any (isStr y) = decide (y ∈ xs) := by
  induction h with
  | nil => rfl
  | cons z u _ ih =>
    have h : isStr y (.str z u) = decide (y = z) := by
      rw [Bool.eq_iff_iff, decide_eq_true_iff]
      exact beq_iff_eq.trans ⟨fun h => (Str.ext' (Array.toList_inj.mp h)).symm, fun h => by rw [h]⟩
    rw [List.any_cons, ih, h, Bool.eq_iff_iff, Bool.or_eq_true, decide_eq_true_iff, decide_eq_true_iff, decide_eq_true_iff, List.mem_cons]
theorem strs_at {vs : List Value} {xs : List Str} (h : StrsAre vs xs) : vs.length = xs.length ∧ ∀ i (h1 : i < vs.length) (h2 : i < xs.length), ∃ t, vs[i] = .str xs[i] t := by
  induction h with
  | nil => exact ⟨rfl, fun i h => absurd h (by simp)⟩
  | cons z u r ih =>
    refine ⟨by simp [ih.1], fun i h1 h2 => ?_⟩
    cases i with
    | zero => exact ⟨u, rfl⟩
    | succ i => exact ih.2 i (by simpa using h1) (by simpa using h2)
theorem isStr_self (y : Str) (t : Tok) : isStr y (.str y t) = true := by simp [isStr]
theorem isStr_ne {y z : Str} (t : Tok) (h : z ≠ y) : isStr y (.str z t) = false := by
  simp only [isStr, beq_eq_false_iff_ne]
  exact fun e => h (Str.ext' (Array.toList_inj.mp e))
section
variable {prog : Program} {w : World} {A : Around} {E : Value → Shared → Prop} {s : Shared}
theorem strs_eqAt {y : Str} {t : Tok} {vs : List Value} {xs : List Str} (h : StrsAre vs xs) : ∀ v ∈ vs, SeqAt.EqAt A s v (.str y t) (isStr y v) := by
  intro v hv
  obtain ⟨i, hi, rfl⟩ := List.getElem_of_mem hv
  obtain ⟨hlen, hat⟩ := strs_at h
  obtain ⟨u, e⟩ := hat i hi (by omega)
  rw [e]
  exact (SeqRoads2.EqGives.str _ _ _ _).at _ _
theorem in_strs {l : Addr} {vs : List Value} {xs : List Str} {y : Str} {t : Tok} {Q : Value → Shared → Prop} (hl : s.heap.IsList l vs.toArray) (hs : StrsAre vs xs) (h : Q (.bool (decide (y ∈ xs))) s) :
    wpAny (model prog w) A (compareOp .In (.str y t) (.ref l)) Q E s := by
  refine SeqAt.in_listAt (isStr y) hl (fun v hv => strs_eqAt hs v (by simpa using hv)) ?_
  rw [List.any_toArray, strs_any y hs]; exact h
theorem index_strs {l : Addr} {vs : List Value} {xs : List Str} {y : Str} {t : Tok} {Q : Value → Shared → Prop} (hl : s.heap.IsList l vs.toArray) (hs : StrsAre vs xs) (hb : xs.length < 1000) (hk : y ∈ xs) (h : Q (.int (xs.idxOf y : Nat) s.toks) { s with toks := s.toks + 1 }) :
    wpAny (model prog w) A (call (.builtin "list.index") [.ref l, .str y t]) Q E s := by
  obtain ⟨⟨cls, dd, data, sl⟩, ho, hc, n, hd⟩ := id hl
  simp only at hc hd
  subst hc hd
  obtain ⟨hlen, hat⟩ := strs_at hs
  have hj : xs.idxOf y < xs.length := List.idxOf_lt_length_iff.mpr hk
  refine call_meets PySem.F.slot_list_index ⟨_, ho, rfl⟩ PySem.F.entry_list_index (PySem.F.args_list_index_2 _ _)
    (SeqAt.list_indexAt l vs.toArray n dd sl (.str y t) (isStr y) (xs.idxOf y) (by simpa [hlen] using hj) (by omega) ?_ ?_) ⟨ho, fun v hv => strs_eqAt hs v (by simpa using hv), h⟩
  · obtain ⟨u, e⟩ := hat (xs.idxOf y) (by omega) hj
    show isStr y vs[xs.idxOf y] = true
    rw [e, List.getElem_idxOf hj]; exact isStr_self y u
  · intro j hjs hlt
    obtain ⟨u, e⟩ := hat j (by simpa using hjs) (by omega)
    show isStr y vs[j] = false
    rw [e]
    exact isStr_ne u fun q => by
      have h9 := List.not_of_lt_findIdx (p := (· == y)) (xs := xs) (i := j) (by exact hlt)
      simp [q] at h9
end
def monthNames : List Str := [Str.ofString "Jan", Str.ofString "Feb", Str.ofString "Mar", Str.ofString "Apr", Str.ofString "May", Str.ofString "Jun", Str.ofString "Jul", Str.ofString "Aug", Str.ofString "Sep", Str.ofString "Oct", Str.ofString "Nov", Str.ofString "Dec"]
def dayNames : List Str := [Str.ofString "Mon", Str.ofString "Tue", Str.ofString "Wed", Str.ofString "Thu", Str.ofString "Fri", Str.ofString "Sat", Str.ofString "Sun"]
def monthNo (x : Str) : Nat := if lowerT x ∈ monthNames.map lowerT then (monthNames.map lowerT).idxOf (lowerT x) + 1 else 0
def isDayName (x : Str) : Bool := decide (lowerT x ∈ dayNames.map lowerT)
theorem names_short : ∀ n ∈ monthNames ++ dayNames, n.cps.size = 3 ∧ ∀ c ∈ n.cps.toList, c < 1114112 := by decide +kernel
theorem item_of {vs : List Value} {xs : List Str} (h : StrsAre vs xs) {i : Nat} {v : Value} (hi : i < vs.length) (hv : vs.toArray[i]? = some v) : ∃ k, xs[i]? = some k ∧ ∃ t, v = .str k t := by
  obtain ⟨hlen, hat⟩ := strs_at h
  obtain ⟨t, e⟩ := hat i hi (by omega)
  rw [List.getElem?_toArray, List.getElem?_eq_getElem hi, e] at hv
  exact ⟨_, List.getElem?_eq_getElem (by omega), t, (Option.some.inj hv).symm⟩
section
variable {w : World} {loose : List Str} {mean : ExcName → Option Value} {mg mb : Str → Option Value} {dp un : Nat} {gd : Option (List Code)} {cn : Str} {cs : Scope} {a : Addr} {ccd : Value} {cl : List (Str × Addr)} {outer : List Env} {A₀ : Around} {base h₀ : Heap} {L : Addr} {m : Str → Option Value} {s : Shared} {Q E : Value → Shared → Prop} {news : List (Addr × Obj)} {p : Program}
variable (B : Below A₀ base outer h₀) (F : Fr h₀ L s.heap m) (X : (K w.params).In h₀) (N : News h₀ L s.heap news) (T : Top p loose mean mg mb h₀) (hk : cs.kind = .function)
include B F X N T hk
theorem month_number_c (hd : dp + 45 < recursionLimit) (hu : un + 220 < cLine) {x : Str} {t : Tok} (h0 : ∀ c ∈ x.cps.toList, c < 1114112) (h1 : x.cps.size < 10000)
    (ret : ∀ t h' tk', Fr h₀ L h' m → News h₀ L h' news → Q (.int (monthNo x : Nat) t) { s with heap := h', toks := tk' }) :
    wpAny (model PW w) (ktrTop dp un gd cn cs L a ccd cl outer) (call (.ref 241) [.str x t]) Q E s := by
  k_dflt cell_enter
  k_steps
  rename Fr _ _ _ _ => FF
  rename News _ _ _ _ => NN
  rename Frag.In _ _ => XX
  refine CW.tup rfl FF NN (tupK XX (by k_is)) (by rw [sizeLine_eq]; decide) ?_
  intro g
  refine rest_strs (ks := monthNames) lowerT (fun n v => ∃ t, v = .str n t) (by rfl) ?_ ?_ ?_
  · intro i v hi hv
    exact item_of (by repeat constructor) (by simpa using hi) hv
  · rintro n v I oI C oC D m₂ ys h tk E' hn ⟨u, rfl⟩ hC hx F' N' off ne
    obtain ⟨hn1, hn2⟩ := names_short n (List.mem_append_left _ hn)
    have hn3 : n.cps.size < 10000 := by omega
    k_steps
    k_extra "!ce"
    exact ⟨rfl, _, rfl⟩
  intro ys hys
  have hS5 : StopM 5 := .mk
  k_steps
  all_goals (try unfold Stop)
  · have hm : lowerT x ∈ monthNames.map lowerT := by
      have ha : ((monthNames.map lowerT).any fun y => y == lowerT x) = true := by assumption
      simpa using ha
    refine index_strs (News.isList (by k_asm) (by k_mem)) hys (by decide) hm ?_
    k_steps
    refine rI ret ?_ (by k_asm) (by k_extra "!nw")
    unfold monthNo
    rw [if_pos hm]; rfl
  · refine rI ret ?_ (by k_asm) (by k_extra "!nw")
    have ha : ((monthNames.map lowerT).any fun y => y == lowerT x) = false := by assumption
    unfold monthNo
    rw [if_neg]; rfl
    intro hm
    have : ((monthNames.map lowerT).any fun y => y == lowerT x) = true := by simpa using hm
    rw [ha] at this; cases this
theorem is_day_name_c (hd : dp + 45 < recursionLimit) (hu : un + 220 < cLine) {x : Str} {t : Tok} (h0 : ∀ c ∈ x.cps.toList, c < 1114112) (h1 : x.cps.size < 10000)
    (ret : ∀ h' tk', Fr h₀ L h' m → News h₀ L h' news → Q (.bool (isDayName x)) { s with heap := h', toks := tk' }) :
    wpAny (model PW w) (ktrTop dp un gd cn cs L a ccd cl outer) (call (.ref 246) [.str x t]) Q E s := by
  k_dflt cell_enter
  k_steps
  rename Fr _ _ _ _ => FF
  rename News _ _ _ _ => NN
  rename Frag.In _ _ => XX
  refine CW.tup rfl FF NN (tupK XX (by k_is)) (by rw [sizeLine_eq]; decide) ?_
  intro g
  refine rest_strs (ks := dayNames) lowerT (fun n v => ∃ t, v = .str n t) (by rfl) ?_ ?_ ?_
  · intro i v hi hv
    exact item_of (by repeat constructor) (by simpa using hi) hv
  · rintro n v I oI C oC D m₂ ys h tk E' hn ⟨u, rfl⟩ hC hx F' N' off ne
    obtain ⟨hn1, hn2⟩ := names_short n (List.mem_append_right _ hn)
    have hn3 : n.cps.size < 10000 := by omega
    k_steps
    k_extra "!ce"
    exact ⟨rfl, _, rfl⟩
  intro ys hys
  k_steps
  all_goals (refine rB ret ?_ (by k_asm) (by k_extra "!nw"))
  all_goals
    unfold isDayName
    rw [Bool.eq_iff_iff, decide_eq_true_iff]
    simp
end
theorem hk_month_number_c : True := by
  (k_with "mc" => (k_here; (with_reducible show wpAny _ _ (call (Value.ref 241) _) _ _ _); k_dflt (refine month_number_c (by k_asm) (by k_asm) (by k_asm) (by k_extra "!nwN") (by k_asm) (by k_extra "!pre fn") (by ktr_room) (by ktr_units) (by k_extra "!pre") (by k_extra "!pre") ?_); k_whole; intro t9 h9 tk9 F9 N9; (try k_sweep); (try dsimp only)))
  trivial
theorem hk_is_day_name_c : True := by
  (k_with "mc" => (k_here; (with_reducible show wpAny _ _ (call (Value.ref 246) _) _ _ _); k_dflt (refine is_day_name_c (by k_asm) (by k_asm) (by k_asm) (by k_extra "!nwN") (by k_asm) (by k_extra "!pre fn") (by ktr_room) (by ktr_units) (by k_extra "!pre") (by k_extra "!pre") ?_); k_whole; intro h9 tk9 F9 N9; (try k_sweep); (try dsimp only)))
  trivial

-- part clo
section
variable {w : World} {loose : List Str} {mean : ExcName → Option Value} {mg mb : Str → Option Value} {dp un : Nat} {gd : Option (List Code)} {cn : Str} {cs : Scope} {a : Addr} {ccd : Value} {cl : List (Str × Addr)} {outer : List Env} {A₀ : Around} {base h₀ : Heap} {L : Addr} {m : Str → Option Value} {s : Shared} {Q E : Value → Shared → Prop} {news : List (Addr × Obj)} {p : Program}
variable (B : Below A₀ base outer h₀) (F : Fr h₀ L s.heap m) (X : (K w.params).In h₀) (N : News h₀ L s.heap news) (T : Top p loose mean mg mb h₀) (hk : cs.kind = .function)
include B F X N T hk
theorem closed_at_c (hd : dp + 45 < recursionLimit) (hu : un + 180 < cLine) {b : Array UInt8} {t t' t1 t2 : Tok} {n k f : Nat} (h1 : b.size < 10000) (hc : qt f (b.toList.drop (n + 1)) = some k)
    (ret : ∀ x y tx ty h' tk', Fr h₀ L h' m → News h₀ L h' ((x, { cls := .type "tuple", data := .seq #[.bytes y ty, .int ((n + 1 + k : Nat) : Int) tx] }) :: news) → (∀ p ∈ news, p.1 < x) → Q (.ref x) { s with heap := h', toks := tk' }) :
    wpAny (model PW w) (ktrTop dp un gd cn cs L a ccd cl outer) (call (.ref 95) [.bytes b t, .int (n : Nat) t', .bytes #[34] t1, .bytes #[] t2]) Q E s := by
  have hk := KBw.ints_length b
  have hcl : n + 1 + k ≤ b.size := by
    have h2 := qt_le f hc
    simp only [List.length_drop, Array.length_toList] at h2; omega
  k_dflt cell_enter
  k_steps
  unfold Stop
  rename_i D _ hl1 _ _ _ _
  have hnD : ∀ p ∈ news, p.1 ≠ D := fun p hp => Nat.ne_of_lt (hl1 p hp)
  refine ksw_while (σ := (Array Value × Nat) × (Nat × Tok)) (fun c => (D, W.listOf c.1.1 c.1.2) :: news)
    (fun c => [(Str.ofString "at", .int ((c.2.1 : Nat) : Int) c.2.2)])
    (fun c => (∀ x ∈ c.1.1.toList, ∃ b u, x = .bytes b u ∧ b.size ≤ 100)) [Str.ofString "octets"]
    (fun c => c.1.1.size ≤ c.2.1 ∧ (c.2.1 ≤ n + 1 + k ∧ ∃ f, qt f (b.toList.drop c.2.1) = some (n + 1 + k - c.2.1))) (fun c => b.size + 1 - c.2.1) ((#[], 0), (n + 1, _)) F₈ N₈ (fun _ h => nomatch h) (by kst_all)
    ⟨by simp, ⟨by dsimp only; omega, f, by dsimp only; rw [hc]; congr 1; omega⟩⟩ ?_
  rintro ⟨⟨vs, ep⟩, ⟨e, te⟩⟩ u h tk hvs ⟨hl, hle0, f', hf⟩ F' N'
  dsimp only [kstB] at hvs hl hle0 hf F' N'
  have hsz : vs.size ≤ sizeLine := by rw [sizeLine_eq]; omega
  obtain ⟨c, r', hrr, hstep⟩ := qt_step hf
  have hsg : (KBy.picked b (some (e : Int)) (some ((e : Int) + 1))).toList = [c] := by rw [pick1, hrr]; rfl
  rcases hstep with ⟨hc34, hN⟩ | ⟨hc34, j, f2, i, hin, hq, hN⟩
  · have hq1 : ((KBy.picked b (some (e : Int)) (some ((e : Int) + 1))).toList != (#[34] : Array UInt8).toList) = false := by rw [hsg, hc34]; rfl
    generalize hks : KBw.bInts b = ks at *
    have hS5 : StopM 5 := .mk
    k_steps
    all_goals (try unfold Stop)
    refine join_bytes (News.isList (by k_asm) (by k_mem)) hvs (by omega) ?_
    intro b9 t9 k9
    k_steps
    have hfin : (e : Int) + 1 = ((n + 1 + k : Nat) : Int) := by omega
    exact ret _ _ _ _ _ _ (by k_asm) (by rw [← hfin]; k_extra "!nw") (by k_extra "!lt")
  · have hin2 := inside_in hin
    have hq1 : ((KBy.picked b (some (e : Int)) (some ((e : Int) + 1))).toList != (#[34] : Array UInt8).toList) = true := by
      rw [hsg]
      have : ([c] == (#[34] : Array UInt8).toList) = false := beq_eq_false_iff_ne.mpr fun h => hc34 (by simpa using h)
      exact congrArg (fun x => !x) this
    generalize hks : KBw.bInts b = ks at *
    have hz : ((#[] : Array UInt8).contains (ks.getD ((e : Int)).toNat 0).toNat.toUInt8) = false := by simp
    have hS2 : StopM 2 := .mk
    k_steps
    all_goals (try unfold Stop)
    all_goals
      have hvs' : ∀ x ∈ (vs.push (.bytes y9 ty9)).toList, ∃ b u, x = .bytes b u ∧ b.size ≤ 100 := by
        intro x hx
        rw [Array.toList_push, List.mem_append] at hx
        rcases hx with hx | hx
        · exact hvs x hx
        · rw [List.mem_singleton] at hx; exact ⟨_, _, hx, by omega⟩
      refine ksw_end ((vs.push (.bytes y9 ty9), ep + 1), (e + j, _)) (by k_asm) (by k_extra "!nw") (by kcf_all) hvs' (by kst_all) (by ksw_same) ⟨?_, ?_, f2, ?_⟩ ?_
      · dsimp only; rw [Array.size_push]; omega
      · have := (qt_le f2 hq).1; dsimp only; omega
      · dsimp only; rw [← List.drop_drop, hq]; congr 1; omega
      · dsimp only; omega
end
theorem hk_closed_at_c : True := by
  (k_with "mc" => (k_here; (with_reducible show wpAny _ _ (call (Value.ref 95) _) _ _ _); k_dflt (refine closed_at_c (by k_asm) (by k_asm) (by k_asm) (by k_extra "!nwN") (by k_asm) (by k_extra "!pre fn") (by ktr_room) (by ktr_units) (by k_extra "!pre") (by k_extra "!pre") ?_); k_whole; intro x9 y9 tx9 ty9 h9 tk9 F9 N9 l9; (try k_lt l9); (try k_sweep); (try dsimp only)))
  trivial

-- part tka
theorem find1 (c : UInt8) : (Builtin.Bytes.find? #[60, 62, 64, 44, 59, 58, 46, 92] #[c] 0 (#[60, 62, 64, 44, 59, 58, 46, 92] : Array UInt8).size).isSome = (#[60, 62, 64, 44, 59, 58, 46, 92] : Array UInt8).contains c := by
  have h : ∀ n : Fin 256, (Builtin.Bytes.find? #[60, 62, 64, 44, 59, 58, 46, 92] #[UInt8.ofNat n.val] 0 (#[60, 62, 64, 44, 59, 58, 46, 92] : Array UInt8).size).isSome = (#[60, 62, 64, 44, 59, 58, 46, 92] : Array UInt8).contains (UInt8.ofNat n.val) := by decide +kernel
  have := h ⟨c.toNat, c.toNat_lt⟩
  simpa using this
/-- the token that stands at the head of what is left: its kind, its worth where it matters, its length -/
inductive TokAt : List UInt8 → Str → Option (List UInt8) → Nat → Prop
  | quoted {f k : Nat} {r : List UInt8} : qt f r = some k → TokAt (34 :: r) (Str.ofString "quoted") none (1 + k)
  | comment {f k : Nat} {r : List UInt8} : cmt f 1 r = some k → TokAt (40 :: r) (Str.ofString "comment") none (1 + k)
  | sign {c : UInt8} {r : List UInt8} : (#[60, 62, 64, 44, 59, 58, 46, 92] : Array UInt8).contains c = true → TokAt (c :: r) (Str.ofString "sign") (some [c]) 1
  | atom {c : UInt8} {r : List UInt8} : isAtom c = true → TokAt (c :: r) (Str.ofString "atom") (some ((c :: r).takeWhile isAtom)) (aLen (c :: r))
section
variable {w : World} {loose : List Str} {mean : ExcName → Option Value} {mg mb : Str → Option Value} {dp un : Nat} {gd : Option (List Code)} {cn : Str} {cs : Scope} {a : Addr} {ccd : Value} {cl : List (Str × Addr)} {outer : List Env} {A₀ : Around} {base h₀ : Heap} {L : Addr} {m : Str → Option Value} {s : Shared} {Q E : Value → Shared → Prop} {news : List (Addr × Obj)} {p : Program}
variable (B : Below A₀ base outer h₀) (F : Fr h₀ L s.heap m) (X : (K w.params).In h₀) (N : News h₀ L s.heap news) (T : Top p loose mean mg mb h₀) (hk : cs.kind = .function)
include B F X N T hk
theorem token_at_c (hd : dp + 60 < recursionLimit) (hu : un + 240 < cLine) {b : Array UInt8} {t t' : Tok} {n k : Nat} {kd : Str} {wr : Option (List UInt8)} (h1 : b.size < 10000) (hc : TokAt (b.toList.drop n) kd wr k)
    (ret : ∀ x z y tk' ty tn tx h' tk'', (∀ l, wr = some l → y.toList = l) → Fr h₀ L h' m → News h₀ L h' ((x, { cls := .type "tuple", data := .seq #[.ref z, .int ((n + k : Nat) : Int) tx] }) :: (z, { cls := .type "tuple", data := .seq #[.str kd tk', .bytes y ty, .int (n : Nat) tn] }) :: news) → z < x → (∀ p ∈ news, p.1 < z) → (∀ p ∈ news, p.1 < x) → Q (.ref x) { s with heap := h', toks := tk'' }) :
    wpAny (model PW w) (ktrTop dp un gd cn cs L a ccd cl outer) (call (.ref 116) [.bytes b t, .int (n : Nat) t']) Q E s := by
  have hk := KBw.ints_length b
  generalize hrr : b.toList.drop n = r at *
  cases hc with
  | @quoted f k r hq =>
    have hd1 : b.toList.drop (n + 1) = r := by rw [← List.drop_drop, hrr]; rfl
    have hqq : qt f (b.toList.drop (n + 1)) = some k := by rw [hd1]; exact hq
    have hpk : (KBy.picked b (some (n : Int)) (some ((n : Int) + 1))).toList = [34] := by rw [pick1, hrr]; rfl
    have hp1 : ((KBy.picked b (some (n : Int)) (some ((n : Int) + 1))).toList == (#[34] : Array UInt8).toList) = true := by rw [hpk]; rfl
    rw [show n + (1 + k) = n + 1 + k by omega] at ret
    generalize hks : KBw.bInts b = ks at *
    k_dflt cell_enter
    k_steps
    exact ret _ _ _ _ _ _ _ _ _ (fun l h => nomatch h) (by k_asm) (by k_extra "!nw") (by k_extra "!lt1") (by k_extra "!lt") (by k_extra "!lt")
  | @comment f k r hq =>
    have hd1 : b.toList.drop (n + 1) = r := by rw [← List.drop_drop, hrr]; rfl
    have hqq : cmt f 1 (b.toList.drop (n + 1)) = some k := by rw [hd1]; exact hq
    have hpk : (KBy.picked b (some (n : Int)) (some ((n : Int) + 1))).toList = [40] := by rw [pick1, hrr]; rfl
    have hp1 : ((KBy.picked b (some (n : Int)) (some ((n : Int) + 1))).toList == (#[34] : Array UInt8).toList) = false := by rw [hpk]; rfl
    have hp2 : ((KBy.picked b (some (n : Int)) (some ((n : Int) + 1))).toList == (#[91] : Array UInt8).toList) = false := by rw [hpk]; rfl
    have hp3 : ((KBy.picked b (some (n : Int)) (some ((n : Int) + 1))).toList == (#[40] : Array UInt8).toList) = true := by rw [hpk]; rfl
    rw [show n + (1 + k) = n + 1 + k by omega] at ret
    generalize hks : KBw.bInts b = ks at *
    k_dflt cell_enter
    k_steps
    exact ret _ _ _ _ _ _ _ _ _ (fun l h => nomatch h) (by k_asm) (by k_extra "!nw") (by k_extra "!lt1") (by k_extra "!lt") (by k_extra "!lt")
  | @sign c r hq =>
    have hpk : (KBy.picked b (some (n : Int)) (some ((n : Int) + 1))).toList = [c] := by rw [pick1, hrr]; rfl
    have hpa : (KBy.picked b (some (n : Int)) (some ((n : Int) + 1))) = #[c] := Array.toList_inj.mp hpk
    have hn34 : c ≠ 34 := fun h => by rw [h] at hq; exact absurd hq (by decide +kernel)
    have hn91 : c ≠ 91 := fun h => by rw [h] at hq; exact absurd hq (by decide +kernel)
    have hn40 : c ≠ 40 := fun h => by rw [h] at hq; exact absurd hq (by decide +kernel)
    have hp1 : ((KBy.picked b (some (n : Int)) (some ((n : Int) + 1))).toList == (#[34] : Array UInt8).toList) = false := by rw [hpk]; exact beq_eq_false_iff_ne.mpr fun h => hn34 (by simpa using h)
    have hp2 : ((KBy.picked b (some (n : Int)) (some ((n : Int) + 1))).toList == (#[91] : Array UInt8).toList) = false := by rw [hpk]; exact beq_eq_false_iff_ne.mpr fun h => hn91 (by simpa using h)
    have hp3 : ((KBy.picked b (some (n : Int)) (some ((n : Int) + 1))).toList == (#[40] : Array UInt8).toList) = false := by rw [hpk]; exact beq_eq_false_iff_ne.mpr fun h => hn40 (by simpa using h)
    have hf := find1 c
    rw [hq, ← hpa] at hf
    rw [show ((n + 1 : Nat) : Int) = (n : Int) + 1 from rfl] at ret
    generalize hks : KBw.bInts b = ks at *
    k_dflt cell_enter
    k_steps
    exact ret _ _ _ _ _ _ _ _ _ (fun l h => by cases h; exact hpk) (by k_asm) (by k_extra "!nw") (by k_extra "!lt1") (by k_extra "!lt") (by k_extra "!lt")
  | @atom c r ha =>
    have hpk : (KBy.picked b (some (n : Int)) (some ((n : Int) + 1))).toList = [c] := by rw [pick1, hrr]; rfl
    have hpa : (KBy.picked b (some (n : Int)) (some ((n : Int) + 1))) = #[c] := Array.toList_inj.mp hpk
    have hn34 : c ≠ 34 := fun h => by rw [h] at ha; exact absurd ha (by decide +kernel)
    have hn91 : c ≠ 91 := fun h => by rw [h] at ha; exact absurd ha (by decide +kernel)
    have hn40 : c ≠ 40 := fun h => by rw [h] at ha; exact absurd ha (by decide +kernel)
    have hp1 : ((KBy.picked b (some (n : Int)) (some ((n : Int) + 1))).toList == (#[34] : Array UInt8).toList) = false := by rw [hpk]; exact beq_eq_false_iff_ne.mpr fun h => hn34 (by simpa using h)
    have hp2 : ((KBy.picked b (some (n : Int)) (some ((n : Int) + 1))).toList == (#[91] : Array UInt8).toList) = false := by rw [hpk]; exact beq_eq_false_iff_ne.mpr fun h => hn91 (by simpa using h)
    have hp3 : ((KBy.picked b (some (n : Int)) (some ((n : Int) + 1))).toList == (#[40] : Array UInt8).toList) = false := by rw [hpk]; exact beq_eq_false_iff_ne.mpr fun h => hn40 (by simpa using h)
    have hna : (#[60, 62, 64, 44, 59, 58, 46, 92] : Array UInt8).contains c = false := by
      refine Bool.eq_false_iff.mpr fun h => ?_
      have h2 : ∀ n : Fin 256, (#[60, 62, 64, 44, 59, 58, 46, 92] : Array UInt8).contains (UInt8.ofNat n.val) = true → isAtom (UInt8.ofNat n.val) = false := by decide +kernel
      have h3 := h2 ⟨c.toNat, c.toNat_lt⟩
      simp only [UInt8.ofNat_toNat] at h3
      rw [h3 h] at ha
      cases ha
    have hf := find1 c
    rw [hna, ← hpa] at hf
    have hn1 : n < b.size := by
      have : b.size - n = (b.toList.drop n).length := by simp
      rw [hrr] at this; simp only [List.length_cons] at this; omega
    have hi1 : (KBw.bInts b).getD ((n : Int)).toNat 0 = (c.toNat : Int) := item_at b n c r hrr
    have hai : isAtom ((KBw.bInts b).getD ((n : Int)).toNat 0).toNat.toUInt8 = true := by rw [hi1]; simpa using ha
    rw [← hrr] at ret
    generalize hks : KBw.bInts b = ks at *
    k_dflt cell_enter
    k_steps
    exact ret _ _ _ _ _ _ _ _ _ (fun l h => by cases h; exact g1) (by k_asm) (by k_extra "!nw") (by k_extra "!lt1") (by k_extra "!lt") (by k_extra "!lt")
end
theorem hk_token_at_c : True := by
  (k_with "mc" => (k_here; (with_reducible show wpAny _ _ (call (Value.ref 116) _) _ _ _); k_dflt (refine token_at_c (by k_asm) (by k_asm) (by k_asm) (by k_extra "!nwN") (by k_asm) (by k_extra "!pre fn") (by ktr_room) (by ktr_units) (by k_extra "!pre") (by k_extra "!pre") ?_); k_whole; intro x9 z9 y9 tk8 ty9 tn9 tx9 h9 tk9 g1 F9 N9 l8 l9 l10; (try k_lt l9); (try k_lt l10); (try k_sweep); (try dsimp only)))
  trivial

-- part tks
/-- a token told plainly: its kind, its worth where it matters, its place -/
abbrev Tk := Str × Option (List UInt8) × Nat
def IsTk (nws : List (Addr × Obj)) (k : Tk) (v : Value) : Prop := ∃ z y t1 t2 t3, v = .ref z ∧ ((z, { cls := .type "tuple", data := .seq #[.str k.1 t1, .bytes y t2, .int (k.2.2 : Nat) t3] }) : Addr × Obj) ∈ nws ∧ ∀ l, k.2.1 = some l → y.toList = l
theorem IsTk.mono {nws nws' : List (Addr × Obj)} {k : Tk} {v : Value} (h : ∀ p ∈ nws, p ∈ nws') (q : IsTk nws k v) : IsTk nws' k v := q.imp fun _ => .imp fun _ => .imp fun _ => .imp fun _ => .imp fun _ => .imp_right (.imp_left (h _))
theorem F2.mono {α β : Type} {R S : α → β → Prop} (h : ∀ a b, R a b → S a b) {l : List α} {r : List β} (x : F2 R l r) : F2 S l r := by
  induction x with
  | nil => exact .nil
  | cons x _ ih => exact .cons (h _ _ x) ih
/-- the tokens of what is left, which begins with no white -/
inductive TS : List UInt8 → Nat → List Tk → Prop
  | done {n : Nat} : TS [] n []
  | more {r : List UInt8} {n k j f : Nat} {kd : Str} {wr : Option (List UInt8)} {l : List Tk} : TokAt r kd wr k → whiteF f (r.drop k) = some j → TS (r.drop (k + j)) (n + k + j) l → TS r n ((kd, wr, n) :: l)
theorem TokAt.pos {r : List UInt8} {kd : Str} {wr : Option (List UInt8)} {k : Nat} (h : TokAt r kd wr k) : 1 ≤ k ∧ 0 < r.length := by
  cases h with
  | quoted _ => exact ⟨by omega, by simp⟩
  | comment _ => exact ⟨by omega, by simp⟩
  | sign _ => exact ⟨by omega, by simp⟩
  | atom ha => refine ⟨?_, by simp⟩; unfold aLen; rw [List.takeWhile_cons, ha]; simp
theorem whiteF_len : ∀ (f : Nat) {r : List UInt8} {k : Nat}, whiteF f r = some k → k ≤ r.length
  | 0, _, _, h => by simp [whiteF] at h
  | f + 1, [], k, h => by simp [whiteF] at h; omega
  | f + 1, c :: r, k, h => by
    simp only [whiteF] at h
    split at h
    · simp only [Option.map_eq_some_iff] at h
      obtain ⟨j, hj, e⟩ := h
      have := whiteF_len f hj
      simp only [List.length_cons]; omega
    · split at h
      · rename_i k2 hl
        have h2 := lineEnd_in hl
        simp only [Option.map_eq_some_iff] at h
        obtain ⟨j, hj, e⟩ := h
        have := whiteF_len f hj
        simp only [List.length_drop] at this; omega
      · cases h; omega
theorem aLen_le (r : List UInt8) : aLen r ≤ r.length := List.Sublist.length_le (List.takeWhile_sublist _)
theorem TokAt.le {r : List UInt8} {kd : Str} {wr : Option (List UInt8)} {k : Nat} (h : TokAt r kd wr k) : k ≤ r.length := by
  cases h with
  | quoted h => have := (qt_le _ h).2; simp only [List.length_cons]; omega
  | comment h => have := cmt_le _ h; simp only [List.length_cons]; omega
  | sign _ => simp
  | atom _ => exact aLen_le _
section
variable {w : World} {loose : List Str} {mean : ExcName → Option Value} {mg mb : Str → Option Value} {dp un : Nat} {gd : Option (List Code)} {cn : Str} {cs : Scope} {a : Addr} {ccd : Value} {cl : List (Str × Addr)} {outer : List Env} {A₀ : Around} {base h₀ : Heap} {L : Addr} {m : Str → Option Value} {s : Shared} {Q E : Value → Shared → Prop} {news : List (Addr × Obj)} {p : Program}
variable (B : Below A₀ base outer h₀) (F : Fr h₀ L s.heap m) (X : (K w.params).In h₀) (N : News h₀ L s.heap news) (T : Top p loose mean mg mb h₀) (hk : cs.kind = .function)
include B F X N T hk
theorem tokens_of_c (hd : dp + 75 < recursionLimit) (hu : un + 300 < cLine) {b : Array UInt8} {t : Tok} {f k0 : Nat} {l : List Tk} (h1 : b.size < 10000) (hw : whiteF f b.toList = some k0) (hts : TS (b.toList.drop k0) k0 l)
    (ret : ∀ D vs ep nw h' tk', F2 (IsTk nw) l vs.toList → (∀ p ∈ nw, D < p.1) → (∀ p ∈ news, p.1 < D) → vs.size ≤ 10000 → Fr h₀ L h' m → News h₀ L h' ((D, W.listOf vs ep) :: (nw ++ news)) → Q (.ref D) { s with heap := h', toks := tk' }) :
    wpAny (model PW w) (ktrTop dp un gd cn cs L a ccd cl outer) (call (.ref 130) [.bytes b t]) Q E s := by
  have hk := KBw.ints_length b
  have hw0 : whiteF f (b.toList.drop 0) = some k0 := hw
  k_dflt cell_enter
  k_steps
  unfold Stop
  rename_i D _ hl1 _ _ _ _
  refine ksw_while (σ := (Array Value × Nat) × List (Addr × Obj) × (Nat × Tok)) (fun c => (D, W.listOf c.1.1 c.1.2) :: (c.2.1 ++ news))
    (fun c => [(Str.ofString "at", .int ((c.2.2.1 : Nat) : Int) c.2.2.2)])
    (fun c => (∀ p ∈ c.2.1 ++ news, p.1 ≠ D)) [Str.ofString "token"]
    (fun c => (∀ p ∈ c.2.1, D < p.1) ∧ c.1.1.size ≤ c.2.2.1 ∧ c.2.2.1 ≤ b.size ∧ ∃ l1 l2, l = l1 ++ l2 ∧ F2 (IsTk c.2.1) l1 c.1.1.toList ∧ TS (b.toList.drop c.2.2.1) c.2.2.1 l2) (fun c => b.size + 1 - c.2.2.1) ((#[], 0), [], (0 + k0, _)) (by k_asm) (by k_asm) (fun p hp => Nat.ne_of_lt (hl1 p hp)) (by kst_all)
    ⟨(fun _ h => nomatch h), by simp, ?_, [], l, rfl, .nil, by dsimp only; rw [Nat.zero_add]; exact hts⟩ ?_
  · have := whiteF_len f hw; simp only [Array.length_toList] at this; dsimp only; omega
  rintro ⟨⟨vs, ep⟩, nws, ⟨e, te⟩⟩ u h tk hnD ⟨hsub, hl, hle, l1, l2, hll, hF, hT⟩ F' N'
  dsimp only [kstB] at hnD hsub hl hle hll hF hT F' N'
  have hsz : vs.size ≤ sizeLine := by rw [sizeLine_eq]; omega
  generalize hrr : b.toList.drop e = r at *
  have hlen : b.size - e = r.length := by rw [← hrr]; simp
  cases hT with
  | done =>
    have hfin : b.size ≤ e := by simp at hlen; omega
    k_steps
    all_goals first
      | (exfalso; clear ret; (try simp only [decide_eq_true_eq, decide_eq_false_iff_not, ge_iff_le, Int.not_le, List.length_nil] at *); omega)
      | skip
    rw [List.append_nil] at hll
    subst hll
    exact ret D vs ep nws _ _ hF hsub hl1 (by omega) (by k_asm) (by k_asm)
  | @more r n k j f2 kd wr l3 hta hw2 hT2 =>
    have hpos := hta.pos
    have hlt : e < b.size := by omega
    subst hrr
    have hw3 : whiteF f2 (b.toList.drop (e + k)) = some j := by rw [← List.drop_drop]; exact hw2
    generalize hks : KBw.bInts b = ks at *
    have hS2 : StopM 2 := .mk
    k_steps
    all_goals (try unfold Stop)
    have hj := whiteF_len f2 hw3
    have hk2 := hta.le
    simp only [List.length_drop, Array.length_toList] at hj hk2
    refine ksw_end ((vs.push (.ref z9), ep + 1), (z9, { cls := .type "tuple", data := .seq #[.str kd tk8, .bytes y9 ty9, .int (e : Nat) tn9] }) :: nws, (e + k + j, _)) (by k_asm) (by k_extra "!nw") (by kcf_all) ?_ (by kst_all) (by ksw_same) ⟨fun p hp => (List.mem_cons.mp hp).elim (fun e => by rw [e]; exact l9.1) (hsub p), ?_, ?_, l1 ++ [(kd, wr, e)], l3, ?_, ?_, ?_⟩ ?_
    · intro p hp
      dsimp only at hp
      rcases List.mem_cons.mp hp with rfl | hp
      · exact Nat.ne_of_gt l9.1
      · exact hnD p hp
    · dsimp only; rw [Array.size_push]; omega
    · dsimp only; omega
    · rw [hll, List.append_assoc]; rfl
    · dsimp only
      rw [Array.toList_push]
      exact forall2_snoc (hF.mono fun _ _ => IsTk.mono fun p hp => .tail _ hp) ⟨z9, y9, _, _, _, rfl, .head _, g1⟩
    · dsimp only
      rw [List.drop_drop, ← Nat.add_assoc] at hT2
      exact hT2
    · dsimp only; omega
end
theorem hk_tokens_of_c : True := by
  (k_with "mc" => (k_here; (with_reducible show wpAny _ _ (call (Value.ref 130) _) _ _ _); k_dflt (refine tokens_of_c (by k_asm) (by k_asm) (by k_asm) (by k_extra "!nwN") (by k_asm) (by k_extra "!pre fn") (by ktr_room) (by ktr_units) (by k_extra "!pre") (by k_extra "!pre") (by k_extra "!pre") ?_); k_whole; intro D9 vs9 ep9 nw9 h9 tk9 g1 g2 g3 g4 F9 N9; (try k_sweep); (try dsimp only)))
  trivial

-- part wc
theorem F2.get {α β : Type} {R : α → β → Prop} {l : List α} {r : List β} {i : Nat} {b : β} (x : F2 R l r) (h : r[i]? = some b) : ∃ a, l[i]? = some a ∧ R a b := by
  induction x generalizing i with
  | nil => exact nomatch h
  | cons x _ ih => cases i with
    | zero => exact ⟨_, rfl, Option.some.inj h ▸ x⟩
    | succ i => exact ih h
theorem News.dup {b h : Heap} {L : Addr} {x : Addr × Obj} {nws : List (Addr × Obj)} (N : News b L h nws) (hm : x ∈ nws) : News b L h (x :: nws) := fun q hq => (List.mem_cons.mp hq).elim (fun e => e ▸ N x hm) (N q)
def noCmt (k : Tk) : Bool := k.1 != Str.ofString "comment"
section
variable {w : World} {loose : List Str} {mean : ExcName → Option Value} {mg mb : Str → Option Value} {dp un : Nat} {gd : Option (List Code)} {cn : Str} {cs : Scope} {a : Addr} {ccd : Value} {cl : List (Str × Addr)} {outer : List Env} {A₀ : Around} {base h₀ : Heap} {L : Addr} {m : Str → Option Value} {s : Shared} {Q E : Value → Shared → Prop} {news : List (Addr × Obj)} {p : Program}
variable (B : Below A₀ base outer h₀) (F : Fr h₀ L s.heap m) (X : (K w.params).In h₀) (N : News h₀ L s.heap news) (T : Top p loose mean mg mb h₀) (hk : cs.kind = .function)
include B F X N T hk
theorem without_c (hd : dp + 15 < recursionLimit) (hu : un + 60 < cLine) {D : Addr} {vs : Array Value} {ep : Nat} {l : List Tk} {nw : List (Addr × Obj)} (hD : (D, W.listOf vs ep) ∈ news) (hF : F2 (IsTk nw) l vs.toList) (hs : ∀ p ∈ nw, p ∈ news) (hv : vs.size ≤ 10000)
    (ret : ∀ D' ws h' tk', F2 (IsTk nw) (l.filter noCmt) ws ∧ ws.length ≤ vs.size → Fr h₀ L h' m → News h₀ L h' ((D', W.listOf ws.toArray ws.length) :: news) → LCg.Off1 D' news → Q (.ref D') { s with heap := h', toks := tk' }) :
    wpAny (model PW w) (ktrTop dp un gd cn cs L a ccd cl outer) (call (.ref 135) [.ref D]) Q E s := by
  k_dflt cell_enter
  k_steps
  rename Fr _ _ _ _ => FF
  rename News _ _ _ _ => NN
  refine CW.led rfl FF NN hD (by rw [sizeLine_eq]; omega) ?_
  intro g
  have hnn : ∀ (i : Nat) (v : Value), i < vs.size → vs[i]? = some v → ∃ k, l[i]? = some k ∧ IsTk nw k v := by
    intro i v hi hv
    obtain ⟨k, hk, h2⟩ := hF.get (r := vs.toList) (by simpa using hv)
    exact ⟨k, hk, h2⟩
  have hn : ∀ (i : Nat) (v : Value), i < vs.size → vs[i]? = some v → ∃ k, l[i]? = some k ∧ IsTk nw k v := by
    intro i v hi hv
    exact hnn i v hi hv
  refine restT_items (ks := l) noCmt (IsTk nw) (hF.len.trans (by simp)) hn ?_ ?_
  · rintro k v I oI C oC D2 m₂ ys h tk E' hk ⟨z, y, t1, t2, t3, rfl, hm, hl⟩ hC hx F' N' off ne
    have N2 := News.dup N' (.tail _ (.tail _ (.tail _ (hs _ hm))))
    k_steps
    all_goals (refine LCg.CompEnd.intro (by assumption) N' _ (by kcf_all) (by assumption) (.inr ⟨_, hD, rfl, _, rfl⟩) ?_)
    · exact ⟨rfl, by assumption, z, y, t1, t2, t3, rfl, hm, hl⟩
    · exact ⟨rfl, by assumption⟩
  intro ys hys
  k_steps
  exact ret _ _ _ _ ⟨hys, by rw [← hys.len, ← Array.length_toList, ← hF.len]; exact List.length_filter_le _ _⟩ (by k_asm) (by k_asm) (by assumption)
end

-- part civ
abbrev momD (P : Params) (y mo d ho mi se z : Int) (k1 v1 k2 v2 k3 v3 k4 v4 k5 v5 k6 v6 k7 v7 : Tok) : Obj :=
  dictOf [⟨PyData.keyHash P (Str.ofString "year"), .str (Str.ofString "year") k1, .int y v1⟩, ⟨PyData.keyHash P (Str.ofString "month"), .str (Str.ofString "month") k2, .int mo v2⟩, ⟨PyData.keyHash P (Str.ofString "day"), .str (Str.ofString "day") k3, .int d v3⟩,
      ⟨PyData.keyHash P (Str.ofString "hour"), .str (Str.ofString "hour") k4, .int ho v4⟩, ⟨PyData.keyHash P (Str.ofString "minute"), .str (Str.ofString "minute") k5, .int mi v5⟩, ⟨PyData.keyHash P (Str.ofString "second"), .str (Str.ofString "second") k6, .int se v6⟩, ⟨PyData.keyHash P (Str.ofString "zone"), .str (Str.ofString "zone") k7, .int z v7⟩] 7
/-- a date's days since the first day of year 1 -/
structure Civ (D y mo d : Int) : Prop where
  y0 : 1 ≤ y
  y1 : y < 20000
  m0 : 1 ≤ mo
  m1 : mo ≤ 12
  d0 : 1 ≤ d
  d1 : d ≤ monthLen y mo
  eq : dby y + dbm y mo + d - 1 = D
theorem dby_mono {y y' : Int} (h : y + 1 ≤ y') : dby (y + 1) ≤ dby y' := by unfold dby; omega
theorem dbm_low : ∀ (b : Bool) (k : Fin 12), 0 ≤ dbmB b ((k.val : Int) + 1) := by decide +kernel
theorem dbm_0 (y : Int) {mo : Int} (h0 : 1 ≤ mo) (h : mo ≤ 12) : 0 ≤ dbm y mo := by
  have h9 := dbm_low (isLeap y) ⟨(mo - 1).toNat, by omega⟩
  rw [show ((((⟨(mo - 1).toNat, by omega⟩ : Fin 12).val : Nat) : Int) + 1) = mo by dsimp only; omega] at h9
  exact h9
theorem dbm_up (y : Int) {mo : Int} (h0 : 1 ≤ mo) : ∀ k : Nat, mo + 1 + k ≤ 13 → dbm y (mo + 1) ≤ dbm y (mo + 1 + k)
  | 0, _ => by simp
  | k + 1, h => by
    have ih := dbm_up y h0 k (by omega)
    have h2 := dbm_succ y (mo + 1 + k) (by omega) (by omega)
    have h3 := monthLen_in y (mo + 1 + k)
    rw [show mo + 1 + ((k + 1 : Nat) : Int) = mo + 1 + (k : Int) + 1 by omega]
    omega
theorem dbm_mono (y : Int) {mo mo' : Int} (h0 : 1 ≤ mo) (h : mo + 1 ≤ mo') (h1 : mo' ≤ 13) : dbm y (mo + 1) ≤ dbm y mo' := by
  have := dbm_up y h0 (mo' - (mo + 1)).toNat (by omega)
  rwa [show mo + 1 + ((mo' - (mo + 1)).toNat : Int) = mo' by omega] at this
theorem Civ.lt {D y mo d : Int} (h : Civ D y mo d) : dby y ≤ D ∧ D < dby (y + 1) ∧ dby y + dbm y mo ≤ D ∧ D < dby y + dbm y (mo + 1) := by
  have h1 := h.eq; have h2 := h.d0; have h3 := h.d1; have h4 := dbm_0 y h.m0 h.m1; have h5 := dbm_succ y mo h.m0 h.m1; have h6 := dbm_13 y
  have h7 := h.m1
  have h8 := dbm_mono y h.m0 (mo' := 13) (by omega) (by decide)
  omega
theorem Civ.uniq {D y mo d y' mo' d' : Int} (h : Civ D y mo d) (h' : Civ D y' mo' d') : y' = y ∧ mo' = mo ∧ d' = d := by
  have a := h.lt; have b := h'.lt
  have hy : y' = y := by
    rcases Int.lt_trichotomy y y' with q | q | q
    · have := dby_mono (y := y) (y' := y') (by omega); omega
    · exact q.symm
    · have := dby_mono (y := y') (y' := y) (by omega); omega
  subst hy
  have hm : mo' = mo := by
    have q1 := h.m0; have q2 := h.m1; have q3 := h'.m0; have q4 := h'.m1
    rcases Int.lt_trichotomy mo mo' with q | q | q
    · have := dbm_mono y' (mo := mo) (mo' := mo') q1 (by omega) (by omega); omega
    · exact q.symm
    · have := dbm_mono y' (mo := mo') (mo' := mo) q3 (by omega) (by omega); omega
  subst hm
  have q1 := h.eq; have q2 := h'.eq
  exact ⟨rfl, rfl, by omega⟩
theorem Civ.year {D y mo d : Int} (h : Civ D y mo d) (hD : D < 3652059) : y ≤ 9999 := by
  have a := h.lt
  have := h.y0
  apply Int.not_lt.mp
  intro q
  have h9 : dby 10000 ≤ dby y := dby_mono (y := 9999) (y' := y) (by omega)
  have h8 : dby 10000 = 3652059 := by decide
  omega

-- part mom
section
variable {w : World} {loose : List Str} {mean : ExcName → Option Value} {mg mb : Str → Option Value} {dp un : Nat} {gd : Option (List Code)} {cn : Str} {cs : Scope} {a : Addr} {ccd : Value} {cl : List (Str × Addr)} {outer : List Env} {A₀ : Around} {base h₀ : Heap} {L : Addr} {m : Str → Option Value} {s : Shared} {Q E : Value → Shared → Prop} {news : List (Addr × Obj)} {p : Program}
variable (B : Below A₀ base outer h₀) (F : Fr h₀ L s.heap m) (X : (K w.params).In h₀) (N : News h₀ L s.heap news) (T : Top p loose mean mg mb h₀) (hk : cs.kind = .function)
include B F X N T hk
theorem check_moment_c (hd : dp + 75 < recursionLimit) (hu : un + 300 < cLine) {y mo d ho mi se z : Int} {k1 k2 k3 k4 k5 k6 k7 v1 v2 v3 v4 v5 v6 v7 : Tok} {o dd : Addr}
    (ho1 : (o, instObj 161 dd) ∈ news) (hd1 : (dd, momD w.params y mo d ho mi se z k1 v1 k2 v2 k3 v3 k4 v4 k5 v5 k6 v6 k7 v7) ∈ news)
    (g1 : 1 ≤ y) (g2 : y ≤ 9999) (g3 : 1 ≤ mo) (g4 : mo ≤ 12) (g5 : 1 ≤ d) (g6 : d ≤ monthLen y mo) (g7 : 0 ≤ ho) (g8 : ho ≤ 23) (g9 : 0 ≤ mi) (g10 : mi ≤ 59) (g11 : 0 ≤ se) (g12 : se ≤ 59) (g13 : -6000 < z) (g14 : z < 6000)
    (ret : ∀ h' tk', Fr h₀ L h' m → News h₀ L h' news → Q .none { s with heap := h', toks := tk' }) :
    wpAny (model PW w) (ktrTop dp un gd cn cs L a ccd cl outer) (call (.ref 221) [.ref o]) Q E s := by
  have hml := monthLen_in y mo
  k_dflt cell_enter
  k_steps
  all_goals (refine ret _ _ (by k_asm) (by k_extra "!nw"))
theorem hk_check_moment_c : True := by
  (k_with "mc" => (k_here; (with_reducible show wpAny _ _ (call (Value.ref 221) _) _ _ _); k_dflt (refine check_moment_c (by k_asm) (by k_asm) (by k_asm) (by k_extra "!nwN") (by k_asm) (by k_extra "!pre fn") (by ktr_room) (by ktr_units) (by k_extra "!pre mem") (by k_extra "!pre mem") (by k_extra "!pre") (by k_extra "!pre") (by k_extra "!pre") (by k_extra "!pre") (by k_extra "!pre") (by k_extra "!pre") (by k_extra "!pre") (by k_extra "!pre") (by k_extra "!pre") (by k_extra "!pre") (by k_extra "!pre") (by k_extra "!pre") (by k_extra "!pre") (by k_extra "!pre") ?_); k_whole; intro h9 tk9 F9 N9; (try k_sweep); (try dsimp only)))
  trivial
theorem instant_of_c (hd : dp + 75 < recursionLimit) (hu : un + 300 < cLine) {y mo d ho mi se z : Int} {k1 k2 k3 k4 k5 k6 k7 v1 v2 v3 v4 v5 v6 v7 : Tok} {o dd : Addr}
    (ho1 : (o, instObj 161 dd) ∈ news) (hd1 : (dd, momD w.params y mo d ho mi se z k1 v1 k2 v2 k3 v3 k4 v4 k5 v5 k6 v6 k7 v7) ∈ news)
    (g1 : 1 ≤ y) (g2 : y ≤ 9999) (g3 : 1 ≤ mo) (g4 : mo ≤ 12) (g5 : 1 ≤ d) (g6 : d ≤ 31) (g7 : 0 ≤ ho) (g8 : ho ≤ 23) (g9 : 0 ≤ mi) (g10 : mi ≤ 59) (g11 : 0 ≤ se) (g12 : se ≤ 59) (g13 : -6000 < z) (g14 : z < 6000)
    (ret : ∀ t h' tk', Fr h₀ L h' m → News h₀ L h' news → Q (.int (dnum y mo d * 86400 + ho * 3600 + (mi - z) * 60 + se) t) { s with heap := h', toks := tk' }) :
    wpAny (model PW w) (ktrTop dp un gd cn cs L a ccd cl outer) (call (.ref 228) [.ref o]) Q E s := by
  k_dflt cell_enter
  k_steps
  all_goals (refine ret _ _ _ (by k_asm) (by k_extra "!nw"))
theorem hk_instant_of_c : True := by
  (k_with "mc" => (k_here; (with_reducible show wpAny _ _ (call (Value.ref 228) _) _ _ _); k_dflt (refine instant_of_c (by k_asm) (by k_asm) (by k_asm) (by k_extra "!nwN") (by k_asm) (by k_extra "!pre fn") (by ktr_room) (by ktr_units) (by k_extra "!pre mem") (by k_extra "!pre mem") (by k_extra "!pre") (by k_extra "!pre") (by k_extra "!pre") (by k_extra "!pre") (by k_extra "!pre") (by k_extra "!pre") (by k_extra "!pre") (by k_extra "!pre") (by k_extra "!pre") (by k_extra "!pre") (by k_extra "!pre") (by k_extra "!pre") (by k_extra "!pre") (by k_extra "!pre") ?_); k_whole; intro t9 h9 tk9 F9 N9; (try k_sweep); (try dsimp only)))
  trivial
end

-- part mk7
section
variable {w : World} {loose : List Str} {mean : ExcName → Option Value} {mg mb : Str → Option Value} {dp un : Nat} {gd : Option (List Code)} {cn : Str} {cs : Scope} {a : Addr} {ccd : Value} {cl : List (Str × Addr)} {outer : List Env} {A₀ : Around} {base h₀ : Heap} {L : Addr} {m : Str → Option Value} {s : Shared} {Q E : Value → Shared → Prop} {news : List (Addr × Obj)} {p : Program}
variable (B : Below A₀ base outer h₀) (F : Fr h₀ L s.heap m) (X : (K w.params).In h₀) (N : News h₀ L s.heap news) (T : Top p loose mean mg mb h₀) (hk : cs.kind = .function)
include B F X N T hk
theorem moment_mk (hd : dp + 45 < recursionLimit) (hu : un + 220 < cLine) {y mo d ho mi se z : Int} {t1 t2 t3 t4 t5 t6 t7 : Tok}
    (ret : ∀ o dd k1 k2 k3 k4 k5 k6 k7 h' tk', Fr h₀ L h' m → News h₀ L h' ((o, instObj 161 dd) :: (dd, momD w.params y mo d ho mi se z k1 t1 k2 t2 k3 t3 k4 t4 k5 t5 k6 t6 k7 t7) :: news) → (dd < o ∧ AllLt o news) → AllLt dd news → Q (.ref o) { s with heap := h', toks := tk' }) :
    wpAny (model PW w) (ktrTop dp un gd cn cs L a ccd cl outer) (call (.ref 161) [.int y t1, .int mo t2, .int d t3, .int ho t4, .int mi t5, .int se t6, .int z t7]) Q E s := by
  refine call_cls (by k_asm) (by k_asm) (by k_asm) (by k_is) (by k_is) (by k_is) ?_
  intro o dd h3 F3 N3 l1 l2
  have l2n : @LT.lt Nat _ dd o := l2
  have l4 : AllLt o news := allLt_of fun p hp => Nat.lt_trans (l1 p hp) l2
  have hne : ∀ p ∈ news, p.1 ≠ dd := fun p hp => Nat.ne_of_lt (l1 p hp)
  replace l1 : AllLt dd news := allLt_of l1
  k_dflt (k_extra "!cellI")
  k_steps
  exact ret _ _ _ _ _ _ _ _ _ _ _ (by k_asm) (by k_asm) ⟨l2, l4⟩ l1
end
theorem hk_moment_mk : True := by
  (k_with "mc" => (k_here; (with_reducible show wpAny _ _ (call (Value.ref 161) _) _ _ _); k_dflt (refine moment_mk (by k_asm) (by k_asm) (by k_asm) (by k_extra "!nwN") (by k_asm) (by k_extra "!pre fn") (by ktr_room) (by ktr_units) ?_); k_whole; intro o9 dd9 e1 e2 e3 e4 e5 e6 e7 h9 tk9 F9 N9 l9 l8; (try k_sweep); (try dsimp only)))
  trivial

-- part mof
theorem drop3 {h₀ h : Heap} {L : Addr} {a b c : Addr × Obj} {r : List (Addr × Obj)} (N : News h₀ L h (a :: b :: c :: r)) : News h₀ L h (a :: b :: r) := fun q hq => by
  rcases List.mem_cons.mp hq with rfl | hq
  · exact N _ (.head _)
  · rcases List.mem_cons.mp hq with rfl | hq
    · exact N _ (.tail _ (.head _))
    · exact N _ (.tail _ (.tail _ (.tail _ hq)))
section
variable {w : World} {loose : List Str} {mean : ExcName → Option Value} {mg mb : Str → Option Value} {dp un : Nat} {gd : Option (List Code)} {cn : Str} {cs : Scope} {a : Addr} {ccd : Value} {cl : List (Str × Addr)} {outer : List Env} {A₀ : Around} {base h₀ : Heap} {L : Addr} {m : Str → Option Value} {s : Shared} {Q E : Value → Shared → Prop} {news : List (Addr × Obj)} {p : Program}
variable (B : Below A₀ base outer h₀) (F : Fr h₀ L s.heap m) (X : (K w.params).In h₀) (N : News h₀ L s.heap news) (T : Top p loose mean mg mb h₀) (hk : cs.kind = .function)
include B F X N T hk
theorem moment_of_c (hd : dp + 90 < recursionLimit) (hu : un + 400 < cLine) {n z y mo d : Int} {t t' : Tok} (h0 : -62035200000 ≤ n) (h1 : n < 253324800000) (hz : -6000 < z) (hz' : z < 6000) (hc : Civ ((n + z * 60) / 86400 + 719162) y mo d)
    (ret : ∀ o dd ho mi se k1 v1 k2 v2 k3 v3 k4 v4 k5 v5 k6 v6 k7 v7 h' tk', ho = (n + z * 60) % 86400 / 3600 → mi = (n + z * 60) % 86400 / 60 % 60 → se = (n + z * 60) % 60 → Fr h₀ L h' m →
      News h₀ L h' ((o, instObj 161 dd) :: (dd, momD w.params y mo d ho mi se z k1 v1 k2 v2 k3 v3 k4 v4 k5 v5 k6 v6 k7 v7) :: news) → dd < o → (∀ p ∈ news, p.1 < dd) → (∀ p ∈ news, p.1 < o) → Q (.ref o) { s with heap := h', toks := tk' }) :
    wpAny (model PW w) (ktrTop dp un gd cn cs L a ccd cl outer) (call (.ref 236) [.int n t, .int z t']) Q E s := by
  have e1 := fd (n + z * 60) (b := 86400) (by decide)
  have e2 := fm (n + z * 60) (b := 86400) (by decide)
  have e3 := fd ((n + z * 60).fmod 86400) (b := 3600) (by decide)
  have e4 := fd ((n + z * 60).fmod 86400) (b := 60) (by decide)
  have e5 := fm (((n + z * 60).fmod 86400).fdiv 60) (b := 60) (by decide)
  have e6 := fm ((n + z * 60).fmod 86400) (b := 60) (by decide)
  have hy := hc.year (by omega)
  refine wpAny_call ?_
  k_dflt (k_extra "!cellD")
  have hS221 : StopM 221 := .mk
  k_steps
  all_goals (try unfold Stop)
  obtain ⟨rfl, rfl, rfl⟩ := hc.uniq ⟨g1, g2, g3, g4, g5, g6, by omega⟩
  k_steps
  refine ret _ _ _ _ _ _ _ _ _ _ _ _ _ _ _ _ _ _ _ _ _ ?_ ?_ ?_ (by k_asm) (drop3 (by k_asm)) l9.1 (fun p hp => ltAll (And.right l8) p hp) (fun p hp => Nat.lt_trans (ltAll (And.right l8) p hp) l9.1)
  all_goals (clear ret; omega)
end
theorem hk_moment_of_c : True := by
  (k_with "mc" => (k_here; (with_reducible show wpAny _ _ (call (Value.ref 236) _) _ _ _); k_dflt (refine moment_of_c (by k_asm) (by k_asm) (by k_asm) (by k_extra "!nwN") (by k_asm) (by k_extra "!pre fn") (by ktr_room) (by ktr_units) (by k_extra "!pre") (by k_extra "!pre") (by k_extra "!pre") (by k_extra "!pre") (by k_extra "!pre") ?_); k_whole; intro o9 dd9 ho9 mi9 se9 k1 v1 k2 v2 k3 v3 k4 v4 k5 v5 k6 v6 k7 v7 h9 tk9 i1 i2 i3 F9 N9 l8 l9 l10; (try k_lt l9); (try k_lt l10); (try k_sweep); (try dsimp only)))
  trivial

-- part rdi
abbrev rdD (P : Params) (T : Addr) (i n : Int) (k1 k2 k3 v2 v3 : Tok) : Obj :=
  dictOf [⟨PyData.keyHash P (Str.ofString "tokens"), .str (Str.ofString "tokens") k1, .ref T⟩, ⟨PyData.keyHash P (Str.ofString "at"), .str (Str.ofString "at") k2, .int i v2⟩, ⟨PyData.keyHash P (Str.ofString "length"), .str (Str.ofString "length") k3, .int n v3⟩] 3
/-- a reader's tokens, within what was made beside it -/
structure RS (bs : List (Addr × Obj)) (r rd T : Addr) (l : List Tk) (ws : List Value) : Prop where
  ne : r ≠ rd
  off : ∀ p ∈ bs, p.1 ≠ rd
  tup : (T, W.listOf ws.toArray ws.length) ∈ bs
  each : F2 (IsTk bs) l ws
  small : ws.length ≤ 10000
  wf : ∀ k ∈ l, k.1 = Str.ofString "atom" → ∃ b, k.2.1 = some b ∧ b.length ≤ 10000
theorem TS.wf {r : List UInt8} {n : Nat} {l : List Tk} (h : TS r n l) (hr : r.length ≤ 10000) : ∀ k ∈ l, k.1 = Str.ofString "atom" → ∃ b, k.2.1 = some b ∧ b.length ≤ 10000 := by
  induction h with
  | done => intro k hk; cases hk
  | more hta _ _ ih =>
    replace ih := ih (by simp only [List.length_drop]; omega)
    intro k hk e
    rcases List.mem_cons.mp hk with rfl | hk
    · cases hta with
      | quoted _ => exact absurd (show Str.ofString "quoted" = Str.ofString "atom" from e) (by decide +kernel)
      | comment _ => exact absurd (show Str.ofString "comment" = Str.ofString "atom" from e) (by decide +kernel)
      | sign _ => exact absurd (show Str.ofString "sign" = Str.ofString "atom" from e) (by decide +kernel)
      | atom _ => exact ⟨_, rfl, Nat.le_trans (List.Sublist.length_le (List.takeWhile_sublist _)) hr⟩
    · exact ih k hk e
theorem News.ord {h₀ h : Heap} {L : Addr} {a b c : Addr × Obj} {l r : List (Addr × Obj)} (N : News h₀ L h (a :: (l ++ b :: c :: r))) : News h₀ L h (c :: b :: a :: (l ++ r)) := fun q hq => N q (by
  simp only [List.mem_cons, List.mem_append] at hq ⊢
  rcases hq with h | h | h | h | h <;> simp [h])
theorem ord_ne {D d : Addr} {o : Obj} {b : Addr × Obj} {l r : List (Addr × Obj)} (g2 : ∀ p ∈ l, D < p.1) (g3 : ∀ p ∈ b :: (d, o) :: r, p.1 < D) (l1 : ∀ p ∈ r, p.1 < d) : ∀ p ∈ l ++ r, p.1 ≠ d := by
  intro p hp e
  have h3 : d < D := g3 (d, o) (.tail _ (.head _))
  rcases List.mem_append.mp hp with h | h
  · have := g2 p h; rw [e] at this; exact absurd this (Nat.lt_asymm h3)
  · have := l1 p h; rw [e] at this; exact Nat.lt_irrefl _ this
theorem rs_end {r rd T D : Addr} {od2 oi ol oD : Obj} {h₀ h : Heap} {L : Addr} {nw news : List (Addr × Obj)} (N : News h₀ L h ((T, ol) :: (rd, od2) :: (r, oi) :: (D, oD) :: (nw ++ news))) : News h₀ L h ((r, oi) :: (rd, od2) :: (T, ol) :: (nw ++ news)) := fun q hq => N q (by
  simp only [List.mem_cons, List.mem_append] at hq ⊢
  rcases hq with h | h | h | h | h <;> simp [h])
section
variable {w : World} {loose : List Str} {mean : ExcName → Option Value} {mg mb : Str → Option Value} {dp un : Nat} {gd : Option (List Code)} {cn : Str} {cs : Scope} {a : Addr} {ccd : Value} {cl : List (Str × Addr)} {outer : List Env} {A₀ : Around} {base h₀ : Heap} {L : Addr} {m : Str → Option Value} {s : Shared} {Q E : Value → Shared → Prop} {news : List (Addr × Obj)} {p : Program}
variable (B : Below A₀ base outer h₀) (F : Fr h₀ L s.heap m) (X : (K w.params).In h₀) (N : News h₀ L s.heap news) (T : Top p loose mean mg mb h₀) (hk : cs.kind = .function)
include B F X N T hk
theorem reader_c (hd : dp + 105 < recursionLimit) (hu : un + 420 < cLine) {b : Array UInt8} {t : Tok} {f k0 : Nat} {l : List Tk} (h1 : b.size < 10000) (hw : whiteF f b.toList = some k0) (hts : TS (b.toList.drop k0) k0 l)
    (ret : ∀ r rd T ws bs k1 k2 k3 v2 v3 h' tk', RS bs r rd T (l.filter noCmt) ws → (∀ p ∈ news, p ∈ bs) → Fr h₀ L h' m → News h₀ L h' ((r, instObj 313 rd) :: (rd, rdD w.params T ((0 : Nat) : Int) (b.size : Int) k1 k2 k3 v2 v3) :: bs) → Q (.ref r) { s with heap := h', toks := tk' }) :
    wpAny (model PW w) (ktrTop dp un gd cn cs L a ccd cl outer) (call (.ref 313) [.bytes b t]) Q E s := by
  refine call_cls (by k_asm) (by k_asm) (by k_asm) (by k_is) (by k_is) (by k_is) ?_
  intro r rd h3 F3 N3 l1 l2
  k_dflt (k_extra "!cellI")
  have hS135 : StopM 135 := .mk
  k_steps
  all_goals (try unfold Stop)
  have N2 := News.ord N9
  have hne := ord_ne g2 g3 l1
  have hrD : rd < D9 := g3 _ (.tail _ (.head _))
  clear N9
  refine without_c (by k_asm) (by k_asm) (by k_asm) N2 (by k_asm) (by k_extra "!pre fn") (by ktr_room) (by ktr_units) (.tail _ (.tail _ (.head _))) g1 (fun p hp => .tail _ (.tail _ (.tail _ (List.mem_append_left _ hp)))) g4 ?_
  intro D8 ws8 h8 tk8 gg F8 N8 o8
  have ho8 : D8 ≠ rd := fun e => o8.1 e.symm
  have hall : ∀ p ∈ (r, instObj 313 rd) :: (D9, W.listOf vs9 ep9) :: (nw9 ++ news), p.1 ≠ rd := fun p hp => by
    rcases List.mem_cons.mp hp with rfl | hp
    · exact Nat.ne_of_gt l2
    · rcases List.mem_cons.mp hp with rfl | hp
      · exact Nat.ne_of_gt hrD
      · exact hne p hp
  k_steps
  refine ret r rd D8 ws8 ((D8, W.listOf ws8.toArray ws8.length) :: (nw9 ++ news)) _ _ _ _ _ _ _ ⟨Nat.ne_of_gt l2, ?_, .head _, ?_, by omega, fun k hk => hts.wf (by simp only [List.length_drop, Array.length_toList]; omega) k (List.mem_filter.mp hk).1⟩ ?_ (by k_asm) (rs_end (by k_asm))
  · intro p hp
    rcases List.mem_cons.mp hp with rfl | hp
    · exact ho8
    · exact hne p hp
  · exact gg.1.mono fun _ _ => IsTk.mono fun p hp => .tail _ (List.mem_append_left _ hp)
  · exact fun p hp => .tail _ (List.mem_append_right _ hp)
end
theorem hk_reader_c : True := by
  (k_with "mc" => (k_here; (with_reducible show wpAny _ _ (call (Value.ref 313) _) _ _ _); k_dflt (refine reader_c (by k_asm) (by k_asm) (by k_asm) (by k_extra "!nwN") (by k_asm) (by k_extra "!pre fn") (by ktr_room) (by ktr_units) (by k_extra "!pre") (by k_extra "!pre") (by k_extra "!pre") ?_); k_whole; intro r9 rd9 T9 ws9 bs9 k1 k2 k3 v2 v3 h9 tk9 R9 sub9 F9 N9; (have w9 := F2.len (RS.each R9)); (try k_sweep); (try dsimp only)))
  trivial

-- part rdm
theorem my_item {prog : Program} {w : World} {A : Around} {E : Value → Shared → Prop} {s : Shared} {value slice : PySem.Expr} {l : Addr} {vs : List Value} {k : Int} {u : Tok} {v : Value} {Q : Value → Shared → Prop}
    (hl : s.heap.IsList l vs.toArray) (h0 : 0 ≤ k) (hhi : k < 2 ^ 63) (hx : vs[k.toNat]? = some v) (h : Q v s)
    (hs : subscripted slice false (.ref l) (.int k u) = operate [.ref l, .int k u] (getItem (.ref l) (.int k u)) := by with_unfolding_all rfl) :
    wpAny (model prog w) A (subscriptTail value slice (.ref l) (.int k u)) Q E s :=
  tail_any hl.typeIs slot_list_getitem.lookup (wpAny_getItem_list hl h0 hhi (by simpa using hx) h) hs
theorem my_len {prog : Program} {w : World} {A : Around} {E : Value → Shared → Prop} {s : Shared} {l : Addr} {vs : List Value} {c : Nat} {Q : Value → Shared → Prop} {h₀ : Heap} {L : Addr} {news : List (Addr × Obj)} (N : News h₀ L s.heap news) (hm : (l, W.listOf vs.toArray c) ∈ news) (hf : vs.length ≤ 10000)
    (h : Q (.int (vs.length : Nat) (s.toks + 1)) { s with toks := s.toks + 1 + 1 }) : wpAny (model prog w) A (call (.builtin "len") [.ref l]) Q E s :=
  len_list (News.isList N hm) (by simp; omega) (by simpa using h)
theorem hk_wcdbca8e8 : True := by
  (k_with "subscriptTail Attribute Name Attribute ref int" => (k_here; k_dflt (refine my_item (by exact News.isList (by k_asm) (by k_extra "!bsm")) (by omega) (by omega) (by assumption) ?_ (by with_unfolding_all rfl)); k_whole))
  trivial
theorem hk_wd08da38b : True := by
  (k_with "call builtin:len" => (k_here; k_dflt (refine my_len (by k_asm) (by k_extra "!bsm") (by assumption) ?_); k_whole))
  trivial
theorem hk_waf51fadb : True := by
  (k_with "subscriptTail Name Constant ref int" => (k_here; k_dflt (refine item_tupleT (by exact News.isTup (by k_asm) (by k_extra "!bsm")) (by decide) (by decide) (by rfl) (by rfl) ?_); k_whole))
  trivial
def placeAt (l : List Tk) (n i : Nat) : Nat := match l[i]? with | some k => k.2.2 | none => n
def atomB (l : List Tk) (i : Nat) : List UInt8 := match l[i]? with | some k => if k.1 = Str.ofString "atom" then k.2.1.getD [] else [] | none => []
def txB (b : List UInt8) : Str := tx (b.map (·.toNat))
section
variable {w : World} {loose : List Str} {mean : ExcName → Option Value} {mg mb : Str → Option Value} {dp un : Nat} {gd : Option (List Code)} {cn : Str} {cs : Scope} {a : Addr} {ccd : Value} {cl : List (Str × Addr)} {outer : List Env} {A₀ : Around} {base h₀ : Heap} {L : Addr} {m : Str → Option Value} {s : Shared} {Q E : Value → Shared → Prop} {p : Program} {bs : List (Addr × Obj)} {r rd T9 : Addr} {l : List Tk} {ws : List Value} {i n : Nat} {k1 k2 k3 v2 v3 : Tok}
variable (B : Below A₀ base outer h₀) (F : Fr h₀ L s.heap m) (X : (K w.params).In h₀) (N : News h₀ L s.heap ((r, instObj 313 rd) :: (rd, rdD w.params T9 (i : Nat) (n : Nat) k1 k2 k3 v2 v3) :: bs)) (T : Top p loose mean mg mb h₀) (hk : cs.kind = .function)
include B F X N T hk
theorem place_c (hd : dp + 15 < recursionLimit) (hu : un + 60 < cLine) (R : RS bs r rd T9 l ws) (hi : i ≤ ws.length)
    (ret : ∀ t h' tk', Fr h₀ L h' m → News h₀ L h' ((r, instObj 313 rd) :: (rd, rdD w.params T9 i n k1 k2 k3 v2 v3) :: bs) → Q (.int (placeAt l n i : Nat) t) { s with heap := h', toks := tk' }) :
    wpAny (model PW w) (ktrTop dp un gd cn cs L a ccd cl outer) (call (.ref 284) [.ref r]) Q E s := by
  have hT := R.tup
  have hw := R.small
  by_cases hlt : i < ws.length
  · obtain ⟨k, hk1, z, y, t1, t2, t3, hv, hm, hl⟩ := R.each.get (List.getElem?_eq_getElem hlt)
    have hx : ws[((i : Nat) : Int).toNat]? = some (.ref z) := by rw [← hv]; exact List.getElem?_eq_getElem hlt
    k_dflt cell_enter
    k_steps
    refine rI ret ?_ (by k_asm) (by k_asm)
    rw [placeAt, hk1]
  · k_dflt cell_enter
    k_steps
    refine rI ret ?_ (by k_asm) (by k_asm)
    rw [placeAt, List.getElem?_eq_none (by rw [R.each.len]; omega)]
theorem atom_c (hd : dp + 15 < recursionLimit) (hu : un + 60 < cLine) (R : RS bs r rd T9 l ws) (hi : i ≤ ws.length)
    (ret : ∀ t h' tk', Fr h₀ L h' m → News h₀ L h' ((r, instObj 313 rd) :: (rd, rdD w.params T9 i n k1 k2 k3 v2 v3) :: bs) → Q (.str (txB (atomB l i)) t) { s with heap := h', toks := tk' }) :
    wpAny (model PW w) (ktrTop dp un gd cn cs L a ccd cl outer) (call (.ref 289) [.ref r]) Q E s := by
  have hT := R.tup
  have hw := R.small
  by_cases hlt : i < ws.length
  · obtain ⟨k, hk1, z, y, t1, t2, t3, hv, hm, hl⟩ := R.each.get (List.getElem?_eq_getElem hlt)
    have hx : ws[((i : Nat) : Int).toNat]? = some (.ref z) := by rw [← hv]; exact List.getElem?_eq_getElem hlt
    k_dflt cell_enter
    k_steps
    · refine rS ret ?_ (by k_asm) (by k_asm)
      have ha : ¬ k.1 = Str.ofString "atom" := by
        have : (k.fst != Str.ofString "atom") = true := by assumption
        simpa using this
      simp only [atomB, hk1, if_neg ha]
      rfl
    · have ha : k.1 = Str.ofString "atom" := by
        have : (k.fst != Str.ofString "atom") = false := by assumption
        simpa using this
      obtain ⟨wb, hwb, hwl⟩ := R.wf k (List.mem_of_getElem? hk1) ha
      have hyw := hl wb hwb
      rename Fr _ _ _ _ => FF
      rename News _ _ _ _ => NN
      refine CW.bytes rfl FF NN (by rw [sizeLine_eq, ← Array.length_toList, hyw]; omega) ?_
      intro g
      refine rest_strs (ks := wb) (fun c => (⟨#[c.toNat]⟩ : Str)) (fun c v => ∃ u, v = .int (c.toNat : Int) u) (by rw [← hyw]; simp) ?_ ?_ ?_
      · rintro j v hj ⟨c, u, hc, rfl⟩
        exact ⟨c, by rw [← hyw]; simpa using hc, u, rfl⟩
      · rintro c v I oI C oC D m₂ ys h tk E' hk ⟨u, rfl⟩ hC hx F' N' off ne
        have hk' := c.toNat_lt
        k_steps
        k_extra "!ce"
        exact ⟨rfl, _, rfl⟩
      intro ys hys
      have hS5 : StopM 5 := .mk
      k_steps
      all_goals (try unfold Stop)
      refine join_list (News.isList (by k_asm) (by k_mem)) (by simpa using hys) ?_ ?_
      · rw [sum_ones, show (Str.ofString "").length = 0 from by decide +kernel, Nat.mul_zero]; show wb.length + 0 ≤ 16777216; omega
      intro t' k'
      rw [join_map_ones]
      k_steps
      refine rS ret ?_ (by k_asm) (by k_extra "!nw")
      simp only [atomB, hk1, if_pos ha, hwb]
      rfl
  · k_dflt cell_enter
    k_steps
    refine rS ret ?_ (by k_asm) (by k_asm)
    have e : (Str.ofString "") = tx [] := by decide +kernel
    rw [atomB, List.getElem?_eq_none (by rw [R.each.len]; omega), e]
    rfl
end
theorem hk_place_c : True := by
  (k_with "mc" => (k_here; (with_reducible show wpAny _ _ (call (Value.ref 284) _) _ _ _); k_dflt (refine place_c (by k_asm) (by k_asm) (by k_asm) (by k_extra "!nwN") (by k_asm) (by k_extra "!pre fn") (by ktr_room) (by ktr_units) (by k_extra "!pre") (by k_extra "!pre") ?_); k_whole; intro t9 h9 tk9 F9 N9; (try k_sweep); (try dsimp only)))
  trivial
theorem hk_atom_c : True := by
  (k_with "mc" => (k_here; (with_reducible show wpAny _ _ (call (Value.ref 289) _) _ _ _); k_dflt (refine atom_c (by k_asm) (by k_asm) (by k_asm) (by k_extra "!nwN") (by k_asm) (by k_extra "!pre fn") (by ktr_room) (by ktr_units) (by k_extra "!pre") (by k_extra "!pre") ?_); k_whole; intro t9 h9 tk9 F9 N9; (try k_sweep); (try dsimp only)))
  trivial

-- part exc
abbrev excO (C : Addr) (dd : Option Addr) (t : Addr) : Obj := { cls := .ref C, dict := dd, data := .fields #[.ref t, .none, .none, .none, .bool false, .none] }
abbrev bmW : List Value := [.ref 39, .type "Exception", .type "BaseException", .type "object"]
abbrev wfO : Obj := excClassObj (Str.ofString "WordFault") (Str.ofString "WordFault") 52 51 [.ref 39] bmW true [] [] false none none (some (.ref 43)) none (some (.str (Str.ofString "WordFault") 229)) (some (.str (Str.ofString "WordFault") 237)) (some (.bool true)) "Exception.__new__"
theorem wf_K (P : Params) : (K P).lookup 52 = some wfO := by k_is
section
open Builtin Builtin.ObjectAttr
variable {M : Model} {prog : Program} {w : World} {A : Around} {E : Value → Shared → Prop} {R : Result → Shared → Prop} {h : Heap} {g : Array GenState} {d : Drawn} {t : Nat} {os : OsState}
theorem wf_cB : (Value.ref 52 :: bmW).contains (.type "Exception") = true := by decide +kernel
theorem wf_cA : (Value.ref 52 :: bmW).contains (.type "AttributeError") = false := by decide +kernel
theorem wf_cN : (Value.ref 52 :: bmW).contains (.type "NameError") = false := by decide +kernel
theorem wf_cE : (Value.ref 52 :: bmW).contains (.type "BaseException") = true := by decide +kernel
theorem wf_cC : (Value.ref 52 :: bmW).contains (.ref 52) = true := by decide +kernel
theorem wf_check {rest : List Value} {Q : Unit → Shared → Prop} (hC : h.get? 52 = some wfO) (hq : Q () ⟨h, g, d, t, os⟩) : wpAny M A (checkBuiltinCall "Exception.__new__" ⟨.ref 52 :: rest, []⟩) Q E ⟨h, g, d, t, os⟩ := by
  have F := PySem.F.excBase_Exception
  have hcont := wf_cB
  have hstar := F.noStar
  simp only [checkBuiltinCall, F.newKind, F.newSplit, F.newRow]
  repeat (first | refine wpAny_loadPart_at hC ?_ | (refine wpAny_isSubtype_exc hC ?_; rw [hcont]) | refine wpAny_staticBase_exc hC ?_ | refine wpAny_madeBy_exc hC ?_ | simp only [bne_self_eq_false, Bool.false_eq_true, if_false] | wp_step)
  exact hq
theorem wf_new {rest : List Value} (hC : h.get? 52 = some wfO)
    (hq : R (.ok (.ret (.ref (h.objs.size + 1)))) ⟨(h.push { cls := .type "tuple", data := .seq rest.toArray }).push (excO 52 none h.objs.size), g, d, t, os⟩) (hrest : rest.length ≤ sizeLine) :
    codeAny (model prog w) A (.builtin "Exception.__new__" ⟨.ref 52 :: rest, []⟩) R ⟨h, g, d, t, os⟩ := by
  have F := PySem.F.excBase_Exception
  have hends := F.ends
  have hcB := wf_cB
  have hcA := wf_cA
  have hcN := wf_cN
  refine codeAny_builtinAt F.entry ?_
  unfold Builtin.«BaseException.__new__»
  refine PySem.wpAt_bind ?_
  show PySem.wpAt _ _ _ (stack >>= _) _ _ _
  refine PySem.wpAt_bind (PySem.wpAt_stack fun p below => PySem.wpAt_of_wpAny ?_)
  wp_walk
  refine PySem.wpAt_of_wpAny ?_
  rw [F.owner]
  repeat (first | with_reducible refine wpAny_madeHere_exc F.canon hC ?_ | with_reducible refine wpAny_loadPart_at hC ?_ | (with_reducible refine wpAny_isSubtype_exc hC ?_; first | rw [hcB] | rw [hcA] | rw [hcN]) | with_reducible refine PySem.wpAny_mkStr' ?_ (by decide +kernel) | wp_step)
  show R _ _
  rw [Heap.size_push]
  exact hq
theorem wf_type_call {rest : List Value} {Q : Fin → Shared → Prop} {P : Params} (X : (K P).In h) 
    (hq : h.get? h.objs.size = none → wpAny (model prog w) A (call (.ref 29) (.ref (h.objs.size + 1) :: rest)) (fun r s' => r = .none ∧ Q (.done (.ret (.ref (h.objs.size + 1)))) s') E ⟨(h.push { cls := .type "tuple", data := .seq rest.toArray }).push (excO 52 none h.objs.size), g, d, t, os⟩) (hrest : rest.length ≤ sizeLine) :
    wpAny (model prog w) A (Builtin.«type.__call__» ⟨.ref 52 :: rest, []⟩) Q E ⟨h, g, d, t, os⟩ := by
  have F := PySem.F.excBase_Exception
  have hC := X _ _ (wf_K P)
  repeat (first | with_reducible refine wpAny_loadPart_at hC ?_ | with_reducible refine wpAny_madeBy_exc hC ?_ | with_reducible refine PySem.wpAny_mkStr' ?_ (by decide +kernel) | wp_step)
  refine codeAny_call_builtin_code (Code.quiet_builtin _ F.quiet) (wf_check hC ?_)
  refine wf_new hC ?_ hrest
  show wpAny _ _ _ _ _ _
  have hC₁ := Heap.get?_push_of_some (excO 52 none h.objs.size) (Heap.get?_push_of_some { cls := .type "tuple", data := .seq rest.toArray } hC)
  have hget : ((h.push { cls := .type "tuple", data := .seq rest.toArray }).push (excO 52 none h.objs.size)).get? (h.objs.size + 1) = some (excO 52 none h.objs.size) := by heap_get
  have hcC := wf_cC
  have X₁ : (K P).In ((h.push { cls := .type "tuple", data := .seq rest.toArray }).push (excO 52 none h.objs.size)) := X.keeps fun b o e => Heap.get?_push_of_some _ (Heap.get?_push_of_some _ e)
  unfold isInstance
  repeat (first | with_reducible refine wpAny_loadPart_at hget ?_ | (with_reducible refine wpAny_isSubtype_exc hC₁ ?_; rw [hcC]) | with_reducible refine PySem.wpAny_mkStr' ?_ (by decide +kernel) | wp_step)
  show wpAny _ _ (typeLookup (.ref 52) _) _ _ _
  have hi : findIn (K P) (.ref 52) "__init__" = some (some (.ref 29)) := by k_is
  refine looks_findIn X₁ hi _ _ _ _ (fun _ _ e => e) ?_
  refine wpAny_holding (wpAny_bind ?_)
  refine bind_fn X₁ _ (by k_is) _ _ _ _ (fun _ _ e => e) ?_
  refine wpAny_bind (wpAny_mono (hq (Heap.get?_none_of_le (Nat.le_refl _))) (fun r s' hr => ?_) fun _ _ x => x)
  obtain ⟨rfl, hQ⟩ := hr
  wp_walk
  exact hQ
end
section
variable {prog : Program} {w : World} {A : Around} {E : Value → Shared → Prop} {s : Shared} {h₀ : Heap} {L : Addr} {m : Str → Option Value} {news : List (Addr × Obj)} {P : Params}
theorem wf_call {rest : List Value} {Q : Value → Shared → Prop} (F : Fr h₀ L s.heap m) (X₀ : (K P).In h₀) (N : News h₀ L s.heap news) (hrest : rest.length ≤ sizeLine)
    (hq : ∀ e t h', Fr h₀ L h' m → News h₀ L h' ((e, excO 52 none t) :: news) → (∀ p ∈ news, p.1 < e) →
      wpAny (model prog w) (A.under (.builtin "type.__call__" ⟨.ref 52 :: rest, []⟩)) (call (.ref 29) (.ref e :: rest)) (fun r s' => r = .none ∧ Q (.ref e) s') E { s with heap := h' }) :
    wpAny (model prog w) A (call (.ref 52) rest) Q E s := by
  obtain ⟨h, g, d, t, os⟩ := s
  have X := X₀.keeps F.keep
  have hC := X _ _ (wf_K P)
  have f1 := tc_lookup
  have f2 := tc_bind (.ref 52)
  have hT : (⟨h, g, d, t, os⟩ : Shared).TypeIs (.ref 52) "type" := ⟨_, hC, rfl⟩
  refine wpAny_call (codeAny_of_tree ?_)
  show wpAny _ _ (callAny (.ref 52) _) _ _ _
  repeat (any_goals (first | assumption | with_reducible refine wpAny_loadPart_at hC ?_ | with_reducible refine PySem.wpAny_mkStr' ?_ (by decide +kernel) | wp_step))
  refine ⟨rfl, ?_⟩
  refine codeAny_call_builtin_at (Code.quiet_builtin _ (by decide +kernel)) entry_typeCall (wpAny_check_type_call_sub hC (wf_type_call (hrest := hrest) X fun hn => ?_))
  have F1 := F.push { cls := .type "tuple", data := .seq rest.toArray }
  refine hq (h.objs.size + 1) h.objs.size _ (F1.push _) ?_ fun p hp => Nat.lt_succ_of_lt (Heap.lt_size (N p hp).1)
  intro p hp
  rcases List.mem_cons.mp hp with rfl | hp
  · have e1 : h.objs.size + 1 = (h.push { cls := .type "tuple", data := .seq rest.toArray }).objs.size := (Heap.size_push _ _).symm
    refine ⟨by heap_get, Nat.ne_of_gt (Nat.lt_succ_of_lt F.ns.lt), ?_⟩
    show h₀.get? (h.objs.size + 1) = none
    rw [e1]
    exact next_is_new F1
  · exact ⟨Heap.get?_push_of_some _ (Heap.get?_push_of_some _ (N p hp).1), (N p hp).2⟩
theorem wf_cls (P : Params) : ∃ cd, clsIn (K P) 52 = some cd ∧ cd.mro = .ref 52 :: bmW ∧ cd.hasDict = true := ⟨_, by unfold clsIn; rw [wf_K P], rfl, rfl⟩
open Builtin Builtin.ObjectAttr in
theorem wf_osa {A : Around} {R : Result → Shared → Prop} {x : Addr} {ox : Obj} {od : Option Obj} {name : Str} {tk : Tok} {v : Value} (X : (K P).In s.heap) (I : InstAt s.heap x ox 52 od) (ha : findIn (K P) (.ref 52) name = some none)
    (h : wpAny (model prog w) A.in1 (storeInOwnDict (.ref x) (.ref 52) (.str name tk) name v false)
      (fun fin s' => match fin with | .done f => R (.ok f) s' | .again c' => c'.quiet = true ∧ codeAny (model prog w) A c' R s') (fun e s' => R (.error e) s') s) :
    codeAny (model prog w) A (.call (.builtin "object.__setattr__") ⟨[.ref x, .str name tk, v], []⟩) R s := by
  have SF := PySem.F.store_object
  obtain ⟨cd, hc, ho, -⟩ := wf_cls P
  have hmr : mroIn (K P) 52 (.type "object") = some true := by
    unfold mroIn; rw [hc, Option.bind_some, ho]; decide +kernel
  have sub : Looks (model prog w) s.heap (isInstance (.ref x) (.type "object")) true := I.type.andThen (looks_mroIn X hmr)
  refine codeAny_call_builtin SF.slot.plain SF.entry (@check_slot (model prog w) _ _ s "object.__setattr__" "object" "__setattr__" (.ref x) [.str name tk, v] [] _ SF.kind SF.split sub (SF.args (.ref x) (.str name tk) v) ?_)
  have hm : Looks (model prog w) s.heap (mroOf (.ref 52)) cd.mro := (looks_clsIn X hc).andThen .now
  have L3 : Looks (model prog w) s.heap (storeTaker? none) none := .now
  rw [osa_eq, refuse_eq]
  refine wpAny_bind (wpAny_bind (I.type.here (wpAny_bind (hm.here ?_))))
  rw [ho, refuseLoop_ref, refuseLoop_ref, PySem.F.store_Exception.passes]
  exact wpAny_pure (wpAny_bind (I.type.here (wpAny_bind ((looks_findIn X ha).here (wpAny_bind (L3.here h))))))
open Builtin Builtin.ObjectAttr in
theorem sid {A : Around} {E : Value → Shared → Prop} {Q : Fin → Shared → Prop} {dx : Addr} {name : Str} {tk : Tok} {v : Value} {es es' : List DictEntry} {n n' : Nat} {post : List (Addr × Obj)} (F : Fr h₀ L s.heap m) (N : News h₀ L s.heap ((dx, dictOf es n) :: post))
    (h2 : ∀ p ∈ post, p.1 ≠ dx) (hl : (getL name es).isSome = true) (e : (putL name (PyData.keyHash w.params name) (.str name s.toks) v es, putN name es n) = (es', n')) (hz : es'.length ≤ 1000)
    (h : ∀ h', Fr h₀ L h' m → News h₀ L h' ((dx, dictOf es' n') :: post) → Q (.done (.ret .none)) { s with heap := h', toks := s.toks + 1 }) :
    wpAny (model prog w) A (storeInDict dx (.str name tk) name v) Q E s := by
  obtain ⟨e1, e2⟩ := Prod.mk.inj e
  have e3 : Obj.putName name (PyData.keyHash w.params name) (.str name s.toks) v (dictOf es n) = dictOf es' n' := by rw [putName_dict, e1, e2]
  obtain ⟨U1, U2⟩ := news_upd (f := Obj.putName name (PyData.keyHash w.params name) (.str name s.toks) v) (pre := []) F N (fun _ hp => nomatch hp) h2 e3 rfl
  have D := (N (dx, dictOf es n) (.head _)).1
  have D' := (U2 (dx, dictOf es' n') (.head _)).1
  unfold storeInDict
  refine wpAny_bind (wpAny_pure (wpAny_bind ?_))
  unfold nsSet
  refine wpAny_bind (wpAny_bind (wpAny_askSetting (wpAny_pure (wpAny_bind (wpAny_mkText (wpAny_bind (wpAny_loadPart D ?_)))))))
  have c : (!es.toArray.any (·.key.isStr name) && es.toArray.any (·.refKey)) = false := by
    unfold getL at hl
    rw [← Array.any_toList, ← Array.any_toList]
    split at hl
    · rename_i en he
      rw [List.any_eq_true.mpr ⟨en, List.mem_of_find?_eq_some he, List.find?_some he⟩]; rfl
    · split at hl
      · cases hl
      · rename_i z; rw [Bool.not_eq_true] at z; rw [z, Bool.and_false]
  dsimp only
  rw [aRefKeyMayBeTheName_at, c]
  refine wpAny_updatePart D ?_
  refine wpAny_bind (wpAny_lookBehind D' (pastItsLine_dict (by rw [List.size_toArray, sizeLine_eq]; omega)) ?_)
  exact wpAny_pure (h _ U1 U2)
open Builtin Builtin.ObjectAttr in
theorem exc_set1 {A : Around} {E : Value → Shared → Prop} {Q : Unit → Shared → Prop} {e t : Addr} {name : Str} {v : Value} (F : Fr h₀ L s.heap m) (X₀ : (K w.params).In h₀) (N : News h₀ L s.heap ((e, excO 52 none t) :: news))
    (hne : ∀ p ∈ news, p.1 ≠ e) (ha : findIn (K w.params) (.ref 52) name = some none) (hs : findIn (K w.params) (.ref 52) "__setattr__" = some (some (.builtin "object.__setattr__")))
    (h : ∀ dx k h', Fr h₀ L h' m → News h₀ L h' ((dx, dictOf [⟨PyData.keyHash w.params name, .str name k, v⟩] 1) :: (e, excO 52 (some dx) t) :: news) → (∀ p ∈ (e, excO 52 (some dx) t) :: news, p.1 ≠ dx) → Q () { s with heap := h', toks := s.toks + 2 }) :
    wpAny (model prog w) A (setAttr (.ref e) name v) Q E s := by
  have X := X₀.keeps F.keep
  have he := (N _ (.head _)).1
  have I : InstAt s.heap e (excO 52 none t) 52 none := ⟨he, rfl, rfl, trivial⟩
  refine set_plain X I hs (wf_osa (s := { s with toks := s.toks + 1 }) X I ha ?_)
  obtain ⟨cd, hc, -, hd⟩ := wf_cls w.params
  obtain ⟨hp, g, d, tk, os⟩ := s
  unfold storeInOwnDict
  refine wpAny_bind (wpAny_pure ?_)
  show wpAny _ _ (ownDictForStores (.ref e) >>= _) _ _ _
  refine wpAny_bind ?_
  unfold ownDictForStores instanceDict
  refine wpAny_bind (wpAny_loadPart he ?_)
  dsimp only
  refine wpAny_bind (looks_clsIn X hc _ _ _ _ (fun _ _ e => e) ?_)
  rw [hd]
  rw [if_neg (show ¬ ((!true) = true) by decide), if_neg (show ¬ ((!true || !typeHasDict (.ref 52)) = true) by decide)]
  have F1 := F.push { cls := .type "dict", data := .dict #[] }
  have hes : e ≠ hp.objs.size := Nat.ne_of_lt (Heap.lt_size he)
  have hd0 : (hp.push { cls := .type "dict", data := .dict #[] }).get? hp.objs.size = some (dictOf [] 0) := Heap.get?_push_at rfl rfl
  have N1 : News h₀ L (hp.push { cls := .type "dict", data := .dict #[] }) ((hp.objs.size, dictOf [] 0) :: (e, excO 52 none t) :: news) := fun q hq => by
    rcases List.mem_cons.mp hq with rfl | hq
    · exact ⟨hd0, Nat.ne_of_gt F.ns.lt, next_is_new F⟩
    · exact ⟨Heap.get?_push_of_some _ (N q hq).1, (N q hq).2⟩
  refine wpAny_bind (m := alloc _) (wpAny_alloc' (wpAny_bind (wpAny_update' (Heap.get?_push_of_some _ he) ?_)))
  obtain ⟨U1, U2⟩ := news_upd (f := fun o => { o with dict := some hp.objs.size }) (pre := [(hp.objs.size, dictOf [] 0)]) (o' := excO 52 (some hp.objs.size) t) F1 N1 (fun q hq => by rw [List.mem_singleton.mp hq]; exact hes.symm) hne rfl rfl
  refine wpAny_pure ?_
  dsimp only
  refine sid (s := ⟨_, g, d, tk + 1, os⟩) (es := []) (n := 0) (es' := [⟨PyData.keyHash w.params name, .str name (tk + 1), v⟩]) (n' := 1) U1 U2 (fun q hq => ?_) rfl rfl (by simp) fun h' F' N' => ?_
  · rcases List.mem_cons.mp hq with rfl | hq
    · exact hes
    · exact Nat.ne_of_lt (Heap.lt_size (N q (.tail _ hq)).1)
  · refine h _ _ _ F' N' fun q hq => ?_
    rcases List.mem_cons.mp hq with rfl | hq
    · exact hes
    · exact Nat.ne_of_lt (Heap.lt_size (N q (.tail _ hq)).1)
open Builtin Builtin.ObjectAttr in
theorem exc_set2 {A : Around} {E : Value → Shared → Prop} {Q : Unit → Shared → Prop} {e t dx : Addr} {name : Str} {v : Value} {es es' : List DictEntry} {n n' : Nat} (F : Fr h₀ L s.heap m) (X₀ : (K w.params).In h₀) (N : News h₀ L s.heap ((dx, dictOf es n) :: (e, excO 52 (some dx) t) :: news))
    (hne : ∀ p ∈ (e, excO 52 (some dx) t) :: news, p.1 ≠ dx) (ha : findIn (K w.params) (.ref 52) name = some none) (hs : findIn (K w.params) (.ref 52) "__setattr__" = some (some (.builtin "object.__setattr__")))
    (hl : (getL name es).isSome = true) (q : (putL name (PyData.keyHash w.params name) (.str name (s.toks + 1)) v es, putN name es n) = (es', n')) (hz : es'.length ≤ 1000)
    (h : ∀ h', Fr h₀ L h' m → News h₀ L h' ((dx, dictOf es' n') :: (e, excO 52 (some dx) t) :: news) → Q () { s with heap := h', toks := s.toks + 2 }) :
    wpAny (model prog w) A (setAttr (.ref e) name v) Q E s := by
  have X := X₀.keeps F.keep
  have he := (N _ (.tail _ (.head _))).1
  have hdx := (N _ (.head _)).1
  have I : InstAt s.heap e (excO 52 (some dx) t) 52 (some (dictOf es n)) := ⟨he, rfl, rfl, hdx⟩
  refine set_plain X I hs (wf_osa (s := { s with toks := s.toks + 1 }) X I ha ?_)
  obtain ⟨cd, hc, -, hd⟩ := wf_cls w.params
  unfold storeInOwnDict
  refine wpAny_bind (wpAny_pure ?_)
  show wpAny _ _ (ownDictForStores (.ref e) >>= _) _ _ _
  refine wpAny_bind ?_
  unfold ownDictForStores instanceDict
  refine wpAny_bind (wpAny_loadPart he ?_)
  dsimp only
  refine wpAny_bind (looks_clsIn X hc _ _ _ _ (fun _ _ e => e) ?_)
  rw [hd]
  refine wpAny_pure ?_
  exact sid (s := { s with toks := s.toks + 1 }) F N hne hl q hz fun h' F' N' => h _ F' N'
end
section
variable {M : Model} {A : Around} {E : Value → Shared → Prop} {s : Shared} {env : Env}
theorem raise_made {x : Sem Value} {Q : Flow → Shared → Prop} (hh : A.handled = none)
    (h : wpAny M A x (fun v s₁ => ∃ e oe, v = .ref e ∧ s₁.heap.get? 52 = some wfO ∧ s₁.heap.get? e = some oe ∧ oe.cls = .ref 52 ∧ (∃ t, oe.data = .fields #[.ref t, .none, .none, .none, .bool false, .none]) ∧ E (.ref e) s₁) E s) :
    wpAny M A (raiseStmt env (some x) none) Q E s := by
  have hcB := wf_cE
  unfold raiseStmt
  refine wpAny_bind (wpAny_mono h (fun v s₁ h₁ => ?_) fun _ _ x => x)
  obtain ⟨e, ⟨oc, od, oda, osl⟩, rfl, hC, he, hcl, ⟨t, hd⟩, hE⟩ := h₁
  dsimp only at hcl hd
  subst hcl hd
  obtain ⟨hp, g, d, tk, os⟩ := s₁
  repeat (first | with_reducible refine wpAny_loadPart_at he ?_ | with_reducible refine wpAny_loadPart_at hC ?_ | (with_reducible refine wpAny_isSubtype_exc hC ?_; rw [hcB]) | with_reducible refine PySem.wpAny_mkStr' ?_ (by decide +kernel) | wp_step)
  exact wpAny_raiseNew_none hh hE
theorem raise_exec {x : Expr} {pos : Pos} {Q : Flow → Shared → Prop} (hh : A.handled = none)
    (h : wpAny M A (eval x env) (fun v s₁ => ∃ e oe, v = .ref e ∧ s₁.heap.get? 52 = some wfO ∧ s₁.heap.get? e = some oe ∧ oe.cls = .ref 52 ∧ (∃ t, oe.data = .fields #[.ref t, .none, .none, .none, .bool false, .none]) ∧ E (.ref e) s₁) E s) :
    wpAny M A (exec (.Raise (some x) none pos) env) Q E s := by
  rw [arm_exec_Raise]
  refine wpAny_bind (wpAny_standAt (raise_made hh (wpAny_bind (wpAny_mono h (fun v s₃ h₃ => wpAny_bind (wpAny_standAt (wpAny_pure h₃))) fun _ _ x => x))))
end
theorem hk_wff5db08b : True := by
  (k_with "!exec Raise some none" => (k_here; k_dflt (refine raise_exec (by rfl) ?_)))
  trivial

-- part exw
abbrev wfD (P : Params) (x : Str) (i : Int) (a1 b1 a2 b2 : Tok) : Obj := dictOf [⟨PyData.keyHash P (Str.ofString "what"), .str (Str.ofString "what") a1, .str x b1⟩, ⟨PyData.keyHash P (Str.ofString "at"), .str (Str.ofString "at") a2, .int i b2⟩] 2
theorem meta_Exception : typeOf (.type "Exception") = pure (.type "type") := by kernel_rfl
section
variable {prog : Program} {w : World} {A : Around} {E : Value → Shared → Prop} {s : Shared} {h₀ : Heap} {L : Addr} {m : Str → Option Value} {news : List (Addr × Obj)} {P : Params}
theorem exc_init {rest : List Value} {Q : Value → Shared → Prop} {e t : Addr} (F : Fr h₀ L s.heap m) (X₀ : (K P).In h₀) (N : News h₀ L s.heap ((e, excO 52 none t) :: news)) (hne : ∀ p ∈ news, p.1 ≠ e) (hrest : rest.length ≤ sizeLine)
    (hq : ∀ t' h', Fr h₀ L h' m → News h₀ L h' ((e, excO 52 none t') :: news) → Q .none { s with heap := h' }) :
    wpAny (model prog w) A (call (.builtin "Exception.__init__") (.ref e :: rest)) Q E s := by
  obtain ⟨h, g, d, tk, os⟩ := s
  have X := X₀.keeps F.keep
  have hC := X _ _ (wf_K P)
  have he := (N _ (.head _)).1
  have FF := PySem.F.excBase_Exception
  have hcB := wf_cB
  have hshort := FF.noStar
  refine wpAny_call (codeAny_call_builtin FF.init.plain FF.initEntry ?_)
  simp only [checkBuiltinCall, FF.initKind, FF.initSplit, FF.initRow]
  repeat (first | (with_reducible refine wpAny_loadPart_at he ?_) | with_reducible refine wpAny_loadPart_at hC ?_ | (with_reducible refine wpAny_isSubtype_exc hC ?_; rw [hcB]) | with_reducible refine PySem.wpAny_mkStr' ?_ (by decide +kernel) | wp_step)
  refine wpAny_onRaise ?_
  rw [show ∀ (a b : String) (n : Nat), Bind.check ⟨.positional, "*", "Exception", .self, [⟨"args", .varPos, false⟩]⟩ a b n (List.map (fun x => x.fst) ({ pos := Value.ref e :: rest } : Args).kw) = pure () from
    fun a b n => check_star_args _ _ _ _ _ _]
  refine wpAny_pure ?_
  wp_walk
  have F1 := F.push { cls := .type "tuple", data := .seq rest.toArray }
  have N1 : News h₀ L (h.push { cls := .type "tuple", data := .seq rest.toArray }) ((e, excO 52 none t) :: news) := fun q hq => ⟨Heap.get?_push_of_some _ (N q hq).1, (N q hq).2⟩
  obtain ⟨U1, U2⟩ := news_upd (f := Obj.mapFields (·.setIfInBounds 0 (.ref h.objs.size))) (pre := []) (o' := excO 52 none h.objs.size) F1 N1 (fun q hq => nomatch hq) hne rfl rfl
  exact hq _ _ U1 U2
end
section
variable {w : World} {loose : List Str} {mean : ExcName → Option Value} {mg mb : Str → Option Value} {dp un : Nat} {gd : Option (List Code)} {cn : Str} {cs : Scope} {a : Addr} {ccd : Value} {cl : List (Str × Addr)} {outer : List Env} {A₀ : Around} {base h₀ : Heap} {L : Addr} {m : Str → Option Value} {s : Shared} {Q E : Value → Shared → Prop} {news : List (Addr × Obj)} {p : Program}
variable (B : Below A₀ base outer h₀) (F : Fr h₀ L s.heap m) (X : (K w.params).In h₀) (N : News h₀ L s.heap news) (T : Top p loose mean mg mb h₀) (hk : cs.kind = .function)
include B F X N T hk
theorem wordfault_c (hd : dp + 45 < recursionLimit) (hu : un + 180 < cLine) {x : Str} {i : Int} {t1 t2 : Tok}
    (ret : ∀ e dx te k1 k2 v1 v2 h' tk', Fr h₀ L h' m → News h₀ L h' ((dx, dictOf [⟨PyData.keyHash w.params (Str.ofString "what"), .str (Str.ofString "what") k1, .str x v1⟩, ⟨PyData.keyHash w.params (Str.ofString "at"), .str (Str.ofString "at") k2, .int i v2⟩] 2) :: (e, excO 52 (some dx) te) :: news) → (∀ p ∈ (e, excO 52 (some dx) te) :: news, p.1 ≠ dx) → Q (.ref e) { s with heap := h', toks := tk' }) :
    wpAny (model PW w) (ktrTop dp un gd cn cs L a ccd cl outer) (call (.ref 52) [.str x t1, .int i t2]) Q E s := by
  refine wf_call F X N (by simp [sizeLine_eq]) ?_
  intro e te h3 F3 N3 l3
  refine wpAny_call ?_
  k_dflt (k_extra "!cellI")
  k_steps
  (with_reducible refine method_type (by k_dflt k_asm) (by k_dflt k_asm) (by k_dflt (exact meta_Exception)) (by decide +kernel) (by k_dflt k_is) (by k_dflt k_handed) ?_)
  k_steps
  have hne : ∀ p ∈ news, p.1 ≠ e := fun p hp => Nat.ne_of_lt (l3 p hp)
  refine exc_init (by k_asm) (by k_asm) (by k_asm) hne (by simp [sizeLine_eq]) ?_
  intro t' h5 F5 N5
  have hS6 : StopM 6 := .mk
  k_steps
  all_goals (try unfold Stop)
  refine exc_set1 (by k_asm) (by k_asm) (by k_asm) hne (by k_is) (by k_is) ?_
  intro dx k1 h6 F6 N6 hn6
  have hS6 : StopM 6 := .mk
  k_steps
  all_goals (try unfold Stop)
  refine exc_set2 (by k_asm) (by k_asm) (by k_asm) hn6 (by k_is) (by k_is) (by k_get) (by k_put) (by simp) ?_
  intro h7 F7 N7
  k_steps
  exact ret _ _ _ _ _ _ _ _ _ (by k_asm) (by k_asm) hn6
end

-- part fly
section
variable {M : Model} {A : Around} {E : Value → Shared → Prop} {s : Shared} {P : Obj → Prop} {base : Heap} {env : Env} {outer : List Env} {L e : Addr}
/-- an exception on its way, its traceback begun; P: what stays of its object -/
def TrP (h base : Heap) (e : Addr) (P : Obj → Prop) (fl : Value) : Prop :=
  ∃ oe vs T oT ts, h.get? e = some oe ∧ P oe ∧ oe.data = .fields vs ∧ vs[1]? = some (.ref T) ∧ base.get? T = none ∧ T ≠ e ∧ h.get? T = some oT ∧ oT.data = .fields ts ∧ ts[3]? = some fl
def NtP (base : Heap) (l : List Env) (e : Addr) (P : Obj → Prop) (fl : Value) (h h' : Heap) : Prop :=
  base.StaysIn h' ∧ h'.FunFrames base l ∧ TrP h' base e P fl ∧ h.UpToSlots h'
def FlyP (base : Heap) (l : List Env) (e : Addr) (P : Obj → Prop) (fl : Value) (h : Heap) : Prop := base.StaysIn h ∧ base.get? e = none ∧ h.FunFrames base l ∧ TrP h base e P fl
theorem entryP {oe : Obj} {vs : Array Value} {head : Value} {hadNext : Bool} {Q : Unit → Shared → Prop} (hP : ∀ o f, P o → P (Obj.mapFields f o))
    (hfr : A.frames = some (env :: outer)) (hl : s.heap.FunFrames base (env :: outer)) (hf : env.frame = some L)
    (he : s.heap.get? e = some oe) (hkb : base.StaysIn s.heap) (hen : base.get? e = none) (hd : oe.data = .fields vs) (hsz : 1 < vs.size) (h0 : P oe)
    (h : ∀ h', NtP base (env :: outer) e P (rawInt L) s.heap h' → Q () { s with heap := h' }) :
    wpAny M A (do let a ← frameOf env; let pl ← entryPlaceOf L hadNext; let b ← EntryCells.newEntry head a .none (rawInt L) .none pl; setField (.ref e) 1 b) Q E s := by
  have hene : e ∉ (env :: outer).filterMap (·.frame) := fun hm => by
    obtain ⟨_, o, ho, hnf⟩ := hl.mem hm
    rw [he] at ho; injection ho with ho; subst ho; exact hnf vs hd
  refine wpAny_bind (wpAny_frameOf_fun hfr hl hf fun h₁ hs₁ => ?_)
  refine wpAny_bind (wpAny_entryPlaceOf fun pl hpl => ?_)
  unfold EntryCells.newEntry newFields
  refine wpAny_bind (wpAny_newObj_type ?_ (hpl.sizeOk5 _ _ _ _ _))
  have he₁ : h₁.get? e = some oe := (hs₁.2.1 e hene).trans he
  have kb₁ : base.StaysIn h₁ := fun b o hbo => (hs₁.2.1 b fun hm => by rw [(hl.mem hm).1] at hbo; cases hbo).trans (hkb b o hbo)
  have he₂ := Heap.get?_push_of_some (h := h₁) { cls := .type "traceback", dict := none, data := .fields ([head, .ref L, .none, rawInt L, .none] ++ (if pl.isEmpty then List.replicate 6 Value.none else pl)).toArray } he₁
  refine wpAny_setField he₂ hd hsz (h _ ?_)
  have hTe : h₁.objs.size ≠ e := Nat.ne_of_gt (Heap.lt_size he₁)
  have hd₃ := Obj.data_mapFields hd (·.setIfInBounds 1 (Value.ref h₁.objs.size))
  have he₃ := Heap.get?_update_self (Obj.mapFields (·.setIfInBounds 1 (Value.ref h₁.objs.size))) he₂ (Obj.isFreed_of_fields hd₃)
  have hT₃ := (Heap.get?_update_other (h₁.push { cls := .type "traceback", dict := none, data := .fields ([head, .ref L, .none, rawInt L, .none] ++ (if pl.isEmpty then List.replicate 6 Value.none else pl)).toArray })
    (Obj.mapFields (·.setIfInBounds 1 (Value.ref h₁.objs.size))) (Ne.symm hTe)).trans (Heap.get?_push_size h₁ rfl)
  have keep : ∀ b o, b ≠ e → h₁.get? b = some o →
      ((h₁.push { cls := .type "traceback", dict := none, data := .fields ([head, .ref L, .none, rawInt L, .none] ++ (if pl.isEmpty then List.replicate 6 Value.none else pl)).toArray }).update e (Obj.mapFields (·.setIfInBounds 1 (Value.ref h₁.objs.size)))).get? b = some o :=
    fun b o hbe hb => by
      rw [Heap.get?_update_other _ _ (Ne.symm hbe)]
      exact Heap.get?_push_of_some _ hb
  have noRecord : ∀ b o, s.heap.get? b = some o → (∀ vs, o.data ≠ .fields vs) → b ≠ e := fun b o hb hnf q => by
    rw [q, he] at hb; injection hb with hb; subst hb; exact hnf vs hd
  refine ⟨fun b o hbo => keep b o (fun q => by rw [q, hen] at hbo; cases hbo) (kb₁ b o hbo), hl.of_keeps fun b o hb hnf => ?_, ?_, fun b o hb hnf => ?_⟩
  · obtain ⟨sl, hs⟩ := hs₁.2.2 b o hb
    exact ⟨_, keep b _ (noRecord b o hb hnf) hs, rfl⟩
  · exact ⟨_, _, h₁.objs.size, _, _, he₃, hP _ _ h0, hd₃, by simp [hsz], kb₁.fresh, hTe, hT₃, rfl, by first | (simp; done) | (rcases hpl with rfl | ⟨_, _, _, _, _, _, _, rfl⟩ <;> simp)⟩
  · obtain ⟨sl, hs⟩ := hs₁.2.2 b o hb
    exact ⟨sl, keep b _ (noRecord b o hb hnf) hs⟩
theorem setFlightP {fl : Value} {l : List Env} {Q : Unit → Shared → Prop} (hfl : FlyP base l e P fl s.heap)
    (h : ∀ h', FlyP base l e P .none h' → s.heap.UpToSlots h' → Q () { s with heap := h' }) : wpAny M A (setFlight (.ref e) none) Q E s := by
  obtain ⟨hkb, hen, hl, oe, vs, T, oT, ts, he, hcls, hd, h1, hnT, hTe, hT, hdT, h3⟩ := hfl
  have hsz3 : 3 < ts.size := (Array.getElem?_eq_some_iff.mp h3).1
  have other : ∀ b, b ≠ T → (s.heap.update T (Obj.mapFields (·.setIfInBounds 3 ((none : Option Addr).elim Value.none fun f => rawInt f)))).get? b = s.heap.get? b :=
    fun b hb => Heap.get?_update_other _ _ (Ne.symm hb)
  have noRecord : ∀ b o, s.heap.get? b = some o → (∀ vs, o.data ≠ .fields vs) → b ≠ T := fun b o hb hnf q => by
    rw [q, hT] at hb; injection hb with hb; subst hb; exact hnf ts hdT
  unfold setFlight
  refine wpAny_bind (wpAny_field he hd h1 ?_)
  rw [if_pos (show (Value.ref T != Value.none) = true from by simp)]
  refine wpAny_setField hT hdT hsz3 (h _ ⟨fun b o hbo => (other b fun q => by rw [q, hnT] at hbo; cases hbo).trans (hkb b o hbo), hen,
    hl.of_keeps fun b o hb hnf => ⟨o, (other b (noRecord b o hb hnf)).trans hb, rfl⟩, ?_⟩ fun b o hb hnf => ⟨o.slots, (other b (noRecord b o hb hnf)).trans hb⟩)
  exact ⟨oe, vs, T, _, _, (other e (Ne.symm hTe)).trans he, hcls, hd, h1, hnT, hTe, Heap.get?_update_self _ hT (Obj.isFreed_of_fields (Obj.data_mapFields hdT _)), Obj.data_mapFields hdT _, by simp [hsz3]⟩
/-- the first frame that it leaves, or meets -/
theorem noteP1 {oe : Obj} {vs : Array Value} {Q : Unit → Shared → Prop} (hP : ∀ o f, P o → P (Obj.mapFields f o))
    (hfr : A.frames = some (env :: outer)) (hl : s.heap.FunFrames base (env :: outer)) (hf : env.frame = some L)
    (he : s.heap.get? e = some oe) (hkb : base.StaysIn s.heap) (hen : base.get? e = none) (hd : oe.data = .fields vs) (h1 : vs[1]? = some .none) (h0 : P oe)
    (h : ∀ h', FlyP base (env :: outer) e P (rawInt L) h' → s.heap.UpToSlots h' → Q () { s with heap := h' }) : wpAny M A (noteFrame (.ref e) env) Q E s := by
  unfold noteFrame
  simp only [hf]
  refine wpAny_bind (wpAny_field he hd h1 ?_)
  rw [if_neg (by decide)]
  exact entryP hP hfr hl hf he hkb hen hd (Array.getElem?_eq_some_iff.mp h1).1 h0 fun h' ⟨a, b, c, d⟩ => h h' ⟨a, hen, b, c⟩ d
theorem noteP2 {Q : Unit → Shared → Prop} (hP : ∀ o f, P o → P (Obj.mapFields f o))
    (hfr : A.frames = some (env :: outer)) (hf : env.frame = some L) (hfl : FlyP base (env :: outer) e P .none s.heap)
    (h : ∀ h', FlyP base (env :: outer) e P (rawInt L) h' → s.heap.UpToSlots h' → Q () { s with heap := h' }) : wpAny M A (noteFrame (.ref e) env) Q E s := by
  obtain ⟨hkb, hen, hl, oe, vs, T, oT, ts, he, h0, hd, h1, hnT, hTe, hT, hdT, h3⟩ := hfl
  unfold noteFrame
  simp only [hf]
  refine wpAny_bind (wpAny_field he hd h1 ?_)
  rw [if_pos (show (Value.ref T != Value.none) = true from by simp)]
  refine wpAny_bind (wpAny_field hT hdT h3 ?_)
  rw [if_neg (show ¬ ((Value.none == rawInt L) = true) from by simp [rawInt])]
  refine wpAny_bind (wpAny_setField hT hdT (Array.getElem?_eq_some_iff.mp h3).1 ?_)
  have other : ∀ b, b ≠ T → (s.heap.update T (Obj.mapFields (·.setIfInBounds 3 Value.none))).get? b = s.heap.get? b := fun b hb => Heap.get?_update_other _ _ (Ne.symm hb)
  have noRecord : ∀ b o, s.heap.get? b = some o → (∀ vs, o.data ≠ .fields vs) → b ≠ T := fun b o hb hnf q => by
    rw [q, hT] at hb; injection hb with hb; subst hb; exact hnf ts hdT
  refine entryP hP hfr (hl.of_keeps fun b o hb hnf => ⟨o, (other b (noRecord b o hb hnf)).trans hb, rfl⟩) hf ((other e (Ne.symm hTe)).trans he)
    (fun b o hbo => (other b fun q => by rw [q, hnT] at hbo; cases hbo).trans (hkb b o hbo)) hen hd (Array.getElem?_eq_some_iff.mp h1).1 h0
    fun h' ⟨x1, x2, x3, x4⟩ => h h' ⟨x1, hen, x2, x3⟩ fun b o hb hnf => x4 b o ((other b (noRecord b o hb hnf)).trans hb) hnf
theorem FlyP.out {base : Heap} {h : Heap} {fl : Value} (x : FlyP base (env :: outer) e P fl h) : FlyP base outer e P fl h := by
  obtain ⟨a, b, ⟨_, _, c⟩, d⟩ := x
  exact ⟨a, b, c, d⟩
end
abbrev PWf (dx : Addr) : Obj → Prop := fun o => o.cls = .ref 52 ∧ o.dict = some dx
theorem PWf.keeps {dx : Addr} (o : Obj) (f : Array Value → Array Value) (h : PWf dx o) : PWf dx (Obj.mapFields f o) := by
  refine ⟨(Obj.cls_mapFields _ _).trans h.1, ?_⟩
  obtain ⟨c, d, dt, sl⟩ := o
  cases dt <;> exact h.2
/-- a WordFault on its way through the frames -/
def RaisedD (base : Heap) (l : List Env) (e dx : Addr) (od : Obj) (h : Heap) : Prop :=
  ∃ B, base.StaysIn B ∧ B.get? dx = some od ∧ base.get? dx = none ∧ FlyP B l e (PWf dx) .none h
section
variable {M : Model} {A : Around} {E : Value → Shared → Prop} {s' : Shared} {base g g₂ h : Heap} {outer : List Env} {L a e t dx : Addr} {m : Str → Option Value} {name : Str} {scope : Scope} {cd : Value} {Q : Unit → Shared → Prop} {news : List (Addr × Obj)} {od : Obj}
theorem leave1 (K : Below A base outer g) (F : Fr g L s'.heap m) (N : News g L s'.heap news) (he : (e, excO 52 (some dx) t) ∈ news) (hdx : (dx, od) ∈ news) (hed : dx ≠ e)
    (hQ : ∀ h', RaisedD base outer e dx od h' → g.UpToSlots h' → Q () { s' with heap := h' }) (hk : scope.kind = .function := by rfl) :
    wpAny M (A.deeper (envOf name scope L a cd)) (leaving (envOf name scope L a cd) (.ref e)) Q E s' := by
  have K' := K.push (name := name) (a := a) (cd := cd) F hk
  have hin : ∀ env ∈ (envOf name scope L a cd :: outer), ∀ b, env.frame = some b → b ∈ e :: (envOf name scope L a cd :: outer).filterMap (·.frame) := fun env he b hb => .tail _ (List.mem_filterMap.mpr ⟨env, he, hb⟩)
  have fe := fresh_of_stays K.stays (N _ he).2.2
  have fd := fresh_of_stays K.stays (N _ hdx).2.2
  have notfr : ∀ q ∈ news, q.1 ∉ (envOf name scope L a cd :: outer).filterMap (·.frame) := fun q hq hm => by
    obtain ⟨env, he, hf⟩ := List.mem_filterMap.mp hm
    rcases List.mem_cons.mp he with rfl | he
    · exact (N q hq).2.1 (Option.some.inj hf).symm
    · obtain ⟨o, ho, _⟩ := (K.frames.mem (List.mem_filterMap.mpr ⟨env, he, hf⟩)).2
      rw [(N q hq).2.2] at ho; cases ho
  have st : base.StaysIn (hideAll s'.heap (e :: (envOf name scope L a cd :: outer).filterMap (·.frame))) := fun b o q => hideAll_get _ (K'.stays b o q) fun hm => by
    rcases List.mem_cons.mp hm with rfl | hm
    · rw [fe] at q; cases q
    · rw [(K'.frames.mem hm).1] at q; cases q
  have hB : (hideAll s'.heap (e :: (envOf name scope L a cd :: outer).filterMap (·.frame))).get? dx = some od := hideAll_get _ (N _ hdx).1 fun hm => by
    rcases List.mem_cons.mp hm with h | hm
    · exact hed h
    · exact notfr _ hdx hm
  unfold leaving
  refine wpAny_bind (noteP1 PWf.keeps K'.stack (funFrames_hide K'.frames hin) rfl (N _ he).1 (fun b o q => of_hideAll _ q) (hideAll_none _ (.head _)) rfl rfl ⟨rfl, rfl⟩ fun h1 f1 u1 => ?_)
  exact setFlightP f1 fun h2 f2 u2 => hQ h2 ⟨_, st, hB, fd, f2.out⟩ (((Heap.UpToSlots.of_keeps F.keep).trans u1).trans u2)
theorem leave2 (K : Below A base outer g) (F : Fr g L g₂ m) (R : RaisedD base (envOf name scope L a cd :: outer) e dx od s'.heap) (hsm : g₂.UpToSlots s'.heap)
    (hQ : ∀ h', RaisedD base outer e dx od h' → g.UpToSlots h' → Q () { s' with heap := h' }) :
    wpAny M (A.deeper (envOf name scope L a cd)) (leaving (envOf name scope L a cd) (.ref e)) Q E s' := by
  obtain ⟨B, hB, hd, hn, hfl⟩ := R
  unfold leaving
  refine wpAny_bind (noteP2 PWf.keeps (Around.frames_deeper K.stack) rfl hfl fun h1 f1 u1 => ?_)
  exact setFlightP f1 fun h2 f2 u2 => hQ h2 ⟨B, hB, hd, hn, f2.out⟩ ((((Heap.UpToSlots.of_keeps F.keep).trans hsm).trans u1).trans u2)
end
theorem FlyP.base {base B h : Heap} {l : List Env} {e : Addr} {P : Obj → Prop} {fl : Value} (k : base.StaysIn B) (x : FlyP B l e P fl h) : FlyP base l e P fl h := by
  obtain ⟨f1, f2, f3, oe, vs, T, oT, ts, a1, a2, a3, a4, a5, a6⟩ := x
  exact ⟨fun b o q => f1 b o (k b o q), fresh_of_stays k f2, funFrames_base k f3, oe, vs, T, oT, ts, a1, a2, a3, a4, fresh_of_stays k a5, a6⟩
section
variable {prog : Program} {w : World} {A₀ : Around} {E : Value → Shared → Prop} {s' : Shared} {h₀ h : Heap} {outer : List Env} {L a e t dx : Addr} {m : Str → Option Value} {name : Str} {scope : Scope} {cd : Value}
  {n : Str} {b₀ : Stmt} {suite : List Stmt} {pos np : Pos} {rest : List ExceptHandler} {Q : Flow → Shared → Prop} {od : Obj} {P : Params}
  {p : Program} {loose : List Str} {mean : ExcName → Option Value} {mg mb : Str → Option Value} {x : Str}
end

-- part rdt
section
variable {prog : Program} {w : World} {A : Around} {E : Value → Shared → Prop} {s : Shared} {h₀ : Heap} {L : Addr} {m : Str → Option Value} {news : List (Addr × Obj)}
theorem sliceApplied_2 {sl : Addr} {u : Tok} {Q : Int × Int × Nat → Shared → Prop} (hs : s.heap.IsSliceOf sl .none (.int 2 u) .none) (h : Q (0, 1, 2) s) :
    wpAny (model prog w) A (Builtin.Slice.sliceApplied (.ref sl) (pure (3 : Int))) Q E s := by
  obtain ⟨os, hos, hcs, hds⟩ := id hs
  unfold Builtin.Slice.sliceApplied Builtin.Slice.sliceFields
  refine wpAny_bind (wpAny_bind (wpAny_field hos hds (x := .none) rfl (wpAny_bind (wpAny_field hos hds (x := .int 2 u) rfl (wpAny_bind (wpAny_field hos hds (x := .none) rfl (wpAny_pure ?_)))))))
  refine wpAny_bind (slicePart_none ?_)
  show wpAny _ _ (if ((1 : Int) == 0) = true then _ else _) _ _ s
  rw [if_neg (by decide)]
  refine wpAny_bind (slicePart_none (wpAny_bind (slicePart_int (wpAny_bind (wpAny_pure ?_)))))
  have e1 : Builtin.Slice.sliceAdjust none (some 2) 1 3 = (0, 2) := by decide +kernel
  have e2 : Builtin.Slice.slicePlaces 0 2 1 = 2 := by decide +kernel
  show wpAny _ _ (match Builtin.Slice.sliceAdjust none (some 2) 1 3 with | (lo, hi) => pure (lo, (1 : Int), Builtin.Slice.slicePlaces lo hi 1)) _ _ s
  rw [e1]
  show wpAny _ _ (pure ((0 : Int), (1 : Int), Builtin.Slice.slicePlaces 0 2 1)) _ _ s
  rw [e2]
  exact wpAny_pure h
theorem slice_2 {value slice : Expr} {t : Addr} {x y z : Value} {u : Tok} {Q : Value → Shared → Prop}
    (F : Fr h₀ L s.heap m) (N : News h₀ L s.heap news) (ht : IsTup s.heap t #[x, y, z])
    (h : ∀ D h', Fr h₀ L h' m → News h₀ L h' ((D, { cls := .type "tuple", data := .seq #[x, y] }) :: news) → (∀ p ∈ news, p.1 < D) → Q (.ref D) { s with heap := h' })
    (hs : subscripted slice false (.ref t) (.ref s.heap.objs.size) = operate [.ref s.heap.objs.size, .ref t] (getItem (.ref t) (.ref s.heap.objs.size)))
    (hg : ∀ r, letTemporaryGo value (.ref t) r = pure ()) :
    wpAny (model prog w) A (subscriptTail value slice (.ref t) (.ref s.heap.objs.size)) Q E { s with heap := s.heap.push { cls := .type "slice", data := .fields #[.none, .int 2 u, .none] } } := by
  have ht' : IsTup (s.heap.push { cls := .type "slice", data := .fields #[.none, .int 2 u, .none] }) t #[x, y, z] := ht.keeps fun _ _ e => Heap.get?_push_of_some _ e
  have hsl : (s.heap.push { cls := .type "slice", data := .fields #[.none, .int 2 u, .none] }).IsSliceOf s.heap.objs.size .none (.int 2 u) .none := Heap.IsSliceOf.new ..
  obtain ⟨os, hos, hcs, hds⟩ := id hsl
  refine subscriptTail_ops (s := { s with heap := s.heap.push { cls := .type "slice", data := .fields #[.none, .int 2 u, .none] } }) ht'.typeIs slot_tuple_getitem.lookup ?_ hs hg
  have hTs : Shared.TypeIs { s with heap := s.heap.push { cls := .type "slice", data := .fields #[.none, .int 2 u, .none] } } (.ref s.heap.objs.size) "slice" := ⟨os, hos, hcs⟩
  unfold getItem
  try with_reducible refine wpAny_holding ?_
  first | refine wpAny_bind (wpAny_pure ?_) | skip
  refine wpAny_bind (wpAny_sequenceKey ht'.typeIs (by decide) ?_)
  refine wpAny_bind (wpAny_callSpecial?_slot (name := Str.ofString "__getitem__") ht'.typeIs slot_tuple_getitem
    (wpAny_call_entry slot_tuple_getitem ht'.typeIs entry_tuple_getitem ?_ (args_tuple_getitem _ _)))
  show wpAny _ _ (Builtin.Tuple.tupleItemsOf (.ref t) >>= _) _ _ _
  refine wpAny_bind (tupleItemsOf_ ht' ?_)
  refine wpAny_bind (wpAny_typeOf hTs ?_)
  rw [if_pos (by decide)]
  refine wpAny_bind (sliceApplied_2 hsl ?_)
  show wpAny _ _ (if ((0 : Int) == 0 && (1 : Int) == 1 && (2 : Nat) == 3) = true then _ else _) _ _ _
  rw [if_neg (by decide)]
  have N1 := News.push (F.push { cls := .type "slice", data := .fields #[.none, .int 2 u, .none] }) (N.grown fun _ _ e => Heap.get?_push_of_some _ e) { cls := .type "tuple", data := .seq #[x, y] }
  have q := h _ _ ((F.push _).push _) N1 fun p hp => by rw [Heap.size_push]; exact Nat.lt_succ_of_lt (Heap.lt_size (N p hp).1)
  first
    | exact wpAny_bind (m := Builtin.Tuple.tupleExact _) (wpAny_newObj_type (wpAny_pure ⟨_, rfl, wpAny_pure q⟩) (by show (2 : Nat) ≤ sizeLine; rw [sizeLine_eq]; decide))
    | exact wpAny_bind (m := Builtin.Tuple.tupleExact _) (wpAny_newObj_type (wpAny_bind (wpAny_pure (wpAny_pure ⟨_, rfl, wpAny_pure q⟩))) (by show (2 : Nat) ≤ sizeLine; rw [sizeLine_eq]; decide))
    | exact wpAny_bind (wpAny_bind (m := Builtin.Tuple.tupleExact _) (wpAny_newObj_type (wpAny_pure (wpAny_pure ⟨_, rfl, wpAny_pure q⟩)) (by show (2 : Nat) ≤ sizeLine; rw [sizeLine_eq]; decide)))
    | exact wpAny_bind (wpAny_bind (m := Builtin.Tuple.tupleExact _) (wpAny_newObj_type (wpAny_pure ⟨_, rfl, wpAny_pure q⟩) (by show (2 : Nat) ≤ sizeLine; rw [sizeLine_eq]; decide)))
end
theorem ne_sb {prog : Program} {w : World} {A : Around} {E : Value → Shared → Prop} {s : Shared} {Q : Value → Shared → Prop} {l1 l2 : Addr} {a : Str} {b : Array UInt8} {t u t' u' : Tok} (h1 : s.heap.IsTuple l1 #[.str a t, .bytes b u]) (h2 : s.heap.IsTuple l2 #[.str a t', .bytes b u']) (hu : A.units < cLine)
    (h : Q (.bool false) s) : wpAny (model prog w) A (compareOp .NotEq (.ref l1) (.ref l2)) Q E s := by
  refine EqBoolInt.of_rcne (SeqAt.RcNeAt.tuples (e := fun _ => true) h1 h2 hu fun j g1 g2 => ?_) h
  have : j = 0 ∨ j = 1 := by
    have : j < 2 := g1
    omega
  rcases this with rfl | rfl
  · have := (SeqRoads2.EqGives.str a a t t').at A.in1 s
    rw [beq_self_eq_true] at this
    exact this
  · intro prog w E Q hq
    exact eqBool_bytes (by simpa using hq)
theorem News.isTuple {h₀ h : Heap} {L t : Addr} {news : List (Addr × Obj)} {its : Array Value} {n : Nat} (N : News h₀ L h news) (hm : (t, ({ cls := .type "tuple", data := .seq its n } : Obj)) ∈ news) : h.IsTuple t its := ⟨_, (N _ hm).1, rfl, n, rfl⟩
theorem hk_wdc98e0fa : True := by
  (k_with "!compareOp NotEq ref ref" => (k_here; k_dflt (refine ne_sb (News.isTuple (by k_asm) (by k_mem)) (News.isTuple (by k_asm) (by k_mem)) (by units_room) ?_)))
  trivial

-- part rds
section
variable {w : World} {loose : List Str} {mean : ExcName → Option Value} {mg mb : Str → Option Value} {dp un : Nat} {gd : Option (List Code)} {cn : Str} {cs : Scope} {a : Addr} {ccd : Value} {cl : List (Str × Addr)} {outer : List Env} {A₀ : Around} {base h₀ : Heap} {L : Addr} {m : Str → Option Value} {s : Shared} {Q E : Value → Shared → Prop} {p : Program} {bs : List (Addr × Obj)} {r rd T9 : Addr} {l : List Tk} {ws : List Value} {i n : Nat} {k1 k2 k3 v2 v3 : Tok}
variable (B : Below A₀ base outer h₀) (F : Fr h₀ L s.heap m) (X : (K w.params).In h₀) (N : News h₀ L s.heap ((r, instObj 313 rd) :: (rd, rdD w.params T9 (i : Nat) (n : Nat) k1 k2 k3 v2 v3) :: bs)) (T : Top p loose mean mg mb h₀) (hk : cs.kind = .function)
include B F X N T hk
theorem skip_c (hd : dp + 15 < recursionLimit) (hu : un + 60 < cLine) {t : Tok} {pl : Nat} (R : RS bs r rd T9 l ws) (hk1 : l[i]? = some (Str.ofString "sign", some [58], pl))
    (ret : ∀ v2 h' tk', Fr h₀ L h' m → News h₀ L h' ((r, instObj 313 rd) :: (rd, rdD w.params T9 ((i + 1 : Nat) : Int) n k1 k2 k3 v2 v3) :: bs) → Q (.bool true) { s with heap := h', toks := tk' }) :
    wpAny (model PW w) (ktrTop dp un gd cn cs L a ccd cl outer) (call (.ref 296) [.ref r, .bytes #[58] t]) Q E s := by
  have hT := R.tup
  have hw := R.small
  have hoff := R.off
  have hne := R.ne
  have hlt : i < ws.length := by rw [← R.each.len]; exact (List.getElem?_eq_some_iff.mp hk1).1
  obtain ⟨k, hk2, z, y, t1, t2, t3, hv, hm, hl⟩ := R.each.get (List.getElem?_eq_getElem hlt)
  rw [hk1] at hk2
  cases hk2
  have hx : ws[((i : Nat) : Int).toNat]? = some (.ref z) := by rw [← hv]; exact List.getElem?_eq_getElem hlt
  have hy : y = #[58] := Array.toList_inj.mp (hl _ rfl)
  subst hy
  dsimp only at hm
  k_dflt cell_enter
  have hS1 : StopM 1 := .mk
  k_steps
  all_goals (try unfold Stop)
  k_dflt (refine slice_2 (s := ⟨_, _, _, _, _⟩) (by k_asm) (by k_asm) (News.isTup (by k_asm) (by k_extra "!bsm")) ?_ (by with_unfolding_all rfl) (by kmk_pure))
  intro D8 h8 F8 N8 l8
  k_lt l8
  k_steps
  exact ret _ _ _ (by k_asm) (News.tl (News.tl (by k_asm)))
theorem hk_skip_c : True := by
  (k_with "mc" => (k_here; (with_reducible show wpAny _ _ (call (Value.ref 296) _) _ _ _); k_dflt (refine skip_c (by k_asm) (by k_asm) (by k_asm) (by k_extra "!nwN") (by k_asm) (by k_extra "!pre fn") (by ktr_room) (by ktr_units) (by k_extra "!pre mem") (by k_extra "!pre mem") ?_); k_whole; intro v9 h9 tk9 F9 N9; (try k_sweep); (try dsimp only)))
  trivial
theorem need_c (hd : dp + 15 < recursionLimit) (hu : un + 60 < cLine) {x : Str} {t : Tok} {bv : Bool} (R : RS bs r rd T9 l ws) (hi : i ≤ ws.length) (hb : bv = true)
    (ret : ∀ v2 h' tk', Fr h₀ L h' m → News h₀ L h' ((r, instObj 313 rd) :: (rd, rdD w.params T9 ((i + 1 : Nat) : Int) n k1 k2 k3 v2 v3) :: bs) → Q .none { s with heap := h', toks := tk' }) :
    wpAny (model PW w) (ktrTop dp un gd cn cs L a ccd cl outer) (call (.ref 310) [.ref r, .bool bv, .str x t]) Q E s := by
  subst hb
  have hoff := R.off
  have hne := R.ne
  have hw := R.small
  k_dflt cell_enter
  k_steps
  exact ret _ _ _ (by k_asm) (by k_asm)
theorem hk_need_c : True := by
  (k_with "mc" => (k_here; (with_reducible show wpAny _ _ (call (Value.ref 310) _) _ _ _); k_dflt (refine need_c (by k_asm) (by k_asm) (by k_asm) (by k_extra "!nwN") (by k_asm) (by k_extra "!pre fn") (by ktr_room) (by ktr_units) (by k_extra "!pre mem") (by k_extra "!pre") (by k_extra "!pre") ?_); k_whole; intro v9 h9 tk9 F9 N9; (try k_sweep); (try dsimp only)))
  trivial
theorem need_f (hd : dp + 60 < recursionLimit) (hu : un + 240 < cLine) {x : Str} {t : Tok} (R : RS bs r rd T9 l ws) (hi : i ≤ ws.length) (hn : n < 100000)
    (bad : ∀ e dx a1 b1 a2 b2 g h' tk', RaisedD base (envX cn cs L a ccd cl :: outer) e dx (wfD w.params x (placeAt l n i : Nat) a1 b1 a2 b2) h' → Fr h₀ L g m → g.UpToSlots h' → E (.ref e) { s with heap := h', toks := tk' }) :
    wpAny (model PW w) (ktrTop dp un gd cn cs L a ccd cl outer) (call (.ref 310) [.ref r, .bool false, .str x t]) Q E s := by
  have hoff := R.off
  have hne := R.ne
  have hw := R.small
  k_dflt cell_enter
  have hS52 : StopM 52 := .mk
  k_steps
  all_goals (try unfold Stop)
  k_dflt (refine wordfault_c (by k_asm) (by k_asm) (by k_asm) (by k_asm) (by k_asm) (by k_extra "!pre fn") (by ktr_room) (by ktr_units) ?_)
  intro e9 dx9 te9 a1 a2 b1 b2 h9 tk9 F9 N9 n9
  refine ⟨e9, _, rfl, (Frag.In.keeps (by assumption) F9.keep) _ _ (wf_K _), (N9 _ (.tail _ (.head _))).1, rfl, ⟨te9, rfl⟩, ?_⟩
  refine leave1 (by assumption) F9 N9 (.tail _ (.head _)) (.head _) (fun h => n9 _ (.head _) h.symm) ?_
  intro h8 R8 u8
  exact bad _ _ _ _ _ _ _ _ _ R8 (by assumption) u8
end

-- part rdn
theorem tx_len (b : List UInt8) : (txB b).length = b.length := by simp [txB, tx, Str.length]
theorem tx_list (b : List UInt8) : (txB b).cps.toList = b.map (·.toNat) := by simp [txB, tx]
def numB (b : List UInt8) : Nat := NumText.digitsVal (b.map (·.toNat))
section
variable {w : World} {loose : List Str} {mean : ExcName → Option Value} {mg mb : Str → Option Value} {dp un : Nat} {gd : Option (List Code)} {cn : Str} {cs : Scope} {a : Addr} {ccd : Value} {cl : List (Str × Addr)} {outer : List Env} {A₀ : Around} {base h₀ : Heap} {L : Addr} {m : Str → Option Value} {s : Shared} {Q E : Value → Shared → Prop} {p : Program} {bs : List (Addr × Obj)} {r rd T9 : Addr} {l : List Tk} {ws : List Value} {i n : Nat} {k1 k2 k3 v2 v3 : Tok}
variable (B : Below A₀ base outer h₀) (F : Fr h₀ L s.heap m) (X : (K w.params).In h₀) (N : News h₀ L s.heap ((r, instObj 313 rd) :: (rd, rdD w.params T9 (i : Nat) (n : Nat) k1 k2 k3 v2 v3) :: bs)) (T : Top p loose mean mg mb h₀) (hk : cs.kind = .function)
include B F X N T hk
theorem number_c (hd : dp + 60 < recursionLimit) (hu : un + 240 < cLine) {la lb : Int} {t t' : Tok} (R : RS bs r rd T9 l ws) (hi : i ≤ ws.length) (hf : isFig ((atomB l i).map (·.toNat)) = true) (h1 : la ≤ (atomB l i).length) (h2 : ((atomB l i).length : Int) ≤ lb) (h3 : (atomB l i).length ≤ 4)
    (ret : ∀ x v2 t t' h' tk', Fr h₀ L h' m → News h₀ L h' ((x, { cls := .type "tuple", data := .seq #[.int (numB (atomB l i) : Nat) t, .int ((atomB l i).length : Nat) t'] }) :: (r, instObj 313 rd) :: (rd, rdD w.params T9 ((i + 1 : Nat) : Int) n k1 k2 k3 v2 v3) :: bs) → (r < x ∧ rd < x ∧ AllLt x bs) → Q (.ref x) { s with heap := h', toks := tk' }) :
    wpAny (model PW w) (ktrTop dp un gd cn cs L a ccd cl outer) (call (.ref 303) [.ref r, .int la t, .int lb t']) Q E s := by
  have hoff := R.off
  have hne := R.ne
  have hw := R.small
  have hl0 := tx_len (atomB l i)
  have hl1 := tx_list (atomB l i)
  have hf' : isFig (txB (atomB l i)).cps.toList = true := by rw [hl1]; exact hf
  have hlt : (txB (atomB l i)).length < 10000 := by omega
  have hi3 : PySem.intText? (txB (atomB l i)) = some ((numB (atomB l i) : Nat) : Int) := by
    have h9 := intText_digits (x := txB (atomB l i)) (isFig_all hf') (by intro e; rw [e] at hf'; exact absurd hf' (by decide)) (by omega)
    rw [hl1] at h9
    exact h9
  k_dflt cell_enter
  k_steps
  exact ret _ _ _ _ _ _ (by k_asm) (by rw [← hl0]; k_asm) (by assumption)
end
theorem hk_number_c : True := by
  (k_with "mc" => (k_here; (with_reducible show wpAny _ _ (call (Value.ref 303) _) _ _ _); k_dflt (refine number_c (by k_asm) (by k_asm) (by k_asm) (by k_extra "!nwN") (by k_asm) (by k_extra "!pre fn") (by ktr_room) (by ktr_units) (by k_extra "!pre mem") (by k_extra "!pre") (by k_extra "!pre") (by k_extra "!pre") (by k_extra "!pre") (by k_extra "!pre") ?_); k_whole; intro x9 v9 t9 t8 h9 tk9 F9 N9 l9; (try k_sweep); (try dsimp only)))
  trivial

-- part rck
structure Two (l : List Tk) (i : Nat) : Prop where
  fig : isFig ((atomB l i).map (·.toNat)) = true
  len : (atomB l i).length = 2
section
variable {w : World} {loose : List Str} {mean : ExcName → Option Value} {mg mb : Str → Option Value} {dp un : Nat} {gd : Option (List Code)} {cn : Str} {cs : Scope} {a : Addr} {ccd : Value} {cl : List (Str × Addr)} {outer : List Env} {A₀ : Around} {base h₀ : Heap} {L : Addr} {m : Str → Option Value} {s : Shared} {Q E : Value → Shared → Prop} {p : Program} {bs : List (Addr × Obj)} {r rd T9 : Addr} {l : List Tk} {ws : List Value} {i n : Nat} {k1 k2 k3 v2 v3 : Tok}
variable (B : Below A₀ base outer h₀) (F : Fr h₀ L s.heap m) (X : (K w.params).In h₀) (N : News h₀ L s.heap ((r, instObj 313 rd) :: (rd, rdD w.params T9 (i : Nat) (n : Nat) k1 k2 k3 v2 v3) :: bs)) (T : Top p loose mean mg mb h₀) (hk : cs.kind = .function)
include B F X N T hk
theorem read_clock_c (hd : dp + 90 < recursionLimit) (hu : un + 300 < cLine) {p1 p2 : Nat} (R : RS bs r rd T9 l ws) (hi : i + 5 ≤ ws.length) (A1 : Two l i) (A2 : Two l (i + 1 + 1)) (A3 : Two l (i + 1 + 1 + 1 + 1))
    (S1 : l[i + 1]? = some (Str.ofString "sign", some [58], p1)) (S2 : l[i + 1 + 1 + 1]? = some (Str.ofString "sign", some [58], p2))
    (ret : ∀ x v2 t1 t2 t3 h' tk', Fr h₀ L h' m → News h₀ L h' ((x, { cls := .type "tuple", data := .seq #[.int (numB (atomB l i) : Nat) t1, .int (numB (atomB l (i + 1 + 1)) : Nat) t2, .int (numB (atomB l (i + 1 + 1 + 1 + 1)) : Nat) t3] }) :: (r, instObj 313 rd) :: (rd, rdD w.params T9 ((i + 1 + 1 + 1 + 1 + 1 : Nat) : Int) n k1 k2 k3 v2 v3) :: bs) → (r < x ∧ rd < x ∧ AllLt x bs) → Q (.ref x) { s with heap := h', toks := tk' }) :
    wpAny (model PW w) (ktrTop dp un gd cn cs L a ccd cl outer) (call (.ref 331) [.ref r]) Q E s := by
  obtain ⟨f1, f2⟩ := A1
  obtain ⟨f3, f4⟩ := A2
  obtain ⟨f5, f6⟩ := A3
  k_dflt cell_enter
  k_steps
  have l2 : r < _ ∧ rd < _ ∧ AllLt _ bs := And.right (by assumption)
  exact ret _ _ _ _ _ _ _ (by k_asm) (News.no2 (by k_asm)) l2
end
theorem hk_read_clock_c : True := by
  (k_with "mc" => (k_here; (with_reducible show wpAny _ _ (call (Value.ref 331) _) _ _ _); k_dflt (refine read_clock_c (by k_asm) (by k_asm) (by k_asm) (by k_extra "!nwN") (by k_asm) (by k_extra "!pre fn") (by ktr_room) (by ktr_units) (by k_extra "!pre mem") (by k_extra "!pre") (by k_extra "!pre") (by k_extra "!pre") (by k_extra "!pre") (by k_extra "!pre") (by k_extra "!pre") ?_); k_whole; intro x9 v9 t9 t8 t7 h9 tk9 F9 N9 l9; (try k_sweep); (try dsimp only)))
  trivial

-- part rzo
def zoneB (b : List UInt8) : Option Int := match zoneIn (b.map (·.toNat)) with | some z => some z | none => namedZone (txB b)
theorem tx_lt (b : List UInt8) : ∀ c ∈ (txB b).cps.toList, c < 1114112 := by
  rw [tx_list]
  intro c hc
  obtain ⟨x, -, rfl⟩ := List.mem_map.mp hc
  have := x.toNat_lt
  omega
theorem atomB_le {bs : List (Addr × Obj)} {r rd T9 : Addr} {l : List Tk} {ws : List Value} {i : Nat} (R : RS bs r rd T9 l ws) : (atomB l i).length ≤ 10000 := by
  unfold atomB
  split
  · rename_i k hk
    split
    · rename_i ha
      obtain ⟨b, hb, hl⟩ := R.wf k (List.mem_of_getElem? hk) ha
      rw [hb]; exact hl
    · simp
  · simp
section
variable {w : World} {loose : List Str} {mean : ExcName → Option Value} {mg mb : Str → Option Value} {dp un : Nat} {gd : Option (List Code)} {cn : Str} {cs : Scope} {a : Addr} {ccd : Value} {cl : List (Str × Addr)} {outer : List Env} {A₀ : Around} {base h₀ : Heap} {L : Addr} {m : Str → Option Value} {s : Shared} {Q E : Value → Shared → Prop} {p : Program} {bs : List (Addr × Obj)} {r rd T9 : Addr} {l : List Tk} {ws : List Value} {i n : Nat} {k1 k2 k3 v2 v3 : Tok}
variable (B : Below A₀ base outer h₀) (F : Fr h₀ L s.heap m) (X : (K w.params).In h₀) (N : News h₀ L s.heap ((r, instObj 313 rd) :: (rd, rdD w.params T9 (i : Nat) (n : Nat) k1 k2 k3 v2 v3) :: bs)) (T : Top p loose mean mg mb h₀) (hk : cs.kind = .function)
include B F X N T hk
theorem read_zone_c (hd : dp + 75 < recursionLimit) (hu : un + 300 < cLine) {z : Int} (R : RS bs r rd T9 l ws) (hi : i ≤ ws.length) (hlen : (atomB l i).length < 10000) (hz : zoneB (atomB l i) = some z)
    (ret : ∀ v2 t h' tk', Fr h₀ L h' m → News h₀ L h' ((r, instObj 313 rd) :: (rd, rdD w.params T9 ((i + 1 : Nat) : Int) n k1 k2 k3 v2 v3) :: bs) → Q (.int z t) { s with heap := h', toks := tk' }) :
    wpAny (model PW w) (ktrTop dp un gd cn cs L a ccd cl outer) (call (.ref 338) [.ref r]) Q E s := by
  have h0 := tx_lt (atomB l i)
  have hl0 : (txB (atomB l i)).length < 10000 := by rw [tx_len]; exact hlen
  have hl1 : (txB (atomB l i)).cps.size < 10000 := hl0
  unfold zoneB at hz
  rw [← tx_list] at hz
  split at hz
  · rename_i z' hz'
    cases hz
    k_dflt cell_enter
    k_steps
    exact ret _ _ _ _ (by k_asm) (by k_asm)
  · rename_i hz'
    k_dflt cell_enter
    k_steps
    exact ret _ _ _ _ (by k_asm) (by k_asm)
theorem hk_read_zone_c : True := by
  (k_with "mc" => (k_here; (with_reducible show wpAny _ _ (call (Value.ref 338) _) _ _ _); k_dflt (refine read_zone_c (by k_asm) (by k_asm) (by k_asm) (by k_extra "!nwN") (by k_asm) (by k_extra "!pre fn") (by ktr_room) (by ktr_units) (by k_extra "!pre mem") (by k_extra "!pre") (by k_extra "!pre") (by k_extra "!pre") ?_); k_whole; intro v9 t9 h9 tk9 F9 N9; (try k_sweep); (try dsimp only)))
  trivial
theorem read_zone_f (hd : dp + 90 < recursionLimit) (hu : un + 300 < cLine) (R : RS bs r rd T9 l ws) (hi : i ≤ ws.length) (hn : n < 100000) (hlen : (atomB l i).length < 10000) (hz : zoneB (atomB l i) = none)
    (bad : ∀ e dx a1 b1 a2 b2 g h' tk', RaisedD base (envX cn cs L a ccd cl :: outer) e dx (wfD w.params (Str.ofString "a zone is missing") (placeAt l n i : Nat) a1 b1 a2 b2) h' → Fr h₀ L g m → g.UpToSlots h' → E (.ref e) { s with heap := h', toks := tk' }) :
    wpAny (model PW w) (ktrTop dp un gd cn cs L a ccd cl outer) (call (.ref 338) [.ref r]) Q E s := by
  have h0 := tx_lt (atomB l i)
  have hl0 : (txB (atomB l i)).length < 10000 := by rw [tx_len]; exact hlen
  have hl1 : (txB (atomB l i)).cps.size < 10000 := hl0
  unfold zoneB at hz
  rw [← tx_list] at hz
  split at hz
  · cases hz
  rename_i hz'
  k_dflt cell_enter
  have hS310 : StopM 310 := .mk
  k_steps
  all_goals (try unfold Stop)
  k_dflt (refine need_f (by k_asm) (by k_asm) (by k_asm) (by k_extra "!nwN") (by k_asm) (by k_extra "!pre fn") (by ktr_room) (by ktr_units) R hi hn ?_)
  intro e9 dx9 a1 b1 a2 b2 g9 h9 tk9 R9 G9 u9
  refine leave2 (by assumption) G9 R9 u9 ?_
  intro h8 R8 u8
  exact bad _ _ _ _ _ _ _ _ _ R8 (by assumption) u8
end

-- part rdt2
/-- the tokens of a date, as far as the zone -/
structure DateTok (l : List Tk) (y mo d ho mi se : Nat) : Prop where
  nday : isDayName (txB (atomB l 0)) = false
  df : isFig ((atomB l 0).map (·.toNat)) = true
  dl1 : 1 ≤ (atomB l 0).length
  dl2 : (atomB l 0).length ≤ 2
  dv : numB (atomB l 0) = d
  ml : (atomB l 1).length < 100
  mv : monthNo (txB (atomB l 1)) = mo
  m0 : 1 ≤ mo
  m1 : mo ≤ 12
  yf : isFig ((atomB l 2).map (·.toNat)) = true
  yl : (atomB l 2).length = 4
  yv : numB (atomB l 2) = y
  c1 : Two l 3
  c2 : Two l 5
  c3 : Two l 7
  s1 : ∃ p, l[4]? = some (Str.ofString "sign", some [58], p)
  s2 : ∃ p, l[6]? = some (Str.ofString "sign", some [58], p)
  hv : numB (atomB l 3) = ho
  miv : numB (atomB l 5) = mi
  sv : numB (atomB l 7) = se
  y0 : 1 ≤ y
  y1 : y ≤ 9999
  d0 : 1 ≤ d
  d1 : (d : Int) ≤ monthLen y mo
  h1 : ho ≤ 23
  mi1 : mi ≤ 59
  se1 : se ≤ 59
  len : 8 ≤ l.length
theorem News.under {h₀ h : Heap} {L : Addr} {o d r1 r2 : Addr × Obj} {bs nw : List (Addr × Obj)} (N : News h₀ L h (o :: d :: r1 :: r2 :: bs)) (hs : ∀ p ∈ nw, p ∈ bs) : News h₀ L h (o :: d :: nw) := fun q hq => N q (by
  simp only [List.mem_cons] at hq ⊢
  rcases hq with h | h | h
  · exact .inl h
  · exact .inr (.inl h)
  · exact .inr (.inr (.inr (.inr (hs q h)))))
section
variable {w : World} {loose : List Str} {mean : ExcName → Option Value} {mg mb : Str → Option Value} {dp un : Nat} {gd : Option (List Code)} {cn : Str} {cs : Scope} {a : Addr} {ccd : Value} {cl : List (Str × Addr)} {outer : List Env} {A₀ : Around} {base h₀ : Heap} {L : Addr} {m : Str → Option Value} {s : Shared} {Q E : Value → Shared → Prop} {news : List (Addr × Obj)} {p : Program}
variable (B : Below A₀ base outer h₀) (F : Fr h₀ L s.heap m) (X : (K w.params).In h₀) (N : News h₀ L s.heap news) (T : Top p loose mean mg mb h₀) (hk : cs.kind = .function)
include B F X N T hk
theorem read_date_c (hd : dp + 135 < recursionLimit) (hu : un + 600 < cLine) {b : Array UInt8} {t : Tok} {f k0 : Nat} {l : List Tk} {y mo d ho mi se : Nat} (h1 : b.size < 10000) (hw : whiteF f b.toList = some k0) (hts : TS (b.toList.drop k0) k0 l) (D : DateTok (l.filter noCmt) y mo d ho mi se) (hlen : (atomB (l.filter noCmt) 8).length < 10000)
    (hz : (∃ z, zoneB (atomB (l.filter noCmt) 8) = some z ∧ (l.filter noCmt).length = 9 ∧
        ∀ o dd k1 v1 k2 v2 k3 v3 k4 v4 k5 v5 k6 v6 k7 v7 h' tk', Fr h₀ L h' m → News h₀ L h' ((o, instObj 161 dd) :: (dd, momD w.params y mo d ho mi se z k1 v1 k2 v2 k3 v3 k4 v4 k5 v5 k6 v6 k7 v7) :: news) → Q (.ref o) { s with heap := h', toks := tk' }) ∨
      (zoneB (atomB (l.filter noCmt) 8) = none ∧ ∀ e dx x a1 b1 a2 b2 g h' tk', RaisedD base (envX cn cs L a ccd cl :: outer) e dx (wfD w.params x (placeAt (l.filter noCmt) b.size 8 : Nat) a1 b1 a2 b2) h' → Fr h₀ L g m → g.UpToSlots h' → E (.ref e) { s with heap := h', toks := tk' }) ∨
      (∃ z, zoneB (atomB (l.filter noCmt) 8) = some z ∧ 9 < (l.filter noCmt).length ∧ ∀ e dx x a1 b1 a2 b2 g h' tk', RaisedD base (envX cn cs L a ccd cl :: outer) e dx (wfD w.params x (placeAt (l.filter noCmt) b.size 9 : Nat) a1 b1 a2 b2) h' → Fr h₀ L g m → g.UpToSlots h' → E (.ref e) { s with heap := h', toks := tk' })) :
    wpAny (model PW w) (ktrTop dp un gd cn cs L a ccd cl outer) (call (.ref 345) [.bytes b t]) Q E s := by
  have q0 := tx_lt (atomB (l.filter noCmt) 0)
  have q1 := tx_lt (atomB (l.filter noCmt) 1)
  have q2 : (txB (atomB (l.filter noCmt) 0)).cps.size < 10000 := by have := tx_len (atomB (l.filter noCmt) 0); have := D.dl2; unfold Str.length at *; omega
  have q3 : (txB (atomB (l.filter noCmt) 1)).cps.size < 10000 := by have := tx_len (atomB (l.filter noCmt) 1); have := D.ml; unfold Str.length at *; omega
  obtain ⟨nday, df, dl1, dl2, dv, ml, mv, m0, m1, yf, yl, yv, ⟨c1, c2⟩, ⟨c3, c4⟩, ⟨c5, c6⟩, ⟨p1, s1⟩, ⟨p2, s2⟩, hv, miv, sv, y0, y1, d0, d1, hh1, mi1, se1, len⟩ := D
  have yf' : isFig ((atomB (l.filter noCmt) (0 + 1 + 1)).map (·.toNat)) = true := yf
  have yl' : (atomB (l.filter noCmt) (0 + 1 + 1)).length = 4 := yl
  have A1 : Two (l.filter noCmt) (0 + 1 + 1 + 1) := ⟨c1, c2⟩
  have A2 : Two (l.filter noCmt) (0 + 1 + 1 + 1 + 1 + 1) := ⟨c3, c4⟩
  have A3 : Two (l.filter noCmt) (0 + 1 + 1 + 1 + 1 + 1 + 1 + 1) := ⟨c5, c6⟩
  have S1 : (l.filter noCmt)[(0 + 1 + 1 + 1) + 1]? = some (Str.ofString "sign", some [58], p1) := s1
  have S2 : (l.filter noCmt)[(0 + 1 + 1 + 1) + 1 + 1 + 1]? = some (Str.ofString "sign", some [58], p2) := s2
  have yv' : numB (atomB (l.filter noCmt) (0 + 1 + 1)) = y := yv
  have hv' : numB (atomB (l.filter noCmt) (0 + 1 + 1 + 1)) = ho := hv
  have miv' : numB (atomB (l.filter noCmt) (0 + 1 + 1 + 1 + 1 + 1)) = mi := miv
  have sv' : numB (atomB (l.filter noCmt) (0 + 1 + 1 + 1 + 1 + 1 + 1 + 1)) = se := sv
  have mv' : monthNo (txB (atomB (l.filter noCmt) (0 + 1))) = mo := mv
  have hmo : decide (0 < ((monthNo (txB (atomB (l.filter noCmt) (0 + 1))) : Nat) : Int)) = true := by
    rw [decide_eq_true_iff]; have : monthNo (txB (atomB (l.filter noCmt) (0 + 1))) = mo := mv; omega
  have hfy : fullYear (numB (atomB (l.filter noCmt) (0 + 1 + 1))) ((atomB (l.filter noCmt) (0 + 1 + 1)).length) = (y : Int) := by
    rw [yl', yv']; simp [fullYear]
  have hml := monthLen_in y mo
  have hcond : 1 ≤ fullYear (numB (atomB (l.filter noCmt) (0 + 1 + 1))) ((atomB (l.filter noCmt) (0 + 1 + 1)).length) ∧ fullYear (numB (atomB (l.filter noCmt) (0 + 1 + 1))) ((atomB (l.filter noCmt) (0 + 1 + 1)).length) ≤ 9999 ∧
      1 ≤ ((monthNo (txB (atomB (l.filter noCmt) (0 + 1))) : Nat) : Int) ∧ ((monthNo (txB (atomB (l.filter noCmt) (0 + 1))) : Nat) : Int) ≤ 12 ∧ 1 ≤ ((numB (atomB (l.filter noCmt) 0) : Nat) : Int) ∧
      ((numB (atomB (l.filter noCmt) 0) : Nat) : Int) ≤ monthLen (fullYear (numB (atomB (l.filter noCmt) (0 + 1 + 1))) ((atomB (l.filter noCmt) (0 + 1 + 1)).length)) (monthNo (txB (atomB (l.filter noCmt) (0 + 1))) : Nat) := by
    rw [hfy, mv', dv]; omega
  k_dflt cell_enter
  have hS338 : StopM 338 := .mk
  k_steps
  all_goals (try unfold Stop)
  rename Fr _ _ _ _ => FF
  rename News _ _ _ _ => NN
  simp +zetaDelta only [hfy, mv', dv, hv', miv', sv'] at FF
  rcases hz with ⟨z, hz, hl9, ret⟩ | ⟨hz, bad⟩ | ⟨z, hz, hl9, bad⟩
  · refine read_zone_c (by k_asm) FF (by k_asm) (by k_extra "!nwN") (by k_asm) (by k_extra "!pre fn") (by ktr_room) (by ktr_units) R9 (by omega) hlen hz ?_
    intro v7 t7 h7 tk7 F7 N7
    have hT := R9.tup
    have hw9 := R9.small
    k_steps
    exact ret _ _ _ _ _ _ _ _ _ _ _ _ _ _ _ _ _ _ (by k_asm) (News.under (by k_asm) sub9)
  · refine read_zone_f (by k_asm) FF (by k_asm) (by k_extra "!nwN") (by k_asm) (by k_extra "!pre fn") (by ktr_room) (by ktr_units) R9 (by omega) (by omega) hlen hz ?_
    intro e9 dx9 a1 b1 a2 b2 g9 h9 tk9 R8 G9 u9
    refine leave2 (by assumption) G9 R8 u9 ?_
    intro h8 R7 u8
    exact bad _ _ _ _ _ _ _ _ _ _ R7 (by assumption) u8
  · refine read_zone_c (by k_asm) FF (by k_asm) (by k_extra "!nwN") (by k_asm) (by k_extra "!pre fn") (by ktr_room) (by ktr_units) R9 (by omega) hlen hz ?_
    intro v7 t7 h7 tk7 F7 N7
    have hT := R9.tup
    have hw9 := R9.small
    have hS52 : StopM 52 := .mk
    k_steps
    all_goals (try unfold Stop)
    k_dflt (refine wordfault_c (by k_asm) (by k_asm) (by k_asm) (by k_asm) (by k_asm) (by k_extra "!pre fn") (by ktr_room) (by ktr_units) ?_)
    intro e8 dx8 te8 a1 a2 b1 b2 h8 tk8 F8 N8 n8
    refine ⟨e8, _, rfl, (Frag.In.keeps (by assumption) F8.keep) _ _ (wf_K _), (N8 _ (.tail _ (.head _))).1, rfl, ⟨te8, rfl⟩, ?_⟩
    refine leave1 (by assumption) F8 N8 (.tail _ (.head _)) (.head _) (fun h => n8 _ (.head _) h.symm) ?_
    intro h6 R6 u6
    exact bad _ _ _ _ _ _ _ _ _ _ R6 (by assumption) u6
end

-- part lwc
theorem yoe_lo (a k c d e f g : Int) (h0 : 0 ≤ a) (h1 : a ≤ 146096) (c1 : 1460 * c ≤ a) (c2 : a < 1460 * c + 1460) (d1 : 36524 * d ≤ a) (d2 : a < 36524 * d + 36524) (e1 : 146096 * e ≤ a) (e2 : a < 146096 * e + 146096)
    (k1 : 365 * k ≤ a - c + d - e) (k2 : a - c + d - e < 365 * k + 365) (f1 : 4 * f ≤ k) (f2 : k < 4 * f + 4) (g1 : 100 * g ≤ k) (g2 : k < 100 * g + 100) :
    365 * k + f - g ≤ a ∧ 0 ≤ k ∧ k ≤ 399 := by
  have hd : d = 0 ∨ d = 1 ∨ d = 2 ∨ d = 3 ∨ d = 4 := by omega
  have he : e = 0 ∨ e = 1 := by omega
  have hk : 100 * (d - e) ≤ k := by
    by_cases hc : c ≤ 25 * d
    · rcases hd with rfl | rfl | rfl | rfl | rfl <;> rcases he with rfl | rfl <;> omega
    · rcases hd with rfl | rfl | rfl | rfl | rfl <;> rcases he with rfl | rfl <;> omega
  have hg : d - e ≤ g := by omega
  have hcd : d ≤ c := by omega
  have lo : 365 * k + f - g ≤ a := by
    rcases hd with rfl | rfl | rfl | rfl | rfl <;> rcases he with rfl | rfl <;> omega
  refine ⟨lo, ?_, ?_⟩
  · omega
  · rcases hd with rfl | rfl | rfl | rfl | rfl <;> rcases he with rfl | rfl <;> omega
/-- the year of an era: the day lies below the next year's first -/
theorem yoe_hi (a k c d e f g : Int) (h0 : 0 ≤ a) (h1 : a ≤ 146096) (c1 : 1460 * c ≤ a) (c2 : a < 1460 * c + 1460) (d1 : 36524 * d ≤ a) (d2 : a < 36524 * d + 36524) (e1 : 146096 * e ≤ a) (e2 : a < 146096 * e + 146096)
    (k1 : 365 * k ≤ a - c + d - e) (k2 : a - c + d - e < 365 * k + 365) (f1 : 4 * f ≤ k + 1) (f2 : k + 1 < 4 * f + 4) (g1 : 100 * g ≤ k + 1) (g2 : k + 1 < 100 * g + 100) (q : Int) (q1 : 400 * q ≤ k + 1) (q2 : k + 1 < 400 * q + 400) :
    a < 365 * (k + 1) + f - g + q := by
  have he : e = 0 ∨ e = 1 := by omega
  by_cases ht : g ≤ q + d - e
  · have hf : f ≤ 100 := by
      have hd : d = 0 ∨ d = 1 ∨ d = 2 ∨ d = 3 ∨ d = 4 := by omega
      rcases hd with rfl | rfl | rfl | rfl | rfl <;> rcases he with rfl | rfl <;> omega
    have hd0 : 0 ≤ d := by omega
    have hc : c ≤ f - g + q + d - e := by
      apply Int.not_lt.mp
      intro hc
      have hc2 : f + 1 ≤ c := by omega
      have h3 : 1460 * c ≤ 365 * k + 364 + c - d + e := by omega
      have h4 : 365 * k + 365 ≤ 1460 * f + 1095 := by omega
      omega
    omega
  · have hf : 25 * g ≤ f := by omega
    have hg : d + 1 ≤ g := by
      rcases he with rfl | rfl
      · omega
      · exfalso
        have : k = 399 := by omega
        omega
    omega
theorem leap_iff (y : Int) : isLeap y = true ↔ y % 4 = 0 ∧ (y % 100 ≠ 0 ∨ y % 400 = 0) := by simp [isLeap]
theorem dby_era (era k : Int) (h0 : 0 ≤ k) (h1 : k ≤ 399) : dby (k + 400 * era + 1) = 146097 * era + 365 * k + k / 4 - k / 100 := by unfold dby; omega
theorem leap_era (era k : Int) (h0 : 0 ≤ k) (h1 : k ≤ 399) (h : k / 4 - k / 100 < (k + 1) / 4 - (k + 1) / 100 + (k + 1) / 400) : isLeap (k + 400 * era + 1) = true := by rw [leap_iff]; omega
theorem mp_all : ∀ (b : Bool) (k : Fin 10), dbmB b (((k.val : Int) + 2) % 12 + 1) = 59 + (if b = true then 1 else 0) + (153 * (k.val : Int) + 2) / 5 ∧ (153 * ((k.val : Int) + 1) + 2) / 5 - (153 * (k.val : Int) + 2) / 5 ≤ monthB b (((k.val : Int) + 2) % 12 + 1) := by decide +kernel
theorem civ_months {Y doy mp y mo d D : Int} (ds : dby (Y + 1) = dby Y + 365 + (if isLeap Y = true then 1 else 0)) (doy0 : 0 ≤ doy) (doy1 : doy ≤ 365) (doy2 : doy = 365 → isLeap (Y + 1) = true) (hDD : D = dby (Y + 1) - 306 + doy) (hmp : mp = (5 * doy + 2) / 153)
    (hd : d = doy - (153 * mp + 2) / 5 + 1) (hy : y = Y + (if mp > 9 then 1 else 0)) (hmo : mo = (mp + 2) % 12 + 1) (y0 : 1 ≤ y) (y1 : y < 20000) : Civ D y mo d := by
  by_cases hm : mp ≤ 9
  · have e : y = Y := by rw [if_neg (by omega)] at hy; omega
    subst e
    obtain ⟨h8, h9⟩ := mp_all (isLeap y) ⟨mp.toNat, by omega⟩
    dsimp only at h8 h9
    rw [show ((mp.toNat : Nat) : Int) = mp by omega, ← hmo] at h8 h9
    clear hy doy2
    refine ⟨y0, y1, by clear h8 h9 ds hDD; omega, by clear h8 h9 ds hDD; omega, by clear h8 h9 ds hDD; omega, ?_, ?_⟩
    · show d ≤ monthB (isLeap y) mo
      clear h8 ds hDD hmo
      omega
    · show dby y + dbmB (isLeap y) mo + d - 1 = D
      rw [h8, hDD, ds]
      clear h9 h8 ds hDD hmo hmp
      omega
  have hm2 : mp = 10 ∨ mp = 11 := by clear ds hDD hy hmo hd doy2; omega
  rcases hm2 with r | r
  · subst r
    simp at hy hmo hd
    subst hy hmo
    refine ⟨y0, y1, by omega, by omega, by omega, ?_, ?_⟩
    · simp [monthLen]; omega
    · simp [dbm]; omega
  · subst r
    simp at hy hmo hd
    subst hy hmo
    refine ⟨y0, y1, by omega, by omega, by omega, ?_, ?_⟩
    · cases hl : isLeap (Y + 1)
      · rw [hl] at doy2; simp [monthLen, hl]; simp at doy2; omega
      · simp [monthLen, hl]; omega
    · simp [dbm]; omega
theorem civ_era {era a k y mo d doy mp D : Int} (ha0 : 0 ≤ a) (ha1 : a ≤ 146096) (hk : k = (a - a / 1460 + a / 36524 - a / 146096) / 365) (hdoy : doy = a - (365 * k + k / 4 - k / 100)) (hmp : mp = (5 * doy + 2) / 153)
    (hd : d = doy - (153 * mp + 2) / 5 + 1) (hy : y = k + 400 * era + (if mp > 9 then 1 else 0)) (hmo : mo = (mp + 2) % 12 + 1) (hD : D + 306 = 146097 * era + a) (y0 : 1 ≤ y) (y1 : y < 20000) : Civ D y mo d := by
  obtain ⟨lo, k0, k9⟩ := yoe_lo a k (a / 1460) (a / 36524) (a / 146096) (k / 4) (k / 100) ha0 ha1 (by omega) (by omega) (by omega) (by omega) (by omega) (by omega) (by omega) (by omega) (by omega) (by omega) (by omega) (by omega)
  have hi := yoe_hi a k (a / 1460) (a / 36524) (a / 146096) ((k + 1) / 4) ((k + 1) / 100) ha0 ha1 (by omega) (by omega) (by omega) (by omega) (by omega) (by omega) (by omega) (by omega) (by omega) (by omega) (by omega) (by omega) ((k + 1) / 400) (by omega) (by omega)
  clear hk ha0 ha1
  have dn := dby_era era k k0 k9
  have doy0 : 0 ≤ doy := by clear hi dn; omega
  have doy1 : doy ≤ 365 := by clear dn hmp hd hy hmo; omega
  refine civ_months (dby_succ _) doy0 doy1 (fun h => leap_era era k k0 k9 ?_) ?_ hmp hd hy hmo y0 y1
  · clear dn hmp hd hy hmo; omega
  · clear hi hmp hd hy hmo; omega

-- part lwa
theorem clock_eq0 {D y mo d era a k doy mp : Int} (hc : Civ D y mo d) (h1 : D < 5000000) (he : era = (D + 306) / 146097) (ha : a = (D + 306) % 146097) (hk : k = (a - a / 1460 + a / 36524 - a / 146096) / 365)
    (hdoy : doy = a - (365 * k + k / 4 - k / 100)) (hmp : mp = (5 * doy + 2) / 153) :
    k + 400 * era + (if mp > 9 then 1 else 0) = y ∧ (mp + 2) % 12 + 1 = mo ∧ doy - (153 * mp + 2) / 5 + 1 = d := by
  have hD0 : 0 ≤ D := by
    have h2 := hc.lt.1
    have h3 := hc.y0
    have h4 : 0 ≤ dby y := by unfold dby; omega
    omega
  have ha0 : 0 ≤ a := by omega
  have ha1 : a ≤ 146096 := by omega
  obtain ⟨lo, k0, k9⟩ := yoe_lo a k (a / 1460) (a / 36524) (a / 146096) (k / 4) (k / 100) ha0 ha1 (by omega) (by omega) (by omega) (by omega) (by omega) (by omega) (by omega) (by omega) (by omega) (by omega) (by omega) (by omega)
  have hE : D + 306 = 146097 * era + a := by clear hk hdoy hmp; omega
  have hy1 : k + 400 * era + (if mp > 9 then 1 else 0) < 20000 := by
    have : era ≤ 34 := by clear hk hdoy hmp; omega
    clear hk hdoy hmp
    split <;> omega
  have hy0 : 1 ≤ k + 400 * era + (if mp > 9 then 1 else 0) := by
    have h9 : 0 ≤ era := by clear hk hdoy hmp; omega
    by_cases h8 : era = 0 ∧ k = 0
    · obtain ⟨rfl, rfl⟩ := h8
      rw [if_pos]
      · decide
      · clear hk; omega
    · clear hk hdoy hmp
      split <;> omega
  obtain ⟨e1, e2, e3⟩ := (civ_era ha0 ha1 hk hdoy hmp rfl rfl rfl hE hy0 hy1).uniq hc
  exact ⟨e1.symm, e2.symm, e3.symm⟩
theorem clock_eq {n y mo d : Int} (hc : Civ (n / 86400 + 719162) y mo d) (h1 : n < 260000000000) (era a k doy mp : Int) (he : era = (n.fdiv 86400 + 719468).fdiv 146097) (ha : a = (n.fdiv 86400 + 719468).fmod 146097) (hk : k = (a - a.fdiv 1460 + a.fdiv 36524 - a.fdiv 146096).fdiv 365)
    (hdoy : doy = a - (365 * k + k.fdiv 4 - k.fdiv 100)) (hmp : mp = (5 * doy + 2).fdiv 153) :
    (mp > 9 → k + 400 * era + 1 = y) ∧ (¬ mp > 9 → k + 400 * era + 0 = y) ∧ (mp + 2).fmod 12 + 1 = mo ∧ doy - (153 * mp + 2).fdiv 5 + 1 = d := by
  simp (disch := decide) only [fd, fm] at *
  obtain ⟨e1, e2, e3⟩ := clock_eq0 (era := era) (a := a) (k := k) (doy := doy) (mp := mp) hc (by omega) (by rw [he]; congr 1; omega) (by rw [ha]; congr 1; omega) hk hdoy hmp
  refine ⟨fun h => ?_, fun h => ?_, e2, e3⟩
  · rw [if_pos h] at e1; exact e1
  · rw [if_neg h] at e1; exact e1
section
variable {w : World} {loose : List Str} {mean : ExcName → Option Value} {mg mb : Str → Option Value} {dp un : Nat} {gd : Option (List Code)} {cn : Str} {cs : Scope} {a : Addr} {ccd : Value} {cl : List (Str × Addr)} {outer : List Env} {A₀ : Around} {base h₀ : Heap} {L : Addr} {m : Str → Option Value} {s : Shared} {Q E : Value → Shared → Prop} {news : List (Addr × Obj)} {p : Program}
variable (B : Below A₀ base outer h₀) (F : Fr h₀ L s.heap m) (X : (K w.params).In h₀) (N : News h₀ L s.heap news) (T : Top p loose mean mg mb h₀) (hk : cs.kind = .function)
include B F X N T hk
theorem two_c (hd : dp + 15 < recursionLimit) (hu : un + 60 < cLine) {i : Int} {t : Tok} (h0 : 0 ≤ i) (h1 : i < 100)
    (ret : ∀ t h' tk', Fr h₀ L h' m → News h₀ L h' news → Q (.str (tx [48 + i.toNat / 10, 48 + i.toNat % 10]) t) { s with heap := h', toks := tk' }) :
    wpAny (model PW w) (ktrTop dp un gd cn cs L a ccd cl outer) (call (.ref 379) [.int i t]) Q E s := by
  have e1 := fd i (b := 10) (by decide)
  have e2 := fm i (b := 10) (by decide)
  k_dflt cell_enter
  k_steps
  refine rS ret ?_ (by k_asm) (by k_asm)
  have hf : ∀ n : Fin 100, Str.ofString (toString ((n.val : Int).fdiv 10)) ++ Str.ofString (toString ((n.val : Int).fmod 10)) = tx [48 + n.val / 10, 48 + n.val % 10] := by decide +kernel
  have h9 := hf ⟨i.toNat, by omega⟩
  rwa [show ((i.toNat : Nat) : Int) = i by omega] at h9
theorem hk_two_c : True := by
  (k_with "mc" => (k_here; (with_reducible show wpAny _ _ (call (Value.ref 379) _) _ _ _); k_dflt (refine two_c (by k_asm) (by k_asm) (by k_asm) (by k_extra "!nwN") (by k_asm) (by k_extra "!pre fn") (by ktr_room) (by ktr_units) (by k_extra "!pre") (by k_extra "!pre") ?_); k_whole; intro t9 h9 tk9 F9 N9; (try k_sweep); (try dsimp only)))
  trivial
theorem octets_c (hd : dp + 15 < recursionLimit) (hu : un + 60 < cLine) {x : Str} {t : Tok} (h0 : ∀ c ∈ x.cps.toList, c < 256) (h1 : x.length < 10000)
    (ret : ∀ b t h' tk', b.toList = x.cps.toList.map (·.toUInt8) → Fr h₀ L h' m → News h₀ L h' news → Q (.bytes b t) { s with heap := h', toks := tk' }) :
    wpAny (model PW w) (ktrTop dp un gd cn cs L a ccd cl outer) (call (.ref 396) [.str x t]) Q E s := by
  k_dflt cell_enter
  k_steps
  rename Fr _ _ _ _ => FF
  rename News _ _ _ _ => NN
  refine CW.str rfl FF NN (by rw [sizeLine_eq]; have : x.cps.size < 10000 := h1; omega) ?_
  intro g
  refine rest_ints (ks := x.cps.toList) (fun c => (c : Int)) (fun c v => ∃ u, v = .str ⟨#[c]⟩ u) (by simp) ?_ ?_ ?_
  · rintro i v hi ⟨c, u, hc, rfl⟩
    exact ⟨c, by simpa using hc, u, rfl⟩
  · rintro c v I oI C oC D m₂ ys h tk E' hk ⟨u, rfl⟩ hC hx F' N' off ne
    have hk' := h0 c hk
    k_steps
    k_extra "!ce"
    exact ⟨rfl, _, rfl⟩
  intro ys hys
  have hS5 : StopM 5 := .mk
  k_steps
  all_goals (try unfold Stop)
  have hr : ∀ n ∈ x.cps.toList.map (fun c => ((c : Nat) : Int)), 0 ≤ n ∧ n < 256 := by
    intro n hn
    obtain ⟨c, hc, rfl⟩ := List.mem_map.mp hn
    have := h0 c hc
    omega
  refine bytes_K (by k_asm) (by k_asm) (News.isList (by k_asm) (by k_mem)) hys hr (by rw [hys.length, sizeLine_eq, List.length_map, Array.length_toList]; have : x.cps.size < 10000 := h1; omega) rfl ?_
  intro h9 t9 k9 F9 N9 _
  k_steps
  refine ret _ _ _ _ ?_ (by k_asm) (by k_extra "!nw")
  simp [List.map_map, Function.comp_def]
theorem hk_octets_c : True := by
  (k_with "mc" => (k_here; (with_reducible show wpAny _ _ (call (Value.ref 396) _) _ _ _); k_dflt (refine octets_c (by k_asm) (by k_asm) (by k_asm) (by k_extra "!nwN") (by k_asm) (by k_extra "!pre fn") (by ktr_room) (by ktr_units) (by k_extra "!pre") (by k_extra "!pre") ?_); k_whole; intro b9 t9 h9 tk9 e1 F9 N9; (try k_sweep); (try dsimp only)))
  trivial
theorem clock_c (hd : dp + 15 < recursionLimit) (hu : un + 60 < cLine) {n y mo d : Int} {t : Tok} (h0 : -63000000000 ≤ n) (h1 : n < 260000000000) (hc : Civ (n / 86400 + 719162) y mo d)
    (ret : ∀ x y' mo' d' t1 t2 t3 t4 t5 t6 h' tk', y' = y → mo' = mo → d' = d → Fr h₀ L h' m → News h₀ L h' ((x, { cls := .type "tuple", data := .seq #[.int y' t1, .int mo' t2, .int d' t3, .int ((n.fmod 86400).fdiv 3600) t4, .int (((n.fmod 86400).fdiv 60).fmod 60) t5, .int ((n.fmod 86400).fmod 60) t6] }) :: news) → AllLt x news → Q (.ref x) { s with heap := h', toks := tk' }) :
    wpAny (model PW w) (ktrTop dp un gd cn cs L a ccd cl outer) (call (.ref 386) [.int n t]) Q E s := by
  k_dflt cell_enter
  k_steps
  all_goals
    have ce := clock_eq hc h1 _ _ _ _ _ rfl rfl rfl rfl rfl
    refine ret _ _ _ _ _ _ _ _ _ _ _ _ ?_ ce.2.2.1 ce.2.2.2 (by k_asm) (by k_extra "!nw") (And.right (And.right (by assumption)))
  · exact ce.1 (by assumption)
  · exact ce.2.1 (by assumption)
end
theorem hk_clock_c : True := by
  (k_with "mc" => (k_here; (with_reducible show wpAny _ _ (call (Value.ref 386) _) _ _ _); k_dflt (refine clock_c (by k_asm) (by k_asm) (by k_asm) (by k_extra "!nwN") (by k_asm) (by k_extra "!pre fn") (by ktr_room) (by ktr_units) (by k_extra "!pre") (by k_extra "!pre") (by k_extra "!pre") ?_); k_whole; intro x9 y9 mo9 d9 t9 t8 t7 t6 t5 t4 h9 tk9 e1 e2 e3 F9 N9 l9; subst e1; subst e2; subst e3; (try k_sweep); (try dsimp only)))
  trivial

-- part lwm
def names8 : List Str := [Str.ofString "est", Str.ofString "edt", Str.ofString "cst", Str.ofString "cdt", Str.ofString "mst", Str.ofString "mdt", Str.ofString "pst", Str.ofString "pdt"]
theorem hours0 {x : Str} (h : x ∉ names8) : hoursOf x = 0 := by
  simp only [names8, List.mem_cons, List.not_mem_nil, or_false, not_or] at h
  obtain ⟨h1, h2, h3, h4, h5, h6, h7, h8⟩ := h
  unfold hoursOf
  rw [if_neg (Ne.symm h1), if_neg (Ne.symm h2), if_neg (Ne.symm h3), if_neg (Ne.symm h4), if_neg (Ne.symm h5), if_neg (Ne.symm h6), if_neg (Ne.symm h7), if_neg (Ne.symm h8)]
abbrev inE (x : Str) : Bool := (Builtin.Str.occurrences (Str.ofString "ecmp") (Txt.item x 0) 0 (Str.ofString "ecmp").length 1).isEmpty
abbrev inT (x : Str) : Bool := [Str.ofString "st", Str.ofString "dt"].any fun y => y == Txt.slice x (some 1) none
theorem min_facts : ∀ s ∈ names8, inE s = false ∧ inT s = true ∧ (s.length : Int) = 3 := by decide +kernel
theorem min_0 {x : Str} (h : inE x = true ∨ inT x = false ∨ (x.length : Int) ≠ 3) : hoursOf x = 0 := by
  refine hours0 fun hm => ?_
  obtain ⟨h1, h2, h3⟩ := min_facts x hm
  rcases h with h | h | h
  · rw [h1] at h; cases h
  · rw [h2] at h; cases h
  · exact h h3
theorem min_all : ∀ a ∈ [101, 99, 109, 112], ∀ b ∈ [115, 100], 60 * ((if (Txt.item ⟨#[a, b, 116]⟩ 1 == Str.ofString "d") = true then (-4 : Int) else -5) - Txt.find (Str.ofString "ecmp") (Txt.item ⟨#[a, b, 116]⟩ 0)) = hoursOf ⟨#[a, b, 116]⟩ * 60 := by decide +kernel
theorem min_1 {x : Str} (h1 : inE x = false) (h2 : inT x = true) (h3 : (x.length : Int) = 3) :
    60 * ((if (Txt.item x 1 == Str.ofString "d") = true then (-4 : Int) else -5) - Txt.find (Str.ofString "ecmp") (Txt.item x 0)) = hoursOf x * 60 := by
  have hxl : x.cps.toList.length = x.length := by rw [Array.length_toList]; rfl
  obtain ⟨a, b, c, hl⟩ : ∃ a b c, x.cps.toList = [a, b, c] := by
    have h5 : x.cps.toList.length = 3 := by omega
    rcases h : x.cps.toList with _ | ⟨b0, _ | ⟨b1, _ | ⟨b2, _ | ⟨b3, _⟩⟩⟩⟩ <;> rw [h] at h5 <;> simp at h5
    exact ⟨_, _, _, rfl⟩
  have hx : x = ⟨#[a, b, c]⟩ := Str.ext' (Array.toList_inj.mp hl)
  have hi : Txt.item x 0 = ⟨#[a]⟩ := item_meets (by decide) (by rw [← Array.getElem?_toList, hl]; rfl)
  have hs : (Txt.slice x (some 1) none).cps.toList = [b, c] := by rw [slice_toList1 (by decide) (by omega), hl]; rfl
  have hs' : Txt.slice x (some 1) none = ⟨#[b, c]⟩ := Str.ext' (Array.toList_inj.mp hs)
  have ha : a ∈ [101, 99, 109, 112] := by
    have h9 := StrLaws.found_one (Str.ofString "ecmp") a
    unfold inE at h1
    rw [hi] at h1
    rw [h1] at h9
    rw [show (Str.ofString "ecmp").cps.toList = [101, 99, 109, 112] from by decide +kernel] at h9
    simpa using h9
  have hbc : (b = 115 ∨ b = 100) ∧ c = 116 := by
    unfold inT at h2
    rw [hs', show Str.ofString "st" = ⟨#[115, 116]⟩ from by decide +kernel, show Str.ofString "dt" = ⟨#[100, 116]⟩ from by decide +kernel] at h2
    simp at h2
    omega
  obtain ⟨hb, rfl⟩ := hbc
  rw [hx]
  exact min_all a ha b (by simpa using hb)
section
variable {w : World} {loose : List Str} {mean : ExcName → Option Value} {mg mb : Str → Option Value} {dp un : Nat} {gd : Option (List Code)} {cn : Str} {cs : Scope} {a : Addr} {ccd : Value} {cl : List (Str × Addr)} {outer : List Env} {A₀ : Around} {base h₀ : Heap} {L : Addr} {m : Str → Option Value} {s : Shared} {Q E : Value → Shared → Prop} {news : List (Addr × Obj)} {p : Program}
variable (B : Below A₀ base outer h₀) (F : Fr h₀ L s.heap m) (X : (K w.params).In h₀) (N : News h₀ L s.heap news) (T : Top p loose mean mg mb h₀) (hk : cs.kind = .function)
include B F X N T hk
theorem minutes_c (hd : dp + 15 < recursionLimit) (hu : un + 60 < cLine) {x : Str} {t : Tok} (h1 : x.length < 10000)
    (ret : ∀ t h' tk', Fr h₀ L h' m → News h₀ L h' news → Q (.int (hoursOf x * 60) t) { s with heap := h', toks := tk' }) :
    wpAny (model PW w) (ktrTop dp un gd cn cs L a ccd cl outer) (call (.ref 372) [.str x t]) Q E s := by
  k_dflt cell_enter
  k_steps
  all_goals first
    | (refine rI ret ?_ (by k_asm) (by k_extra "!nw"); rw [min_0 (by first | exact .inl (by assumption) | exact .inr (.inl (by assumption)) | exact .inr (.inr (by assumption)))]; rfl)
    | (exfalso; have g1 : inE x = true := (by assumption); have g2 : inE x = false := (by assumption); rw [g1] at g2; cases g2)
    | (refine rI ret ?_ (by k_asm) (by k_extra "!nw"); rw [← min_1 (by assumption) (by assumption) (by assumption)]; (first | rw [show (Txt.item x 1 == Str.ofString "d") = true by assumption] | rw [show (Txt.item x 1 == Str.ofString "d") = false by assumption]); rfl)
end
theorem hk_minutes_c : True := by
  (k_with "mc" => (k_here; (with_reducible show wpAny _ _ (call (Value.ref 372) _) _ _ _); k_dflt (refine minutes_c (by k_asm) (by k_asm) (by k_asm) (by k_extra "!nwN") (by k_asm) (by k_extra "!pre fn") (by ktr_room) (by ktr_units) (by k_extra "!pre") ?_); k_whole; intro t9 h9 tk9 F9 N9; (try k_sweep); (try dsimp only)))
  trivial

-- part stab
theorem seqIndex_nat {k : Int} {n : Nat} (h0 : 0 ≤ k) (h1 : k < n) : seqIndex? k n = some k.toNat := by
  unfold seqIndex?
  simp only [if_neg (show ¬ k < 0 by omega)]
  rw [if_pos (by simp; omega)]
theorem strs_getD {vs : List Value} {xs : List Str} (h : StrsAre vs xs) {j : Nat} (hj : j < xs.length) : ∃ t, vs[j]? = some (.str (xs.getD j Str.empty) t) := by
  obtain ⟨hlen, hat⟩ := strs_at h
  obtain ⟨t, e⟩ := hat j (by omega) hj
  refine ⟨t, ?_⟩
  rw [List.getElem?_eq_getElem (by omega), e, List.getD_eq_getElem?_getD, List.getElem?_eq_getElem hj]
  rfl
theorem strs_item {prog : Program} {w : World} {A : Around} {E : Value → Shared → Prop} {s : Shared} {K : Frag} {h₀ : Heap} {L a : Addr} {m : Str → Option Value} {n : Nat} {value slice : Expr} {l : List Value} {xs : List Str} {dd : Option Addr} {sl : Array (Option Value)} {k : Int} {u : Tok} {Q : Value → Shared → Prop}
    (F : Fr h₀ L s.heap m) (X₀ : K.In h₀) (hl : K.lookup a = some ⟨.type "tuple", dd, .seq l.toArray n, sl⟩) (hx : StrsAre l xs) (h0 : 0 ≤ k) (h1 : k < xs.length) (h2 : xs.length ≤ 1000) (h : ∀ t, Q (.str (xs.getD k.toNat Str.empty) t) s)
    (hs : subscripted slice false (.ref a) (.int k u) = operate [.ref a, .int k u] (getItem (.ref a) (.int k u)) := by with_unfolding_all rfl) :
    wpAny (model prog w) A (subscriptTail value slice (.ref a) (.int k u)) Q E s := by
  obtain ⟨t, e⟩ := strs_getD hx (j := k.toNat) (by omega)
  have hlen := (strs_at hx).1
  exact topTup_K F X₀ hl (by omega) (by omega) (seqIndex_nat h0 (by omega)) e (h t) hs

-- part lwp
open NumText in
theorem len_dig : ∀ (k m : Nat), 1 ≤ k → m < 10 ^ k → (Nat.toDigits 10 m).length ≤ k
  | 0, _, h, _ => absurd h (by decide)
  | k + 1, m, _, hm => by
    by_cases h : m < 10
    · rw [Nat.toDigits_of_lt_base h]; simp
    · have hm2 : m % 10 < 10 := Nat.mod_lt m (by decide)
      have t : Nat.toDigits 10 (m / 10) ++ Nat.toDigits 10 (m % 10) = Nat.toDigits 10 (10 * (m / 10) + m % 10) := Nat.toDigits_append_toDigits (by decide) (by omega) hm2
      rw [Nat.div_add_mod] at t
      rw [← t, List.length_append, Nat.toDigits_of_lt_base hm2]
      have hk : 1 ≤ k := by
        rcases k with _ | k
        · simp at hm; omega
        · omega
      have := len_dig k (m / 10) hk (by rw [Nat.pow_succ] at hm; omega)
      simp only [List.length_cons, List.length_nil]; omega
structure NumL (l : List Nat) (m : Nat) : Prop where
  fig : isFig l = true
  val : NumText.digitsVal l = m
theorem numL_text (m : Nat) : NumL (Str.ofString (toString (m : Int))).cps.toList m := by
  have hd : NumText.AllDigits (Str.ofString (toString ((m : Nat) : Int))).cps.toList := by
    intro c hc
    rw [KIN.signs_num] at hc
    obtain ⟨ch, hch, e⟩ := List.mem_map.mp hc
    have r := digit_range (Nat.isDigit_of_mem_toDigits (by decide) (by decide) hch)
    rw [← e]
    exact r
  refine ⟨?_, by rw [KIN.signs_num, KIN.val_back]⟩
  have hne : (Str.ofString (toString ((m : Nat) : Int))).cps.toList ≠ [] := by
    rw [KIN.signs_num]
    intro e
    have h := toDigits_len_ge 10 m
    rw [List.map_eq_nil_iff.mp e] at h
    exact absurd h (by decide)
  unfold isFig
  rw [Bool.and_eq_true]
  refine ⟨?_, ?_⟩
  · cases h : (Str.ofString (toString ((m : Nat) : Int))).cps.toList with
    | nil => exact absurd h hne
    | cons => rfl
  · rw [List.all_eq_true]
    intro c hc
    have := hd c hc
    simp; exact this
theorem len_text {m k : Nat} (hk : 1 ≤ k) (hm : m < 10 ^ k) : 1 ≤ (Str.ofString (toString (m : Int))).cps.toList.length ∧ (Str.ofString (toString (m : Int))).cps.toList.length ≤ k := by
  rw [KIN.signs_num, List.length_map]
  exact ⟨toDigits_len_ge 10 m, len_dig k m hk hm⟩
theorem mul0 : ∀ k : Fin 4, (Txt.mul (Str.ofString "0") (k.val : Int)).cps.toList = List.replicate k.val 48 := by decide +kernel
theorem dv_rep : ∀ (k : Nat) (l : List Nat), NumText.digitsVal (List.replicate k 48 ++ l) = NumText.digitsVal l
  | 0, _ => rfl
  | k + 1, l => by
    have := dv_rep k l
    rw [List.replicate_succ, List.cons_append]
    simp only [NumText.digitsVal, List.foldl_cons] at *
    exact this
theorem pad4 {y : Int} (h0 : 1 ≤ y) (h1 : y ≤ 9999) : NumL (Txt.mul (Str.ofString "0") (4 - ((Str.ofString (toString y)).length : Nat)) ++ Str.ofString (toString y)).cps.toList y.toNat ∧
    (Txt.mul (Str.ofString "0") (4 - ((Str.ofString (toString y)).length : Nat)) ++ Str.ofString (toString y)).cps.toList.length = 4 := by
  obtain ⟨m, rfl⟩ := Int.eq_ofNat_of_zero_le (show 0 ≤ y by omega)
  have hl := len_text (m := m) (k := 4) (by decide) (by omega)
  have hn := numL_text m
  have hll : (Str.ofString (toString (m : Int))).length = (Str.ofString (toString (m : Int))).cps.toList.length := by rw [Array.length_toList]; rfl
  rw [hll]
  have e4 : (4 : Int) - ((Str.ofString (toString (m : Int))).cps.toList.length : Nat) = ((4 - (Str.ofString (toString (m : Int))).cps.toList.length : Nat) : Int) := by omega
  rw [e4]
  have hm := mul0 ⟨4 - (Str.ofString (toString (m : Int))).cps.toList.length, by omega⟩
  dsimp only at hm
  rw [Str.cps_append, Array.toList_append, hm]
  generalize (Str.ofString (toString (m : Int))).cps.toList = l at *
  refine ⟨⟨?_, ?_⟩, ?_⟩
  · have h2 := hn.fig
    unfold isFig at *
    rw [Bool.and_eq_true] at *
    refine ⟨?_, ?_⟩
    · cases l with
      | nil => simp at hl
      | cons => simp
    · rw [List.all_append, h2.2, Bool.and_true]
      rw [List.all_eq_true]
      intro c hc
      rw [List.eq_of_mem_replicate hc]; rfl
  · rw [dv_rep, hn.val]; simp
  · rw [List.length_append, List.length_replicate]; omega

-- part lwh
theorem hk_wd06e92ef : True := by
  (k_with "!subscriptTail Name BinOp ref int" => (refine Stop.out ?_))
  trivial
theorem join3 (a b c d e f : Nat) : Txt.join (Str.ofString ":") [tx [a, b], tx [c, d], tx [e, f]] = tx [a, b, 58, c, d, 58, e, f] := by
  rw [show Str.ofString ":" = ⟨#[58]⟩ from by decide +kernel]
  rfl
def monthsW : List Str := [Str.ofString "Mar", Str.ofString "Apr", Str.ofString "May", Str.ofString "Jun", Str.ofString "Jul", Str.ofString "Aug", Str.ofString "Sep", Str.ofString "Oct", Str.ofString "Nov", Str.ofString "Dec", Str.ofString "Jan", Str.ofString "Feb"]
theorem monthsW_len : ∀ k, k < 12 → (monthsW.getD k Str.empty).length = 3 := by decide +kernel
section
open PyProof.Rows.LCg
variable {prog : Program} {w : World} {A : Around} {E : Value → Shared → Prop} {s s₁ : Shared} {h₀ : Heap} {L : Addr} {m : Str → Option Value} {env : Env} {news : List (Addr × Obj)} {R : Nat → (Nat → Value → Prop) → (List (Addr × Obj) → Prop) → Shared → List (Addr × Obj) → Prop}
/-- a tuple of the ledger -/
theorem CW.ledT {ax : Addr} {its : Array Value} {k : Nat} (hh : A.handled = none) (F : Fr h₀ L s₁.heap m) (N : News h₀ L s₁.heap news) (hm : (ax, ({ cls := .type "tuple", data := .seq its k } : Obj)) ∈ news) (hz : its.size ≤ sizeLine)
    (h : ∀ g, R its.size (fun i v => its[i]? = some v) (fun nw => (ax, ({ cls := .type "tuple", data := .seq its k } : Obj)) ∈ nw) { s₁ with heap := g } news) : CW prog w A E h₀ L m R (.ref ax) s₁ := by
  have hl : s₁.heap.IsTuple ax its := ⟨_, (N _ hm).1, rfl, _, rfl⟩
  have hlt : ax < s₁.heap.objs.size := Heap.lt_size (N _ hm).1
  exact wpAny_pyIter_tuple hl (Src.new (fun nw => (ax, ({ cls := .type "tuple", data := .seq its k } : Obj)) ∈ nw) F N hz (Walks.tuple hh s₁.heap.objs.size ax (Nat.ne_of_lt hlt) its) (fun i h ⟨⟨o, e, _⟩, _⟩ => ⟨o, e⟩)
    (fun i h h' o nw ⟨⟨_, q, r⟩, _⟩ e e' k N' hS => ⟨⟨o, e', by rw [e] at q; cases q; exact r⟩, ⟨_, (N' _ hS).1, rfl, _, rfl⟩⟩) ⟨⟨_, Heap.get?_push_size _ rfl, rfl, rfl⟩, hl.at fun o e => Heap.get?_push_of_some _ e⟩
    (fun b hb => (List.mem_cons.mp hb).imp id fun hb => Nat.lt_of_le_of_lt (Nat.le_of_eq (List.mem_singleton.mp hb)) hlt) hm (h _))
end
/-- the text of a date's head -/
structure HeadS (z : Str) (y mo d ho mi se : Int) where
  dl : List Nat
  yl : List Nat
  eq : z.cps.toList = dl ++ [32] ++ (monthsW.getD ((mo + 9).fmod 12).toNat Str.empty).cps.toList ++ [32] ++ yl ++ [32] ++ [48 + ho.toNat / 10, 48 + ho.toNat % 10, 58, 48 + mi.toNat / 10, 48 + mi.toNat % 10, 58, 48 + se.toNat / 10, 48 + se.toNat % 10]
  dn : NumL dl d.toNat
  dl1 : 1 ≤ dl.length
  dl2 : dl.length ≤ 2
  yn : NumL yl y.toNat
  y4 : yl.length = 4
section
variable {w : World} {loose : List Str} {mean : ExcName → Option Value} {mg mb : Str → Option Value} {dp un : Nat} {gd : Option (List Code)} {cn : Str} {cs : Scope} {a : Addr} {ccd : Value} {cl : List (Str × Addr)} {outer : List Env} {A₀ : Around} {base h₀ : Heap} {L : Addr} {m : Str → Option Value} {s : Shared} {Q E : Value → Shared → Prop} {news : List (Addr × Obj)} {p : Program}
variable (B : Below A₀ base outer h₀) (F : Fr h₀ L s.heap m) (X : (K w.params).In h₀) (N : News h₀ L s.heap news) (T : Top p loose mean mg mb h₀) (hk : cs.kind = .function)
include B F X N T hk
local macro_rules | `(tactic| cell_enter) => `(tactic| k_extra "cellP")
local macro_rules | `(tactic| walk_at "storeName") => `(tactic| k_extra "storeP")
local macro_rules | `(tactic| k_steps) => `(tactic| k_extra "stepsP")
local macro_rules | `(tactic| walk_at "execs cons") => `(tactic| k_extra "execsP")
theorem head_c (hd : dp + 45 < recursionLimit) (hu : un + 180 < cLine) {x : Addr} {y mo d ho mi se : Int} {t1 t2 t3 t4 t5 t6 : Tok} (hx : (x, ({ cls := .type "tuple", data := .seq #[.int y t1, .int mo t2, .int d t3, .int ho t4, .int mi t5, .int se t6] } : Obj)) ∈ news)
    (y0 : 1 ≤ y) (y1 : y ≤ 9999) (m0 : 1 ≤ mo) (m1 : mo ≤ 12) (d0 : 1 ≤ d) (d1 : d ≤ 31) (h0 : 0 ≤ ho) (h1 : ho ≤ 23) (i0 : 0 ≤ mi) (i1 : mi ≤ 59) (s0 : 0 ≤ se) (s1 : se ≤ 59)
    (ret : ∀ z t h' tk', Nonempty (HeadS z y mo d ho mi se) → Fr h₀ L h' m → News h₀ L h' news → Q (.str z t) { s with heap := h', toks := tk' }) :
    wpAny (model PW w) (ktrTop dp un gd cn cs L a ccd cl outer) (call (.ref 391) [.ref x]) Q E s := by
  k_dflt cell_enter
  k_steps
  unfold Stop
  refine strs_item (xs := monthsW) (by k_asm) (by k_asm) (by k_is) (by repeat constructor) (by rw [fm _ (by decide)]; omega) (by rw [fm _ (by decide)]; show _ < (12 : Int); omega) (by decide) ?_
  intro t7
  have hmw : (monthsW.getD ((mo + 9).fmod 12).toNat Str.empty).length = 3 := monthsW_len _ (by rw [fm _ (by decide)]; omega)
  generalize hmwE : monthsW.getD ((mo + 9).fmod 12).toNat Str.empty = mw at *
  replace hmwE := PySem.Flt.Hid.mk hmwE
  have hyl : (Txt.mul (Str.ofString "0") (4 - ((Str.ofString (toString y)).length : Nat)) ++ Str.ofString (toString y)).length = 4 := by rw [← (pad4 y0 y1).2, Array.length_toList]; rfl
  have hyn := pad4 y0 y1
  generalize hyE : Txt.mul (Str.ofString "0") (4 - ((Str.ofString (toString y)).length : Nat)) ++ Str.ofString (toString y) = yw at *
  replace hyE := PySem.Flt.Hid.mk hyE
  have hdn : NumL (Str.ofString (toString d)).cps.toList d.toNat ∧ 1 ≤ (Str.ofString (toString d)).cps.toList.length ∧ (Str.ofString (toString d)).cps.toList.length ≤ 2 := by
    obtain ⟨m, rfl⟩ := Int.eq_ofNat_of_zero_le (show 0 ≤ d by omega)
    exact ⟨numL_text m, len_text (by decide) (by omega)⟩
  have hdl : (Str.ofString (toString d) ++ Str.ofString " ").length ≤ 3 := by
    have h1 : (Str.ofString (toString d)).cps.toList.length = (Str.ofString (toString d)).length := by rw [Array.length_toList]; rfl
    rw [Str.length_append, show (Str.ofString " ").length = 1 from by decide +kernel]; omega
  have hdc : (Str.ofString (toString d) ++ Str.ofString " ").cps.toList = (Str.ofString (toString d)).cps.toList ++ [32] := by
    rw [Str.cps_append, Array.toList_append]; rfl
  generalize hdE : Str.ofString (toString d) ++ Str.ofString " " = dw at *
  generalize (Str.ofString (toString d)).cps.toList = dl at *
  replace hdE := PySem.Flt.Hid.mk hdE
  have hS1 : StopM 1 := .mk
  k_steps
  all_goals (try unfold Stop)
  k_dflt (refine slice_tuple_from (a := 3) (s := ⟨_, _, _, _, _⟩) (by k_asm) (by k_asm) (News.isTup (by k_asm) hx) (by decide) (by simp) ?_ (by with_unfolding_all rfl) (by kmk_pure) (by simp [sizeLine_eq]))
  intro h5 F5 N5
  k_steps
  rename Fr _ _ _ _ => FF
  rename News _ _ _ _ => NN
  refine CW.ledT rfl FF NN (.head _) (by simp [sizeLine_eq]) ?_
  intro g
  refine rest_strs (ks := [ho, mi, se]) (fun n => tx [48 + n.toNat / 10, 48 + n.toNat % 10]) (fun n v => ∃ t, v = .int n t) (by rfl) ?_ ?_ ?_
  · intro i v hi hv
    have : i = 0 ∨ i = 1 ∨ i = 2 := by have : i < 3 := hi; omega
    rcases this with rfl | rfl | rfl
    · exact ⟨ho, rfl, t4, (Option.some.inj hv).symm⟩
    · exact ⟨mi, rfl, t5, (Option.some.inj hv).symm⟩
    · exact ⟨se, rfl, t6, (Option.some.inj hv).symm⟩
  · rintro n v I oI C oC D m₂ ys h tk E' hn ⟨u, rfl⟩ hC hx F' N' off ne
    have hn2 : 0 ≤ n ∧ n < 100 := by simp at hn; omega
    obtain ⟨hn3, hn4⟩ := hn2
    k_steps
    refine LCg.CompEnd.intro (by assumption) (by assumption) _ (by kcf_all) (by assumption) (.head _) ?_
    exact ⟨rfl, _, rfl⟩
  intro ys hys
  have hS5 : StopM 5 := .mk
  k_steps
  all_goals (try unfold Stop)
  refine join_list (News.isList (by k_asm) (by k_mem)) (by simpa using hys) ?_ ?_
  · simp [tx, Str.length, show (Str.ofString ":").cps.size = 1 from by decide +kernel]
  intro t6' k6
  have hjE := join3 (48 + ho.toNat / 10) (48 + ho.toNat % 10) (48 + mi.toNat / 10) (48 + mi.toNat % 10) (48 + se.toNat / 10) (48 + se.toNat % 10)
  dsimp only [List.map]
  rw [hjE]
  have hjl : (tx [48 + ho.toNat / 10, 48 + ho.toNat % 10, 58, 48 + mi.toNat / 10, 48 + mi.toNat % 10, 58, 48 + se.toNat / 10, 48 + se.toNat % 10]).length = 8 := rfl
  generalize hjE : tx [48 + ho.toNat / 10, 48 + ho.toNat % 10, 58, 48 + mi.toNat / 10, 48 + mi.toNat % 10, 58, 48 + se.toNat / 10, 48 + se.toNat % 10] = jw at *
  replace hjE := PySem.Flt.Hid.mk hjE
  k_steps
  refine ret _ _ _ _ ⟨⟨dl, yw.cps.toList, ?_, hdn.1, hdn.2.1, hdn.2.2, hyn.1, hyn.2⟩⟩ (by k_asm) (by k_extra "!nw")
  have h32 : (Str.ofString " ").cps.toList = [32] := by decide +kernel
  rw [← hjE.out, ← hmwE.out] at *
  simp only [Str.cps_append, Array.toList_append, hdc, h32]
  rfl
end
theorem hk_head_c : True := by
  (k_with "mc" => (k_here; (with_reducible show wpAny _ _ (call (Value.ref 391) _) _ _ _); k_dflt (refine head_c (by k_asm) (by k_asm) (by k_asm) (by k_extra "!nwN") (by k_asm) (by k_extra "!pre fn") (by ktr_room) (by ktr_units) (by k_extra "!pre mem") (by k_extra "!pre") (by k_extra "!pre") (by k_extra "!pre") (by k_extra "!pre") (by k_extra "!pre") (by k_extra "!pre") (by k_extra "!pre") (by k_extra "!pre") (by k_extra "!pre") (by k_extra "!pre") (by k_extra "!pre") (by k_extra "!pre") ?_); k_whole; intro z9 t9 h9 tk9 g9 F9 N9; (try k_sweep); (try dsimp only)))
  trivial

-- part lwr
theorem News.sw1 {h₀ h : Heap} {L : Addr} {a x : Addr × Obj} {r : List (Addr × Obj)} (N : News h₀ L h (a :: x :: r)) : News h₀ L h (x :: a :: r) := fun q hq => N q (by simp only [List.mem_cons] at hq ⊢; rcases hq with h | h | h <;> simp [h])
theorem News.sw2 {h₀ h : Heap} {L : Addr} {a b x : Addr × Obj} {r : List (Addr × Obj)} (N : News h₀ L h (a :: b :: x :: r)) : News h₀ L h (x :: a :: b :: r) := fun q hq => N q (by simp only [List.mem_cons] at hq ⊢; rcases hq with h | h | h | h <;> simp [h])
theorem News.sw3 {h₀ h : Heap} {L : Addr} {a b c x : Addr × Obj} {r : List (Addr × Obj)} (N : News h₀ L h (a :: b :: c :: x :: r)) : News h₀ L h (x :: a :: b :: c :: r) := fun q hq => N q (by simp only [List.mem_cons] at hq ⊢; rcases hq with h | h | h | h | h <;> simp [h])
theorem News.sw4 {h₀ h : Heap} {L : Addr} {a b c d x : Addr × Obj} {r : List (Addr × Obj)} (N : News h₀ L h (a :: b :: c :: d :: x :: r)) : News h₀ L h (x :: a :: b :: c :: d :: r) := fun q hq => N q (by simp only [List.mem_cons] at hq ⊢; rcases hq with h | h | h | h | h | h <;> simp [h])
theorem off1_all {D : Addr} {l : List (Addr × Obj)} (h : LCg.Off1 D l) : ∀ p ∈ l, p.1 ≠ D := fun p hp => by
  induction hp with
  | head => exact h.1
  | tail _ _ ih => exact ih h.2
theorem off1_tl {D D5 : Addr} {news : List (Addr × Obj)} (h : (@Ne Nat D5 D) ∧ LCg.Off1 D news) : ∀ p ∈ news, p.1 ≠ D := off1_all h.2
theorem lt3 {D D5 R : Addr} {news : List (Addr × Obj)} (h : @LT.lt Nat _ D R ∧ @LT.lt Nat _ D5 R ∧ AllLt R news) : D < R ∧ AllLt R news := ⟨h.1, h.2.2⟩
theorem fmodp (x : Int) {m : Int} (h : 1 ≤ m) : 0 ≤ x.fmod m ∧ x.fmod m < m := by
  rw [fm x (by omega)]
  exact ⟨Int.emod_nonneg _ (by omega), Int.emod_lt_of_pos _ (by omega)⟩
theorem fdivp {x m : Int} (h0 : 0 ≤ x) (h : 1 ≤ m) : 0 ≤ x.fdiv m := by
  rw [fd x (by omega)]
  exact Int.ediv_nonneg h0 (by omega)
def DrawOk (i bt sd : Int) : Prop := 0 ≤ i ∧ i ≤ 40 ∧ -1 ≤ bt ∧ 0 ≤ sd ∧ sd < 2147483700
theorem hk_w5d0df7db : True := by
  (k_with "!subscriptTail Name Constant ref int" => (k_here; (with_reducible show wpAny _ _ (subscriptTail _ _ (Value.ref _) (Value.int _ _)) _ _ _); (with_reducible refine item_litK (by k_dflt (exact News.isList (by k_asm) (by news_mem))) (by k_dflt decide) (by k_dflt decide) (by k_dflt rfl) ?_ (by with_unfolding_all rfl)); k_whole))
  trivial
section
variable {w : World} {loose : List Str} {mean : ExcName → Option Value} {mg mb : Str → Option Value} {dp un : Nat} {gd : Option (List Code)} {cn : Str} {cs : Scope} {a : Addr} {ccd : Value} {cl : List (Str × Addr)} {outer : List Env} {A₀ : Around} {base h₀ : Heap} {L : Addr} {m : Str → Option Value} {s : Shared} {Q E : Value → Shared → Prop} {news : List (Addr × Obj)} {p : Program}
variable (B : Below A₀ base outer h₀) (F : Fr h₀ L s.heap m) (X : (K w.params).In h₀) (N : News h₀ L s.heap news) (T : Top p loose mean mg mb h₀) (hk : cs.kind = .function)
include B F X N T hk
theorem reel_c (hd : dp + 45 < recursionLimit) (hu : un + 180 < cLine) {lx : Addr} {vs : List Value} {ns : List Int} (hl : h₀.IsList lx vs.toArray) (hi : IntsAre vs ns) (hlen : ns.length ≤ 63)
    (ret : ∀ R C cvs ks c0 c1 sd t1 t2 t3 h' tk', IntsAre cvs ks → (∀ k ∈ ks, 0 ≤ k) → ks.length ≤ 40 → DrawOk 0 (-1) sd → Fr h₀ L h' m → News h₀ L h' ((R, W.listOf [.ref C, .int 0 t1, .int (-1) t2, .int sd t3].toArray c1) :: (C, W.listOf cvs.toArray c0) :: news) → (C < R ∧ AllLt R news ∧ ∀ p ∈ news, p.1 ≠ C) → Q (.ref R) { s with heap := h', toks := tk' }) :
    wpAny (model PW w) (ktrTop dp un gd cn cs L a ccd cl outer) (call (.ref 353) [.ref lx]) Q E s := by
  k_dflt cell_enter
  have hS1 : StopM 1 := .mk
  k_steps
  all_goals (try unfold Stop)
  rename Fr _ _ _ _ => FF
  rename Fr h₀ L _ m => FG
  have hlg := hl.at fun o e => FG.keep _ o e
  have hlh := hlg.at fun o e => FF.keep _ o e
  k_dflt (refine kmk_slice (s := ⟨_, _, _, _, _⟩) FF (by k_asm) hlh (by constructor) (by constructor) ?_ (by with_unfolding_all rfl) (by kmk_pure) (by rw [List.size_toArray, hi.length, sizeLine_eq]; omega))
  intro D5 h5 F5 N5 l5
  k_steps
  rename Fr _ _ _ _ => FZ
  rename News _ _ _ _ => NZ
  have hsl : IntsAre (slicePick vs.toArray none (some 40) none).toList (ns.take 40) := by
    rw [slicePick_plain]
    simp only [Option.elim, List.drop_zero, Nat.sub_zero]
    rw [show (40 : Int) = ((40 : Nat) : Int) from rfl, clipAt_nat]
    have e : vs.take (min 40 vs.length) = vs.take 40 := by
      rcases Nat.le_total 40 vs.length with h | h
      · rw [Nat.min_eq_left h]
      · rw [Nat.min_eq_right h, List.take_of_length_le (Nat.le_refl _), List.take_of_length_le h]
    simp only [List.size_toArray, e]
    exact hi.take 40
  have hsz := hsl.length
  rw [Array.length_toList] at hsz
  refine CW.led rfl FZ NZ (.head _) (by rw [hsz, List.length_take, sizeLine_eq]; omega) ?_
  intro g
  refine rest_ints (ks := ns.take 40) (fun k => (if k < 0 then -k else k).fmod (10 ^ Int.toNat 60)) (fun k v => ∃ t, v = .int k t) (by rw [hsz]) ?_ ?_ ?_
  · intro i v hi' hv
    rw [hsz] at hi'
    obtain ⟨t, ht⟩ := hsl.get i (ns.take 40)[i] (List.getElem?_eq_getElem hi')
    have hv' : (slicePick vs.toArray none (some 40) none).toList[i]? = some v := by simpa using hv
    rw [ht] at hv'
    exact ⟨_, List.getElem?_eq_getElem hi', t, (Option.some.inj hv').symm⟩
  · rintro k v I oI C oC D m₂ ys h tk E' hk ⟨u, rfl⟩ hC hx F' N' off ne
    k_steps
    refine LCg.CompEnd.intro (by assumption) (by assumption) _ (by kcf_all) (by assumption) (.inr ⟨_, .head _, rfl, _, rfl⟩) ?_
    exact ⟨rfl, _, rfl⟩
  intro ys hys
  k_steps
  have h60 : (1 : Int) ≤ 10 ^ Int.toNat 60 := by decide
  refine ret _ _ _ _ _ _ _ _ _ _ _ _ hys ?_ (by rw [List.length_map, List.length_take]; omega) ?_ (by k_asm) (by k_extra "!nw") ?_
  · intro k hk
    obtain ⟨q, -, rfl⟩ := List.mem_map.mp hk
    exact (fmodp _ h60).1
  · have q := fmodp ((ns.take 40).map (fun k => (if k < 0 then -k else k).fmod (10 ^ Int.toNat 60))).sum (m := 2147483629) (by decide)
    exact ⟨by decide, by decide, by decide, by omega, by omega⟩
  · have q3 := lt3 (D5 := D5) (by assumption)
    exact ⟨q3.1, q3.2, off1_tl (D5 := D5) (by assumption)⟩
theorem hk_reel_c : True := by
  (k_with "mc" => (k_here; (with_reducible show wpAny _ _ (call (Value.ref 353) _) _ _ _); k_dflt (refine reel_c (by k_asm) (by k_asm) (by k_asm) (by k_extra "!nwN") (by k_asm) (by k_extra "!pre fn") (by ktr_room) (by ktr_units) (by k_extra "!pre") (by k_extra "!pre") (by k_extra "!pre") ?_); k_whole; intro R9 C9 cvs9 ks9 c9 c8 sd9 t9 t8 t7 h9 tk9 i1 i2 i3 i4 F9 N9 l9; (obtain ⟨l7, l8, l6⟩ := l9); (try (simp only [AllLt, and_true] at l8)); (try (replace l6 := neN (l6 _ (List.Mem.head _)); dsimp only at l6)); (try k_sweep); (try dsimp only)))
  trivial
theorem draw_c (hd : dp + 45 < recursionLimit) (hu : un + 180 < cLine) {Rl C : Addr} {cvs : List Value} {ks : List Int} {c0 c1 : Nat} {i bt sd most : Int} {t1 t2 t3 t : Tok} {nws : List (Addr × Obj)} (N : News h₀ L s.heap ((Rl, W.listOf [.ref C, .int i t1, .int bt t2, .int sd t3].toArray c1) :: nws)) (hC : (C, W.listOf cvs.toArray c0) ∈ nws) (off : ∀ p ∈ nws, p.1 ≠ Rl) (hi : IntsAre cvs ks) (hk0 : ∀ k ∈ ks, 0 ≤ k) (hkl : ks.length ≤ 40)
    (ok : DrawOk i bt sd) (m0 : 1 ≤ most) (m1 : most < 5000000)
    (ret : ∀ d t i' bt' sd' t1 t2 t3 h' tk', 0 ≤ d → d < most → DrawOk i' bt' sd' → Fr h₀ L h' m → News h₀ L h' ((Rl, W.listOf [.ref C, .int i' t1, .int bt' t2, .int sd' t3].toArray c1) :: nws) → Q (.int d t) { s with heap := h', toks := tk' }) :
    wpAny (model PW w) (ktrTop dp un gd cn cs L a ccd cl outer) (call (.ref 360) [.ref Rl, .int most t]) Q E s := by
  obtain ⟨i0, i1, b0, s0, s1⟩ := ok
  have hlc : cvs.length ≤ 10000 := by rw [hi.length]; omega
  have hcl := hi.length
  k_dflt cell_enter
  have hS1 : StopM 1 := .mk
  k_steps
  all_goals (try unfold Stop)
  · have hil : i.toNat < ks.length := by omega
    obtain ⟨tz, hz⟩ := hi.get i.toNat ks[i.toNat] (List.getElem?_eq_getElem hil)
    have hz0 := hk0 _ (List.getElem_mem hil)
    generalize ks[i.toNat] = kz at *
    k_dflt (refine' my_item ?k1 ?k2 ?k3 ?k4 ?_ ?k6; (case k1 => exact News.isList (by k_asm) (by k_extra "!bsm")); (case k2 => omega); (case k3 => omega); (case k4 => exact hz); (case k6 => with_unfolding_all rfl))
    k_steps
    all_goals (refine ret _ _ _ _ _ _ _ _ _ _ ?_ ?_ ?_ (by k_asm) (by k_asm))
    all_goals first
      | exact (fmodp _ m0).1
      | exact (fmodp _ m0).2
      | exact ⟨by omega, by omega, Int.le_trans (by decide) (fdivp (by omega) m0), s0, s1⟩
      | exact ⟨by omega, by omega, by decide, s0, s1⟩
      | exact ⟨i0, i1, b0, (fmodp _ (by decide)).1, Int.lt_trans (fmodp _ (by decide)).2 (by decide)⟩
  all_goals (refine ret _ _ _ _ _ _ _ _ _ _ ?_ ?_ ?_ (by k_asm) (by k_asm))
  all_goals first
    | exact (fmodp _ m0).1
    | exact (fmodp _ m0).2
    | exact ⟨by omega, by omega, Int.le_trans (by decide) (fdivp (by omega) m0), s0, s1⟩
    | exact ⟨by omega, by omega, by decide, s0, s1⟩
    | exact ⟨i0, i1, b0, (fmodp _ (by decide)).1, Int.lt_trans (fmodp _ (by decide)).2 (by decide)⟩
end
theorem hk_w981f935e : True := by
  (k_with "!off" => first | assumption | k_all)
  trivial
theorem hk_wcec35f69 : True := by
  (k_with "!nwQ" => first | k_asm | exact News.sw1 (by k_asm) | exact News.sw2 (by k_asm) | exact News.sw3 (by k_asm) | exact News.sw4 (by k_asm))
  trivial
theorem hk_w568c2065 : True := by
  (k_with "mc" => (k_here; (with_reducible show wpAny _ _ (call (Value.ref 360) _) _ _ _); k_dflt (refine draw_c (by k_asm) (by k_asm) (by k_asm) (by k_asm) (by k_asm) (by k_extra "!pre fn") (by ktr_room) (by ktr_units) (by k_extra "!nwQ") (by k_extra "!bsm") (by k_extra "!off") (by assumption) (by assumption) (by assumption) (by assumption) (by k_extra "!pre") (by k_extra "!pre") ?_); k_whole; intro d9 t9 i9 bt9 sd9 u1 u2 u3 h9 tk9 g1 g2 g3 F9 N9; (try k_sweep); (try dsimp only)))
  trivial

-- part lwk
theorem hk_wec4bc7ab : True := by
  (k_with "!cellC" => (refine' code_defC ?k1 ?k2 ?k3 ?k4 ?k5 ?kA ?kF ?kK ?k6 ?k7 ?k8 ?k9 ?kB ?kD ?_ ?c2 ?c3 ?c4; (case kA => exact rfl); (case kF => exact rfl); (case kK => assumption); (case k1 => k_asm); (case k2 => k_asm); (case k3 => k_asm); (case k4 => k_asm); (case k5 => k_asm); (case k6 => k_is); (case k7 => k_is); (case k8 => ktr_room); (case k9 => exact BindsTo.of_eq rfl); (case kB => exact rfl); (case kD => decide +kernel); (case c2 => exact rfl); (case c3 => exact rfl); (case c4 => exact rfl); k_whole; intro g₇ L₇ h₇ tk₇ cells₇ FG₇ F₇ N₇ Y₇ B₇ X₇ T₇ l1; (try k_lt l1); k_cells Y₇; (try simp only [List.cons_append, List.nil_append] at N₇); (try dsimp only); (try k_lift B₇); (try k_fold)))
  trivial
theorem up_one : ∀ c : Fin 26, Txt.upper ⟨#[97 + c.val]⟩ = ⟨#[65 + c.val]⟩ := by decide +kernel
def caseN (d : Int) (x : Str) (k : Nat) : Nat := if (d.fdiv (2 ^ ((k : Nat) : Int).toNat)).fmod 2 = 1 then x.cps.toList.getD k 0 - 32 else x.cps.toList.getD k 0
theorem case_at {d : Int} {x : Str} {k : Nat} (h0 : ∀ c ∈ x.cps.toList, 97 ≤ c ∧ c ≤ 122) (hk : k < x.length) :
    (if (d.fdiv (2 ^ ((k : Nat) : Int).toNat)).fmod 2 = 1 then Txt.upper (Txt.item x k) else Txt.item x k) = ⟨#[caseN d x k]⟩ := by
  have hl : k < x.cps.toList.length := by rw [Array.length_toList]; exact hk
  have hi : Txt.item x k = ⟨#[x.cps.toList.getD k 0]⟩ := item_meets (by omega) (by rw [← Array.getElem?_toList, Int.toNat_natCast, List.getD_eq_getElem?_getD, List.getElem?_eq_getElem hl]; rfl)
  have hc := h0 (x.cps.toList.getD k 0) (by rw [List.getD_eq_getElem?_getD, List.getElem?_eq_getElem hl]; exact List.getElem_mem hl)
  unfold caseN
  rw [hi]
  generalize x.cps.toList.getD k 0 = c at *
  split
  · have := up_one ⟨c - 97, by omega⟩
    dsimp only at this
    rw [show 97 + (c - 97) = c by omega] at this
    rw [this, show 65 + (c - 97) = c - 32 by omega]
  · rfl
theorem range_getD (l : List Nat) : (List.range l.length).map (fun k => l.getD k 0) = l := by
  apply List.ext_getElem
  · simp
  · intro i h1 h2
    simp [List.getD_eq_getElem?_getD, h2]
theorem News.cas {h₀ h : Heap} {L : Addr} {a b c x : Addr × Obj} {r : List (Addr × Obj)} (N : News h₀ L h (a :: x :: b :: c :: r)) : News h₀ L h (x :: r) := fun q hq => N q (by simp only [List.mem_cons] at hq ⊢; rcases hq with h | h <;> simp [h])
theorem case_in {d : Int} {x : Str} {k : Nat} (h0 : ∀ c ∈ x.cps.toList, 97 ≤ c ∧ c ≤ 122) (hk : k < x.length) : lowN (caseN d x k) = x.cps.toList.getD k 0 ∧ ((97 ≤ caseN d x k ∧ caseN d x k ≤ 122) ∨ (65 ≤ caseN d x k ∧ caseN d x k ≤ 90)) := by
  have hl : k < x.cps.toList.length := by rw [Array.length_toList]; exact hk
  have hc := h0 (x.cps.toList.getD k 0) (by rw [List.getD_eq_getElem?_getD, List.getElem?_eq_getElem hl]; exact List.getElem_mem hl)
  unfold caseN lowN
  generalize x.cps.toList.getD k 0 = c at *
  split <;> split <;> omega
section
variable {w : World} {loose : List Str} {mean : ExcName → Option Value} {mg mb : Str → Option Value} {dp un : Nat} {gd : Option (List Code)} {cn : Str} {cs : Scope} {a : Addr} {ccd : Value} {cl : List (Str × Addr)} {outer : List Env} {A₀ : Around} {base h₀ : Heap} {L : Addr} {m : Str → Option Value} {s : Shared} {Q E : Value → Shared → Prop} {p : Program} {Rl C : Addr} {cvs : List Value} {ks : List Int} {c0 c1 : Nat} {i bt sd : Int} {t1 t2 t3 : Tok} {nws : List (Addr × Obj)}
variable (B : Below A₀ base outer h₀) (F : Fr h₀ L s.heap m) (X : (K w.params).In h₀) (N : News h₀ L s.heap ((Rl, W.listOf [.ref C, .int i t1, .int bt t2, .int sd t3].toArray c1) :: nws)) (T : Top p loose mean mg mb h₀) (hk : cs.kind = .function) (hC : (C, W.listOf cvs.toArray c0) ∈ nws) (off : ∀ p ∈ nws, p.1 ≠ Rl) (hi : IntsAre cvs ks) (hk0 : ∀ k ∈ ks, 0 ≤ k) (hkl : ks.length ≤ 40) (ok : DrawOk i bt sd)
include B F X N T hk hC off hi hk0 hkl ok
theorem cased_c (hd : dp + 75 < recursionLimit) (hu : un + 300 < cLine) {x : Str} {t : Tok} (h0 : ∀ c ∈ x.cps.toList, 97 ≤ c ∧ c ≤ 122) (h1 : x.length ≤ 6)
    (ret : ∀ z t i' bt' sd' t1 t2 t3 h' tk', lowerT z = x → z.length = x.length → (∀ c ∈ z.cps.toList, (97 ≤ c ∧ c ≤ 122) ∨ (65 ≤ c ∧ c ≤ 90)) → DrawOk i' bt' sd' → Fr h₀ L h' m → News h₀ L h' ((Rl, W.listOf [.ref C, .int i' t1, .int bt' t2, .int sd' t3].toArray c1) :: nws) → Q (.str z t) { s with heap := h', toks := tk' }) :
    wpAny (model PW w) (ktrTop dp un gd cn cs L a ccd cl outer) (call (.ref 365) [.ref Rl, .str x t]) Q E s := by
  have hpw : ∀ k : Nat, k ≤ 6 → (1 : Int) ≤ 2 ^ k ∧ (2 : Int) ^ k < 5000000 := by decide
  have hp1 : (1 : Int) ≤ 2 ^ ((x.length : Nat) : Int).toNat := (hpw _ (by omega)).1
  have hp2 : (2 : Int) ^ ((x.length : Nat) : Int).toNat < 5000000 := (hpw _ (by omega)).2
  refine wpAny_call ?_
  k_dflt (refine' code_defC ?k1 ?k2 ?k3 ?k4 ?k5 ?kA ?kF ?kK ?k6 ?k7 ?k8 ?k9 ?kB ?kD ?_ ?c2 ?c3 ?c4; (case kA => exact rfl); (case kF => exact rfl); (case kK => assumption); (case k1 => k_asm); (case k2 => k_asm); (case k3 => k_asm); (case k4 => k_asm); (case k5 => k_asm); (case k6 => k_is); (case k7 => k_is); (case k8 => ktr_room); (case k9 => exact BindsTo.of_eq rfl); (case kB => exact rfl); (case kD => decide +kernel); (case c2 => exact rfl); (case c3 => exact rfl); (case c4 => exact rfl); k_whole)
  intro g' L9 h3 tk3 cells3 FG F3 N3 Y3 B3 X3 T3 l3
  have hc1 : ∀ p ∈ nws, p.1 ≠ L9 + 1 := fun p hp => Nat.ne_of_lt (Nat.lt_succ_of_lt (l3 p (.tail _ hp)))
  have hc2 : ∀ p ∈ nws, p.1 ≠ L9 + 1 + 1 := fun p hp => Nat.ne_of_lt (Nat.lt_succ_of_lt (Nat.lt_succ_of_lt (l3 p (.tail _ hp))))
  k_lt l3
  k_cells Y3
  (try simp only [List.cons_append, List.nil_append] at N3)
  (try dsimp only)
  (try k_lift B3)
  (try k_fold)
  k_steps
  rename Fr _ _ _ _ => FZ
  rename News _ _ _ _ => NZ
  refine CW.range (n := x.length) rfl FZ NZ (by assumption) (small_one (by decide) (by decide) (by omega) (by omega)) (by simpa using rangeSize_nat 0 x.length) (by rw [sizeLine_eq]; omega) ?_
  intro g
  refine rest_strs (ks := List.range x.length) (fun k => if (d9.fdiv (2 ^ ((k : Nat) : Int).toNat)).fmod 2 = 1 then Txt.upper (Txt.item x k) else Txt.item x k) (fun k v => k < x.length ∧ ∃ t, v = .int (k : Int) t) (by simp) ?_ ?_ ?_
  · rintro k v hk ⟨t, rfl⟩
    exact ⟨k, by simp [hk], hk, t, by simp⟩
  · rintro k v I oI C' oC D m₂ ys h tk E' hk ⟨hkl2, u, rfl⟩ hC' hx F' N' off' ne
    have hpk : ∀ k : Nat, k ≤ 6 → (1 : Int) ≤ 2 ^ k ∧ (2 : Int) ^ k < 5000000 := hpw
    k_steps
    all_goals k_extra "!ce"
    · exact ⟨rfl, _, by rw [if_pos (by assumption)]⟩
    · exact ⟨rfl, _, by rw [if_neg (by assumption)]⟩
  intro ys hys
  rw [List.map_congr_left (g := fun k => (⟨#[caseN d9 x k]⟩ : Str)) (fun k hk => case_at h0 (by simpa using hk))] at hys
  have hS5 : StopM 5 := .mk
  k_steps
  all_goals (try unfold Stop)
  refine join_list (News.isList (by k_asm) (by k_mem)) (by simpa using hys) ?_ ?_
  · rw [sum_ones, show (Str.ofString "").length = 0 from by decide +kernel, Nat.mul_zero, List.length_range]; show x.length + 0 ≤ 16777216; omega
  intro t' k'
  rw [join_map_ones]
  k_steps
  have hxl : x.cps.toList.length = x.length := by rw [Array.length_toList]; rfl
  refine ret _ _ _ _ _ _ _ _ _ _ ?_ ?_ ?_ g3 (by k_asm) (News.cas (by k_asm))
  · refine Str.ext' (Array.toList_inj.mp ?_)
    show ((tx (List.map (caseN d9 x) (List.range x.length))).cps.toList.map lowN) = x.cps.toList
    rw [show (tx (List.map (caseN d9 x) (List.range x.length))).cps.toList = List.map (caseN d9 x) (List.range x.length) by simp [tx], List.map_map]
    have e : List.map (lowN ∘ caseN d9 x) (List.range x.length) = List.map (fun k => x.cps.toList.getD k 0) (List.range x.length) := List.map_congr_left fun k hk => (case_in h0 (by simpa using hk)).1
    rw [e, ← hxl]
    exact range_getD _
  · simp [tx, Str.length]
  · intro c hc
    rw [show (tx (List.map (caseN d9 x) (List.range x.length))).cps.toList = List.map (caseN d9 x) (List.range x.length) by simp [tx]] at hc
    obtain ⟨k, hk, rfl⟩ := List.mem_map.mp hc
    exact (case_in h0 (by simpa using hk)).2
end
theorem hk_w075d6f3d : True := by
  (k_with "mc" => (k_here; (with_reducible show wpAny _ _ (call (Value.ref 365) _) _ _ _); k_dflt (refine cased_c (by k_asm) (by k_asm) (by k_asm) (by k_extra "!nwQ") (by k_asm) (by k_extra "!pre fn") (by k_extra "!bsm") (by k_extra "!off") (by assumption) (by assumption) (by assumption) (by assumption) (by ktr_room) (by ktr_units) (by k_extra "!pre") (by k_extra "!pre") ?_); k_whole; intro z9 t9 i9 bt9 sd9 u1 u2 u3 h9 tk9 g1 g2 g3 g4 F9 N9; (try k_sweep); (try dsimp only)))
  trivial

-- part lwt
/-- what is left, white first: its tokens without comments -/
def TW (r : List UInt8) (n : Nat) (l : List Tk) : Prop := ∃ f k0 l', whiteF f r = some k0 ∧ TS (r.drop k0) (n + k0) l' ∧ l'.filter noCmt = l
theorem TW.nil (n : Nat) : TW [] n [] := ⟨1, 0, [], rfl, .done, rfl⟩
theorem TW.white {r : List UInt8} {n : Nat} {l : List Tk} {c : UInt8} (hc : c = 9 ∨ c = 32) (h : TW r (n + 1) l) : TW (c :: r) n l := by
  obtain ⟨f, k0, l', h1, h2, h3⟩ := h
  refine ⟨f + 1, k0 + 1, l', by simp only [whiteF, if_pos hc, h1]; rfl, ?_, h3⟩
  rw [List.drop_succ_cons, show n + (k0 + 1) = n + 1 + k0 by omega]
  exact h2
theorem TW.crlf {r : List UInt8} {n : Nat} {l : List Tk} (h : TW r (n + 2) l) : TW (13 :: 10 :: r) n l := by
  obtain ⟨f, k0, l', h1, h2, h3⟩ := h
  have hle : lineEnd (13 :: 10 :: r) = some 2 := by unfold lineEnd; simp
  refine ⟨f + 1, k0 + 2, l', ?_, ?_, h3⟩
  · simp only [whiteF, hle]
    rw [if_neg (by decide)]
    simp [h1]
  · rw [show n + (k0 + 2) = n + 2 + k0 by omega]
    exact h2
/-- a token that is no comment, and one that is -/
theorem TW.tok {r : List UInt8} {n k : Nat} {l : List Tk} {kd : Str} {wr : Option (List UInt8)} {c : UInt8} {r' : List UInt8} (e : r = c :: r') (hw : ¬ (c = 9 ∨ c = 32)) (hl : lineEnd r = none) (ht : TokAt r kd wr k) (h : TW (r.drop k) (n + k) l) :
    TW r n (if noCmt (kd, wr, n) = true then (kd, wr, n) :: l else l) := by
  obtain ⟨f, k0, l', h1, h2, h3⟩ := h
  refine ⟨1, 0, (kd, wr, n) :: l', ?_, ?_, ?_⟩
  · subst e; simp only [whiteF, if_neg hw, hl]
  · rw [List.drop_zero, Nat.add_zero]
    refine TS.more ht h1 ?_
    rw [← List.drop_drop]
    exact h2
  · rw [List.filter_cons, h3]
theorem noCmt_atom (wr : Option (List UInt8)) (n : Nat) : noCmt (Str.ofString "atom", wr, n) = true := by show (Str.ofString "atom" != Str.ofString "comment") = true; decide +kernel
theorem noCmt_sign (wr : Option (List UInt8)) (n : Nat) : noCmt (Str.ofString "sign", wr, n) = true := by show (Str.ofString "sign" != Str.ofString "comment") = true; decide +kernel
theorem noCmt_quoted (wr : Option (List UInt8)) (n : Nat) : noCmt (Str.ofString "quoted", wr, n) = true := by show (Str.ofString "quoted" != Str.ofString "comment") = true; decide +kernel
theorem noCmt_comment (wr : Option (List UInt8)) (n : Nat) : noCmt (Str.ofString "comment", wr, n) = false := by show (Str.ofString "comment" != Str.ofString "comment") = false; decide +kernel
theorem atom_notwhite : ∀ c : Fin 256, isAtom (UInt8.ofNat c.val) = true → ¬ (UInt8.ofNat c.val = 9 ∨ UInt8.ofNat c.val = 32) ∧ UInt8.ofNat c.val ≠ 10 ∧ UInt8.ofNat c.val ≠ 13 := by decide +kernel
theorem notwhite {c : UInt8} (h : isAtom c = true) : ¬ (c = 9 ∨ c = 32) ∧ c ≠ 10 ∧ c ≠ 13 := by
  have := atom_notwhite ⟨c.toNat, c.toNat_lt⟩
  simp only [UInt8.ofNat_toNat] at this
  exact this h
theorem lineEnd_no {c : UInt8} {r : List UInt8} (h : c ≠ 10 ∧ c ≠ 13) : lineEnd (c :: r) = none := by
  unfold lineEnd
  rw [if_neg (by simp [h.1]), if_neg]
  intro e
  cases r <;> simp [h.2] at e
/-- a word of atoms -/
theorem TW.word {w r : List UInt8} {n : Nat} {l : List Tk} (hw : ∀ c ∈ w, isAtom c = true) (h0 : w ≠ []) (hr : r.takeWhile isAtom = []) (h : TW r (n + w.length) l) : TW (w ++ r) n ((Str.ofString "atom", some w, n) :: l) := by
  rcases w with _ | ⟨c, w⟩
  · exact absurd rfl h0
  have hc := notwhite (hw c (.head _))
  have ht : (c :: (w ++ r)).takeWhile isAtom = c :: w := by
    rw [← List.cons_append, List.takeWhile_append_of_pos hw, hr, List.append_nil]
  have ha : aLen (c :: (w ++ r)) = (c :: w).length := by unfold aLen; rw [ht]
  have hk := TokAt.atom (c := c) (r := w ++ r) (hw c (.head _))
  rw [ht, ha] at hk
  have hh := TW.tok (n := n) (l := l) rfl hc.1 (lineEnd_no hc.2) hk (by rw [← List.cons_append, List.drop_left]; exact h)
  rw [if_pos (noCmt_atom _ _)] at hh
  exact hh
theorem TW.colon {r : List UInt8} {n : Nat} {l : List Tk} (h : TW r (n + 1) l) : TW (58 :: r) n ((Str.ofString "sign", some [58], n) :: l) := by
  have hk := TokAt.sign (c := 58) (r := r) (by decide +kernel)
  have hh := TW.tok (n := n) (l := l) rfl (by decide) (lineEnd_no (by decide)) hk h
  rw [if_pos (noCmt_sign _ _)] at hh
  exact hh
theorem TW.comment {c r : List UInt8} {n : Nat} {l : List Tk} {f : Nat} (hc : cmt f 1 (c ++ r) = some c.length) (h : TW r (n + (1 + c.length)) l) : TW (40 :: (c ++ r)) n l := by
  have hk := TokAt.comment hc
  have hh := TW.tok (n := n) (l := l) rfl (by decide) (lineEnd_no (by decide)) hk (by rw [Nat.add_comm 1, List.drop_succ_cons, List.drop_left]; rw [Nat.add_comm 1] at h; exact h)
  rw [noCmt_comment, if_neg (by decide)] at hh
  exact hh
def gapsL : List (List UInt8) := [[32], [40, 80, 68, 84, 41], [32, 40, 97, 32, 40, 98, 41, 32, 92, 41, 32, 41, 13, 10, 32], [9], [13, 10, 32], [32, 32]]
theorem TW.gap {g r : List UInt8} {n : Nat} {l : List Tk} (hg : g ∈ gapsL) (h : TW r (n + g.length) l) : TW (g ++ r) n l := by
  simp only [gapsL, List.mem_cons, List.not_mem_nil, or_false] at hg
  rcases hg with rfl | rfl | rfl | rfl | rfl | rfl
  · exact TW.white (.inr rfl) h
  · exact TW.comment (c := [80, 68, 84, 41]) (f := 10) (by with_unfolding_all rfl) h
  · refine TW.white (.inr rfl) (TW.comment (c := [97, 32, 40, 98, 41, 32, 92, 41, 32, 41]) (f := 20) (by with_unfolding_all rfl) (TW.crlf (TW.white (.inr rfl) ?_)))
    exact h
  · exact TW.white (.inl rfl) h
  · exact TW.crlf (TW.white (.inr rfl) h)
  · exact TW.white (.inr rfl) (TW.white (.inr rfl) h)

-- part liz
theorem hk_w9ef5e08f : True := by
  (k_with "!subscriptTail Name Call ref int" => (refine Stop.out ?_))
  trivial
def gapsW : List Str := [Str.ofString " ", Str.ofString "(PDT)", Str.ofString " (a (b) \\) )\r\n ", Str.ofString "\t", Str.ofString "\r\n ", Str.ofString "  "]
theorem gapsW_facts : ∀ k, k < 6 → (gapsW.getD k Str.empty).length ≤ 15 ∧ 1 ≤ (gapsW.getD k Str.empty).length ∧ (∀ c ∈ (gapsW.getD k Str.empty).cps.toList, c < 256) ∧ (gapsW.getD k Str.empty).cps.toList.map (·.toUInt8) ∈ gapsL := by decide +kernel
structure GapW (g : Str) : Prop where
  len : g.length ≤ 15
  one : 1 ≤ g.length
  small : ∀ c ∈ g.cps.toList, c < 256
  mem : g.cps.toList.map (·.toUInt8) ∈ gapsL
theorem gap_no : ∀ g ∈ gapsL, g.takeWhile isAtom = [] ∧ g ≠ [] := by decide +kernel
theorem gap_stops {g r : List UInt8} (h : g ∈ gapsL) : (g ++ r).takeWhile isAtom = [] := by
  obtain ⟨h1, h2⟩ := gap_no g h
  cases g with
  | nil => exact absurd rfl h2
  | cons c g =>
    rw [List.takeWhile_cons] at h1
    rw [List.cons_append, List.takeWhile_cons]
    split
    · rename_i hc; rw [if_pos hc] at h1; cases h1
    · rfl
theorem zone_TW {lead w trail : List UInt8} {n : Nat} (h1 : lead ∈ gapsL) (hw : ∀ c ∈ w, isAtom c = true) (h0 : w ≠ []) (h2 : trail ∈ gapsL) : TW (lead ++ (w ++ trail)) n [(Str.ofString "atom", some w, n + lead.length)] := by
  refine TW.gap h1 (TW.word hw h0 ?_ ?_)
  · have := gap_stops (r := []) h2
    rwa [List.append_nil] at this
  · have := TW.gap (r := []) h2 (TW.nil (n + lead.length + w.length + trail.length))
    rwa [List.append_nil] at this
theorem gapW {d : Int} (h0 : 0 ≤ d) (h1 : d < 6) : GapW (gapsW.getD d.toNat Str.empty) :=
  let h := gapsW_facts d.toNat (by omega)
  ⟨h.1, h.2.1, h.2.2.1, h.2.2.2⟩
section
variable {w : World} {loose : List Str} {mean : ExcName → Option Value} {mg mb : Str → Option Value} {dp un : Nat} {gd : Option (List Code)} {cn : Str} {cs : Scope} {a : Addr} {ccd : Value} {cl : List (Str × Addr)} {outer : List Env} {A₀ : Around} {base h₀ : Heap} {L : Addr} {m : Str → Option Value} {s : Shared} {Q E : Value → Shared → Prop} {p : Program} {Rl C : Addr} {cvs : List Value} {ks : List Int} {c0 c1 : Nat} {i bt sd : Int} {t1 t2 t3 : Tok} {nws : List (Addr × Obj)}
variable (B : Below A₀ base outer h₀) (F : Fr h₀ L s.heap m) (X : (K w.params).In h₀) (N : News h₀ L s.heap ((Rl, W.listOf [.ref C, .int i t1, .int bt t2, .int sd t3].toArray c1) :: nws)) (T : Top p loose mean mg mb h₀) (hk : cs.kind = .function) (hC : (C, W.listOf cvs.toArray c0) ∈ nws) (off : ∀ p ∈ nws, p.1 ≠ Rl) (hi : IntsAre cvs ks) (hk0 : ∀ k ∈ ks, 0 ≤ k) (hkl : ks.length ≤ 40) (ok : DrawOk i bt sd)
include B F X N T hk hC off hi hk0 hkl ok
theorem is_zone_c (hd : dp + 150 < recursionLimit) (hu : un + 700 < cLine) {x : Str} {z : Int} {t t' : Tok} (ha : ∀ c ∈ x.cps.toList.map (·.toUInt8), isAtom c = true) (h256 : ∀ c ∈ x.cps.toList, c < 256) (hne : x.cps.toList ≠ []) (hl : x.length ≤ 10) (hz : zoneB (x.cps.toList.map (·.toUInt8)) = some z)
    (ret : ∀ i' bt' sd' t1 t2 t3 h' tk', DrawOk i' bt' sd' → Fr h₀ L h' m → News h₀ L h' ((Rl, W.listOf [.ref C, .int i' t1, .int bt' t2, .int sd' t3].toArray c1) :: nws) → Q (.bool true) { s with heap := h', toks := tk' }) :
    wpAny (model PW w) (ktrTop dp un gd cn cs L a ccd cl outer) (call (.ref 403) [.ref Rl, .str x t, .int z t']) Q E s := by
  k_dflt cell_enter
  k_steps
  unfold Stop
  refine strs_item (xs := gapsW) (by k_asm) (by k_asm) (by k_is) (by repeat constructor) (by assumption) (by show _ < (6 : Int); assumption) (by decide) ?_
  intro tg1
  have gw1 := gapW g1 g2
  generalize gapsW.getD d9.toNat Str.empty = lead at *
  have gl1 := gw1.len
  k_steps
  unfold Stop
  refine strs_item (xs := gapsW) (by k_asm) (by k_asm) (by k_is) (by repeat constructor) (by assumption) (by show _ < (6 : Int); assumption) (by decide) ?_
  intro tg2
  have gw2 := gapW g1 g2
  generalize gapsW.getD d9.toNat Str.empty = trail at *
  have gl2 := gw2.len
  have hoc : ∀ c ∈ (lead ++ x ++ trail).cps.toList, c < 256 := by
    intro c hc
    simp only [Str.cps_append, Array.toList_append, List.mem_append] at hc
    rcases hc with (hc | hc) | hc
    · exact gw1.small c hc
    · exact h256 c hc
    · exact gw2.small c hc
  have hol : (lead ++ x ++ trail).length = lead.length + x.length + trail.length := by simp only [Str.length_append]
  have holt : (lead ++ x ++ trail).length < 10000 := by omega
  have hS313 : StopM 313 := .mk
  k_steps
  all_goals (try unfold Stop)
  have htw : TW b9.toList 0 [(Str.ofString "atom", some (x.cps.toList.map (·.toUInt8)), lead.length)] := by
    rw [e1]
    simp only [Str.cps_append, Array.toList_append, List.map_append, List.append_assoc]
    have h9 := zone_TW (n := 0) gw1.mem ha (by simpa using hne) gw2.mem
    rwa [Nat.zero_add, List.length_map, Array.length_toList] at h9
  obtain ⟨f, k0, l', q1, q2, q3⟩ := htw
  rw [Nat.zero_add] at q2
  have hbs : b9.size = lead.length + x.length + trail.length := by
    rw [← Array.length_toList, e1, List.length_map, Array.length_toList]; exact hol
  have hbs2 : b9.size < 10000 := by omega
  have p0 : placeAt (l'.filter noCmt) b9.size 0 = lead.length := by rw [q3]; rfl
  have p1 : placeAt (l'.filter noCmt) b9.size (0 + 1) = b9.size := by rw [q3]; rfl
  have pa : atomB (l'.filter noCmt) 0 = x.cps.toList.map (·.toUInt8) := by rw [q3]; simp [atomB]
  have pz : zoneB (atomB (l'.filter noCmt) 0) = some z := by rw [pa]; exact hz
  have pl : (atomB (l'.filter noCmt) 0).length < 10000 := by rw [pa, List.length_map, Array.length_toList]; have : x.cps.size ≤ 10 := hl; omega
  have pn : (l'.filter noCmt).length = 1 := by rw [q3]; rfl
  clear q3
  k_steps
  · refine rB (x := true) (fun h' tk' F' N' => ret _ _ _ _ _ _ h' tk' g3 F' N') ?_ (by k_asm) (fun q hq => (News.tl (News.tl (by k_asm))) q (sub9 q hq))
    rw [p1]; simp
  · exact absurd rfl (by assumption)
  · rename (¬ (_ : Int) = _) => hbad
    exact absurd (by rw [p0]) hbad
end
theorem hk_w14068e88 : True := by
  (k_with "mc" => (k_here; (with_reducible show wpAny _ _ (call (Value.ref 403) _) _ _ _); k_dflt (refine is_zone_c (by k_asm) (by k_asm) (by k_asm) (by k_extra "!nwQ") (by k_asm) (by k_extra "!pre fn") (by k_extra "!bsm") (by k_extra "!off") (by assumption) (by assumption) (by assumption) (by assumption) (by ktr_room) (by ktr_units) (by k_extra "!pre") (by k_extra "!pre") (by k_extra "!pre") (by k_extra "!pre") (by k_extra "!pre") ?_); k_whole; intro i9 bt9 sd9 u1 u2 u3 h9 tk9 g3 F9 N9; (try k_sweep); (try dsimp only)))
  trivial

-- part tld
theorem dnum_fold_eq (y b : Int) : ∀ n : Nat, n ≤ 11 → (rangeKs 1 n).foldl (fun a k => a + monthLen y k) b = b + dbm y ((n : Int) + 1)
  | 0, _ => (Int.add_zero b).symm
  | n + 1, h => by
    have ih := dnum_fold_eq y b n (by omega)
    have hs := dbm_succ y ((n : Int) + 1) (by omega) (by omega)
    unfold rangeKs at ih ⊢
    rw [List.range_succ, List.map_append, List.foldl_append, ih]
    show b + dbm y ((n : Int) + 1) + monthLen y (1 + (n : Int)) = b + dbm y ((n : Int) + 1 + 1)
    rw [hs, Int.add_comm 1 (n : Int), Int.add_assoc]
theorem dnum_eq {y mo d : Int} (m0 : 1 ≤ mo) (m1 : mo ≤ 12) : dnum y mo d = dby y + dbm y mo + d - 1 - 719162 := by
  unfold dnum
  rw [dnum_fold_eq y _ _ (by omega), show (((mo - 1).toNat : Nat) : Int) + 1 = mo by omega]
  omega
section
variable {w : World} {loose : List Str} {mean : ExcName → Option Value} {mg mb : Str → Option Value} {dp un : Nat} {gd : Option (List Code)} {cn : Str} {cs : Scope} {a : Addr} {ccd : Value} {cl : List (Str × Addr)} {outer : List Env} {A₀ : Around} {base h₀ : Heap} {L : Addr} {m : Str → Option Value} {s : Shared} {Q E : Value → Shared → Prop} {news : List (Addr × Obj)} {p : Program}
variable (B : Below A₀ base outer h₀) (F : Fr h₀ L s.heap m) (X : (K w.params).In h₀) (N : News h₀ L s.heap news) (T : Top p loose mean mg mb h₀) (hk : cs.kind = .function)
include B F X N T hk
theorem told_c (hd : dp + 15 < recursionLimit) (hu : un + 60 < cLine) {y mo d ho mi se z : Int} {k1 k2 k3 k4 k5 k6 k7 v1 v2 v3 v4 v5 v6 v7 : Tok} {o dd : Addr}
    (ho1 : (o, instObj 161 dd) ∈ news) (hd1 : (dd, momD w.params y mo d ho mi se z k1 v1 k2 v2 k3 v3 k4 v4 k5 v5 k6 v6 k7 v7) ∈ news)
    (ret : ∀ x h' tk', Fr h₀ L h' m → News h₀ L h' ((x, { cls := .type "tuple", data := .seq #[.int y v1, .int mo v2, .int d v3, .int ho v4, .int mi v5, .int se v6, .int z v7] }) :: news) → AllLt x news → Q (.ref x) { s with heap := h', toks := tk' }) :
    wpAny (model PW w) (ktrTop dp un gd cn cs L a ccd cl outer) (call (.ref 158) [.ref o]) Q E s := by
  k_dflt cell_enter
  k_steps
  exact ret _ _ _ (by k_asm) (by k_asm) (by first | assumption | exact allLt_of (by assumption))
end
theorem hk_told_c : True := by
  (k_with "mc" => (k_here; (with_reducible show wpAny _ _ (call (Value.ref 158) _) _ _ _); k_dflt (refine told_c (by k_asm) (by k_asm) (by k_asm) (by k_extra "!nwN") (by k_asm) (by k_extra "!pre fn") (by ktr_room) (by ktr_units) (by k_extra "!pre mem") (by k_extra "!pre mem") ?_); k_whole; intro x9 h9 tk9 F9 N9 l9; (try k_sweep); (try dsimp only)))
  trivial

-- part lpl
def u8 (l : List Nat) : List UInt8 := l.map (·.toUInt8)
def Letter (c : Nat) : Prop := (97 ≤ c ∧ c ≤ 122) ∨ (65 ≤ c ∧ c ≤ 90)
theorem u8_app (a b : List Nat) : u8 (a ++ b) = u8 a ++ u8 b := List.map_append
theorem u8_len (a : List Nat) : (u8 a).length = a.length := List.length_map _
theorem u8_nat : ∀ {l : List Nat}, (∀ c ∈ l, c < 256) → (u8 l).map (·.toNat) = l
  | [], _ => rfl
  | c :: l, h => by
    have h1 : c < 256 := h c (.head _)
    have h2 := u8_nat (l := l) fun d hd => h d (.tail _ hd)
    show c.toUInt8.toNat :: (u8 l).map (·.toNat) = c :: l
    rw [h2]
    congr 1
    simp only [Nat.toUInt8, UInt8.toNat_ofNat']
    omega
theorem atom_codes : ∀ c : Fin 256, ((97 ≤ c.val ∧ c.val ≤ 122) ∨ (65 ≤ c.val ∧ c.val ≤ 90) ∨ (48 ≤ c.val ∧ c.val ≤ 57) ∨ c.val = 43 ∨ c.val = 45 ∨ c.val = 95 ∨ c.val = 233) → isAtom c.val.toUInt8 = true := by decide +kernel
/-- codes of the words that stand in dates -/
def Word (c : Nat) : Prop := Letter c ∨ (48 ≤ c ∧ c ≤ 57) ∨ c = 43 ∨ c = 45 ∨ c = 95 ∨ c = 233
theorem Word.lt {c : Nat} (h : Word c) : c < 256 := by unfold Word Letter at h; omega
theorem Word.atom {c : Nat} (h : Word c) : isAtom c.toUInt8 = true := atom_codes ⟨c, h.lt⟩ (by unfold Word Letter at h; dsimp only; omega)
theorem words_atom {l : List Nat} (h : ∀ c ∈ l, Word c) : ∀ c ∈ u8 l, isAtom c = true := by
  intro c hc
  obtain ⟨d, hd, rfl⟩ := List.mem_map.mp hc
  exact (h d hd).atom
theorem words_lt {l : List Nat} (h : ∀ c ∈ l, Word c) : ∀ c ∈ l, c < 256 := fun c hc => (h c hc).lt
theorem tx_u8 {l : List Nat} (h : ∀ c ∈ l, c < 256) : txB (u8 l) = tx l := by unfold txB; rw [u8_nat h]
theorem zoneB_u8 {l : List Nat} (h : ∀ c ∈ l, c < 256) : zoneB (u8 l) = match zoneIn l with | some z => some z | none => namedZone (tx l) := by unfold zoneB; rw [u8_nat h, tx_u8 h]; all_goals (cases zoneIn l <;> rfl)
theorem zoneIn_head {c : Nat} {l : List Nat} (h : ¬ (c = 43 ∨ c = 45)) : zoneIn (c :: l) = none := by
  rcases l with _ | ⟨_, _ | ⟨_, _ | ⟨_, _ | ⟨_, _ | ⟨_, _⟩⟩⟩⟩⟩ <;> first | rfl | (simp only [zoneIn]; rw [if_neg fun h' => h h'.1])
theorem named_letters {x : Str} (h : ∀ c ∈ x.cps.toList, Letter c) (h0 : x.cps.toList ≠ []) : namedZone x = some (hoursOf (lowerT x) * 60) := by
  unfold namedZone
  rw [if_pos]
  rw [low_toList]
  unfold isLow
  rw [Bool.and_eq_true]
  constructor
  · cases hx : x.cps.toList with
    | nil => exact absurd hx h0
    | cons => rfl
  · rw [List.all_eq_true]
    intro c hc
    obtain ⟨d, hd, rfl⟩ := List.mem_map.mp hc
    have := h d hd
    unfold Letter at this
    unfold lowN
    simp only [Bool.and_eq_true, decide_eq_true_eq]
    split <;> omega
theorem named_bent {x : Str} {c : Nat} (hc : c ∈ x.cps.toList) (h : ¬ Letter c) : namedZone x = none := by
  unfold namedZone
  rw [if_neg]
  rw [low_toList]
  unfold isLow
  rw [Bool.and_eq_true, List.all_eq_true]
  rintro ⟨-, h2⟩
  have h3 := h2 (lowN c) (List.mem_map.mpr ⟨c, hc, rfl⟩)
  unfold lowN at h3
  unfold Letter at h
  simp only [Bool.and_eq_true, decide_eq_true_eq] at h3
  split at h3 <;> omega
theorem tx_toList (l : List Nat) : (tx l).cps.toList = l := rfl
theorem zone_letters {l : List Nat} (h : ∀ c ∈ l, Letter c) (h0 : l ≠ []) : zoneIn l = none := by
  rcases l with _ | ⟨c, l⟩
  · exact absurd rfl h0
  · exact zoneIn_head (by have := h c (.head _); unfold Letter at this; omega)
theorem zoneB_letters {l : List Nat} (h : ∀ c ∈ l, Letter c) (h0 : l ≠ []) : zoneB (u8 l) = some (hoursOf (lowerT (tx l)) * 60) := by
  rw [zoneB_u8 (words_lt fun c hc => .inl (h c hc)), zone_letters h h0]
  exact named_letters (x := tx l) h h0
theorem zoneB_bent {l : List Nat} (h : ∀ c ∈ l, Word c) (hz : zoneIn l = none) {c : Nat} (hc : c ∈ l) (hl : ¬ Letter c) : zoneB (u8 l) = none := by
  rw [zoneB_u8 (words_lt h), hz]
  exact named_bent (x := tx l) hc hl
theorem zone_figs {n a b : Nat} (hs : n = 43 ∨ n = 45) (ha : a < 100) (hb : b ≤ 59) : zoneIn [n, 48 + a / 10, 48 + a % 10, 48 + b / 10, 48 + b % 10] = some (if n = 45 then -((a : Int) * 60 + b) else (a : Int) * 60 + b) := by
  have e1 : NumText.digitsVal [48 + a / 10, 48 + a % 10] = a := by rw [dv2]; omega
  have e2 : NumText.digitsVal [48 + b / 10, 48 + b % 10] = b := by rw [dv2]; omega
  simp only [zoneIn]
  rw [e1, e2, if_pos]
  refine ⟨hs, ?_, hb⟩
  simp [isFig]
  omega
theorem zoneB_nil : zoneB [] = none := by decide +kernel
/-- a date whose zone is bent: what stands behind the head x, and the place of the fault -/
structure Bent (x z : Str) (p : Int) : Prop where
  small : (∀ c ∈ x.cps.toList, c < 256) → ∀ c ∈ z.cps.toList, c < 256
  len : z.length ≤ x.length + 60
  tw : ∃ r l, u8 z.cps.toList = u8 x.cps.toList ++ r ∧ r.takeWhile isAtom = [] ∧ TW r x.length l ∧ (atomB l 0).length ≤ 100 ∧
    ((zoneB (atomB l 0) = none ∧ p = (placeAt l z.length 0 : Nat)) ∨ (∃ zz, zoneB (atomB l 0) = some zz ∧ 1 < l.length ∧ p = (placeAt l z.length 1 : Nat)))
theorem atomB_quoted (n : Nat) : atomB [(Str.ofString "quoted", none, n)] 0 = [] := by
  show (if Str.ofString "quoted" = Str.ofString "atom" then (none : Option (List UInt8)).getD [] else ([] : List UInt8)) = []
  rw [if_neg (by decide +kernel)]
theorem GapW.u8 {g : Str} (h : GapW g) : Mine.u8 g.cps.toList ∈ gapsL := h.mem
theorem len_list (x : Str) : x.cps.toList.length = x.length := by rw [Array.length_toList]; rfl
theorem bent_word {x z lead trail : Str} {wl : List Nat} {p : Int} (hz : z.cps.toList = x.cps.toList ++ (lead.cps.toList ++ (wl ++ trail.cps.toList))) (g1 : GapW lead) (g2 : GapW trail) (hw : ∀ c ∈ wl, Word c) (h0 : wl ≠ []) (hn : wl.length ≤ 10) (hB : zoneB (u8 wl) = none) (hp : p = x.length + lead.length) : Bent x z p := by
  have l1 := g1.len
  have l2 := g2.len
  have hzl : z.length = x.length + (lead.length + (wl.length + trail.length)) := by rw [← len_list, hz]; simp only [List.length_append, len_list]
  refine ⟨?_, by omega, u8 lead.cps.toList ++ (u8 wl ++ u8 trail.cps.toList), [(Str.ofString "atom", some (u8 wl), x.length + lead.length)], ?_, gap_stops g1.u8, ?_, ?_, .inl ⟨?_, ?_⟩⟩
  · intro h c hc
    rw [hz] at hc
    simp only [List.mem_append] at hc
    rcases hc with hc | hc | hc | hc
    · exact h c hc
    · exact g1.small c hc
    · exact (hw c hc).lt
    · exact g2.small c hc
  · rw [hz]; simp only [u8_app]
  · have := zone_TW (n := x.length) g1.u8 (words_atom hw) (by intro e; rw [← List.length_eq_zero_iff, u8_len, List.length_eq_zero_iff] at e; exact h0 e) g2.u8
    rwa [u8_len, len_list] at this
  · show (u8 wl).length ≤ 100
    rw [u8_len]; omega
  · exact hB
  · rw [hp]; show (x.length : Int) + lead.length = ((x.length + lead.length : Nat) : Int); push_cast; rfl
theorem bent_out {x z lead : Str} {p : Int} (hz : z.cps.toList = x.cps.toList ++ lead.cps.toList) (g1 : GapW lead) (hp : p = z.length) : Bent x z p := by
  have l1 := g1.len
  have hzl : z.length = x.length + lead.length := by rw [← len_list, hz]; simp only [List.length_append, len_list]
  refine ⟨?_, by omega, u8 lead.cps.toList, [], ?_, ?_, ?_, Nat.zero_le _, .inl ⟨zoneB_nil, hp⟩⟩
  · intro h c hc
    rw [hz] at hc
    rcases List.mem_append.mp hc with hc | hc
    · exact h c hc
    · exact g1.small c hc
  · rw [hz, u8_app]
  · exact (gap_no _ g1.u8).1
  · have := TW.gap (r := []) g1.u8 (TW.nil (x.length + (u8 lead.cps.toList).length))
    rwa [List.append_nil] at this
theorem bent_twice {x z lead trail : Str} {wl : List Nat} {p : Int} (hz : z.cps.toList = x.cps.toList ++ (lead.cps.toList ++ (wl ++ (trail.cps.toList ++ [69, 115, 116])))) (g1 : GapW lead) (g2 : GapW trail) (hw : ∀ c ∈ wl, Letter c) (h0 : wl ≠ []) (hn : wl.length ≤ 10) (hp : p = x.length + lead.length + wl.length + trail.length) : Bent x z p := by
  have l1 := g1.len
  have l2 := g2.len
  have hzl : z.length = x.length + (lead.length + (wl.length + (trail.length + 3))) := by rw [← len_list, hz]; simp only [List.length_append, len_list, List.length_cons, List.length_nil]
  have hww : ∀ c ∈ wl, Word c := fun c hc => .inl (hw c hc)
  refine ⟨?_, by omega, u8 lead.cps.toList ++ (u8 wl ++ (u8 trail.cps.toList ++ [69, 115, 116])), [(Str.ofString "atom", some (u8 wl), x.length + lead.length), (Str.ofString "atom", some [69, 115, 116], x.length + lead.length + wl.length + trail.length)], ?_, gap_stops g1.u8, ?_, ?_, .inr ⟨hoursOf (lowerT (tx wl)) * 60, ?_, ?_, ?_⟩⟩
  · intro h c hc
    rw [hz] at hc
    simp only [List.mem_append] at hc
    rcases hc with hc | hc | hc | hc | hc
    · exact h c hc
    · exact g1.small c hc
    · exact (hww c hc).lt
    · exact g2.small c hc
    · simp at hc; omega
  · rw [hz]; simp only [u8_app]; rfl
  · refine TW.gap g1.u8 ?_
    rw [u8_len, len_list]
    refine TW.word (words_atom hww) (by intro e; rw [← List.length_eq_zero_iff, u8_len, List.length_eq_zero_iff] at e; exact h0 e) (gap_stops g2.u8) ?_
    rw [u8_len]
    refine TW.gap g2.u8 ?_
    rw [u8_len, len_list]
    exact TW.word (w := [69, 115, 116]) (r := []) (by decide +kernel) (by decide) rfl (TW.nil _)
  · show (u8 wl).length ≤ 100
    rw [u8_len]; omega
  · exact zoneB_letters hw h0
  · exact Nat.le_refl 2
  · rw [hp]; show (x.length : Int) + lead.length + wl.length + trail.length = ((x.length + lead.length + wl.length + trail.length : Nat) : Int); push_cast; rfl
theorem bent_quoted {x z lead trail : Str} {p : Int} (hz : z.cps.toList = x.cps.toList ++ (lead.cps.toList ++ ([34, 69, 83, 84, 34] ++ trail.cps.toList))) (g1 : GapW lead) (g2 : GapW trail) (hp : p = x.length + lead.length) : Bent x z p := by
  have l1 := g1.len
  have l2 := g2.len
  have hzl : z.length = x.length + (lead.length + (5 + trail.length)) := by rw [← len_list, hz]; simp only [List.length_append, len_list, List.length_cons, List.length_nil]
  refine ⟨?_, by omega, u8 lead.cps.toList ++ (34 :: ([69, 83, 84, 34] ++ u8 trail.cps.toList)), [(Str.ofString "quoted", none, x.length + lead.length)], ?_, gap_stops g1.u8, ?_, ?_, .inl ⟨?_, ?_⟩⟩
  · intro h c hc
    rw [hz] at hc
    simp only [List.mem_append] at hc
    rcases hc with hc | hc | hc | hc
    · exact h c hc
    · exact g1.small c hc
    · simp at hc; omega
    · exact g2.small c hc
  · rw [hz]; simp only [u8_app]; rfl
  · refine TW.gap g1.u8 ?_
    rw [u8_len, len_list]
    have hq : qt 10 ([69, 83, 84, 34] ++ u8 trail.cps.toList) = some 4 := by simp [qt, inside, lineEnd, never]
    have hh := TW.tok (n := x.length + lead.length) (l := []) (r := 34 :: ([69, 83, 84, 34] ++ u8 trail.cps.toList)) rfl (by decide) (lineEnd_no (by decide)) (TokAt.quoted hq) (by
      show TW (u8 trail.cps.toList) _ []
      have := TW.gap (r := []) g2.u8 (TW.nil (x.length + lead.length + (1 + 4) + (u8 trail.cps.toList).length))
      rwa [List.append_nil] at this)
    rw [if_pos (noCmt_quoted _ _)] at hh
    exact hh
  · show (atomB [(Str.ofString "quoted", none, x.length + lead.length)] 0).length ≤ 100
    rw [atomB_quoted]
    exact Nat.zero_le _
  · rw [atomB_quoted]
    exact zoneB_nil
  · rw [hp]; show (x.length : Int) + lead.length = ((x.length + lead.length : Nat) : Int); push_cast; rfl

-- part lbn
theorem bad_sign : ∀ k : Fin 5, ∃ c ∈ [53, 45, 233, 95, 43], Txt.item (Str.ofString "5-é_+") (k.val : Int) = ⟨#[c]⟩ := by decide +kernel
theorem bent0 {x y lead trail : Str} {a d ot : Int} (g1 : GapW lead) (g2 : GapW trail) (hyl : ∀ c ∈ y.cps.toList, Letter c) (hy : y.length ≤ 3) (a0 : 0 ≤ a) (a1 : a < (y.length : Nat)) (d0 : 0 ≤ d) (d1 : d < 2) :
    Bent x (x ++ lead ++ Txt.slice y none (some a) ++ Txt.item (Str.ofString "5-é_+") (ot.fmod 5) ++ Txt.slice y (some (a + d)) none ++ trail) ((x ++ lead).length : Nat) := by
  have hl := len_list y
  obtain ⟨c, hc, e⟩ := bad_sign ⟨(ot.fmod 5).toNat, by rw [fm _ (by decide)]; omega⟩
  rw [show (((ot.fmod 5).toNat : Nat) : Int) = ot.fmod 5 by rw [fm _ (by decide)]; omega] at e
  have e1 : (Txt.slice y none (some a)).cps.toList = y.cps.toList.take a.toNat := by
    rw [beq_iff_eq.mp (slice_closes_toL a0 (by omega))]
    simp
  have e2 := slice_toList1 (x := y) (i := a + d) (by omega) (by omega)
  refine bent_word (wl := y.cps.toList.take a.toNat ++ ([c] ++ y.cps.toList.drop (a + d).toNat)) ?_ g1 g2 ?_ (by simp) ?_ (zoneB_bent (c := c) ?_ (zoneIn_len ?_) (by simp) ?_) (by rw [Str.length_append]; push_cast; rfl)
  · simp only [Str.cps_append, Array.toList_append, e, e1, e2, List.append_assoc]
  · intro q hq
    simp only [List.mem_append, List.mem_singleton] at hq
    rcases hq with hq | hq | hq
    · exact .inl (hyl q (List.mem_of_mem_take hq))
    · subst hq; unfold Word; simp at hc; omega
    · exact .inl (hyl q (List.mem_of_mem_drop hq))
  · simp only [List.length_append, List.length_take, List.length_drop, List.length_cons, List.length_nil]; omega
  · intro q hq
    simp only [List.mem_append, List.mem_singleton] at hq
    rcases hq with hq | hq | hq
    · exact .inl (hyl q (List.mem_of_mem_take hq))
    · subst hq; unfold Word; simp at hc; omega
    · exact .inl (hyl q (List.mem_of_mem_drop hq))
  · simp only [List.length_append, List.length_take, List.length_drop, List.length_cons, List.length_nil]; omega
  · unfold Letter; simp at hc; omega
/-- figures that are no zone -/
def NoZone (x : Str) : Prop := zoneIn x.cps.toList = none ∧ (∀ c ∈ x.cps.toList, (48 ≤ c ∧ c ≤ 57) ∨ c = 43 ∨ c = 45) ∧ x.cps.toList.length ≤ 10 ∧ x.cps.toList ≠ []
theorem bent_text {x lead trail wd : Str} (g1 : GapW lead) (g2 : GapW trail) (h : NoZone wd) : Bent x (x ++ lead ++ wd ++ trail) ((x ++ lead).length : Nat) := by
  obtain ⟨h1, h2, h3, h4⟩ := h
  have hw : ∀ c ∈ wd.cps.toList, Word c := fun c hc => by have := h2 c hc; unfold Word; omega
  obtain ⟨c, hc⟩ := List.exists_mem_of_ne_nil _ h4
  refine bent_word (wl := wd.cps.toList) ?_ g1 g2 hw h4 h3 (zoneB_bent (c := c) hw h1 hc ?_) (by rw [Str.length_append]; push_cast; rfl)
  · simp only [Str.cps_append, Array.toList_append, List.append_assoc]
  · have := h2 c hc; unfold Letter; omega
theorem nz3 : ∀ k : Fin 40, zoneIn (Str.ofString "+05" ++ Str.ofString (toString (60 + (k.val : Int)))).cps.toList = none ∧ (∀ c ∈ (Str.ofString "+05" ++ Str.ofString (toString (60 + (k.val : Int)))).cps.toList, (48 ≤ c ∧ c ≤ 57) ∨ c = 43 ∨ c = 45) ∧ (Str.ofString "+05" ++ Str.ofString (toString (60 + (k.val : Int)))).cps.toList.length ≤ 10 ∧ (Str.ofString "+05" ++ Str.ofString (toString (60 + (k.val : Int)))).cps.toList ≠ [] := by decide +kernel
theorem nzone3 {ot : Int} (o0 : 0 ≤ ot) (o1 : ot < 40) : NoZone (Str.ofString "+05" ++ Str.ofString (toString (60 + ot))) := by
  have := nz3 ⟨ot.toNat, by omega⟩
  dsimp only at this
  rw [Int.toNat_of_nonneg o0] at this
  exact this
theorem nzone4 : NoZone (Str.ofString "-050") := by unfold NoZone; decide +kernel
theorem nzone5 : NoZone (Str.ofString "+05000") := by unfold NoZone; decide +kernel
theorem bent1 {x lead : Str} (g1 : GapW lead) : Bent x (x ++ lead) ((x ++ lead).length : Nat) := bent_out (by simp only [Str.cps_append, Array.toList_append]) g1 rfl
theorem bent2 {x y lead trail : Str} (g1 : GapW lead) (g2 : GapW trail) (hyl : ∀ c ∈ y.cps.toList, Letter c) (hy : y.length ≤ 3) (hy1 : 1 ≤ y.length) : Bent x (x ++ lead ++ y ++ trail ++ Str.ofString "Est") ((x ++ lead ++ y ++ trail).length : Nat) := by
  have hl := len_list y
  refine bent_twice (wl := y.cps.toList) ?_ g1 g2 hyl (by intro e; rw [e] at hl; simp at hl; omega) (by omega) (by simp only [Str.length_append, hl]; push_cast; rfl)
  rw [show ([69, 115, 116] : List Nat) = (Str.ofString "Est").cps.toList from by decide +kernel]
  simp only [Str.cps_append, Array.toList_append, List.append_assoc]
theorem bent6 {x lead trail : Str} (g1 : GapW lead) (g2 : GapW trail) : Bent x (x ++ lead ++ Str.ofString "\"EST\"" ++ trail) ((x ++ lead).length : Nat) := by
  refine bent_quoted ?_ g1 g2 (by rw [Str.length_append]; push_cast; rfl)
  rw [show ([34, 69, 83, 84, 34] : List Nat) = (Str.ofString "\"EST\"").cps.toList from by decide +kernel]
  simp only [Str.cps_append, Array.toList_append, List.append_assoc]
section
variable {w : World} {loose : List Str} {mean : ExcName → Option Value} {mg mb : Str → Option Value} {dp un : Nat} {gd : Option (List Code)} {cn : Str} {cs : Scope} {a : Addr} {ccd : Value} {cl : List (Str × Addr)} {outer : List Env} {A₀ : Around} {base h₀ : Heap} {L : Addr} {m : Str → Option Value} {s : Shared} {Q E : Value → Shared → Prop} {p : Program} {Rl C : Addr} {cvs : List Value} {ks : List Int} {c0 c1 : Nat} {i bt sd : Int} {t1 t2 t3 : Tok} {nws : List (Addr × Obj)}
variable (B : Below A₀ base outer h₀) (F : Fr h₀ L s.heap m) (X : (K w.params).In h₀) (N : News h₀ L s.heap ((Rl, W.listOf [.ref C, .int i t1, .int bt t2, .int sd t3].toArray c1) :: nws)) (T : Top p loose mean mg mb h₀) (hk : cs.kind = .function) (hC : (C, W.listOf cvs.toArray c0) ∈ nws) (off : ∀ p ∈ nws, p.1 ≠ Rl) (hi : IntsAre cvs ks) (hk0 : ∀ k ∈ ks, 0 ≤ k) (hkl : ks.length ≤ 40) (ok : DrawOk i bt sd)
include B F X N T hk hC off hi hk0 hkl ok
theorem bent_c (hd : dp + 75 < recursionLimit) (hu : un + 300 < cLine) {sp ot : Int} {x y : Str} {t t' t5 t6 : Tok} (s0 : 0 ≤ sp) (s1 : sp < 7) (o0 : 0 ≤ ot) (o1 : ot < 40) (hx : x.length ≤ 40) (hy : y.length ≤ 3) (hy1 : 1 ≤ y.length) (hyl : ∀ c ∈ y.cps.toList, Letter c)
    (ret : ∀ D z p t t' i' bt' sd' t1 t2 t3 h' tk', Bent x z p → DrawOk i' bt' sd' → Fr h₀ L h' m → News h₀ L h' ((D, { cls := .type "tuple", data := .seq #[.str z t, .int p t'] }) :: (Rl, W.listOf [.ref C, .int i' t1, .int bt' t2, .int sd' t3].toArray c1) :: nws) → Q (.ref D) { s with heap := h', toks := tk' }) :
    wpAny (model PW w) (ktrTop dp un gd cn cs L a ccd cl outer) (call (.ref 410) [.ref Rl, .int sp t, .int ot t', .str x t5, .str y t6]) Q E s := by
  k_dflt cell_enter
  k_steps
  unfold Stop
  refine strs_item (xs := gapsW) (by k_asm) (by k_asm) (by k_is) (by repeat constructor) (by assumption) (by show _ < (6 : Int); assumption) (by decide) ?_
  intro tg1
  have gw1 := gapW g1 g2
  generalize gapsW.getD d9.toNat Str.empty = lead at *
  have gl1 := gw1.len
  k_steps
  unfold Stop
  refine strs_item (xs := gapsW) (by k_asm) (by k_asm) (by k_is) (by repeat constructor) (by assumption) (by show _ < (6 : Int); assumption) (by decide) ?_
  intro tg2
  have gw2 := gapW g1 g2
  generalize gapsW.getD d9.toNat Str.empty = trail at *
  have gl2 := gw2.len
  k_steps
  · k_dflt (refine' ret _ _ _ _ _ _ _ _ _ _ _ _ _ ?b ?o ?f ?n; (case n => k_asm); (case f => k_asm); (case o => assumption); (case b => exact bent0 gw1 gw2 hyl hy (by assumption) (by assumption) (by assumption) (by assumption)))
  · k_dflt (refine' ret _ _ _ _ _ _ _ _ _ _ _ _ _ ?b ?o ?f ?n; (case n => k_asm); (case f => k_asm); (case o => assumption); (case b => exact bent1 gw1))
  · k_dflt (refine' ret _ _ _ _ _ _ _ _ _ _ _ _ _ ?b ?o ?f ?n; (case n => k_asm); (case f => k_asm); (case o => assumption); (case b => exact bent2 gw1 gw2 hyl hy hy1))
  have hsp : sp = 3 ∨ sp = 4 ∨ sp = 5 ∨ sp = 6 := by omega
  rcases hsp with rfl | rfl | rfl | rfl
  all_goals
    refine my_item (News.isList (by k_asm) (by k_mem)) (by decide) (by decide) (by rfl) ?_
    k_steps
  · k_dflt (refine' ret _ _ _ _ _ _ _ _ _ _ _ _ _ ?b ?o ?f ?n; (case n => k_extra "!nw"); (case f => k_asm); (case o => assumption); (case b => exact bent_text gw1 gw2 (nzone3 o0 o1)))
  · k_dflt (refine' ret _ _ _ _ _ _ _ _ _ _ _ _ _ ?b ?o ?f ?n; (case n => k_extra "!nw"); (case f => k_asm); (case o => assumption); (case b => exact bent_text gw1 gw2 nzone4))
  · k_dflt (refine' ret _ _ _ _ _ _ _ _ _ _ _ _ _ ?b ?o ?f ?n; (case n => k_extra "!nw"); (case f => k_asm); (case o => assumption); (case b => exact bent_text gw1 gw2 nzone5))
  · k_dflt (refine' ret _ _ _ _ _ _ _ _ _ _ _ _ _ ?b ?o ?f ?n; (case n => k_extra "!nw"); (case f => k_asm); (case o => assumption); (case b => exact bent6 gw1 gw2))
end

-- part dtk
theorem stop32 (r : List UInt8) : ((32 : UInt8) :: r).takeWhile isAtom = [] := by
  rw [List.takeWhile_cons, if_neg (by decide +kernel)]
theorem stop58 (r : List UInt8) : ((58 : UInt8) :: r).takeWhile isAtom = [] := by
  rw [List.takeWhile_cons, if_neg (by decide +kernel)]
theorem fig_ne {l : List Nat} (h : isFig l = true) : l ≠ [] := by rintro rfl; simp [isFig] at h
theorem fig_in {l : List Nat} (h : isFig l = true) : ∀ c ∈ l, 48 ≤ c ∧ c ≤ 57 := by
  unfold isFig at h
  rw [Bool.and_eq_true, List.all_eq_true] at h
  intro c hc
  have := h.2 c hc
  simpa using this
theorem fig_word {l : List Nat} (h : isFig l = true) : ∀ c ∈ l, Word c := fun c hc => .inr (.inl (fig_in h c hc))
theorem u8_ne {l : List Nat} (h : l ≠ []) : u8 l ≠ [] := by
  intro e
  rw [← List.length_eq_zero_iff, u8_len, List.length_eq_zero_iff] at e
  exact h e
theorem tw_fig {l : List Nat} {r : List UInt8} {n : Nat} {lr : List Tk} (h : isFig l = true) (hr : r.takeWhile isAtom = []) (ht : TW r (n + (u8 l).length) lr) : TW (u8 l ++ r) n ((Str.ofString "atom", some (u8 l), n) :: lr) :=
  TW.word (words_atom (fig_word h)) (u8_ne (fig_ne h)) hr ht
theorem head_TW {dl ml yl c1 c2 c3 : List Nat} {r : List UInt8} {lr : List Tk} {n : Nat} (hd : isFig dl = true) (hm : ∀ c ∈ ml, Letter c) (hm0 : ml ≠ []) (hy : isFig yl = true) (h1 : isFig c1 = true) (h2 : isFig c2 = true) (h3 : isFig c3 = true)
    (hr : r.takeWhile isAtom = []) (hn : n = dl.length + ml.length + yl.length + c1.length + c2.length + c3.length + 5) (ht : TW r n lr) :
    ∃ p1 p2 p3 p4 p5 p6 p7 p8, TW (u8 dl ++ (32 :: (u8 ml ++ (32 :: (u8 yl ++ (32 :: (u8 c1 ++ (58 :: (u8 c2 ++ (58 :: (u8 c3 ++ r))))))))))) 0
      ((Str.ofString "atom", some (u8 dl), p1) :: (Str.ofString "atom", some (u8 ml), p2) :: (Str.ofString "atom", some (u8 yl), p3) :: (Str.ofString "atom", some (u8 c1), p4) :: (Str.ofString "sign", some [58], p5) :: (Str.ofString "atom", some (u8 c2), p6) :: (Str.ofString "sign", some [58], p7) :: (Str.ofString "atom", some (u8 c3), p8) :: lr) := by
  iterate 8 apply Exists.intro
  refine tw_fig hd (stop32 _) (TW.white (.inr rfl) ?_)
  refine TW.word (words_atom fun c hc => .inl (hm c hc)) (u8_ne hm0) (stop32 _) (TW.white (.inr rfl) ?_)
  refine tw_fig hy (stop32 _) (TW.white (.inr rfl) ?_)
  refine tw_fig h1 (stop58 _) (TW.colon ?_)
  refine tw_fig h2 (stop58 _) (TW.colon ?_)
  refine tw_fig h3 hr ?_
  simp only [u8_len]
  have e : 0 + dl.length + 1 + ml.length + 1 + yl.length + 1 + c1.length + 1 + c2.length + 1 + c3.length = n := by omega
  rw [e]
  exact ht
theorem monthsW_facts : ∀ k, k < 12 → (∀ c ∈ (monthsW.getD k Str.empty).cps.toList, (97 ≤ c ∧ c ≤ 122) ∨ (65 ≤ c ∧ c ≤ 90)) ∧ monthNo (monthsW.getD k Str.empty) = (k + 2) % 12 + 1 ∧ (monthsW.getD k Str.empty).cps.toList.length = 3 := by decide +kernel
theorem day_letters : ∀ n ∈ dayNames.map lowerT, ∀ c ∈ n.cps.toList, 97 ≤ c := by decide +kernel
theorem day_no {l : List Nat} (h : isFig l = true) : isDayName (tx l) = false := by
  unfold isDayName
  rw [decide_eq_false_iff_not]
  intro hm
  have h2 := day_letters _ hm
  rw [low_toList, tx_toList] at h2
  rcases l with _ | ⟨c, l⟩
  · exact fig_ne h rfl
  · have h3 := fig_in h c (.head _)
    have h4 := h2 (lowN c) (.head _)
    unfold lowN at h4
    split at h4 <;> omega
theorem tx_self (x : Str) : tx x.cps.toList = x := by cases x; rfl
theorem two_fig {n : Nat} (h : n < 100) : isFig [48 + n / 10, 48 + n % 10] = true := by simp [isFig]; omega
theorem two_val {n : Nat} (h : n < 100) : NumText.digitsVal [48 + n / 10, 48 + n % 10] = n := by rw [dv2]; omega
theorem atomB_at {l : List Tk} {i : Nat} {w : List UInt8} {p : Nat} (h : l[i]? = some (Str.ofString "atom", some w, p)) : atomB l i = w := by
  unfold atomB; rw [h]; simp
theorem fig_back {l : List Nat} (h : isFig l = true) : isFig ((u8 l).map (·.toNat)) = true := by rw [u8_nat (words_lt (fig_word h))]; exact h
theorem num_back {l : List Nat} (h : isFig l = true) : numB (u8 l) = NumText.digitsVal l := by unfold numB; rw [u8_nat (words_lt (fig_word h))]
theorem date_tok {z : Str} {y mo d ho mi se : Int} (H : HeadS z y mo d ho mi se) (y0 : 1 ≤ y) (y1 : y ≤ 9999) (m0 : 1 ≤ mo) (m1 : mo ≤ 12) (d0 : 1 ≤ d) (d1 : d ≤ monthLen y mo) (h0 : 0 ≤ ho) (h1 : ho ≤ 23) (i0 : 0 ≤ mi) (i1 : mi ≤ 59) (s0 : 0 ≤ se) (s1 : se ≤ 59)
    {r : List UInt8} {lr : List Tk} (hr : r.takeWhile isAtom = []) (ht : TW r z.length lr) :
    ∃ l8 : List Tk, l8.length = 8 ∧ TW (u8 z.cps.toList ++ r) 0 (l8 ++ lr) ∧ DateTok (l8 ++ lr) y.toNat mo.toNat d.toNat ho.toNat mi.toNat se.toNat := by
  obtain ⟨dl, yl, eq, dn, dl1, dl2, yn, y4⟩ := H
  have hk : ((mo + 9).fmod 12).toNat < 12 := by rw [fm _ (by decide)]; omega
  have hmo : (((mo + 9).fmod 12).toNat + 2) % 12 + 1 = mo.toNat := by rw [fm _ (by decide)]; omega
  obtain ⟨w1, w2, w3⟩ := monthsW_facts _ hk
  rw [hmo] at w2
  generalize monthsW.getD ((mo + 9).fmod 12).toNat Str.empty = mw at *
  have b1 : ho.toNat < 100 := by omega
  have b2 : mi.toNat < 100 := by omega
  have b3 : se.toNat < 100 := by omega
  have hzl : z.length = dl.length + 3 + 4 + 2 + 2 + 2 + 5 := by
    rw [← len_list, eq]
    simp only [List.length_append, List.length_cons, List.length_nil, w3, y4]
  obtain ⟨p1, p2, p3, p4, p5, p6, p7, p8, hT⟩ := head_TW dn.fig w1 (by intro e; rw [e] at w3; cases w3) yn.fig (two_fig b1) (two_fig b2) (two_fig b3) hr (by rw [hzl, w3, y4]; rfl) ht
  refine ⟨[(Str.ofString "atom", some (u8 dl), p1), (Str.ofString "atom", some (u8 mw.cps.toList), p2), (Str.ofString "atom", some (u8 yl), p3), (Str.ofString "atom", some (u8 [48 + ho.toNat / 10, 48 + ho.toNat % 10]), p4), (Str.ofString "sign", some [58], p5), (Str.ofString "atom", some (u8 [48 + mi.toNat / 10, 48 + mi.toNat % 10]), p6), (Str.ofString "sign", some [58], p7), (Str.ofString "atom", some (u8 [48 + se.toNat / 10, 48 + se.toNat % 10]), p8)], rfl, ?_, ?_⟩
  · rw [eq]
    simp only [u8_app, List.append_assoc]
    exact hT
  · have a0 := atomB_at (l := [(Str.ofString "atom", some (u8 dl), p1), (Str.ofString "atom", some (u8 mw.cps.toList), p2), (Str.ofString "atom", some (u8 yl), p3), (Str.ofString "atom", some (u8 [48 + ho.toNat / 10, 48 + ho.toNat % 10]), p4), (Str.ofString "sign", some [58], p5), (Str.ofString "atom", some (u8 [48 + mi.toNat / 10, 48 + mi.toNat % 10]), p6), (Str.ofString "sign", some [58], p7), (Str.ofString "atom", some (u8 [48 + se.toNat / 10, 48 + se.toNat % 10]), p8)] ++ lr) (i := 0) rfl
    have a1 := atomB_at (l := [(Str.ofString "atom", some (u8 dl), p1), (Str.ofString "atom", some (u8 mw.cps.toList), p2), (Str.ofString "atom", some (u8 yl), p3), (Str.ofString "atom", some (u8 [48 + ho.toNat / 10, 48 + ho.toNat % 10]), p4), (Str.ofString "sign", some [58], p5), (Str.ofString "atom", some (u8 [48 + mi.toNat / 10, 48 + mi.toNat % 10]), p6), (Str.ofString "sign", some [58], p7), (Str.ofString "atom", some (u8 [48 + se.toNat / 10, 48 + se.toNat % 10]), p8)] ++ lr) (i := 1) rfl
    have a2 := atomB_at (l := [(Str.ofString "atom", some (u8 dl), p1), (Str.ofString "atom", some (u8 mw.cps.toList), p2), (Str.ofString "atom", some (u8 yl), p3), (Str.ofString "atom", some (u8 [48 + ho.toNat / 10, 48 + ho.toNat % 10]), p4), (Str.ofString "sign", some [58], p5), (Str.ofString "atom", some (u8 [48 + mi.toNat / 10, 48 + mi.toNat % 10]), p6), (Str.ofString "sign", some [58], p7), (Str.ofString "atom", some (u8 [48 + se.toNat / 10, 48 + se.toNat % 10]), p8)] ++ lr) (i := 2) rfl
    have a3 := atomB_at (l := [(Str.ofString "atom", some (u8 dl), p1), (Str.ofString "atom", some (u8 mw.cps.toList), p2), (Str.ofString "atom", some (u8 yl), p3), (Str.ofString "atom", some (u8 [48 + ho.toNat / 10, 48 + ho.toNat % 10]), p4), (Str.ofString "sign", some [58], p5), (Str.ofString "atom", some (u8 [48 + mi.toNat / 10, 48 + mi.toNat % 10]), p6), (Str.ofString "sign", some [58], p7), (Str.ofString "atom", some (u8 [48 + se.toNat / 10, 48 + se.toNat % 10]), p8)] ++ lr) (i := 3) rfl
    have a5 := atomB_at (l := [(Str.ofString "atom", some (u8 dl), p1), (Str.ofString "atom", some (u8 mw.cps.toList), p2), (Str.ofString "atom", some (u8 yl), p3), (Str.ofString "atom", some (u8 [48 + ho.toNat / 10, 48 + ho.toNat % 10]), p4), (Str.ofString "sign", some [58], p5), (Str.ofString "atom", some (u8 [48 + mi.toNat / 10, 48 + mi.toNat % 10]), p6), (Str.ofString "sign", some [58], p7), (Str.ofString "atom", some (u8 [48 + se.toNat / 10, 48 + se.toNat % 10]), p8)] ++ lr) (i := 5) rfl
    have a7 := atomB_at (l := [(Str.ofString "atom", some (u8 dl), p1), (Str.ofString "atom", some (u8 mw.cps.toList), p2), (Str.ofString "atom", some (u8 yl), p3), (Str.ofString "atom", some (u8 [48 + ho.toNat / 10, 48 + ho.toNat % 10]), p4), (Str.ofString "sign", some [58], p5), (Str.ofString "atom", some (u8 [48 + mi.toNat / 10, 48 + mi.toNat % 10]), p6), (Str.ofString "sign", some [58], p7), (Str.ofString "atom", some (u8 [48 + se.toNat / 10, 48 + se.toNat % 10]), p8)] ++ lr) (i := 7) rfl
    have g4 : ([(Str.ofString "atom", some (u8 dl), p1), (Str.ofString "atom", some (u8 mw.cps.toList), p2), (Str.ofString "atom", some (u8 yl), p3), (Str.ofString "atom", some (u8 [48 + ho.toNat / 10, 48 + ho.toNat % 10]), p4), (Str.ofString "sign", some [58], p5), (Str.ofString "atom", some (u8 [48 + mi.toNat / 10, 48 + mi.toNat % 10]), p6), (Str.ofString "sign", some [58], p7), (Str.ofString "atom", some (u8 [48 + se.toNat / 10, 48 + se.toNat % 10]), p8)] ++ lr : List Tk)[4]? = some (Str.ofString "sign", some [58], p5) := rfl
    have g6 : ([(Str.ofString "atom", some (u8 dl), p1), (Str.ofString "atom", some (u8 mw.cps.toList), p2), (Str.ofString "atom", some (u8 yl), p3), (Str.ofString "atom", some (u8 [48 + ho.toNat / 10, 48 + ho.toNat % 10]), p4), (Str.ofString "sign", some [58], p5), (Str.ofString "atom", some (u8 [48 + mi.toNat / 10, 48 + mi.toNat % 10]), p6), (Str.ofString "sign", some [58], p7), (Str.ofString "atom", some (u8 [48 + se.toNat / 10, 48 + se.toNat % 10]), p8)] ++ lr : List Tk)[6]? = some (Str.ofString "sign", some [58], p7) := rfl
    have hlen : 8 ≤ ([(Str.ofString "atom", some (u8 dl), p1), (Str.ofString "atom", some (u8 mw.cps.toList), p2), (Str.ofString "atom", some (u8 yl), p3), (Str.ofString "atom", some (u8 [48 + ho.toNat / 10, 48 + ho.toNat % 10]), p4), (Str.ofString "sign", some [58], p5), (Str.ofString "atom", some (u8 [48 + mi.toNat / 10, 48 + mi.toNat % 10]), p6), (Str.ofString "sign", some [58], p7), (Str.ofString "atom", some (u8 [48 + se.toNat / 10, 48 + se.toNat % 10]), p8)] ++ lr : List Tk).length := by simp
    generalize ([(Str.ofString "atom", some (u8 dl), p1), (Str.ofString "atom", some (u8 mw.cps.toList), p2), (Str.ofString "atom", some (u8 yl), p3), (Str.ofString "atom", some (u8 [48 + ho.toNat / 10, 48 + ho.toNat % 10]), p4), (Str.ofString "sign", some [58], p5), (Str.ofString "atom", some (u8 [48 + mi.toNat / 10, 48 + mi.toNat % 10]), p6), (Str.ofString "sign", some [58], p7), (Str.ofString "atom", some (u8 [48 + se.toNat / 10, 48 + se.toNat % 10]), p8)] ++ lr : List Tk) = l at *
    have two : ∀ {i n : Nat}, n < 100 → atomB l i = u8 [48 + n / 10, 48 + n % 10] → Two l i := fun hn e => ⟨by rw [e]; exact fig_back (two_fig hn), by rw [e]; rfl⟩
    constructor
    · rw [a0, tx_u8 (words_lt (fig_word dn.fig))]; exact day_no dn.fig
    · rw [a0]; exact fig_back dn.fig
    · rw [a0, u8_len]; exact dl1
    · rw [a0, u8_len]; exact dl2
    · rw [a0, num_back dn.fig]; exact dn.val
    · rw [a1, u8_len, w3]; decide
    · rw [a1, tx_u8 (words_lt fun c hc => .inl (w1 c hc)), tx_self]; exact w2
    · omega
    · omega
    · rw [a2]; exact fig_back yn.fig
    · rw [a2, u8_len]; exact y4
    · rw [a2, num_back yn.fig]; exact yn.val
    · exact two b1 a3
    · exact two b2 a5
    · exact two b3 a7
    · exact ⟨_, g4⟩
    · exact ⟨_, g6⟩
    · rw [a3, num_back (two_fig b1)]; exact two_val b1
    · rw [a5, num_back (two_fig b2)]; exact two_val b2
    · rw [a7, num_back (two_fig b3)]; exact two_val b3
    · omega
    · omega
    · omega
    · rw [Int.toNat_of_nonneg (by omega), Int.toNat_of_nonneg (by omega), Int.toNat_of_nonneg (by omega)]; exact d1
    · omega
    · omega
    · omega
    · exact hlen
theorem at8 {l8 lr : List Tk} (h : l8.length = 8) (i : Nat) : (l8 ++ lr)[8 + i]? = lr[i]? := by
  rw [List.getElem?_append_right (by omega), h, Nat.add_sub_cancel_left]
theorem atom8 {l8 lr : List Tk} (h : l8.length = 8) (i : Nat) : atomB (l8 ++ lr) (8 + i) = atomB lr i := by unfold atomB; rw [at8 h]
theorem place8 {l8 lr : List Tk} (h : l8.length = 8) (n i : Nat) : placeAt (l8 ++ lr) n (8 + i) = placeAt lr n i := by unfold placeAt; rw [at8 h]

-- part rdw
section
variable {w : World} {loose : List Str} {mean : ExcName → Option Value} {mg mb : Str → Option Value} {dp un : Nat} {gd : Option (List Code)} {cn : Str} {cs : Scope} {a : Addr} {ccd : Value} {cl : List (Str × Addr)} {outer : List Env} {A₀ : Around} {base h₀ : Heap} {L : Addr} {m : Str → Option Value} {s : Shared} {Q E : Value → Shared → Prop} {news : List (Addr × Obj)} {p : Program}
variable (B : Below A₀ base outer h₀) (F : Fr h₀ L s.heap m) (X : (K w.params).In h₀) (N : News h₀ L s.heap news) (T : Top p loose mean mg mb h₀) (hk : cs.kind = .function)
include B F X N T hk
theorem read_ok_c (hd : dp + 135 < recursionLimit) (hu : un + 600 < cLine) {b : Array UInt8} {t : Tok} {x lead trail : Str} {wl : List Nat} {y mo d ho mi se z : Int} (H : Nonempty (HeadS x y mo d ho mi se))
    (hb : b.toList = u8 (x.cps.toList ++ (lead.cps.toList ++ (wl ++ trail.cps.toList)))) (g1 : GapW lead) (g2 : GapW trail) (hw : (∀ c ∈ wl, Word c) ∧ wl ≠ []) (hn : wl.length ≤ 10) (hz : zoneB (u8 wl) = some z)
    (y0 : 1 ≤ y) (y1 : y ≤ 9999) (m0 : 1 ≤ mo) (m1 : mo ≤ 12) (d0 : 1 ≤ d) (d1 : d ≤ monthLen y mo) (h0 : 0 ≤ ho) (h1 : ho ≤ 23) (i0 : 0 ≤ mi) (i1 : mi ≤ 59) (s0 : 0 ≤ se) (s1 : se ≤ 59)
    (ret : ∀ o dd k1 v1 k2 v2 k3 v3 k4 v4 k5 v5 k6 v6 k7 v7 h' tk', Fr h₀ L h' m → News h₀ L h' ((o, instObj 161 dd) :: (dd, momD w.params y mo d ho mi se z k1 v1 k2 v2 k3 v3 k4 v4 k5 v5 k6 v6 k7 v7) :: news) → Q (.ref o) { s with heap := h', toks := tk' }) :
    wpAny (model PW w) (ktrTop dp un gd cn cs L a ccd cl outer) (call (.ref 345) [.bytes b t]) Q E s := by
  obtain ⟨H⟩ := H
  obtain ⟨hw, hw0⟩ := hw
  have l1 := g1.len
  have l2 := g2.len
  have hT := zone_TW (n := x.length) g1.u8 (words_atom hw) (u8_ne hw0) g2.u8
  rw [u8_len, len_list] at hT
  obtain ⟨l8, e8, hTT, D⟩ := date_tok H y0 y1 m0 m1 d0 d1 h0 h1 i0 i1 s0 s1 (r := u8 lead.cps.toList ++ (u8 wl ++ u8 trail.cps.toList)) (gap_stops g1.u8) hT
  have hxl : x.length ≤ 40 := by
    have e := len_list x
    rw [H.eq] at e
    have w3 := (monthsW_facts _ (show ((mo + 9).fmod 12).toNat < 12 by rw [fm _ (by decide)]; omega)).2.2
    have := H.dl2
    have := H.y4
    simp only [List.length_append, List.length_cons, List.length_nil] at e
    omega
  obtain ⟨f, k0, l', q1, q2, q3⟩ := hTT
  rw [Nat.zero_add] at q2
  rw [← u8_app, ← u8_app, ← u8_app, ← hb] at q1 q2
  have hbs : b.size < 10000 := by
    rw [← Array.length_toList, hb, u8_len]
    simp only [List.length_append, len_list]
    omega
  have a8 : atomB (l'.filter noCmt) 8 = u8 wl := by rw [q3, show (8 : Nat) = 8 + 0 from rfl, atom8 e8]; exact atomB_at rfl
  rw [← q3] at D
  have n9 : (l'.filter noCmt).length = 9 := by rw [q3, List.length_append, e8]; rfl
  clear q3 hT
  refine read_date_c B F X N T hk hd hu hbs q1 q2 D (by rw [a8, u8_len]; omega) (.inl ⟨z, by rw [a8]; exact hz, n9, ?_⟩)
  intro o dd k1 v1 k2 v2 k3 v3 k4 v4 k5 v5 k6 v6 k7 v7 h' tk' F' N'
  rw [Int.toNat_of_nonneg (show 0 ≤ y by omega), Int.toNat_of_nonneg (show 0 ≤ mo by omega), Int.toNat_of_nonneg (show 0 ≤ d by omega), Int.toNat_of_nonneg h0, Int.toNat_of_nonneg i0, Int.toNat_of_nonneg s0] at N'
  exact ret _ _ _ _ _ _ _ _ _ _ _ _ _ _ _ _ _ _ F' N'
theorem read_bad_c (hd : dp + 135 < recursionLimit) (hu : un + 600 < cLine) {b : Array UInt8} {t : Tok} {x z : Str} {y mo d ho mi se p : Int} (H : Nonempty (HeadS x y mo d ho mi se))
    (hb : b.toList = u8 z.cps.toList) (HB : Bent x z p)
    (y0 : 1 ≤ y) (y1 : y ≤ 9999) (m0 : 1 ≤ mo) (m1 : mo ≤ 12) (d0 : 1 ≤ d) (d1 : d ≤ monthLen y mo) (h0 : 0 ≤ ho) (h1 : ho ≤ 23) (i0 : 0 ≤ mi) (i1 : mi ≤ 59) (s0 : 0 ≤ se) (s1 : se ≤ 59)
    (bad : ∀ e dx x a1 b1 a2 b2 g h' tk', RaisedD base (envX cn cs L a ccd cl :: outer) e dx (wfD w.params x p a1 b1 a2 b2) h' → Fr h₀ L g m → g.UpToSlots h' → E (.ref e) { s with heap := h', toks := tk' }) :
    wpAny (model PW w) (ktrTop dp un gd cn cs L a ccd cl outer) (call (.ref 345) [.bytes b t]) Q E s := by
  obtain ⟨H⟩ := H
  obtain ⟨-, hzl, r, lr, hr, hs, hT, hat, hor⟩ := HB
  obtain ⟨l8, e8, hTT, D⟩ := date_tok H y0 y1 m0 m1 d0 d1 h0 h1 i0 i1 s0 s1 hs hT
  have hxl : x.length ≤ 40 := by
    have e := len_list x
    rw [H.eq] at e
    have w3 := (monthsW_facts _ (show ((mo + 9).fmod 12).toNat < 12 by rw [fm _ (by decide)]; omega)).2.2
    have := H.dl2
    have := H.y4
    simp only [List.length_append, List.length_cons, List.length_nil] at e
    omega
  obtain ⟨f, k0, l', q1, q2, q3⟩ := hTT
  rw [Nat.zero_add] at q2
  rw [← hr, ← hb] at q1 q2
  have hbz : b.size = z.length := by rw [← Array.length_toList, hb, u8_len, len_list]
  have hbs : b.size < 10000 := by omega
  have a8 : atomB (l'.filter noCmt) 8 = atomB lr 0 := by rw [q3]; exact atom8 e8 0
  have p8 : placeAt (l'.filter noCmt) b.size 8 = placeAt lr z.length 0 := by rw [q3, hbz]; exact place8 e8 _ 0
  have p9 : placeAt (l'.filter noCmt) b.size 9 = placeAt lr z.length 1 := by rw [q3, hbz]; exact place8 e8 _ 1
  have n9 : (l'.filter noCmt).length = 8 + lr.length := by rw [q3, List.length_append, e8]
  rw [← q3] at D
  clear q3 hT
  rcases hor with ⟨hz, hp⟩ | ⟨zz, hz, h9, hp⟩
  · refine read_date_c B F X N T hk hd hu hbs q1 q2 D (by rw [a8]; omega) (.inr (.inl ⟨by rw [a8]; exact hz, ?_⟩))
    rw [p8, ← hp]
    exact bad
  · refine read_date_c B F X N T hk hd hu hbs q1 q2 D (by rw [a8]; omega) (.inr (.inr ⟨zz, by rw [a8]; exact hz, by omega, ?_⟩))
    rw [p9, ← hp]
    exact bad
end

-- part lpv
section
variable {prog : Program} {w : World} {A : Around} {E : Value → Shared → Prop} {s : Shared} {env : Env} {h₀ : Heap} {target : Expr} {body : List Stmt} {Q : Flow → Shared → Prop}
/-- the end of a loop's turn: the iterator stands, the ledger is in order -/
def TEnd (h₀ : Heap) (L I : Addr) (oI : Obj) (Jn : (Str → Option Value) → List (Addr × Obj) → Prop) (s₁ s₂ : Shared) : Prop :=
  ∃ h' tk m' nx, s₂ = { s₁ with heap := h', toks := tk } ∧ Fr h₀ L h' m' ∧ News h₀ L h' ((I, oI) :: nx) ∧ (∀ p ∈ nx, p.1 ≠ I) ∧ Jn m' nx
def TPost (h₀ : Heap) (L I : Addr) (oI : Obj) (Jn : (Str → Option Value) → List (Addr × Obj) → Prop) (s₁ : Shared) (Q : Flow → Shared → Prop) (f : Flow) (s₂ : Shared) : Prop :=
  match f with
  | .ret v => Q (.ret v) s₂
  | .brk => Q .next s₂
  | _ => TEnd h₀ L I oI Jn s₁ s₂
theorem TPost.intro {L I : Addr} {oI : Obj} {Jn : (Str → Option Value) → List (Addr × Obj) → Prop} {s₁ : Shared} {h' : Heap} {tk : Nat} {m' : Str → Option Value} {nx : List (Addr × Obj)} (F : Fr h₀ L h' m') (N : News h₀ L h' ((I, oI) :: nx)) (off : ∀ p ∈ nx, p.1 ≠ I) (hj : Jn m' nx) :
    TPost h₀ L I oI Jn s₁ Q .next { s₁ with heap := h', toks := tk } := ⟨h', tk, m', nx, rfl, F, N, off, hj⟩
/-- a loop over a list of the ledger, by an invariant over the frame and the ledger -/
theorem loopL {ax : Addr} {its : Array Value} {k : Nat} {m₀ : Str → Option Value} {news : List (Addr × Obj)} (J : Nat → (Str → Option Value) → List (Addr × Obj) → Prop)
    (hh : A.handled = none) (F : Fr h₀ env.locals s.heap m₀) (N : News h₀ env.locals s.heap news) (hJl : ∀ i m nx, J i m nx → (ax, ({ cls := .type "list", data := .seq its k } : Obj)) ∈ nx) (hj : J 0 m₀ news)
    (turn : ∀ i v m₁ nx I oI h tk, i < its.size → its[i]? = some v → J i m₁ nx → (∀ p ∈ nx, p.1 ≠ I) → Fr h₀ env.locals h m₁ → News h₀ env.locals h ((I, oI) :: nx) →
      wpAny (model prog w) A (assign target env v) (fun _ s₃ => wpAny (model prog w) A (execs body env) (TPost h₀ env.locals I oI (J (i + 1)) { s with heap := h, toks := tk } Q) E s₃) E { s with heap := h, toks := tk })
    (done : ∀ m₁ nx h tk, J its.size m₁ nx → Fr h₀ env.locals h m₁ → News h₀ env.locals h nx → Q .next { s with heap := h, toks := tk }) :
    wpAny (model prog w) A (pyIter (.ref ax)) (fun it s₂ => TurnsAt prog w A h₀ env target body Q E it s₂) E s := by
  have hm := hJl _ _ _ hj
  have hls : s.heap.IsList ax its := ⟨_, (N _ hm).1, rfl, _, rfl⟩
  have hlt : ax < s.heap.objs.size := Heap.lt_size (N _ hm).1
  have hne : ax ≠ s.heap.objs.size := Nat.ne_of_lt hlt
  refine wpAny_pyIter_list hls ?_
  have W := Walks.list (prog := prog) (w := w) hh s.heap.objs.size ax hne its
  refine ⟨_, _, _, its.size, _, _, _, m₀, news, J, rfl, KTurns.ofWalks W (fun i v s Q E st hq => letGo_listiter st.1 hq), ?_, ?_, ?_, ⟨⟨_, Heap.get?_push_size _ rfl, rfl, rfl⟩, hls.at fun o e => Heap.get?_push_of_some _ e⟩, F.push _, (fun p hp => ⟨Heap.get?_push_of_some _ (N p hp).1, (N p hp).2⟩), hj, ?_, ?_⟩
  · intro hm'
    rcases List.mem_cons.mp hm' with e | hm'
    · exact absurd F.ns.lt (e ▸ Nat.lt_irrefl _)
    · exact (N _ hm).2.1 (List.mem_singleton.mp hm').symm
  · intro b hb
    rw [List.mem_singleton.mp hb]
    exact next_is_new F
  · intro p hp hI
    exact absurd (Heap.lt_size (N p hp).1) ((List.mem_singleton.mp hI) ▸ Nat.lt_irrefl _)
  · rintro i v m₁ nx h₁ tk₁ own hin hP hJ hoff hown hget hall hst F₁ N₁
    obtain ⟨oI, hoI, hoI2⟩ := hst.1
    have hIown := hall s.heap.objs.size (.head _) (next_is_new F) oI hoI
    have hin' := hJl _ _ _ hJ
    have hoff' : ∀ p ∈ nx, p.1 ≠ s.heap.objs.size := fun p hp e => hoff p hp (e ▸ List.mem_singleton.mpr rfl)
    refine wpAny_mono (turn i v m₁ nx s.heap.objs.size oI h₁ tk₁ hin hP hJ hoff' F₁ (fun p hp => ?_)) (fun _ s₃ hs₃ => wpAny_mono hs₃ (fun f s₂ p => ?_) fun _ _ e => e) fun _ _ e => e
    · rcases List.mem_cons.mp hp with rfl | hp
      · exact N₁ _ (List.mem_append_left _ hIown)
      · exact N₁ _ (List.mem_append_right _ hp)
    · have fin : TEnd h₀ env.locals s.heap.objs.size oI (J (i + 1)) { s with heap := h₁, toks := tk₁ } s₂ → LoopStepU h₀ env.locals [s.heap.objs.size] own (J (i + 1)) { s with heap := h₁, toks := tk₁ } .next s₂ := by
        rintro ⟨h', tk, m', nx', e, F', N', ho, hm'⟩
        refine ⟨rfl, h', tk, m', nx', e, F', fun p hp => ?_, fun p hp hq => ho p hp (List.mem_singleton.mp hq), hm'⟩
        rcases List.mem_append.mp hp with hp | hp
        · rcases List.mem_cons.mp (hown p hp) with e1 | e1
          · have e2 := hget p hp
            have e3 : oI = p.2 := by rw [e1] at e2; exact Option.some.inj (hoI.symm.trans e2)
            have := N' _ (.head _)
            rw [e3, ← e1] at this
            exact this
          · have e1 := List.mem_singleton.mp e1
            have e2 := hget p hp
            have e4 := (N₁ _ (List.mem_append_right _ hin')).1
            rw [e1] at e2
            have e3 := Option.some.inj (e4.symm.trans e2)
            have := N' _ (List.mem_cons_of_mem _ (hJl _ _ _ hm'))
            rw [e3, ← e1] at this
            exact this
        · exact N' p (.tail _ hp)
      cases f with
      | ret v => exact .ret p
      | brk => exact .brk p
      | next => exact .next (fin p)
      | cont => exact .cont (fin p)
  · intro h' tk m' news' F' N' _ hJ
    exact done m' news' h' tk hJ F' N'
end

-- part cau
section
variable {prog : Program} {w : World} {A : Around} {E : Value → Shared → Prop} {s' : Shared} {h₀ h : Heap} {outer : List Env} {L a e t dx : Addr} {m : Str → Option Value} {name : Str} {scope : Scope} {cd : Value} {cl : List (Str × Addr)}
  {n : Str} {b₀ : Stmt} {suite : List Stmt} {pos np : Pos} {rest : List ExceptHandler} {Q : Flow → Shared → Prop} {od : Obj} {P : Params}
  {p : Program} {loose : List Str} {mean : ExcName → Option Value} {mg mb : Str → Option Value} {x : Str}
theorem caughtX (F : Fr h₀ L h m) (hsm : h.UpToSlots s'.heap) (hfr : A.frames = some (envX name scope L a cd cl :: outer)) (R : RaisedD h₀ (envX name scope L a cd cl :: outer) e dx od s'.heap)
    (X : (Mine.K P).In h₀) (T : TopRead p loose mg mb h₀) (ex : nsIn (Mine.K P) mainGlobals x = some (some (.ref 52)))
    (k : ∀ h' tk oe ws, oe.cls = .ref 52 → oe.dict = some dx → oe.data = .fields ws → Fr h₀ L h' (fun y => if y = n then some (.ref e) else m y) → News h₀ L h' [(e, oe), (dx, od)] →
      wpAny (model prog w) (A.mark (some (.ref e))) (execs (b₀ :: suite) (envX name scope L a cd cl))
        (fun f s₄ => wpAny (model prog w) A (do bindName (envX name scope L a cd cl) n .none; unbindBehindTheSuite (envX name scope L a cd cl) n pos) (fun _ s₅ => Q f s₅) E s₄)
        (AsSuiteRaised (model prog w) (A.mark (some (.ref e))) (envX name scope L a cd cl) n pos (notedBy (model prog w) (A.mark (some (.ref e))) (envX name scope L a cd cl) (cameBackBy (model prog w) A (envX name scope L a cd cl) E)))
        { s' with heap := h', toks := tk })
    (hk : scope.kind = .function := by rfl) (hlo : (envX name scope L a cd cl).kindOf n = some .local := by rfl) (hx : (envX name scope L a cd cl).kindOf x = some .globalImplicit := by rfl) (hd : (x == ("__debug__" : Str)) = false := by decide) :
    wpAny (model prog w) A (noteFrame (.ref e) (envX name scope L a cd cl))
      (fun _ s₂ => wpAny (model prog w) A (setFlight (.ref e) none) (fun _ s₃ =>
        wpAny (model prog w) A (handleBy (.ref e) (envX name scope L a cd cl) (.ExceptHandler (some (.Name x np)) (some n) (b₀ :: suite) pos :: rest)) Q E s₃) E s₂) E s' := by
  obtain ⟨B, hB, hdx, hdn, hfl⟩ := R
  have hL : B.get? L = none := by
    obtain ⟨_, ⟨L', _, hf, hn', _⟩, _⟩ := hfl.2.2.1
    obtain rfl : L = L' := Option.some.inj hf
    exact hn'
  refine noteP2 PWf.keeps hfr rfl hfl fun h₄ hh₄ u₄ => ?_
  refine setFlightP hh₄ fun h₅ hh₅ u₅ => ?_
  have hb₅ := FlyP.base hB hh₅
  have F₅ := F.of_stays hb₅.1 ((hsm.trans u₄).trans u₅)
  obtain ⟨ob, _, _, _, _, hob, hobc, _⟩ := hb₅.2.2.2
  refine wpAny_handleBy_cons (codeAny_handlers_test (nameX_K F₅ X T ex ?_ hk hx hd)) (by intro q; cases q)
  refine wpAny_excMatches_sub_self ((X.keeps F₅.keep) _ _ (wf_K P)) hob hobc.1 (by decide +kernel) (codeAny_handlers_suite_as ?_)
  refine setFlightP hh₅ fun h₆ hh₆ u₆ => ?_
  have hb₆ := FlyP.base hB hh₆
  have F₆ := F.of_stays hb₆.1 (((hsm.trans u₄).trans u₅).trans u₆)
  obtain ⟨oe, ws, _, _, _, hoe, hoec, hoed, _⟩ := hb₆.2.2.2
  have hdx6 := hh₆.1 _ _ hdx
  have N₆ : News h₀ L h₆ [(e, oe), (dx, od)] := fun q hq => by
    rcases List.mem_cons.mp hq with rfl | hq
    · refine ⟨hoe, fun z => ?_, hb₆.2.1⟩
      obtain ⟨oL, es, ep, hoL, hdL, _⟩ := F₆.ns
      dsimp only at z
      rw [z, hoL] at hoe
      cases hoe
      rw [hdL] at hoed; cases hoed
    · rw [List.mem_singleton.mp hq]
      exact ⟨hdx6, (fun z => by dsimp only at z; rw [z, hL] at hdx; cases hdx), hdn⟩
  exact storeX_L F₆ N₆ (fun h₇ F₇ N₇ => k h₇ _ oe ws hoec.1 hoec.2 hoed F₇ N₇) hk hlo
end
section
variable {prog : Program} {w : World} {A : Around} {E : Value → Shared → Prop} {s : Shared} {K : Frag} {x C : Addr} {ox : Obj} {od : Option Obj} {name : Str} {expr : Bool} {Q : Value → Shared → Prop}
/-- an attribute of an own exception, by the dict of what bears it -/
theorem exc_get {v : Value} (G : Slot "Exception" "__getattribute__" "BaseException.__getattribute__") (X : K.In s.heap) (I : InstAt s.heap x ox C od) (hga : findIn K (.ref C) "__getattribute__" = some (some (.builtin "BaseException.__getattribute__"))) (hgt : findIn K (.ref C) "__getattr__" = some none)
    (hi : subIn K (.ref C) (.type "BaseException") = some true) (hf : findObj K C od name = some (.value v)) (hh : handedIn v = true) (h : Q v { s with toks := s.toks + 1 }) : wpAny (model prog w) A (getAttr (.ref x) name expr) Q E s := by
  obtain ⟨hp, g, d, t, os⟩ := s
  have L0 := I.type (M := model prog w)
  have L1 := looks_findIn (M := model prog w) X hga
  have L2 := looks_hook (M := model prog w) (mc := .ref C) X (r := none) ((if_pos rfl).trans hgt)
  have L3 := looks_find (M := model prog w) X I hf
  refine wpAny_bind (wpAny_mkText (wpAny_holding (wpAny_bind (L0.at (wpAny_bind (L1.at ?_))))))
  dsimp only
  rw [show (onTheHeap (Value.ref C) && Value.builtin "BaseException.__getattribute__" == Value.builtin "object.__getattribute__") = false from by rw [show (Value.builtin "BaseException.__getattribute__" == Value.builtin "object.__getattribute__") = false from by decide +kernel, Bool.and_false], if_neg (by decide)]
  refine wpAny_bind (L2.at (wpAny_bind (wpAny_attempt (wpAny_holding ?_))))
  unfold callGetattribute
  rw [show (expr && onTheHeap (Value.builtin "BaseException.__getattribute__")) = false from Bool.and_false _, if_neg (by decide)]
  unfold boundAndCalled
  rw [G.bind]
  refine wpAny_bind (wpAny_pure ?_)
  show wpAny _ _ (call (.builtin "BaseException.__getattribute__") [.ref x, .str name t]) _ _ _
  refine wpAny_call ?_
  refine codeAny_call_builtin G.plain F.entry_bexc_ga ?_
  refine @check_slot (model prog w) _ _ ⟨hp, g, d, t + 1, os⟩ "BaseException.__getattribute__" "BaseException" "__getattribute__" (.ref x) [.str name t] [] _ (by decide +kernel) (by decide +kernel) (L0.andThen (looks_subIn X hi)) (F.args_bexc_ga (.ref x) (.str name t)) ?_
  refine wpAny_bind (wpAny_pure ?_)
  repeat (any_goals (first | assumption | with_reducible refine L0.at ?_ | with_reducible refine L3.at ?_ | wp_step))
  show wpAny _ _ (handedOut v) _ _ _
  rw [handedOut_of hh]; exact wpAny_pure h
theorem exc_own {es : List DictEntry} {n : Nat} {attr : Option Value} {v : Value} (G : Slot "Exception" "__getattribute__" "BaseException.__getattribute__") (X : K.In s.heap) (I : InstAt s.heap x ox C (some (dictOf es n))) (hga : findIn K (.ref C) "__getattribute__" = some (some (.builtin "BaseException.__getattribute__"))) (hgt : findIn K (.ref C) "__getattr__" = some none)
    (hi : subIn K (.ref C) (.type "BaseException") = some true) (hd : hasDictIn K C = true) (ha : findIn K (.ref C) name = some attr) (hn : noGet K attr = true) (hl : getL name es = some (some v)) (hh : handedIn v = true) (h : Q v { s with toks := s.toks + 1 }) : wpAny (model prog w) A (getAttr (.ref x) name expr) Q E s :=
  exc_get G X I hga hgt hi (findObj_own hd ha hn hl) hh h
end

-- part lbd
theorem News.one {h₀ h : Heap} {L : Addr} {x : Addr × Obj} {r : List (Addr × Obj)} (N : News h₀ L h (x :: r)) : News h₀ L h [x] := fun q hq => N q (by rw [List.mem_singleton.mp hq]; exact .head _)
theorem off_nil {R : Addr} : ∀ p ∈ ([] : List (Addr × Obj)), p.1 ≠ R := fun _ h => nomatch h
theorem off_cons {x : Addr × Obj} {l : List (Addr × Obj)} {R : Addr} (h : @Ne Nat x.1 R) (t : ∀ p ∈ l, p.1 ≠ R) : ∀ p ∈ x :: l, p.1 ≠ R := fun p hp => (List.mem_cons.mp hp).elim (fun e => e ▸ h) (t p)
def namedL : List Str := [Str.ofString "ut", Str.ofString "gmt", Str.ofString "est", Str.ofString "edt", Str.ofString "cst", Str.ofString "cdt", Str.ofString "mst", Str.ofString "mdt", Str.ofString "pst", Str.ofString "pdt"]
/-- a word of small letters -/
def LowW (x : Str) : Prop := (∀ c ∈ x.cps.toList, 97 ≤ c ∧ c ≤ 122) ∧ 1 ≤ x.length ∧ x.length ≤ 6
theorem namedL_facts : ∀ k, k < 10 → (∀ c ∈ (namedL.getD k Str.empty).cps.toList, 97 ≤ c ∧ c ≤ 122) ∧ 1 ≤ (namedL.getD k Str.empty).length ∧ (namedL.getD k Str.empty).length ≤ 6 := by decide +kernel
theorem namedW {d : Int} (h0 : 0 ≤ d) (h1 : d < 10) : LowW (namedL.getD d.toNat Str.empty) := namedL_facts d.toNat (by omega)
section
variable {M : Model} {A : Around} {E : Value → Shared → Prop} {s : Shared} {Q : Value → Shared → Prop} {g' : Heap} {L : Addr} {m : Str → Option Value}
/-- after an expression that drew: its worth, the reel's state anew -/
inductive DrawnP (g' : Heap) (L : Addr) (m : Str → Option Value) (Rl C : Addr) (c1 : Nat) (nws : List (Addr × Obj)) (Wt : Value → Prop) (s : Shared) (v : Value) : Shared → Prop
  | intro {i bt sd : Int} {t1 t2 t3 : Tok} {h' : Heap} {tk' : Nat} (F : Fr g' L h' m) (N : News g' L h' ((Rl, W.listOf [.ref C, .int i t1, .int bt t2, .int sd t3].toArray c1) :: nws)) (ok : DrawOk i bt sd) (w : Wt v) :
    DrawnP g' L m Rl C c1 nws Wt s v { s with heap := h', toks := tk' }
theorem joinD {t : Sem Value} {Rl C : Addr} {c1 : Nat} {nws : List (Addr × Obj)} {i0 b0 s0 : Int} {u1 u2 u3 : Tok} (Wt : Value → Prop) (F : Fr g' L s.heap m) (N : News g' L s.heap ((Rl, W.listOf [.ref C, .int i0 u1, .int b0 u2, .int s0 u3].toArray c1) :: nws)) (h1 : wpAny M A t (DrawnP g' L m Rl C c1 nws Wt s) E s)
    (h2 : ∀ v i bt sd t1 t2 t3 h' tk', Wt v → DrawOk i bt sd → Fr g' L h' m → News g' L h' ((Rl, W.listOf [.ref C, .int i t1, .int bt t2, .int sd t3].toArray c1) :: nws) → Q v { s with heap := h', toks := tk' }) : wpAny M A t Q E s :=
  wpAny_mono h1 (fun v s' q => q.casesOn fun F' N' ok w => h2 v _ _ _ _ _ _ _ _ w ok F' N') fun _ _ e => e
/-- after a plain expression -/
inductive PlainP (g' : Heap) (L : Addr) (m : Str → Option Value) (nws : List (Addr × Obj)) (Wt : Value → Prop) (s : Shared) (v : Value) : Shared → Prop
  | intro {h' : Heap} {tk' : Nat} (F : Fr g' L h' m) (N : News g' L h' nws) (w : Wt v) : PlainP g' L m nws Wt s v { s with heap := h', toks := tk' }
theorem joinP {t : Sem Value} {nws : List (Addr × Obj)} (Wt : Value → Prop) (F : Fr g' L s.heap m) (N : News g' L s.heap nws) (h1 : wpAny M A t (PlainP g' L m nws Wt s) E s)
    (h2 : ∀ v h' tk', Wt v → Fr g' L h' m → News g' L h' nws → Q v { s with heap := h', toks := tk' }) : wpAny M A t Q E s :=
  wpAny_mono h1 (fun v s' q => q.casesOn fun F' N' w => h2 v _ _ w F' N') fun _ _ e => e
end

abbrev lawEnv (cs : Scope) (L a : Addr) (ccd : Value) : Env := envX (Str.ofString "law") cs L a ccd [(Str.ofString "reel", L + 1)]
abbrev lawA (dp un : Nat) (gd : Option (List Code)) (cs : Scope) (L a : Addr) (ccd : Value) (outer : List Env) : Around := ktrTop dp un gd (Str.ofString "law") cs L a ccd [(Str.ofString "reel", L + 1)] outer
noncomputable def lawCode (P : Params) : Option (List Stmt × Scope) := match (Mine.K P).lookup 415 with
  | some ⟨_, _, .func f, _⟩ => match f.body with
    | .stmts b => some (b, f.scope)
    | _ => none
  | _ => none
theorem lawLit {P : Params} {b b' : List Stmt} {c c' : Scope} (h : lawCode P = some (b, c)) (e : lawCode P = some (b', c')) : b = b' ∧ c = c' := by
  rw [h] at e
  cases e
  exact ⟨rfl, rfl⟩
/-- a piece of the law's own code -/
def LawAt (f : List Stmt → List Stmt) (P : Params) (rest : List Stmt) (cs : Scope) : Prop := ∃ b, lawCode P = some (b, cs) ∧ f b = rest
theorem LawAt.lit {f : List Stmt → List Stmt} {P : Params} {rest b' : List Stmt} {cs c' : Scope} (h : LawAt f P rest cs) (e : lawCode P = some (b', c')) : rest = f b' ∧ cs = c' := by
  obtain ⟨b, h1, h2⟩ := h
  rw [h1] at e
  cases e
  exact ⟨h2.symm, rfl⟩
def forBody : List Stmt → List Stmt
  | .For _ _ b _ _ :: _ => b
  | _ => []
theorem Fr.hide {h₀ h : Heap} {L : Addr} {m : Str → Option Value} {P : (Str → Option Value) → Prop} (F : Fr h₀ L h m) (k : ∀ m', (∀ x, m' x = m x) → Fr h₀ L h m' → P m') : P m := k m (fun _ => rfl) F
theorem hk_w797673cf : True := by
  (k_with "!ne1" => (dsimp only; first | assumption | exact Nat.ne_of_lt (by assumption) | exact Nat.ne_of_gt (by assumption) | exact Ne.symm (by assumption) | exact Nat.ne_of_gt (And.left (by assumption)) | exact Nat.ne_of_gt (And.left (And.right (by assumption))) | exact Nat.ne_of_gt (And.left (And.right (And.right (by assumption)))) | exact Nat.ne_of_lt (And.left (by assumption))))
  trivial
theorem hk_wc8c11bbb : True := by
  (k_with "!offs" => ((repeat (refine off_cons (by k_extra "!ne1") ?_)) <;> first | exact off_nil | assumption))
  trivial
theorem hk_wce2fc407 : True := by
  (k_with "!off" => first | assumption | k_extra "!offs" | k_all)
  trivial
theorem hk_w34a1b5f9 : True := by
  (k_with "mem" => first | with_reducible assumption | (refine' List.mem_cons_of_mem _ ?_; with_reducible assumption) | (refine' List.mem_cons_of_mem _ ?_; refine' List.mem_cons_of_mem _ ?_; with_reducible assumption) | (refine' List.mem_cons_of_mem _ ?_; refine' List.mem_cons_of_mem _ ?_; refine' List.mem_cons_of_mem _ ?_; with_reducible assumption) | (refine' List.mem_cons_of_mem _ ?_; refine' List.mem_cons_of_mem _ ?_; refine' List.mem_cons_of_mem _ ?_; refine' List.mem_cons_of_mem _ ?_; with_reducible assumption) | (refine' List.mem_cons_of_mem _ ?_; refine' List.mem_cons_of_mem _ ?_; refine' List.mem_cons_of_mem _ ?_; refine' List.mem_cons_of_mem _ ?_; refine' List.mem_cons_of_mem _ ?_; with_reducible assumption) | (refine' List.mem_cons_of_mem _ ?_; refine' List.mem_cons_of_mem _ ?_; refine' List.mem_cons_of_mem _ ?_; refine' List.mem_cons_of_mem _ ?_; refine' List.mem_cons_of_mem _ ?_; refine' List.mem_cons_of_mem _ ?_; with_reducible assumption) | (refine' List.mem_cons_of_mem _ ?_; refine' List.mem_cons_of_mem _ ?_; refine' List.mem_cons_of_mem _ ?_; refine' List.mem_cons_of_mem _ ?_; refine' List.mem_cons_of_mem _ ?_; refine' List.mem_cons_of_mem _ ?_; refine' List.mem_cons_of_mem _ ?_; with_reducible assumption))
  trivial
theorem hk_w5ed8f537 : True := by
  (k_with "!evv" => first | with_reducible assumption | exact rfl | ((repeat (refine ite_skip (by decide) ?_)); first | with_reducible assumption | exact if_pos rfl))
  trivial
theorem hk_w2e12349d : True := by
  (k_with "mc" => (k_here; (with_reducible show wpAny _ _ (call (Value.ref 345) _) _ _ _); refine Stop.out ?_))
  trivial

-- part lck
structure CkB (y mo d ho mi se : Int) : Prop where
  y0 : 1 ≤ y
  y1 : y ≤ 9999
  m0 : 1 ≤ mo
  m1 : mo ≤ 12
  d0 : 1 ≤ d
  d1 : d ≤ monthLen y mo
  h0 : 0 ≤ ho
  h1 : ho ≤ 23
  i0 : 0 ≤ mi
  i1 : mi ≤ 59
  s0 : 0 ≤ se
  s1 : se ≤ 59
theorem head_facts {x : Str} {y mo d ho mi se : Int} (H : Nonempty (HeadS x y mo d ho mi se)) (c : CkB y mo d ho mi se) : (∀ c ∈ x.cps.toList, c < 256) ∧ x.length ≤ 40 := by
  obtain ⟨⟨dl, yl, eq, dn, dl1, dl2, yn, y4⟩⟩ := H
  have m0 := c.m0
  have m1 := c.m1
  have hk : ((mo + 9).fmod 12).toNat < 12 := by rw [fm _ (by decide)]; omega
  obtain ⟨w1, -, w3⟩ := monthsW_facts _ hk
  generalize monthsW.getD ((mo + 9).fmod 12).toNat Str.empty = mw at *
  have h1 := c.h1
  have i1 := c.i1
  have s1 := c.s1
  have f1 := fig_in dn.fig
  have f2 := fig_in yn.fig
  constructor
  · intro z hz
    rw [eq] at hz
    simp only [List.mem_append, List.mem_cons, List.not_mem_nil, or_false] at hz
    clear eq dn yn
    rcases hz with (((((h | h) | h) | h) | h) | h) | h
    · have := f1 z h; omega
    · omega
    · have := w1 z h; omega
    · omega
    · have := f2 z h; omega
    · omega
    · omega
  · have e := len_list x
    rw [eq] at e
    simp only [List.length_append, List.length_cons, List.length_nil] at e
    clear eq dn yn f1 f2 w1
    omega
theorem civ_ex {D : Int} (h0 : 0 ≤ D) (h1 : D < 5000000) : ∃ y mo d, Civ D y mo d := by
  obtain ⟨era, he⟩ : ∃ era, era = (D + 306) / 146097 := ⟨_, rfl⟩
  obtain ⟨a, ha⟩ : ∃ a, a = (D + 306) % 146097 := ⟨_, rfl⟩
  obtain ⟨k, hk⟩ : ∃ k, k = (a - a / 1460 + a / 36524 - a / 146096) / 365 := ⟨_, rfl⟩
  obtain ⟨doy, hdoy⟩ : ∃ doy, doy = a - (365 * k + k / 4 - k / 100) := ⟨_, rfl⟩
  obtain ⟨mp, hmp⟩ : ∃ mp, mp = (5 * doy + 2) / 153 := ⟨_, rfl⟩
  have ha0 : 0 ≤ a := by omega
  have ha1 : a ≤ 146096 := by omega
  obtain ⟨lo, k0, k9⟩ := yoe_lo a k (a / 1460) (a / 36524) (a / 146096) (k / 4) (k / 100) ha0 ha1 (by omega) (by omega) (by omega) (by omega) (by omega) (by omega) (by omega) (by omega) (by omega) (by omega) (by omega) (by omega)
  have hE : D + 306 = 146097 * era + a := by clear hk hdoy hmp; omega
  have hy1 : k + 400 * era + (if mp > 9 then 1 else 0) < 20000 := by
    have : era ≤ 34 := by clear hk hdoy hmp; omega
    clear hk hdoy hmp
    split <;> omega
  have hy0 : 1 ≤ k + 400 * era + (if mp > 9 then 1 else 0) := by
    have h9 : 0 ≤ era := by clear hk hdoy hmp; omega
    by_cases h8 : era = 0 ∧ k = 0
    · obtain ⟨rfl, rfl⟩ := h8
      rw [if_pos]
      · decide
      · clear hk; omega
    · clear hk hdoy hmp
      split <;> omega
  exact ⟨_, _, _, civ_era ha0 ha1 hk hdoy hmp rfl rfl rfl hE hy0 hy1⟩
theorem ck_of {n y mo d : Int} (hc : Civ (n / 86400 + 719162) y mo d) (h : n / 86400 + 719162 < 3652059) : CkB y mo d ((n.fmod 86400).fdiv 3600) (((n.fmod 86400).fdiv 60).fmod 60) ((n.fmod 86400).fmod 60) := by
  rw [fm n (by decide), fd _ (by decide), fd _ (by decide), fm _ (by decide), fm _ (by decide)]
  refine ⟨hc.y0, hc.year h, hc.m0, hc.m1, hc.d0, hc.d1, ?_, ?_, ?_, ?_, ?_, ?_⟩ <;> clear hc h <;> omega

-- part lsb
section
variable {w : World} {loose : List Str} {mean : ExcName → Option Value} {mg mb : Str → Option Value} {dp un : Nat} {gd : Option (List Code)} {cs : Scope} {a : Addr} {ccd : Value} {outer : List Env} {A₀ : Around} {h₀ : Heap} {L : Addr} {m : Str → Option Value} {s : Shared} {Q : Flow → Shared → Prop} {E : Value → Shared → Prop} {p : Program} {rest : List Stmt}
variable (B : Below A₀ h₀ outer h₀) (F : Fr h₀ L s.heap m) (X : (K w.params).In h₀) (T : Top p loose mean mg mb h₀) (hd : dp + 190 < recursionLimit) (hu : un + 900 < cLine)
include B F X T hd hu
local macro_rules | `(tactic| walk_at "exec Try") => `(tactic| (k_here; refine wpAny_Try_except ?_))
theorem law_try (hb : LawAt (List.drop 13) w.params rest cs) {y mo d ho mi se pl : Int} {x z : Str} {t1 t2 : Tok} {nws : List (Addr × Obj)} (N : News h₀ L s.heap nws) (hz : m (Str.ofString "text") = some (.str z t1)) (hp : m (Str.ofString "place") = some (.int pl t2)) (H : Nonempty (HeadS x y mo d ho mi se)) (HB : Bent x z pl) (ck : CkB y mo d ho mi se)
    (ret : ∀ h' tk' m', Fr h₀ L h' m' → Q (.ret (.bool true)) { s with heap := h', toks := tk' }) :
    wpAny (model PW w) (lawA dp un gd cs L a ccd outer) (execs rest (lawEnv cs L a ccd)) Q E s := by
  have hbc := hb.lit (by with_unfolding_all exact rfl)
  obtain ⟨rfl, rfl⟩ := hbc
  dsimp only [List.drop]
  obtain ⟨hx1, hx2⟩ := head_facts H ck
  have hz1 := HB.1 hx1
  have hz2 : z.length < 10000 := by have := HB.2; omega
  clear hb
  refine fold_A ?_
  intro env₆ A₆
  k_steps
  unfold Stop
  refine read_bad_c (by k_asm) (by k_asm) (by k_asm) (by k_asm) (by k_asm) (by exact rfl) (by ktr_room) (by ktr_units) H (by assumption) HB ck.y0 ck.y1 ck.m0 ck.m1 ck.d0 ck.d1 ck.h0 ck.h1 ck.i0 ck.i1 ck.s0 ck.s1 ?_
  intro e dx x' a1 b1 a2 b2 g h' tk' R FG hsm
  refine caughtX FG hsm rfl R (by k_asm) (by k_asm) (by k_is) ?_
  intro h6 tk6 oe ws o1 o2 o3 F6 N6
  have hS6 : StopM 6 := .mk
  k_steps
  all_goals (try unfold Stop)
  have I : InstAt h6 e oe 52 (some (wfD w.params x' pl a1 b1 a2 b2)) := ⟨(N6 _ (.head _)).1, o1, by unfold notCls; rw [o3], by rw [o2]; exact (N6 _ (.tail _ (.head _))).1⟩
  k_dflt (refine' exc_own PySem.F.attr_Exception.ga ?k2 I ?k4 ?k5 ?k6 ?k7 ?k8 ?k9 ?k10 ?k11 ?_; (case k2 => exact Frag.In.keeps (by k_asm) (Fr.keep (by k_asm))); (case k4 => with_unfolding_all rfl); (case k5 => with_unfolding_all rfl); (case k6 => with_unfolding_all rfl); (case k7 => k_is); (case k8 => k_is); (case k9 => k_is); (case k10 => k_get); (case k11 => k_handed); k_whole)
  k_steps
  refine wpAny_nameGoes_keeps rfl (Fr.ns (by k_asm)) rfl (fun h' v hn hs => ?_)
  have hpp : (pl == pl) = true := by simp
  rw [hpp]
  refine ret _ _ _ (Fr.set (by k_asm) hn hs)
local macro_rules | `(tactic| walk_at "execs cons") => `(tactic| (k_here; (with_reducible show wpAny _ _ (execs (Stmt.Try _ _ _ _ _ :: _) _) _ _ _); refine Stop.out ?_))
theorem law_bent (hb : LawAt (List.drop 12) w.params rest cs) {sp ot n y mo d : Int} {x0 : Str} {t1 t2 t3 tx tz : Tok} {z0i : Int} {Rl C Z z0 : Addr} {oc : Obj} {cvs zs : List Value} {ks : List Int} {c0 c1 kz : Nat} {i bt sd : Int} {u1 u2 u3 : Tok} {nws : List (Addr × Obj)}
    (N : News h₀ L s.heap ((Rl, W.listOf [.ref C, .int i u1, .int bt u2, .int sd u3].toArray c1) :: nws)) (hC : (C, W.listOf cvs.toArray c0) ∈ nws) (off : ∀ p ∈ nws, p.1 ≠ Rl) (hi : IntsAre cvs ks) (hk0 : ∀ k ∈ ks, 0 ≤ k) (hkl : ks.length ≤ 40) (ok : DrawOk i bt sd)
    (hcl : (L + 1, oc) ∈ nws) (hcd : oc.data = .cell (some (.ref Rl))) (hZ : (Z, W.listOf zs.toArray kz) ∈ nws) (hz0 : zs[0]? = some (.ref z0)) (hzl : zs.length ≤ 10) (htz : (z0, ({ cls := .type "tuple", data := .seq #[.str x0 tx, .int z0i tz] } : Obj)) ∈ nws)
    (m1 : m (Str.ofString "spoil") = some (.int sp t1)) (m2 : m (Str.ofString "other") = some (.int ot t2)) (m3 : m (Str.ofString "seconds") = some (.int n t3)) (m4 : m (Str.ofString "zones") = some (.ref Z))
    (s0 : 0 ≤ sp) (s1 : sp < 7) (o0 : 0 ≤ ot) (o1 : ot < 40) (hx : x0.length ≤ 3) (hx1 : 1 ≤ x0.length) (hxl : ∀ c ∈ x0.cps.toList, Letter c) (n0 : -63000000000 ≤ n) (n1 : n < 260000000000) (hc : Civ (n / 86400 + 719162) y mo d) (hn : n / 86400 + 719162 < 3652059)
    (ret : ∀ h' tk' m', Fr h₀ L h' m' → Q (.ret (.bool true)) { s with heap := h', toks := tk' }) :
    wpAny (model PW w) (lawA dp un gd cs L a ccd outer) (execs rest (lawEnv cs L a ccd)) Q E s := by
  have hbc := hb.lit (by with_unfolding_all exact rfl)
  obtain ⟨rfl, rfl⟩ := hbc
  dsimp only [List.drop]
  have ck := ck_of hc hn
  obtain ⟨c1, c2, c3, c4, c5, c6, c7, c8, c9, c10, c11, c12⟩ := ck
  have c66 := (monthLen_in y mo).2
  clear hb
  refine fold_A ?_
  intro env₆ A₆
  have hS1 : StopM 7 := .mk
  k_steps
  all_goals (try unfold Stop)
  k_dflt (refine' my_item ?k1 ?k2 ?k3 ?k4 ?_ ?k6; (case k1 => exact News.isList (by k_asm) (by k_extra "!bsm")); (case k2 => decide); (case k3 => decide); (case k4 => exact hz0); (case k6 => with_unfolding_all rfl))
  have ck := ck_of hc hn
  have hh := (head_facts g9 ck).2
  have hS410 : StopM 410 := .mk
  k_steps
  all_goals (try unfold Stop)
  k_dflt (refine bent_c (by k_asm) (by k_asm) (by k_asm) (by k_extra "!nwQ") (by k_asm) (by exact rfl) (by k_mem) (by k_extra "!off") hi hk0 hkl ok (by ktr_room) (by ktr_units) s0 s1 o0 o1 hh hx hx1 hxl ?_)
  k_whole
  intro D zb pb tb tb' i9 bt9 sd9 v1 v2 v3 h9 tk9 HB ok9 F9 N9
  (try k_sweep)
  (try dsimp only)
  k_steps
  unfold Stop
  k_dflt (refine' law_try B (by k_asm) X T hd hu ⟨_, by with_unfolding_all exact rfl, rfl⟩ (by k_asm) ?z1 ?z2 g9 HB ck ?z3; (case z1 => exact rfl); (case z2 => exact rfl); (case z3 => exact ret))
end

-- part lt2
section
variable {w : World} {loose : List Str} {mean : ExcName → Option Value} {mg mb : Str → Option Value} {dp un : Nat} {gd : Option (List Code)} {cs : Scope} {a : Addr} {ccd : Value} {outer : List Env} {A₀ : Around} {h₀ : Heap} {L : Addr} {m : Str → Option Value} {s : Shared} {Q : Flow → Shared → Prop} {E : Value → Shared → Prop} {p : Program} {rest : List Stmt}
variable (B : Below A₀ h₀ outer h₀) (F : Fr h₀ L s.heap m) (X : (K w.params).In h₀) (T : Top p loose mean mg mb h₀) (hd : dp + 190 < recursionLimit) (hu : un + 900 < cLine)
include B F X T hd hu
local macro_rules | `(tactic| walk_at "call ref") => `(tactic| ((with_reducible show wpAny _ _ (call (Value.ref 236) _) _ _ _); refine Stop.out ?_))
theorem law_turn2 (hb : LawAt (fun b => forBody (b.drop 11)) w.params rest cs) {n zi y mo d : Int} {x : Str} {tx tz t3 : Tok} {Rl C : Addr} {oc : Obj} {cvs : List Value} {ks : List Int} {c0 c1 : Nat} {i bt sd : Int} {u1 u2 u3 : Tok} {nws : List (Addr × Obj)}
    (N : News h₀ L s.heap ((Rl, W.listOf [.ref C, .int i u1, .int bt u2, .int sd u3].toArray c1) :: nws)) (hC : (C, W.listOf cvs.toArray c0) ∈ nws) (off : ∀ p ∈ nws, p.1 ≠ Rl) (hi : IntsAre cvs ks) (hk0 : ∀ k ∈ ks, 0 ≤ k) (hkl : ks.length ≤ 40) (ok : DrawOk i bt sd)
    (hcl : (L + 1, oc) ∈ nws) (hcd : oc.data = .cell (some (.ref Rl)))
    (m1 : m (Str.ofString "text") = some (.str x tx)) (m2 : m (Str.ofString "zone") = some (.int zi tz)) (m3 : m (Str.ofString "seconds") = some (.int n t3))
    (hw : ∀ c ∈ x.cps.toList, Word c) (hne : x.cps.toList ≠ []) (hl : x.length ≤ 10) (hz : zoneB (u8 x.cps.toList) = some zi) (z0 : -6000 < zi) (z1 : zi < 6000) (n0 : -62035200000 ≤ n) (n1 : n < 253324800000)
    (hc : Civ ((n + 60 * zi) / 86400 + 719162) y mo d) (hn : (n + 60 * zi) / 86400 + 719162 < 3652059)
    (fin : ∀ i' bt' sd' v1 v2 v3 h' tk' m', (∀ x, x ≠ Str.ofString "clock" → x ≠ Str.ofString "moment" → m' x = m x) → DrawOk i' bt' sd' → Fr h₀ L h' m' → News h₀ L h' ((Rl, W.listOf [.ref C, .int i' v1, .int bt' v2, .int sd' v3].toArray c1) :: nws) → Q .next { s with heap := h', toks := tk' }) :
    wpAny (model PW w) (lawA dp un gd cs L a ccd outer) (execs rest (lawEnv cs L a ccd)) Q E s := by
  have hbc := hb.lit (by with_unfolding_all exact rfl)
  obtain ⟨rfl, rfl⟩ := hbc
  dsimp only [List.drop, forBody]
  have ck := ck_of hc hn
  obtain ⟨q1, q2, q3, q4, q5, q6, q7, q8, q9, q10, q11, q12⟩ := ck
  have c66 := (monthLen_in y mo).2
  have nz0 : -63000000000 ≤ n + 60 * zi := by omega
  have nz1 : n + 60 * zi < 260000000000 := by omega
  have hc2 : Civ ((n + zi * 60) / 86400 + 719162) y mo d := by rw [Int.mul_comm zi 60]; exact hc
  have hI : dnum y mo d * 86400 + ((n + 60 * zi).fmod 86400).fdiv 3600 * 3600 + ((((n + 60 * zi).fmod 86400).fdiv 60).fmod 60 - zi) * 60 + ((n + 60 * zi).fmod 86400).fmod 60 = n := by
    have e := hc.eq
    rw [dnum_eq hc.m0 hc.m1, fm _ (by decide), fd _ (by decide), fd _ (by decide), fm _ (by decide), fm _ (by decide)]
    clear hc2 hc hz hw hne fin
    generalize dby y + dbm y mo + d - 1 = q at e ⊢
    omega
  clear hb
  k_steps
  unfold Stop
  refine strs_item (xs := gapsW) (by k_asm) (by k_asm) (by k_is) (by repeat constructor) (by assumption) (by show _ < (6 : Int); assumption) (by decide) ?_
  intro tg1
  have gw1 := gapW g1 g2
  generalize gapsW.getD d9.toNat Str.empty = lead at *
  have gl1 := gw1.len
  have ck9 := ck_of hc hn
  have hh := head_facts g9 ck9
  k_steps
  unfold Stop
  refine strs_item (xs := gapsW) (by k_asm) (by k_asm) (by k_is) (by repeat constructor) (by assumption) (by show _ < (6 : Int); assumption) (by decide) ?_
  intro tg2
  have gw2 := gapW g1 g2
  generalize gapsW.getD d9.toNat Str.empty = trail at *
  have gl2 := gw2.len
  have hoc : ∀ c ∈ (z9 ++ lead ++ x ++ trail).cps.toList, c < 256 := by
    intro c hc
    simp only [Str.cps_append, Array.toList_append, List.mem_append] at hc
    rcases hc with ((hc | hc) | hc) | hc
    · exact hh.1 c hc
    · exact gw1.small c hc
    · exact (hw c hc).lt
    · exact gw2.small c hc
  have hol : (z9 ++ lead ++ x ++ trail).length < 10000 := by simp only [Str.length_append]; omega
  k_steps
  unfold Stop
  have hbt : b9.toList = u8 (z9.cps.toList ++ (lead.cps.toList ++ (x.cps.toList ++ trail.cps.toList))) := by
    rw [e1]
    simp only [Str.cps_append, Array.toList_append, List.append_assoc]
    rfl
  k_dflt (refine read_ok_c (by k_asm) (by k_asm) (by k_asm) (by k_asm) (by k_asm) (by exact rfl) (by ktr_room) (by ktr_units) g9 hbt gw1 gw2 ⟨hw, hne⟩ (by rw [len_list]; exact hl) hz ck9.y0 ck9.y1 ck9.m0 ck9.m1 ck9.d0 ck9.d1 ck9.h0 ck9.h1 ck9.i0 ck9.i1 ck9.s0 ck9.s1 ?_)
  k_whole
  intro o9 dd9 k1 v1 k2 v2 k3 v3 k4 v4 k5 v5 k6 v6 k7 v7 h9 tk9 F9 N9
  (try k_sweep)
  (try dsimp only)
  k_steps
  · exact absurd hI (by assumption)
  unfold Stop
  k_dflt (refine moment_of_c (by k_asm) (by k_asm) (by k_asm) (by k_asm) (by k_asm) (by exact rfl) (by ktr_room) (by ktr_units) n0 n1 z0 z1 hc2 ?_)
  k_whole
  intro o8 dd8 ho8 mi8 se8 k1 v1 k2 v2 k3 v3 k4 v4 k5 v5 k6 v6 k7 v7 h9 tk9 i1 i2 i3 F9 N9 l8 l9 l10
  obtain rfl : ho8 = ((n + 60 * zi).fmod 86400).fdiv 3600 := by rw [i1, Int.mul_comm zi 60, fm _ (by decide), fd _ (by decide)]
  obtain rfl : mi8 = (((n + 60 * zi).fmod 86400).fdiv 60).fmod 60 := by rw [i2, Int.mul_comm zi 60, fm _ (by decide), fd _ (by decide), fm _ (by decide)]
  obtain rfl : se8 = ((n + 60 * zi).fmod 86400).fmod 60 := by rw [i3, Int.mul_comm zi 60, fm _ (by decide), fm _ (by decide)]; clear i1 i2 i3 hI q7 q8 q9 q10 q11 q12 hc hc2 fin; omega
  clear i1 i2 i3
  (try k_lt l9); (try k_lt l10)
  (try k_sweep)
  (try dsimp only)
  k_steps
  k_dflt (refine' fin _ _ _ _ _ _ _ _ _ ?k ?o ?f ?n; (case f => k_asm); (case n => k_extra "!nw"); (case o => assumption); (case k => exact fun x h1 h2 => (if_neg h2).trans (if_neg h1)))
end

-- part lt1
section
variable {w : World} {loose : List Str} {mean : ExcName → Option Value} {mg mb : Str → Option Value} {dp un : Nat} {gd : Option (List Code)} {cs : Scope} {a : Addr} {ccd : Value} {outer : List Env} {A₀ : Around} {h₀ : Heap} {L : Addr} {m : Str → Option Value} {s : Shared} {Q : Flow → Shared → Prop} {E : Value → Shared → Prop} {p : Program} {rest : List Stmt}
variable (B : Below A₀ h₀ outer h₀) (F : Fr h₀ L s.heap m) (X : (K w.params).In h₀) (T : Top p loose mean mg mb h₀) (hd : dp + 190 < recursionLimit) (hu : un + 900 < cLine)
include B F X T hd hu
theorem law_turn1 (hb : LawAt (fun b => forBody (b.drop 8)) w.params rest cs) {x cw cb : Str} {tx tc1 tc2 : Tok} {Rl C Ch : Addr} {oc : Obj} {cvs chs : List Value} {ks : List Int} {c0 c1 kc : Nat} {i bt sd : Int} {u1 u2 u3 : Tok} {nws : List (Addr × Obj)}
    (N : News h₀ L s.heap ((Rl, W.listOf [.ref C, .int i u1, .int bt u2, .int sd u3].toArray c1) :: nws)) (hC : (C, W.listOf cvs.toArray c0) ∈ nws) (off : ∀ p ∈ nws, p.1 ≠ Rl) (hi : IntsAre cvs ks) (hk0 : ∀ k ∈ ks, 0 ≤ k) (hkl : ks.length ≤ 40) (ok : DrawOk i bt sd)
    (hcl : (L + 1, oc) ∈ nws) (hcd : oc.data = .cell (some (.ref Rl))) (hch : (Ch, W.listOf chs.toArray kc) ∈ nws) (hch1 : chs[1]? = some (.str cb tc2)) (hchl : chs.length ≤ 10)
    (m1 : m (Str.ofString "word") = some (.str x tx)) (m2 : m (Str.ofString "chosen") = some (.ref Ch)) (hx : LowW x)
    (fin : ∀ i' bt' sd' v1 v2 v3 h' tk' m', (∀ x, x ≠ Str.ofString "cased" → m' x = m x) → DrawOk i' bt' sd' → Fr h₀ L h' m' → News h₀ L h' ((Rl, W.listOf [.ref C, .int i' v1, .int bt' v2, .int sd' v3].toArray c1) :: nws) → ∀ f, f = .next ∨ f = .cont → Q f { s with heap := h', toks := tk' }) :
    wpAny (model PW w) (lawA dp un gd cs L a ccd outer) (execs rest (lawEnv cs L a ccd)) Q E s := by
  have hbc := hb.lit (by with_unfolding_all exact rfl)
  obtain ⟨rfl, rfl⟩ := hbc
  dsimp only [List.drop, forBody]
  obtain ⟨hx0, hx1, hx2⟩ := hx
  clear hb
  refine fold_A ?_
  intro env₆ A₆
  have hS263 : StopM 263 := .mk
  k_steps
  all_goals (try unfold Stop)
  have zl := len_list z9
  have hL : ∀ c ∈ z9.cps.toList, Letter c := g3
  have hz0 : z9.cps.toList ≠ [] := by intro e; rw [e, List.length_nil] at zl; omega
  have nz := named_letters hL hz0
  rw [g1] at nz
  have nz1 : ∀ c ∈ z9.cps.toList, c < 1114112 := fun c hc => by have := hL c hc; unfold Letter at this; omega
  have nz2 : z9.cps.size < 10000 := by show z9.length < 10000; omega
  have nz3 := zone_letters hL hz0
  have nz4 : zoneB (z9.cps.toList.map (·.toUInt8)) = some (hoursOf x * 60) := by have := zoneB_letters hL hz0; rwa [tx_self, g1] at this
  have nz5 : ∀ c ∈ z9.cps.toList.map (·.toUInt8), isAtom c = true := words_atom fun c hc => .inl (hL c hc)
  have nz6 : ∀ c ∈ z9.cps.toList, c < 256 := fun c hc => by have := hL c hc; unfold Letter at this; omega
  have nz7 : z9.length ≤ 10 := by omega
  have nz8 : x.length < 10000 := by omega
  clear zl
  have hS1 : StopM 7 := .mk
  k_steps
  all_goals (try unfold Stop)
  · exact absurd rfl (by assumption)
  · refine fin _ _ _ _ _ _ _ _ _ ?_ (by assumption) (by k_asm) (by k_asm) _ ?_
    · exact fun x hx => if_neg hx
    · exact .inl rfl
  k_dflt (refine' my_item ?k1 ?k2 ?k3 ?k4 ?_ ?k6; (case k1 => exact News.isList (by k_asm) (by k_mem)); (case k2 => decide); (case k3 => decide); (case k4 => exact hch1); (case k6 => with_unfolding_all rfl))
  k_steps
  · refine fin _ _ _ _ _ _ _ _ _ ?_ (by assumption) (by k_asm) (by k_asm) _ ?_
    · exact fun x hx => if_neg hx
    · exact .inl rfl
  · refine fin _ _ _ _ _ _ _ _ _ ?_ g4 (by k_asm) (by k_asm) _ ?_
    · exact fun x hx => if_neg hx
    · exact .inl rfl
end

-- part lz2
/-- a zone of the law: its text and its minutes -/
structure ZoneOk (x : Str) (zi : Int) : Prop where
  word : ∀ c ∈ x.cps.toList, Word c
  ne : x.cps.toList ≠ []
  len : x.length ≤ 10
  zone : zoneB (u8 x.cps.toList) = some zi
  lo : -6000 < zi
  hi : zi < 6000
/-- the law's list of zones, in the ledger -/
def ZonesAre (nws : List (Addr × Obj)) (zs : List Value) : Prop := ∀ v ∈ zs, ∃ x tx zi tz zr, v = .ref zr ∧ (zr, ({ cls := .type "tuple", data := .seq #[.str x tx, .int zi tz] } : Obj)) ∈ nws ∧ ZoneOk x zi
section
variable {w : World} {loose : List Str} {mean : ExcName → Option Value} {mg mb : Str → Option Value} {dp un : Nat} {gd : Option (List Code)} {cs : Scope} {a : Addr} {ccd : Value} {outer : List Env} {A₀ : Around} {h₀ : Heap} {L : Addr} {m : Str → Option Value} {s : Shared} {Q : Flow → Shared → Prop} {E : Value → Shared → Prop} {p : Program} {rest : List Stmt}
variable (B : Below A₀ h₀ outer h₀) (F : Fr h₀ L s.heap m) (X : (K w.params).In h₀) (T : Top p loose mean mg mb h₀) (hd : dp + 190 < recursionLimit) (hu : un + 900 < cLine)
include B F X T hd hu
local macro_rules | `(tactic| walk_at "pyIter ref") => `(tactic| (refine Stop.out ?_))
local macro_rules | `(tactic| walk_at "execs cons") => `(tactic| (refine Stop.out ?_))
theorem law_for2 (hb : LawAt (List.drop 11) w.params rest cs) (hE : PassesOwn (model PW w) (lawA dp un gd cs L a ccd outer) (lawEnv cs L a ccd) E) {sp ot n : Int} {x0 : Str} {t1 t2 t3 tx0 tz0 : Tok} {z0i : Int} {Rl C Z z0 : Addr} {oc : Obj} {cvs zs : List Value} {ks : List Int} {c0 c1 kz : Nat} {i bt sd : Int} {u1 u2 u3 : Tok} {nws : List (Addr × Obj)}
    (N : News h₀ L s.heap ((Rl, W.listOf [.ref C, .int i u1, .int bt u2, .int sd u3].toArray c1) :: nws)) (hC : (C, W.listOf cvs.toArray c0) ∈ nws) (off : ∀ p ∈ nws, p.1 ≠ Rl) (hi : IntsAre cvs ks) (hk0 : ∀ k ∈ ks, 0 ≤ k) (hkl : ks.length ≤ 40) (ok : DrawOk i bt sd)
    (hcl : (L + 1, oc) ∈ nws) (hcd : oc.data = .cell (some (.ref Rl))) (hZ : (Z, W.listOf zs.toArray kz) ∈ nws) (hzs : ZonesAre nws zs) (hz0 : zs[0]? = some (.ref z0)) (hzl : zs.length ≤ 10) (htz : (z0, ({ cls := .type "tuple", data := .seq #[.str x0 tx0, .int z0i tz0] } : Obj)) ∈ nws)
    (m1 : m (Str.ofString "spoil") = some (.int sp t1)) (m2 : m (Str.ofString "other") = some (.int ot t2)) (m3 : m (Str.ofString "seconds") = some (.int n t3)) (m4 : m (Str.ofString "zones") = some (.ref Z))
    (s0 : 0 ≤ sp) (s1 : sp < 7) (o0 : 0 ≤ ot) (o1 : ot < 40) (hx : x0.length ≤ 3) (hx1 : 1 ≤ x0.length) (hxl : ∀ c ∈ x0.cps.toList, Letter c) (n0 : -62035200000 ≤ n) (n1 : n < 253324800000)
    (ret : ∀ h' tk' m', Fr h₀ L h' m' → Q (.ret (.bool true)) { s with heap := h', toks := tk' }) :
    wpAny (model PW w) (lawA dp un gd cs L a ccd outer) (execs rest (lawEnv cs L a ccd)) Q E s := by
  have hbc := hb.lit (by with_unfolding_all exact rfl)
  obtain ⟨rfl, rfl⟩ := hbc
  dsimp only [List.drop]
  clear hb
  refine fold_A ?_
  intro env₆ A₆
  refine wpAny_execs_cons ?_
  (try dsimp only)
  refine For_turns F ?_ (hE := hE)
  k_steps
  unfold Stop
  refine loopL (its := zs.toArray) (k := kz) (fun _ m₁ nx => (∀ x, x ≠ Str.ofString "text" → x ≠ Str.ofString "zone" → x ≠ Str.ofString "clock" → x ≠ Str.ofString "moment" → m₁ x = m x) ∧ ∃ i bt sd u1 u2 u3, DrawOk i bt sd ∧ nx = (Rl, W.listOf [.ref C, .int i u1, .int bt u2, .int sd u3].toArray c1) :: nws) rfl F N ?hJl ⟨fun _ _ _ _ _ => rfl, _, _, _, _, _, _, ok, rfl⟩ ?turn ?done
  case hJl =>
    rintro j m₁ nx ⟨-, i, bt, sd, u1, u2, u3, -, rfl⟩
    exact List.mem_cons_of_mem _ hZ
  case turn =>
    rintro j v m₁ nx I oI h tk hj hv ⟨hm, i, bt, sd, u1, u2, u3, ok', rfl⟩ hoI F₁ N₁
    obtain ⟨x, tx, zi, tz, zr, rfl, hzr, zo⟩ := hzs v (List.mem_of_getElem? (by simpa using hv))
    clear F N
    k_steps
    unfold Stop
    have hRI : Rl ≠ I := hoI _ (.head _)
    have hoI2 : ∀ o', ∀ p ∈ (Rl, o') :: nws, p.1 ≠ I := fun o' p hp => by
      rcases List.mem_cons.mp hp with rfl | hp
      · exact hRI
      · exact hoI p (.tail _ hp)
    have hzlo := zo.lo
    have hzhi := zo.hi
    obtain ⟨y, mo, d, hc⟩ := civ_ex (D := (n + 60 * zi) / 86400 + 719162) (by omega) (by omega)
    k_dflt (refine' law_turn2 B (by k_asm) X T hd hu ⟨_, by with_unfolding_all exact rfl, rfl⟩ (News.sw1 (by k_asm)) (List.mem_cons_of_mem _ hC) ?of hi hk0 hkl ok' (List.mem_cons_of_mem _ hcl) hcd ?z1 ?z2 ?z3 zo.word zo.ne zo.len zo.zone hzlo hzhi n0 n1 hc (by omega) ?fin; (case z1 => exact rfl); (case z2 => exact rfl); (case z3 => exact (hm _ (by decide) (by decide) (by decide) (by decide)).trans m3); (case of => exact off_cons (Ne.symm hRI) off))
    intro i' bt' sd' v1 v2 v3 h' tk' m' hm' ok'' F'' N''
    exact TPost.intro F'' (News.sw1 N'') (hoI2 _) ⟨fun x a1 a2 a3 a4 => ((hm' x a3 a4).trans ((if_neg a2).trans (if_neg a1))).trans (hm x a1 a2 a3 a4), _, _, _, _, _, _, ok'', rfl⟩
  case done =>
    rintro m₁ nx h tk ⟨hm, i, bt, sd, u1, u2, u3, ok', rfl⟩ F₁ N₁
    (try dsimp only)
    obtain ⟨y, mo, d, hc⟩ := civ_ex (D := n / 86400 + 719162) (by omega) (by omega)
    refine law_bent B F₁ X T hd hu ⟨_, by with_unfolding_all exact rfl, rfl⟩ N₁ hC off hi hk0 hkl ok' hcl hcd hZ hz0 hzl htz ((hm _ (by decide) (by decide) (by decide) (by decide)).trans m1) ((hm _ (by decide) (by decide) (by decide) (by decide)).trans m2) ((hm _ (by decide) (by decide) (by decide) (by decide)).trans m3) ((hm _ (by decide) (by decide) (by decide) (by decide)).trans m4) s0 s1 o0 o1 hx hx1 hxl (by omega) (by omega) hc (by omega) ?_
    intro h' tk' m' F'
    exact ret h' tk' m' F'
end

-- part lz1
section
open PyProof.Rows.LCg
variable {prog : Program} {w : World} {A : Around} {s : Shared} {h₀ : Heap} {L : Addr} {m : Str → Option Value} {env : Env} {news nws : List (Addr × Obj)} {elt : Expr} {x : Str} {scope : Scope} {cl : List (Str × Addr)} {S : List (Addr × Obj) → Prop} {P : Nat → Value → Prop} {Fin : List Value → List (Addr × Obj) → Prop} {Rl C : Addr} {c1 : Nat}
abbrev reelO (C : Addr) (c1 : Nat) (i bt sd : Int) (u1 u2 u3 : Tok) : Obj := W.listOf [.ref C, .int i u1, .int bt u2, .int sd u3].toArray c1
/-- the state of turns that draw -/
inductive DY (C : Addr) (c1 : Nat) (Rl : Addr) (nws : List (Addr × Obj)) (Y : List (Addr × Obj) → Prop) : List (Addr × Obj) → Prop
  | mk {i bt sd : Int} {u1 u2 u3 : Tok} {nx : List (Addr × Obj)} (ok : DrawOk i bt sd) (sub : ∀ p ∈ nws, p ∈ nx) (off : ∀ p ∈ nx, p.1 ≠ Rl) (y : Y nx) : DY C c1 Rl nws Y ((Rl, reelO C c1 i bt sd u1 u2 u3) :: nx)
/-- turns that draw; what they make may stay in the ledger -/
theorem rest_D {n : Nat} {i₀ b₀ s₀ : Int} {u₁ u₂ u₃ : Tok} (Y : Nat → List Value → List (Addr × Obj) → Prop) (ok : DrawOk i₀ b₀ s₀) (off : ∀ p ∈ nws, p.1 ≠ Rl) (h0 : Y 0 [] nws)
    (turn : ∀ k ys nx i bt sd u1 u2 u3 v I oI C' oC D m₂ h tk (E' : Value → Shared → Prop), k < n → P k v → Y k ys nx → DrawOk i bt sd → (∀ p ∈ nws, p ∈ nx) → (∀ p ∈ nx, p.1 ≠ Rl) → NsObj oC m₂ → m₂ x = some v → Fr h₀ L h m → News h₀ L h ((I, oI) :: (C', oC) :: (D, lst ys) :: (Rl, reelO C c1 i bt sd u1 u2 u3) :: nx) → Off3 I C' D ((Rl, reelO C c1 i bt sd u1 u2 u3) :: nx) → ((@Ne Nat I C') ∧ (@Ne Nat I D) ∧ (@Ne Nat C' D)) →
      wpAny (model prog w) A (eval elt (compEnvC scope cl C' env)) (CompEnd h₀ L m { s with heap := h, toks := tk } I oI C' oC D (lst ys) S (fun y nw' => DY C c1 Rl nx (Y (k + 1) (ys ++ [y])) nw')) E' { s with heap := h, toks := tk })
    (fin : ∀ ys i bt sd u1 u2 u3 nx, DrawOk i bt sd → (∀ p ∈ nws, p ∈ nx) → (∀ p ∈ nx, p.1 ≠ Rl) → Y n ys nx → Fin ys ((Rl, reelO C c1 i bt sd u1 u2 u3) :: nx)) :
    CompRest prog w A h₀ L m env elt x scope cl s S P Fin n 0 [] ((Rl, reelO C c1 i₀ b₀ s₀ u₁ u₂ u₃) :: nws) := by
  refine rest_J (fun k ys nw => DY C c1 Rl nws (Y k ys) nw) (.mk ok (fun _ h => h) off h0) (fun k ys nw v I oI C' oC D m₂ h tk E' hk hv q => ?_) (fun ys nw q => ?_)
  · cases q with
    | mk ok sub off y =>
      exact fun hC hx F N off3 ne => wpAny_mono (turn k ys _ _ _ _ _ _ _ v I oI C' oC D m₂ h tk E' hk hv y ok sub off hC hx F N off3 ne) (fun y s₂ hq => endMono hq fun nw' q => q.casesOn fun ok' sub' offR y' => .mk ok' (fun p hp => sub' p (sub p hp)) offR y') fun _ _ e => e
  · cases q with
    | mk ok sub off y => exact fin ys _ _ _ _ _ _ _ ok sub off y
end
section
variable {prog : Program} {w : World} {A : Around} {E : Value → Shared → Prop} {s : Shared} {h₀ : Heap} {L : Addr} {m : Str → Option Value} {news : List (Addr × Obj)}
theorem add_K {l b : Addr} {vs ws : List Value} {Q : Value → Shared → Prop} (F : Fr h₀ L s.heap m) (N : News h₀ L s.heap news) (hl : s.heap.IsList l vs.toArray) (hb : s.heap.IsList b ws.toArray) (hsz : vs.length + ws.length ≤ 1000)
    (h : ∀ D h', Fr h₀ L h' m → News h₀ L h' ((D, W.listOf (vs ++ ws).toArray 0) :: news) → AllLt D news → Q (.ref D) { s with heap := h' }) :
    wpAny (model prog w) A (binaryOp .Add (.ref l) (.ref b)) Q E s :=
  add_lists F N hl hb (fun h' F' N' => h _ h' F' N' (allLt_of fun p hp => Heap.lt_size (N p hp).1)) (by rw [sizeLine_eq]; omega)
end
/-- the zones made so far -/
def ZY (k : Nat) (ys : List Value) (nx : List (Addr × Obj)) : Prop :=
  ys.length = k ∧ ZonesAre nx ys ∧ ∀ v, ys[0]? = some v → ∃ x tx zi tz zr, v = .ref zr ∧ (zr, ({ cls := .type "tuple", data := .seq #[.str x tx, .int zi tz] } : Obj)) ∈ nx ∧ (∀ c ∈ x.cps.toList, Letter c) ∧ x.length ≤ 3 ∧ 1 ≤ x.length
theorem ZonesAre.mono {nx nx' : List (Addr × Obj)} {zs : List Value} (h : ZonesAre nx zs) (sub : ∀ p ∈ nx, p ∈ nx') : ZonesAre nx' zs := fun v hv => by
  obtain ⟨x, tx, zi, tz, zr, e, hm, hz⟩ := h v hv
  exact ⟨x, tx, zi, tz, zr, e, sub _ hm, hz⟩
theorem ZonesAre.snoc {nx : List (Addr × Obj)} {zs : List Value} {x : Str} {zi : Int} {tx tz : Tok} {zr : Addr} (h : ZonesAre nx zs) (hm : (zr, ({ cls := .type "tuple", data := .seq #[.str x tx, .int zi tz] } : Obj)) ∈ nx) (hz : ZoneOk x zi) : ZonesAre nx (zs ++ [.ref zr]) := fun v hv => by
  rcases List.mem_append.mp hv with hv | hv
  · exact h v hv
  · exact ⟨x, tx, zi, tz, zr, List.mem_singleton.mp hv, hm, hz⟩
theorem zone_cased {x z : Str} (hx : LowW x) (g1 : lowerT z = x) (g2 : z.length = x.length) (g3 : ∀ c ∈ z.cps.toList, Letter c) : ZoneOk z (hoursOf x * 60) := by
  have zl := len_list z
  have h1 := hx.2.1
  have h2 := hx.2.2
  have hz0 : z.cps.toList ≠ [] := by intro e; rw [e, List.length_nil] at zl; omega
  have hh := hours_in x
  refine ⟨fun c hc => .inl (g3 c hc), hz0, by omega, ?_, by omega, by omega⟩
  have := zoneB_letters g3 hz0
  rwa [tx_self, g1] at this
theorem ZY.snoc {k : Nat} {ys : List Value} {nx : List (Addr × Obj)} {x z : Str} {tx tz : Tok} {zr : Addr} (h : ZY k ys nx) (hx : LowW x) (h3 : k = 0 → x.length ≤ 3) (g1 : lowerT z = x) (g2 : z.length = x.length) (g3 : ∀ c ∈ z.cps.toList, Letter c) :
    ZY (k + 1) (ys ++ [.ref zr]) ((zr, { cls := .type "tuple", data := .seq #[.str z tx, .int (hoursOf x * 60) tz] }) :: nx) := by
  obtain ⟨h1, h2, hf⟩ := h
  refine ⟨by rw [List.length_append, h1]; rfl, (h2.mono fun p hp => .tail _ hp).snoc (.head _) (zone_cased hx g1 g2 g3), fun v hv => ?_⟩
  cases ys with
  | nil =>
    refine ⟨z, tx, _, tz, zr, (Option.some.inj hv).symm, .head _, g3, ?_, ?_⟩
    · rw [g2]; exact h3 h1.symm
    · rw [g2]; exact hx.2.1
  | cons y ys =>
    obtain ⟨x, tx, zi, tz, zr, e, hm, r⟩ := hf v hv
    exact ⟨x, tx, zi, tz, zr, e, .tail _ hm, r⟩
theorem News.z5 {h₀ h : Heap} {L : Addr} {t r a b c : Addr × Obj} {nx : List (Addr × Obj)} (N : News h₀ L h (t :: r :: a :: b :: c :: nx)) : News h₀ L h (a :: b :: c :: r :: t :: nx) := fun q hq => N q (by simp only [List.mem_cons] at hq ⊢; rcases hq with h | h | h | h | h | h <;> simp [h])
section
variable {w : World} {loose : List Str} {mean : ExcName → Option Value} {mg mb : Str → Option Value} {dp un : Nat} {gd : Option (List Code)} {cs : Scope} {a : Addr} {ccd : Value} {outer : List Env} {A₀ : Around} {h₀ : Heap} {L : Addr} {m : Str → Option Value} {s : Shared} {Q : Flow → Shared → Prop} {E : Value → Shared → Prop} {p : Program} {rest : List Stmt}
variable (B : Below A₀ h₀ outer h₀) (F : Fr h₀ L s.heap m) (X : (K w.params).In h₀) (T : Top p loose mean mg mb h₀) (hd : dp + 190 < recursionLimit) (hu : un + 900 < cLine)
include B F X T hd hu
local macro_rules | `(tactic| walk_at "execs cons") => `(tactic| (k_here; (with_reducible show wpAny _ _ (execs (Stmt.For _ _ _ _ _ :: _) _) _ _ _); refine Stop.out ?_))
theorem law_zones (hb : LawAt (List.drop 10) w.params rest cs) (hE : PassesOwn (model PW w) (lawA dp un gd cs L a ccd outer) (lawEnv cs L a ccd) E) {sp ot n zf : Int} {cw cb fg : Str} {t1 t2 t3 t4 t5 tc1 tc2 : Tok} {Rl C Ch Wd : Addr} {oc : Obj} {cvs ws : List Value} {xs : List Str} {ks : List Int} {c0 c1 kc : Nat} {i bt sd : Int} {u1 u2 u3 : Tok} {nws : List (Addr × Obj)}
    (N : News h₀ L s.heap ((Rl, reelO C c1 i bt sd u1 u2 u3) :: nws)) (hC : (C, W.listOf cvs.toArray c0) ∈ nws) (off : ∀ p ∈ nws, p.1 ≠ Rl) (hi : IntsAre cvs ks) (hk0 : ∀ k ∈ ks, 0 ≤ k) (hkl : ks.length ≤ 40) (ok : DrawOk i bt sd)
    (hcl : (L + 1, oc) ∈ nws) (hcd : oc.data = .cell (some (.ref Rl))) (hch : (Ch, W.listOf [.str cw tc1, .str cb tc2].toArray kc) ∈ nws) (hW : (Wd, W.listOf ws.toArray ws.length) ∈ nws) (hws : StrsAre ws xs) (hxs : ∀ x ∈ xs, LowW x) (hx3 : xs.length = 3)
    (hcw : LowW cw) (hcw3 : cw.length ≤ 3) (hcb : LowW cb) (hfg : ZoneOk fg zf)
    (m1 : m (Str.ofString "spoil") = some (.int sp t1)) (m2 : m (Str.ofString "other") = some (.int ot t2)) (m3 : m (Str.ofString "seconds") = some (.int n t3)) (m4 : m (Str.ofString "chosen") = some (.ref Ch)) (m5 : m (Str.ofString "words") = some (.ref Wd)) (m6 : m (Str.ofString "figures") = some (.str fg t4)) (m7 : m (Str.ofString "minutes") = some (.int zf t5))
    (s0 : 0 ≤ sp) (s1 : sp < 7) (o0 : 0 ≤ ot) (o1 : ot < 40) (n0 : -62035200000 ≤ n) (n1 : n < 253324800000)
    (ret : ∀ h' tk' m', Fr h₀ L h' m' → Q (.ret (.bool true)) { s with heap := h', toks := tk' }) :
    wpAny (model PW w) (lawA dp un gd cs L a ccd outer) (execs rest (lawEnv cs L a ccd)) Q E s := by
  have hbc := hb.lit (by with_unfolding_all exact rfl)
  obtain ⟨rfl, rfl⟩ := hbc
  dsimp only [List.drop]
  clear hb
  refine fold_A ?_
  intro env₆ A₆
  obtain ⟨x1, x2, x3, rfl⟩ : ∃ x1 x2 x3, xs = [x1, x2, x3] := by
    rcases xs with _ | ⟨x1, _ | ⟨x2, _ | ⟨x3, _ | ⟨x4, r⟩⟩⟩⟩ <;> simp at hx3
    exact ⟨_, _, _, rfl⟩
  obtain ⟨tw1, r1, rfl, hws⟩ : ∃ t r, ws = .str x1 t :: r ∧ StrsAre r [x2, x3] := by cases hws; exact ⟨_, _, rfl, by assumption⟩
  have hr1 := hws.length
  k_steps
  rename_i D0 hA lA D1 hB FZ NZ lB
  have hD1 : D1 ≠ Rl := Nat.ne_of_gt lB.2.1
  have hD0 : D0 ≠ Rl := Nat.ne_of_gt lA.1
  refine CW.led (its := #[.str cw tc1, .str cb tc2, .str x1 tw1]) (k := 0) rfl FZ (News.sw2 NZ) (.tail _ (.head _)) (by rw [sizeLine_eq]; show 3 ≤ _; decide) ?_
  intro g
  refine rest_D ZY ok (off_cons hD1 (off_cons hD0 off)) ⟨rfl, (fun _ h => nomatch h), fun v h => nomatch h⟩ ?_ ?_
  · rintro k ys nx i bt sd v1 v2 v3 v I oI C' oC D m₂ h tk E' hk hv hY ok' sub offx hC' hx F' N' off3 ne
    have hsz : LCg.SrcAt h₀ D1 #[.str cw tc1, .str cb tc2, .str x1 tw1] nx := .inr ⟨_, sub _ (.head _), rfl, _, rfl⟩
    obtain ⟨x, t, rfl, hlx, hx3⟩ : ∃ x t, v = .str x t ∧ LowW x ∧ (k = 0 → x.length ≤ 3) := by
      match k, hk, hv with
      | 0, _, hv => exact ⟨_, _, (Option.some.inj hv).symm, hcw, fun _ => hcw3⟩
      | 1, _, hv => exact ⟨_, _, (Option.some.inj hv).symm, hcb, fun h => nomatch h⟩
      | 2, _, hv => exact ⟨_, _, (Option.some.inj hv).symm, hxs _ (.head _), fun h => nomatch h⟩
    obtain ⟨hx0, hx1, hx2⟩ := hlx
    have hIR : I ≠ Rl := Ne.symm off3.1.1
    have hCR : C' ≠ Rl := Ne.symm off3.1.2.1
    have hDR : D ≠ Rl := Ne.symm off3.1.2.2
    have hC2 := sub _ (List.mem_cons_of_mem _ (List.mem_cons_of_mem _ hC))
    have hcl2 := sub _ (List.mem_cons_of_mem _ (List.mem_cons_of_mem _ hcl))
    have nz8 : x.length < 10000 := by omega
    clear FZ NZ
    k_steps
    rename_i Dt hq FQ NQ lQ
    refine LCg.CompEnd.intro FQ (News.z5 NQ) _ (fun p hp => hp) ⟨off3.1, ⟨Nat.ne_of_gt lQ.2.1, Nat.ne_of_gt lQ.2.2.1, Nat.ne_of_gt lQ.2.2.2.1⟩, off3.2⟩ (.inr ⟨_, .tail _ (.tail _ (sub _ (.head _))), rfl, _, rfl⟩) (.mk g4 (fun p hp => .tail _ hp) (off_cons (Nat.ne_of_gt lQ.1) offx) ?_)
    exact hY.snoc ⟨hx0, hx1, hx2⟩ hx3 g1 g2 g3
  intro ys i bt sd v1 v2 v3 nx ok' sub offx hY
  have hS3 : StopM 3 := .mk
  k_steps
  all_goals (try unfold Stop)
  refine add_K (vs := ys) (ws := [.ref _]) (by k_asm) (by k_asm) (News.isList (by k_asm) (.tail _ (.tail _ (.head _)))) (News.isList (by k_asm) (.head _)) (by rw [hY.1]; show 4 ≤ _; decide) ?_
  intro D5 h5 F5 N5 l5
  (try k_sweep)
  k_steps
  unfold Stop
  rename_i D3 hA tA l0 Dt hB l1 Dl hC5 l2
  have sub2 : ∀ p ∈ nws, p ∈ nx := fun p hp => sub p (.tail _ (.tail _ hp))
  have hyl : ys.length = 3 := hY.1
  obtain ⟨v0, hv0⟩ : ∃ v, ys[0]? = some v := ⟨ys[0], List.getElem?_eq_getElem (by omega)⟩
  obtain ⟨x0, tx0, zi0, tz0, zr0, rfl, hzr, hL0, hx3, hx1⟩ := hY.2.2 v0 hv0
  have hzs : ZonesAre ((D5, W.listOf (ys ++ [Value.ref Dt]).toArray 0) :: (Dl, W.listOf [Value.ref Dt].toArray 0) :: (Dt, { cls := .type "tuple", data := .seq #[.str fg t4, .int zf t5] }) :: (D3, LCg.lst ys) :: nx) (ys ++ [Value.ref Dt]) :=
    (hY.2.1.mono fun p hp => .tail _ (.tail _ (.tail _ (.tail _ hp)))).snoc (.tail _ (.tail _ (.head _))) hfg
  have up : ∀ p ∈ nws, p ∈ (D5, W.listOf (ys ++ [Value.ref Dt]).toArray 0) :: (Dl, W.listOf [Value.ref Dt].toArray 0) :: (Dt, ({ cls := .type "tuple", data := .seq #[.str fg t4, .int zf t5] } : Obj)) :: (D3, LCg.lst ys) :: nx := fun p hp => .tail _ (.tail _ (.tail _ (.tail _ (sub2 p hp))))
  refine law_for2 B F₈ X T hd hu ⟨_, by with_unfolding_all exact rfl, rfl⟩ hE (News.sw4 N₈) (up _ hC) (off_cons (Nat.ne_of_gt l5.2.2.2.1) (off_cons (Nat.ne_of_gt l2.2.2.1) (off_cons (Nat.ne_of_gt l1.2.1) (off_cons (Ne.symm l0.1) offx)))) hi hk0 hkl ok' (up _ hcl) hcd (.head _) hzs (by rw [List.getElem?_append_left (by omega)]; exact hv0) (by rw [List.length_append, hyl]; show 4 ≤ 10; decide) (.tail _ (.tail _ (.tail _ (.tail _ hzr)))) ((if_neg (by decide)).trans m1) ((if_neg (by decide)).trans m2) ((if_neg (by decide)).trans m3) (if_pos rfl) s0 s1 o0 o1 hx3 hx1 hL0 n0 n1 ?_
  exact ret
end

-- part lf9
/-- a zone of figures -/
structure FigOk (x : Str) (zi : Int) : Prop where
  codes : ∀ c ∈ x.cps.toList, (48 ≤ c ∧ c ≤ 57) ∨ c = 43 ∨ c = 45
  len : x.length = 5
  zin : zoneIn x.cps.toList = some zi
  named : namedZone x = none
  zone : zoneB (u8 x.cps.toList) = some zi
  lo : -6000 < zi
  hi : zi < 6000
theorem FigOk.ok {x : Str} {zi : Int} (h : FigOk x zi) : ZoneOk x zi := by
  have hl := len_list x
  refine ⟨fun c hc => ?_, ?_, by rw [h.len]; decide, h.zone, h.lo, h.hi⟩
  · rcases h.codes c hc with h | h | h
    · exact .inr (.inl h)
    · exact .inr (.inr (.inl h))
    · exact .inr (.inr (.inr (.inl h)))
  · intro e; rw [e, h.len] at hl; cases hl
section
variable {w : World} {loose : List Str} {mean : ExcName → Option Value} {mg mb : Str → Option Value} {dp un : Nat} {gd : Option (List Code)} {cs : Scope} {a : Addr} {ccd : Value} {outer : List Env} {A₀ : Around} {h₀ : Heap} {L : Addr} {m : Str → Option Value} {s : Shared} {Q : Flow → Shared → Prop} {E : Value → Shared → Prop} {p : Program} {rest : List Stmt}
variable (B : Below A₀ h₀ outer h₀) (F : Fr h₀ L s.heap m) (X : (K w.params).In h₀) (T : Top p loose mean mg mb h₀) (hd : dp + 190 < recursionLimit) (hu : un + 900 < cLine)
include B F X T hd hu
-- walk1 keeps its lines by the count of the macros: another count than in the section ahead
local macro_rules | `(tactic| walk_at "lf9") => `(tactic| skip)
local macro_rules | `(tactic| walk_at "execs cons") => `(tactic| (k_here; (with_reducible show wpAny _ _ (execs (Stmt.Assign _ _ _ :: _) _) _ _ _); refine Stop.out ?_))
theorem law_fig (hb : LawAt (List.drop 9) w.params rest cs) (hE : PassesOwn (model PW w) (lawA dp un gd cs L a ccd outer) (lawEnv cs L a ccd) E) {sp ot n zf : Int} {cw cb fg : Str} {t1 t2 t3 t4 t5 tc1 tc2 : Tok} {Rl C Ch Wd : Addr} {oc : Obj} {cvs ws : List Value} {xs : List Str} {ks : List Int} {c0 c1 kc : Nat} {i bt sd : Int} {u1 u2 u3 : Tok} {nws : List (Addr × Obj)}
    (N : News h₀ L s.heap ((Rl, reelO C c1 i bt sd u1 u2 u3) :: nws)) (hC : (C, W.listOf cvs.toArray c0) ∈ nws) (off : ∀ p ∈ nws, p.1 ≠ Rl) (hi : IntsAre cvs ks) (hk0 : ∀ k ∈ ks, 0 ≤ k) (hkl : ks.length ≤ 40) (ok : DrawOk i bt sd)
    (hcl : (L + 1, oc) ∈ nws) (hcd : oc.data = .cell (some (.ref Rl))) (hch : (Ch, W.listOf [.str cw tc1, .str cb tc2].toArray kc) ∈ nws) (hW : (Wd, W.listOf ws.toArray ws.length) ∈ nws) (hws : StrsAre ws xs) (hxs : ∀ x ∈ xs, LowW x) (hx3 : xs.length = 3)
    (hcw : LowW cw) (hcw3 : cw.length ≤ 3) (hcb : LowW cb) (hfg : FigOk fg zf)
    (m1 : m (Str.ofString "spoil") = some (.int sp t1)) (m2 : m (Str.ofString "other") = some (.int ot t2)) (m3 : m (Str.ofString "seconds") = some (.int n t3)) (m4 : m (Str.ofString "chosen") = some (.ref Ch)) (m5 : m (Str.ofString "words") = some (.ref Wd)) (m6 : m (Str.ofString "figures") = some (.str fg t4)) (m7 : m (Str.ofString "minutes") = some (.int zf t5))
    (s0 : 0 ≤ sp) (s1 : sp < 7) (o0 : 0 ≤ ot) (o1 : ot < 40) (n0 : -62035200000 ≤ n) (n1 : n < 253324800000)
    (ret : ∀ h' tk' m', Fr h₀ L h' m' → Q (.ret (.bool true)) { s with heap := h', toks := tk' }) :
    wpAny (model PW w) (lawA dp un gd cs L a ccd outer) (execs rest (lawEnv cs L a ccd)) Q E s := by
  have hbc := hb.lit (by with_unfolding_all exact rfl)
  obtain ⟨rfl, rfl⟩ := hbc
  dsimp only [List.drop]
  clear hb
  refine fold_A ?_
  intro env₆ A₆
  have zo := hfg.ok
  have f1 : ∀ c ∈ fg.cps.toList, c < 1114112 := fun c hc => by have := hfg.codes c hc; omega
  have f2 : fg.cps.size < 10000 := by show fg.length < 10000; rw [hfg.len]; decide
  have f3 := hfg.named
  have f4 := hfg.zin
  have f5 : fg.length < 10000 := f2
  have f6 : ∀ c ∈ fg.cps.toList.map (·.toUInt8), isAtom c = true := words_atom zo.word
  have f7 : ∀ c ∈ fg.cps.toList, c < 256 := fun c hc => by have := hfg.codes c hc; omega
  have f8 := zo.ne
  have f9 := zo.len
  have f10 : zoneB (fg.cps.toList.map (·.toUInt8)) = some zf := zo.zone
  k_steps
  · exact absurd rfl (by assumption)
  unfold Stop
  exact law_zones B (by k_asm) X T hd hu ⟨_, by with_unfolding_all exact rfl, rfl⟩ hE (by k_asm) hC off hi hk0 hkl g3 hcl hcd hch hW hws hxs hx3 hcw hcw3 hcb zo m1 m2 m3 m4 m5 m6 m7 s0 s1 o0 o1 n0 n1 ret
end

-- part lo1
theorem strs_of {ys : List Value} : ∀ {xs : List Str}, ys.length = xs.length → (∀ (j : Nat) (v : Value), ys[j]? = some v → ∃ y t, xs[j]? = some y ∧ v = Value.str y t) → StrsAre ys xs := by
  induction ys with
  | nil =>
    intro xs h _
    cases xs with
    | nil => exact .nil
    | cons => cases h
  | cons v ys ih =>
    intro xs h k
    cases xs with
    | nil => cases h
    | cons x xs =>
      obtain ⟨y, t, e, rfl⟩   := k 0 v (by simp)
      cases e
      exact .cons _ t (ih (Nat.succ.inj h) fun j v hv => by simpa using k (j + 1) v (by simpa using hv))
section
variable {prog : Program} {w : World} {A : Around} {E : Value → Shared → Prop} {s : Shared} {h₀ : Heap} {L : Addr} {m : Str → Option Value} {news : List (Addr × Obj)}
theorem listS_K {x : Str} {t : Tok} {Q : Value → Shared → Prop} (hh : A.handled = none) (F : Fr h₀ L s.heap m) (N : News h₀ L s.heap news) (hl : x.length ≤ 1000)
    (h : ∀ D ys c h' tk', Fr h₀ L h' m → News h₀ L h' ((D, W.listOf ys.toArray c) :: news) → AllLt D news → StrsAre ys (x.cps.toList.map fun c => (⟨#[c]⟩ : Str)) → Q (.ref D) { s with heap := h', toks := tk' }) :
    wpAny (model prog w) A (call (.type "list") [.str x t]) Q E s := by
  have hx : x.cps.size ≤ 1000 := hl
  refine call_list_str hh x t (fun h' tk' acc' c' hk hD hacc => ?_) (by rw [sizeLine_eq]; omega)
  refine h _ acc'.toList c' h' tk' (F.keeps hk) (by rw [Array.toArray_toList]; exact news_pushed F N hk hD rfl) (allLt_of fun q hq => Heap.lt_size (N q hq).1) (strs_of (by simp [hacc.1]) fun j v hv => ?_)
  obtain ⟨c, u, hc, rfl⟩ := hacc.2 j v (by simpa using hv)
  exact ⟨_, u, by simp [hc], rfl⟩
end
theorem namedL_low : ∀ x ∈ namedL, LowW x := fun x hx => by
  obtain ⟨k, hk, rfl⟩ := List.mem_iff_getElem.mp hx
  have h := namedL_facts k hk
  rw [List.getD_eq_getElem?_getD, List.getElem?_eq_getElem hk] at h
  exact h
theorem letters_low : ∀ x ∈ (Str.ofString "abcdefghijklmnopqrstuvwxyz").cps.toList.map (fun c => (⟨#[c]⟩ : Str)), LowW x := by
  have h : ∀ c ∈ (Str.ofString "abcdefghijklmnopqrstuvwxyz").cps.toList, 97 ≤ c ∧ c ≤ 122 := by decide +kernel
  intro x hx
  obtain ⟨c, hc, rfl⟩ := List.mem_map.mp hx
  exact ⟨fun d hd => by rw [List.mem_singleton.mp hd]; exact h c hc, by show 1 ≤ 1; decide, by show 1 ≤ 6; decide⟩
theorem strs_mem {vs : List Value} {xs : List Str} (h : StrsAre vs xs) (hx : ∀ x ∈ xs, LowW x) : ∀ v ∈ vs, ∃ x t, v = .str x t ∧ LowW x := by
  induction h with
  | nil => exact fun _ h => nomatch h
  | cons y t _ ih =>
    intro v hv
    rcases List.mem_cons.mp hv with rfl | hv
    · exact ⟨y, t, rfl, hx _ (.head _)⟩
    · exact ih (fun x h => hx x (.tail _ h)) v hv
theorem News.dr4 {h₀ h : Heap} {L : Addr} {a b c d r : Addr × Obj} {nx : List (Addr × Obj)} (N : News h₀ L h (a :: b :: c :: d :: r :: nx)) : News h₀ L h (r :: a :: nx) := fun q hq => N q (by simp only [List.mem_cons] at hq ⊢; rcases hq with h | h | h <;> simp [h])
section
variable {w : World} {loose : List Str} {mean : ExcName → Option Value} {mg mb : Str → Option Value} {dp un : Nat} {gd : Option (List Code)} {cs : Scope} {a : Addr} {ccd : Value} {outer : List Env} {A₀ : Around} {h₀ : Heap} {L : Addr} {m : Str → Option Value} {s : Shared} {Q : Flow → Shared → Prop} {E : Value → Shared → Prop} {p : Program} {rest : List Stmt}
variable (B : Below A₀ h₀ outer h₀) (F : Fr h₀ L s.heap m) (X : (K w.params).In h₀) (T : Top p loose mean mg mb h₀) (hd : dp + 190 < recursionLimit) (hu : un + 900 < cLine)
include B F X T hd hu
local macro_rules | `(tactic| walk_at "call type:list") => `(tactic| (refine Stop.out ?_))
local macro_rules | `(tactic| walk_at "pyIter ref") => `(tactic| (refine Stop.out ?_))
local macro_rules | `(tactic| walk_at "execs cons") => `(tactic| (refine Stop.out ?_))
theorem law_for1 (hb : LawAt (List.drop 8) w.params rest cs) (hE : PassesOwn (model PW w) (lawA dp un gd cs L a ccd outer) (lawEnv cs L a ccd) E) {sp ot n zf : Int} {cw cb fg : Str} {t1 t2 t3 t4 t5 tc1 tc2 : Tok} {Rl C Ch Wd : Addr} {oc : Obj} {cvs ws : List Value} {xs : List Str} {ks : List Int} {c0 c1 kc : Nat} {i bt sd : Int} {u1 u2 u3 : Tok} {nws : List (Addr × Obj)}
    (N : News h₀ L s.heap ((Rl, reelO C c1 i bt sd u1 u2 u3) :: nws)) (hC : (C, W.listOf cvs.toArray c0) ∈ nws) (off : ∀ p ∈ nws, p.1 ≠ Rl) (hi : IntsAre cvs ks) (hk0 : ∀ k ∈ ks, 0 ≤ k) (hkl : ks.length ≤ 40) (ok : DrawOk i bt sd)
    (hcl : (L + 1, oc) ∈ nws) (hcd : oc.data = .cell (some (.ref Rl))) (hch : (Ch, W.listOf [.str cw tc1, .str cb tc2].toArray kc) ∈ nws) (hW : (Wd, W.listOf ws.toArray ws.length) ∈ nws) (hws : StrsAre ws xs) (hxs : ∀ x ∈ xs, LowW x) (hx3 : xs.length = 3)
    (hcw : LowW cw) (hcw3 : cw.length ≤ 3) (hcb : LowW cb) (hfg : FigOk fg zf)
    (m1 : m (Str.ofString "spoil") = some (.int sp t1)) (m2 : m (Str.ofString "other") = some (.int ot t2)) (m3 : m (Str.ofString "seconds") = some (.int n t3)) (m4 : m (Str.ofString "chosen") = some (.ref Ch)) (m5 : m (Str.ofString "words") = some (.ref Wd)) (m6 : m (Str.ofString "figures") = some (.str fg t4)) (m7 : m (Str.ofString "minutes") = some (.int zf t5))
    (s0 : 0 ≤ sp) (s1 : sp < 7) (o0 : 0 ≤ ot) (o1 : ot < 40) (n0 : -62035200000 ≤ n) (n1 : n < 253324800000)
    (ret : ∀ h' tk' m', Fr h₀ L h' m' → Q (.ret (.bool true)) { s with heap := h', toks := tk' }) :
    wpAny (model PW w) (lawA dp un gd cs L a ccd outer) (execs rest (lawEnv cs L a ccd)) Q E s := by
  have hbc := hb.lit (by with_unfolding_all exact rfl)
  obtain ⟨rfl, rfl⟩ := hbc
  dsimp only [List.drop]
  clear hb
  refine fold_A ?_
  intro env₆ A₆
  have hwl := hws.length
  refine wpAny_execs_cons ?_
  (try dsimp only)
  refine For_turns F ?_ (hE := hE)
  k_steps
  unfold Stop
  refine list_copyKT (by k_asm) (by k_asm) (tupK (X.keeps (Fr.keep (by k_asm))) (by k_is)) ?_ (by rw [sizeLine_eq]; show 10 ≤ _; decide)
  intro D1 cn1 h1 F1 N1 l1
  replace l1 := allLt_of l1
  (try k_sweep)
  k_steps
  unfold Stop
  refine listS_K rfl (by k_asm) (by k_asm) (by decide) ?_
  intro D2 ys cn2 h2 tk2 F2 N2 l2 hy
  (try k_sweep)
  have hS3 : StopM 3 := .mk
  k_steps
  all_goals (try unfold Stop)
  have hyl : ys.length = 26 := hy.length.trans (by decide)
  have hw3 : ws.length = 3 := hwl.trans hx3
  refine add_K (by k_asm) (by k_asm) (News.isList (by k_asm) (.tail _ (.head _))) (News.isList (by k_asm) (.head _)) (by rw [hyl]; show 36 ≤ _; decide) ?_
  intro D3 h3 F3 N3 l3
  (try k_sweep)
  have hS3 : StopM 3 := .mk
  k_steps
  all_goals (try unfold Stop)
  refine add_K (by k_asm) (by k_asm) (News.isList (by k_asm) (.head _)) (News.isList (by k_asm) (.tail _ (.tail _ (.tail _ (.tail _ hW))))) (by rw [List.length_append, hyl, hw3]; show 39 ≤ _; decide) ?_
  intro D4 h4 F4 N4 l4
  (try k_sweep)
  k_steps
  unfold Stop
  have hw39 := strs_mem (StrsAre.append' (StrsAre.append' (show StrsAre [.str _ 697, .str _ 698, .str _ 699, .str _ 700, .str _ 701, .str _ 702, .str _ 703, .str _ 704, .str _ 705, .str _ 706] namedL by repeat constructor) hy) hws) (fun x hx => by
    rcases List.mem_append.mp hx with hx | hx
    · rcases List.mem_append.mp hx with hx | hx
      · exact namedL_low x hx
      · exact letters_low x hx
    · exact hxs x hx)
  have hD4 : D4 ≠ Rl := Nat.ne_of_gt l4.2.2.2.1
  replace N4 := News.dr4 N4
  refine' loopL (fun _ m₁ nx => (∀ x, x ≠ Str.ofString "word" → x ≠ Str.ofString "cased" → m₁ x = m x) ∧ ∃ i bt sd u1 u2 u3, DrawOk i bt sd ∧ nx = (Rl, reelO C c1 i bt sd u1 u2 u3) :: (D4, _) :: nws) rfl F4 N4 ?hJl ⟨fun _ _ _ => rfl, _, _, _, _, _, _, ok, rfl⟩ ?turn ?done
  case hJl =>
    rintro j m₁ nx ⟨-, i, bt, sd, u1, u2, u3, -, rfl⟩
    exact .tail _ (.head _)
  case turn =>
    rintro j v m₁ nx I oI h tk hj hv ⟨hm, i, bt, sd, u1, u2, u3, ok', rfl⟩ hoI F₁ N₁
    obtain ⟨x, tx, rfl, hlow⟩ := hw39 v (List.mem_of_getElem? (by simpa using hv))
    clear N4 F4 hj hv hw39
    k_steps
    unfold Stop
    have hRI : Rl ≠ I := hoI _ (.head _)
    have hoI2 : ∀ o', ∀ p ∈ (Rl, o') :: (D4, _) :: nws, p.1 ≠ I := fun o' p hp => by
      rcases List.mem_cons.mp hp with rfl | hp
      · exact hRI
      · exact hoI p (.tail _ hp)
    k_dflt (refine' law_turn1 B (by k_asm) X T hd hu ⟨_, by with_unfolding_all exact rfl, rfl⟩ (News.sw1 (by k_asm)) (.tail _ (.tail _ hC)) (off_cons (Ne.symm hRI) (off_cons hD4 off)) hi hk0 hkl ok' (.tail _ (.tail _ hcl)) hcd (.tail _ (.tail _ hch)) (tc2 := tc2) (cb := cb) (cw := cw) (tc1 := tc1) rfl (by show 2 ≤ 10; decide) ?z1 ?z2 hlow ?fin; (case z1 => exact rfl); (case z2 => exact (if_neg (by decide)).trans ((hm _ (by decide) (by decide)).trans m4)))
    intro i' bt' sd' v1 v2 v3 h' tk' m' hm' ok'' F'' N'' f hf
    rcases hf with rfl | rfl
    · exact TPost.intro F'' (News.sw1 N'') (hoI2 _) ⟨fun x a1 a2 => ((hm' x a2).trans (if_neg a1)).trans (hm x a1 a2), _, _, _, _, _, _, ok'', rfl⟩
    · exact TPost.intro (Q := Q) F'' (News.sw1 N'') (hoI2 _) ⟨fun x a1 a2 => ((hm' x a2).trans (if_neg a1)).trans (hm x a1 a2), _, _, _, _, _, _, ok'', rfl⟩
  case done =>
    rintro m₁ nx h tk ⟨hm, i, bt, sd, u1, u2, u3, ok', rfl⟩ F₁ N₁
    (try dsimp only)
    exact law_fig B F₁ X T hd hu ⟨_, by with_unfolding_all exact rfl, rfl⟩ hE N₁ (.tail _ hC) (off_cons hD4 off) hi hk0 hkl ok' (.tail _ hcl) hcd (.tail _ hch) (.tail _ hW) hws hxs hx3 hcw hcw3 hcb hfg ((hm _ (by decide) (by decide)).trans m1) ((hm _ (by decide) (by decide)).trans m2) ((hm _ (by decide) (by decide)).trans m3) ((hm _ (by decide) (by decide)).trans m4) ((hm _ (by decide) (by decide)).trans m5) ((hm _ (by decide) (by decide)).trans m6) ((hm _ (by decide) (by decide)).trans m7) s0 s1 o0 o1 n0 n1 ret
end

-- part lw7
theorem letter_item : ∀ k : Fin 26, Txt.item (Str.ofString "abcdefghijklmnopqrstuvwxyz") (k.val : Int) = ⟨#[97 + k.val]⟩ := by decide +kernel
theorem News.w7 {h₀ h : Heap} {L : Addr} {r a b c : Addr × Obj} {nx : List (Addr × Obj)} (N : News h₀ L h (r :: a :: b :: c :: nx)) : News h₀ L h (a :: b :: c :: r :: nx) := fun q hq => N q (by simp only [List.mem_cons] at hq ⊢; rcases hq with h | h | h | h | h <;> simp [h])
theorem News.w6 {h₀ h : Heap} {L : Addr} {d r a b c : Addr × Obj} {nx : List (Addr × Obj)} (N : News h₀ L h (d :: r :: a :: b :: c :: nx)) : News h₀ L h (a :: b :: c :: r :: nx) := fun q hq => N q (by simp only [List.mem_cons] at hq ⊢; rcases hq with h | h | h | h | h <;> simp [h])
/-- the words made so far; the ledger as it was -/
inductive WordsY (nws : List (Addr × Obj)) (k : Nat) (ys : List Value) : List (Addr × Obj) → Prop
  | mk (xs : List Str) (hy : StrsAre ys xs) (hyl : xs.length = k) (hyx : ∀ x ∈ xs, LowW x) : WordsY nws k ys nws
inductive SignsY (nws : List (Addr × Obj)) (k : Nat) (ys : List Value) : List (Addr × Obj) → Prop
  | mk (qs : List Nat) (hqy : StrsAre ys (qs.map fun c => (⟨#[c]⟩ : Str))) (hql : qs.length = k) (hqs : ∀ c ∈ qs, 97 ≤ c ∧ c ≤ 122) : SignsY nws k ys nws
section
variable {w : World} {loose : List Str} {mean : ExcName → Option Value} {mg mb : Str → Option Value} {dp un : Nat} {gd : Option (List Code)} {cs : Scope} {a : Addr} {ccd : Value} {outer : List Env} {A₀ : Around} {h₀ : Heap} {L : Addr} {m : Str → Option Value} {s : Shared} {Q : Flow → Shared → Prop} {E : Value → Shared → Prop} {p : Program} {rest : List Stmt}
variable (B : Below A₀ h₀ outer h₀) (F : Fr h₀ L s.heap m) (X : (K w.params).In h₀) (T : Top p loose mean mg mb h₀) (hd : dp + 190 < recursionLimit) (hu : un + 900 < cLine)
include B F X T hd hu
local macro_rules | `(tactic| walk_at "execs cons") => `(tactic| (k_here; (with_reducible show wpAny _ _ (execs (Stmt.For _ _ _ _ _ :: _) _) _ _ _); refine Stop.out ?_))
theorem law_words (hb : LawAt (List.drop 7) w.params rest cs) (hE : PassesOwn (model PW w) (lawA dp un gd cs L a ccd outer) (lawEnv cs L a ccd) E) {sp ot n zf : Int} {cw cb fg : Str} {t1 t2 t3 t4 t5 tc1 tc2 : Tok} {Rl C Ch : Addr} {oc : Obj} {cvs : List Value} {ks : List Int} {c0 c1 kc : Nat} {i bt sd : Int} {u1 u2 u3 : Tok} {nws : List (Addr × Obj)}
    (N : News h₀ L s.heap ((Rl, reelO C c1 i bt sd u1 u2 u3) :: nws)) (hC : (C, W.listOf cvs.toArray c0) ∈ nws) (off : ∀ p ∈ nws, p.1 ≠ Rl) (hi : IntsAre cvs ks) (hk0 : ∀ k ∈ ks, 0 ≤ k) (hkl : ks.length ≤ 40) (ok : DrawOk i bt sd)
    (hcl : (L + 1, oc) ∈ nws) (hcd : oc.data = .cell (some (.ref Rl))) (hch : (Ch, W.listOf [.str cw tc1, .str cb tc2].toArray kc) ∈ nws)
    (hcw : LowW cw) (hcw3 : cw.length ≤ 3) (hcb : LowW cb) (hfg : FigOk fg zf)
    (m1 : m (Str.ofString "spoil") = some (.int sp t1)) (m2 : m (Str.ofString "other") = some (.int ot t2)) (m3 : m (Str.ofString "seconds") = some (.int n t3)) (m4 : m (Str.ofString "chosen") = some (.ref Ch)) (m6 : m (Str.ofString "figures") = some (.str fg t4)) (m7 : m (Str.ofString "minutes") = some (.int zf t5))
    (s0 : 0 ≤ sp) (s1 : sp < 7) (o0 : 0 ≤ ot) (o1 : ot < 40) (n0 : -62035200000 ≤ n) (n1 : n < 253324800000)
    (ret : ∀ h' tk' m', Fr h₀ L h' m' → Q (.ret (.bool true)) { s with heap := h', toks := tk' }) :
    wpAny (model PW w) (lawA dp un gd cs L a ccd outer) (execs rest (lawEnv cs L a ccd)) Q E s := by
  have hbc := hb.lit (by with_unfolding_all exact rfl)
  obtain ⟨rfl, rfl⟩ := hbc
  dsimp only [List.drop]
  clear hb
  refine fold_A ?_
  intro env₆ A₆
  k_steps
  rename Fr _ _ _ _ => FZ
  rename News _ _ _ _ => NZ
  refine CW.range (n := 3) rfl FZ NZ (by assumption) (small_one (by decide) (by decide) (by decide) (by decide)) (by simpa using rangeSize_nat 0 3) (by rw [sizeLine_eq]; decide) ?_
  intro g
  refine rest_D (WordsY nws) ok off (.mk [] .nil rfl fun _ h => nomatch h) ?_ ?_
  · rintro k ys _ i bt sd v1 v2 v3 v I oI C' oC D m₂ h tk E' hk hv ⟨xs, hy, hyl, hyx⟩ ok' sub offx hC' hx F' N' off3 ne
    have hIR : I ≠ Rl := Ne.symm off3.1.1
    have hCR : C' ≠ Rl := Ne.symm off3.1.2.1
    have hDR : D ≠ Rl := Ne.symm off3.1.2.2
    clear FZ NZ
    k_steps
    rename Fr _ _ _ _ => FY
    rename News _ _ _ _ => NY
    obtain ⟨nl, hnl⟩ : ∃ nl : Nat, 1 + d9 = (nl : Int) := ⟨(1 + d9).toNat, by omega⟩
    refine CW.range (n := nl) rfl FY NY (by assumption) (small_one (by decide) (by decide) (by omega) (by omega)) (by rw [hnl]; simpa using rangeSize_nat 0 nl) (by rw [sizeLine_eq]; omega) ?_
    intro g'
    refine rest_D (SignsY ((I, oI) :: (C', oC) :: (D, LCg.lst ys) :: nws)) g3 (off_cons hIR (off_cons hCR (off_cons hDR off))) (.mk [] .nil rfl fun _ h => nomatch h) ?_ ?_
    · rintro k2 ys2 _ i2 bt2 sd2 p1 p2 p3 v2 I2 oI2 C2 oC2 D2 m₃ h2 tk2 E2 hk2 hv2 ⟨qs, hqy, hql, hqs⟩ ok2 sub2 offx2 hC2 hx2 F2 N2 off32 ne2
      have hIR2 : I2 ≠ Rl := Ne.symm off32.1.1
      have hCR2 : C2 ≠ Rl := Ne.symm off32.1.2.1
      have hDR2 : D2 ≠ Rl := Ne.symm off32.1.2.2
      clear FY NY
      k_steps
      have hit := letter_item ⟨d9.toNat, by omega⟩
      dsimp only at hit
      rw [Int.toNat_of_nonneg g1] at hit
      refine LCg.CompEnd.intro F9 (News.w7 N9) _ (fun p hp => hp) off32 trivial (.mk g3 (fun p hp => hp) offx2 (.mk (qs ++ [97 + d9.toNat]) ?_ (by rw [List.length_append, hql]; rfl) fun c hc => ?_))
      · rw [List.map_append, hit]
        exact strs_snoc hqy
      · rcases List.mem_append.mp hc with hc | hc
        · exact hqs c hc
        · rw [List.mem_singleton.mp hc]; omega
    rintro ys2 i2 bt2 sd2 p1 p2 p3 _ ok2 sub2 offx2 ⟨qs, hqy, hql, hqs⟩
    have hS5 : StopM 5 := .mk
    k_steps
    all_goals (try unfold Stop)
    refine join_list (News.isList (by k_asm) (.head _)) hqy ?_ ?_
    · rw [sum_ones (fun c => c), show (Str.ofString "").length = 0 from by decide +kernel, Nat.mul_zero, hql]; show nl + 0 ≤ 16777216; omega
    intro t' k'
    rw [join_map_ones (fun c => c), List.map_id']
    k_steps
    rename_i D5 h5 tk5 F5 N5 l5
    refine LCg.CompEnd.intro F5 (News.w6 N5) _ (fun p hp => hp) off3 trivial (.mk ok2 (fun p hp => hp) off (.mk (xs ++ [tx qs]) (strs_snoc hy) (by rw [List.length_append, hyl]; rfl) fun x hx => ?_))
    rcases List.mem_append.mp hx with hx | hx
    · exact hyx x hx
    · rw [List.mem_singleton.mp hx]
      have e : (tx qs).length = nl := hql
      exact ⟨hqs, by omega, by omega⟩
  rintro ys i bt sd v1 v2 v3 _ ok' sub offx ⟨xs, hy, hyl, hyx⟩
  k_steps
  unfold Stop
  rename_i D5 h5 tk5 F5 N5 l5
  have f : ∀ x, x ≠ Str.ofString "words" → (fun z => if z = Str.ofString "words" then some (Value.ref D5) else m z) x = m x := fun x h => if_neg h
  exact law_for1 B F5 X T hd hu ⟨_, by with_unfolding_all exact rfl, rfl⟩ hE (News.sw1 N5) (.tail _ hC) (off_cons (Ne.symm l5.1) off) hi hk0 hkl ok' (.tail _ hcl) hcd (.tail _ hch) (.head _) hy hyx hyl hcw hcw3 hcb hfg ((f _ (by decide)).trans m1) ((f _ (by decide)).trans m2) ((f _ (by decide)).trans m3) ((f _ (by decide)).trans m4) (if_pos rfl) ((f _ (by decide)).trans m6) ((f _ (by decide)).trans m7) s0 s1 o0 o1 n0 n1 ret
end

-- part law
theorem fig_ok {size mz : Int} {sg : Str} (h0 : 0 ≤ size) (h1 : size < 6000) (hm : mz = size ∨ mz = 0 - size) (hs : (mz < 0 ∧ sg = Str.ofString "-") ∨ (0 ≤ mz ∧ sg = Str.ofString "+")) :
    FigOk (sg ++ tx [48 + (size.fdiv 60).toNat / 10, 48 + (size.fdiv 60).toNat % 10] ++ tx [48 + (size.fmod 60).toNat / 10, 48 + (size.fmod 60).toNat % 10]) mz := by
  have sz1 := fd size (b := 60) (by decide)
  have sz2 := fm size (b := 60) (by decide)
  obtain ⟨a, ha⟩ : ∃ a : Nat, (size.fdiv 60).toNat = a := ⟨_, rfl⟩
  obtain ⟨b, hb⟩ : ∃ b : Nat, (size.fmod 60).toNat = b := ⟨_, rfl⟩
  rw [ha, hb]
  have ea : size = 60 * (a : Int) + b := by omega
  have a1 : a < 100 := by omega
  have b1 : b ≤ 59 := by omega
  clear ha hb sz1 sz2
  obtain ⟨n, hn, rfl, hz⟩ : ∃ n, (n = 43 ∨ n = 45) ∧ sg = tx [n] ∧ (if n = 45 then -((a : Int) * 60 + b) else (a : Int) * 60 + b) = mz := by
    rcases hs with ⟨h, rfl⟩ | ⟨h, rfl⟩
    · exact ⟨45, .inr rfl, by decide +kernel, by rw [if_pos rfl]; omega⟩
    · exact ⟨43, .inl rfl, by decide +kernel, by rw [if_neg (by decide)]; omega⟩
  have e : (tx [n] ++ tx [48 + a / 10, 48 + a % 10] ++ tx [48 + b / 10, 48 + b % 10]).cps.toList = [n, 48 + a / 10, 48 + a % 10, 48 + b / 10, 48 + b % 10] := by
    simp only [Str.cps_append, Array.toList_append]
    rfl
  have hzin : zoneIn (tx [n] ++ tx [48 + a / 10, 48 + a % 10] ++ tx [48 + b / 10, 48 + b % 10]).cps.toList = some mz := by rw [e, zone_figs hn a1 b1, hz]
  have hc : ∀ c ∈ (tx [n] ++ tx [48 + a / 10, 48 + a % 10] ++ tx [48 + b / 10, 48 + b % 10]).cps.toList, (48 ≤ c ∧ c ≤ 57) ∨ c = 43 ∨ c = 45 := by
    intro c hc
    rw [e] at hc
    simp only [List.mem_cons, List.not_mem_nil, or_false] at hc
    clear e hzin hz hs
    omega
  have hl : (tx [n] ++ tx [48 + a / 10, 48 + a % 10] ++ tx [48 + b / 10, 48 + b % 10]).length = 5 := by rw [← len_list, e]; rfl
  refine ⟨hc, hl, hzin, named_bent (c := n) (by rw [e]; exact .head _) (by unfold Letter; omega), ?_, by omega, by omega⟩
  rw [zoneB_u8 (fun c h => by have := hc c h; omega), hzin]
theorem letter_lowE {d : Int} (h : (Txt.item (Str.ofString "abcdefghijklmnopqrstuvwxyz") d).length = 1) (g1 : 0 ≤ d) (g2 : d < 26) : LowW (Txt.item (Str.ofString "abcdefghijklmnopqrstuvwxyz") d) := by
  have hit := letter_item ⟨d.toNat, by omega⟩
  dsimp only at hit
  rw [Int.toNat_of_nonneg g1] at hit
  refine ⟨?_, by rw [h]; decide, by rw [h]; decide⟩
  rw [hit]
  intro c hc
  rw [List.mem_singleton.mp hc]
  omega
theorem namedW3 {d : Int} (h0 : 0 ≤ d) (h1 : d < 10) : (namedL.getD d.toNat Str.empty).length ≤ 3 := by
  have h : ∀ k, k < 10 → (namedL.getD k Str.empty).length ≤ 3 := by decide +kernel
  exact h d.toNat (by omega)
section
variable {w : World} {loose : List Str} {mean : ExcName → Option Value} {mg mb : Str → Option Value} {dp un : Nat} {gd : Option (List Code)} {cs : Scope} {a : Addr} {ccd : Value} {outer : List Env} {A₀ : Around} {h₀ : Heap} {L : Addr} {m : Str → Option Value} {s : Shared} {Q : Flow → Shared → Prop} {E : Value → Shared → Prop} {p : Program} {rest : List Stmt}
variable (B : Below A₀ h₀ outer h₀) (F : Fr h₀ L s.heap m) (X : (K w.params).In h₀) (T : Top p loose mean mg mb h₀) (hd : dp + 190 < recursionLimit) (hu : un + 900 < cLine)
include B F X T hd hu
local macro_rules | `(tactic| walk_at "eval IfExp") => `(tactic| (refine Stop.out ?_))
local macro_rules | `(tactic| walk_at "execs cons") => `(tactic| (k_here; (with_reducible show wpAny _ _ (execs (Stmt.Assign [Expr.Name (Str.ofString "words") _] _ _ :: _) _) _ _ _); refine Stop.out ?_))
theorem law_body (hb : LawAt id w.params rest cs) (hE : PassesOwn (model PW w) (lawA dp un gd cs L a ccd outer) (lawEnv cs L a ccd) E) {lx : Addr} {oc : Obj} {vs : List Value} {ns : List Int} (hl : h₀.IsList lx vs.toArray) (hi : IntsAre vs ns) (hlen : ns.length ≤ 63)
    (N : News h₀ L s.heap [(L + 1, oc)]) (hcd : oc.data = .cell none) (m1 : m (Str.ofString "script") = some (.ref lx))
    (ret : ∀ h' tk' m', Fr h₀ L h' m' → Q (.ret (.bool true)) { s with heap := h', toks := tk' }) :
    wpAny (model PW w) (lawA dp un gd cs L a ccd outer) (execs rest (lawEnv cs L a ccd)) Q E s := by
  have hbc := hb.lit (by with_unfolding_all exact rfl)
  obtain ⟨rfl, rfl⟩ := hbc
  dsimp only [id]
  clear hb
  refine fold_A ?_
  intro env₆ A₆
  k_steps
  unfold Stop
  refine strs_item (xs := namedL) (by k_asm) (by k_asm) (by k_is) (by repeat constructor) (by assumption) (by show _ < (10 : Int); assumption) (by decide) ?_
  intro tn
  have nw1 := namedW g1 g2
  have nw3 := namedW3 g1 g2
  generalize namedL.getD d9.toNat Str.empty = cw at *
  k_steps
  unfold Stop
  have hcb := letter_lowE (by assumption) (by assumption) (by assumption)
  obtain ⟨size, rfl⟩ : ∃ z, z = d9 := ⟨_, rfl⟩
  have size0 := g1
  have size1 := g2
  refine joinD (fun v => ∃ n t, v = .int n t ∧ (n = size ∨ n = 0 - size)) (by k_asm) (by k_asm) ?_ ?_
  · refine IfExp_ ?_
    k_steps
    all_goals (refine DrawnP.intro (by k_asm) (by k_asm) (by assumption) ?_)
    · exact ⟨_, _, rfl, .inl rfl⟩
    · exact ⟨_, _, rfl, .inr rfl⟩
  rintro v i9 bt9 sd9 t1 t2 t3 h9 tk9 ⟨mz, tz, rfl, mz0⟩ ok9 F9 N9
  have sz1 := fd size (b := 60) (by decide)
  have sz2 := fm size (b := 60) (by decide)
  k_steps
  unfold Stop
  refine joinP (fun v => ∃ x t, v = .str x t ∧ ((mz < 0 ∧ x = Str.ofString "-") ∨ (0 ≤ mz ∧ x = Str.ofString "+"))) (by k_asm) (by k_asm) ?_ ?_
  · refine IfExp_ ?_
    k_steps
    all_goals (refine PlainP.intro (by k_asm) (by k_asm) ?_)
    · exact ⟨_, _, rfl, .inl ⟨by assumption, rfl⟩⟩
    · exact ⟨_, _, rfl, .inr ⟨by omega, rfl⟩⟩
  rintro v h9 tk9 ⟨sg, tg, rfl, hsg⟩ F9 N9
  have hsl : sg.length ≤ 5 := by rcases hsg with ⟨-, rfl⟩ | ⟨-, rfl⟩ <;> decide +kernel
  k_steps
  unfold Stop
  k_dflt (refine' law_words B (by k_asm) X T hd hu ⟨_, by with_unfolding_all exact rfl, rfl⟩ hE (by k_asm) ?w1 ?w2 (by assumption) (by assumption) (by assumption) ok9 ?w3 ?w4 ?w5 nw1 nw3 hcb (fig_ok size0 size1 mz0 hsg) ?z1 ?z2 ?z3 ?z4 ?z6 ?z7 ?s0 ?s1 ?s2 ?s3 ?s4 ?s5 ret; (case z1 => exact rfl); (case z2 => exact rfl); (case z3 => exact rfl); (case z4 => exact rfl); (case z6 => exact rfl); (case z7 => exact rfl); (case w1 => k_mem); (case w3 => k_mem); (case w4 => assumption); (case w5 => k_mem); (case w2 => k_extra "!off"); (case s0 => assumption); (case s1 => assumption); (case s2 => assumption); (case s3 => assumption); (case s4 => omega); (case s5 => omega))
end


end Mine

theorem Mine.hd.tw18216991992659828111 : True := trivial
theorem Mine.hd.tw3039998526598829958 : True := trivial
theorem Mine.hd.tw10116094404178767388 : True := trivial
theorem Mine.hd.tw15400726358817843085 : True := trivial
theorem Mine.hd.tw2350349309619206374 : True := trivial
theorem Mine.hd.tw11682748685660544111 : True := trivial
theorem Mine.hd.tw4740767245239349402 : True := trivial
theorem Mine.hd.tw5238900199007264825 : True := trivial
theorem Mine.hd.tw9762872527117769658 : True := trivial
theorem Mine.hd.tw359313982320049065 : True := trivial
theorem Mine.hd.tw10613586106871329381 : True := trivial
theorem Mine.hd.tw5089235407568680550 : True := trivial
theorem Mine.hd.tw5629675986466331604 : True := trivial
theorem Mine.hd.tw7891253978561527248 : True := trivial
theorem Mine.hd.tw3435673168844421263 : True := trivial
theorem Mine.hd.tw16640546478005224243 : True := trivial
theorem Mine.hd.tw7082855905992002993 : True := trivial
theorem Mine.hd.tw4297731678662094536 : True := trivial
theorem Mine.hd.tw1129884963351977449 : True := trivial
theorem Mine.hd.tw553702245421142481 : True := trivial
theorem Mine.hd.tw15043168886218598503 : True := trivial
theorem Mine.hd.tw5282504435634884242 : True := trivial
theorem Mine.hd.tw4467709538675631592 : True := trivial
theorem Mine.hd.tw189712035060473897 : True := trivial
theorem Mine.hd.tw13435371860627755909 : True := trivial
theorem Mine.hd.tw16345102440705955213 : True := trivial
theorem Mine.hd.tw15083628210047938546 : True := trivial
theorem Mine.hd.tw14906377314874228009 : True := trivial
theorem Mine.hd.tw5190246844813560578 : True := trivial
theorem Mine.hd.tw9277588360372424766 : True := trivial
theorem Mine.hd.tw11632984921778587759 : True := trivial
theorem Mine.hd.tw16432713993328977331 : True := trivial
theorem Mine.hd.tw4065347644161347641 : True := trivial
theorem Mine.hd.tw16037735763661986305 : True := trivial
theorem Mine.hd.tw11210553801493137410 : True := trivial
theorem Mine.hd.tw14457593812595234344 : True := trivial
theorem Mine.hd.tw10170382586518783626 : True := trivial
theorem Mine.hd.tw15759970867653108152 : True := trivial
theorem Mine.hd.tw3953601041324332601 : True := trivial
theorem Mine.hd.tw13315533130655954831 : True := trivial
theorem Mine.hd.tw2114630138375439770 : True := trivial
theorem Mine.hd.tw1452849714261714991 : True := trivial
theorem Mine.hd.tw16011055738799735888 : True := trivial
theorem Mine.hd.tw5054737718236178183 : True := trivial
theorem Mine.hd.tw10424393626065333798 : True := trivial
theorem Mine.hd.tw10258999931320997221 : True := trivial
theorem Mine.hd.tw2216850387143573719 : True := trivial
theorem Mine.hd.tw9430268157657104642 : True := trivial
theorem Mine.hd.tw15367242080415987702 : True := trivial
theorem Mine.hd.tw11319892378374348655 : True := trivial
theorem Mine.hd.tw3452082135128663414 : True := trivial
theorem Mine.hd.tw13783031573616600631 : True := trivial
theorem Mine.hd.tw7355570028127101125 : True := trivial
theorem Mine.hd.tw2327210489368252092 : True := trivial
theorem Mine.hd.tw1409312971732116557 : True := trivial
theorem Mine.hd.tw12092154237167983948 : True := trivial
theorem Mine.hd.tw8117029840178788049 : True := trivial
theorem Mine.hd.tw5366084841770067474 : True := trivial
theorem Mine.hd.tw307737655149646647 : True := trivial
theorem Mine.hd.tw11652457597714270106 : True := trivial
theorem Mine.hd.tw16722109127936396110 : True := trivial
theorem Mine.hd.tw11513968764499736323 : True := trivial
theorem Mine.hd.tw5278057926702712004 : True := trivial
theorem Mine.hd.tw10216474801634566288 : True := trivial
theorem Mine.hd.tw14294344414604881677 : True := trivial
theorem Mine.hd.tw5130813555471234732 : True := trivial
theorem Mine.hd.tw2252305205657439004 : True := trivial
theorem Mine.hd.tw17903497710992402801 : True := trivial
theorem Mine.hd.tw11402939732021071671 : True := trivial
theorem Mine.hd.tw17183224562656869120 : True := trivial
theorem Mine.hd.tw15529170255622000948 : True := trivial
theorem Mine.hd.tw16649331688326792143 : True := trivial
theorem Mine.hd.tw2603259988358896889 : True := trivial
theorem Mine.hd.tw15683763237869141255 : True := trivial
theorem Mine.hd.tw16477043939570097188 : True := trivial
theorem Mine.hd.tw16171809288044610508 : True := trivial
theorem Mine.hd.tw16473244170626142550 : True := trivial
theorem Mine.hd.tw4360684699965382250 : True := trivial
theorem Mine.hd.tw13855881374063213867 : True := trivial
theorem Mine.hd.tw461538923250603899 : True := trivial
theorem Mine.hd.tw9345929723534960622 : True := trivial
theorem Mine.hd.tw7494724483528729301 : True := trivial
theorem Mine.hd.tw18245042118932799458 : True := trivial
theorem Mine.hd.tw5635641802508607975 : True := trivial
theorem Mine.hd.tw3789350110615891812 : True := trivial
theorem Mine.hd.tw18322514126500204803 : True := trivial
theorem Mine.hd.tw10403243965636340961 : True := trivial
theorem Mine.hd.tw1589133516308662214 : True := trivial
theorem Mine.hd.tw6264232113106981867 : True := trivial
theorem Mine.hd.tw17087091549796120035 : True := trivial
theorem Mine.hd.tw16299908979028503884 : True := trivial
theorem Mine.hd.tw6924109203229866365 : True := trivial
theorem Mine.hd.tw9783614193127449063 : True := trivial
theorem Mine.hd.tw9741134391959003819 : True := trivial
theorem Mine.hd.tw14400467628812073631 : True := trivial
theorem Mine.hd.tw17950676927832955104 : True := trivial
theorem Mine.hd.tw1382963296337349011 : True := trivial
theorem Mine.hd.tw17711083657039698284 : True := trivial
theorem Mine.hd.tw14478148883734587675 : True := trivial
theorem Mine.hd.tw8716120427605611371 : True := trivial
theorem Mine.hd.tw12631932088317031055 : True := trivial
theorem Mine.hd.tw13866372431405929976 : True := trivial
theorem Mine.hd.tw2068664650715991707 : True := trivial
theorem Mine.hd.tw16794629799341752650 : True := trivial
theorem Mine.hd.tw1997569388931296116 : True := trivial
theorem Mine.hd.tw13609717118414637909 : True := trivial
theorem Mine.hd.tw18093812233618175256 : True := trivial
theorem Mine.hd.tw7120233287515763914 : True := trivial
theorem Mine.hd.tw4851647983119433812 : True := trivial
theorem Mine.hd.tw4706079058837389440 : True := trivial
theorem Mine.hd.tw12588582704262371052 : True := trivial
theorem Mine.hd.tw8770205317985620760 : True := trivial
theorem Mine.hd.tw16194383521188589630 : True := trivial
theorem Mine.hd.tw3646829019195819677 : True := trivial
theorem Mine.hd.tw8789358453043137523 : True := trivial
theorem Mine.hd.tw5343241284826551009 : True := trivial
theorem Mine.hd.tw13790719812936386609 : True := trivial
theorem Mine.hd.tw6931407450589930559 : True := trivial
theorem Mine.hd.tw17047115858639842297 : True := trivial
theorem Mine.hd.tw18300207936620678264 : True := trivial
theorem Mine.hd.tw8268277133935991078 : True := trivial
theorem Mine.hd.tw2386827423013361158 : True := trivial
theorem Mine.hd.tw4172343393113369950 : True := trivial
theorem Mine.hd.tw13483081372092288885 : True := trivial
theorem Mine.hd.tw8226494294326810461 : True := trivial
theorem Mine.hd.tw10792051664901133789 : True := trivial
theorem Mine.hd.tw16868993833207775613 : True := trivial
theorem Mine.hd.tw6555240042291301478 : True := trivial
theorem Mine.hd.tw15615420239508185596 : True := trivial
theorem Mine.hd.tw5961118342813265553 : True := trivial
theorem Mine.hd.tw15166520500009309586 : True := trivial
theorem Mine.hd.tw10603584201595350602 : True := trivial
theorem Mine.hd.tw15673258824015622330 : True := trivial
theorem Mine.hd.tw17330945745186091897 : True := trivial
theorem Mine.hd.tw11465210709893060100 : True := trivial
theorem Mine.hd.tw2930668341846507884 : True := trivial
theorem Mine.hd.tw11128854368766332075 : True := trivial
theorem Mine.hd.tw7023726343779634624 : True := trivial
theorem Mine.hd.tw6767318904944593275 : True := trivial
theorem Mine.hd.tw728884934406724761 : True := trivial
theorem Mine.hd.tw9763420282994701918 : True := trivial
theorem Mine.hd.tw978945382295711627 : True := trivial
theorem Mine.hd.tw3443669649825651883 : True := trivial
theorem Mine.hd.tw922143313871775805 : True := trivial
theorem Mine.hd.tw4402725079659364252 : True := trivial
theorem Mine.hd.tw1222794163293265305 : True := trivial
theorem Mine.hd.tw1413172679324656950 : True := trivial
theorem Mine.hd.tw16154546982801380032 : True := trivial
theorem Mine.hd.tw1580110805410547442 : True := trivial
theorem Mine.hd.tw17588044629489971554 : True := trivial
theorem Mine.hd.tw15837987909243819085 : True := trivial
theorem Mine.hd.tw18291419657060728153 : True := trivial
theorem Mine.hd.tw6196171512934965099 : True := trivial
theorem Mine.hd.tw11917015161858427179 : True := trivial
theorem Mine.hd.tw12487502673411948298 : True := trivial
theorem Mine.hd.tw3008623586974134963 : True := trivial
theorem Mine.hd.tw3915529967508079626 : True := trivial
theorem Mine.hd.tw13225837485096350037 : True := trivial
theorem Mine.hd.tw16970440968685349367 : True := trivial
theorem Mine.hd.tw13181700845877081190 : True := trivial
theorem Mine.hd.tw10458740792067480800 : True := trivial
theorem Mine.hd.tw9566141503761928105 : True := trivial
theorem Mine.hd.tw16412773359747925120 : True := trivial
theorem Mine.hd.tw5036846961687405229 : True := trivial
theorem Mine.hd.tw10601615944963115059 : True := trivial
theorem Mine.hd.tw8977307856219701671 : True := trivial
theorem Mine.hd.tw16007149819294483003 : True := trivial
theorem Mine.hd.tw8047900516022102942 : True := trivial
theorem Mine.hd.tw11136197038861592535 : True := trivial
theorem Mine.hd.tw15411387601460861337 : True := trivial
theorem Mine.hd.tw12936449754285732098 : True := trivial
theorem Mine.hd.tw11032806212648032379 : True := trivial
theorem Mine.hd.tw17213754286329925777 : True := trivial
theorem Mine.hd.tw11251137523995926341 : True := trivial
theorem Mine.hd.tw17681399029576232318 : True := trivial
theorem Mine.hd.tw17986969038992634876 : True := trivial
theorem Mine.hd.tw15344866539931968096 : True := trivial
theorem Mine.hd.tw16259696140248634718 : True := trivial
theorem Mine.hd.tw8735263284916673568 : True := trivial
theorem Mine.hd.tw1882180444382439491 : True := trivial
theorem Mine.hd.tw12647368939536790636 : True := trivial
theorem Mine.hd.tw1013155817946168525 : True := trivial
theorem Mine.hd.tw22551697357593593 : True := trivial
theorem Mine.hd.tw6438293893037913957 : True := trivial
theorem Mine.hd.tw4478964076566166474 : True := trivial
theorem Mine.hd.tw15615537253650120727 : True := trivial
theorem Mine.hd.tw17574625026820762457 : True := trivial
theorem Mine.hd.tw18185175575083235020 : True := trivial
theorem Mine.hd.tw2999033326186475339 : True := trivial
theorem Mine.hd.tw3109861748172591687 : True := trivial
theorem Mine.hd.tw5562173858411828344 : True := trivial
theorem Mine.hd.tw15089522573102190283 : True := trivial
theorem Mine.hd.tw3480954088277226078 : True := trivial
theorem Mine.hd.tw15595854959937240912 : True := trivial
theorem Mine.hd.tw5732804406350252772 : True := trivial
theorem Mine.hd.tw17901334829092211166 : True := trivial
theorem Mine.hd.tw2867327485932766208 : True := trivial
theorem Mine.hd.tw3493717111155160527 : True := trivial
theorem Mine.hd.tw17258206423299326598 : True := trivial
theorem Mine.hd.tw1011335219593555734 : True := trivial
theorem Mine.hd.tw10743916045514856203 : True := trivial
theorem Mine.hd.tw2329189449893159454 : True := trivial
theorem Mine.hd.tw13431754692932380062 : True := trivial
theorem Mine.hd.tw6038821095411175016 : True := trivial
theorem Mine.hd.tw1439246655266547700 : True := trivial
theorem Mine.hd.tw7610815399733428385 : True := trivial
theorem Mine.hd.tw5781342201191254626 : True := trivial
theorem Mine.hd.tw8428860471423672150 : True := trivial
theorem Mine.hd.tw14168552714766633299 : True := trivial
theorem Mine.hd.tw18241275227582772068 : True := trivial
theorem Mine.hd.tw6820862383352777685 : True := trivial
theorem Mine.hd.tw402640490398009360 : True := trivial
theorem Mine.hd.tw15642763164714097627 : True := trivial
theorem Mine.hd.tw15833661619300960221 : True := trivial
theorem Mine.hd.tw8671608845466749128 : True := trivial
theorem Mine.hd.tw7914949630228597729 : True := trivial
theorem Mine.hd.tw701787995468756871 : True := trivial
theorem Mine.hd.tw15616948245753086127 : True := trivial
theorem Mine.hd.tw5567388512258382067 : True := trivial
theorem Mine.hd.tw15910714762333108613 : True := trivial
theorem Mine.hd.tw15368132723985388332 : True := trivial
theorem Mine.hd.tw8990313861142287110 : True := trivial
theorem Mine.hd.tw17447410573909459338 : True := trivial
theorem Mine.hd.tw10614716105012338702 : True := trivial
theorem Mine.hd.tw9427301549700849589 : True := trivial
theorem Mine.hd.tw12614811148066621264 : True := trivial
theorem Mine.hd.tw3442329435671937591 : True := trivial
theorem Mine.hd.tw7510230149288206974 : True := trivial
theorem Mine.hd.tw15042006015671813226 : True := trivial
theorem Mine.hd.tw15967140613478806237 : True := trivial
theorem Mine.hd.tw9170477692918782315 : True := trivial
theorem Mine.hd.tw14727110085682223627 : True := trivial
theorem Mine.hd.tw17177331786930743035 : True := trivial
theorem Mine.hd.tw9748044761591592747 : True := trivial
theorem Mine.hd.tw10949625832625181284 : True := trivial
theorem Mine.hd.tw17948085552500728524 : True := trivial
theorem Mine.hd.tw15852365999677673905 : True := trivial
theorem Mine.hd.tw10525666975642140466 : True := trivial
theorem Mine.hd.tw6838551448383532254 : True := trivial
theorem Mine.hd.tw11162318198679636149 : True := trivial
theorem Mine.hd.tw14176624398918483544 : True := trivial
theorem Mine.hd.tw7519716089354478335 : True := trivial
theorem Mine.hd.tw8960069828448710407 : True := trivial
theorem Mine.hd.tw7028611270464810887 : True := trivial
theorem Mine.hd.tw6545403380812914513 : True := trivial
theorem Mine.hd.tw2391449824757734642 : True := trivial
theorem Mine.hd.tw17252143746492648416 : True := trivial
theorem Mine.hd.tw1836080755315867724 : True := trivial
theorem Mine.hd.tw11953376511379268794 : True := trivial
theorem Mine.hd.tw15527848837575444561 : True := trivial
theorem Mine.hd.tw3570744729867848788 : True := trivial
theorem Mine.hd.tw17054507655720011243 : True := trivial
theorem Mine.hd.tw16828841361933241965 : True := trivial
theorem Mine.hd.tw9719896912496429819 : True := trivial
theorem Mine.hd.tw3673089383077640791 : True := trivial
theorem Mine.hd.tw10678649693572172417 : True := trivial
theorem Mine.hd.tw7752767780024739350 : True := trivial
theorem Mine.hd.tw9557236495431379559 : True := trivial
theorem Mine.hd.tw3259873300814134281 : True := trivial
theorem Mine.hd.tw2887051446865420828 : True := trivial
theorem Mine.hd.tw2195365466389143174 : True := trivial
theorem Mine.hd.tw5416991563250132298 : True := trivial
theorem Mine.hd.tw16064382804478563927 : True := trivial
theorem Mine.hd.tw6019021122589006684 : True := trivial
theorem Mine.hd.tw2274498078352570744 : True := trivial
theorem Mine.hd.tw7754304195085646258 : True := trivial
theorem Mine.hd.tw2608437505485318709 : True := trivial
theorem Mine.hd.tw17650839729002327288 : True := trivial
theorem Mine.hd.tw11893437276241958245 : True := trivial
theorem Mine.hd.tw11631947586910100387 : True := trivial
theorem Mine.hd.tw17542962492245011380 : True := trivial
theorem Mine.hd.tw17599816209265215132 : True := trivial
theorem Mine.hd.tw13267510147771200024 : True := trivial
theorem Mine.hd.tw1097998534492414930 : True := trivial
theorem Mine.hd.tw3229955645248102723 : True := trivial
theorem Mine.hd.tw9345676750909349944 : True := trivial
theorem Mine.hd.tw6411954120941647267 : True := trivial
theorem Mine.hd.tw13518370688599389936 : True := trivial
theorem Mine.hd.tw14960593345356199642 : True := trivial
theorem Mine.hd.tw9421340871869096474 : True := trivial
theorem Mine.hd.tw8343274005884668182 : True := trivial
theorem Mine.hd.tw17672654358674132775 : True := trivial
theorem Mine.hd.tw1760603350576429475 : True := trivial
theorem Mine.hd.tw212345690472687942 : True := trivial
theorem Mine.hd.tw16920754564084929960 : True := trivial
theorem Mine.hd.tw17975533764899295144 : True := trivial
theorem Mine.hd.tw8068729725432388964 : True := trivial
theorem Mine.hd.tw13321331477185743149 : True := trivial
theorem Mine.hd.tw4115565904173853331 : True := trivial
theorem Mine.hd.tw8458067239894703972 : True := trivial
theorem Mine.hd.tw13277076834127875243 : True := trivial
theorem Mine.hd.tw6982297934935202809 : True := trivial
theorem Mine.hd.tw15790720579355451973 : True := trivial
theorem Mine.hd.tw15416985209724490359 : True := trivial
theorem Mine.hd.tw17673860158736603733 : True := trivial
theorem Mine.hd.tw16056359734778111409 : True := trivial
theorem Mine.hd.tw17606422857730326317 : True := trivial
theorem Mine.hd.tw12070051907170230399 : True := trivial
theorem Mine.hd.tw9499510787657705874 : True := trivial
theorem Mine.hd.tw3451239065008710300 : True := trivial
theorem Mine.hd.tw16634568088961857937 : True := trivial
theorem Mine.hd.tw7366208706002141716 : True := trivial
theorem Mine.hd.tw16945582573551092051 : True := trivial
theorem Mine.hd.tw6990203504111849199 : True := trivial
theorem Mine.hd.tw18103342009636024947 : True := trivial
theorem Mine.hd.tw4086058157674990017 : True := trivial
theorem Mine.hd.tw3828038474966422129 : True := trivial
theorem Mine.hd.tw9673543361469618366 : True := trivial
theorem Mine.hd.tw8457440626546761165 : True := trivial
theorem Mine.hd.tw12901994302517312135 : True := trivial
theorem Mine.hd.tw3571134770919094901 : True := trivial
theorem Mine.hd.tw9386895884608548742 : True := trivial
theorem Mine.hd.tw6164396464334811476 : True := trivial
theorem Mine.hd.tw8727321023445011275 : True := trivial
theorem Mine.hd.tw6819123309680001836 : True := trivial
theorem Mine.hd.tw14955159897011116063 : True := trivial
theorem Mine.hd.tw3381375190539634487 : True := trivial
theorem Mine.hd.tw2167537188350426706 : True := trivial
theorem Mine.hd.tw11754176132448286083 : True := trivial
theorem Mine.hd.tw8934143017859847078 : True := trivial
theorem Mine.hd.tw15422856539912107476 : True := trivial
theorem Mine.hd.tw6868836192036940282 : True := trivial
theorem Mine.hd.tw13828106393651249627 : True := trivial
theorem Mine.hd.tw5373601922739893978 : True := trivial
theorem Mine.hd.tw13372043803930879067 : True := trivial
theorem Mine.hd.tw10024716035694756283 : True := trivial
theorem Mine.hd.tw12023040214023829324 : True := trivial
theorem Mine.hd.tw17714235663813219645 : True := trivial
theorem Mine.hd.tw5902613922787404954 : True := trivial
theorem Mine.hd.tw10752148897807903841 : True := trivial
theorem Mine.hd.tw18264374347568628810 : True := trivial
theorem Mine.hd.tw4971549296188076032 : True := trivial
theorem Mine.hd.tw4993660671451451078 : True := trivial
theorem Mine.hd.tw7540655947842036084 : True := trivial
theorem Mine.hd.tw17420951861521290806 : True := trivial
theorem Mine.hd.tw8112040973832200146 : True := trivial
theorem Mine.hd.tw6184460063843016694 : True := trivial
theorem Mine.hd.tw9960721518486171458 : True := trivial
theorem Mine.hd.tw14896477498954680388 : True := trivial
theorem Mine.hd.tw2323474266016966308 : True := trivial
theorem Mine.hd.tw10784824025267889561 : True := trivial
theorem Mine.hd.tw5657824000916062451 : True := trivial
theorem Mine.hd.tw14705683404202351889 : True := trivial
theorem Mine.hd.tw18219297243305740317 : True := trivial
theorem Mine.hd.tw15508949281206285077 : True := trivial
theorem Mine.hd.tw4856431653887292112 : True := trivial
theorem Mine.hd.tw18293732401869909652 : True := trivial
theorem Mine.hd.tw6442067068224118133 : True := trivial
theorem Mine.hd.tw4272726840584523970 : True := trivial
theorem Mine.hd.tw10583446816852156582 : True := trivial
theorem Mine.hd.tw8879563391730754479 : True := trivial
theorem Mine.hd.tw18343703819029505601 : True := trivial
theorem Mine.hd.tw7085514621470718492 : True := trivial
theorem Mine.hd.tw17387473266821786944 : True := trivial
theorem Mine.hd.tw11151547217846952531 : True := trivial
theorem Mine.hd.tw13330244855972007585 : True := trivial
theorem Mine.hd.tw9657781627882305391 : True := trivial
theorem Mine.hd.tw14353793391729792155 : True := trivial
theorem Mine.hd.tw1241404454085649124 : True := trivial
theorem Mine.hd.tw6123773746684550334 : True := trivial
theorem Mine.hd.tw3919010098100093602 : True := trivial
theorem Mine.hd.tw8356816923877370021 : True := trivial
theorem Mine.hd.tw12399718760709695909 : True := trivial
theorem Mine.hd.tw18293851220164018083 : True := trivial
theorem Mine.hd.tw3219085151875037572 : True := trivial
theorem Mine.hd.tw15103106377680225435 : True := trivial
theorem Mine.hd.tw12629568148972539762 : True := trivial
theorem Mine.hd.tw5174551420813472067 : True := trivial
theorem Mine.hd.tw14246236162039180721 : True := trivial
theorem Mine.hd.tw6293948785866598258 : True := trivial
theorem Mine.hd.tw12113243949977362033 : True := trivial
theorem Mine.hd.tw8228950375871286339 : True := trivial
theorem Mine.hd.tw6998783941825042932 : True := trivial
theorem Mine.hd.tw13409441903868389331 : True := trivial
theorem Mine.hd.tw17062030032774818151 : True := trivial
theorem Mine.hd.tw6305734824756694309 : True := trivial
theorem Mine.hd.tw12112201142124510154 : True := trivial
theorem Mine.hd.tw4494801613693538912 : True := trivial
theorem Mine.hd.tw12050417470231563642 : True := trivial
theorem Mine.hd.tw6785817131721698500 : True := trivial
theorem Mine.hd.tw11389486352061984695 : True := trivial
set_option Elab.async true in
theorem Mine.hd : PySem.Challenge.rw_pq0941_01.Holds := by
  w_on; o_law
  o_head (kHook Mine.K [2, 3, 15, 22, 23, 25, 26, 28, 29, 30, 32, 33, 35, 36, 37, 38, 39, 40, 43, 50, 51, 52, 55, 57, 58, 60, 61, 62, 65, 66, 67, 68, 70, 71, 73, 74, 75, 77, 78, 80, 81, 82, 84, 85, 87, 88, 89, 91, 92, 94, 95, 96, 98, 99, 101, 102, 103, 105, 106, 108, 109, 110, 112, 113, 115, 116, 117, 119, 120, 122, 123, 124, 126, 127, 129, 130, 131, 134, 135, 136, 137, 145, 147, 148, 150, 151, 152, 154, 155, 157, 158, 159, 160, 161, 162, 163, 166, 168, 169, 171, 172, 173, 175, 176, 178, 179, 180, 182, 183, 185, 186, 187, 189, 190, 192, 193, 194, 196, 197, 199, 200, 201, 203, 204, 206, 207, 208, 210, 211, 213, 214, 215, 217, 218, 220, 221, 222, 224, 225, 227, 228, 229, 230, 232, 233, 235, 236, 237, 240, 241, 242, 245, 246, 247, 250, 251, 252, 254, 255, 257, 258, 259, 262, 263, 271, 273, 274, 276, 277, 278, 280, 281, 283, 284, 285, 288, 289, 290, 292, 293, 295, 296, 297, 299, 300, 302, 303, 304, 306, 307, 309, 310, 311, 312, 313, 314, 315, 318, 320, 321, 323, 324, 325, 327, 328, 330, 331, 332, 334, 335, 337, 338, 339, 341, 342, 344, 345, 346, 347, 348, 349, 352, 353, 354, 356, 357, 359, 360, 361, 364, 365, 366, 368, 369, 371, 372, 373, 375, 376, 378, 379, 380, 382, 383, 385, 386, 387, 390, 391, 392, 395, 396, 397, 399, 400, 402, 403, 404, 406, 407, 409, 410, 411, 414, 415] (fun _ => by kernel_rfl))
  case hw => w_witness2
  w_strict k_go0
  refine Mine.law_body (by k_asm) (by k_asm) (by k_asm) (by k_asm) ?d1 ?d2 ⟨_, by with_unfolding_all exact rfl, rfl⟩ ?hE (by assumption) (by assumption) ?hlen (by k_asm) ?hcd ?m1 ?ret
  case d1 => decide
  case d2 => decide
  case hE => passes_own
  case hlen => omega
  case hcd => assumption
  case m1 => rfl
  case ret =>
    intro h' tk' m' F'
    wrow_close
theorem PySem.Challenge.cw_pq0941_01_holds : PySem.Challenge.rw_pq0941_01.Holds := by
  exact Mine.hd
