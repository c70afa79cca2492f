import PyProof.Rows.All
import Wide.All
import OpenK.AllK
import Wide.FinOn
import PySem.Challenge.RW_nt0422_01
open PySem PySem.W PyProof.Rows PySem.Calls
set_option Elab.async false
set_option maxRecDepth 100000
namespace Mine

section PartHd
/-- the text's statement at a place -/
noncomputable def nth : List Stmt → Nat → Stmt
  | [], _ => .Pass default
  | x :: _, 0 => x
  | _ :: r, n + 1 => nth r n
abbrev pw : Program := PySem.Challenge.pw_nt0422_01
noncomputable def st (i : Nat) : Stmt := nth pw.main.body i
noncomputable def inCls (s : Stmt) (j : Nat) : Stmt := match s with
  | .ClassDef _ _ _ body .. => nth body j
  | _ => .Pass default
/-- the function that a def statement makes -/
noncomputable def fdata (s : Stmt) (qual : Str) (pm cd : Value) : FuncData := match s with
  | .FunctionDef name args body _ _ _ scope .. => { name := name, qualname := qual, params := args, body := .stmts body, scope := scope, globals := 3, closure := [], defaults := .none, kwdefaults := .none, pyModule := pm, code := cd }
  | _ => default
/-- the heap behind the text's top: what the law can come to -/
noncomputable def heapK : Params → Frag := fun P =>
  (nat_lit 2, { cls := Value.none, data := Data.dict #[{ hash := PyData.keyHash P (Str.ofString "type.__subclasses__.Exception.0"), key := Value.str (Str.ofString "type.__subclasses__.Exception.0") 214, val := Value.int 31 0 }, { hash := PyData.keyHash P (Str.ofString "type.__subclasses__.Exception.n"), key := Value.str (Str.ofString "type.__subclasses__.Exception.n") 215, val := Value.int 1 0 }] 2 }) ::
  (nat_lit 3, { cls := Value.type "dict", data := Data.dict #[{ hash := PyData.keyHash P (Str.ofString "__name__"), key := Value.str (Str.ofString "__name__") 165, val := Value.str (Str.ofString "law_nt0422_01") 480 }, { hash := PyData.keyHash P (Str.ofString "__doc__"), key := Value.str (Str.ofString "__doc__") 166, val := Value.none }, { hash := PyData.keyHash P (Str.ofString "__package__"), key := Value.str (Str.ofString "__package__") 167, val := Value.none }, { hash := PyData.keyHash P (Str.ofString "__loader__"), key := Value.str (Str.ofString "__loader__") 168, val := Value.builtin "__main__.__loader__#opaque" }, { hash := PyData.keyHash P (Str.ofString "__spec__"), key := Value.str (Str.ofString "__spec__") 169, val := Value.none }, { hash := PyData.keyHash P (Str.ofString "__annotations__"), key := Value.str (Str.ofString "__annotations__") 170, val := Value.ref 6 }, { hash := PyData.keyHash P (Str.ofString "__builtins__"), key := Value.str (Str.ofString "__builtins__") 171, val := Value.ref 4 }, { hash := PyData.keyHash P (Str.ofString "__file__"), key := Value.str (Str.ofString "__file__") 173, val := Value.str (Str.ofString "/claim/cut.py") 172 }, { hash := PyData.keyHash P (Str.ofString "__cached__"), key := Value.str (Str.ofString "__cached__") 174, val := Value.none }, { hash := PyData.keyHash P (Str.ofString "ChessError"), key := Value.str (Str.ofString "ChessError") 217, val := Value.ref 31 }, { hash := PyData.keyHash P (Str.ofString "STEP_FILES"), key := Value.str (Str.ofString "STEP_FILES") 231, val := Value.ref 35 }, { hash := PyData.keyHash P (Str.ofString "STEP_RANKS"), key := Value.str (Str.ofString "STEP_RANKS") 243, val := Value.ref 36 }, { hash := PyData.keyHash P (Str.ofString "Geometry"), key := Value.str (Str.ofString "Geometry") 288, val := Value.ref 53 }, { hash := PyData.keyHash P (Str.ofString "is_growing"), key := Value.str (Str.ofString "is_growing") 295, val := Value.ref 64 }, { hash := PyData.keyHash P (Str.ofString "add_masks"), key := Value.str (Str.ofString "add_masks") 306, val := Value.ref 71 }, { hash := PyData.keyHash P (Str.ofString "inner_squares"), key := Value.str (Str.ofString "inner_squares") 315, val := Value.ref 78 }, { hash := PyData.keyHash P (Str.ofString "add_rays"), key := Value.str (Str.ofString "add_rays") 329, val := Value.ref 85 }, { hash := PyData.keyHash P (Str.ofString "add_pawns"), key := Value.str (Str.ofString "add_pawns") 337, val := Value.ref 92 }, { hash := PyData.keyHash P (Str.ofString "add_knights"), key := Value.str (Str.ofString "add_knights") 354, val := Value.ref 99 }, { hash := PyData.keyHash P (Str.ofString "add_castles"), key := Value.str (Str.ofString "add_castles") 367, val := Value.ref 106 }, { hash := PyData.keyHash P (Str.ofString "make_geometry"), key := Value.str (Str.ofString "make_geometry") 378, val := Value.ref 113 }, { hash := PyData.keyHash P (Str.ofString "PAWN"), key := Value.str (Str.ofString "PAWN") 380, val := Value.int 1 379 }, { hash := PyData.keyHash P (Str.ofString "KNIGHT"), key := Value.str (Str.ofString "KNIGHT") 382, val := Value.int 2 381 }, { hash := PyData.keyHash P (Str.ofString "BISHOP"), key := Value.str (Str.ofString "BISHOP") 384, val := Value.int 3 383 }, { hash := PyData.keyHash P (Str.ofString "ROOK"), key := Value.str (Str.ofString "ROOK") 386, val := Value.int 4 385 }, { hash := PyData.keyHash P (Str.ofString "QUEEN"), key := Value.str (Str.ofString "QUEEN") 388, val := Value.int 5 387 }, { hash := PyData.keyHash P (Str.ofString "KING"), key := Value.str (Str.ofString "KING") 390, val := Value.int 6 389 }, { hash := PyData.keyHash P (Str.ofString "ray_attacks"), key := Value.str (Str.ofString "ray_attacks") 405, val := Value.ref 120 }, { hash := PyData.keyHash P (Str.ofString "rook_attacks"), key := Value.str (Str.ofString "rook_attacks") 416, val := Value.ref 127 }, { hash := PyData.keyHash P (Str.ofString "bishop_attacks"), key := Value.str (Str.ofString "bishop_attacks") 427, val := Value.ref 134 }, { hash := PyData.keyHash P (Str.ofString "queen_attacks"), key := Value.str (Str.ofString "queen_attacks") 436, val := Value.ref 141 }, { hash := PyData.keyHash P (Str.ofString "slider_attacks"), key := Value.str (Str.ofString "slider_attacks") 446, val := Value.ref 148 }, { hash := PyData.keyHash P (Str.ofString "piece_attacks"), key := Value.str (Str.ofString "piece_attacks") 457, val := Value.ref 155 }, { hash := PyData.keyHash P (Str.ofString "xray_rook"), key := Value.str (Str.ofString "xray_rook") 468, val := Value.ref 162 }, { hash := PyData.keyHash P (Str.ofString "xray_bishop"), key := Value.str (Str.ofString "xray_bishop") 479, val := Value.ref 169 }, { hash := PyData.keyHash P (Str.ofString "_law_ways"), key := Value.str (Str.ofString "_law_ways") 504, val := Value.ref 178 }, { hash := PyData.keyHash P (Str.ofString "_law_leaps"), key := Value.str (Str.ofString "_law_leaps") 529, val := Value.ref 187 }, { hash := PyData.keyHash P (Str.ofString "_law_take"), key := Value.str (Str.ofString "_law_take") 538, val := Value.ref 194 }, { hash := PyData.keyHash P (Str.ofString "_law_rows"), key := Value.str (Str.ofString "_law_rows") 544, val := Value.ref 199 }, { hash := PyData.keyHash P (Str.ofString "_law_board"), key := Value.str (Str.ofString "_law_board") 555, val := Value.ref 206 }, { hash := PyData.keyHash P (Str.ofString "_law_men"), key := Value.str (Str.ofString "_law_men") 565, val := Value.ref 213 }, { hash := PyData.keyHash P (Str.ofString "_law_met"), key := Value.str (Str.ofString "_law_met") 582, val := Value.ref 220 }, { hash := PyData.keyHash P (Str.ofString "_law_anew"), key := Value.str (Str.ofString "_law_anew") 588, val := Value.ref 225 }, { hash := PyData.keyHash P (Str.ofString "_law_kinds"), key := Value.str (Str.ofString "_law_kinds") 604, val := Value.ref 232 }, { hash := PyData.keyHash P (Str.ofString "law"), key := Value.str (Str.ofString "law") 624, val := Value.ref 239 }] 45 }) ::
  (nat_lit 15, { cls := Value.type "tuple", data := Data.seq #[Value.type "Exception"] }) ::
  (nat_lit 22, { cls := Value.type "tuple", data := Data.seq #[] }) ::
  (nat_lit 24, { cls := Value.type "tuple", data := Data.seq #[Value.str (Str.ofString "self") 204, Value.str (Str.ofString "text") 205] }) ::
  (nat_lit 25, { cls := Value.type "tuple", data := Data.seq #[] }) ::
  (nat_lit 27, { cls := Value.type "code", data := Data.fields #[Value.str (Str.ofString "__init__") 201, Value.str (Str.ofString "ChessError.__init__") 202, Value.str (Str.ofString "/claim/cut.py") 203, Value.int 4 0, Value.int 2 0, Value.int 0 0, Value.int 0 0, Value.int 3 0, Value.ref 22, Value.bool true, Value.int 181 0, Value.ref 23, Value.none, Value.ref 24, Value.ref 25, Value.ref 26, Value.int 206 0, Value.int 4 0, Value.str (Str.ofString "/claim/cut.py") 207] }) ::
  (nat_lit 28, { cls := Value.type "function", data := Data.func (Mine.fdata (Mine.inCls (Mine.st 1) 0) (Str.ofString "ChessError.__init__") (Value.str (Str.ofString "chess.errors") 187) (Value.ref 27)) }) ::
  (nat_lit 29, { cls := Value.type "tuple", data := Data.seq #[Value.str (Str.ofString "text") 209] }) ::
  (nat_lit 30, { cls := Value.type "dict", data := Data.dict #[{ hash := PyData.keyHash P (Str.ofString "__module__"), key := Value.str (Str.ofString "__module__") 196, val := Value.str (Str.ofString "chess.errors") 187 }, { hash := PyData.keyHash P (Str.ofString "__firstlineno__"), key := Value.str (Str.ofString "__firstlineno__") 200, val := Value.int 2 199 }, { hash := PyData.keyHash P (Str.ofString "__init__"), key := Value.str (Str.ofString "__init__") 208, val := Value.ref 28 }, { hash := PyData.keyHash P (Str.ofString "__static_attributes__"), key := Value.str (Str.ofString "__static_attributes__") 210, val := Value.ref 29 }, { hash := PyData.keyHash P (Str.ofString "__weakref__"), key := Value.str (Str.ofString "__weakref__") 212, val := Value.ref 32 }, { hash := PyData.keyHash P (Str.ofString "__doc__"), key := Value.str (Str.ofString "__doc__") 213, val := Value.none }] 3 }) ::
  (nat_lit 31, { cls := Value.type "type", data := Data.cls { name := Str.ofString "ChessError", bases := [Value.type "Exception"], mro := [Value.ref 31, Value.type "Exception", Value.type "BaseException", Value.type "object"], ns := 30, qualname := Str.ofString "ChessError" }, slots := #[some (Value.ref 15), none, some (Value.str (Str.ofString "ChessError") 189), some (Value.str (Str.ofString "ChessError") 197), some (Value.builtin "Exception.__new__"), some (Value.bool true)] }) ::
  (nat_lit 32, { cls := Value.type "getset_descriptor", data := Data.fields #[Value.str (Str.ofString "__weakref__") 211, Value.ref 31, Value.builtin "ExceptionGroup.__weakref__", Value.none] }) ::
  (nat_lit 35, { cls := Value.type "tuple", data := Data.seq #[Value.int 0 220, Value.int 1 221, Value.int 0 222, Value.int (-1) 224, Value.int 1 225, Value.int 1 226, Value.int (-1) 228, Value.int (-1) 230] }) ::
  (nat_lit 36, { cls := Value.type "tuple", data := Data.seq #[Value.int 1 232, Value.int 0 233, Value.int (-1) 235, Value.int 0 236, Value.int 1 237, Value.int (-1) 239, Value.int (-1) 241, Value.int 1 242] }) ::
  (nat_lit 44, { cls := Value.type "tuple", data := Data.seq #[] }) ::
  (nat_lit 46, { cls := Value.type "tuple", data := Data.seq #[Value.str (Str.ofString "self") 259, Value.str (Str.ofString "files") 260, Value.str (Str.ofString "ranks") 261, Value.str (Str.ofString "has_double") 262, Value.str (Str.ofString "has_castling") 263] }) ::
  (nat_lit 47, { cls := Value.type "tuple", data := Data.seq #[] }) ::
  (nat_lit 49, { cls := Value.type "code", data := Data.fields #[Value.str (Str.ofString "__init__") 256, Value.str (Str.ofString "Geometry.__init__") 257, Value.str (Str.ofString "/claim/cut.py") 258, Value.int 12 0, Value.int 5 0, Value.int 0 0, Value.int 0 0, Value.int 3 0, Value.ref 44, Value.bool true, Value.int 181 0, Value.ref 45, Value.none, Value.ref 46, Value.ref 47, Value.ref 48, Value.int 264 0, Value.int 12 0, Value.str (Str.ofString "/claim/cut.py") 265] }) ::
  (nat_lit 50, { cls := Value.type "function", data := Data.func (Mine.fdata (Mine.inCls (Mine.st 5) 0) (Str.ofString "Geometry.__init__") (Value.str (Str.ofString "chess.geometry") 218) (Value.ref 49)) }) ::
  (nat_lit 51, { cls := Value.type "tuple", data := Data.seq #[Value.str (Str.ofString "castles") 267, Value.str (Str.ofString "file_masks") 268, Value.str (Str.ofString "files") 269, Value.str (Str.ofString "full") 270, Value.str (Str.ofString "has_castling") 271, Value.str (Str.ofString "has_double") 272, Value.str (Str.ofString "king") 273, Value.str (Str.ofString "knight") 274, Value.str (Str.ofString "pawn") 275, Value.str (Str.ofString "rank_masks") 276, Value.str (Str.ofString "ranks") 277, Value.str (Str.ofString "rays") 278, Value.str (Str.ofString "rights_lost") 279, Value.str (Str.ofString "size") 280] }) ::
  (nat_lit 52, { cls := Value.type "dict", data := Data.dict #[{ hash := PyData.keyHash P (Str.ofString "__module__"), key := Value.str (Str.ofString "__module__") 251, val := Value.str (Str.ofString "chess.geometry") 218 }, { hash := PyData.keyHash P (Str.ofString "__firstlineno__"), key := Value.str (Str.ofString "__firstlineno__") 255, val := Value.int 10 254 }, { hash := PyData.keyHash P (Str.ofString "__init__"), key := Value.str (Str.ofString "__init__") 266, val := Value.ref 50 }, { hash := PyData.keyHash P (Str.ofString "__static_attributes__"), key := Value.str (Str.ofString "__static_attributes__") 281, val := Value.ref 51 }, { hash := PyData.keyHash P (Str.ofString "__dict__"), key := Value.str (Str.ofString "__dict__") 283, val := Value.ref 54 }, { hash := PyData.keyHash P (Str.ofString "__weakref__"), key := Value.str (Str.ofString "__weakref__") 285, val := Value.ref 55 }, { hash := PyData.keyHash P (Str.ofString "__doc__"), key := Value.str (Str.ofString "__doc__") 286, val := Value.none }] 4 }) ::
  (nat_lit 53, { cls := Value.type "type", data := Data.cls { name := Str.ofString "Geometry", bases := [Value.type "object"], mro := [Value.ref 53, Value.type "object"], ns := 52, qualname := Str.ofString "Geometry" }, slots := #[none, none, some (Value.str (Str.ofString "Geometry") 244), some (Value.str (Str.ofString "Geometry") 252), some (Value.builtin "object.__new__"), some (Value.bool true)] }) ::
  (nat_lit 54, { cls := Value.type "getset_descriptor", data := Data.fields #[Value.str (Str.ofString "__dict__") 282, Value.ref 53, Value.builtin "function.__dict__", Value.builtin "function.__dict__#set"] }) ::
  (nat_lit 55, { cls := Value.type "getset_descriptor", data := Data.fields #[Value.str (Str.ofString "__weakref__") 284, Value.ref 53, Value.builtin "ExceptionGroup.__weakref__", Value.none] }) ::
  (nat_lit 58, { cls := Value.type "tuple", data := Data.seq #[] }) ::
  (nat_lit 60, { cls := Value.type "tuple", data := Data.seq #[Value.str (Str.ofString "d") 292] }) ::
  (nat_lit 61, { cls := Value.type "tuple", data := Data.seq #[] }) ::
  (nat_lit 63, { cls := Value.type "code", data := Data.fields #[Value.str (Str.ofString "is_growing") 289, Value.str (Str.ofString "is_growing") 290, Value.str (Str.ofString "/claim/cut.py") 291, Value.int 27 0, Value.int 1 0, Value.int 0 0, Value.int 0 0, Value.int 3 0, Value.ref 58, Value.bool true, Value.int 181 0, Value.ref 59, Value.none, Value.ref 60, Value.ref 61, Value.ref 62, Value.int 293 0, Value.int 27 0, Value.str (Str.ofString "/claim/cut.py") 294] }) ::
  (nat_lit 64, { cls := Value.type "function", data := Data.func (Mine.fdata (Mine.st 6) (Str.ofString "is_growing") (Value.str (Str.ofString "chess.geometry") 218) (Value.ref 63)) }) ::
  (nat_lit 65, { cls := Value.type "tuple", data := Data.seq #[] }) ::
  (nat_lit 67, { cls := Value.type "tuple", data := Data.seq #[Value.str (Str.ofString "geo") 299, Value.str (Str.ofString "row") 300, Value.str (Str.ofString "column") 301, Value.str (Str.ofString "r") 302, Value.str (Str.ofString "f") 303] }) ::
  (nat_lit 68, { cls := Value.type "tuple", data := Data.seq #[] }) ::
  (nat_lit 70, { cls := Value.type "code", data := Data.fields #[Value.str (Str.ofString "add_masks") 296, Value.str (Str.ofString "add_masks") 297, Value.str (Str.ofString "/claim/cut.py") 298, Value.int 29 0, Value.int 1 0, Value.int 0 0, Value.int 0 0, Value.int 3 0, Value.ref 65, Value.bool true, Value.int 181 0, Value.ref 66, Value.none, Value.ref 67, Value.ref 68, Value.ref 69, Value.int 304 0, Value.int 29 0, Value.str (Str.ofString "/claim/cut.py") 305] }) ::
  (nat_lit 71, { cls := Value.type "function", data := Data.func (Mine.fdata (Mine.st 7) (Str.ofString "add_masks") (Value.str (Str.ofString "chess.geometry") 218) (Value.ref 70)) }) ::
  (nat_lit 72, { cls := Value.type "tuple", data := Data.seq #[] }) ::
  (nat_lit 74, { cls := Value.type "tuple", data := Data.seq #[Value.str (Str.ofString "geo") 310, Value.str (Str.ofString "d") 311, Value.str (Str.ofString "edge") 312] }) ::
  (nat_lit 75, { cls := Value.type "tuple", data := Data.seq #[] }) ::
  (nat_lit 77, { cls := Value.type "code", data := Data.fields #[Value.str (Str.ofString "inner_squares") 307, Value.str (Str.ofString "inner_squares") 308, Value.str (Str.ofString "/claim/cut.py") 309, Value.int 37 0, Value.int 2 0, Value.int 0 0, Value.int 0 0, Value.int 3 0, Value.ref 72, Value.bool true, Value.int 181 0, Value.ref 73, Value.none, Value.ref 74, Value.ref 75, Value.ref 76, Value.int 313 0, Value.int 37 0, Value.str (Str.ofString "/claim/cut.py") 314] }) ::
  (nat_lit 78, { cls := Value.type "function", data := Data.func (Mine.fdata (Mine.st 8) (Str.ofString "inner_squares") (Value.str (Str.ofString "chess.geometry") 218) (Value.ref 77)) }) ::
  (nat_lit 79, { cls := Value.type "tuple", data := Data.seq #[] }) ::
  (nat_lit 81, { cls := Value.type "tuple", data := Data.seq #[Value.str (Str.ofString "geo") 319, Value.str (Str.ofString "d") 320, Value.str (Str.ofString "inner") 321, Value.str (Str.ofString "delta") 322, Value.str (Str.ofString "ray") 323, Value.str (Str.ofString "order") 324, Value.str (Str.ofString "square") 325, Value.str (Str.ofString "goal") 326] }) ::
  (nat_lit 82, { cls := Value.type "tuple", data := Data.seq #[] }) ::
  (nat_lit 84, { cls := Value.type "code", data := Data.fields #[Value.str (Str.ofString "add_rays") 316, Value.str (Str.ofString "add_rays") 317, Value.str (Str.ofString "/claim/cut.py") 318, Value.int 48 0, Value.int 1 0, Value.int 0 0, Value.int 0 0, Value.int 3 0, Value.ref 79, Value.bool true, Value.int 181 0, Value.ref 80, Value.none, Value.ref 81, Value.ref 82, Value.ref 83, Value.int 327 0, Value.int 48 0, Value.str (Str.ofString "/claim/cut.py") 328] }) ::
  (nat_lit 85, { cls := Value.type "function", data := Data.func (Mine.fdata (Mine.st 9) (Str.ofString "add_rays") (Value.str (Str.ofString "chess.geometry") 218) (Value.ref 84)) }) ::
  (nat_lit 86, { cls := Value.type "tuple", data := Data.seq #[] }) ::
  (nat_lit 88, { cls := Value.type "tuple", data := Data.seq #[Value.str (Str.ofString "geo") 333, Value.str (Str.ofString "square") 334] }) ::
  (nat_lit 89, { cls := Value.type "tuple", data := Data.seq #[] }) ::
  (nat_lit 91, { cls := Value.type "code", data := Data.fields #[Value.str (Str.ofString "add_pawns") 330, Value.str (Str.ofString "add_pawns") 331, Value.str (Str.ofString "/claim/cut.py") 332, Value.int 63 0, Value.int 1 0, Value.int 0 0, Value.int 0 0, Value.int 3 0, Value.ref 86, Value.bool true, Value.int 181 0, Value.ref 87, Value.none, Value.ref 88, Value.ref 89, Value.ref 90, Value.int 335 0, Value.int 63 0, Value.str (Str.ofString "/claim/cut.py") 336] }) ::
  (nat_lit 92, { cls := Value.type "function", data := Data.func (Mine.fdata (Mine.st 10) (Str.ofString "add_pawns") (Value.str (Str.ofString "chess.geometry") 218) (Value.ref 91)) }) ::
  (nat_lit 93, { cls := Value.type "tuple", data := Data.seq #[] }) ::
  (nat_lit 95, { cls := Value.type "tuple", data := Data.seq #[Value.str (Str.ofString "geo") 341, Value.str (Str.ofString "files") 342, Value.str (Str.ofString "not_first") 343, Value.str (Str.ofString "not_last") 344, Value.str (Str.ofString "not_first_two") 345, Value.str (Str.ofString "not_last_two") 346, Value.str (Str.ofString "square") 347, Value.str (Str.ofString "b") 348, Value.str (Str.ofString "near") 349, Value.str (Str.ofString "far") 350, Value.str (Str.ofString "found") 351] }) ::
  (nat_lit 96, { cls := Value.type "tuple", data := Data.seq #[] }) ::
  (nat_lit 98, { cls := Value.type "code", data := Data.fields #[Value.str (Str.ofString "add_knights") 338, Value.str (Str.ofString "add_knights") 339, Value.str (Str.ofString "/claim/cut.py") 340, Value.int 67 0, Value.int 1 0, Value.int 0 0, Value.int 0 0, Value.int 3 0, Value.ref 93, Value.bool true, Value.int 181 0, Value.ref 94, Value.none, Value.ref 95, Value.ref 96, Value.ref 97, Value.int 352 0, Value.int 67 0, Value.str (Str.ofString "/claim/cut.py") 353] }) ::
  (nat_lit 99, { cls := Value.type "function", data := Data.func (Mine.fdata (Mine.st 11) (Str.ofString "add_knights") (Value.str (Str.ofString "chess.geometry") 218) (Value.ref 98)) }) ::
  (nat_lit 100, { cls := Value.type "tuple", data := Data.seq #[] }) ::
  (nat_lit 102, { cls := Value.type "tuple", data := Data.seq #[Value.str (Str.ofString "geo") 358, Value.str (Str.ofString "start") 359, Value.str (Str.ofString "index") 360, Value.str (Str.ofString "base") 361, Value.str (Str.ofString "corner") 362, Value.str (Str.ofString "way") 363, Value.str (Str.ofString "goal") 364] }) ::
  (nat_lit 103, { cls := Value.type "tuple", data := Data.seq #[] }) ::
  (nat_lit 105, { cls := Value.type "code", data := Data.fields #[Value.str (Str.ofString "add_castles") 355, Value.str (Str.ofString "add_castles") 356, Value.str (Str.ofString "/claim/cut.py") 357, Value.int 79 0, Value.int 1 0, Value.int 0 0, Value.int 0 0, Value.int 3 0, Value.ref 100, Value.bool true, Value.int 181 0, Value.ref 101, Value.none, Value.ref 102, Value.ref 103, Value.ref 104, Value.int 365 0, Value.int 79 0, Value.str (Str.ofString "/claim/cut.py") 366] }) ::
  (nat_lit 106, { cls := Value.type "function", data := Data.func (Mine.fdata (Mine.st 12) (Str.ofString "add_castles") (Value.str (Str.ofString "chess.geometry") 218) (Value.ref 105)) }) ::
  (nat_lit 107, { cls := Value.type "tuple", data := Data.seq #[] }) ::
  (nat_lit 109, { cls := Value.type "tuple", data := Data.seq #[Value.str (Str.ofString "files") 371, Value.str (Str.ofString "ranks") 372, Value.str (Str.ofString "has_double") 373, Value.str (Str.ofString "has_castling") 374, Value.str (Str.ofString "geo") 375] }) ::
  (nat_lit 110, { cls := Value.type "tuple", data := Data.seq #[] }) ::
  (nat_lit 112, { cls := Value.type "code", data := Data.fields #[Value.str (Str.ofString "make_geometry") 368, Value.str (Str.ofString "make_geometry") 369, Value.str (Str.ofString "/claim/cut.py") 370, Value.int 96 0, Value.int 4 0, Value.int 0 0, Value.int 0 0, Value.int 3 0, Value.ref 107, Value.bool true, Value.int 181 0, Value.ref 108, Value.none, Value.ref 109, Value.ref 110, Value.ref 111, Value.int 376 0, Value.int 96 0, Value.str (Str.ofString "/claim/cut.py") 377] }) ::
  (nat_lit 113, { cls := Value.type "function", data := Data.func (Mine.fdata (Mine.st 13) (Str.ofString "make_geometry") (Value.str (Str.ofString "chess.geometry") 218) (Value.ref 112)) }) ::
  (nat_lit 114, { cls := Value.type "tuple", data := Data.seq #[] }) ::
  (nat_lit 116, { cls := Value.type "tuple", data := Data.seq #[Value.str (Str.ofString "geo") 396, Value.str (Str.ofString "d") 397, Value.str (Str.ofString "square") 398, Value.str (Str.ofString "occupied") 399, Value.str (Str.ofString "ray") 400, Value.str (Str.ofString "stop") 401, Value.str (Str.ofString "behind") 402] }) ::
  (nat_lit 117, { cls := Value.type "tuple", data := Data.seq #[] }) ::
  (nat_lit 119, { cls := Value.type "code", data := Data.fields #[Value.str (Str.ofString "ray_attacks") 393, Value.str (Str.ofString "ray_attacks") 394, Value.str (Str.ofString "/claim/cut.py") 395, Value.int 113 0, Value.int 4 0, Value.int 0 0, Value.int 0 0, Value.int 3 0, Value.ref 114, Value.bool true, Value.int 181 0, Value.ref 115, Value.none, Value.ref 116, Value.ref 117, Value.ref 118, Value.int 403 0, Value.int 113 0, Value.str (Str.ofString "/claim/cut.py") 404] }) ::
  (nat_lit 120, { cls := Value.type "function", data := Data.func (Mine.fdata (Mine.st 21) (Str.ofString "ray_attacks") (Value.str (Str.ofString "chess.sliders") 391) (Value.ref 119)) }) ::
  (nat_lit 121, { cls := Value.type "tuple", data := Data.seq #[] }) ::
  (nat_lit 123, { cls := Value.type "tuple", data := Data.seq #[Value.str (Str.ofString "geo") 409, Value.str (Str.ofString "square") 410, Value.str (Str.ofString "occupied") 411, Value.str (Str.ofString "found") 412, Value.str (Str.ofString "d") 413] }) ::
  (nat_lit 124, { cls := Value.type "tuple", data := Data.seq #[] }) ::
  (nat_lit 126, { cls := Value.type "code", data := Data.fields #[Value.str (Str.ofString "rook_attacks") 406, Value.str (Str.ofString "rook_attacks") 407, Value.str (Str.ofString "/claim/cut.py") 408, Value.int 128 0, Value.int 3 0, Value.int 0 0, Value.int 0 0, Value.int 3 0, Value.ref 121, Value.bool true, Value.int 181 0, Value.ref 122, Value.none, Value.ref 123, Value.ref 124, Value.ref 125, Value.int 414 0, Value.int 128 0, Value.str (Str.ofString "/claim/cut.py") 415] }) ::
  (nat_lit 127, { cls := Value.type "function", data := Data.func (Mine.fdata (Mine.st 22) (Str.ofString "rook_attacks") (Value.str (Str.ofString "chess.sliders") 391) (Value.ref 126)) }) ::
  (nat_lit 128, { cls := Value.type "tuple", data := Data.seq #[] }) ::
  (nat_lit 130, { cls := Value.type "tuple", data := Data.seq #[Value.str (Str.ofString "geo") 420, Value.str (Str.ofString "square") 421, Value.str (Str.ofString "occupied") 422, Value.str (Str.ofString "found") 423, Value.str (Str.ofString "d") 424] }) ::
  (nat_lit 131, { cls := Value.type "tuple", data := Data.seq #[] }) ::
  (nat_lit 133, { cls := Value.type "code", data := Data.fields #[Value.str (Str.ofString "bishop_attacks") 417, Value.str (Str.ofString "bishop_attacks") 418, Value.str (Str.ofString "/claim/cut.py") 419, Value.int 133 0, Value.int 3 0, Value.int 0 0, Value.int 0 0, Value.int 3 0, Value.ref 128, Value.bool true, Value.int 181 0, Value.ref 129, Value.none, Value.ref 130, Value.ref 131, Value.ref 132, Value.int 425 0, Value.int 133 0, Value.str (Str.ofString "/claim/cut.py") 426] }) ::
  (nat_lit 134, { cls := Value.type "function", data := Data.func (Mine.fdata (Mine.st 23) (Str.ofString "bishop_attacks") (Value.str (Str.ofString "chess.sliders") 391) (Value.ref 133)) }) ::
  (nat_lit 135, { cls := Value.type "tuple", data := Data.seq #[] }) ::
  (nat_lit 137, { cls := Value.type "tuple", data := Data.seq #[Value.str (Str.ofString "geo") 431, Value.str (Str.ofString "square") 432, Value.str (Str.ofString "occupied") 433] }) ::
  (nat_lit 138, { cls := Value.type "tuple", data := Data.seq #[] }) ::
  (nat_lit 140, { cls := Value.type "code", data := Data.fields #[Value.str (Str.ofString "queen_attacks") 428, Value.str (Str.ofString "queen_attacks") 429, Value.str (Str.ofString "/claim/cut.py") 430, Value.int 138 0, Value.int 3 0, Value.int 0 0, Value.int 0 0, Value.int 3 0, Value.ref 135, Value.bool true, Value.int 181 0, Value.ref 136, Value.none, Value.ref 137, Value.ref 138, Value.ref 139, Value.int 434 0, Value.int 138 0, Value.str (Str.ofString "/claim/cut.py") 435] }) ::
  (nat_lit 141, { cls := Value.type "function", data := Data.func (Mine.fdata (Mine.st 24) (Str.ofString "queen_attacks") (Value.str (Str.ofString "chess.sliders") 391) (Value.ref 140)) }) ::
  (nat_lit 142, { cls := Value.type "tuple", data := Data.seq #[] }) ::
  (nat_lit 144, { cls := Value.type "tuple", data := Data.seq #[Value.str (Str.ofString "geo") 440, Value.str (Str.ofString "kind") 441, Value.str (Str.ofString "square") 442, Value.str (Str.ofString "occupied") 443] }) ::
  (nat_lit 145, { cls := Value.type "tuple", data := Data.seq #[] }) ::
  (nat_lit 147, { cls := Value.type "code", data := Data.fields #[Value.str (Str.ofString "slider_attacks") 437, Value.str (Str.ofString "slider_attacks") 438, Value.str (Str.ofString "/claim/cut.py") 439, Value.int 140 0, Value.int 4 0, Value.int 0 0, Value.int 0 0, Value.int 3 0, Value.ref 142, Value.bool true, Value.int 181 0, Value.ref 143, Value.none, Value.ref 144, Value.ref 145, Value.ref 146, Value.int 444 0, Value.int 140 0, Value.str (Str.ofString "/claim/cut.py") 445] }) ::
  (nat_lit 148, { cls := Value.type "function", data := Data.func (Mine.fdata (Mine.st 25) (Str.ofString "slider_attacks") (Value.str (Str.ofString "chess.sliders") 391) (Value.ref 147)) }) ::
  (nat_lit 149, { cls := Value.type "tuple", data := Data.seq #[] }) ::
  (nat_lit 151, { cls := Value.type "tuple", data := Data.seq #[Value.str (Str.ofString "geo") 450, Value.str (Str.ofString "side") 451, Value.str (Str.ofString "kind") 452, Value.str (Str.ofString "square") 453, Value.str (Str.ofString "occupied") 454] }) ::
  (nat_lit 152, { cls := Value.type "tuple", data := Data.seq #[] }) ::
  (nat_lit 154, { cls := Value.type "code", data := Data.fields #[Value.str (Str.ofString "piece_attacks") 447, Value.str (Str.ofString "piece_attacks") 448, Value.str (Str.ofString "/claim/cut.py") 449, Value.int 148 0, Value.int 5 0, Value.int 0 0, Value.int 0 0, Value.int 3 0, Value.ref 149, Value.bool true, Value.int 181 0, Value.ref 150, Value.none, Value.ref 151, Value.ref 152, Value.ref 153, Value.int 455 0, Value.int 148 0, Value.str (Str.ofString "/claim/cut.py") 456] }) ::
  (nat_lit 155, { cls := Value.type "function", data := Data.func (Mine.fdata (Mine.st 26) (Str.ofString "piece_attacks") (Value.str (Str.ofString "chess.sliders") 391) (Value.ref 154)) }) ::
  (nat_lit 156, { cls := Value.type "tuple", data := Data.seq #[] }) ::
  (nat_lit 158, { cls := Value.type "tuple", data := Data.seq #[Value.str (Str.ofString "geo") 461, Value.str (Str.ofString "square") 462, Value.str (Str.ofString "occupied") 463, Value.str (Str.ofString "own") 464, Value.str (Str.ofString "seen") 465] }) ::
  (nat_lit 159, { cls := Value.type "tuple", data := Data.seq #[] }) ::
  (nat_lit 161, { cls := Value.type "code", data := Data.fields #[Value.str (Str.ofString "xray_rook") 458, Value.str (Str.ofString "xray_rook") 459, Value.str (Str.ofString "/claim/cut.py") 460, Value.int 156 0, Value.int 4 0, Value.int 0 0, Value.int 0 0, Value.int 3 0, Value.ref 156, Value.bool true, Value.int 181 0, Value.ref 157, Value.none, Value.ref 158, Value.ref 159, Value.ref 160, Value.int 466 0, Value.int 156 0, Value.str (Str.ofString "/claim/cut.py") 467] }) ::
  (nat_lit 162, { cls := Value.type "function", data := Data.func (Mine.fdata (Mine.st 27) (Str.ofString "xray_rook") (Value.str (Str.ofString "chess.sliders") 391) (Value.ref 161)) }) ::
  (nat_lit 163, { cls := Value.type "tuple", data := Data.seq #[] }) ::
  (nat_lit 165, { cls := Value.type "tuple", data := Data.seq #[Value.str (Str.ofString "geo") 472, Value.str (Str.ofString "square") 473, Value.str (Str.ofString "occupied") 474, Value.str (Str.ofString "own") 475, Value.str (Str.ofString "seen") 476] }) ::
  (nat_lit 166, { cls := Value.type "tuple", data := Data.seq #[] }) ::
  (nat_lit 168, { cls := Value.type "code", data := Data.fields #[Value.str (Str.ofString "xray_bishop") 469, Value.str (Str.ofString "xray_bishop") 470, Value.str (Str.ofString "/claim/cut.py") 471, Value.int 159 0, Value.int 4 0, Value.int 0 0, Value.int 0 0, Value.int 3 0, Value.ref 163, Value.bool true, Value.int 181 0, Value.ref 164, Value.none, Value.ref 165, Value.ref 166, Value.ref 167, Value.int 477 0, Value.int 159 0, Value.str (Str.ofString "/claim/cut.py") 478] }) ::
  (nat_lit 169, { cls := Value.type "function", data := Data.func (Mine.fdata (Mine.st 28) (Str.ofString "xray_bishop") (Value.str (Str.ofString "chess.sliders") 391) (Value.ref 168)) }) ::
  (nat_lit 170, { cls := Value.type "tuple", data := Data.seq #[Value.int 0 482, Value.int 1 483] }) ::
  (nat_lit 171, { cls := Value.type "tuple", data := Data.seq #[Value.int 1 484, Value.int 0 485] }) ::
  (nat_lit 172, { cls := Value.type "tuple", data := Data.seq #[Value.int 0 486, Value.int (-1) 488] }) ::
  (nat_lit 173, { cls := Value.type "tuple", data := Data.seq #[Value.int (-1) 490, Value.int 0 491] }) ::
  (nat_lit 174, { cls := Value.type "tuple", data := Data.seq #[Value.int 1 492, Value.int 1 493] }) ::
  (nat_lit 175, { cls := Value.type "tuple", data := Data.seq #[Value.int 1 494, Value.int (-1) 496] }) ::
  (nat_lit 176, { cls := Value.type "tuple", data := Data.seq #[Value.int (-1) 498, Value.int (-1) 500] }) ::
  (nat_lit 177, { cls := Value.type "tuple", data := Data.seq #[Value.int (-1) 502, Value.int 1 503] }) ::
  (nat_lit 178, { cls := Value.type "list", data := Data.seq #[Value.ref 170, Value.ref 171, Value.ref 172, Value.ref 173, Value.ref 174, Value.ref 175, Value.ref 176, Value.ref 177] }) ::
  (nat_lit 179, { cls := Value.type "tuple", data := Data.seq #[Value.int 1 505, Value.int 2 506] }) ::
  (nat_lit 180, { cls := Value.type "tuple", data := Data.seq #[Value.int 2 507, Value.int 1 508] }) ::
  (nat_lit 181, { cls := Value.type "tuple", data := Data.seq #[Value.int 2 509, Value.int (-1) 511] }) ::
  (nat_lit 182, { cls := Value.type "tuple", data := Data.seq #[Value.int 1 512, Value.int (-2) 514] }) ::
  (nat_lit 183, { cls := Value.type "tuple", data := Data.seq #[Value.int (-1) 516, Value.int (-2) 518] }) ::
  (nat_lit 184, { cls := Value.type "tuple", data := Data.seq #[Value.int (-2) 520, Value.int (-1) 522] }) ::
  (nat_lit 185, { cls := Value.type "tuple", data := Data.seq #[Value.int (-2) 524, Value.int 1 525] }) ::
  (nat_lit 186, { cls := Value.type "tuple", data := Data.seq #[Value.int (-1) 527, Value.int 2 528] }) ::
  (nat_lit 187, { cls := Value.type "list", data := Data.seq #[Value.ref 179, Value.ref 180, Value.ref 181, Value.ref 182, Value.ref 183, Value.ref 184, Value.ref 185, Value.ref 186] }) ::
  (nat_lit 188, { cls := Value.type "tuple", data := Data.seq #[] }) ::
  (nat_lit 190, { cls := Value.type "tuple", data := Data.seq #[Value.str (Str.ofString "tape") 533, Value.str (Str.ofString "n") 534, Value.str (Str.ofString "at") 535] }) ::
  (nat_lit 191, { cls := Value.type "tuple", data := Data.seq #[] }) ::
  (nat_lit 193, { cls := Value.type "code", data := Data.fields #[Value.str (Str.ofString "_law_take") 530, Value.str (Str.ofString "_law_take") 531, Value.str (Str.ofString "/claim/cut.py") 532, Value.int 165 0, Value.int 2 0, Value.int 0 0, Value.int 0 0, Value.int 3 0, Value.ref 188, Value.bool true, Value.int 181 0, Value.ref 189, Value.none, Value.ref 190, Value.ref 191, Value.ref 192, Value.int 536 0, Value.int 165 0, Value.str (Str.ofString "/claim/cut.py") 537] }) ::
  (nat_lit 194, { cls := Value.type "function", data := Data.func (Mine.fdata (Mine.st 32) (Str.ofString "_law_take") (Value.str (Str.ofString "law_nt0422_01") 480) (Value.ref 193)) }) ::
  (nat_lit 195, { cls := Value.type "tuple", data := Data.seq #[] }) ::
  (nat_lit 198, { cls := Value.type "code", data := Data.fields #[Value.str (Str.ofString "_law_rows") 539, Value.str (Str.ofString "_law_rows") 540, Value.str (Str.ofString "/claim/cut.py") 541, Value.int 171 0, Value.int 3 0, Value.int 0 0, Value.int 0 0, Value.int 3 0, Value.ref 195, Value.bool true, Value.int 181 0, Value.ref 196, Value.none, Value.none, Value.none, Value.ref 197, Value.int 542 0, Value.int 171 0, Value.str (Str.ofString "/claim/cut.py") 543] }) ::
  (nat_lit 199, { cls := Value.type "function", data := Data.func (Mine.fdata (Mine.st 33) (Str.ofString "_law_rows") (Value.str (Str.ofString "law_nt0422_01") 480) (Value.ref 198)) }) ::
  (nat_lit 200, { cls := Value.type "tuple", data := Data.seq #[] }) ::
  (nat_lit 202, { cls := Value.type "tuple", data := Data.seq #[Value.str (Str.ofString "cells") 548, Value.str (Str.ofString "files") 549, Value.str (Str.ofString "b") 550, Value.str (Str.ofString "y") 551, Value.str (Str.ofString "x") 552] }) ::
  (nat_lit 203, { cls := Value.type "tuple", data := Data.seq #[] }) ::
  (nat_lit 205, { cls := Value.type "code", data := Data.fields #[Value.str (Str.ofString "_law_board") 545, Value.str (Str.ofString "_law_board") 546, Value.str (Str.ofString "/claim/cut.py") 547, Value.int 177 0, Value.int 2 0, Value.int 0 0, Value.int 0 0, Value.int 3 0, Value.ref 200, Value.bool true, Value.int 181 0, Value.ref 201, Value.none, Value.ref 202, Value.ref 203, Value.ref 204, Value.int 553 0, Value.int 177 0, Value.str (Str.ofString "/claim/cut.py") 554] }) ::
  (nat_lit 206, { cls := Value.type "function", data := Data.func (Mine.fdata (Mine.st 34) (Str.ofString "_law_board") (Value.str (Str.ofString "law_nt0422_01") 480) (Value.ref 205)) }) ::
  (nat_lit 207, { cls := Value.type "tuple", data := Data.seq #[] }) ::
  (nat_lit 209, { cls := Value.type "tuple", data := Data.seq #[Value.str (Str.ofString "men") 559, Value.str (Str.ofString "cells") 560, Value.str (Str.ofString "y") 561, Value.str (Str.ofString "x") 562] }) ::
  (nat_lit 210, { cls := Value.type "tuple", data := Data.seq #[] }) ::
  (nat_lit 212, { cls := Value.type "code", data := Data.fields #[Value.str (Str.ofString "_law_men") 556, Value.str (Str.ofString "_law_men") 557, Value.str (Str.ofString "/claim/cut.py") 558, Value.int 182 0, Value.int 1 0, Value.int 0 0, Value.int 0 0, Value.int 3 0, Value.ref 207, Value.bool true, Value.int 181 0, Value.ref 208, Value.none, Value.ref 209, Value.ref 210, Value.ref 211, Value.int 563 0, Value.int 182 0, Value.str (Str.ofString "/claim/cut.py") 564] }) ::
  (nat_lit 213, { cls := Value.type "function", data := Data.func (Mine.fdata (Mine.st 35) (Str.ofString "_law_men") (Value.str (Str.ofString "law_nt0422_01") 480) (Value.ref 212)) }) ::
  (nat_lit 214, { cls := Value.type "tuple", data := Data.seq #[] }) ::
  (nat_lit 216, { cls := Value.type "tuple", data := Data.seq #[Value.str (Str.ofString "men") 569, Value.str (Str.ofString "square") 570, Value.str (Str.ofString "ways") 571, Value.str (Str.ofString "reach") 572, Value.str (Str.ofString "files") 573, Value.str (Str.ofString "met") 574, Value.str (Str.ofString "dx") 575, Value.str (Str.ofString "dy") 576, Value.str (Str.ofString "x") 577, Value.str (Str.ofString "y") 578, Value.str (Str.ofString "left") 579] }) ::
  (nat_lit 217, { cls := Value.type "tuple", data := Data.seq #[] }) ::
  (nat_lit 219, { cls := Value.type "code", data := Data.fields #[Value.str (Str.ofString "_law_met") 566, Value.str (Str.ofString "_law_met") 567, Value.str (Str.ofString "/claim/cut.py") 568, Value.int 189 0, Value.int 4 0, Value.int 0 0, Value.int 0 0, Value.int 3 0, Value.ref 214, Value.bool true, Value.int 181 0, Value.ref 215, Value.none, Value.ref 216, Value.ref 217, Value.ref 218, Value.int 580 0, Value.int 189 0, Value.str (Str.ofString "/claim/cut.py") 581] }) ::
  (nat_lit 220, { cls := Value.type "function", data := Data.func (Mine.fdata (Mine.st 36) (Str.ofString "_law_met") (Value.str (Str.ofString "law_nt0422_01") 480) (Value.ref 219)) }) ::
  (nat_lit 221, { cls := Value.type "tuple", data := Data.seq #[] }) ::
  (nat_lit 224, { cls := Value.type "code", data := Data.fields #[Value.str (Str.ofString "_law_anew") 583, Value.str (Str.ofString "_law_anew") 584, Value.str (Str.ofString "/claim/cut.py") 585, Value.int 204 0, Value.int 4 0, Value.int 0 0, Value.int 0 0, Value.int 3 0, Value.ref 221, Value.bool true, Value.int 181 0, Value.ref 222, Value.none, Value.none, Value.none, Value.ref 223, Value.int 586 0, Value.int 204 0, Value.str (Str.ofString "/claim/cut.py") 587] }) ::
  (nat_lit 225, { cls := Value.type "function", data := Data.func (Mine.fdata (Mine.st 37) (Str.ofString "_law_anew") (Value.str (Str.ofString "law_nt0422_01") 480) (Value.ref 224)) }) ::
  (nat_lit 226, { cls := Value.type "tuple", data := Data.seq #[] }) ::
  (nat_lit 228, { cls := Value.type "tuple", data := Data.seq #[Value.str (Str.ofString "geo") 592, Value.str (Str.ofString "men") 593, Value.str (Str.ofString "side") 594, Value.str (Str.ofString "square") 595, Value.str (Str.ofString "taken") 596, Value.str (Str.ofString "files") 597, Value.str (Str.ofString "pawns") 598, Value.str (Str.ofString "i") 599, Value.str (Str.ofString "want") 600, Value.str (Str.ofString "kind") 601] }) ::
  (nat_lit 229, { cls := Value.type "tuple", data := Data.seq #[] }) ::
  (nat_lit 231, { cls := Value.type "code", data := Data.fields #[Value.str (Str.ofString "_law_kinds") 589, Value.str (Str.ofString "_law_kinds") 590, Value.str (Str.ofString "/claim/cut.py") 591, Value.int 211 0, Value.int 5 0, Value.int 0 0, Value.int 0 0, Value.int 3 0, Value.ref 226, Value.bool true, Value.int 181 0, Value.ref 227, Value.none, Value.ref 228, Value.ref 229, Value.ref 230, Value.int 602 0, Value.int 211 0, Value.str (Str.ofString "/claim/cut.py") 603] }) ::
  (nat_lit 232, { cls := Value.type "function", data := Data.func (Mine.fdata (Mine.st 38) (Str.ofString "_law_kinds") (Value.str (Str.ofString "law_nt0422_01") 480) (Value.ref 231)) }) ::
  (nat_lit 233, { cls := Value.type "tuple", data := Data.seq #[] }) ::
  (nat_lit 235, { cls := Value.type "tuple", data := Data.seq #[Value.str (Str.ofString "script") 608, Value.str (Str.ofString "tape") 609, Value.str (Str.ofString "files") 610, Value.str (Str.ofString "ranks") 611, Value.str (Str.ofString "men") 612, Value.str (Str.ofString "lifted") 613, Value.str (Str.ofString "side") 614, Value.str (Str.ofString "geo") 615, Value.str (Str.ofString "taken") 616, Value.str (Str.ofString "own") 617, Value.str (Str.ofString "_") 618, Value.str (Str.ofString "square") 619, Value.str (Str.ofString "d") 620, Value.str (Str.ofString "met") 621] }) ::
  (nat_lit 236, { cls := Value.type "tuple", data := Data.seq #[] }) ::
  (nat_lit 238, { cls := Value.type "code", data := Data.fields #[Value.str (Str.ofString "law") 605, Value.str (Str.ofString "law") 606, Value.str (Str.ofString "/claim/cut.py") 607, Value.int 226 0, Value.int 1 0, Value.int 0 0, Value.int 0 0, Value.int 3 0, Value.ref 233, Value.bool true, Value.int 181 0, Value.ref 234, Value.none, Value.ref 235, Value.ref 236, Value.ref 237, Value.int 622 0, Value.int 226 0, Value.str (Str.ofString "/claim/cut.py") 623] }) ::
  (nat_lit 239, { cls := Value.type "function", data := Data.func (Mine.fdata (Mine.st 39) (Str.ofString "law") (Value.str (Str.ofString "law_nt0422_01") 480) (Value.ref 238)) }) :: []
noncomputable def viewK : Program := { pw with main := { pw.main with body := [st 1, st 3, st 4, st 5, st 6, st 7, st 8, st 9, st 10, st 11, st 12, st 13, st 14, st 15, st 16, st 17, st 18, st 19, st 21, st 22, st 23, st 24, st 25, st 26, st 27, st 28, st 30, st 31, st 32, st 33, st 34, st 35, st 36, st 37, st 38, st 39] } }
abbrev looseK : List Str := [Str.ofString "_law_ways", Str.ofString "_law_leaps"]
abbrev addrsK : List Addr := [nat_lit 2, nat_lit 3, nat_lit 15, nat_lit 22, nat_lit 24, nat_lit 25, nat_lit 27, nat_lit 28, nat_lit 29, nat_lit 30, nat_lit 31, nat_lit 32, nat_lit 35, nat_lit 36, nat_lit 44, nat_lit 46, nat_lit 47, nat_lit 49, nat_lit 50, nat_lit 51, nat_lit 52, nat_lit 53, nat_lit 54, nat_lit 55, nat_lit 58, nat_lit 60, nat_lit 61, nat_lit 63, nat_lit 64, nat_lit 65, nat_lit 67, nat_lit 68, nat_lit 70, nat_lit 71, nat_lit 72, nat_lit 74, nat_lit 75, nat_lit 77, nat_lit 78, nat_lit 79, nat_lit 81, nat_lit 82, nat_lit 84, nat_lit 85, nat_lit 86, nat_lit 88, nat_lit 89, nat_lit 91, nat_lit 92, nat_lit 93, nat_lit 95, nat_lit 96, nat_lit 98, nat_lit 99, nat_lit 100, nat_lit 102, nat_lit 103, nat_lit 105, nat_lit 106, nat_lit 107, nat_lit 109, nat_lit 110, nat_lit 112, nat_lit 113, nat_lit 114, nat_lit 116, nat_lit 117, nat_lit 119, nat_lit 120, nat_lit 121, nat_lit 123, nat_lit 124, nat_lit 126, nat_lit 127, nat_lit 128, nat_lit 130, nat_lit 131, nat_lit 133, nat_lit 134, nat_lit 135, nat_lit 137, nat_lit 138, nat_lit 140, nat_lit 141, nat_lit 142, nat_lit 144, nat_lit 145, nat_lit 147, nat_lit 148, nat_lit 149, nat_lit 151, nat_lit 152, nat_lit 154, nat_lit 155, nat_lit 156, nat_lit 158, nat_lit 159, nat_lit 161, nat_lit 162, nat_lit 163, nat_lit 165, nat_lit 166, nat_lit 168, nat_lit 169, nat_lit 170, nat_lit 171, nat_lit 172, nat_lit 173, nat_lit 174, nat_lit 175, nat_lit 176, nat_lit 177, nat_lit 178, nat_lit 179, nat_lit 180, nat_lit 181, nat_lit 182, nat_lit 183, nat_lit 184, nat_lit 185, nat_lit 186, nat_lit 187, nat_lit 188, nat_lit 190, nat_lit 191, nat_lit 193, nat_lit 194, nat_lit 195, nat_lit 198, nat_lit 199, nat_lit 200, nat_lit 202, nat_lit 203, nat_lit 205, nat_lit 206, nat_lit 207, nat_lit 209, nat_lit 210, nat_lit 212, nat_lit 213, nat_lit 214, nat_lit 216, nat_lit 217, nat_lit 219, nat_lit 220, nat_lit 221, nat_lit 224, nat_lit 225, nat_lit 226, nat_lit 228, nat_lit 229, nat_lit 231, nat_lit 232, nat_lit 233, nat_lit 235, nat_lit 236, nat_lit 238, nat_lit 239]
noncomputable abbrev hookK : Hook := kHook heapK addrsK (fun _ => by kernel_rfl)
/-- the other objects behind the top -/
noncomputable def restK : Params → Frag := fun P =>
  (nat_lit 0, PySem.W.boot_o_0 P) ::
  (nat_lit 1, PySem.W.boot_o_1 P) ::
  (nat_lit 4, PySem.W.boot_o_4 P) ::
  (nat_lit 5, PySem.W.boot_o_5 P) ::
  (nat_lit 6, PySem.W.boot_o_6 P) ::
  (nat_lit 7, PySem.W.boot_o_7 P) ::
  (nat_lit 8, PySem.W.boot_o_8 P) ::
  (nat_lit 9, PySem.W.boot_o_9 P) ::
  (nat_lit 10, PySem.W.boot_o_10 P) ::
  (nat_lit 11, { cls := Value.type "tuple", data := Data.seq #[] }) ::
  (nat_lit 12, { cls := Value.none, data := Data.fields #[Value.int 2 0, Value.int 0 0, Value.ref 20, Value.int 10 0, Value.int 0 0, Value.ref 42, Value.int 27 0, Value.int 0 0, Value.ref 63, Value.int 29 0, Value.int 0 0, Value.ref 70, Value.int 37 0, Value.int 0 0, Value.ref 77, Value.int 48 0, Value.int 0 0, Value.ref 84, Value.int 63 0, Value.int 0 0, Value.ref 91, Value.int 67 0, Value.int 0 0, Value.ref 98, Value.int 79 0, Value.int 0 0, Value.ref 105, Value.int 96 0, Value.int 0 0, Value.ref 112, Value.int 113 0, Value.int 0 0, Value.ref 119, Value.int 128 0, Value.int 0 0, Value.ref 126, Value.int 133 0, Value.int 0 0, Value.ref 133, Value.int 138 0, Value.int 0 0, Value.ref 140, Value.int 140 0, Value.int 0 0, Value.ref 147, Value.int 148 0, Value.int 0 0, Value.ref 154, Value.int 156 0, Value.int 0 0, Value.ref 161, Value.int 159 0, Value.int 0 0, Value.ref 168, Value.int 165 0, Value.int 0 0, Value.ref 193, Value.int 171 0, Value.int 0 0, Value.ref 198, Value.int 177 0, Value.int 0 0, Value.ref 205, Value.int 182 0, Value.int 0 0, Value.ref 212, Value.int 189 0, Value.int 0 0, Value.ref 219, Value.int 204 0, Value.int 0 0, Value.ref 224, Value.int 211 0, Value.int 0 0, Value.ref 231, Value.int 226 0, Value.int 0 0, Value.ref 238] }) ::
  (nat_lit 13, { cls := Value.type "code", data := Data.fields #[Value.str (Str.ofString "<module>") 182, Value.str (Str.ofString "<module>") 183, Value.str (Str.ofString "/claim/cut.py") 184, Value.int 1 0, Value.int 0 0, Value.int 0 0, Value.int 0 0, Value.int 0 0, Value.ref 11, Value.bool false, Value.int 181 0, Value.ref 12, Value.none, Value.none, Value.none, Value.none, Value.int 185 0, Value.int 1 0, Value.str (Str.ofString "/claim/cut.py") 186] }) ::
  (nat_lit 14, { cls := Value.type "frame", slots := #[some (Value.ref 13), some (Value.ref 3), some (Value.ref 3), none, some (Value.str (Str.ofString "__main__") 164), none, some (Value.ref 0)] }) ::
  (nat_lit 16, { cls := Value.type "builtin_function_or_method", data := Data.fields #[Value.builtin "type.__prepare__", Value.type "type"] }) ::
  (nat_lit 17, { cls := Value.type "dict", data := Data.dict #[{ hash := PyData.keyHash P (Str.ofString "__module__"), key := Value.str (Str.ofString "__module__") 196, val := Value.str (Str.ofString "chess.errors") 187 }, { hash := PyData.keyHash P (Str.ofString "__qualname__"), key := Value.str (Str.ofString "__qualname__") 198, val := Value.str (Str.ofString "ChessError") 197 }, { hash := PyData.keyHash P (Str.ofString "__firstlineno__"), key := Value.str (Str.ofString "__firstlineno__") 200, val := Value.int 2 199 }, { hash := PyData.keyHash P (Str.ofString "__init__"), key := Value.str (Str.ofString "__init__") 208, val := Value.ref 28 }, { hash := PyData.keyHash P (Str.ofString "__static_attributes__"), key := Value.str (Str.ofString "__static_attributes__") 210, val := Value.ref 29 }] 5 }) ::
  (nat_lit 18, { cls := Value.type "tuple", data := Data.seq #[] }) ::
  (nat_lit 19, { cls := Value.none, data := Data.fields #[Value.int 4 0, Value.int 4 0, Value.ref 27] }) ::
  (nat_lit 20, { cls := Value.type "code", data := Data.fields #[Value.str (Str.ofString "ChessError") 191, Value.str (Str.ofString "ChessError") 192, Value.str (Str.ofString "/claim/cut.py") 193, Value.int 2 0, Value.int 0 0, Value.int 0 0, Value.int 0 0, Value.int 0 0, Value.ref 18, Value.bool false, Value.int 181 0, Value.ref 19, Value.none, Value.none, Value.none, Value.none, Value.int 194 0, Value.int 2 0, Value.str (Str.ofString "/claim/cut.py") 195] }) ::
  (nat_lit 21, { cls := Value.type "frame", slots := #[some (Value.ref 20), some (Value.ref 3), some (Value.ref 17), none, some (Value.str (Str.ofString "chess.errors") 187), none, some (Value.ref 0)] }) ::
  (nat_lit 23, { cls := Value.none, data := Data.fields #[] }) ::
  (nat_lit 26, { cls := Value.none, data := Data.func { fdata (inCls (st 1) 0) (Str.ofString "ChessError.__init__") .none .none with globals := 0 } }) ::
  (nat_lit 33, { cls := Value.type "super", data := Data.fields #[Value.ref 31, Value.ref 31, Value.ref 31] }) ::
  (nat_lit 34, { cls := Value.type "builtin_function_or_method", data := Data.fields #[Value.builtin "object.__init_subclass__", Value.ref 31] }) ::
  (nat_lit 37, { cls := Value.type "tuple", data := Data.seq #[] }) ::
  (nat_lit 38, { cls := Value.type "builtin_function_or_method", data := Data.fields #[Value.builtin "type.__prepare__", Value.type "type"] }) ::
  (nat_lit 39, { cls := Value.type "dict", data := Data.dict #[{ hash := PyData.keyHash P (Str.ofString "__module__"), key := Value.str (Str.ofString "__module__") 251, val := Value.str (Str.ofString "chess.geometry") 218 }, { hash := PyData.keyHash P (Str.ofString "__qualname__"), key := Value.str (Str.ofString "__qualname__") 253, val := Value.str (Str.ofString "Geometry") 252 }, { hash := PyData.keyHash P (Str.ofString "__firstlineno__"), key := Value.str (Str.ofString "__firstlineno__") 255, val := Value.int 10 254 }, { hash := PyData.keyHash P (Str.ofString "__init__"), key := Value.str (Str.ofString "__init__") 266, val := Value.ref 50 }, { hash := PyData.keyHash P (Str.ofString "__static_attributes__"), key := Value.str (Str.ofString "__static_attributes__") 281, val := Value.ref 51 }] 5 }) ::
  (nat_lit 40, { cls := Value.type "tuple", data := Data.seq #[] }) ::
  (nat_lit 41, { cls := Value.none, data := Data.fields #[Value.int 12 0, Value.int 4 0, Value.ref 49] }) ::
  (nat_lit 42, { cls := Value.type "code", data := Data.fields #[Value.str (Str.ofString "Geometry") 246, Value.str (Str.ofString "Geometry") 247, Value.str (Str.ofString "/claim/cut.py") 248, Value.int 10 0, Value.int 0 0, Value.int 0 0, Value.int 0 0, Value.int 0 0, Value.ref 40, Value.bool false, Value.int 181 0, Value.ref 41, Value.none, Value.none, Value.none, Value.none, Value.int 249 0, Value.int 10 0, Value.str (Str.ofString "/claim/cut.py") 250] }) ::
  (nat_lit 43, { cls := Value.type "frame", slots := #[some (Value.ref 42), some (Value.ref 3), some (Value.ref 39), none, some (Value.str (Str.ofString "chess.geometry") 218), none, some (Value.ref 0)] }) ::
  (nat_lit 45, { cls := Value.none, data := Data.fields #[] }) ::
  (nat_lit 48, { cls := Value.none, data := Data.func { fdata (inCls (st 5) 0) (Str.ofString "Geometry.__init__") .none .none with globals := 0 } }) ::
  (nat_lit 56, { cls := Value.type "super", data := Data.fields #[Value.ref 53, Value.ref 53, Value.ref 53] }) ::
  (nat_lit 57, { cls := Value.type "builtin_function_or_method", data := Data.fields #[Value.builtin "object.__init_subclass__", Value.ref 53] }) ::
  (nat_lit 59, { cls := Value.none, data := Data.fields #[] }) ::
  (nat_lit 62, { cls := Value.none, data := Data.func { fdata (st 6) (Str.ofString "is_growing") .none .none with globals := 0 } }) ::
  (nat_lit 66, { cls := Value.none, data := Data.fields #[] }) ::
  (nat_lit 69, { cls := Value.none, data := Data.func { fdata (st 7) (Str.ofString "add_masks") .none .none with globals := 0 } }) ::
  (nat_lit 73, { cls := Value.none, data := Data.fields #[] }) ::
  (nat_lit 76, { cls := Value.none, data := Data.func { fdata (st 8) (Str.ofString "inner_squares") .none .none with globals := 0 } }) ::
  (nat_lit 80, { cls := Value.none, data := Data.fields #[] }) ::
  (nat_lit 83, { cls := Value.none, data := Data.func { fdata (st 9) (Str.ofString "add_rays") .none .none with globals := 0 } }) ::
  (nat_lit 87, { cls := Value.none, data := Data.fields #[] }) ::
  (nat_lit 90, { cls := Value.none, data := Data.func { fdata (st 10) (Str.ofString "add_pawns") .none .none with globals := 0 } }) ::
  (nat_lit 94, { cls := Value.none, data := Data.fields #[] }) ::
  (nat_lit 97, { cls := Value.none, data := Data.func { fdata (st 11) (Str.ofString "add_knights") .none .none with globals := 0 } }) ::
  (nat_lit 101, { cls := Value.none, data := Data.fields #[] }) ::
  (nat_lit 104, { cls := Value.none, data := Data.func { fdata (st 12) (Str.ofString "add_castles") .none .none with globals := 0 } }) ::
  (nat_lit 108, { cls := Value.none, data := Data.fields #[] }) ::
  (nat_lit 111, { cls := Value.none, data := Data.func { fdata (st 13) (Str.ofString "make_geometry") .none .none with globals := 0 } }) ::
  (nat_lit 115, { cls := Value.none, data := Data.fields #[] }) ::
  (nat_lit 118, { cls := Value.none, data := Data.func { fdata (st 21) (Str.ofString "ray_attacks") .none .none with globals := 0 } }) ::
  (nat_lit 122, { cls := Value.none, data := Data.fields #[] }) ::
  (nat_lit 125, { cls := Value.none, data := Data.func { fdata (st 22) (Str.ofString "rook_attacks") .none .none with globals := 0 } }) ::
  (nat_lit 129, { cls := Value.none, data := Data.fields #[] }) ::
  (nat_lit 132, { cls := Value.none, data := Data.func { fdata (st 23) (Str.ofString "bishop_attacks") .none .none with globals := 0 } }) ::
  (nat_lit 136, { cls := Value.none, data := Data.fields #[] }) ::
  (nat_lit 139, { cls := Value.none, data := Data.func { fdata (st 24) (Str.ofString "queen_attacks") .none .none with globals := 0 } }) ::
  (nat_lit 143, { cls := Value.none, data := Data.fields #[] }) ::
  (nat_lit 146, { cls := Value.none, data := Data.func { fdata (st 25) (Str.ofString "slider_attacks") .none .none with globals := 0 } }) ::
  (nat_lit 150, { cls := Value.none, data := Data.fields #[] }) ::
  (nat_lit 153, { cls := Value.none, data := Data.func { fdata (st 26) (Str.ofString "piece_attacks") .none .none with globals := 0 } }) ::
  (nat_lit 157, { cls := Value.none, data := Data.fields #[] }) ::
  (nat_lit 160, { cls := Value.none, data := Data.func { fdata (st 27) (Str.ofString "xray_rook") .none .none with globals := 0 } }) ::
  (nat_lit 164, { cls := Value.none, data := Data.fields #[] }) ::
  (nat_lit 167, { cls := Value.none, data := Data.func { fdata (st 28) (Str.ofString "xray_bishop") .none .none with globals := 0 } }) ::
  (nat_lit 189, { cls := Value.none, data := Data.fields #[] }) ::
  (nat_lit 192, { cls := Value.none, data := Data.func { fdata (st 32) (Str.ofString "_law_take") .none .none with globals := 0 } }) ::
  (nat_lit 196, { cls := Value.none, data := Data.fields #[] }) ::
  (nat_lit 197, { cls := Value.none, data := Data.func { fdata (st 33) (Str.ofString "_law_rows") .none .none with globals := 0 } }) ::
  (nat_lit 201, { cls := Value.none, data := Data.fields #[] }) ::
  (nat_lit 204, { cls := Value.none, data := Data.func { fdata (st 34) (Str.ofString "_law_board") .none .none with globals := 0 } }) ::
  (nat_lit 208, { cls := Value.none, data := Data.fields #[] }) ::
  (nat_lit 211, { cls := Value.none, data := Data.func { fdata (st 35) (Str.ofString "_law_men") .none .none with globals := 0 } }) ::
  (nat_lit 215, { cls := Value.none, data := Data.fields #[] }) ::
  (nat_lit 218, { cls := Value.none, data := Data.func { fdata (st 36) (Str.ofString "_law_met") .none .none with globals := 0 } }) ::
  (nat_lit 222, { cls := Value.none, data := Data.fields #[] }) ::
  (nat_lit 223, { cls := Value.none, data := Data.func { fdata (st 37) (Str.ofString "_law_anew") .none .none with globals := 0 } }) ::
  (nat_lit 227, { cls := Value.none, data := Data.fields #[] }) ::
  (nat_lit 230, { cls := Value.none, data := Data.func { fdata (st 38) (Str.ofString "_law_kinds") .none .none with globals := 0 } }) ::
  (nat_lit 234, { cls := Value.none, data := Data.fields #[] }) ::
  (nat_lit 237, { cls := Value.none, data := Data.func { fdata (st 39) (Str.ofString "law") .none .none with globals := 0 } }) :: []
/-- two lists of objects by their addresses, laid into one another -/
noncomputable def meld : Nat → Frag → Frag → List Obj
  | 0, _, _ => []
  | f + 1, x, y => match x with
    | [] => match y with
      | [] => []
      | p :: q => p.2 :: meld f [] q
    | p :: q => match y with
      | [] => p.2 :: meld f q []
      | r :: s => match Nat.blt p.1 r.1 with
        | true => p.2 :: meld f q y
        | false => r.2 :: meld f x s
/-- the objects behind the top, from address 0 on -/
noncomputable def allK (P : Params) : List Obj := meld 240 (heapK P) (restK P)
noncomputable def objK (P : Params) (i : Nat) : Obj := (allK P).getD i default
/-- the module's dict with its first j names -/
noncomputable def mainK (P : Params) (j : Nat) (x : String) (t : Tok) : Obj → Obj
  | ⟨c, d, .dict es _, sl⟩ => ⟨c, d, .dict ((⟨PyData.keyHash P "__name__", .str "__name__" 165, .str (Str.ofString x) t⟩ :: (es.toList.take j).tail).toArray) j, sl⟩
  | o => o
/-- the table of the module's code, its first j places -/
noncomputable def tabK (j : Nat) : Obj → Obj
  | ⟨c, d, .fields vs, sl⟩ => ⟨c, d, .fields (vs.toList.take j).toArray, sl⟩
  | o => o
noncomputable def heapAt (P : Params) (n j : Nat) (x : String) (t : Tok) (l : Nat) : Heap := ⟨⟨((allK P).take n).modify 3 (mainK P j x t) |>.modify 12 (tabK l)⟩, {}⟩
noncomputable def heap0 (P : Params) : Heap := ⟨⟨[boot_o_0 P, boot_o_1 P, boot_o_2 P, boot_o_3 P, boot_o_4 P, boot_o_5 P, boot_o_6 P, boot_o_7 P, boot_o_8 P, boot_o_9 P, boot_o_10 P, objK P 11, tabK 0 (objK P 12), objK P 13, objK P 14]⟩, {}⟩
noncomputable abbrev S0 (w : World) (os : OsState) : Shared := ⟨heap0 w.params, #[], {}, 187, os⟩
noncomputable abbrev S1 (w : World) (os : OsState) : Shared := ⟨heapAt w.params 37 12 "chess.geometry" 218 3, #[], {}, 244, os⟩
noncomputable abbrev S2 (w : World) (os : OsState) : Shared := ⟨heapAt w.params 93 18 "chess.geometry" 218 21, #[], {}, 338, os⟩
noncomputable abbrev S3 (w : World) (os : OsState) : Shared := ⟨heapAt w.params 163 34 "chess.sliders" 391 51, #[], {}, 469, os⟩
noncomputable abbrev S4 (w : World) (os : OsState) : Shared := ⟨heapAt w.params 226 43 "law_nt0422_01" 480 72, #[], {}, 589, os⟩
noncomputable abbrev S5 (w : World) (os : OsState) : Shared := ⟨heapAt w.params 240 45 "law_nt0422_01" 480 78, #[], {}, 625, os⟩
noncomputable def envT : Env := { scope := pw.main.scope, locals := mainNs, globals := mainNs, cells := [], code := .ref 13, frame := some 14 }
noncomputable def codeT : Code := .body (behindTheImports pw) envT
abbrev atF : List Frame := [topFrame ⟨0, 0, 0, 0⟩]
abbrev some6 : Option Value := some (.ref 6)
set_option maxHeartbeats 8000000 in
theorem run0 : ∀ w : World, (fun os => topGo treeTable pw w 11 some6 12 ⟨boot_heap w.params, #[], boot_drawn, boot_toks, os⟩ (topStub pw)) = fun os => some (S0 w os, ⟨denote treeTable codeT, codeT, ⟨0, 0, 0, 0⟩, atF⟩) := by
  intro w
  kernel_rfl
set_option maxHeartbeats 8000000 in
theorem run1 : ∀ w : World, (fun os => segRun treeTable pw w 11 some6 1 1 (S0 w os) (blockOf (behindTheImports pw) envT codeT ⟨0, 0, 0, 0⟩ atF)) = fun os => some (.next, S0 w os, codeT, ⟨0, 0, 0, 0⟩) := by
  intro w
  kernel_rfl
set_option maxHeartbeats 8000000 in
theorem fastly {w : World} {n : Nat} {S : OsState → Shared} {l : List Stmt} {p : Pos} {R : OsState → Option (Flow × Shared × Code × Pos)}
    (h : (fun os => Fast.tw14374325043358763698 Fast.tw14364793385576792824 pw w 11 some6 1 n (S os) ⟨(Fast.tw12563942051412417395 l envT).wrap doneF deadEnd id id, codeT, p, atF⟩) = R) :
    (fun os => segRun treeTable pw w 11 some6 1 n (S os) (piecesOf l envT codeT p atF)) = R := by
  rw [← Fast.te14374325043358763698, ← Fast.te14364793385576792824, ← Fast.te12563942051412417395] at h
  exact h
set_option maxHeartbeats 8000000 in
theorem piece1 : ∀ w : World, (fun os => segRun treeTable pw w 11 some6 1 313 (S0 w os) (piecesOf [st 0, st 1, st 2, st 3, st 4] envT codeT ⟨0, 0, 0, 0⟩ atF)) = fun os => some (.next, S1 w os, codeT, ⟨9, 0, 9, 10⟩) := by
  intro w
  refine fastly ?_
  kernel_rfl
set_option maxHeartbeats 8000000 in
theorem piece2 : ∀ w : World, (fun os => segRun treeTable pw w 11 some6 1 398 (S1 w os) (piecesOf [st 5, st 6, st 7, st 8, st 9, st 10] envT codeT ⟨9, 0, 9, 10⟩ atF)) = fun os => some (.next, S2 w os, codeT, ⟨63, 0, 66, 90⟩) := by
  intro w
  refine fastly ?_
  kernel_rfl
set_option maxHeartbeats 8000000 in
theorem piece3 : ∀ w : World, (fun os => segRun treeTable pw w 11 some6 1 401 (S2 w os) (piecesOf [st 11, st 12, st 13, st 14, st 15, st 16, st 17, st 18, st 19, st 20, st 21, st 22, st 23, st 24, st 25, st 26, st 27] envT codeT ⟨63, 0, 66, 90⟩ atF)) = fun os => some (.next, S3 w os, codeT, ⟨156, 0, 158, 77⟩) := by
  intro w
  refine fastly ?_
  kernel_rfl
set_option maxHeartbeats 8000000 in
theorem piece4 : ∀ w : World, (fun os => segRun treeTable pw w 11 some6 1 384 (S3 w os) (piecesOf [st 28, st 29, st 30, st 31, st 32, st 33, st 34, st 35, st 36, st 37] envT codeT ⟨156, 0, 158, 77⟩ atF)) = fun os => some (.next, S4 w os, codeT, ⟨204, 0, 210, 81⟩) := by
  intro w
  refine fastly ?_
  kernel_rfl
set_option maxHeartbeats 8000000 in
theorem piece5 : ∀ w : World, (fun os => segRun treeTable pw w 11 some6 1 81 (S4 w os) (piecesOf [st 38, st 39] envT codeT ⟨204, 0, 210, 81⟩ atF)) = fun os => some (.next, S5 w os, codeT, ⟨226, 0, 248, 15⟩) := by
  intro w
  refine fastly ?_
  kernel_rfl
set_option maxHeartbeats 8000000 in
theorem run2 : ∀ w : World, (fun os => topRun treeTable pw w 11 some6 2 (S5 w os) ⟨doneF .next, codeT, ⟨226, 0, 248, 15⟩, atF⟩) = fun os => some (S5 w os) := by
  intro w
  kernel_rfl
set_option maxHeartbeats 8000000 in
theorem runAll (w : World) (os : OsState) : topRun treeTable pw w 11 some6 (12 + (1 + (313 + (398 + (401 + (384 + (81 + 2))))))) ⟨boot_heap w.params, #[], boot_drawn, boot_toks, os⟩ (topStub pw) = some (S5 w os) := by
  refine go_top (congrFun (run0 w) os) ?_
  refine piece_block (congrFun (run1 w) os) ?_
  refine piece_app (rest := [st 5, st 6, st 7, st 8, st 9, st 10, st 11, st 12, st 13, st 14, st 15, st 16, st 17, st 18, st 19, st 20, st 21, st 22, st 23, st 24, st 25, st 26, st 27, st 28, st 29, st 30, st 31, st 32, st 33, st 34, st 35, st 36, st 37, st 38, st 39]) (congrFun (piece1 w) os) ?_
  refine piece_app (rest := [st 11, st 12, st 13, st 14, st 15, st 16, st 17, st 18, st 19, st 20, st 21, st 22, st 23, st 24, st 25, st 26, st 27, st 28, st 29, st 30, st 31, st 32, st 33, st 34, st 35, st 36, st 37, st 38, st 39]) (congrFun (piece2 w) os) ?_
  refine piece_app (rest := [st 28, st 29, st 30, st 31, st 32, st 33, st 34, st 35, st 36, st 37, st 38, st 39]) (congrFun (piece3 w) os) ?_
  refine piece_app (rest := [st 38, st 39]) (congrFun (piece4 w) os) ?_
  refine piece_app (rest := []) (congrFun (piece5 w) os) ?_
  exact congrFun (run2 w) os
set_option maxHeartbeats 8000000 in
theorem size0 (w : World) : ((boot_heap w.params).isNs mainGlobals && (#[] : Array GenState).size == 0, (boot_heap w.params).objs.size, (boot_heap w.params).nsMap mainGlobals "__annotations__") = (true, 11, some6) := by
  kernel_rfl
set_option maxHeartbeats 8000000 in
theorem open0 : ∀ w : World, (fencedOpening treeTable pw w 3270).map (fun s => (s.heap, s.gens, s.drawn, s.toks)) = some (boot_heap w.params, #[], boot_drawn, boot_toks) :=
  boot_open (by kernel_rfl) rfl (fun _ => rfl)
set_option maxHeartbeats 8000000 in
theorem looks1 : ∀ w : World, (fun os => (staticsOk (importedModules pw.main.body) (boot_heap w.params) (S5 w os).heap && namesBound pw (S5 w os).heap && gensDone (S5 w os) && laidKept (boot_heap w.params) (S5 w os).heap)) = fun _ => true := by
  intro w
  kernel_rfl
set_option maxHeartbeats 8000000 in
theorem looks2 : ∀ w : World, (fun os => Fast.tw4187177175401517315 viewK looseK (importedModules pw.main.body) (fun s => xlAt viewK [] s && recOk [] s) true (S5 w os)) = fun _ => openGood viewK looseK := by
  intro w
  kernel_rfl
set_option maxHeartbeats 8000000 in
theorem looks3 : ∀ w : World, (fun os => hookK.obs (S5 w os)) = fun _ => hookK.val w := by
  intro w
  kernel_rfl
set_option maxHeartbeats 8000000 in
theorem looks0 (w : World) : (fun os => ((staticsOk (importedModules pw.main.body) (boot_heap w.params) (S5 w os).heap && namesBound pw (S5 w os).heap && gensDone (S5 w os) && laidKept (boot_heap w.params) (S5 w os).heap),
    openSeen viewK looseK (importedModules pw.main.body) (fun s => xlAt viewK [] s && recOk [] s) true (S5 w os), hookK.obs (S5 w os))) = fun _ => (true, openGood viewK looseK, hookK.val w) := by
  funext os
  rw [Fast.te4187177175401517315]
  exact looks_pair (congrFun (looks1 w) os) (looks_pair (congrFun (looks2 w) os) (congrFun (looks3 w) os))
theorem left : LeftO pw viewK looseK (fun s => xlAt viewK [] s && recOk [] s) hookK.obs hookK.val 3270 :=
  LeftO.of_pieces (H₀ := boot_heap) (H₁ := fun P => heapAt P 240 45 "law_nt0422_01" 480 78) open0 size0 runAll rfl looks0

end PartHd

theorem fill_all : PySem.Challenge.rw_nt0422_01 = PySem.Challenge.rw_nt0422_01 ∧ heapK = heapK := by
  k_fill
  exact ⟨rfl, rfl⟩

section PartBase

abbrev std (k : Nat) : Around := { handled := none, depth := 400 + 10 * k, frames := none, guards := none, units := 200 + 50 * k }
abbrev NoE : Value → Shared → Prop := fun _ _ => False
abbrev TopL (mean : ExcName → Option Value) (mg mb : Str → Option Value) (h : Heap) : Prop :=
  Top viewK (looseW viewK [Str.ofString "_law_ways", Str.ofString "_law_leaps"]) mean mg mb h

theorem wpAny_le {α : Type} {M : Model} {A B : Around} {t : Sem α} {Q : α → Shared → Prop} {E : Value → Shared → Prop} {s : Shared}
    (hh : A.handled = B.handled) (hd : A.depth ≤ B.depth) (hu : A.units ≤ B.units) (hf : B.frames = none) (hg : B.guards = none)
    (h : wpAny M B t Q E s) : wpAny M A t Q E s := fun Γ p hΓ =>
  h Γ p ⟨hΓ.1.trans hh, Nat.le_trans hΓ.2.1 hd, fun l e => (by rw [hf] at e; cases e), fun g e => (by rw [hg] at e; cases e), Nat.le_trans hΓ.2.2.2.2 hu⟩

/-- new objects: they stand in h', they did not in h -/
def Fresh (h h' : Heap) (tl : List (Addr × Obj)) : Prop := ∀ p ∈ tl, h'.get? p.1 = some p.2 ∧ h.get? p.1 = none

/-- what a call of a def that changes no old object does -/
def Calls (w : World) (k : Nat) (f : Addr) (args : List Value) (s : Shared) (post : Value → List (Addr × Obj) → Prop) : Prop :=
  ∀ (A : Around) (Q E : Value → Shared → Prop), A.handled = none → A.depth ≤ (std k).depth → A.units ≤ (std k).units →
    (∀ v tl h' tk', s.heap.StaysIn h' → Fresh s.heap h' tl → post v tl → Q v { s with heap := h', toks := tk' }) →
    wpAny (model PySem.Challenge.rw_nt0422_01.row.prog w) A (call (.ref f) args) Q E s

def Ret (s : Shared) (Q : Value → Shared → Prop) (v : Value) (s' : Shared) : Prop :=
  ∃ h' tk' m' tl, s' = { s with heap := h', toks := tk' } ∧ Fr s.heap s.heap.objs.size h' m' ∧ News s.heap s.heap.objs.size h' tl ∧
    (s.heap.StaysIn h' → Fresh s.heap h' tl → Q v { s with heap := h', toks := tk' })
theorem ret_ {s : Shared} {Q : Value → Shared → Prop} {v : Value} {h' : Heap} {tk' : Nat} {m' : Str → Option Value} {tl : List (Addr × Obj)}
    (F : Fr s.heap s.heap.objs.size h' m') (N : News s.heap s.heap.objs.size h' tl)
    (k : s.heap.StaysIn h' → Fresh s.heap h' tl → Q v { s with heap := h', toks := tk' }) : Ret s Q v { s with heap := h', toks := tk' } :=
  ⟨h', tk', m', tl, rfl, F, N, k⟩

theorem call_def {w : World} {k : Nat} {A : Around} {s : Shared} {mean : ExcName → Option Value} {mg mb : Str → Option Value} {Q E : Value → Shared → Prop} {name qual : Str} {params : Arguments} {body : List Stmt} {scope : Scope} {dV kV doc pm cdv ct oc : Value} {an od : Option Addr} {osl : Array (Option Value)} {f : Addr} {args : List Value} {binds : List (Str × Value)}
    (X : (heapK w.params).In s.heap) (T : TopL mean mg mb s.heap)
    (hh : A.handled = none) (hdp : A.depth ≤ (std k).depth) (hu : A.units ≤ (std k).units)
    (ho : (heapK w.params).lookup f = some ⟨oc, od, .func (fnOf name qual params body scope dV kV doc pm an cdv ct), osl⟩) (hcd : codeIn (heapK w.params) cdv qual = true) (hk7 : k ≤ 50)
    (hbind : BindsTo s (fnOf name qual params body scope dV kV doc pm an cdv ct) ⟨args, []⟩ binds) (hloc : ∀ y ∈ binds, scope.names.lookup y.1 = some .local)
    (h : ∀ h₁ tk₁, Fr s.heap s.heap.objs.size h₁ (fun y => binds.reverse.lookup y) → News s.heap s.heap.objs.size h₁ [] →
      wpAny (model PySem.Challenge.rw_nt0422_01.row.prog w) (std (k + 1)) (execs body (envOf qual scope s.heap.objs.size f cdv))
        (fun fl s' => Ret s Q (match fl with | .ret v => v | _ => .none) s') NoE
        { s with heap := h₁, toks := tk₁ })
    (hco : scope.isCoroutine = false) (hgen : scope.isGenerator = false) (hk : scope.kind = .function)
    (hcell : ∀ x ∈ scope.names, x.2 ≠ .cell) : wpAny (model PySem.Challenge.rw_nt0422_01.row.prog w) A (call (.ref f) args) Q E s := by
  refine wpAny_call ?_
  refine codeAny_call_def (fd := fnOf name qual params body scope dV kV doc pm an cdv ct) (body := body) (binds := binds) ?_ (X _ _ ho) rfl T.nolimit (codeRec_of X hcd) rfl hbind hcell hloc (fun h₁ hns hk₁ => ?_) hco hgen hk
  · have : (std k).depth < recursionLimit := by show 400 + 10 * k < 1000; omega
    omega
  · refine wpAny_le (B := std (k + 1)) hh ?_ ?_ rfl rfl ?_
    · show A.depth + 1 ≤ 400 + 10 * (k + 1)
      have : A.depth ≤ 400 + 10 * k := hdp
      omega
    · show A.units + 3 ≤ 200 + 50 * (k + 1)
      have : A.units ≤ 200 + 50 * k := hu
      omega
    · refine wpAny_mono (h h₁ _ ⟨hns, hk₁, Nat.le_refl _⟩ News.nil) (fun fl s' hl => ?_) (fun _ _ z => z.elim)
      obtain ⟨h', tk', m', tl, rfl, F', N', q⟩ := hl
      exact q F'.keep fun p hp => ⟨(N' p hp).1, (N' p hp).2.2⟩


/-! ## data on the heap, by a look-up -/
abbrev Look := Addr → Obj → Prop
def Hv (h : Heap) : Look := fun a o => h.get? a = some o
def InL (news : List (Addr × Obj)) : Look := fun a o => (a, o) ∈ news
abbrev lobj (vs : List Value) (n : Nat) : Obj := listOf vs.toArray n
abbrev tupObj (vs : List Value) (n : Nat) : Obj := { cls := .type "tuple", data := .seq vs.toArray n }
def IntsF (Lk : Look) (a : Addr) (S : Nat) (f : Nat → Int) : Prop := ∃ vs n, Lk a (lobj vs n) ∧ vs.length = S ∧ ∀ i, i < S → ∃ t, vs[i]? = some (.int (f i) t)
def BoolsF (Lk : Look) (a : Addr) (S : Nat) (f : Nat → Bool) : Prop := ∃ vs n, Lk a (lobj vs n) ∧ vs.length = S ∧ ∀ i, i < S → vs[i]? = some (.bool (f i))
def RefsF (Lk : Look) (a : Addr) (S : Nat) (Rel : Nat → Addr → Prop) : Prop := ∃ vs n, Lk a (lobj vs n) ∧ vs.length = S ∧ ∀ i, i < S → ∃ b, vs[i]? = some (.ref b) ∧ Rel i b
abbrev RowsF (Lk : Look) (a : Addr) (R F : Nat) (f : Nat → Nat → Bool) : Prop := RefsF Lk a R fun y b => BoolsF Lk b F (f y)
abbrev TabF (Lk : Look) (a : Addr) (D S : Nat) (f : Nat → Nat → Int) : Prop := RefsF Lk a D fun d b => IntsF Lk b S (f d)
def PairP (Lk : Look) (b : Addr) (c : Int × Int) : Prop := ∃ t u n, Lk b (tupObj [.int c.1 t, .int c.2 u] n)
/-- a list of pairs -/
def CellsP (Lk : Look) (a : Addr) (cs : List (Int × Int)) : Prop := RefsF Lk a cs.length fun i b => ∃ c, cs[i]? = some c ∧ PairP Lk b c

section
variable {Lk Lk' : Look} (up : ∀ a o, Lk a o → Lk' a o)
include up
theorem IntsF.mono {a S f} (h : IntsF Lk a S f) : IntsF Lk' a S f := let ⟨vs, n, h1, h2⟩ := h; ⟨vs, n, up _ _ h1, h2⟩
theorem BoolsF.mono {a S f} (h : BoolsF Lk a S f) : BoolsF Lk' a S f := let ⟨vs, n, h1, h2⟩ := h; ⟨vs, n, up _ _ h1, h2⟩
theorem RefsF.mono {a S} {Rel Rel' : Nat → Addr → Prop} (hr : ∀ i b, Rel i b → Rel' i b) (h : RefsF Lk a S Rel) : RefsF Lk' a S Rel' :=
  let ⟨vs, n, h1, h2, h3⟩ := h; ⟨vs, n, up _ _ h1, h2, fun i hi => let ⟨b, e, r⟩ := h3 i hi; ⟨b, e, hr _ _ r⟩⟩
theorem RowsF.mono {a R F f} (h : RowsF Lk a R F f) : RowsF Lk' a R F f := RefsF.mono up (fun _ _ h => BoolsF.mono up h) h
theorem TabF.mono {a R F f} (h : TabF Lk a R F f) : TabF Lk' a R F f := RefsF.mono up (fun _ _ h => IntsF.mono up h) h
theorem PairP.mono {b c} (h : PairP Lk b c) : PairP Lk' b c := let ⟨t, u, n, h1⟩ := h; ⟨t, u, n, up _ _ h1⟩
theorem CellsP.mono {a cs} (h : CellsP Lk a cs) : CellsP Lk' a cs := RefsF.mono up (fun _ _ ⟨c, e, h⟩ => ⟨c, e, PairP.mono up h⟩) h
end

section
variable {w : World} {A : Around} {E : Value → Shared → Prop} {s : Shared} {Lk : Look} {a : Addr} {S : Nat} {k : Int} {u : Tok} {value slice : Expr} {Q : Value → Shared → Prop} {prog : Program}
theorem isList_of {vs : List Value} {n : Nat} (h : s.heap.get? a = some (lobj vs n)) : s.heap.IsList a vs.toArray := ⟨_, h, rfl, n, rfl⟩
theorem sub_list {vs : List Value} {n : Nat} {v : Value} (h : s.heap.get? a = some (lobj vs n)) (h0 : 0 ≤ k) (hh : k < 2 ^ 63) (hv : vs[k.toNat]? = some v) (hq : Q v s)
    (hs : subscripted slice false (.ref a) (.int k u) = operate [.ref a, .int k u] (getItem (.ref a) (.int k u))) :
    wpAny (model prog w) A (subscriptTail value slice (.ref a) (.int k u)) Q E s :=
  have hl := isList_of h
  tail_any hl.typeIs slot_list_getitem.lookup (wpAny_getItem_list hl h0 hh (by simpa using hv) hq) hs
theorem sub_ints {f : Nat → Int} (H : IntsF Lk a S f) (up : ∀ a o, Lk a o → s.heap.get? a = some o) (h0 : 0 ≤ k) (h1 : k < (S : Int)) (hS : S ≤ 1000) (hq : ∀ t, Q (.int (f k.toNat) t) s)
    (hs : subscripted slice false (.ref a) (.int k u) = operate [.ref a, .int k u] (getItem (.ref a) (.int k u))) :
    wpAny (model prog w) A (subscriptTail value slice (.ref a) (.int k u)) Q E s := by
  obtain ⟨vs, n, h, hl, hv⟩ := H
  obtain ⟨t, e⟩ := hv k.toNat (by omega)
  exact sub_list (up _ _ h) h0 (by omega) e (hq t) hs
theorem sub_bools {f : Nat → Bool} (H : BoolsF Lk a S f) (up : ∀ a o, Lk a o → s.heap.get? a = some o) (h0 : 0 ≤ k) (h1 : k < (S : Int)) (hS : S ≤ 1000) (hq : Q (.bool (f k.toNat)) s)
    (hs : subscripted slice false (.ref a) (.int k u) = operate [.ref a, .int k u] (getItem (.ref a) (.int k u))) :
    wpAny (model prog w) A (subscriptTail value slice (.ref a) (.int k u)) Q E s := by
  obtain ⟨vs, n, h, hl, hv⟩ := H
  exact sub_list (up _ _ h) h0 (by omega) (hv k.toNat (by omega)) hq hs
theorem sub_refs {Rel : Nat → Addr → Prop} (H : RefsF Lk a S Rel) (up : ∀ a o, Lk a o → s.heap.get? a = some o) (h0 : 0 ≤ k) (h1 : k < (S : Int)) (hS : S ≤ 1000) (hq : ∀ b, Rel k.toNat b → Q (.ref b) s)
    (hs : subscripted slice false (.ref a) (.int k u) = operate [.ref a, .int k u] (getItem (.ref a) (.int k u))) :
    wpAny (model prog w) A (subscriptTail value slice (.ref a) (.int k u)) Q E s := by
  obtain ⟨vs, n, h, hl, hv⟩ := H
  obtain ⟨b, e, r⟩ := hv k.toNat (by omega)
  exact sub_list (up _ _ h) h0 (by omega) e (hq b r) hs
end

/-- a call whose answer is no object: the frame and the ledger go on -/
theorem use0 {w : World} {k : Nat} {A : Around} {f : Addr} {args : List Value} {s : Shared} {post : Value → List (Addr × Obj) → Prop} {Q E : Value → Shared → Prop} {h₀ : Heap} {L : Addr} {m : Str → Option Value} {news : List (Addr × Obj)}
    (C : Calls w k f args s post) (F : Fr h₀ L s.heap m) (N : News h₀ L s.heap news) (hh : A.handled = none) (hd : A.depth ≤ (std k).depth) (hu : A.units ≤ (std k).units)
    (h : ∀ v tl h' tk', Fr h₀ L h' m → News h₀ L h' news → post v tl → Q v { s with heap := h', toks := tk' }) :
    wpAny (model PySem.Challenge.rw_nt0422_01.row.prog w) A (call (.ref f) args) Q E s :=
  C A Q E hh hd hu fun v tl h' tk' st _ hp => h v tl h' tk' ⟨F.ns.at' fun o e => st _ o e, fun b o e => st b o (F.keep b o e), F.above⟩ (fun p hp => ⟨st _ _ (N p hp).1, (N p hp).2⟩) hp

/-- a call that hands back new objects: they stand ahead of the ledger -/
theorem use1 {w : World} {k : Nat} {A : Around} {f : Addr} {args : List Value} {s : Shared} {post : Value → List (Addr × Obj) → Prop} {Q E : Value → Shared → Prop} {h₀ : Heap} {L : Addr} {m : Str → Option Value} {news : List (Addr × Obj)}
    (C : Calls w k f args s post) (F : Fr h₀ L s.heap m) (N : News h₀ L s.heap news) (hh : A.handled = none) (hd : A.depth ≤ (std k).depth) (hu : A.units ≤ (std k).units)
    (h : ∀ v tl h' tk', Fr h₀ L h' m → News h₀ L h' (news ++ tl) → (∀ p ∈ tl, ∀ q ∈ news, p.1 ≠ q.1) → post v tl → Q v { s with heap := h', toks := tk' }) :
    wpAny (model PySem.Challenge.rw_nt0422_01.row.prog w) A (call (.ref f) args) Q E s :=
  C A Q E hh hd hu fun v tl h' tk' st fr hp => by
    obtain ⟨oL, a1, a2, hL, a3⟩ := F.ns
    refine h v tl h' tk' ⟨⟨oL, a1, a2, st _ _ hL, a3⟩, fun b o e => st b o (F.keep b o e), F.above⟩ (fun p hp => ?_) (fun p hp q hq e => ?_) hp
    · rcases (List.mem_append.mp hp).symm with hp | hp
      · refine ⟨(fr p hp).1, fun e => ?_, ?_⟩
        · have := (fr p hp).2; rw [e, hL] at this; cases this
        · cases e : h₀.get? p.1 with
          | none => rfl
          | some o => have := F.keep _ _ e; rw [(fr p hp).2] at this; cases this
      · exact ⟨st _ _ (N p hp).1, (N p hp).2⟩
    · have := (fr p hp).2; rw [e, (N q hq).1] at this; cases this

/-! ## the board's tables, by address -/
structure GeoA where
  (dx masksF masksR rays king knight pawn castles rights : Addr)

  (tf tr ts tu : Tok)
  (k0 k1 k2 k3 k4 k5 k6 k7 k8 k9 k10 k11 k12 k13 : Tok)
  (hd hc : Value)
  (size full : Int)
def GeoA.entries (G : GeoA) (P : Params) (F R : Nat) : List DictEntry :=
  [⟨PyData.keyHash P "files", .str "files" G.k0, .int F G.tf⟩, ⟨PyData.keyHash P "ranks", .str "ranks" G.k1, .int R G.tr⟩, ⟨PyData.keyHash P "size", .str "size" G.k2, .int G.size G.ts⟩, ⟨PyData.keyHash P "full", .str "full" G.k3, .int G.full G.tu⟩,
   ⟨PyData.keyHash P "has_double", .str "has_double" G.k4, G.hd⟩, ⟨PyData.keyHash P "has_castling", .str "has_castling" G.k5, G.hc⟩,
   ⟨PyData.keyHash P "file_masks", .str "file_masks" G.k6, .ref G.masksF⟩, ⟨PyData.keyHash P "rank_masks", .str "rank_masks" G.k7, .ref G.masksR⟩, ⟨PyData.keyHash P "rays", .str "rays" G.k8, .ref G.rays⟩,
   ⟨PyData.keyHash P "king", .str "king" G.k9, .ref G.king⟩, ⟨PyData.keyHash P "knight", .str "knight" G.k10, .ref G.knight⟩, ⟨PyData.keyHash P "pawn", .str "pawn" G.k11, .ref G.pawn⟩,
   ⟨PyData.keyHash P "castles", .str "castles" G.k12, .ref G.castles⟩, ⟨PyData.keyHash P "rights_lost", .str "rights_lost" G.k13, .ref G.rights⟩]

structure GeoOK (Lk : Look) (P : Params) (geo : Addr) (G : GeoA) (F R : Nat) (ray : Nat → Nat → Int) (king knight : Nat → Int) (pawn : Nat → Nat → Int) : Prop where
  inst : Lk geo (instObj 53 G.dx)
  dict : Lk G.dx (dictOf (G.entries P F R) 14)
  rays : TabF Lk G.rays 8 (F * R) ray
  king : IntsF Lk G.king (F * R) king
  knight : IntsF Lk G.knight (F * R) knight
  pawn : TabF Lk G.pawn 2 (F * R) pawn

section
variable {Lk : Look} {P : Params} {geo : Addr} {G : GeoA} {F R : Nat} {ray : Nat → Nat → Int} {king knight : Nat → Int} {pawn : Nat → Nat → Int}
theorem GeoOK.instAt {h : Heap} (g : GeoOK Lk P geo G F R ray king knight pawn) (up : ∀ a o, Lk a o → h.get? a = some o) :
    PySem.W.InstAt h geo (instObj 53 G.dx) 53 (some (dictOf (G.entries P F R) 14)) := ⟨up _ _ g.inst, rfl, rfl, up _ _ g.dict⟩
theorem GeoOK.mono {Lk' : Look} (g : GeoOK Lk P geo G F R ray king knight pawn) (up : ∀ a o, Lk a o → Lk' a o) : GeoOK Lk' P geo G F R ray king knight pawn :=
  ⟨up _ _ g.inst, up _ _ g.dict, TabF.mono up g.rays, IntsF.mono up g.king, IntsF.mono up g.knight, TabF.mono up g.pawn⟩
end


end PartBase
local macro_rules | `(tactic| walk_at $s:str) => `(tactic| k_extra $s)
local macro_rules | `(tactic| k_inst) => `(tactic| k_extra "k_inst")
local macro_rules | `(tactic| k_mem) => `(tactic| k_extra "k_mem")
local macro_rules | `(tactic| lcg_sub) => `(tactic| k_extra "lcg_sub")
local macro_rules | `(tactic| k_all) => `(tactic| k_extra "k_all")
local macro_rules | `(tactic| size_fits) => `(tactic| k_extra "size_fits")
local macro_rules | `(tactic| k_ne) => `(tactic| k_extra "k_ne")
local macro_rules | `(tactic| walk_at "subscriptTail") => `(tactic| (k_here; (with_reducible show wpAny _ _ (subscriptTail _ _ (Value.ref _) (Value.int _ _)) _ _ _); k_dflt (refine' sub_bools ?H ?U ?h0 ?h1 ?hS ?_ ?hs; (case H => k_extra "bools"); (case U => k_extra "up"); (case h0 => omega); (case h1 => omega); (case hS => omega); (case hs => with_unfolding_all rfl); k_whole)))
local macro_rules | `(tactic| walk_at "subscriptTail") => `(tactic| (k_here; (with_reducible show wpAny _ _ (subscriptTail _ _ (Value.ref _) (Value.int _ _)) _ _ _); k_dflt (refine' sub_ints ?H ?U ?h0 ?h1 ?hS ?_ ?hs; (case H => k_extra "ints"); (case U => k_extra "up"); (case h0 => omega); (case h1 => omega); (case hS => omega); (case hs => with_unfolding_all rfl); k_whole; intro t')))
local macro_rules | `(tactic| walk_at "subscriptTail") => `(tactic| (k_here; (with_reducible show wpAny _ _ (subscriptTail _ _ (Value.ref _) (Value.int _ _)) _ _ _); k_dflt (refine' sub_refs ?H ?U ?h0 ?h1 ?hS ?_ ?hs; (case H => k_extra "refs"); (case U => k_extra "up"); (case h0 => omega); (case h1 => omega); (case hS => omega); (case hs => with_unfolding_all rfl); k_whole; intro b' hb'; (try k_extra "hb"))))
local macro_rules | `(tactic| walk_at "call ref") => `(tactic| (k_here; k_dflt (refine' use1 ?C ?F ?N ?hh ?hd ?hu ?_; (case C => k_extra "spec1"); (case F => k_asm); (case N => k_asm); (case hh => rfl); (case hd => k_extra "ble"); (case hu => k_extra "ble"); k_whole; intro v' tl' h' tk' F' N' hne' hp'; obtain ⟨b', hv', hP'⟩ := hp'; subst hv'; simp only [List.cons_append, List.nil_append, List.append_assoc] at N')))
local macro_rules | `(tactic| walk_at "call ref") => `(tactic| (k_here; k_dflt (refine' use0 ?C ?F ?N ?hh ?hd ?hu ?_; (case C => k_extra "spec0"); (case F => k_asm); (case N => k_asm); (case hh => rfl); (case hd => k_extra "ble"); (case hu => k_extra "ble"); k_whole; intro v' tl' h' tk' F' N' hp'; first | subst hp' | (obtain ⟨t', hp'⟩ := hp'; subst hp'))))

section Linesgeo1


section PartRay
theorem rowsRay1 : True := by
  k_with_none
  k_with "ble" => (first | decide | exact Nat.le_of_ble_eq_true rfl)
  k_with "k_inst" => (exact GeoOK.instAt (by assumption) (fun a o e => Fr.keep (by k_asm) a o e))
  k_with "refs" => (first | assumption | exact GeoOK.rays (by assumption) | exact GeoOK.pawn (by assumption))
  k_with "ints" => (first | assumption | exact GeoOK.king (by assumption) | exact GeoOK.knight (by assumption))
  k_with "up" => (exact fun a o e => Fr.keep (by k_asm) a o e)
  trivial
def growing (d : Int) : Bool := decide (0 < [1, 0, -1, 0, 1, -1, -1, 1].getD d.toNat (0 : Int)) || d == 1

section
variable (w : World) (mean : ExcName → Option Value) (mg mb : Str → Option Value) (s : Shared) (X : (heapK w.params).In s.heap) (T : TopL mean mg mb s.heap)
include X T
set_option maxHeartbeats 4000000 in
theorem is_growing_spec (d : Int) (td : Tok) (h0 : 0 ≤ d) (h8 : d < 8) : Calls w 8 64 [.int d td] s (fun v _ => v = .bool (growing d)) := by
  intro A Q E hh hdp hu hret
  refine' call_def (binds := [(Str.ofString "d", .int d td)]) X T hh hdp hu ?ho ?hcd (by decide) ?hbind ?hloc ?h ?c1 ?c2 ?c3 ?c4
  case ho => with_unfolding_all k_is
  case hcd => with_unfolding_all k_is
  case hbind => exact BindsTo.of_eq rfl
  case hloc => exact locs rfl
  case c1 => rfl
  case c2 => rfl
  case c3 => rfl
  case c4 => decide
  intro h₁ tk₁ F N
  try dsimp only
  k_fold
  k_steps
  all_goals refine ret_ (by k_asm) (by k_asm) (fun st fr => hret _ _ _ _ st fr ?_)
  · unfold growing; rw [show decide (0 < [1, 0, -1, 0, 1, -1, -1, 1].getD d.toNat (0 : Int)) = true from decide_eq_true (by assumption)]; rfl
  · unfold growing; rw [show decide (0 < [1, 0, -1, 0, 1, -1, -1, 1].getD d.toNat (0 : Int)) = false from decide_eq_false (by assumption)]; rfl

theorem rowsRay2 : True := by
  k_with "spec0" => ((with_reducible show Calls _ _ 64 _ _ _); exact is_growing_spec _ _ _ _ _ (by k_in) (by exact Top.keeps (by k_asm) (Fr.keep (by k_asm))) _ _ (by first | omega | assumption) (by first | omega | assumption))
  trivial
def rayAtt (ray : Int) (g : Bool) (occ : Int) : Int :=
  let stop := Builtin.bitAnd ray occ
  if stop = 0 then ray else if g then Builtin.bitAnd ray (Builtin.bitXor stop (stop - 1)) else
  let b := stop.fdiv (2 ^ 1)
  let b := Builtin.bitOr b (b.fdiv (2 ^ 1))
  let b := Builtin.bitOr b (b.fdiv (2 ^ 2))
  let b := Builtin.bitOr b (b.fdiv (2 ^ 4))
  let b := Builtin.bitOr b (b.fdiv (2 ^ 8))
  let b := Builtin.bitOr b (b.fdiv (2 ^ 16))
  let b := Builtin.bitOr b (b.fdiv (2 ^ 32))
  Builtin.bitAnd ray (Builtin.bitNot b)

variable (geo : Addr) (G : GeoA) (F R : Nat) (ray : Nat → Nat → Int) (king knight : Nat → Int) (pawn : Nat → Nat → Int) (hG : GeoOK (Hv s.heap) w.params geo G F R ray king knight pawn) (hFR : F * R ≤ 64)
include hG hFR
set_option maxHeartbeats 4000000 in
theorem ray_spec (d sq occ : Int) (td ts to : Tok) (h0 : 0 ≤ d) (h8 : d < 8) (s0 : 0 ≤ sq) (s1 : sq < (F * R : Nat)) :
    Calls w 7 120 [.ref geo, .int d td, .int sq ts, .int occ to] s (fun v _ => ∃ t, v = .int (rayAtt (ray d.toNat sq.toNat) (growing d) occ) t) := by
  intro A Q E hh hdp hu hret
  refine' call_def (binds := [(Str.ofString "geo", .ref geo), (Str.ofString "d", .int d td), (Str.ofString "square", .int sq ts), (Str.ofString "occupied", .int occ to)]) X T hh hdp hu ?ho ?hcd (by decide) ?hbind ?hloc ?h ?c1 ?c2 ?c3 ?c4
  case ho => with_unfolding_all k_is
  case hcd => with_unfolding_all k_is
  case hbind => exact BindsTo.of_eq rfl
  case hloc => exact locs rfl
  case c1 => rfl
  case c2 => rfl
  case c3 => rfl
  case c4 => decide
  intro h₁ tk₁ F N
  try dsimp only
  k_fold
  k_steps
  all_goals refine ret_ (by k_asm) (by k_asm) (fun st fr => hret _ _ _ _ st fr ⟨_, congrArg (fun x => Value.int x _) ?_⟩)
  all_goals (unfold rayAtt; dsimp only)
  · rw [if_pos (by assumption)]
  · rw [if_neg (by assumption), if_pos (by assumption)]
  · rw [if_neg (by assumption), show growing d = false from by assumption, if_neg Bool.false_ne_true]; rfl
end

end PartRay

section PartAtt
local macro_rules | `(tactic| walk_at "no such step") => `(tactic| skip)
theorem rowsAtt3 : True := by
  k_with_none
  k_with "ble" => (first | decide | exact Nat.le_of_ble_eq_true rfl)
  k_with "k_inst" => (exact GeoOK.instAt (by assumption) (fun a o e => Fr.keep (by k_asm) a o e))
  k_with "refs" => (first | assumption | exact GeoOK.rays (by assumption) | exact GeoOK.pawn (by assumption))
  k_with "ints" => (first | assumption | exact GeoOK.king (by assumption) | exact GeoOK.knight (by assumption))
  k_with "up" => (exact fun a o e => Fr.keep (by k_asm) a o e)
  trivial
section
variable (w : World) (mean : ExcName → Option Value) (mg mb : Str → Option Value) (s : Shared) (X : (heapK w.params).In s.heap) (T : TopL mean mg mb s.heap)
variable (geo : Addr) (G : GeoA) (F R : Nat) (ray : Nat → Nat → Int) (king knight : Nat → Int) (pawn : Nat → Nat → Int) (hG : GeoOK (Hv s.heap) w.params geo G F R ray king knight pawn) (hFR : F * R ≤ 64)
include X T hG hFR
theorem rowsAtt4 : True := by
  k_with "spec0" => ((with_reducible show Calls _ _ 120 _ _ _); exact ray_spec _ _ _ _ _ (by k_in) (by exact Top.keeps (by k_asm) (Fr.keep (by k_asm))) _ _ _ _ _ _ _ _ (by exact GeoOK.mono (by assumption) (fun a o e => Fr.keep (by k_asm) a o e)) (by assumption) _ _ _ _ _ _ (by first | omega | assumption) (by first | omega | assumption) (by first | omega | assumption) (by first | omega | assumption))
  trivial
def rookAtt (ray : Nat → Int) (occ : Int) : Int :=
  Builtin.bitOr (Builtin.bitOr (Builtin.bitOr (Builtin.bitOr 0 (rayAtt (ray 0) true occ)) (rayAtt (ray 1) true occ)) (rayAtt (ray 2) false occ)) (rayAtt (ray 3) false occ)
def bishopAtt (ray : Nat → Int) (occ : Int) : Int :=
  Builtin.bitOr (Builtin.bitOr (Builtin.bitOr (Builtin.bitOr 0 (rayAtt (ray 4) true occ)) (rayAtt (ray 5) false occ)) (rayAtt (ray 6) false occ)) (rayAtt (ray 7) true occ)
set_option maxHeartbeats 4000000 in
theorem rook_spec (sq occ : Int) (ts to : Tok) (s0 : 0 ≤ sq) (s1 : sq < (F * R : Nat)) :
    Calls w 6 127 [.ref geo, .int sq ts, .int occ to] s (fun v _ => ∃ t, v = .int (rookAtt (fun d => ray d sq.toNat) occ) t) := by
  intro A Q E hh hdp hu hret
  refine' call_def (binds := [(Str.ofString "geo", .ref geo), (Str.ofString "square", .int sq ts), (Str.ofString "occupied", .int occ to)]) X T hh hdp hu ?ho ?hcd (by decide) ?hbind ?hloc ?h ?c1 ?c2 ?c3 ?c4
  case ho => with_unfolding_all k_is
  case hcd => with_unfolding_all k_is
  case hbind => exact BindsTo.of_eq rfl
  case hloc => exact locs rfl
  case c1 => rfl
  case c2 => rfl
  case c3 => rfl
  case c4 => decide
  intro h₁ tk₁ F N
  try dsimp only
  k_fold
  k_steps
  all_goals refine ret_ (by k_asm) (by k_asm) (fun st fr => hret _ _ _ _ st fr ⟨_, congrArg (fun x => Value.int x _) ?_⟩)
  rfl
set_option maxHeartbeats 4000000 in
theorem bishop_spec (sq occ : Int) (ts to : Tok) (s0 : 0 ≤ sq) (s1 : sq < (F * R : Nat)) :
    Calls w 6 134 [.ref geo, .int sq ts, .int occ to] s (fun v _ => ∃ t, v = .int (bishopAtt (fun d => ray d sq.toNat) occ) t) := by
  intro A Q E hh hdp hu hret
  refine' call_def (binds := [(Str.ofString "geo", .ref geo), (Str.ofString "square", .int sq ts), (Str.ofString "occupied", .int occ to)]) X T hh hdp hu ?ho ?hcd (by decide) ?hbind ?hloc ?h ?c1 ?c2 ?c3 ?c4
  case ho => with_unfolding_all k_is
  case hcd => with_unfolding_all k_is
  case hbind => exact BindsTo.of_eq rfl
  case hloc => exact locs rfl
  case c1 => rfl
  case c2 => rfl
  case c3 => rfl
  case c4 => decide
  intro h₁ tk₁ F N
  try dsimp only
  k_fold
  k_steps
  all_goals refine ret_ (by k_asm) (by k_asm) (fun st fr => hret _ _ _ _ st fr ⟨_, congrArg (fun x => Value.int x _) ?_⟩)
  rfl
theorem rowsAtt5 : True := by
  k_with "spec0" => ((with_reducible show Calls _ _ 127 _ _ _); exact rook_spec _ _ _ _ _ (by k_in) (by exact Top.keeps (by k_asm) (Fr.keep (by k_asm))) _ _ _ _ _ _ _ _ (by exact GeoOK.mono (by assumption) (fun a o e => Fr.keep (by k_asm) a o e)) (by assumption) _ _ _ _ (by first | omega | assumption) (by first | omega | assumption))
  k_with "spec0" => ((with_reducible show Calls _ _ 134 _ _ _); exact bishop_spec _ _ _ _ _ (by k_in) (by exact Top.keeps (by k_asm) (Fr.keep (by k_asm))) _ _ _ _ _ _ _ _ (by exact GeoOK.mono (by assumption) (fun a o e => Fr.keep (by k_asm) a o e)) (by assumption) _ _ _ _ (by first | omega | assumption) (by first | omega | assumption))
  trivial
set_option maxHeartbeats 4000000 in
theorem queen_spec (sq occ : Int) (ts to : Tok) (s0 : 0 ≤ sq) (s1 : sq < (F * R : Nat)) :
    Calls w 5 141 [.ref geo, .int sq ts, .int occ to] s (fun v _ => ∃ t, v = .int (Builtin.bitOr (rookAtt (fun d => ray d sq.toNat) occ) (bishopAtt (fun d => ray d sq.toNat) occ)) t) := by
  intro A Q E hh hdp hu hret
  refine' call_def (binds := [(Str.ofString "geo", .ref geo), (Str.ofString "square", .int sq ts), (Str.ofString "occupied", .int occ to)]) X T hh hdp hu ?ho ?hcd (by decide) ?hbind ?hloc ?h ?c1 ?c2 ?c3 ?c4
  case ho => with_unfolding_all k_is
  case hcd => with_unfolding_all k_is
  case hbind => exact BindsTo.of_eq rfl
  case hloc => exact locs rfl
  case c1 => rfl
  case c2 => rfl
  case c3 => rfl
  case c4 => decide
  intro h₁ tk₁ F N
  try dsimp only
  k_fold
  k_steps
  all_goals refine ret_ (by k_asm) (by k_asm) (fun st fr => hret _ _ _ _ st fr ⟨_, congrArg (fun x => Value.int x _) ?_⟩)
  rfl
theorem rowsAtt6 : True := by
  k_with "spec0" => ((with_reducible show Calls _ _ 141 _ _ _); exact queen_spec _ _ _ _ _ (by k_in) (by exact Top.keeps (by k_asm) (Fr.keep (by k_asm))) _ _ _ _ _ _ _ _ (by exact GeoOK.mono (by assumption) (fun a o e => Fr.keep (by k_asm) a o e)) (by assumption) _ _ _ _ (by first | omega | assumption) (by first | omega | assumption))
  trivial
def sliderAtt (ray : Nat → Int) (kind occ : Int) : Int :=
  if kind = 3 then bishopAtt ray occ else if kind = 4 then rookAtt ray occ else if kind = 5 then Builtin.bitOr (rookAtt ray occ) (bishopAtt ray occ) else 0
set_option maxHeartbeats 4000000 in
theorem slider_spec (kind sq occ : Int) (tk ts to : Tok) (s0 : 0 ≤ sq) (s1 : sq < (F * R : Nat)) :
    Calls w 4 148 [.ref geo, .int kind tk, .int sq ts, .int occ to] s (fun v _ => ∃ t, v = .int (sliderAtt (fun d => ray d sq.toNat) kind occ) t) := by
  intro A Q E hh hdp hu hret
  refine' call_def (binds := [(Str.ofString "geo", .ref geo), (Str.ofString "kind", .int kind tk), (Str.ofString "square", .int sq ts), (Str.ofString "occupied", .int occ to)]) X T hh hdp hu ?ho ?hcd (by decide) ?hbind ?hloc ?h ?c1 ?c2 ?c3 ?c4
  case ho => with_unfolding_all k_is
  case hcd => with_unfolding_all k_is
  case hbind => exact BindsTo.of_eq rfl
  case hloc => exact locs rfl
  case c1 => rfl
  case c2 => rfl
  case c3 => rfl
  case c4 => decide
  intro h₁ tk₁ F N
  try dsimp only
  k_fold
  k_steps
  all_goals refine ret_ (by k_asm) (by k_asm) (fun st fr => hret _ _ _ _ st fr ⟨_, congrArg (fun x => Value.int x _) ?_⟩)
  all_goals unfold sliderAtt
  · rw [if_pos (by assumption)]
  · rw [if_neg (by assumption), if_pos (by assumption)]
  · rw [if_neg (by assumption), if_neg (by assumption), if_pos (by assumption)]
  · rw [if_neg (by assumption), if_neg (by assumption), if_neg (by assumption)]
theorem rowsAtt7 : True := by
  k_with "spec0" => ((with_reducible show Calls _ _ 148 _ _ _); exact slider_spec _ _ _ _ _ (by k_in) (by exact Top.keeps (by k_asm) (Fr.keep (by k_asm))) _ _ _ _ _ _ _ _ (by exact GeoOK.mono (by assumption) (fun a o e => Fr.keep (by k_asm) a o e)) (by assumption) _ _ _ _ _ _ (by first | omega | assumption) (by first | omega | assumption))
  trivial
def pieceAtt (ray : Nat → Int) (king knight : Int) (pawn : Int → Int) (side kind occ : Int) : Int :=
  if kind = 1 then pawn side else if kind = 2 then knight else if kind = 6 then king else sliderAtt ray kind occ
set_option maxHeartbeats 4000000 in
theorem piece_spec (side kind sq occ : Int) (tsd tk ts to : Tok) (d0 : 0 ≤ side) (d2 : side < 2) (s0 : 0 ≤ sq) (s1 : sq < (F * R : Nat)) :
    Calls w 3 155 [.ref geo, .int side tsd, .int kind tk, .int sq ts, .int occ to] s
      (fun v _ => ∃ t, v = .int (pieceAtt (fun d => ray d sq.toNat) (king sq.toNat) (knight sq.toNat) (fun c => pawn c.toNat sq.toNat) side kind occ) t) := by
  intro A Q E hh hdp hu hret
  refine' call_def (binds := [(Str.ofString "geo", .ref geo), (Str.ofString "side", .int side tsd), (Str.ofString "kind", .int kind tk), (Str.ofString "square", .int sq ts), (Str.ofString "occupied", .int occ to)]) X T hh hdp hu ?ho ?hcd (by decide) ?hbind ?hloc ?h ?c1 ?c2 ?c3 ?c4
  case ho => with_unfolding_all k_is
  case hcd => with_unfolding_all k_is
  case hbind => exact BindsTo.of_eq rfl
  case hloc => exact locs rfl
  case c1 => rfl
  case c2 => rfl
  case c3 => rfl
  case c4 => decide
  intro h₁ tk₁ F N
  try dsimp only
  k_fold
  k_steps
  all_goals refine ret_ (by k_asm) (by k_asm) (fun st fr => hret _ _ _ _ st fr ⟨_, congrArg (fun x => Value.int x _) ?_⟩)
  all_goals unfold pieceAtt
  · rw [if_pos (by assumption)]
  · rw [if_neg (by assumption), if_pos (by assumption)]
  · rw [if_neg (by assumption), if_neg (by assumption), if_pos (by assumption)]
  · rw [if_neg (by assumption), if_neg (by assumption), if_neg (by assumption)]
theorem rowsAtt8 : True := by
  k_with "spec0" => ((with_reducible show Calls _ _ 155 _ _ _); exact piece_spec _ _ _ _ _ (by k_in) (by exact Top.keeps (by k_asm) (Fr.keep (by k_asm))) _ _ _ _ _ _ _ _ (by exact GeoOK.mono (by assumption) (fun a o e => Fr.keep (by k_asm) a o e)) (by assumption) _ _ _ _ _ _ _ _ (by first | omega | assumption) (by first | omega | assumption) (by first | omega | assumption) (by first | omega | assumption))
  trivial
def xrayOf (att : Int → Int) (occ own : Int) : Int :=
  Builtin.bitXor (att occ) (att (Builtin.bitXor occ (Builtin.bitAnd (Builtin.bitAnd (att occ) own) occ)))
set_option maxHeartbeats 4000000 in
theorem xrook_spec (sq occ own : Int) (ts to tw : Tok) (s0 : 0 ≤ sq) (s1 : sq < (F * R : Nat)) :
    Calls w 4 162 [.ref geo, .int sq ts, .int occ to, .int own tw] s (fun v _ => ∃ t, v = .int (xrayOf (rookAtt fun d => ray d sq.toNat) occ own) t) := by
  intro A Q E hh hdp hu hret
  refine' call_def (binds := [(Str.ofString "geo", .ref geo), (Str.ofString "square", .int sq ts), (Str.ofString "occupied", .int occ to), (Str.ofString "own", .int own tw)]) X T hh hdp hu ?ho ?hcd (by decide) ?hbind ?hloc ?h ?c1 ?c2 ?c3 ?c4
  case ho => with_unfolding_all k_is
  case hcd => with_unfolding_all k_is
  case hbind => exact BindsTo.of_eq rfl
  case hloc => exact locs rfl
  case c1 => rfl
  case c2 => rfl
  case c3 => rfl
  case c4 => decide
  intro h₁ tk₁ F N
  try dsimp only
  k_fold
  k_steps
  all_goals refine ret_ (by k_asm) (by k_asm) (fun st fr => hret _ _ _ _ st fr ⟨_, congrArg (fun x => Value.int x _) ?_⟩)
  rfl
set_option maxHeartbeats 4000000 in
theorem xbishop_spec (sq occ own : Int) (ts to tw : Tok) (s0 : 0 ≤ sq) (s1 : sq < (F * R : Nat)) :
    Calls w 4 169 [.ref geo, .int sq ts, .int occ to, .int own tw] s (fun v _ => ∃ t, v = .int (xrayOf (bishopAtt fun d => ray d sq.toNat) occ own) t) := by
  intro A Q E hh hdp hu hret
  refine' call_def (binds := [(Str.ofString "geo", .ref geo), (Str.ofString "square", .int sq ts), (Str.ofString "occupied", .int occ to), (Str.ofString "own", .int own tw)]) X T hh hdp hu ?ho ?hcd (by decide) ?hbind ?hloc ?h ?c1 ?c2 ?c3 ?c4
  case ho => with_unfolding_all k_is
  case hcd => with_unfolding_all k_is
  case hbind => exact BindsTo.of_eq rfl
  case hloc => exact locs rfl
  case c1 => rfl
  case c2 => rfl
  case c3 => rfl
  case c4 => decide
  intro h₁ tk₁ F N
  try dsimp only
  k_fold
  k_steps
  all_goals refine ret_ (by k_asm) (by k_asm) (fun st fr => hret _ _ _ _ st fr ⟨_, congrArg (fun x => Value.int x _) ?_⟩)
  rfl
end

end PartAtt

end Linesgeo1

section PartLoop
def Stop (P : Prop) : Prop := P
theorem stop_ {P : Prop} (h : Stop P) : P := h
theorem Stop.go {P : Prop} (h : P) : Stop P := h

section
variable {prog : Program} {w : World} {A : Around} {s : Shared} {env : Env} {h₀ : Heap}

def LoopC (prog : Program) (w : World) (A : Around) (env : Env) (target : Expr) (body : List Stmt) (Q : Flow → Shared → Prop) (it : Value) (s₂ : Shared) : Prop :=
  codeAny (model prog w) A (.forLoop target it body [] env) (fun r s' => match r with | .ok f => Q f s' | .error _ => False) s₂

theorem for_go {target iter : Expr} {body : List Stmt} {pos : Pos} {Q : Flow → Shared → Prop}
    (h : wpAny (model prog w) A (eval iter env) (fun xv s₁ => wpAny (model prog w) A (pyIter xv) (fun it s₂ => LoopC prog w A env target body Q it s₂) NoE s₁) NoE s)
    (hs : ∀ x, foldedSetIterable iter env x = pure x) :
    wpAny (model prog w) A (exec (.For target iter body [] pos) env) Q NoE s := by
  refine wpAny_For (wpAny_mono h (fun xv s₁ h₁ => wpAny_mono h₁ (fun it s₂ h₂ => ?_) fun _ _ e => e) fun _ _ e => e) hs
  refine codeAny_mono h₂ fun r s' hr => ?_
  cases r with
  | ok f => exact hr
  | error e => exact hr.elim

/-- a turn's end: the iterator and the kept entries stand in the ledger -/
def LpEnd (h₀ : Heap) (L : Addr) (J : (Str → Option Value) → List (Addr × Obj) → Prop) (I : Addr) (oI : Obj) (s s₃ : Shared) : Prop :=
  ∃ h' tk' m' news' all, s₃ = { s with heap := h', toks := tk' } ∧ Fr h₀ L h' m' ∧ News h₀ L h' all ∧ (I, oI) ∈ all ∧ (∀ p ∈ news', p ∈ all) ∧ (∀ p ∈ news', p.1 ≠ I) ∧ J m' news'
def LpPost (h₀ : Heap) (L : Addr) (J : (Str → Option Value) → List (Addr × Obj) → Prop) (I : Addr) (oI : Obj) (s : Shared) (Q : Flow → Shared → Prop) (f : Flow) (s₃ : Shared) : Prop :=
  match f with
  | .ret v => Q (.ret v) s₃
  | .brk => Q .next s₃
  | _ => LpEnd h₀ L J I oI s s₃
theorem lp_end {L I : Addr} {oI : Obj} {J : (Str → Option Value) → List (Addr × Obj) → Prop} {s : Shared} {h' : Heap} {tk' : Nat} {m' : Str → Option Value} {all : List (Addr × Obj)} (news' : List (Addr × Obj))
    (F : Fr h₀ L h' m') (N : News h₀ L h' all) (hI : (I, oI) ∈ all) (hs : ∀ p ∈ news', p ∈ all) (hn : ∀ p ∈ news', p.1 ≠ I) (hJ : J m' news') : LpEnd h₀ L J I oI s { s with heap := h', toks := tk' } :=
  ⟨h', tk', m', news', all, rfl, F, N, hI, hs, hn, hJ⟩

/-- any source whose iterator is one new object I and whose other parts are old -/
theorem loop_src {target : Expr} {body : List Stmt} {Q : Flow → Shared → Prop} {I : Addr} {fp : List Addr} {n : Nat} {P : Nat → Value → Prop} {St : Nat → Heap → Prop} {m : Str → Option Value} {news : List (Addr × Obj)}
    (W : Walks prog w A I fp [I] n P St) (K9 : List (Addr × Obj)) (hfp : ∀ b ∈ fp, b = I ∨ (∃ o, h₀.get? b = some o) ∨ ∃ o, (b, o) ∈ K9) (hI₀ : h₀.get? I = none) (hIL : I ≠ env.locals) (hst : St 0 s.heap) (hIo : ∀ i h, St i h → ∃ o, h.get? I = some o)
    (F : Fr h₀ env.locals s.heap m) (N : News h₀ env.locals s.heap news) (hnI : ∀ p ∈ news, p.1 ≠ I)
    (J : Nat → (Str → Option Value) → List (Addr × Obj) → Prop) (hJ : J 0 m news) (hK : ∀ i m news, J i m news → ∀ p ∈ K9, p ∈ news)
    (turn : ∀ i v h tk m₁ news₁ oI, i < n → P i v → J i m₁ news₁ → Fr h₀ env.locals h m₁ → News h₀ env.locals h ((I, oI) :: news₁) → (∀ p ∈ news₁, p.1 ≠ I) →
      wpAny (model prog w) A (assign target env v) (fun _ s₂ => wpAny (model prog w) A (execs body env) (LpPost h₀ env.locals (J (i + 1)) I oI s Q) NoE s₂) NoE { s with heap := h, toks := tk })
    (done : ∀ h tk m₁ news₁, J n m₁ news₁ → Fr h₀ env.locals h m₁ → News h₀ env.locals h news₁ → Q .next { s with heap := h, toks := tk })
    (ht : ∀ i v h tk (R : Unit → Shared → Prop), P i v → St (i + 1) h → R () { s with heap := h, toks := tk } → wpAny (model prog w) A (letOwnedTupleGo target (.ref I) v) R NoE { s with heap := h, toks := tk }) :
    LoopC prog w A env target body Q (.ref I) s := by
  have old : ∀ b o, h₀.get? b = some o → b ∉ [I] := fun b o e hb => by
    rw [List.mem_singleton.mp hb, hI₀] at e; cases e
  unfold LoopC
  refine codeAny_forLoop_any
    (fun k s' => ∃ h' tk m' news' i, s' = { s with heap := h', toks := tk } ∧ St i h' ∧ Fr h₀ env.locals h' m' ∧ News h₀ env.locals h' news' ∧ (∀ p ∈ news', p.1 ≠ I) ∧ J i m' news' ∧ i ≤ n ∧ k = n + 1 - i) ?_ (n + 1)
    ⟨s.heap, s.toks, m, news, 0, rfl, hst, F, N, hnI, hJ, Nat.zero_le _, rfl⟩
  rintro k s' ⟨h', tk, m', news', i, rfl, hst', F', N', hn', hJ', hi, rfl⟩
  have next : ∀ h₁ : Heap, (∀ b o, b ∉ [I] → h'.get? b = some o → h₁.get? b = some o) → Fr h₀ env.locals h₁ m' ∧ News h₀ env.locals h₁ news' := fun h₁ hk₁ =>
    ⟨⟨F'.ns.at' fun o e => hk₁ _ o (fun q => hIL (List.mem_singleton.mp q).symm) e, fun b o e => hk₁ b o (old b o e) (F'.keep b o e), F'.above⟩,
      fun p hp => ⟨hk₁ _ _ (fun q => hn' p hp (List.mem_singleton.mp q)) (N' p hp).1, (N' p hp).2⟩⟩
  by_cases hlt : i < n
  · refine wpAny_noRaise (W.item i _ _ _ hlt hst' fun v h₁ tk₁ hP hst₁ hk₁ => ?_)
    obtain ⟨F₁, N₁⟩ := next h₁ hk₁
    obtain ⟨oI, hoI⟩ := hIo _ _ hst₁
    have NI : News h₀ env.locals h₁ ((I, oI) :: news') := fun p hp => by
      rcases List.mem_cons.mp hp with rfl | hp
      · exact ⟨hoI, hIL, hI₀⟩
      · exact N₁ p hp
    refine wpAny_noRaise (ht i v h₁ tk₁ _ hP hst₁ ?_)
    refine wpAny_noRaise (wpAny_mono (turn i v h₁ tk₁ m' news' oI hlt hP hJ' F₁ NI hn') (fun _ s₂ h₂ => ?_) fun _ _ e => e)
    refine wpAny_noRaise (wpAny_mono h₂ (fun f s₃ h₃ => ?_) fun _ _ e => e)
    have fin : LpEnd h₀ env.locals (J (i + 1)) I oI s s₃ → ∃ m, m < n + 1 - i ∧ ∃ h' tk m' news' i, s₃ = { s with heap := h', toks := tk } ∧ St i h' ∧ Fr h₀ env.locals h' m' ∧ News h₀ env.locals h' news' ∧ (∀ p ∈ news', p.1 ≠ I) ∧ J i m' news' ∧ i ≤ n ∧ m = n + 1 - i := by
      rintro ⟨h₄, tk₄, m₄, news₄, all, rfl, F₄, N₄, hI₄, hs₄, hn₄, hJ₄⟩
      refine ⟨n + 1 - (i + 1), by omega, h₄, tk₄, m₄, news₄, i + 1, rfl, ?_, F₄, fun p hp => N₄ p (hs₄ p hp), hn₄, hJ₄, hlt, rfl⟩
      refine W.frame _ _ _ hst₁ fun b hb o e => ?_
      rcases hfp b hb with rfl | ⟨o', ho'⟩ | ⟨o', ho'⟩
      · rw [hoI] at e; cases e; exact (N₄ _ hI₄).1
      rotate_left
      · have q₁ := (N₁ _ (hK _ _ _ hJ' _ ho')).1
        rw [e] at q₁; cases q₁; exact (N₄ _ (hs₄ _ (hK _ _ _ hJ₄ _ ho'))).1
      · have := F₁.keep _ _ ho'; rw [e] at this; cases this; exact F₄.keep _ _ ho'
    cases f with
    | ret v => exact h₃
    | brk => exact h₃
    | cont => exact fin h₃
    | next => exact fin h₃
  · have hin : i = n := by omega
    subst hin
    refine wpAny_noRaise (W.done _ _ _ hst' fun h₁ tk₁ hk₁ => wpAny_execs_nil ?_)
    obtain ⟨F₁, N₁⟩ := next h₁ hk₁
    exact done h₁ tk₁ m' news' hJ' F₁ N₁

theorem loop_range {x : Str} {px : Pos} {body : List Stmt} {Q : Flow → Shared → Prop} {r : Addr} {a b c : Int} {t u v : Tok} {n : Nat} {m : Str → Option Value} {news : List (Addr × Obj)}
    (hh : A.handled = none) (hr : IsRange s.heap r a b c t u v) (hsmall : Builtin.Range.small a b c = true) (hn : Builtin.Range.rangeSize a b c = (n : Int))
    (F : Fr h₀ env.locals s.heap m) (N : News h₀ env.locals s.heap news)
    (J : Nat → (Str → Option Value) → List (Addr × Obj) → Prop) (hJ : J 0 m news)
    (hx : env.kindOf x = some .local) (hp : (env.scope.kind == .class || (env.scope.kind == .module && env.locals != env.globals)) = false)
    (turn : ∀ i t h tk m₁ news₁ I oI, i < n → J i m₁ news₁ → Fr h₀ env.locals h (fun y => if y = x then some (.int (a + (i : Int) * c) t) else m₁ y) → News h₀ env.locals h ((I, oI) :: news₁) → (∀ p ∈ news₁, p.1 ≠ I) →
      wpAny (model prog w) A (execs body env) (LpPost h₀ env.locals (J (i + 1)) I oI s Q) NoE { s with heap := h, toks := tk })
    (done : ∀ h tk m₁ news₁, J n m₁ news₁ → Fr h₀ env.locals h m₁ → News h₀ env.locals h news₁ → Q .next { s with heap := h, toks := tk }) :
    wpAny (model prog w) A (pyIter (.ref r)) (fun it s₂ => LoopC prog w A env (.Name x px) body Q it s₂) NoE s := by
  refine wpAny_pyIter_range hr hsmall ?_
  have hI₀ : h₀.get? s.heap.objs.size = none := next_is_new F
  refine loop_src (s := { s with heap := s.heap.push _ }) (Walks.range hh s.heap.objs.size a c n) [] (fun b hb => .inl (List.mem_singleton.mp hb)) hI₀ (Nat.ne_of_gt F.ns.lt)
    (by show IsRangeIter _ _ _ _ _; rw [hn]; simpa using Heap.get?_push_size _ rfl) (fun i h st => ⟨_, st⟩) (F.push _) (fun p hp => ⟨Heap.get?_push_of_some _ (N p hp).1, (N p hp).2⟩)
    (fun p hp => Nat.ne_of_lt (Heap.lt_size (N p hp).1)) J hJ (fun _ _ _ _ p hp => nomatch hp) ?_ done (fun _ _ _ _ _ _ _ q => wpAny_pure q)
  intro i v h tk m₁ news₁ oI hi hP hJ₁ F₁ N₁ hn₁
  obtain ⟨t, rfl⟩ := hP
  refine wpAny_assign_Name (wpAny_storeName_local hx F₁.ns (fun h₂ hn₂ hs₂ => ?_) hp)
  exact turn i t h₂ _ m₁ news₁ _ oI hi hJ₁ (F₁.set hn₂ hs₂) (N₁.set hs₂) hn₁

theorem loop_up {x : Str} {px : Pos} {body : List Stmt} {Q : Flow → Shared → Prop} {r : Addr} {t u v : Tok} {n : Nat} {m : Str → Option Value} {news : List (Addr × Obj)}
    (hh : A.handled = none) (hr : IsRange s.heap r 0 n 1 t u v) (hsmall : Builtin.Range.small 0 n 1 = true)
    (F : Fr h₀ env.locals s.heap m) (N : News h₀ env.locals s.heap news)
    (J : Nat → (Str → Option Value) → List (Addr × Obj) → Prop) (hJ : J 0 m news)
    (hx : env.kindOf x = some .local) (hp : (env.scope.kind == .class || (env.scope.kind == .module && env.locals != env.globals)) = false)
    (turn : ∀ i t h tk m₁ news₁ I oI, i < n → J i m₁ news₁ → Fr h₀ env.locals h (fun y => if y = x then some (.int (i : Int) t) else m₁ y) → News h₀ env.locals h ((I, oI) :: news₁) → (∀ p ∈ news₁, p.1 ≠ I) →
      wpAny (model prog w) A (execs body env) (LpPost h₀ env.locals (J (i + 1)) I oI s Q) NoE { s with heap := h, toks := tk })
    (done : ∀ h tk m₁ news₁, J n m₁ news₁ → Fr h₀ env.locals h m₁ → News h₀ env.locals h news₁ → Q .next { s with heap := h, toks := tk }) :
    wpAny (model prog w) A (pyIter (.ref r)) (fun it s₂ => LoopC prog w A env (.Name x px) body Q it s₂) NoE s :=
  loop_range hh hr hsmall (by rw [PyProof.Rows.rangeSize_nat]; simp) F N J hJ hx hp (fun i t h tk m₁ news₁ I oI hi hJ₁ F₁ N₁ hn₁ => turn i t h tk m₁ news₁ I oI hi hJ₁ (by
    have e : (0 : Int) + (i : Int) * 1 = (i : Int) := by omega
    rw [e] at F₁; exact F₁) N₁ hn₁) done

theorem loop_cells {x y : Str} {px py : Pos} {kk : Nat} {pt : Pos} {body : List Stmt} {Q : Flow → Shared → Prop} {a : Addr} {cs : List (Int × Int)} {m : Str → Option Value} {news : List (Addr × Obj)} (K9 : List (Addr × Obj))
    (hh : A.handled = none) (H : CellsP (fun a o => h₀.get? a = some o ∨ (a, o) ∈ K9) a cs)
    (F : Fr h₀ env.locals s.heap m) (N : News h₀ env.locals s.heap news)
    (J : Nat → (Str → Option Value) → List (Addr × Obj) → Prop) (hJ : J 0 m news) (hK : ∀ i m news, J i m news → ∀ p ∈ K9, p ∈ news)
    (hx : env.kindOf x = some .local) (hy : env.kindOf y = some .local) (hp : (env.scope.kind == .class || (env.scope.kind == .module && env.locals != env.globals)) = false)
    (turn : ∀ i c t u h tk m₁ news₁ I oI, cs[i]? = some c → J i m₁ news₁ → Fr h₀ env.locals h (fun z => if z = y then some (.int c.2 u) else if z = x then some (.int c.1 t) else m₁ z) → News h₀ env.locals h ((I, oI) :: news₁) → (∀ p ∈ news₁, p.1 ≠ I) →
      wpAny (model prog w) A (execs body env) (LpPost h₀ env.locals (J (i + 1)) I oI s Q) NoE { s with heap := h, toks := tk })
    (done : ∀ h tk m₁ news₁, J cs.length m₁ news₁ → Fr h₀ env.locals h m₁ → News h₀ env.locals h news₁ → Q .next { s with heap := h, toks := tk }) :
    wpAny (model prog w) A (pyIter (.ref a)) (fun it s₂ => LoopC prog w A env (.Tuple [.Name x px, .Name y py] kk pt) body Q it s₂) NoE s := by
  obtain ⟨vs, n, hl, hlen, hv⟩ := H
  have up : ∀ (h : Heap) m₁ news₁, Fr h₀ env.locals h m₁ → News h₀ env.locals h news₁ → (∀ p ∈ K9, p ∈ news₁) → ∀ a o, (h₀.get? a = some o ∨ (a, o) ∈ K9) → h.get? a = some o := fun h m₁ news₁ F N hs a o e =>
    e.elim (F.keep a o) fun e => (N _ (hs _ e)).1
  have hls : s.heap.IsList a vs.toArray := isList_of (up _ _ _ F N (hK _ _ _ hJ) _ _ hl)
  refine wpAny_pyIter_list hls ?_
  have hI₀ : h₀.get? s.heap.objs.size = none := next_is_new F
  obtain ⟨ol, hol, _⟩ := id hls
  have hne : a ≠ s.heap.objs.size := Nat.ne_of_lt (Heap.lt_size hol)
  have W := Walks.list (prog := prog) (w := w) hh s.heap.objs.size a hne vs.toArray
  rw [show vs.toArray.size = cs.length by simpa using hlen] at W
  refine loop_src (s := { s with heap := s.heap.push _ }) W K9 (fun b hb => ?_) hI₀ (Nat.ne_of_gt F.ns.lt) ⟨⟨_, Heap.get?_push_size _ rfl, rfl, rfl⟩, hls.push _⟩ (fun i h st => ?_) (F.push _) (fun p hp => ⟨Heap.get?_push_of_some _ (N p hp).1, (N p hp).2⟩)
    (fun p hp => Nat.ne_of_lt (Heap.lt_size (N p hp).1)) J hJ hK ?_ done (fun i v h tk R hP st q => ?_)
  · rcases List.mem_cons.mp hb with rfl | hb
    · exact .inl rfl
    · rw [List.mem_singleton.mp hb]
      exact .inr (hl.elim (fun e => .inl ⟨_, e⟩) fun e => .inr ⟨_, e⟩)
  · obtain ⟨o, e, _⟩ := st.1; exact ⟨o, e⟩
  rotate_left
  · obtain ⟨o, e, r⟩ := st.1
    cases v with
    | ref T => exact wpAny_letOwnedTupleGo_listiter ⟨o, e, r⟩ q
    | _ => (unfold letOwnedTupleGo; exact wpAny_pure q)
  intro i v h tk m₁ news₁ oI hi hP hJ₁ F₁ N₁ hn₁
  obtain ⟨b, hb, c, hc, t, u, k, hp₁⟩ := hv i hi
  have hvb : v = .ref b := by
    have hP' : vs[i]? = some v := by simpa using hP
    rw [hb] at hP'; exact (Option.some.inj hP').symm
  subst hvb
  have htup : h.get? b = some (tupObj [.int c.1 t, .int c.2 u] k) := up _ _ _ F₁ (fun p hp => N₁ p (.tail _ hp)) (hK _ _ _ hJ₁) _ _ hp₁
  refine assign_Tuple_tuple hh ⟨_, htup, rfl, k, rfl⟩ rfl rfl (fun h₂ e₂ => ?_)
  have k₂ : ∀ b o, h.get? b = some o → h₂.get? b = some o := fun b o e => e₂ b o (Nat.ne_of_lt (Heap.lt_size e)) e
  have F₂ : Fr h₀ env.locals h₂ m₁ := F₁.keeps k₂
  have N₂ : News h₀ env.locals h₂ ((s.heap.objs.size, oI) :: news₁) := fun p hp => ⟨k₂ _ _ (N₁ p hp).1, (N₁ p hp).2⟩
  refine assignInOrder_cons (wpAny_assign_Name (wpAny_storeName_local hx F₂.ns (fun h₃ hn₃ hs₃ => ?_) hp))
  have F₃ := F₂.set hn₃ hs₃
  refine assignInOrder_cons (wpAny_assign_Name (wpAny_storeName_local hy F₃.ns (fun h₄ hn₄ hs₄ => ?_) hp))
  refine assignInOrder_nil ?_
  exact turn i c t u h₄ _ m₁ news₁ _ oI hc hJ₁ (F₃.set hn₄ hs₄) ((N₂.set hs₃).set hs₄) hn₁

def WhEnd (h₀ : Heap) (L : Addr) (J : Nat → (Str → Option Value) → List (Addr × Obj) → Prop) (k : Nat) (s s₃ : Shared) : Prop :=
  ∃ k', k' < k ∧ ∃ h' tk' m' news', s₃ = { s with heap := h', toks := tk' } ∧ Fr h₀ L h' m' ∧ News h₀ L h' news' ∧ J k' m' news'
def WhPost (h₀ : Heap) (L : Addr) (J : Nat → (Str → Option Value) → List (Addr × Obj) → Prop) (k : Nat) (s : Shared) (Q : Flow → Shared → Prop) (f : Flow) (s₃ : Shared) : Prop :=
  match f with
  | .ret v => Q (.ret v) s₃
  | .brk => Q .next s₃
  | _ => WhEnd h₀ L J k s s₃
def WhTest (prog : Program) (w : World) (A : Around) (env : Env) (body : List Stmt) (P : Flow → Shared → Prop) (Q : Flow → Shared → Prop) (b : Bool) (s₂ : Shared) : Prop :=
  if b then wpAny (model prog w) A (execs body env) P NoE s₂ else Q .next s₂
theorem wh_true {body : List Stmt} {P Q : Flow → Shared → Prop} {s₂ : Shared} (h : wpAny (model prog w) A (execs body env) P NoE s₂) : WhTest prog w A env body P Q true s₂ := h
theorem wh_false {body : List Stmt} {P Q : Flow → Shared → Prop} {s₂ : Shared} (h : Q .next s₂) : WhTest prog w A env body P Q false s₂ := h
theorem wh_end {L : Addr} {J : Nat → (Str → Option Value) → List (Addr × Obj) → Prop} {k : Nat} {s : Shared} {h' : Heap} {tk' : Nat} {m' : Str → Option Value} {all : List (Addr × Obj)} (k' : Nat) (news' : List (Addr × Obj)) (hk : k' < k)
    (F : Fr h₀ L h' m') (N : News h₀ L h' all) (hs : ∀ p ∈ news', p ∈ all) (hJ : J k' m' news') : WhEnd h₀ L J k s { s with heap := h', toks := tk' } :=
  ⟨k', hk, h', tk', m', news', rfl, F, fun p hp => N p (hs p hp), hJ⟩
theorem while_go {test : Expr} {body : List Stmt} {pos : Pos} {Q : Flow → Shared → Prop} {m : Str → Option Value} {news : List (Addr × Obj)}
    (F : Fr h₀ env.locals s.heap m) (N : News h₀ env.locals s.heap news)
    (J : Nat → (Str → Option Value) → List (Addr × Obj) → Prop) (n : Nat) (hJ : J n m news)
    (turn : ∀ k h tk m₁ news₁, J k m₁ news₁ → Fr h₀ env.locals h m₁ → News h₀ env.locals h news₁ →
      wpAny (model prog w) A (isTrue test env (eval test env)) (WhTest prog w A env body (WhPost h₀ env.locals J k s Q) Q) NoE { s with heap := h, toks := tk }) :
    wpAny (model prog w) A (exec (.While test body [] pos) env) Q NoE s := by
  refine wpAny_While ?_
  refine codeAny_whileLoop (fun k s' => ∃ h' tk' m' news', s' = { s with heap := h', toks := tk' } ∧ Fr h₀ env.locals h' m' ∧ News h₀ env.locals h' news' ∧ J k m' news') ?_ n ⟨_, _, _, _, rfl, F, N, hJ⟩
  rintro k s' ⟨h', tk', m', news', rfl, F', N', hJ'⟩
  refine wpAny_noRaise (wpAny_mono (turn k h' tk' m' news' hJ' F' N') (fun b s₂ h₂ => ?_) fun _ _ e => e)
  unfold WhTest at h₂
  cases b with
  | false =>
    simp only [Bool.false_eq_true, if_false] at h₂ ⊢
    exact wpAny_execs_nil h₂
  | true =>
    simp only [if_true] at h₂ ⊢
    refine wpAny_noRaise (wpAny_mono h₂ (fun f s₃ h₃ => ?_) fun _ _ e => e)
    cases f <;> exact h₃
end

end PartLoop

section PartMut
abbrev gOf (s : Shared) (mu : List (Addr × Obj)) : Heap := hideAll s.heap (mu.map (·.1))
def RetM (g : Heap) (s : Shared) (Q : Value → Shared → Prop) (v : Value) (s' : Shared) : Prop :=
  ∃ h' tk' m' tl, s' = { s with heap := h', toks := tk' } ∧ Fr g s.heap.objs.size h' m' ∧ News g s.heap.objs.size h' tl ∧
    (g.StaysIn h' → Fresh g h' tl → Q v { s with heap := h', toks := tk' })
theorem retM_ {g : Heap} {s : Shared} {Q : Value → Shared → Prop} {v : Value} {h' : Heap} {tk' : Nat} {m' : Str → Option Value} {tl : List (Addr × Obj)}
    (F : Fr g s.heap.objs.size h' m') (N : News g s.heap.objs.size h' tl)
    (k : g.StaysIn h' → Fresh g h' tl → Q v { s with heap := h', toks := tk' }) : RetM g s Q v { s with heap := h', toks := tk' } :=
  ⟨h', tk', m', tl, rfl, F, N, k⟩
theorem fresh_sub {g h : Heap} {tl tl' : List (Addr × Obj)} (f : Fresh g h tl) (hs : ∀ p ∈ tl', p ∈ tl) : Fresh g h tl' := fun p hp => f p (hs p hp)

/-- what a call does that may change the objects mu -/
def CallsM (w : World) (k : Nat) (f : Addr) (args : List Value) (s : Shared) (mu : List (Addr × Obj)) (post : Value → List (Addr × Obj) → Prop) : Prop :=
  ∀ (A : Around) (Q E : Value → Shared → Prop), A.handled = none → A.depth ≤ (std k).depth → A.units ≤ (std k).units →
    (∀ v tl h' tk', (gOf s mu).StaysIn h' → Fresh (gOf s mu) h' tl → post v tl → Q v { s with heap := h', toks := tk' }) →
    wpAny (model PySem.Challenge.rw_nt0422_01.row.prog w) A (call (.ref f) args) Q E s

theorem call_mut {w : World} {k : Nat} {A : Around} {s : Shared} {mean : ExcName → Option Value} {mg mb : Str → Option Value} {Q E : Value → Shared → Prop} {name qual : Str} {params : Arguments} {body : List Stmt} {scope : Scope} {dV kV doc pm cdv ct oc : Value} {an od : Option Addr} {osl : Array (Option Value)} {f : Addr} {args : List Value} {binds : List (Str × Value)}
    {mu : List (Addr × Obj)} (hmu : ∀ p ∈ mu, s.heap.get? p.1 = some p.2)
    (X : (heapK w.params).In (gOf s mu)) (T : TopL mean mg mb (gOf s mu))
    (hh : A.handled = none) (hdp : A.depth ≤ (std k).depth) (hu : A.units ≤ (std k).units)
    (ho : (heapK w.params).lookup f = some ⟨oc, od, .func (fnOf name qual params body scope dV kV doc pm an cdv ct), osl⟩) (hcd : codeIn (heapK w.params) cdv qual = true) (hk7 : k ≤ 50)
    (hbind : BindsTo s (fnOf name qual params body scope dV kV doc pm an cdv ct) ⟨args, []⟩ binds) (hloc : ∀ y ∈ binds, scope.names.lookup y.1 = some .local)
    (h : ∀ h₁ tk₁, Fr (gOf s mu) s.heap.objs.size h₁ (fun y => binds.reverse.lookup y) → News (gOf s mu) s.heap.objs.size h₁ mu →
      wpAny (model PySem.Challenge.rw_nt0422_01.row.prog w) (std (k + 1)) (execs body (envOf qual scope s.heap.objs.size f cdv))
        (fun fl s' => RetM (gOf s mu) s Q (match fl with | .ret v => v | _ => .none) s') NoE
        { s with heap := h₁, toks := tk₁ })
    (hco : scope.isCoroutine = false) (hgen : scope.isGenerator = false) (hk : scope.kind = .function)
    (hcell : ∀ x ∈ scope.names, x.2 ≠ .cell) : wpAny (model PySem.Challenge.rw_nt0422_01.row.prog w) A (call (.ref f) args) Q E s := by
  have sub : (gOf s mu).StaysIn s.heap := fun b o e => of_hideAll _ e
  refine wpAny_call ?_
  refine codeAny_call_def (fd := fnOf name qual params body scope dV kV doc pm an cdv ct) (body := body) (binds := binds) ?_ ((X.keeps sub) _ _ ho) rfl (T.nolimit.keeps sub) (codeRec_of (X.keeps sub) hcd) rfl hbind hcell hloc (fun h₁ hns hk₁ => ?_) hco hgen hk
  · have : (std k).depth < recursionLimit := by show 400 + 10 * k < 1000; omega
    omega
  · refine wpAny_le (B := std (k + 1)) hh ?_ ?_ rfl rfl ?_
    · show A.depth + 1 ≤ 400 + 10 * (k + 1)
      have : A.depth ≤ 400 + 10 * k := hdp
      omega
    · show A.units + 3 ≤ 200 + 50 * (k + 1)
      have : A.units ≤ 200 + 50 * k := hu
      omega
    · refine wpAny_mono (h h₁ _ ⟨hns, fun b o e => hk₁ b o (sub b o e), Nat.le_of_eq (hideAll_size _ _)⟩ (fun p hp => ⟨hk₁ _ _ (hmu p hp), Nat.ne_of_lt (Heap.lt_size (hmu p hp)), hideAll_none _ (List.mem_map_of_mem hp)⟩)) (fun fl s' hl => ?_) (fun _ _ z => z.elim)
      obtain ⟨h', tk', m', tl, rfl, F', N', q⟩ := hl
      exact q F'.keep fun p hp => ⟨(N' p hp).1, (N' p hp).2.2⟩

theorem call_mutC {w : World} {k : Nat} {A : Around} {s : Shared} {mean : ExcName → Option Value} {mg mb : Str → Option Value} {Q E : Value → Shared → Prop} {name qual : Str} {params : Arguments} {body : List Stmt} {scope : Scope} {dV kV doc pm cdv ct oc : Value} {an od : Option Addr} {osl : Array (Option Value)} {f : Addr} {args : List Value} {binds : List (Str × Value)}
    {mu : List (Addr × Obj)} (hmu : ∀ p ∈ mu, s.heap.get? p.1 = some p.2)
    (X : (heapK w.params).In (gOf s mu)) (T : TopL mean mg mb (gOf s mu))
    (hh : A.handled = none) (hdp : A.depth ≤ (std k).depth) (hu : A.units ≤ (std k).units)
    (ho : (heapK w.params).lookup f = some ⟨oc, od, .func (fnOf name qual params body scope dV kV doc pm an cdv ct), osl⟩) (hcd : codeIn (heapK w.params) cdv qual = true) (hk7 : k ≤ 50)
    (hbind : BindsTo s (fnOf name qual params body scope dV kV doc pm an cdv ct) ⟨args, []⟩ binds) (hkind : (binds.all fun y => scope.names.lookup y.1 == some .local || scope.names.lookup y.1 == some .cell) = true)
    (hnd : ((cellsFrom 0 scope.names []).map (·.1)).Nodup)
    (h : ∀ h₁ tk₁ cells, Fr (gOf s mu) s.heap.objs.size h₁ (bindL (envOfC qual scope s.heap.objs.size f cdv).kindOf binds fun _ => none) → News (gOf s mu) s.heap.objs.size h₁ (cells ++ mu) →
      CellsAre (bindC (envOfC qual scope s.heap.objs.size f cdv).kindOf binds fun _ => none) (cellsFrom (s.heap.objs.size + 1) scope.names []) cells → (∀ p ∈ mu, p.1 < s.heap.objs.size) →
      wpAny (model PySem.Challenge.rw_nt0422_01.row.prog w) (std (k + 1)) (execs body (envOfC qual scope s.heap.objs.size f cdv))
        (fun fl s' => RetM (gOf s mu) s Q (match fl with | .ret v => v | _ => .none) s') NoE
        { s with heap := h₁, toks := tk₁ })
    (hco : scope.isCoroutine = false) (hgen : scope.isGenerator = false) (hk : scope.kind = .function) : wpAny (model PySem.Challenge.rw_nt0422_01.row.prog w) A (call (.ref f) args) Q E s := by
  have sub : (gOf s mu).StaysIn s.heap := fun b o e => of_hideAll _ e
  refine wpAny_call ?_
  have hroom : A.depth < recursionLimit := by
    have : (std k).depth < recursionLimit := by show 400 + 10 * k < 1000; omega
    omega
  refine codeAny_call_function hroom ((X.keeps sub) _ _ ho) rfl hco hgen rfl (codeRec_of (X.keeps sub) hcd) (hbind _ _ _ _ ?_)
  refine wpAny_newFunctionEnv_cells hk (kindsX hkind _) fun env' he s' x => ?_
  subst he
  refine ⟨(T.nolimit.keeps sub).keeps x.toInCall.keep, codeAny_func ?_⟩
  obtain ⟨h₁, tk, rfl, _⟩ := x.done
  have hk₁ := x.toInCall.keep
  obtain ⟨cells, NC, Y⟩ := Cl.news (h₀ := s.heap) (Nat.le_refl _) fun n c hm => ⟨x.cell n c (lookup_of_mem_nodup (cellsFrom_names scope.names 0 (s.heap.objs.size + 1) [] [] rfl ▸ hnd) hm), x.above n c hm⟩
  refine wpAny_le (B := std (k + 1)) hh ?_ ?_ rfl rfl ?_
  · show A.depth + 1 ≤ 400 + 10 * (k + 1)
    have : A.depth ≤ 400 + 10 * k := hdp
    omega
  · show A.units + 3 ≤ 200 + 50 * (k + 1)
    have : A.units ≤ 200 + 50 * k := hu
    omega
  · refine wpAny_mono (h h₁ tk cells ⟨x.toInCall.ns, fun b o e => hk₁ b o (sub b o e), Nat.le_of_eq (hideAll_size _ _)⟩ (fun p hp => ?_) Y (fun p hp => Heap.lt_size (hmu p hp))) (fun fl s' hl => ?_) (fun _ _ z => z.elim)
    · rcases List.mem_append.mp hp with hp | hp
      · refine ⟨(NC p hp).1, (NC p hp).2.1, ?_⟩
        cases q : (gOf s mu).get? p.1 with
        | none => rfl
        | some o => have := of_hideAll _ q; rw [(NC p hp).2.2] at this; cases this
      · exact ⟨hk₁ _ _ (hmu p hp), Nat.ne_of_lt (Heap.lt_size (hmu p hp)), hideAll_none _ (List.mem_map_of_mem hp)⟩
    · obtain ⟨h', tk', m', tl, rfl, F', N', q⟩ := hl
      exact q F'.keep fun p hp => ⟨(N' p hp).1, (N' p hp).2.2⟩

section
variable {h₀ : Heap} {L : Addr} {m : Str → Option Value} {news : List (Addr × Obj)} {s : Shared} {mu : List (Addr × Obj)}
theorem stays_g (F : Fr h₀ L s.heap m) (N : News h₀ L s.heap news) (hm : ∀ p ∈ mu, p ∈ news) : h₀.StaysIn (gOf s mu) := fun b o e =>
  hideAll_get _ (F.keep b o e) fun q => by
    obtain ⟨p, hp, rfl⟩ := List.mem_map.mp q
    rw [(N p (hm p hp)).2.2] at e; cases e
theorem inL_g (N : News h₀ L s.heap news) (rest : List (Addr × Obj)) (hr : ∀ p ∈ rest, p ∈ news) (hne : ∀ p ∈ rest, ∀ q ∈ mu, p.1 ≠ q.1) : ∀ a o, InL rest a o → Hv (gOf s mu) a o := fun a o e =>
  hideAll_get _ (N _ (hr _ e)).1 fun q => by
    obtain ⟨p, hp, e'⟩ := List.mem_map.mp q
    exact hne _ e p hp e'.symm
theorem useM {w : World} {k : Nat} {A : Around} {f : Addr} {args : List Value} {post : Value → List (Addr × Obj) → Prop} {Q E : Value → Shared → Prop}
    (C : CallsM w k f args s mu post) (F : Fr h₀ L s.heap m) (N : News h₀ L s.heap news) (hm : ∀ p ∈ mu, p ∈ news) (rest : List (Addr × Obj)) (hr : ∀ p ∈ rest, p ∈ news) (hne : ∀ p ∈ rest, ∀ q ∈ mu, p.1 ≠ q.1)
    (hh : A.handled = none) (hd : A.depth ≤ (std k).depth) (hu : A.units ≤ (std k).units)
    (h : ∀ v tl h' tk', Fr h₀ L h' m → News h₀ L h' (tl ++ rest) → (∀ p ∈ tl, ∀ q ∈ rest, p.1 ≠ q.1) → post v tl → Q v { s with heap := h', toks := tk' }) :
    wpAny (model PySem.Challenge.rw_nt0422_01.row.prog w) A (call (.ref f) args) Q E s :=
  C A Q E hh hd hu fun v tl h' tk' st fr hp => by
    obtain ⟨oL, a1, a2, hL, a3⟩ := F.ns
    have hLg : (gOf s mu).get? L = some oL := hideAll_get _ hL fun q => by
      obtain ⟨p, hp, e⟩ := List.mem_map.mp q
      exact (N p (hm p hp)).2.1 e
    have sg := stays_g F N hm
    have ig := inL_g (mu := mu) N rest hr hne
    refine h v tl h' tk' ⟨⟨oL, a1, a2, st _ _ hLg, a3⟩, fun b o e => st b o (sg b o e), F.above⟩ (fun p hp => ?_) (fun p hp q hq e => ?_) hp
    · rcases List.mem_append.mp hp with hp | hp
      · refine ⟨(fr p hp).1, fun e => ?_, ?_⟩
        · have := (fr p hp).2; rw [e, hLg] at this; cases this
        · cases e : h₀.get? p.1 with
          | none => rfl
          | some o => have := sg _ _ e; rw [(fr p hp).2] at this; cases this
      · exact ⟨st _ _ (ig p.1 p.2 hp), (N p (hr p hp)).2⟩
    · have := (fr p hp).2; rw [e, show (gOf s mu).get? q.1 = some q.2 from ig q.1 q.2 hq] at this; cases this
end

end PartMut

section PartCode
theorem code_mut {w : World} {k : Nat} {A : Around} {s : Shared} {mean : ExcName → Option Value} {mg mb : Str → Option Value} {R : Result → Shared → Prop} {name qual : Str} {params : Arguments} {body : List Stmt} {scope : Scope} {dV kV doc pm cdv ct oc : Value} {an od : Option Addr} {osl : Array (Option Value)} {f : Addr} {args : List Value} {binds : List (Str × Value)}
    {mu : List (Addr × Obj)} (hmu : ∀ p ∈ mu, s.heap.get? p.1 = some p.2)
    (X : (heapK w.params).In (gOf s mu)) (T : TopL mean mg mb (gOf s mu))
    (hh : A.handled = none) (hdp : A.depth ≤ (std k).depth) (hu : A.units ≤ (std k).units)
    (ho : (heapK w.params).lookup f = some ⟨oc, od, .func (fnOf name qual params body scope dV kV doc pm an cdv ct), osl⟩) (hcd : codeIn (heapK w.params) cdv qual = true) (hk7 : k ≤ 50)
    (hbind : BindsTo s (fnOf name qual params body scope dV kV doc pm an cdv ct) ⟨args, []⟩ binds) (hloc : ∀ y ∈ binds, scope.names.lookup y.1 = some .local)
    (h : ∀ h₁ tk₁, Fr (gOf s mu) s.heap.objs.size h₁ (fun y => binds.reverse.lookup y) → News (gOf s mu) s.heap.objs.size h₁ mu →
      wpAny (model PySem.Challenge.rw_nt0422_01.row.prog w) (std (k + 1)) (execs body (envOf qual scope s.heap.objs.size f cdv))
        (fun fl s' => RetM (gOf s mu) s (fun v s' => R (.ok (.ret v)) s') (match fl with | .ret v => v | _ => .none) s') NoE
        { s with heap := h₁, toks := tk₁ })
    (hco : scope.isCoroutine = false) (hgen : scope.isGenerator = false) (hk : scope.kind = .function)
    (hcell : ∀ x ∈ scope.names, x.2 ≠ .cell) : codeAny (model PySem.Challenge.rw_nt0422_01.row.prog w) A (.call (.ref f) ⟨args, []⟩) R s := by
  have sub : (gOf s mu).StaysIn s.heap := fun b o e => of_hideAll _ e
  refine codeAny_call_def (fd := fnOf name qual params body scope dV kV doc pm an cdv ct) (body := body) (binds := binds) ?_ ((X.keeps sub) _ _ ho) rfl (T.nolimit.keeps sub) (codeRec_of (X.keeps sub) hcd) rfl hbind hcell hloc (fun h₁ hns hk₁ => ?_) hco hgen hk
  · have : (std k).depth < recursionLimit := by show 400 + 10 * k < 1000; omega
    omega
  · refine wpAny_le (B := std (k + 1)) hh ?_ ?_ rfl rfl ?_
    · show A.depth + 1 ≤ 400 + 10 * (k + 1)
      have : A.depth ≤ 400 + 10 * k := hdp
      omega
    · show A.units + 3 ≤ 200 + 50 * (k + 1)
      have : A.units ≤ 200 + 50 * k := hu
      omega
    · refine wpAny_mono (h h₁ _ ⟨hns, fun b o e => hk₁ b o (sub b o e), Nat.le_of_eq (hideAll_size _ _)⟩ (fun p hp => ⟨hk₁ _ _ (hmu p hp), Nat.ne_of_lt (Heap.lt_size (hmu p hp)), hideAll_none _ (List.mem_map_of_mem hp)⟩)) (fun fl s' hl => ?_) (fun _ _ z => z.elim)
      obtain ⟨h', tk', m', tl, rfl, F', N', q⟩ := hl
      exact q F'.keep fun p hp => ⟨(N' p hp).1, (N' p hp).2.2⟩

end PartCode

section PartCells
theorem small_of {a b c : Int} (ha : -1000 ≤ a ∧ a ≤ 1000) (hb : -1000 ≤ b ∧ b ≤ 1000) (hc : c = 1 ∨ c = -1) : Builtin.Range.small a b c = true := by
  have hs : -2000 ≤ Builtin.Range.rangeSize a b c ∧ Builtin.Range.rangeSize a b c ≤ 2000 := by
    rcases hc with rfl | rfl
    · rw [rangeSize_one]; split <;> omega
    · rw [rangeSize_down]; split <;> omega
  unfold Builtin.Range.small Builtin.Range.rangeFitsLong
  have e : (2 : Int) ^ 63 = 9223372036854775808 := by decide
  simp only [e, Bool.and_eq_true, decide_eq_true_eq]
  rcases hc with rfl | rfl
  · refine ⟨by omega, ?_⟩
    rw [if_pos (by decide)]
    simp only [Bool.or_eq_true, Bool.and_eq_true, decide_eq_true_eq]
    omega
  · refine ⟨by omega, ?_⟩
    rw [if_neg (by decide)]
    simp only [Bool.or_eq_true, Bool.and_eq_true, decide_eq_true_eq]
    omega
theorem size_up (n : Nat) : Builtin.Range.rangeSize 0 (n : Int) 1 = (n : Int) := by rw [rangeSize_nat]; simp
/-- the refs of a list that is being built: each points to a pair of the ledger tl -/
def CellsV (tl : List (Addr × Obj)) (vs : List Value) (cs : List (Int × Int)) : Prop :=
  vs.length = cs.length ∧ ∀ i, i < cs.length → ∃ b, vs[i]? = some (.ref b) ∧ ∃ c, cs[i]? = some c ∧ PairP (InL tl) b c
theorem CellsV.nil : CellsV [] [] [] := ⟨rfl, fun _ h => nomatch h⟩
theorem CellsV.mono {tl tl' : List (Addr × Obj)} {vs cs} (h : CellsV tl vs cs) (hs : ∀ p ∈ tl, p ∈ tl') : CellsV tl' vs cs :=
  ⟨h.1, fun i hi => let ⟨b, e, c, ec, hp⟩ := h.2 i hi; ⟨b, e, c, ec, PairP.mono (fun a o m => hs (a, o) m) hp⟩⟩
theorem CellsV.snoc {tl : List (Addr × Obj)} {vs cs} {b : Addr} {c : Int × Int} (h : CellsV tl vs cs) (hb : PairP (InL tl) b c) : CellsV tl (vs ++ [.ref b]) (cs ++ [c]) := by
  refine ⟨by simp [h.1], fun i hi => ?_⟩
  rw [List.length_append, List.length_singleton] at hi
  by_cases hlt : i < cs.length
  · obtain ⟨b', e, c', ec, hp⟩ := h.2 i hlt
    exact ⟨b', by rw [List.getElem?_append_left (by rw [h.1]; exact hlt)]; exact e, c', by rw [List.getElem?_append_left hlt]; exact ec, hp⟩
  · have hi' : i = cs.length := by omega
    subst hi'
    exact ⟨b, by rw [List.getElem?_append_right (by rw [h.1]; exact Nat.le_refl _), h.1]; simp, c, by rw [List.getElem?_append_right (Nat.le_refl _)]; simp, hb⟩
theorem CellsV.cells {tl : List (Addr × Obj)} {vs cs} {a : Addr} {n : Nat} {Lk : Look} (h : CellsV tl vs cs) (ha : Lk a (lobj vs n)) (up : ∀ a o, (a, o) ∈ tl → Lk a o) : CellsP Lk a cs :=
  ⟨vs, n, ha, h.1, fun i hi => let ⟨b, e, c, ec, hp⟩ := h.2 i hi; ⟨b, e, c, ec, PairP.mono up hp⟩⟩
theorem news_sub {h₀ h : Heap} {L : Addr} {all news : List (Addr × Obj)} (N : News h₀ L h all) (hs : ∀ p ∈ news, p ∈ all) : News h₀ L h news := fun p hp => N p (hs p hp)

section
variable {h₀ h : Heap} {L : Addr} {news K9 : List (Addr × Obj)} (N : News h₀ L h news) (hs : ∀ p ∈ K9, p ∈ news)
include N hs
theorem cells_at {a cs} (H : CellsP (InL K9) a cs) : CellsP (Hv h) a cs := CellsP.mono (fun a o e => (N (a, o) (hs _ e)).1) H
theorem rows_at {a R F f} (H : RowsF (InL K9) a R F f) : RowsF (Hv h) a R F f := RowsF.mono (fun a o e => (N (a, o) (hs _ e)).1) H
theorem geo_at {P : Params} {geo : Addr} {G : GeoA} {F R : Nat} {ray : Nat → Nat → Int} {king knight : Nat → Int} {pawn : Nat → Nat → Int} (H : GeoOK (InL K9) P geo G F R ray king knight pawn) : GeoOK (Hv h) P geo G F R ray king knight pawn := GeoOK.mono H (fun a o e => (N (a, o) (hs _ e)).1)
end

theorem inl_up {h₀ h : Heap} {L : Addr} {news K9 : List (Addr × Obj)} (N : News h₀ L h news) (hs : ∀ p ∈ K9, p ∈ news) : ∀ a o, InL K9 a o → h.get? a = some o := fun a o e => (N (a, o) (hs _ e)).1
def rowPre (f : Nat → Nat → Bool) (y j : Nat) : List (Int × Int) := ((List.range j).filter (f y)).map fun (x : Nat) => ((y : Int), (x : Int))
def menPre (nf : Nat) (f : Nat → Nat → Bool) (i : Nat) : List (Int × Int) := (List.range i).flatMap (fun y => rowPre f y nf)
theorem rowPre_succ_t {f : Nat → Nat → Bool} {y j : Nat} (h : f y j = true) : rowPre f y (j + 1) = rowPre f y j ++ [((y : Int), (j : Int))] := by
  simp [rowPre, List.range_succ, h]
theorem rowPre_succ_f {f : Nat → Nat → Bool} {y j : Nat} (h : f y j = false) : rowPre f y (j + 1) = rowPre f y j := by
  simp [rowPre, List.range_succ, h]
theorem menPre_succ {nf : Nat} {f : Nat → Nat → Bool} {i : Nat} : menPre nf f (i + 1) = menPre nf f i ++ rowPre f i nf := by
  simp [menPre, List.range_succ]
theorem rowPre_mem {f : Nat → Nat → Bool} {y j : Nat} {c : Int × Int} : c ∈ rowPre f y j ↔ ∃ x, x < j ∧ f y x = true ∧ c = ((y : Int), (x : Int)) := by
  simp only [rowPre, List.mem_map, List.mem_filter, List.mem_range]
  constructor
  · rintro ⟨x, ⟨h1, h2⟩, h3⟩; exact ⟨x, h1, h2, h3.symm⟩
  · rintro ⟨x, h1, h2, h3⟩; exact ⟨x, ⟨h1, h2⟩, h3.symm⟩
theorem menPre_mem {nf : Nat} {f : Nat → Nat → Bool} {i : Nat} {c : Int × Int} : c ∈ menPre nf f i ↔ ∃ y, y < i ∧ ∃ x, x < nf ∧ f y x = true ∧ c = ((y : Int), (x : Int)) := by
  simp only [menPre, List.mem_flatMap, List.mem_range, rowPre_mem]
theorem len_refs {w : World} {A : Around} {E : Value → Shared → Prop} {s : Shared} {prog : Program} {Lk : Look} {a : Addr} {S : Nat} {Rel : Nat → Addr → Prop} {Q : Value → Shared → Prop} (H : RefsF Lk a S Rel) (up : ∀ a o, Lk a o → s.heap.get? a = some o) (hS : S ≤ 1000)
    (h : Q (.int (S : Int) (s.toks + 1)) { s with toks := s.toks + 1 + 1 }) : wpAny (model prog w) A (call (.builtin "len") [.ref a]) Q E s := by
  obtain ⟨vs, n, h1, h2, _⟩ := H
  refine len_list (isList_of (up _ _ h1)) (by simp; omega) ?_
  have e : (vs.toArray.size : Int) = (S : Int) := by simp [h2]
  rw [e]; exact h
theorem len_bools {w : World} {A : Around} {E : Value → Shared → Prop} {s : Shared} {prog : Program} {Lk : Look} {a : Addr} {S : Nat} {f : Nat → Bool} {Q : Value → Shared → Prop} (H : BoolsF Lk a S f) (up : ∀ a o, Lk a o → s.heap.get? a = some o) (hS : S ≤ 1000)
    (h : Q (.int (S : Int) (s.toks + 1)) { s with toks := s.toks + 1 + 1 }) : wpAny (model prog w) A (call (.builtin "len") [.ref a]) Q E s := by
  obtain ⟨vs, n, h1, h2, _⟩ := H
  refine len_list (isList_of (up _ _ h1)) (by simp; omega) ?_
  have e : (vs.toArray.size : Int) = (S : Int) := by simp [h2]
  rw [e]; exact h

end PartCells

section PartBits
theorem xor_add_and : ∀ a b : Nat, (a ^^^ b) + 2 * (a &&& b) = a + b := by
  intro a
  induction a using Nat.strongRecOn with
  | ind a ih =>
    intro b
    by_cases h0 : a = 0
    · subst h0; simp
    · have q := ih (a / 2) (by omega) (b / 2)
      rw [← Nat.xor_div_two, ← Nat.and_div_two] at q
      have h1 := Nat.div_add_mod (a ^^^ b) 2
      have h2 := Nat.div_add_mod (a &&& b) 2
      have h3 := Nat.div_add_mod a 2
      have h4 := Nat.div_add_mod b 2
      have x1 : (a ^^^ b) % 2 = (a % 2 + b % 2) % 2 := by
        have e := Nat.testBit_xor a b 0
        simp only [Nat.testBit_zero] at e
        rcases Nat.mod_two_eq_zero_or_one a with ha | ha <;> rcases Nat.mod_two_eq_zero_or_one b with hb | hb <;> rcases Nat.mod_two_eq_zero_or_one (a ^^^ b) with hc | hc <;> simp [ha, hb, hc] at e ⊢
      have x2 : (a &&& b) % 2 = (a % 2) * (b % 2) := by
        have e := Nat.testBit_and a b 0
        simp only [Nat.testBit_zero] at e
        rcases Nat.mod_two_eq_zero_or_one a with ha | ha <;> rcases Nat.mod_two_eq_zero_or_one b with hb | hb <;> rcases Nat.mod_two_eq_zero_or_one (a &&& b) with hc | hc <;> simp [ha, hb, hc] at e ⊢
      rcases Nat.mod_two_eq_zero_or_one a with ha | ha <;> rcases Nat.mod_two_eq_zero_or_one b with hb | hb <;> rw [ha, hb] at x1 x2 <;> omega
theorem or_eq (a b : Nat) : a ||| b = (a ^^^ b) + (a &&& b) := by
  have h1 := xor_add_and (a ^^^ b) (a &&& b)
  have h2 : (a ^^^ b) &&& (a &&& b) = 0 := by
    apply Nat.eq_of_testBit_eq
    intro i
    simp only [Nat.testBit_and, Nat.testBit_xor, Nat.zero_testBit]
    cases a.testBit i <;> cases b.testBit i <;> rfl
  have h3 : (a ^^^ b) ^^^ (a &&& b) = a ||| b := by
    apply Nat.eq_of_testBit_eq
    intro i
    simp only [Nat.testBit_and, Nat.testBit_xor, Nat.testBit_or]
    cases a.testBit i <;> cases b.testBit i <;> rfl
  rw [h2, h3] at h1
  omega
/-! ints that are naturals -/
theorem bn_not (b : Nat) : Builtin.bitNot (Builtin.bitNot (b : Int)) = (b : Int) := by unfold Builtin.bitNot; omega
theorem bn_notneg (b : Nat) : ¬ (0 ≤ Builtin.bitNot (b : Int)) := by unfold Builtin.bitNot; omega
theorem bn_and (a b : Nat) : Builtin.bitAnd (a : Int) (b : Int) = ((a &&& b : Nat) : Int) := by
  unfold Builtin.bitAnd
  rw [decide_eq_true (by omega : (0 : Int) ≤ (a : Int)), decide_eq_true (by omega : (0 : Int) ≤ (b : Int))]
  simp
theorem bn_andnot (a b : Nat) : Builtin.bitAnd (a : Int) (Builtin.bitNot (b : Int)) = ((a - (a &&& b) : Nat) : Int) := by
  have h : a &&& b ≤ a := Nat.and_le_left
  unfold Builtin.bitAnd
  rw [decide_eq_true (by omega : (0 : Int) ≤ (a : Int)), decide_eq_false (bn_notneg b), bn_not]
  simp only [Int.toNat_natCast]
  omega
theorem bn_or (a b : Nat) : Builtin.bitOr (a : Int) (b : Int) = ((a ||| b : Nat) : Int) := by
  unfold Builtin.bitOr
  unfold Builtin.bitAnd
  rw [decide_eq_false (bn_notneg a), decide_eq_false (bn_notneg b)]
  simp only [bn_not, Int.toNat_natCast]
theorem bn_xor (a b : Nat) : Builtin.bitXor (a : Int) (b : Int) = ((a ^^^ b : Nat) : Int) := by
  unfold Builtin.bitXor
  rw [bn_or, bn_and]
  have h := or_eq a b
  omega
theorem bn_shl (a n : Nat) : (a : Int) * (2 : Int) ^ n = ((a <<< n : Nat) : Int) := by
  rw [Nat.shiftLeft_eq]; push_cast; rfl
theorem bn_shr (a n : Nat) : (a : Int).fdiv ((2 : Int) ^ n) = ((a >>> n : Nat) : Int) := by
  rw [Nat.shiftRight_eq_div_pow, Int.fdiv_eq_ediv_of_nonneg _ (by exact Int.pow_nonneg (by decide))]; push_cast; rfl
theorem andnot_bit (a b j : Nat) : (a - (a &&& b)).testBit j = (a.testBit j && !b.testBit j) := by
  have h1 := xor_add_and a (a &&& b)
  have h2 : a &&& (a &&& b) = a &&& b := by
    apply Nat.eq_of_testBit_eq; intro i; simp only [Nat.testBit_and]; cases a.testBit i <;> cases b.testBit i <;> rfl
  have h3 : a &&& b ≤ a := Nat.and_le_left
  rw [h2] at h1
  have h4 : a - (a &&& b) = a ^^^ (a &&& b) := by omega
  rw [h4]
  simp only [Nat.testBit_and, Nat.testBit_xor]
  cases a.testBit j <;> cases b.testBit j <;> rfl

end PartBits

section PartGeoB
theorem instAt_keeps {h h' : Heap} {x C : Addr} {ox : Obj} {od : Option Obj} (I : PySem.W.InstAt h x ox C od) (k : ∀ b o, h.get? b = some o → h'.get? b = some o) : PySem.W.InstAt h' x ox C od := by
  refine ⟨k _ _ I.at_, I.cls, I.no, ?_⟩
  have d := I.dict
  cases h1 : ox.dict with
  | none => cases od with
    | none => trivial
    | some o => rw [h1] at d; exact d
  | some dx => cases od with
    | none => rw [h1] at d; exact d
    | some o => rw [h1] at d; exact k _ _ d
def IntsV (vs : List Value) (S : Nat) (f : Nat → Int) : Prop := vs.length = S ∧ ∀ i, i < S → ∃ t, vs[i]? = some (.int (f i) t)
theorem IntsV.nil {f : Nat → Int} : IntsV [] 0 f := ⟨rfl, fun _ h => nomatch h⟩
theorem IntsV.snoc {vs : List Value} {S : Nat} {f : Nat → Int} {x : Int} {t : Tok} (h : IntsV vs S f) (e : x = f S) : IntsV (vs ++ [.int x t]) (S + 1) f := by
  refine ⟨by simp [h.1], fun i hi => ?_⟩
  by_cases hlt : i < S
  · obtain ⟨t', e'⟩ := h.2 i hlt
    exact ⟨t', by rw [List.getElem?_append_left (by rw [h.1]; exact hlt)]; exact e'⟩
  · have : i = S := by omega
    subst this
    exact ⟨t, by rw [List.getElem?_append_right (by rw [h.1]; exact Nat.le_refl _), h.1]; simp [e]⟩
theorem IntsV.ints {vs : List Value} {S n : Nat} {f : Nat → Int} {a : Addr} {Lk : Look} (h : IntsV vs S f) (ha : Lk a (lobj vs n)) : IntsF Lk a S f := ⟨vs, n, ha, h.1, h.2⟩
theorem IntsV.set {vs : List Value} {S : Nat} {f f2 : Nat → Int} {k : Nat} {x : Int} {t : Tok} (h : IntsV vs S f) (_hk : k < S) (e : ∀ i, i < S → f2 i = if i = k then x else f i) : IntsV (vs.set k (.int x t)) S f2 := by
  refine ⟨by simp [h.1], fun i hi => ?_⟩
  rw [List.getElem?_set, e i hi]
  by_cases hik : k = i
  · subst hik
    refine ⟨t, ?_⟩
    rw [if_pos rfl, if_pos (by rw [h.1]; exact hi), if_pos rfl]
  · obtain ⟨t', e'⟩ := h.2 i hi
    refine ⟨t', ?_⟩
    rw [if_neg hik, if_neg (fun q => hik q.symm)]; exact e'
theorem IntsV.congr {vs : List Value} {S : Nat} {f f2 : Nat → Int} (h : IntsV vs S f) (e : ∀ i, i < S → f2 i = f i) : IntsV vs S f2 := ⟨h.1, fun i hi => by rw [e i hi]; exact h.2 i hi⟩
theorem IntsV.rep {S : Nat} {t : Tok} : IntsV (List.replicate S (.int 0 t)) S (fun _ => 0) := ⟨by simp, fun i hi => ⟨t, by simp [hi]⟩⟩

/-! the values of the tables -/
def maskRow (nf : Nat) : Nat := 1 <<< nf - 1
def maskR (nf r : Nat) : Nat := maskRow nf <<< (r * nf)
def colOf (nf : Nat) : Nat → Nat
  | 0 => 0
  | r + 1 => colOf nf r ||| (1 <<< (r * nf))
def maskF (nf nr f : Nat) : Nat := colOf nf nr <<< f
theorem col_small : ∀ nf, nf ≤ 8 → ∀ r, r ≤ 8 → colOf nf r < 2 ^ 64 := by
  have h : ∀ nf : Fin 9, ∀ r : Fin 9, colOf nf.val r.val < 2 ^ 64 := by decide +kernel
  exact fun nf h1 r h2 => h ⟨nf, by omega⟩ ⟨r, by omega⟩
theorem row_small : ∀ nf, nf ≤ 8 → maskRow nf < 2 ^ 64 := by
  have h : ∀ nf : Fin 9, maskRow nf.val < 2 ^ 64 := by decide +kernel
  exact fun nf h1 => h ⟨nf, by omega⟩
theorem pow_pos' (n : Nat) : 1 ≤ 1 <<< n := by rw [Nat.shiftLeft_eq]; have := Nat.two_pow_pos n; omega
theorem toNat_mul (a b : Nat) : ((a : Int) * (b : Int)).toNat = a * b := by rw [← Int.natCast_mul]; exact Int.toNat_natCast _
theorem row_int (nf : Nat) : (1 : Int) * (2 : Int) ^ ((nf : Int)).toNat - 1 = ((maskRow nf : Nat) : Int) := by
  have h := pow_pos' nf
  have e := bn_shl 1 nf
  rw [Int.toNat_natCast, show (1 : Int) = ((1 : Nat) : Int) from rfl, e]
  unfold maskRow
  omega
theorem shl_int (a : Nat) (k n : Nat) : (a : Int) * (2 : Int) ^ ((k : Int) * (n : Int)).toNat = ((a <<< (k * n) : Nat) : Int) := by rw [toNat_mul, bn_shl]
theorem shl_int1 (a : Nat) (k : Nat) : (a : Int) * (2 : Int) ^ ((k : Int)).toNat = ((a <<< k : Nat) : Int) := by rw [Int.toNat_natCast, bn_shl]
theorem one_shl (k : Nat) : (1 : Int) * (2 : Int) ^ k = ((1 <<< k : Nat) : Int) := bn_shl 1 k
theorem bn_or0 (b : Nat) : Builtin.bitOr 0 (b : Int) = ((0 ||| b : Nat) : Int) := bn_or 0 b
theorem toNat_sub1 (n : Nat) : ((n : Int) - 1).toNat = n - 1 := by omega
def sfD (d : Nat) : Int := [0, 1, 0, -1, 1, 1, -1, -1].getD d 0
def srD (d : Nat) : Int := [1, 0, -1, 0, 1, -1, -1, 1].getD d 0
def fullN (nf nr : Nat) : Nat := 1 <<< (nf * nr) - 1
def edge1 (nf nr d : Nat) : Nat := if 0 < sfD d then 0 ||| maskF nf nr (nf - 1) else 0
def edge2 (nf nr d : Nat) : Nat := if sfD d < 0 then edge1 nf nr d ||| maskF nf nr 0 else edge1 nf nr d
def edge3 (nf nr d : Nat) : Nat := if 0 < srD d then edge2 nf nr d ||| maskR nf (nr - 1) else edge2 nf nr d
def edgeN (nf nr d : Nat) : Nat := if srD d < 0 then edge3 nf nr d ||| maskR nf 0 else edge3 nf nr d
def innerN (nf nr d : Nat) : Nat := fullN nf nr - (fullN nf nr &&& edgeN nf nr d)

end PartGeoB

section PartWays
def waysL : List (Int × Int) := [(0, 1), (1, 0), (0, -1), (-1, 0), (1, 1), (1, -1), (-1, -1), (-1, 1)]
def leapsL : List (Int × Int) := [(1, 2), (2, 1), (2, -1), (1, -2), (-1, -2), (-2, -1), (-2, 1), (-1, 2)]
set_option pp.maxSteps 3000 in
theorem ways_at0 {P : Params} {h : Heap} (X : (heapK P).In h) : ∃ n, h.get? 178 = some (lobj [.ref 170, .ref 171, .ref 172, .ref 173, .ref 174, .ref 175, .ref 176, .ref 177] n) := ⟨_, X 178 _ rfl⟩
theorem leaps_at0 {P : Params} {h : Heap} (X : (heapK P).In h) : ∃ n, h.get? 187 = some (lobj [.ref 179, .ref 180, .ref 181, .ref 182, .ref 183, .ref 184, .ref 185, .ref 186] n) := ⟨_, X 187 _ rfl⟩
theorem way_at {P : Params} {h : Heap} (X : (heapK P).In h) {i : Nat} (hi : i < 8) : ∃ c, waysL[i]? = some c ∧ PairP (Hv h) (170 + i) c := by
  rcases (by omega : i = 0 ∨ i = 1 ∨ i = 2 ∨ i = 3 ∨ i = 4 ∨ i = 5 ∨ i = 6 ∨ i = 7) with rfl | rfl | rfl | rfl | rfl | rfl | rfl | rfl
  · exact ⟨_, rfl, _, _, _, X 170 _ rfl⟩
  · exact ⟨_, rfl, _, _, _, X 171 _ rfl⟩
  · exact ⟨_, rfl, _, _, _, X 172 _ rfl⟩
  · exact ⟨_, rfl, _, _, _, X 173 _ rfl⟩
  · exact ⟨_, rfl, _, _, _, X 174 _ rfl⟩
  · exact ⟨_, rfl, _, _, _, X 175 _ rfl⟩
  · exact ⟨_, rfl, _, _, _, X 176 _ rfl⟩
  · exact ⟨_, rfl, _, _, _, X 177 _ rfl⟩
theorem leap_at {P : Params} {h : Heap} (X : (heapK P).In h) {i : Nat} (hi : i < 8) : ∃ c, leapsL[i]? = some c ∧ PairP (Hv h) (179 + i) c := by
  rcases (by omega : i = 0 ∨ i = 1 ∨ i = 2 ∨ i = 3 ∨ i = 4 ∨ i = 5 ∨ i = 6 ∨ i = 7) with rfl | rfl | rfl | rfl | rfl | rfl | rfl | rfl
  · exact ⟨_, rfl, _, _, _, X 179 _ rfl⟩
  · exact ⟨_, rfl, _, _, _, X 180 _ rfl⟩
  · exact ⟨_, rfl, _, _, _, X 181 _ rfl⟩
  · exact ⟨_, rfl, _, _, _, X 182 _ rfl⟩
  · exact ⟨_, rfl, _, _, _, X 183 _ rfl⟩
  · exact ⟨_, rfl, _, _, _, X 184 _ rfl⟩
  · exact ⟨_, rfl, _, _, _, X 185 _ rfl⟩
  · exact ⟨_, rfl, _, _, _, X 186 _ rfl⟩
theorem cells_of_refs {Lk : Look} {a base : Addr} {n : Nat} {vs : List Value} {cs : List (Int × Int)} (ha : Lk a (lobj vs n)) (k m : Nat) (hc : cs.length = m) (hv : vs.length = m) (ws : List (Int × Int)) (e : ∀ i, i < m → cs[i]? = ws[k + i]?) (er : ∀ i, i < m → vs[i]? = some (.ref (base + (k + i)))) (hp : ∀ i, i < m → ∃ c, ws[k + i]? = some c ∧ PairP Lk (base + (k + i)) c) : CellsP Lk a cs := by
  refine ⟨vs, n, ha, hv.trans hc.symm, fun i hi => ?_⟩
  rw [hc] at hi
  obtain ⟨c, h1, h2⟩ := hp i hi
  exact ⟨_, er i hi, c, (e i hi).trans h1, h2⟩
theorem all_lt {p : Nat → Prop} [DecidablePred p] {n : Nat} (h : ((List.range n).all fun i => decide (p i)) = true) : ∀ i, i < n → p i := fun i hi => of_decide_eq_true (List.all_eq_true.mp h i (List.mem_range.mpr hi))
theorem waysAll {P : Params} {h : Heap} (X : (heapK P).In h) : CellsP (Hv h) 178 waysL := by
  obtain ⟨n, e⟩ := ways_at0 X
  refine cells_of_refs (base := 170) e 0 8 rfl rfl waysL (fun i hi => by rw [Nat.zero_add]) (fun i hi => ?_) fun i hi => way_at X (by omega)
  rcases (by omega : i = 0 ∨ i = 1 ∨ i = 2 ∨ i = 3 ∨ i = 4 ∨ i = 5 ∨ i = 6 ∨ i = 7) with rfl | rfl | rfl | rfl | rfl | rfl | rfl | rfl <;> rfl
theorem leapsAll {P : Params} {h : Heap} (X : (heapK P).In h) : CellsP (Hv h) 187 leapsL := by
  obtain ⟨n, e⟩ := leaps_at0 X
  refine cells_of_refs (base := 179) e 0 8 rfl rfl leapsL (fun i hi => by rw [Nat.zero_add]) (fun i hi => ?_) fun i hi => leap_at X (by omega)
  rcases (by omega : i = 0 ∨ i = 1 ∨ i = 2 ∨ i = 3 ∨ i = 4 ∨ i = 5 ∨ i = 6 ∨ i = 7) with rfl | rfl | rfl | rfl | rfl | rfl | rfl | rfl <;> rfl
theorem waysLow {P : Params} {h : Heap} (X : (heapK P).In h) {a : Addr} {n : Nat} (e : h.get? a = some (lobj [.ref 170, .ref 171, .ref 172, .ref 173] n)) : CellsP (Hv h) a (waysL.take 4) := by
  refine cells_of_refs (base := 170) e 0 4 rfl rfl waysL (fun i hi => ?_) (fun i hi => ?_) fun i hi => way_at X (by omega) <;>
  rcases (by omega : i = 0 ∨ i = 1 ∨ i = 2 ∨ i = 3) with rfl | rfl | rfl | rfl <;> rfl
theorem waysHigh {P : Params} {h : Heap} (X : (heapK P).In h) {a : Addr} {n : Nat} (e : h.get? a = some (lobj [.ref 174, .ref 175, .ref 176, .ref 177] n)) : CellsP (Hv h) a (waysL.drop 4) := by
  refine cells_of_refs (base := 170) e 4 4 rfl rfl waysL (fun i hi => ?_) (fun i hi => ?_) fun i hi => way_at X (by omega) <;>
  rcases (by omega : i = 0 ∨ i = 1 ∨ i = 2 ∨ i = 3) with rfl | rfl | rfl | rfl <;> rfl
theorem wayOne {P : Params} {h : Heap} (X : (heapK P).In h) {a b : Addr} {n : Nat} {d : Nat} (hd8 : d < 8) (hb : b = 170 + d) (e : h.get? a = some (lobj [.ref b] n)) : CellsP (Hv h) a [waysL.getD d (0, 0)] := by
  obtain ⟨c, h1, h2⟩ := way_at X hd8
  refine ⟨[.ref b], n, e, rfl, fun i hi => ?_⟩
  have hi0 : i = 0 := by simpa using hi
  subst hi0
  refine ⟨b, rfl, c, ?_, by rw [hb]; exact h2⟩
  rw [List.getD_eq_getElem?_getD, h1]; rfl
theorem cells2 {h₀ h : Heap} {L : Addr} {news : List (Addr × Obj)} (N : News h₀ L h news) {a b c : Addr} {n k j : Nat} {x y x' y' : Int} {t u t' u' : Tok} (h1 : (a, lobj [.ref b, .ref c] n) ∈ news) (h2 : (b, tupObj [.int x t, .int y u] k) ∈ news) (h3 : (c, tupObj [.int x' t', .int y' u'] j) ∈ news) :
    CellsP (Hv h) a [(x, y), (x', y')] := by
  refine ⟨_, n, (N _ h1).1, rfl, fun i hi => ?_⟩
  rcases (by simp at hi; omega : i = 0 ∨ i = 1) with rfl | rfl
  · exact ⟨b, rfl, _, rfl, t, u, k, (N _ h2).1⟩
  · exact ⟨c, rfl, _, rfl, t', u', j, (N _ h3).1⟩
theorem waysLowN {P : Params} {h₀ h : Heap} {L : Addr} {news : List (Addr × Obj)} (X : (heapK P).In h) (N : News h₀ L h news) {a : Addr} {n : Nat} (hm : (a, lobj [.ref 170, .ref 171, .ref 172, .ref 173] n) ∈ news) : CellsP (Hv h) a (waysL.take 4) := waysLow X (N _ hm).1
theorem waysHighN {P : Params} {h₀ h : Heap} {L : Addr} {news : List (Addr × Obj)} (X : (heapK P).In h) (N : News h₀ L h news) {a : Addr} {n : Nat} (hm : (a, lobj [.ref 174, .ref 175, .ref 176, .ref 177] n) ∈ news) : CellsP (Hv h) a (waysL.drop 4) := waysHigh X (N _ hm).1
theorem pickLow : (slicePick ([.ref 170, .ref 171, .ref 172, .ref 173, .ref 174, .ref 175, .ref 176, .ref 177] : List Value).toArray none (some 4) none).toList = [.ref 170, .ref 171, .ref 172, .ref 173] := by decide +kernel
theorem pickHigh : (slicePick ([.ref 170, .ref 171, .ref 172, .ref 173, .ref 174, .ref 175, .ref 176, .ref 177] : List Value).toArray (some 4) none none).toList = [.ref 174, .ref 175, .ref 176, .ref 177] := by decide +kernel
theorem ways_list {P : Params} {h : Heap} (X : (heapK P).In h) : h.IsList 178 ([.ref 170, .ref 171, .ref 172, .ref 173, .ref 174, .ref 175, .ref 176, .ref 177] : List Value).toArray := (ways_at0 X).elim fun n e => ⟨_, e, rfl, n, rfl⟩
theorem wayOneN {P : Params} {h₀ h : Heap} {L : Addr} {news : List (Addr × Obj)} (X : (heapK P).In h) (N : News h₀ L h news) {a b : Addr} {n : Nat} {d : Nat} (hm : (a, lobj [.ref b] n) ∈ news) (hb : b = 170 + d) (hd8 : d < 8) : CellsP (Hv h) a [waysL.getD d (0, 0)] := wayOne X hd8 hb (N _ hm).1
theorem ways_refs {P : Params} {h : Heap} (X : (heapK P).In h) : RefsF (Hv h) 178 8 (fun i b => b = 170 + i) := by
  obtain ⟨n, e⟩ := ways_at0 X
  refine ⟨_, n, e, rfl, fun i hi => ⟨170 + i, ?_, rfl⟩⟩
  rcases (by omega : i = 0 ∨ i = 1 ∨ i = 2 ∨ i = 3 ∨ i = 4 ∨ i = 5 ∨ i = 6 ∨ i = 7) with rfl | rfl | rfl | rfl | rfl | rfl | rfl | rfl <;> rfl

end PartWays

section PartTake
local macro_rules | `(tactic| walk_at "no such step") => `(tactic| skip)
theorem rowsTake9 : True := by
  k_with_none
  k_with "ble" => (first | decide | exact Nat.le_of_ble_eq_true rfl)
  trivial
section
variable {w : World} {A : Around} {E : Value → Shared → Prop} {s : Shared} {prog : Program} {h₀ : Heap} {L D : Addr} {m : Str → Option Value} {news news' : List (Addr × Obj)}
theorem set_led {vs vs' : List Value} {n : Nat} {k : Int} {t : Tok} {v : Value} {Q : Unit → Shared → Prop} (F : Fr h₀ L s.heap m) (N : News h₀ L s.heap news) (U : Upd D (lobj vs n) (lobj vs' n) news news') (he : vs.set k.toNat v = vs')
    (h0 : 0 ≤ k) (h1 : k < (vs.length : Int)) (hfit : k < 2 ^ 63) (h : ∀ h', Fr h₀ L h' m → News h₀ L h' news' → Q () { s with heap := h' }) :
    wpAny (model prog w) A (setItem (.ref D) (.int k t) v) Q E s := by
  obtain ⟨pre, post, rfl, rfl, a, b⟩ := U.split
  have z := N (D, lobj vs n) (List.mem_append.mpr (.inr (.head _)))
  refine ki_setAt z.1 h0 hfit (by simpa using h1) (h _ (F.change (Heap.SameBut.update ..) z.2.1 z.2.2) (ki_turn _ N a b ?_ ?_))
  · show vs.toArray.setIfInBounds k.toNat v = vs'.toArray
    rw [← he]
    apply Array.toList_inj.mp
    simp
  · rw [← he]; simp
end
theorem rowsTake10 : True := by
  k_with "ints" => (assumption)
  k_with "up" => (exact fun a o e => Fr.keep (by k_asm) a o e)
  trivial
theorem len_ints {w : World} {A : Around} {E : Value → Shared → Prop} {s : Shared} {prog : Program} {Lk : Look} {a : Addr} {S : Nat} {f : Nat → Int} {Q : Value → Shared → Prop} (H : IntsF Lk a S f) (up : ∀ a o, Lk a o → s.heap.get? a = some o) (hS : S ≤ 1000)
    (h : Q (.int (S : Int) (s.toks + 1)) { s with toks := s.toks + 1 + 1 }) : wpAny (model prog w) A (call (.builtin "len") [.ref a]) Q E s := by
  obtain ⟨vs, n, h1, h2, _⟩ := H
  refine len_list (isList_of (up _ _ h1)) (by simp; omega) ?_
  have e : (vs.toArray.size : Int) = (S : Int) := by simp [h2]
  rw [e]; exact h
local macro_rules | `(tactic| walk_at "call builtin:len") => `(tactic| (k_here; (with_reducible show wpAny _ _ (call (Value.builtin "len") [Value.ref _]) _ _ _); k_dflt (refine' len_ints ?H (fun a o e => Fr.keep ?F a o e) ?hS ?_; (case H => assumption); (case F => k_asm); (case hS => omega); k_whole)))

section
variable (w : World) (mean : ExcName → Option Value) (mg mb : Str → Option Value) (s : Shared)
set_option maxHeartbeats 4000000 in
theorem take_spec (tape l : Addr) (at_ : Int) (ta : Tok) (nt S : Nat) (f : Nat → Int) (m : Int) (tm : Tok) (hmu : ∀ p ∈ [(tape, lobj [.ref l, .int at_ ta] nt)], s.heap.get? p.1 = some p.2)
    (X : (heapK w.params).In (gOf s [(tape, lobj [.ref l, .int at_ ta] nt)])) (T : TopL mean mg mb (gOf s [(tape, lobj [.ref l, .int at_ ta] nt)]))
    (hl : IntsF (Hv (gOf s [(tape, lobj [.ref l, .int at_ ta] nt)])) l S f) (hS : S ≤ 24) (a0 : 0 ≤ at_) (a1 : at_ ≤ 900) (m0 : 0 < m) :
    CallsM w 8 194 [.ref tape, .int m tm] s [(tape, lobj [.ref l, .int at_ ta] nt)] (fun v tl => (∃ x t, v = .int x t ∧ 0 ≤ x ∧ x < m) ∧ ∃ t', tl = [(tape, lobj [.ref l, .int (at_ + 1) t'] nt)]) := by
  intro A Q E hh hdp hu hret
  refine' call_mut (binds := [(Str.ofString "tape", .ref tape), (Str.ofString "n", .int m tm)]) hmu X T hh hdp hu ?ho ?hcd (by decide) ?hbind ?hloc ?h ?c1 ?c2 ?c3 ?c4
  case ho => with_unfolding_all k_is
  case hcd => with_unfolding_all k_is
  case hbind => exact BindsTo.of_eq rfl
  case hloc => exact locs rfl
  case c1 => rfl
  case c2 => rfl
  case c3 => rfl
  case c4 => decide
  intro h₁ tk₁ F N
  try dsimp only
  k_fold
  k_steps
  all_goals refine retM_ (by k_asm) (by k_asm) (fun st fr => hret _ _ _ _ st fr ⟨⟨_, _, rfl, ?_, ?_⟩, _, rfl⟩)
  all_goals first | exact Int.fmod_nonneg_of_pos _ m0 | exact Int.fmod_lt_of_pos _ m0
end

end PartTake

section PartUseT
theorem upd_mem {d : Addr} {o o' : Obj} {l l' : List (Addr × Obj)} (U : Upd d o o' l l') : (d, o) ∈ l ∧ ∀ p ∈ l', p = (d, o') ∨ (p ∈ l ∧ p.1 ≠ d) := by
  obtain ⟨pre, post, rfl, rfl, a, b⟩ := U.split
  refine ⟨List.mem_append.mpr (.inr (.head _)), fun p hp => ?_⟩
  rcases List.mem_append.mp hp with hp | hp
  · exact .inr ⟨List.mem_append.mpr (.inl hp), a p hp⟩
  · rcases List.mem_cons.mp hp with rfl | hp
    · exact .inl rfl
    · exact .inr ⟨List.mem_append.mpr (.inr (.tail _ hp)), b p hp⟩
section
variable {w : World} {mean : ExcName → Option Value} {mg mb : Str → Option Value} {h₀ : Heap} {L : Addr} {m : Str → Option Value} {news : List (Addr × Obj)} {s : Shared}
theorem use_take {A : Around} {Q E : Value → Shared → Prop} {tape l : Addr} {at_ : Int} {ta : Tok} {nt S : Nat} {f : Nat → Int} {n : Int} {tm : Tok} (K9 : List (Addr × Obj))
    (X : (heapK w.params).In h₀) (T : TopL mean mg mb h₀) (F : Fr h₀ L s.heap m) (N : News h₀ L s.heap news) (U : Upd tape (lobj [.ref l, .int at_ ta] nt) (lobj [.ref l, .int at_ ta] nt) news news)
    (hl : IntsF (fun a o => h₀.get? a = some o ∨ (a, o) ∈ K9) l S f) (hK : ∀ p ∈ K9, p ∈ news) (hK' : ∀ p ∈ K9, p.1 ≠ tape) (hS : S ≤ 24) (a0 : 0 ≤ at_) (a1 : at_ ≤ 900) (m0 : 0 < n)
    (hh : A.handled = none) (hd : A.depth ≤ (std 8).depth) (hu : A.units ≤ (std 8).units)
    (h : ∀ x t t' h' tk', 0 ≤ x → x < n → Fr h₀ L h' m → (∀ news', Upd tape (lobj [.ref l, .int at_ ta] nt) (lobj [.ref l, .int (at_ + 1) t'] nt) news news' → News h₀ L h' news') → Q (.int x t) { s with heap := h', toks := tk' }) :
    wpAny (model PySem.Challenge.rw_nt0422_01.row.prog w) A (call (.ref 194) [.ref tape, .int n tm]) Q E s := by
  have hm : ∀ p ∈ [(tape, lobj [.ref l, .int at_ ta] nt)], p ∈ news := fun p hp => by
    rw [List.mem_singleton.mp hp]; exact (upd_mem U).1
  have sg := stays_g F N hm
  have hf : ∀ (b : Addr) o, (b, o) ∈ news → b ≠ tape → (gOf s [(tape, lobj [.ref l, .int at_ ta] nt)]).get? b = some o := fun b o hb hne =>
    hideAll_get _ (N _ hb).1 fun q => hne (by simpa using q)
  refine take_spec w mean mg mb s tape l at_ ta nt S f n tm (fun p hp => (N _ (hm p hp)).1) (X.keeps sg) (T.keeps sg) (IntsF.mono (fun a o e => e.elim (sg a o) fun e => hf a o (hK _ e) (hK' _ e)) hl) hS a0 a1 m0
    A Q E hh hd hu fun v tl h' tk' st fr hp => ?_
  obtain ⟨⟨x, t, rfl, hx0, hx1⟩, t', rfl⟩ := hp
  obtain ⟨oL, b1, b2, hL, b3⟩ := F.ns
  have hLt : L ≠ tape := fun e => (N _ (hm _ (.head _))).2.1 e.symm
  have hLg : (gOf s [(tape, lobj [.ref l, .int at_ ta] nt)]).get? L = some oL := hideAll_get _ hL fun q => hLt (by simpa using q)
  refine h x t t' h' tk' hx0 hx1 ⟨⟨oL, b1, b2, st _ _ hLg, b3⟩, fun b o e => st b o (sg b o e), F.above⟩ fun news' U' p hp => ?_
  rcases (upd_mem U').2 p hp with rfl | ⟨hp, hne⟩
  · exact ⟨(fr _ (.head _)).1, (N _ (hm _ (.head _))).2⟩
  · exact ⟨st _ _ (hf p.1 p.2 hp hne), (N p hp).2⟩
end

end PartUseT

section PartComp
section
variable {prog : Program} {w : World} {A : Around} {h₀ : Heap} {L : Addr} {m : Str → Option Value} {env : Env} {ct elt : Expr} {x : Str} {scope : Scope} {cl : List (Str × Addr)} {s : Shared} {S : List (Addr × Obj) → Prop} {P : Nat → Value → Prop} {Fin : List Value → List (Addr × Obj) → Prop} {news : List (Addr × Obj)}
theorem comp_inv {n : Nat} (J : Nat → List Value → List (Addr × Obj) → Prop) (hJ : J 0 [] news)
    (turn : ∀ i ys nw v I oI C oC D m₂ h tk (E' : Value → Shared → Prop), i < n → J i ys nw → P i v → LCg.NsObj oC m₂ → m₂ x = some v → Fr h₀ L h m → News h₀ L h ((I, oI) :: (C, oC) :: (D, LCg.lst ys) :: nw) → LCg.Off3 I C D nw → ((@Ne Nat I C) ∧ (@Ne Nat I D) ∧ (@Ne Nat C D)) →
      wpAny (model prog w) A (eval elt (compEnvC scope cl C env)) (LCg.CompEnd h₀ L m { s with heap := h, toks := tk } I oI C oC D (LCg.lst ys) S (fun y nw' => J (i + 1) (ys ++ [y]) nw')) E' { s with heap := h, toks := tk })
    (fin : ∀ ys nw, J n ys nw → Fin ys nw) : LCg.CompRest prog w A h₀ L m env elt x scope cl s S P Fin n 0 [] news := by
  have key : ∀ (j i : Nat) (ys : List Value) nw, i + j = n → J i ys nw → LCg.CompRest prog w A h₀ L m env elt x scope cl s S P Fin j i ys nw := by
    intro j
    induction j with
    | zero =>
      intro i ys nw hi hj
      obtain rfl : i = n := by omega
      exact LCg.CompRest.zero (fin ys nw hj)
    | succ j ih =>
      intro i ys nw hi hj
      refine LCg.CompRest.succ ?_
      intro v I oI C oC D m₂ h tk E' hv hC hx F N off ne
      refine wpAny_mono (turn i ys nw v I oI C oC D m₂ h tk E' (by omega) hj hv hC hx F N off ne) (fun y s₂ hq => ?_) fun _ _ e => e
      obtain ⟨h', tk', nw', e, F', N', off', hS, hJ'⟩ := hq
      exact ⟨h', tk', nw', e, F', N', off', hS, ih (i + 1) _ _ (by omega) hJ'⟩
  exact key n 0 [] news (by omega) hJ
theorem comp_invT {n : Nat} (J : Nat → List Value → List (Addr × Obj) → Prop) (hJ : J 0 [] news)
    (turn : ∀ i ys nw v I oI C oC D m₂ h tk (E' : Value → Shared → Prop), i < n → J i ys nw → P i v → LCg.NsObj oC m₂ → m₂ x = some v → Fr h₀ L h m → News h₀ L h ((I, oI) :: (C, oC) :: (D, LCg.lst ys) :: nw) → LCg.Off3 I C D nw → ((@Ne Nat I C) ∧ (@Ne Nat I D) ∧ (@Ne Nat C D)) →
      wpAny (model prog w) A (isTrue ct (compEnvC scope cl C env) (eval ct (compEnvC scope cl C env))) (fun ok s' => if ok = true then
        wpAny (model prog w) A (eval elt (compEnvC scope cl C env)) (LCg.CompEnd h₀ L m { s with heap := h, toks := tk } I oI C oC D (LCg.lst ys) S (fun y nw' => J (i + 1) (ys ++ [y]) nw')) E' s'
        else LCg.CompEnd h₀ L m { s with heap := h, toks := tk } I oI C oC D (LCg.lst ys) S (fun _ nw' => J (i + 1) ys nw') Value.none s') E' { s with heap := h, toks := tk })
    (fin : ∀ ys nw, J n ys nw → Fin ys nw) : LCt.CompRestT prog w A h₀ L m env ct elt x scope cl s S P Fin n 0 [] news := by
  have key : ∀ (j i : Nat) (ys : List Value) nw, i + j = n → J i ys nw → LCt.CompRestT prog w A h₀ L m env ct elt x scope cl s S P Fin j i ys nw := by
    intro j
    induction j with
    | zero =>
      intro i ys nw hi hj
      obtain rfl : i = n := by omega
      exact LCt.CompRestT.zero (fin ys nw hj)
    | succ j ih =>
      intro i ys nw hi hj
      refine LCt.CompRestT.succ ?_
      intro v I oI C oC D m₂ h tk E' hv hC hx F N off ne
      refine wpAny_mono (turn i ys nw v I oI C oC D m₂ h tk E' (by omega) hj hv hC hx F N off ne) (fun ok s₂ hq => ?_) fun _ _ e => e
      cases ok with
      | true =>
        simp only [if_true] at hq ⊢
        refine wpAny_mono hq (fun y s₃ hq => ?_) fun _ _ e => e
        obtain ⟨h', tk', nw', e, F', N', off', hS, hJ'⟩ := hq
        exact ⟨h', tk', nw', e, F', N', off', hS, ih (i + 1) _ _ (by omega) hJ'⟩
      | false =>
        simp only [Bool.false_eq_true, if_false] at hq ⊢
        obtain ⟨h', tk', nw', e, F', N', off', hS, hJ'⟩ := hq
        exact ⟨h', tk', nw', e, F', N', off', hS, ih (i + 1) _ _ (by omega) hJ'⟩
  exact key n 0 [] news (by omega) hJ
end

end PartComp

section PartBare
def boolVals (nf : Nat) (r : Nat → Bool) : List Value := (List.range nf).map fun x => .bool (r x)
theorem boolVals_len {nf : Nat} {r : Nat → Bool} : (boolVals nf r).length = nf := by simp [boolVals]
theorem boolVals_get {nf : Nat} {r : Nat → Bool} {x : Nat} (h : x < nf) : (boolVals nf r)[x]? = some (.bool (r x)) := by simp [boolVals, h]
theorem bools_eq {vs : List Value} {nf : Nat} {r : Nat → Bool} (hl : vs.length = nf) (h : ∀ x, x < nf → vs[x]? = some (.bool (r x))) : vs = boolVals nf r := by
  apply List.ext_getElem?
  intro i
  by_cases hi : i < nf
  · rw [h i hi, boolVals_get hi]
  · rw [List.getElem?_eq_none (by omega), List.getElem?_eq_none (by rw [boolVals_len]; omega)]
def rowsLed (bs : List Addr) (nf : Nat) (f : Nat → Nat → Bool) : List (Addr × Obj) := bs.zipIdx.map fun p => (p.1, lobj (boolVals nf (f p.2)) 0)
theorem rowsLed_mem {bs : List Addr} {nf : Nat} {f : Nat → Nat → Bool} {p : Addr × Obj} : p ∈ rowsLed bs nf f ↔ ∃ k b, bs[k]? = some b ∧ p = (b, lobj (boolVals nf (f k)) 0) := by
  unfold rowsLed
  rw [List.mem_map]
  constructor
  · rintro ⟨⟨b, k⟩, h, rfl⟩
    exact ⟨k, b, List.mem_zipIdx_iff_getElem?.mp h, rfl⟩
  · rintro ⟨k, b, h, rfl⟩
    exact ⟨(b, k), List.mem_zipIdx_iff_getElem?.mpr h, rfl⟩
theorem rowsLed_snoc {bs : List Addr} {nf : Nat} {f : Nat → Nat → Bool} {d : Addr} : ∀ p ∈ rowsLed (bs ++ [d]) nf f, p ∈ rowsLed bs nf f ∨ p = (d, lobj (boolVals nf (f bs.length)) 0) := by
  intro p hp
  obtain ⟨k, b, h, rfl⟩ := rowsLed_mem.mp hp
  by_cases hk : k < bs.length
  · rw [List.getElem?_append_left hk] at h
    exact .inl (rowsLed_mem.mpr ⟨k, b, h, rfl⟩)
  · have : k = bs.length := by
      have := (List.getElem?_eq_some_iff.mp h).1
      rw [List.length_append, List.length_singleton] at this
      omega
    subst this
    rw [List.getElem?_append_right (Nat.le_refl _)] at h
    simp at h
    subst h
    exact .inr rfl
theorem rowsLed_addr {bs : List Addr} {nf : Nat} {f : Nat → Nat → Bool} {p : Addr × Obj} (h : p ∈ rowsLed bs nf f) : p.1 ∈ bs := by
  obtain ⟨k, b, h', rfl⟩ := rowsLed_mem.mp h
  exact List.mem_of_getElem? h'
theorem rowsLed_congr {bs : List Addr} {nf : Nat} {f g : Nat → Nat → Bool} (h : ∀ y x, y < bs.length → x < nf → f y x = g y x) : rowsLed bs nf f = rowsLed bs nf g := by
  unfold rowsLed
  apply List.map_congr_left
  intro p hp
  have hlt : p.2 < bs.length := by
    have := List.mem_zipIdx_iff_getElem?.mp hp
    exact (List.getElem?_eq_some_iff.mp this).1
  have e : boolVals nf (f p.2) = boolVals nf (g p.2) := by
    unfold boolVals
    apply List.map_congr_left
    intro x hx
    rw [h p.2 x hlt (List.mem_range.mp hx)]
  rw [e]
theorem rows_of_led {bs : List Addr} {nf nr n : Nat} {f : Nat → Nat → Bool} {a : Addr} (hl : bs.length = nr) : RowsF (InL ((a, lobj (bs.map .ref) n) :: rowsLed bs nf f)) a nr nf f :=
  ⟨bs.map .ref, n, .head _, by simpa using hl, fun i hi => ⟨bs[i], by simp [hl, hi], boolVals nf (f i), 0, .tail _ (rowsLed_mem.mpr ⟨i, bs[i], by simp [hl, hi], rfl⟩), boolVals_len, fun x hx => boolVals_get hx⟩⟩
section
variable {w : World} {A : Around} {E : Value → Shared → Prop} {s : Shared} {prog : Program} {h₀ : Heap} {L b : Addr} {m : Str → Option Value} {news : List (Addr × Obj)}
theorem set_row {bs : List Addr} {nf : Nat} {f f2 : Nat → Nat → Bool} {y : Nat} {k : Int} {t : Tok} {Q : Unit → Shared → Prop} (F : Fr h₀ L s.heap m) (N : News h₀ L s.heap news) (hs : ∀ p ∈ rowsLed bs nf f, p ∈ news)
    (hb : bs[y]? = some b) (hnd : bs.Nodup) (h0 : 0 ≤ k) (h1 : k < (nf : Int)) (hn : nf ≤ 8) (hf2 : ∀ y' x', f2 y' x' = if y' = y ∧ x' = k.toNat then false else f y' x')
    (h : ∀ h', Fr h₀ L h' m → (∀ news2, (∀ p ∈ news2, p ∈ rowsLed bs nf f2 ∨ (p ∈ news ∧ p.1 ∉ bs)) → News h₀ L h' news2) → Q () { s with heap := h' }) :
    wpAny (model prog w) A (setItem (.ref b) (.int k t) (.bool false)) Q E s := by
  have hm : (b, lobj (boolVals nf (f y)) 0) ∈ news := hs _ (rowsLed_mem.mpr ⟨y, b, hb, rfl⟩)
  have z := N _ hm
  have hsz : (boolVals nf (f y)).toArray.size = nf := by simp [boolVals]
  have hset : (boolVals nf (f y)).toArray.setIfInBounds k.toNat (.bool false) = (boolVals nf (f2 y)).toArray := by
    apply Array.toList_inj.mp
    rw [Array.toList_setIfInBounds]
    apply List.ext_getElem?
    intro i
    rw [List.getElem?_set]
    by_cases hi : i < nf
    · rw [boolVals_get hi, boolVals_get hi, hf2]
      by_cases e : k.toNat = i
      · subst e; simp [boolVals_len, hi]
      · rw [if_neg e, if_neg (fun q => e q.2.symm)]
    · rw [if_neg (by omega), List.getElem?_eq_none (by rw [boolVals_len]; omega), List.getElem?_eq_none (by rw [boolVals_len]; omega)]
  refine ki_setAt z.1 h0 (by omega) (by rw [hsz]; exact h1) (h _ (F.change (Heap.SameBut.update ..) z.2.1 z.2.2) fun news2 h2 p hp => ?_)
  have hself : (s.heap.update b (Obj.mapSeq (·.setIfInBounds k.toNat (.bool false)))).get? b = some (lobj (boolVals nf (f2 y)) 0) := by
    have q := PySem.IsL.update z.1 (·.setIfInBounds k.toNat (.bool false))
    rw [hset] at q
    have e2 : (boolVals nf (f2 y)).toArray.size = (boolVals nf (f y)).toArray.size := by simp [boolVals]
    rw [e2] at q
    simpa using q
  have hother : ∀ a o, a ≠ b → s.heap.get? a = some o → (s.heap.update b (Obj.mapSeq (·.setIfInBounds k.toNat (.bool false)))).get? a = some o := fun a o ha e => (Heap.get?_update_ne _ _ _ _ ha).trans e
  rcases h2 p hp with hp | ⟨hp, hne⟩
  · obtain ⟨k', b', hk', rfl⟩ := rowsLed_mem.mp hp
    by_cases e : k' = y
    · subst e
      rw [hb] at hk'; cases hk'
      exact ⟨hself, z.2⟩
    · have hbb : b' ≠ b := fun q => e (by
        subst q
        exact (List.getElem?_inj (List.getElem?_eq_some_iff.mp hk').1 hnd).mp (hk'.trans hb.symm))
      have q := N _ (hs _ (rowsLed_mem.mpr ⟨k', b', hk', rfl⟩))
      have ef : boolVals nf (f2 k') = boolVals nf (f k') := by
        unfold boolVals
        apply List.map_congr_left
        intro x _
        rw [hf2, if_neg (fun q => e q.1)]
      rw [ef]
      exact ⟨hother _ _ hbb q.1, q.2⟩
  · have q := N _ hp
    exact ⟨hother _ _ (fun e => hne (e ▸ List.mem_of_getElem? hb)) q.1, q.2⟩
/-- «not in» over a list of pairs -/
theorem notin_pairs {Lk : Look} {a c : Addr} {cs : List (Int × Int)} {x : Int × Int} {Q : Value → Shared → Prop} (H : CellsP Lk a cs) (hx : PairP Lk c x) (up : ∀ a o, Lk a o → s.heap.get? a = some o) (hu : A.units + 2 < cLine)
    (h : Q (.bool (!decide (x ∈ cs))) s) : wpAny (model prog w) A (compareOp .NotIn (.ref c) (.ref a)) Q E s := by
  obtain ⟨vs, n, hl, hlen, hv⟩ := H
  obtain ⟨t, u, k, hc⟩ := hx
  have pc := up _ _ hc
  have getp : ∀ i, i < cs.length → ∃ b y, vs[i]? = some (.ref b) ∧ cs[i]? = some y ∧ ∃ t' u' k', s.heap.get? b = some (tupObj [.int y.1 t', .int y.2 u'] k') := fun i hi => by
    obtain ⟨b, hb, y, hy, t', u', k', hp⟩ := hv i hi
    exact ⟨b, y, hb, hy, t', u', k', up _ _ hp⟩
  let e : Value → Bool := fun v => match v with
    | .ref b => (match s.heap.get? b with | some ⟨_, _, .seq its _, _⟩ => (match its.toList with | [.int p _, .int q _] => p == x.1 && q == x.2 | _ => false) | _ => false)
    | _ => false
  have he : ∀ (b : Addr) (y : Int × Int) t' u' k', s.heap.get? b = some (tupObj [.int y.1 t', .int y.2 u'] k') → e (.ref b) = (y.1 == x.1 && y.2 == x.2) := fun b y t' u' k' hb => by
    show (match s.heap.get? b with | some ⟨_, _, .seq its _, _⟩ => (match its.toList with | [.int p _, .int q _] => p == x.1 && q == x.2 | _ => false) | _ => false) = _
    rw [hb]
  refine SeqAt.notIn_listAt e (isList_of (up _ _ hl)) (fun v hvm => ?_) ?_
  · have hvm' : v ∈ vs := by simpa using hvm
    obtain ⟨i, hi⟩ := List.mem_iff_getElem?.mp hvm'
    have hil : i < cs.length := by
      have := (List.getElem?_eq_some_iff.mp hi).1
      omega
    obtain ⟨b, y, hb, hy, t', u', k', hp⟩ := getp i hil
    rw [hb] at hi; cases hi
    rw [he b y t' u' k' hp]
    by_cases hbc : b = c
    · subst hbc
      rw [pc] at hp
      injection hp with hp
      injection hp with _ _ hp _
      injection hp with hp _
      have hp2 := congrArg Array.toList hp
      simp at hp2
      obtain ⟨⟨h1, _⟩, h2, _⟩ := hp2
      rw [h1, h2]
      simp only [beq_self_eq_true, Bool.and_self]
      exact SeqAt.EqAt.same _
    · refine SeqAt.EqAt.of_refs hbc ?_
      have q := SeqAt.RcAt.tuples (A := A.in1) (s := s) (l := b) (b := c) (items := #[.int y.1 t', .int y.2 u']) (items2 := #[.int x.1 t, .int x.2 u]) (e := fun j => if j = 0 then y.1 == x.1 else y.2 == x.2)
        ⟨_, hp, rfl, _, rfl⟩ ⟨_, pc, rfl, _, rfl⟩ (by show A.units + 1 < cLine; omega) (fun j h1 h2 => by
          have hj : j = 0 ∨ j = 1 := by simp at h1; omega
          rcases hj with rfl | rfl
          · exact (MeetsSeq.EqGives.int y.1 x.1 t' t).at _ _
          · exact (MeetsSeq.EqGives.int y.2 x.2 u' u).at _ _)
      have er : ((List.range (min (#[Value.int y.1 t', Value.int y.2 u'] : Array Value).size (#[Value.int x.1 t, Value.int x.2 u] : Array Value).size)).all (fun j => if j = 0 then y.1 == x.1 else y.2 == x.2) && (#[Value.int y.1 t', Value.int y.2 u'] : Array Value).size == (#[Value.int x.1 t, Value.int x.2 u] : Array Value).size) = (y.1 == x.1 && y.2 == x.2) := by
        simp [List.range, List.range.loop]
      rw [er] at q
      exact q
  · have ea : vs.toArray.any e = decide (x ∈ cs) := by
      rw [Bool.eq_iff_iff, decide_eq_true_iff, List.any_toArray, List.any_eq_true]
      constructor
      · rintro ⟨v, hvm, hev⟩
        obtain ⟨i, hi⟩ := List.mem_iff_getElem?.mp hvm
        have hil : i < cs.length := by
          have := (List.getElem?_eq_some_iff.mp hi).1
          omega
        obtain ⟨b, y, hb, hy, t', u', k', hp⟩ := getp i hil
        rw [hb] at hi; cases hi
        rw [he b y t' u' k' hp] at hev
        simp only [Bool.and_eq_true, beq_iff_eq] at hev
        have : y = x := Prod.ext hev.1 hev.2
        subst this
        exact List.mem_of_getElem? hy
      · intro hxm
        obtain ⟨i, hi⟩ := List.mem_iff_getElem?.mp hxm
        have hil : i < cs.length := (List.getElem?_eq_some_iff.mp hi).1
        obtain ⟨b, y, hb, hy, t', u', k', hp⟩ := getp i hil
        rw [hi] at hy; cases hy
        refine ⟨.ref b, List.mem_of_getElem? hb, ?_⟩
        rw [he b x t' u' k' hp]; simp
    rw [ea]; exact h
end
theorem off1_mem {D : Addr} : ∀ {l : List (Addr × Obj)}, LCg.Off1 D l → ∀ p ∈ l, p.1 ≠ D
  | [], _, _, h => nomatch h
  | _ :: _, x, p, h => by
    rcases List.mem_cons.mp h with rfl | h
    · exact x.1
    · exact off1_mem x.2 p h

end PartBare

section PartGInit
theorem rowsGInit11 : True := by
  k_with_none
  k_with "ble" => (first | decide | exact Nat.le_of_ble_eq_true rfl)
  trivial
section
variable (w : World) (mean : ExcName → Option Value) (mg mb : Str → Option Value) (s : Shared)
abbrev initLed (P : Params) (x : Addr) (G : GeoA) (p0 p1 : Addr) (nf nr : Nat) : List (Addr × Obj) :=
  [(G.rights, lobj [] 0), (G.castles, lobj [] 0), (G.pawn, lobj [.ref p0, .ref p1] 0), (p1, lobj [] 0), (p0, lobj [] 0), (G.knight, lobj [] 0), (G.king, lobj [] 0), (G.rays, lobj [] 0), (G.masksR, lobj [] 0), (G.masksF, lobj [] 0), (x, instObj 53 G.dx), (G.dx, dictOf (G.entries P nf nr) 14)]
abbrev initLt (x : Addr) (G : GeoA) (p0 p1 : Addr) : Prop :=
  @LT.lt Nat _ x G.masksF ∧ @LT.lt Nat _ G.dx G.masksF ∧ @LT.lt Nat _ G.masksF G.masksR ∧ @LT.lt Nat _ G.masksR G.rays ∧ @LT.lt Nat _ G.rays G.king ∧ @LT.lt Nat _ G.king G.knight ∧ @LT.lt Nat _ G.knight p0 ∧ @LT.lt Nat _ p0 p1 ∧ @LT.lt Nat _ p1 G.pawn ∧ @LT.lt Nat _ G.pawn G.castles ∧ @LT.lt Nat _ G.castles G.rights
set_option maxHeartbeats 8000000 in
theorem init_spec (x dx : Addr) (nf nr : Nat) (tf tr : Tok) (hF : nf ≤ 8) (hR : nr ≤ 8) (hmu : ∀ p ∈ [(x, instObj 53 dx), (dx, dictOf [] 0)], s.heap.get? p.1 = some p.2) (hxd : @Ne Nat x dx)
    (X : (heapK w.params).In (gOf s [(x, instObj 53 dx), (dx, dictOf [] 0)])) (T : TopL mean mg mb (gOf s [(x, instObj 53 dx), (dx, dictOf [] 0)]))
    (A : Around) (R : Result → Shared → Prop) (hh : A.handled = none) (hdp : A.depth ≤ (std 8).depth) (hu : A.units ≤ (std 8).units)
    (hret : ∀ tl h' tk', (gOf s [(x, instObj 53 dx), (dx, dictOf [] 0)]).StaysIn h' → Fresh (gOf s [(x, instObj 53 dx), (dx, dictOf [] 0)]) h' tl → (∃ G p0 p1, tl = initLed w.params x G p0 p1 nf nr ∧ initLt x G p0 p1 ∧ G.dx = dx ∧ G.hc = .bool false ∧ G.size = ((nf * nr : Nat) : Int) ∧ G.full = ((fullN nf nr : Nat) : Int)) → R (.ok (.ret .none)) { s with heap := h', toks := tk' }) :
    codeAny (model PySem.Challenge.rw_nt0422_01.row.prog w) A (.call (.ref 50) ⟨[.ref x, .int nf tf, .int nr tr, .bool false, .bool false], []⟩) R s := by
  refine' code_mut (binds := [(Str.ofString "self", .ref x), (Str.ofString "files", .int nf tf), (Str.ofString "ranks", .int nr tr), (Str.ofString "has_double", .bool false), (Str.ofString "has_castling", .bool false)]) hmu X T hh hdp hu ?ho ?hcd (by decide) ?hbind ?hloc ?h ?c1 ?c2 ?c3 ?c4
  case ho => with_unfolding_all k_is
  case hcd => with_unfolding_all k_is
  case hbind => exact BindsTo.of_eq rfl
  case hloc => exact locs rfl
  case c1 => rfl
  case c2 => rfl
  case c3 => rfl
  case c4 => decide
  intro h₁ tk₁ F N
  have e1 : 0 ≤ (nf : Int) * (nr : Int) := Int.mul_nonneg (by omega) (by omega)
  have e2 : (nf : Int) * (nr : Int) ≤ 8 * 8 := Int.mul_le_mul (by omega) (by omega) (by omega) (by omega)
  try dsimp only
  show wpAny _ _ _ _ _ _
  k_fold
  k_steps
  (rename Fr _ _ _ _ => F9)
  (rename News _ _ _ _ => N9)
  refine retM_ F9 N9 (fun st fr => hret _ _ _ st fr ⟨⟨dx, _, _, _, _, _, _, _, _, _, _, _, _, _, _, _, _, _, _, _, _, _, _, _, _, _, _, _, _, _, _⟩, _, _, rfl, ?_, rfl, rfl, ?_, ?_⟩)
  · refine ⟨?_, ?_, ?_, ?_, ?_, ?_, ?_, ?_, ?_, ?_, ?_⟩ <;> (try dsimp only) <;> omega
  · exact (Int.natCast_mul _ _).symm
  · dsimp only
    rw [toNat_mul]
    have h := pow_pos' (nf * nr)
    have e := bn_shl 1 (nf * nr)
    unfold fullN
    rw [show (1 : Int) = ((1 : Nat) : Int) from rfl, e]
    omega
end

end PartGInit

section Linesshl2
local macro_rules | `(tactic| walk_at "binaryOp LShift int int") => `(tactic| (k_here; (with_reducible refine' lshift_int_small ?kb1 ?kb2 ?kb3 ?_); (case kb1 => first | omega | assumption); (case kb2 => omega); (case kb3 => first | decide | assumption | omega)))
local macro_rules | `(tactic| walk_at "binaryOp RShift int int") => `(tactic| (k_here; (with_reducible refine' PyProof.Rows.rshift_int ?kb1 ?_); (case kb1 => omega)))

section Linesgeob3


section PartInner
theorem rowsInner12 : True := by
  k_with_none
  k_with "ble" => (first | decide | exact Nat.le_of_ble_eq_true rfl)
  k_with "k_inst" => (exact instAt_keeps (by assumption) (Fr.keep (by k_asm)))
  k_with "ints" => (assumption)
  k_with "up" => (exact fun a o e => Fr.keep (by k_asm) a o e)
  trivial
section
variable (w : World) (mean : ExcName → Option Value) (mg mb : Str → Option Value) (s : Shared) (X : (heapK w.params).In s.heap) (T : TopL mean mg mb s.heap)
include X T
set_option maxHeartbeats 8000000 in
theorem inner_spec (x : Addr) (G : GeoA) (nf nr : Nat) (hF : 2 ≤ nf ∧ nf ≤ 8) (hR : 3 ≤ nr ∧ nr ≤ 8) (hI : PySem.W.InstAt s.heap x (instObj 53 G.dx) 53 (some (dictOf (G.entries w.params nf nr) 14)))
    (hf : G.full = ((fullN nf nr : Nat) : Int)) (HF : IntsF (Hv s.heap) G.masksF nf (fun f => ((maskF nf nr f : Nat) : Int))) (HR : IntsF (Hv s.heap) G.masksR nr (fun r => ((maskR nf r : Nat) : Int)))
    (d : Int) (td : Tok) (d0 : 0 ≤ d) (d8 : d < 8) : Calls w 8 78 [.ref x, .int d td] s (fun v _ => ∃ t, v = .int ((innerN nf nr d.toNat : Nat) : Int) t) := by
  intro A Q E hh hdp hu hret
  refine' call_def (binds := [(Str.ofString "geo", .ref x), (Str.ofString "d", .int d td)]) X T hh hdp hu ?ho ?hcd (by decide) ?hbind ?hloc ?h ?c1 ?c2 ?c3 ?c4
  case ho => with_unfolding_all k_is
  case hcd => with_unfolding_all k_is
  case hbind => exact BindsTo.of_eq rfl
  case hloc => exact locs rfl
  case c1 => rfl
  case c2 => rfl
  case c3 => rfl
  case c4 => decide
  intro h₁ tk₁ F N
  try dsimp only
  k_fold
  k_steps
  all_goals refine ret_ (by k_asm) (by k_asm) (fun st fr => hret _ _ _ _ st fr ⟨_, congrArg (fun x => Value.int x _) ?_⟩)
  all_goals (
    rw [hf]
    try simp only [toNat_sub1, bn_or0, bn_or, Int.toNat_zero]
    unfold innerN edgeN edge3 edge2 edge1 sfD srD
    repeat (first | rw [if_pos (by first | assumption | omega)] | rw [if_neg (by first | assumption | omega)])
    first | exact bn_andnot _ _ | exact bn_andnot _ 0)
end

end PartInner

end Linesgeob3

section PartGeoR
def deltaD (nf d : Nat) : Int := srD d * (nf : Int) + sfD d
def goalN (nf d q : Nat) : Nat := ((q : Int) + deltaD nf d).toNat
def rayR (nf nr d : Nat) : Nat → Nat → Nat
  | 0, _ => 0
  | k + 1, q => if (innerN nf nr d).testBit q then rayR nf nr d k (goalN nf d q) ||| (1 <<< goalN nf d q) else 0
def rayW (nf nr d q : Nat) : Nat := rayR nf nr d 8 q
def kingN (nf nr : Nat) : Nat → Nat → Nat
  | 0, _ => 0
  | d + 1, q => if (innerN nf nr d).testBit q then kingN nf nr d q ||| (1 <<< goalN nf d q) else kingN nf nr d q
def rayOk (nf nr d q : Nat) : Bool :=
  if (innerN nf nr d).testBit q then decide (0 ≤ (q : Int) + deltaD nf d) && decide (goalN nf d q < nf * nr) && (if growing (d : Int) then decide (q < goalN nf d q) else decide (goalN nf d q < q)) && (rayR nf nr d 7 (goalN nf d q) == rayR nf nr d 8 (goalN nf d q)) else true
def boards (p : Nat → Nat → Bool) : Bool := (List.range 7).all fun a => (List.range 6).all fun b => p (a + 2) (b + 3)
theorem boards_get {p : Nat → Nat → Bool} (h : boards p = true) {nf nr : Nat} (hF : 2 ≤ nf ∧ nf ≤ 8) (hR : 3 ≤ nr ∧ nr ≤ 8) : p nf nr = true := by
  have h1 := List.all_eq_true.mp h (nf - 2) (List.mem_range.mpr (by omega))
  have h2 := List.all_eq_true.mp h1 (nr - 3) (List.mem_range.mpr (by omega))
  rw [show nf - 2 + 2 = nf by omega, show nr - 3 + 3 = nr by omega] at h2
  exact h2
theorem all_range {p : Nat → Bool} {n : Nat} (h : (List.range n).all p = true) {i : Nat} (hi : i < n) : p i = true := List.all_eq_true.mp h i (List.mem_range.mpr hi)
set_option maxRecDepth 100000 in
theorem ray_chk : (boards fun nf nr => (List.range 8).all fun d => (List.range (nf * nr)).all fun q => rayOk nf nr d q) = true := by decide +kernel
theorem ray_at {nf nr d q : Nat} (hF : 2 ≤ nf ∧ nf ≤ 8) (hR : 3 ≤ nr ∧ nr ≤ 8) (hd : d < 8) (hq : q < nf * nr) (hb : (innerN nf nr d).testBit q = true) :
    0 ≤ (q : Int) + deltaD nf d ∧ goalN nf d q < nf * nr ∧ (if growing (d : Int) then q < goalN nf d q else goalN nf d q < q) ∧ rayW nf nr d q = rayW nf nr d (goalN nf d q) ||| (1 <<< goalN nf d q) := by
  have h := all_range (all_range (boards_get ray_chk hF hR) hd) hq
  unfold rayOk at h
  rw [if_pos hb] at h
  simp only [Bool.and_eq_true, decide_eq_true_eq, beq_iff_eq] at h
  obtain ⟨⟨⟨h1, h2⟩, h3⟩, h4⟩ := h
  refine ⟨h1, h2, ?_, ?_⟩
  · revert h3; cases growing (d : Int) <;> intro h3 <;> simpa using h3
  · unfold rayW
    rw [← h4, show rayR nf nr d 8 q = rayR nf nr d (7 + 1) q from rfl, rayR, if_pos hb]
theorem ray_no {nf nr d q : Nat} (hb : (innerN nf nr d).testBit q = false) : rayW nf nr d q = 0 := by
  unfold rayW
  rw [show rayR nf nr d 8 q = rayR nf nr d (7 + 1) q from rfl, rayR, if_neg (by rw [hb]; exact Bool.false_ne_true)]
theorem bit_int (a q : Nat) : Builtin.bitAnd ((a : Int).fdiv ((2 : Int) ^ ((q : Int)).toNat)) 1 = (if a.testBit q then 1 else 0 : Int) := by
  rw [Int.toNat_natCast, bn_shr, show (1 : Int) = ((1 : Nat) : Int) from rfl, bn_and]
  have h : (a >>> q) &&& 1 = if a.testBit q then 1 else 0 := by
    rw [Nat.and_one_is_mod]
    have e : (a >>> q).testBit 0 = a.testBit q := by rw [Nat.testBit_shiftRight]; simp
    rw [Nat.testBit_zero] at e
    rcases Nat.mod_two_eq_zero_or_one (a >>> q) with h | h <;> rw [h] at e ⊢ <;> simp at e <;> simp [← e]
  rw [h]
  split <;> rfl
section
variable {prog : Program} {w : World} {A : Around} {E : Value → Shared → Prop} {s : Shared} {h₀ : Heap} {L : Addr} {m : Str → Option Value} {news : List (Addr × Obj)}
abbrev rangeObj (a b c : Int) (t u v : Tok) : Obj := { cls := .type "range", data := .fields #[.int a t, .int b u, .int c v] }
theorem range1_led {n : Int} {t : Tok} {Q : Value → Shared → Prop} (F : Fr h₀ L s.heap m) (N : News h₀ L s.heap news)
    (h : ∀ r h' tk t₁ u₁ v₁, Fr h₀ L h' m → News h₀ L h' ((r, rangeObj 0 n 1 t₁ u₁ v₁) :: news) → (∀ p ∈ news, p.1 < r) → Q (.ref r) { s with heap := h', toks := tk }) :
    wpAny (model prog w) A (call (.type "range") [.int n t]) Q E s :=
  call_range_1 (h _ _ _ _ _ _ (F.push _) (N.push F _) fun p hp => Heap.lt_size (N p hp).1)
theorem range3_led {a b : Int} {t u v : Tok} {Q : Value → Shared → Prop} (F : Fr h₀ L s.heap m) (N : News h₀ L s.heap news)
    (h : ∀ r h' tk t₁ u₁ v₁, Fr h₀ L h' m → News h₀ L h' ((r, rangeObj a b (-1) t₁ u₁ v₁) :: news) → (∀ p ∈ news, p.1 < r) → Q (.ref r) { s with heap := h', toks := tk })
    (hp : Builtin.divisionGoesByPylong (b - a) (-1) = false) :
    wpAny (model prog w) A (call (.type "range") [.int a t, .int b u, .int (-1) v]) Q E s :=
  call_range_3 (by decide) (h _ _ _ _ _ _ (F.push _) (N.push F _) fun p hp => Heap.lt_size (N p hp).1) (.inl hp)
end

end PartGeoR

section Linesloops4
local macro_rules | `(tactic| walk_at "eval Name") => `(tactic| (k_here; k_dflt (refine' nameX_L ?k1 ?k2 ?_ ?a ?b; (case k1 => k_asm); (case a => rfl); (case b => rfl); (case k2 => assumption); k_whole)))
local macro_rules | `(tactic| walk_at "loadName") => `(tactic| (k_here; k_dflt (refine' ldn ?k1 ?k2 ?_; (case k1 => k_asm); (case k2 => assumption); k_whole)))

section PartBoard
theorem rowsBoard13 : True := by
  k_with_none
  k_with "ble" => (first | decide | exact Nat.le_of_ble_eq_true rfl)
  k_with "exec For Name Call cons nil" => ((refine stop_ ?_))
  k_with "exec For Tuple Name cons nil" => ((refine stop_ ?_))
  k_with "exec For Tuple" => ((refine stop_ ?_))
  k_with "exec While BoolOp cons nil" => ((refine stop_ ?_))
  k_with "WhTest" => (first | refine wh_true ?_ | refine wh_false ?_)
  k_with "pyIter ref" => (((with_reducible show wpAny _ _ (pyIter (Value.ref _)) (fun it s₂ => LoopC _ _ _ _ _ _ _ it s₂) _ _); refine stop_ ?_))
  k_with "k_mem" => (assumption)
  k_with "lcg_sub" => ((intro p9 hp9; k_mem))
  k_with "k_all" => (assumption)
  k_with "size_fits" => ((rw [List.size_toArray, PySem.sizeLine_eq]; omega))
  k_with "k_ne" => ((refine neN ?_; (try dsimp only); first | assumption | exact Ne.symm (by assumption) | omega))
  trivial
def bit (F : Nat) (c : Int × Int) : Int := 2 ^ (c.1 * F + c.2).toNat
def boardOf (F : Nat) (cs : List (Int × Int)) : Int := (cs.map (bit F)).sum
section
variable (w : World) (mean : ExcName → Option Value) (mg mb : Str → Option Value) (s : Shared) (X : (heapK w.params).In s.heap) (T : TopL mean mg mb s.heap)
include X T
set_option maxHeartbeats 4000000 in
theorem board_spec (a : Addr) (cs : List (Int × Int)) (nf : Nat) (tf : Tok) (H : CellsP (Hv s.heap) a cs) (hF : nf ≤ 8) (hc : ∀ c ∈ cs, 0 ≤ c.1 ∧ c.1 < 8 ∧ 0 ≤ c.2 ∧ c.2 < 8) :
    Calls w 8 206 [.ref a, .int nf tf] s (fun v _ => ∃ t, v = .int (boardOf nf cs) t) := by
  intro A Q E hh hdp hu hret
  refine' call_def (binds := [(Str.ofString "cells", .ref a), (Str.ofString "files", .int nf tf)]) X T hh hdp hu ?ho ?hcd (by decide) ?hbind ?hloc ?h ?c1 ?c2 ?c3 ?c4
  case ho => with_unfolding_all k_is
  case hcd => with_unfolding_all k_is
  case hbind => exact BindsTo.of_eq rfl
  case hloc => exact locs rfl
  case c1 => rfl
  case c2 => rfl
  case c3 => rfl
  case c4 => decide
  intro h₁ tk₁ F N
  try dsimp only
  k_fold
  k_steps
  refine Stop.go (for_go ?_ (fun _ => rfl))
  k_steps
  refine Stop.go (loop_cells [] rfl (CellsP.mono (fun a o e => .inl e) H) (by k_asm) (by k_asm)
    (fun i m news => (∃ t, m (Str.ofString "b") = some (.int (boardOf nf (cs.take i)) t)) ∧ m (Str.ofString "files") = some (.int nf tf)) ⟨⟨_, rfl⟩, rfl⟩ (fun _ _ _ _ p hp => nomatch hp) rfl rfl rfl ?_ ?_)
  · rintro i c t u h tk m₁ news₁ I oI hci ⟨⟨tb, hb⟩, hf⟩ F₁ N₁ hn₁
    obtain ⟨c1, c2, c3, c4⟩ := hc c (List.mem_of_getElem? hci)
    have e1 : 0 ≤ c.1 * (nf : Int) := Int.mul_nonneg c1 (by omega)
    have e2 : c.1 * (nf : Int) ≤ 8 * 8 := Int.mul_le_mul (by omega) (by omega) (by omega) (by omega)
    k_steps
    show LpEnd _ _ _ _ _ _ _
    (rename Fr _ _ _ _ => F9); (rename News _ _ _ _ => N9)
    refine lp_end [] F9 N9 (.head _) (fun p hp => nomatch hp) (fun p hp => nomatch hp) ⟨⟨_, congrArg (fun x => some (Value.int x _)) ?_⟩, hf⟩
    rw [List.take_add_one, hci]
    simp [boardOf, bit]
  · rintro h tk m₁ news₁ ⟨⟨tb, hb⟩, hf⟩ F₁ N₁
    k_steps
    rw [List.take_length]
    exact ret_ (by k_asm) (by k_asm) (fun st fr => hret _ _ _ _ st fr ⟨_, rfl⟩)
end

end PartBoard

section Linestake5
local macro_rules | `(tactic| walk_at "call ref") => `(tactic| (k_here; (with_reducible show wpAny _ _ (call (Value.ref 194) _) _ _ _); k_dflt (refine' use_take ?K9 ?X ?T ?F ?N ?U ?hl ?hK ?hK' ?hS ?a0 ?a1 ?m0 ?hh ?hd ?hu ?_; (case X => k_asm); (case T => k_asm); (case F => k_asm); (case N => k_asm); (case U => k_upd); (case hl => assumption); (case hK => lcg_sub); (case hK' => k_all); (case hS => omega); (case a0 => omega); (case a1 => omega); (case m0 => first | omega | assumption | (try simp only [Int.toNat_natCast]; first | omega | assumption | exact Int.pow_pos (by decide))); (case hh => rfl); (case hd => decide); (case hu => decide); k_whole; intro x' t' t2' h' tk' hx0' hx1' F' Nf'; (have N' := Nf' _ (by k_upd)); clear Nf')))

section Linescomp6


section PartRows
theorem rowsRows14 : True := by
  k_with_none
  k_with "ble" => (first | decide | exact Nat.le_of_ble_eq_true rfl)
  k_with "exec For Name Call cons nil" => ((refine stop_ ?_))
  k_with "exec For Tuple Name cons nil" => ((refine stop_ ?_))
  k_with "exec For Tuple" => ((refine stop_ ?_))
  k_with "exec While BoolOp cons nil" => ((refine stop_ ?_))
  k_with "WhTest" => (first | refine wh_true ?_ | refine wh_false ?_)
  k_with "pyIter ref" => (((with_reducible show wpAny _ _ (pyIter (Value.ref _)) (fun it s₂ => LoopC _ _ _ _ _ _ _ it s₂) _ _); refine stop_ ?_))
  k_with "k_mem" => (assumption)
  k_with "lcg_sub" => ((intro p9 hp9; k_mem))
  k_with "k_all" => (assumption)
  k_with "size_fits" => ((rw [List.size_toArray, PySem.sizeLine_eq]; omega))
  k_with "k_ne" => ((refine neN ?_; (try dsimp only); first | assumption | exact Ne.symm (by assumption) | omega))
  k_with "eval ListComp" => ((refine stop_ ?_))
  k_with "exec Assign cons ListComp" => ((refine stop_ ?_))
  k_with "CompSrc" => ((refine stop_ ?_))
  k_with "CompSrcT" => ((refine stop_ ?_))
  k_with "CompEnd" => ((refine stop_ ?_))
  trivial
def RowsV (tl : List (Addr × Obj)) (vs : List Value) (nf : Nat) : Prop := ∀ y, y < vs.length → ∃ b gy, vs[y]? = some (.ref b) ∧ BoolsF (InL tl) b nf gy
theorem RowsV.rows {tl : List (Addr × Obj)} {vs : List Value} {nf nr n : Nat} {a : Addr} {Lk : Look} (h : RowsV tl vs nf) (hl : vs.length = nr) (ha : Lk a (lobj vs n)) (up : ∀ a o, (a, o) ∈ tl → Lk a o) : ∃ g, RowsF Lk a nr nf g := by
  have q : ∀ y, ∃ gy, y < nr → ∃ b, vs[y]? = some (.ref b) ∧ BoolsF (InL tl) b nf gy := fun y => by
    by_cases hy : y < nr
    · obtain ⟨b, gy, e, hb⟩ := h y (by omega)
      exact ⟨gy, fun _ => ⟨b, e, hb⟩⟩
    · exact ⟨fun _ => false, fun h => absurd h hy⟩
  obtain ⟨g, hg⟩ := Classical.skolem.mp q
  exact ⟨g, vs, n, ha, hl, fun i hi => let ⟨b, e, hb⟩ := hg i hi; ⟨b, e, BoolsF.mono up hb⟩⟩
section
variable (w : World) (mean : ExcName → Option Value) (mg mb : Str → Option Value) (s : Shared)
set_option maxHeartbeats 8000000 in
theorem rows_spec (tape l : Addr) (at_ : Int) (ta : Tok) (nt S nf nr : Nat) (f : Nat → Int) (tf tr : Tok) (hmu : ∀ p ∈ [(tape, lobj [.ref l, .int at_ ta] nt)], s.heap.get? p.1 = some p.2)
    (X : (heapK w.params).In (gOf s [(tape, lobj [.ref l, .int at_ ta] nt)])) (T : TopL mean mg mb (gOf s [(tape, lobj [.ref l, .int at_ ta] nt)]))
    (hl : IntsF (Hv (gOf s [(tape, lobj [.ref l, .int at_ ta] nt)])) l S f) (hS : S ≤ 24) (a0 : 0 ≤ at_) (a1 : at_ ≤ 800) (hF : 1 ≤ nf ∧ nf ≤ 8) (hR : 1 ≤ nr ∧ nr ≤ 8) :
    CallsM w 7 199 [.ref tape, .int nf tf, .int nr tr] s [(tape, lobj [.ref l, .int at_ ta] nt)]
      (fun v tl => ∃ b t' tl' g, v = .ref b ∧ tl = (tape, lobj [.ref l, .int (at_ + nr) t'] nt) :: tl' ∧ RowsF (InL tl') b nr nf g ∧ ∀ p ∈ tl', p.1 ≠ tape) := by
  intro A Q E hh hdp hu hret
  refine' call_mutC (binds := [(Str.ofString "tape", .ref tape), (Str.ofString "files", .int nf tf), (Str.ofString "ranks", .int nr tr)]) hmu X T hh hdp hu ?ho ?hcd (by decide) ?hbind ?hkind ?hnd ?h ?c1 ?c2 ?c3
  case ho => with_unfolding_all k_is
  case hcd => with_unfolding_all k_is
  case hbind => exact BindsTo.of_eq rfl
  case hkind => exact rfl
  case hnd => decide +kernel
  case c1 => rfl
  case c2 => rfl
  case c3 => rfl
  intro h₁ tk₁ cells F N Y l1
  k_cells Y
  simp only [List.cons_append, List.nil_append] at N
  try dsimp only
  show wpAny _ _ _ _ _ _
  k_fold
  k_steps
  rename_i oc dc ml _ lml _ F9 N9
  have lt : @LT.lt Nat _ tape s.heap.objs.size := l1 _ (.head _)
  refine Stop.go (for_go ?_ (fun _ => rfl))
  k_steps
  (rename IsRange _ _ _ _ _ _ _ _ => R9)
  (rename Fr _ _ _ _ => F9)
  (rename News _ _ _ _ => N9)
  refine Stop.go (loop_up rfl R9 (small_of (by omega) (by omega) (.inl rfl)) F9 N9
    (fun i m news => m (Str.ofString "men") = some (.ref ml) ∧ m (Str.ofString "tape") = some (.ref tape) ∧ m (Str.ofString "files") = some (.int nf tf) ∧
      ∃ vs n oc v0 t' a' tl, news = (ml, lobj vs n) :: (s.heap.objs.size + 1, oc) :: (tape, lobj [.ref l, .int a' t'] nt) :: tl ∧ a' = at_ + (i : Int) ∧ oc.data = .cell v0 ∧ RowsV tl vs nf ∧ vs.length = i ∧ (∀ p ∈ tl, p.1 ≠ ml) ∧ (∀ p ∈ tl, p.1 ≠ s.heap.objs.size + 1) ∧ ∀ p ∈ tl, p.1 ≠ tape)
    ⟨rfl, rfl, rfl, [], 0, oc, _, ta, at_, [], rfl, by omega, dc, (fun y hy => nomatch hy), rfl, (fun p hp => nomatch hp), (fun p hp => nomatch hp), fun p hp => nomatch hp⟩ rfl rfl ?_ ?_)
  · clear R9 F9 N9 dc
    rintro i t h tk m₁ _ I oI hi ⟨hmen, htape, hfiles, vs, n, oc', v0, t', a', tl, rfl, ha, hoc, hV, hvl, o1, o2, o3⟩ F₁ N₁ hn₁
    have i1 : @Ne Nat ml I := hn₁ _ (.head _)
    have i2 : @Ne Nat (s.heap.objs.size + 1) I := hn₁ _ (.tail _ (.head _))
    have i3 : @Ne Nat tape I := hn₁ _ (.tail _ (.tail _ (.head _)))
    have hl' : IntsF (fun a o => (gOf s [(tape, lobj [.ref l, .int at_ ta] nt)]).get? a = some o ∨ (a, o) ∈ []) l S f := IntsF.mono (fun a o e => .inl e) hl
    k_steps
    (rename Fr _ _ _ _ => F9)
    refine Stop.go ?_
    refine' LCg.ListComp_U F9 ?c1 ?c2 ?c3 ?c4 ?c5 ?_ ?c6
    case c1 => with_unfolding_all rfl
    case c2 => decide
    case c3 => rfl
    case c4 => decide
    case c5 => rfl
    case c6 => intro _; rfl
    k_steps
    (rename IsRange _ _ _ _ _ _ _ _ => R9)
    (rename Fr _ _ _ _ => F9)
    (rename News _ _ _ _ => N9)
    refine Stop.go (LCg.CompSrc.range rfl F9 N9 R9 (small_of (by omega) (by omega) (.inl rfl)) (size_up nf) (by rw [PySem.sizeLine_eq]; omega) ?_)
    intro g9
    rename_i x9 t9 t2 _ _ hx0 hx1 _ _ _ o9 _ _ d9 _ _ _ _ _ _
    refine comp_inv (fun j ys nw => nw = (I, oI) :: (ml, lobj vs n) :: (s.heap.objs.size + 1, o9) :: (tape, lobj [.ref l, .int (a' + 1) t2] nt) :: tl ∧ ys.length = j ∧ ∀ q, q < j → ys[q]? = some (.bool ((x9.fdiv (2 ^ q)).fmod 2 == 1))) ⟨rfl, rfl, fun q hq => nomatch hq⟩ ?_ ?_
    · clear R9 F9 N9
      rintro j ys _ v I9 oI9 C oC D m₂ h tk E' hj ⟨rfl, hyl, hyg⟩ ⟨tv, rfl⟩ hC hx F₂ N₂ off ne
      k_steps
      (rename Fr _ _ _ _ => F9)
      (rename News _ _ _ _ => N9)
      refine Stop.go (LCg.CompEnd.intro F9 N9 _ (fun p hp => hp) off trivial ⟨rfl, by simp [hyl], fun q hq => ?_⟩)
      by_cases hqj : q < j
      · rw [List.getElem?_append_left (by omega)]; exact hyg q hqj
      · have e : q = j := by omega
        subst e
        rw [List.getElem?_append_right (by omega), hyl]; simp
    · clear R9 F9 N9
      rintro ys _ ⟨rfl, hyl, hyg⟩
      unfold LCg.FinE
      intro D h tk F₂ N₂ o1'
      simp only [LCg.Off1] at o1'
      k_steps
      (rename Fr _ _ _ _ => F9)
      (rename News _ _ _ _ => N9)
      rw [List.push_toArray] at N9
      obtain ⟨q1, q2, q3, q4, q5⟩ := o1'
      show LpEnd _ _ _ _ _ _ _
      refine lp_end ((ml, lobj (vs ++ [.ref D]) (n + 1)) :: (s.heap.objs.size + 1, o9) :: (tape, lobj [.ref l, .int (a' + 1) t2] nt) :: (D, lobj ys ys.length) :: tl) F9 N9 (by k_mem) (by lcg_sub) ?_
        ⟨hmen, htape, hfiles, _, _, _, _, _, _, _, rfl, ?_, d9, ?_, ?_, ?_, ?_, ?_⟩
      · exact List.forall_mem_cons.mpr ⟨i1, List.forall_mem_cons.mpr ⟨i2, List.forall_mem_cons.mpr ⟨i3, List.forall_mem_cons.mpr ⟨Ne.symm q1, fun p hp => hn₁ p (.tail _ (.tail _ (.tail _ hp)))⟩⟩⟩⟩
      · omega
      · intro y hy
        rw [List.length_append, List.length_singleton] at hy
        by_cases hyv : y < vs.length
        · obtain ⟨b, gy, e, hb⟩ := hV y hyv
          exact ⟨b, gy, by rw [List.getElem?_append_left hyv]; exact e, BoolsF.mono (fun a o hm => .tail _ hm) hb⟩
        · have e : y = vs.length := by omega
          subst e
          exact ⟨D, fun q => (x9.fdiv (2 ^ q)).fmod 2 == 1, by rw [List.getElem?_append_right (Nat.le_refl _)]; simp, ys, ys.length, .head _, hyl, hyg⟩
      · simp [hvl]
      · exact List.forall_mem_cons.mpr ⟨Ne.symm q2, o1⟩
      · exact List.forall_mem_cons.mpr ⟨Ne.symm q3, o2⟩
      · exact List.forall_mem_cons.mpr ⟨Ne.symm q4, o3⟩
  · clear R9 F9 N9
    rintro h tk m₁ _ ⟨hmen, htape, hfiles, vs, n, oc', v0, t', a', tl, rfl, ha, hoc, hV, hvl, o1, o2, o3⟩ F₁ N₁
    k_steps
    subst ha
    obtain ⟨g, hg⟩ := hV.rows (nr := nr) (n := n) (a := ml) (Lk := InL ((ml, lobj vs n) :: tl)) hvl (.head _) fun a o hm => .tail _ hm
    (rename Fr _ _ _ _ => F9)
    (rename News _ _ _ _ => N9)
    refine retM_ F9 N9 (fun st fr => hret _ _ _ _ st (fresh_sub fr ?_) ⟨ml, t', (ml, lobj vs n) :: tl, g, rfl, rfl, hg, List.forall_mem_cons.mpr ⟨Nat.ne_of_gt lml.2, o3⟩⟩)
    lcg_sub
end

end PartRows

end Linescomp6

end Linestake5

section Linesgeob7


section PartMasks
theorem rowsMasks15 : True := by
  k_with_none
  k_with "ble" => (first | decide | exact Nat.le_of_ble_eq_true rfl)
  k_with "exec For Name Call cons nil" => ((refine stop_ ?_))
  k_with "exec For Tuple Name cons nil" => ((refine stop_ ?_))
  k_with "exec For Tuple" => ((refine stop_ ?_))
  k_with "exec While BoolOp cons nil" => ((refine stop_ ?_))
  k_with "WhTest" => (first | refine wh_true ?_ | refine wh_false ?_)
  k_with "pyIter ref" => (((with_reducible show wpAny _ _ (pyIter (Value.ref _)) (fun it s₂ => LoopC _ _ _ _ _ _ _ it s₂) _ _); refine stop_ ?_))
  k_with "k_mem" => (assumption)
  k_with "lcg_sub" => ((intro p9 hp9; k_mem))
  k_with "k_all" => (assumption)
  k_with "size_fits" => ((rw [List.size_toArray, PySem.sizeLine_eq]; omega))
  k_with "k_ne" => ((refine neN ?_; (try dsimp only); first | assumption | exact Ne.symm (by assumption) | omega))
  k_with "k_inst" => (exact instAt_keeps (by assumption) (Fr.keep (by k_asm)))
  trivial
section
variable (w : World) (mean : ExcName → Option Value) (mg mb : Str → Option Value) (s : Shared)
set_option maxHeartbeats 8000000 in
theorem masks_spec (x : Addr) (G : GeoA) (nf nr : Nat) (hF : 2 ≤ nf ∧ nf ≤ 8) (hR : 3 ≤ nr ∧ nr ≤ 8) (hmu : ∀ p ∈ [(G.masksF, lobj [] 0), (G.masksR, lobj [] 0)], s.heap.get? p.1 = some p.2) (hne : @Ne Nat G.masksF G.masksR)
    (X : (heapK w.params).In (gOf s [(G.masksF, lobj [] 0), (G.masksR, lobj [] 0)])) (T : TopL mean mg mb (gOf s [(G.masksF, lobj [] 0), (G.masksR, lobj [] 0)]))
    (hI : PySem.W.InstAt (gOf s [(G.masksF, lobj [] 0), (G.masksR, lobj [] 0)]) x (instObj 53 G.dx) 53 (some (dictOf (G.entries w.params nf nr) 14))) :
    CallsM w 7 71 [.ref x] s [(G.masksF, lobj [] 0), (G.masksR, lobj [] 0)]
      (fun v tl => ∃ vF vR nF nR, tl = [(G.masksF, lobj vF nF), (G.masksR, lobj vR nR)] ∧ IntsV vF nf (fun f => ((maskF nf nr f : Nat) : Int)) ∧ IntsV vR nr (fun r => ((maskR nf r : Nat) : Int))) := by
  intro A Q E hh hdp hu hret
  refine' call_mut (binds := [(Str.ofString "geo", .ref x)]) hmu X T hh hdp hu ?ho ?hcd (by decide) ?hbind ?hloc ?h ?c1 ?c2 ?c3 ?c4
  case ho => with_unfolding_all k_is
  case hcd => with_unfolding_all k_is
  case hbind => exact BindsTo.of_eq rfl
  case hloc => exact locs rfl
  case c1 => rfl
  case c2 => rfl
  case c3 => rfl
  case c4 => decide
  intro h₁ tk₁ F N
  have rs := row_small nf hF.2
  try dsimp only
  show wpAny _ _ _ _ _ _
  k_fold
  k_steps
  refine Stop.go (for_go ?_ (fun _ => rfl))
  k_steps
  (rename IsRange _ _ _ _ _ _ _ _ => R9)
  (rename Fr _ _ _ _ => F9)
  (rename News _ _ _ _ => N9)
  refine Stop.go (loop_up rfl R9 (small_of (by omega) (by omega) (.inl rfl)) F9 N9
    (fun i m news => m (Str.ofString "geo") = some (.ref x) ∧ (∃ t, m (Str.ofString "row") = some (.int ((maskRow nf : Nat) : Int) t)) ∧ (∃ t, m (Str.ofString "column") = some (.int ((colOf nf i : Nat) : Int) t)) ∧
      ∃ vs n, news = [(G.masksF, lobj [] 0), (G.masksR, lobj vs n)] ∧ IntsV vs i (fun r => ((maskR nf r : Nat) : Int)))
    ⟨rfl, ⟨_, congrArg (fun z => some (Value.int z _)) (row_int nf)⟩, ⟨_, rfl⟩, [], 0, rfl, IntsV.nil⟩ rfl rfl ?_ ?_)
  · clear R9 F9 N9
    rintro i t h tk m₁ _ I oI hi ⟨hg, ⟨tr, hr⟩, ⟨tc, hc⟩, vs, n, rfl, hV⟩ F₁ N₁ hn₁
    have i1 : @Ne Nat G.masksF I := hn₁ _ (.head _)
    have i2 : @Ne Nat G.masksR I := hn₁ _ (.tail _ (.head _))
    have hvl := hV.1
    have rs' : (((maskRow nf : Nat) : Int)).natAbs < 2 ^ 64 := by rw [Int.natAbs_natCast]; exact rs
    have e1 : 0 ≤ (i : Int) * (nf : Int) := Int.mul_nonneg (by omega) (by omega)
    have e2 : (i : Int) * (nf : Int) ≤ 8 * 8 := Int.mul_le_mul (by omega) (by omega) (by omega) (by omega)
    k_steps
    (rename Fr _ _ _ _ => F9)
    (rename News _ _ _ _ => N9)
    rw [List.push_toArray] at N9
    show LpEnd _ _ _ _ _ _ _
    refine' lp_end _ F9 N9 (by k_mem) ?hs ?hne ⟨hg, ⟨_, hr⟩, ⟨_, congrArg (fun z => some (Value.int z _)) ?hcol⟩, _, _, rfl, hV.snoc ?hx⟩
    case hs => lcg_sub
    case hne => exact List.forall_mem_cons.mpr ⟨i1, List.forall_mem_cons.mpr ⟨i2, fun p hp => nomatch hp⟩⟩
    case hcol => rw [one_shl, toNat_mul, bn_or]; rfl
    case hx => rw [shl_int]; rfl
  · clear R9 F9 N9
    rintro h tk m₁ _ ⟨hg, ⟨tr, hr⟩, ⟨tc, hc⟩, vs, n, rfl, hV⟩ F₁ N₁
    have cs := col_small nf hF.2 nr hR.2
    have cs' : (((colOf nf nr : Nat) : Int)).natAbs < 2 ^ 64 := by rw [Int.natAbs_natCast]; exact cs
    k_steps
    refine Stop.go (for_go ?_ (fun _ => rfl))
    k_steps
    (rename IsRange _ _ _ _ _ _ _ _ => R9)
    (rename Fr _ _ _ _ => F9)
    (rename News _ _ _ _ => N9)
    refine Stop.go (loop_up rfl R9 (small_of (by omega) (by omega) (.inl rfl)) F9 N9
      (fun i m news => m (Str.ofString "geo") = some (.ref x) ∧ (∃ t, m (Str.ofString "column") = some (.int ((colOf nf nr : Nat) : Int) t)) ∧
        ∃ vs' n', news = [(G.masksF, lobj vs' n'), (G.masksR, lobj vs n)] ∧ IntsV vs' i (fun f => ((maskF nf nr f : Nat) : Int)))
      ⟨hg, ⟨_, hc⟩, [], 0, rfl, IntsV.nil⟩ rfl rfl ?_ ?_)
    · clear R9 F9 N9
      rintro i t h tk m₁ _ I oI hi ⟨hg, ⟨tc, hc⟩, vs', n', rfl, hV'⟩ F₁ N₁ hn₁
      have i1 : @Ne Nat G.masksF I := hn₁ _ (.head _)
      have i2 : @Ne Nat G.masksR I := hn₁ _ (.tail _ (.head _))
      have hvl := hV'.1
      k_steps
      (rename Fr _ _ _ _ => F9)
      (rename News _ _ _ _ => N9)
      rw [List.push_toArray] at N9
      show LpEnd _ _ _ _ _ _ _
      refine' lp_end _ F9 N9 (by k_mem) ?hs ?hne ⟨hg, ⟨_, hc⟩, _, _, rfl, hV'.snoc ?hx⟩
      case hs => lcg_sub
      case hne => exact List.forall_mem_cons.mpr ⟨i1, List.forall_mem_cons.mpr ⟨i2, fun p hp => nomatch hp⟩⟩
      case hx => rw [shl_int1]; rfl
    · clear R9 F9 N9
      rintro h tk m₁ _ ⟨hg, ⟨tc, hc⟩, vs', n', rfl, hV'⟩ F₁ N₁
      k_steps
      (rename Fr _ _ _ _ => F9)
      (rename News _ _ _ _ => N9)
      exact retM_ F9 N9 (fun st fr => hret _ _ _ _ st fr ⟨_, _, _, _, rfl, hV', hV⟩)
end

end PartMasks

section PartRays
theorem rowsRays16 : True := by
  k_with_none
  k_with "ble" => (first | decide | exact Nat.le_of_ble_eq_true rfl)
  k_with "exec For Name Call cons nil" => ((refine stop_ ?_))
  k_with "exec For Tuple Name cons nil" => ((refine stop_ ?_))
  k_with "exec For Tuple" => ((refine stop_ ?_))
  k_with "exec While BoolOp cons nil" => ((refine stop_ ?_))
  k_with "WhTest" => (first | refine wh_true ?_ | refine wh_false ?_)
  k_with "pyIter ref" => (((with_reducible show wpAny _ _ (pyIter (Value.ref _)) (fun it s₂ => LoopC _ _ _ _ _ _ _ it s₂) _ _); refine stop_ ?_))
  k_with "k_mem" => (assumption)
  k_with "lcg_sub" => ((intro p9 hp9; k_mem))
  k_with "k_all" => (assumption)
  k_with "size_fits" => ((rw [List.size_toArray, PySem.sizeLine_eq]; omega))
  k_with "k_ne" => ((refine neN ?_; (try dsimp only); first | assumption | exact Ne.symm (by assumption) | omega))
  k_with "k_inst" => (exact instAt_keeps (by assumption) (Fr.keep (by k_asm)))
  trivial
theorem get_ints {w : World} {A : Around} {E : Value → Shared → Prop} {s : Shared} {prog : Program} {Lk : Look} {a : Addr} {S : Nat} {f : Nat → Int} {k : Int} {u : Tok} {Q : Value → Shared → Prop} (H : IntsF Lk a S f) (up : ∀ a o, Lk a o → s.heap.get? a = some o) (h0 : 0 ≤ k) (h1 : k < (S : Int)) (hS : S ≤ 1000)
    (hq : ∀ t, Q (.int (f k.toNat) t) s) : wpAny (model prog w) A (getItem (.ref a) (.int k u)) Q E s := by
  obtain ⟨vs, n, h, hl, hv⟩ := H
  obtain ⟨t, e⟩ := hv k.toNat (by omega)
  exact wpAny_getItem_list (isList_of (up _ _ h)) h0 (by omega) (by simpa using e) (hq t)
def IfPost (h₀ : Heap) (L : Addr) (J : (Str → Option Value) → List (Addr × Obj) → Prop) (s₀ : Shared) (f : Flow) (s₃ : Shared) : Prop :=
  f = .next ∧ ∃ h' tk' m' news', s₃ = { s₀ with heap := h', toks := tk' } ∧ Fr h₀ L h' m' ∧ News h₀ L h' news' ∧ J m' news'
theorem if_post {h₀ : Heap} {L : Addr} {J : (Str → Option Value) → List (Addr × Obj) → Prop} {s₀ : Shared} {h' : Heap} {tk' : Nat} {m' : Str → Option Value} {all : List (Addr × Obj)} (news' : List (Addr × Obj)) (F : Fr h₀ L h' m') (N : News h₀ L h' all) (hs : ∀ p ∈ news', p ∈ all) (hJ : J m' news') :
    IfPost h₀ L J s₀ .next { s₀ with heap := h', toks := tk' } := ⟨rfl, h', tk', m', news', rfl, F, fun p hp => N p (hs p hp), hJ⟩
local macro_rules | `(tactic| walk_at "call type:range") => `(tactic| (k_here; (with_reducible show wpAny _ _ (call _ [Value.int _ _]) _ _ _); k_dflt (refine' range1_led ?F ?N ?_; (case F => k_asm); (case N => k_asm); k_whole); intro r' h' tk' t' u' v' F' N' l1; (try k_lt l1); (try k_sweep)))
local macro_rules | `(tactic| walk_at "call type:range") => `(tactic| (k_here; (with_reducible show wpAny _ _ (call _ [Value.int _ _, Value.int _ _, Value.int _ _]) _ _ _); k_dflt (refine' range3_led ?F ?N ?_ ?hp; (case F => k_asm); (case N => k_asm); (case hp => exact PyProof.noPylong_small (by omega)); k_whole); intro r' h' tk' t' u' v' F' N' l1; (try k_lt l1); (try k_sweep)))
local macro_rules | `(tactic| walk_at "getItem ref int") => `(tactic| (k_here; (with_reducible show wpAny _ _ (getItem (Value.ref _) (Value.int _ _)) _ _ _); k_dflt (refine' get_ints ?H (inl_up ?N ?hK) ?h0 ?h1 ?hS ?_; (case H => assumption); (case N => k_asm); (case hK => lcg_sub); (case h0 => omega); (case h1 => omega); (case hS => omega); k_whole; intro t')))
local macro_rules | `(tactic| walk_at "setItem ref int") => `(tactic| (k_here; (with_reducible show wpAny _ _ (setItem (Value.ref _) (Value.int _ _) (Value.int _ _)) _ _ _); k_dflt (refine' set_led ?F ?N ?U rfl ?h0 ?h1 ?hf ?_; (case F => k_asm); (case N => k_asm); (case U => k_upd); (case h0 => omega); (case h1 => omega); (case hf => omega); k_whole); intro h' F' N'; (try k_sweep)))
theorem rowsRays17 : True := by
  k_with "exec For Name Name cons nil" => ((refine stop_ ?_))
  k_with "call ref" => (((with_reducible show wpAny _ _ (call (Value.ref 78) _) _ _ _); refine stop_ ?_))
  k_with "call ref" => (((with_reducible show wpAny _ _ (call (Value.ref 64) _) _ _ _); refine stop_ ?_))
  k_with "exec If" => (((with_reducible show wpAny _ _ (exec (Stmt.If (Expr.Call _ _ _ _) _ _ _) _) _ _ _); refine stop_ ?_))
  k_with "ite" => ((refine stop_ ?_))
  k_with "ints" => (assumption)
  k_with "up" => (exact inl_up (by k_asm) (by lcg_sub))
  trivial
def Order (S : Nat) (g : Bool) (a b c : Int) (sqOf : Nat → Nat) (D : Nat → Nat → Bool) : Prop :=
  Builtin.Range.small a b c = true ∧ Builtin.Range.rangeSize a b c = (S : Int) ∧ (∀ i, i < S → a + (i : Int) * c = (sqOf i : Int)) ∧ (∀ i, i < S → sqOf i < S) ∧ (∀ q, q < S → D 0 q = false) ∧ (∀ q, q < S → D S q = true) ∧
  (∀ i q, i < S → q < S → D (i + 1) q = (if q = sqOf i then true else D i q)) ∧ (∀ i, i < S → D i (sqOf i) = false) ∧ ∀ i q, i < S → q < S → (if g then sqOf i < q else q < sqOf i) → D i q = true
theorem order_at {h : Heap} {r : Addr} {a b c : Int} {t u v : Tok} {S : Nat} {g : Bool} (hS : S ≤ 64) (e : h.get? r = some (rangeObj a b c t u v)) (q : (a = (S : Int) - 1 ∧ b = -1 ∧ c = -1 ∧ g = true) ∨ (a = 0 ∧ b = (S : Int) ∧ c = 1 ∧ g = false)) :
    IsRange h r a b c t u v ∧ ∃ sqOf D, Order S g a b c sqOf D := by
  refine ⟨e, ?_⟩
  rcases q with ⟨rfl, rfl, rfl, rfl⟩ | ⟨rfl, rfl, rfl, rfl⟩
  · refine ⟨fun i => S - 1 - i, fun i q => decide (S - i ≤ q), small_of (by omega) (by omega) (.inr rfl), ?_, ?_, ?_, ?_, ?_, ?_, ?_, ?_⟩
    · rw [rangeSize_down]; split <;> omega
    · intro i hi; dsimp only; omega
    · intro i hi; dsimp only; omega
    · intro q hq; exact decide_eq_false (by omega)
    · intro q hq; exact decide_eq_true (by omega)
    · intro i q hi hq
      dsimp only
      split
      · exact decide_eq_true (by omega)
      · exact decide_eq_decide.mpr (by omega)
    · intro i hi; exact decide_eq_false (by dsimp only; omega)
    · intro i q hi hq hl; rw [if_pos rfl] at hl; dsimp only at hl; exact decide_eq_true (by omega)
  · refine ⟨fun i => i, fun i q => decide (q < i), small_of (by omega) (by omega) (.inl rfl), ?_, ?_, ?_, ?_, ?_, ?_, ?_, ?_⟩
    · exact size_up S
    · intro i hi; dsimp only; omega
    · intro i hi; exact hi
    · intro q hq; exact decide_eq_false (by omega)
    · intro q hq; exact decide_eq_true (by omega)
    · intro i q hi hq
      dsimp only
      split
      · exact decide_eq_true (by omega)
      · exact decide_eq_decide.mpr (by omega)
    · intro i hi; exact decide_eq_false (by dsimp only; omega)
    · intro i q hi hq hl; rw [if_neg (by decide)] at hl; dsimp only at hl; exact decide_eq_true (by omega)
theorem pick_tok {h₀ h : Heap} {L ra : Addr} {S : Nat} {t : Tok} {a b : Addr × Obj} {rest : List (Addr × Obj)} (N : News h₀ L h (a :: (ra, lobj (List.replicate S (.int 0 t)) 0) :: b :: rest)) : ∃ tt, News h₀ L h (a :: (ra, lobj (List.replicate S (.int 0 tt)) 0) :: b :: rest) := ⟨t, N⟩
def RaysV (tl : List (Addr × Obj)) (vr : List Value) (nf nr : Nat) : Prop := ∀ d, d < vr.length → ∃ b, vr[d]? = some (.ref b) ∧ IntsF (InL tl) b (nf * nr) (fun q => ((rayW nf nr d q : Nat) : Int))
theorem RaysV.snoc {tl : List (Addr × Obj)} {vr v2 : List Value} {nf nr n2 : Nat} {ra : Addr} (h : RaysV tl vr nf nr) (hv : IntsV v2 (nf * nr) (fun q => ((rayW nf nr vr.length q : Nat) : Int))) : RaysV ((ra, lobj v2 n2) :: tl) (vr ++ [.ref ra]) nf nr := by
  intro d hd
  rw [List.length_append, List.length_singleton] at hd
  by_cases hlt : d < vr.length
  · obtain ⟨b, e, hb⟩ := h d hlt
    exact ⟨b, by rw [List.getElem?_append_left hlt]; exact e, IntsF.mono (fun a o e => .tail _ e) hb⟩
  · have e : d = vr.length := by omega
    subst e
    exact ⟨ra, by rw [List.getElem?_append_right (Nat.le_refl _)]; simp, hv.ints (.head _)⟩
section
variable (w : World) (mean : ExcName → Option Value) (mg mb : Str → Option Value) (s : Shared)
abbrev raysMu (P : Params) (x : Addr) (G : GeoA) (nf nr : Nat) : List (Addr × Obj) := [(x, instObj 53 G.dx), (G.dx, dictOf (G.entries P nf nr) 14), (G.rays, lobj [] 0)]
set_option maxHeartbeats 16000000 in
theorem rays_spec (x : Addr) (G : GeoA) (nf nr : Nat) (hF : 2 ≤ nf ∧ nf ≤ 8) (hR : 3 ≤ nr ∧ nr ≤ 8) (hmu : ∀ p ∈ raysMu w.params x G nf nr, s.heap.get? p.1 = some p.2)
    (n1 : @Ne Nat x G.dx) (n2 : @Ne Nat x G.rays) (n3 : @Ne Nat G.dx G.rays)
    (X : (heapK w.params).In (gOf s (raysMu w.params x G nf nr))) (T : TopL mean mg mb (gOf s (raysMu w.params x G nf nr)))
    (hs : G.size = ((nf * nr : Nat) : Int)) (hf : G.full = ((fullN nf nr : Nat) : Int))
    (HF : IntsF (Hv (gOf s (raysMu w.params x G nf nr))) G.masksF nf (fun f => ((maskF nf nr f : Nat) : Int))) (HR : IntsF (Hv (gOf s (raysMu w.params x G nf nr))) G.masksR nr (fun r => ((maskR nf r : Nat) : Int))) :
    CallsM w 6 85 [.ref x] s (raysMu w.params x G nf nr)
      (fun _ tl => ∃ k2 vk nk vr n tl', tl = (k2, lobj vk nk) :: (x, instObj 53 G.dx) :: (G.dx, dictOf (({ G with king := k2 } : GeoA).entries w.params nf nr) 14) :: (G.rays, lobj vr n) :: tl' ∧
        IntsV vk (nf * nr) (fun q => ((kingN nf nr 8 q : Nat) : Int)) ∧ RaysV tl' vr nf nr ∧ vr.length = 8 ∧ ((@Ne Nat k2 x) ∧ (@Ne Nat k2 G.dx) ∧ (@Ne Nat k2 G.rays)) ∧ (∀ p ∈ tl', p.1 ≠ x) ∧ (∀ p ∈ tl', p.1 ≠ G.dx)) := by
  intro A Q E hh hdp hu hret
  refine' call_mut (binds := [(Str.ofString "geo", .ref x)]) hmu X T hh hdp hu ?ho ?hcd (by decide) ?hbind ?hloc ?h ?c1 ?c2 ?c3 ?c4
  case ho => with_unfolding_all k_is
  case hcd => with_unfolding_all k_is
  case hbind => exact BindsTo.of_eq rfl
  case hloc => exact locs rfl
  case c1 => rfl
  case c2 => rfl
  case c3 => rfl
  case c4 => decide
  intro h₁ tk₁ F N
  have eS : nf * nr ≤ 64 := Nat.mul_le_mul hF.2 hR.2
  obtain ⟨S, hSd⟩ : ∃ S, S = nf * nr := ⟨_, rfl⟩
  rw [← hSd] at hs eS
  have e1 : 0 ≤ G.size := by omega
  have e2 : G.size ≤ 64 := by omega
  have N : News (gOf s (raysMu w.params x G nf nr)) s.heap.objs.size h₁ [(x, instObj 53 G.dx), (G.dx, dictOf (G.entries w.params nf nr) 14), (G.rays, lobj [] 0)] := N
  try dsimp only
  show wpAny _ _ _ _ _ _
  k_fold
  k_steps
  (rename Fr _ _ _ _ => F9)
  (rename News _ _ _ _ => N9)
  rename_i _ _ o1 k2 _ _ _ _ _ _ _ o2 _
  have eSz : G.size.toNat = S := by omega
  rw [eSz] at N9
  have hfl : ∀ t : Tok, (List.replicate S [Value.int 0 t]).flatten = List.replicate S (Value.int 0 t) := fun t => List.flatten_replicate_singleton
  rw [hfl] at N9
  have q1 : @Ne Nat x k2 := Nat.ne_of_lt o2.2.1
  have q2 : @Ne Nat G.dx k2 := Nat.ne_of_lt o2.2.2.1
  have q3 : @Ne Nat G.rays k2 := Nat.ne_of_lt o2.2.2.2
  obtain ⟨G2, hent, g1, g2, g3, g4, g5, g6, g7⟩ : ∃ G2 : GeoA, G2.entries w.params nf nr = ({ G with king := k2 } : GeoA).entries w.params nf nr ∧ G2.dx = G.dx ∧ G2.rays = G.rays ∧ G2.size = (S : Int) ∧ G2.masksF = G.masksF ∧ G2.masksR = G.masksR ∧ G2.full = ((fullN nf nr : Nat) : Int) ∧ G2.king = k2 :=
    ⟨{ G with king := k2 }, rfl, rfl, rfl, hs, rfl, rfl, hf, rfl⟩
  have eSz2 : G2.size.toNat = S := by omega
  subst g7
  refine Stop.go (for_go ?_ (fun _ => rfl))
  k_steps
  refine Stop.go ?_
  (rename Fr _ _ _ _ => F8)
  (rename News _ _ _ _ => N8)
  rename_i r9 _ _ _ _ _ _
  have R9 : IsRange _ r9 0 ((8 : Nat) : Int) 1 _ _ _ := (N8 _ (.head _)).1
  refine loop_up rfl R9 (by decide) F8 (news_sub (news := [(G2.king, lobj (List.replicate S (.int 0 tk₁)) 0), (x, instObj 53 G2.dx), (G2.dx, dictOf (G2.entries w.params nf nr) 14), (G2.rays, lobj [] 0)]) N8 ?sub0)
    (fun d m news => m (Str.ofString "geo") = some (.ref x) ∧ ∃ vk nk vr n tl, news = (G2.king, lobj vk nk) :: (x, instObj 53 G2.dx) :: (G2.dx, dictOf (G2.entries w.params nf nr) 14) :: (G2.rays, lobj vr n) :: tl ∧
      IntsV vk S (fun q => ((kingN nf nr d q : Nat) : Int)) ∧ RaysV tl vr nf nr ∧ vr.length = d ∧ (∀ p ∈ tl, p.1 ≠ G2.king) ∧ (∀ p ∈ tl, p.1 ≠ x) ∧ (∀ p ∈ tl, p.1 ≠ G2.dx) ∧ (∀ p ∈ tl, p.1 ≠ G2.rays))
    ⟨rfl, _, _, [], 0, [], rfl, IntsV.rep, (fun d hd => nomatch hd), rfl, (fun p hp => nomatch hp), (fun p hp => nomatch hp), (fun p hp => nomatch hp), fun p hp => nomatch hp⟩ rfl rfl ?_ ?_
  case sub0 => rw [hent, g1, g2]; lcg_sub
  · clear R9 F8 N8
    rintro d t h tk m₁ _ I oI hd ⟨hg, vk, nk, vr, n, tl, rfl, hK, hV, hvl, f1, f2, f3, f4⟩ F₁ N₁ hn₁
    have i1 : @Ne Nat G2.king I := hn₁ _ (.head _)
    have i2 : @Ne Nat x I := hn₁ _ (.tail _ (.head _))
    have i3 : @Ne Nat G2.dx I := hn₁ _ (.tail _ (.tail _ (.head _)))
    have i4 : @Ne Nat G2.rays I := hn₁ _ (.tail _ (.tail _ (.tail _ (.head _))))
    rw [← g1] at n1 n3 q2
    rw [← g2] at n2 n3 q3
    k_steps
    refine Stop.go ?_
    (rename Fr _ _ _ _ => F8)
    (rename News _ _ _ _ => N8)
    refine use0 (inner_spec w mean mg mb _ (X.keeps (Fr.keep F8)) (Top.keeps T (Fr.keep F8)) x G2 nf nr hF hR (InstAt.of_news N8 (by k_mem) (by k_mem)) g6 (by rw [g4]; exact IntsF.mono (Fr.keep F8) HF) (by rw [g5]; exact IntsF.mono (Fr.keep F8) HR) d _ (by omega) (by omega)) F8 N8 rfl (by decide) (by decide) ?_
    clear F8 N8
    rintro v' tl' h' tk' F' N' ⟨ti, rfl⟩
    try dsimp only
    show wpAny _ _ _ _ _ _
    k_steps
    refine Stop.go ?_
    (rename Fr _ _ _ _ => F8)
    (rename News _ _ _ _ => N8)
    rename_i ra _ _ _ _ _ _ _ ora _ _ r8 _ _ _ _ _ or8 _
    rw [eSz2, hfl] at N8
    obtain ⟨tt, N6⟩ := pick_tok N8
    clear N8
    refine Stop.go (wpAny_mono (Q := IfPost (gOf s (raysMu w.params x G nf nr)) s.heap.objs.size (fun m nw => m (Str.ofString "geo") = some (.ref x) ∧ (∃ t, m (Str.ofString "inner") = some (.int ((innerN nf nr d : Nat) : Int) t)) ∧ (∃ t, m (Str.ofString "delta") = some (.int (deltaD nf d) t)) ∧ m (Str.ofString "ray") = some (.ref ra) ∧
      ∃ r a b c t u v, m (Str.ofString "order") = some (.ref r) ∧ nw = (r, rangeObj a b c t u v) :: (ra, lobj (List.replicate S (.int 0 tt)) 0) :: (I, oI) :: (G2.king, lobj vk nk) :: (x, instObj 53 G2.dx) :: (G2.dx, dictOf (G2.entries w.params nf nr) 14) :: (G2.rays, lobj vr n) :: tl ∧
        ((a = (S : Int) - 1 ∧ b = -1 ∧ c = -1 ∧ growing (d : Int) = true) ∨ (a = 0 ∧ b = (S : Int) ∧ c = 1 ∧ growing (d : Int) = false))) { s with heap := h, toks := tk }) (wpAny_If ?_) ?_ (fun _ _ z => z))
    · k_steps
      refine Stop.go ?_
      refine use0 (is_growing_spec w mean mg mb _ (X.keeps (Fr.keep F8)) (Top.keeps T (Fr.keep F8)) d _ (by omega) (by omega)) F8 N6 rfl (by decide) (by decide) ?_
      clear F8 N6
      rintro v' tl' h' tk' F' N' rfl
      try dsimp only
      show wpAny _ _ _ _ _ _
      k_steps
      refine Stop.go ?_
      cases hgr : growing (d : Int)
      · rw [if_neg Bool.false_ne_true]
        k_steps
        (rename Fr _ _ _ _ => F8)
        (rename News _ _ _ _ => N8)
        exact if_post _ F8 N8 (by lcg_sub) ⟨hg, ⟨_, rfl⟩, ⟨_, rfl⟩, rfl, _, _, _, _, _, _, _, rfl, rfl, .inr ⟨rfl, g3, rfl, by trivial⟩⟩
      · rw [if_pos rfl]
        k_steps
        (rename Fr _ _ _ _ => F8)
        (rename News _ _ _ _ => N8)
        exact if_post _ F8 N8 (by lcg_sub) ⟨hg, ⟨_, rfl⟩, ⟨_, rfl⟩, rfl, _, _, _, _, _, _, _, rfl, rfl, .inl ⟨by rw [g3], rfl, rfl, by trivial⟩⟩
    · clear F8 N6
      rintro f s₃ ⟨rfl, h', tk', m', nw, rfl, F', N', hg, ⟨ti, hin⟩, ⟨tdl, hdl⟩, hray, r, a, b, c, t9, u9, v9, hor, rfl, hO⟩
      show wpAny _ _ _ _ _ _
      k_steps
      refine Stop.go (for_go ?_ (fun _ => rfl))
      k_steps
      refine Stop.go ?_
      (rename Fr _ _ _ _ => F8)
      (rename News _ _ _ _ => N8)
      obtain ⟨R9, sqOf, D, ⟨w1, w2, w3, w4, w5, w6, w7, w8, w9⟩⟩ := order_at (g := growing (d : Int)) eS (N8 _ (.head _)).1 hO
      have N7 := news_sub (news := (ra, lobj (List.replicate S (.int 0 tt)) 0) :: (I, oI) :: (G2.king, lobj vk nk) :: (x, instObj 53 G2.dx) :: (G2.dx, dictOf (G2.entries w.params nf nr) 14) :: (G2.rays, lobj vr n) :: tl) N8 (by lcg_sub)
      refine loop_range rfl R9 w1 w2 F8 N7
        (fun i m news => m (Str.ofString "geo") = some (.ref x) ∧ (∃ t, m (Str.ofString "inner") = some (.int ((innerN nf nr d : Nat) : Int) t)) ∧ (∃ t, m (Str.ofString "delta") = some (.int (deltaD nf d) t)) ∧ m (Str.ofString "ray") = some (.ref ra) ∧
          ∃ v2 n2 vk nk, news = (ra, lobj v2 n2) :: (I, oI) :: (G2.king, lobj vk nk) :: (x, instObj 53 G2.dx) :: (G2.dx, dictOf (G2.entries w.params nf nr) 14) :: (G2.rays, lobj vr n) :: tl ∧
            IntsV v2 S (fun q => if D i q then ((rayW nf nr d q : Nat) : Int) else 0) ∧ IntsV vk S (fun q => if D i q then ((kingN nf nr (d + 1) q : Nat) : Int) else ((kingN nf nr d q : Nat) : Int)))
        ⟨hg, ⟨_, hin⟩, ⟨_, hdl⟩, hray, _, _, _, _, rfl, ?iv1, ?iv2⟩ rfl rfl ?tn ?dn
      case iv1 => exact IntsV.rep.congr (fun q hq => by rw [w5 q hq]; rfl)
      case iv2 => exact hK.congr (fun q hq => by rw [w5 q hq]; rfl)
      case tn =>
        clear R9 F8 N8 N7
        rintro i t' h tk m₁ _ I' oI' hi ⟨hg, ⟨ti, hin⟩, ⟨tdl, hdl⟩, hray, v2, n2, vk', nk', rfl, hV2, hK2⟩ F₁ N₁ hn₁
        rw [w3 i hi] at F₁
        have j0 : @Ne Nat ra I' := hn₁ _ (.head _)
        have j1 : @Ne Nat I I' := hn₁ _ (.tail _ (.head _))
        have j2 : @Ne Nat G2.king I' := hn₁ _ (.tail _ (.tail _ (.head _)))
        have s1 := w4 i hi
        have s2 := w7 i
        have s3 := w8 i hi
        have s4 := w9 i
        have hvl2 := hV2.1
        have hvlk := hK2.1
        have hI2 : IntsF (InL [(ra, lobj v2 n2)]) ra S _ := hV2.ints (.head _)
        have hIk : IntsF (InL [(G2.king, lobj vk' nk')]) G2.king S _ := hK2.ints (.head _)
        generalize sqOf i = sq at *
        k_steps
        refine Stop.go ?_
        rw [bit_int]
        cases hb : (innerN nf nr d).testBit sq
        · rw [if_neg (by decide)]
          k_steps
          (rename Fr _ _ _ _ => F9)
          (rename News _ _ _ _ => N9)
          show LpEnd _ _ _ _ _ _ _
          refine lp_end _ F9 N9 (.head _) (by lcg_sub) hn₁ ⟨hg, ⟨_, hin⟩, ⟨_, hdl⟩, hray, _, _, _, _, rfl, ?_, ?_⟩
          · refine hV2.congr fun q hq => ?_
            rw [s2 q hi hq]
            by_cases e : q = sq
            · subst e
              rw [if_pos rfl, s3, if_pos rfl, ray_no hb]; rfl
            · rw [if_neg e]
          · refine hK2.congr fun q hq => ?_
            rw [s2 q hi hq]
            by_cases e : q = sq
            · subst e
              rw [if_pos rfl, s3, if_pos rfl, kingN, hb]; rfl
            · rw [if_neg e]
        · rw [if_pos (by decide)]
          obtain ⟨p1, p2, p3, p4⟩ := ray_at hF hR (by omega) (by omega) hb
          have p5 : (sq : Int) + deltaD nf d = (goalN nf d sq : Int) := (Int.toNat_of_nonneg p1).symm
          have p6 := s4 (goalN nf d sq) hi (by omega) p3
          have p7 : goalN nf d sq < S := by omega
          k_steps
          (rename Fr _ _ _ _ => F9)
          (rename News _ _ _ _ => N9)
          show LpEnd _ _ _ _ _ _ _
          refine lp_end _ F9 N9 (.head _) (by lcg_sub) ?_ ⟨hg, ⟨_, hin⟩, ⟨_, hdl⟩, hray, _, _, _, _, rfl, hV2.set (by omega) ?_, hK2.set (by omega) ?_⟩
          · exact List.forall_mem_cons.mpr ⟨j0, List.forall_mem_cons.mpr ⟨j1, List.forall_mem_cons.mpr ⟨j2, fun p hp => hn₁ p (.tail _ (.tail _ (.tail _ hp)))⟩⟩⟩
          · intro q hq
            rw [s2 q hi hq, Int.toNat_natCast]
            by_cases e : q = sq
            · subst e
              rw [if_pos rfl, if_pos rfl, if_pos rfl, p5, Int.toNat_natCast, p6, if_pos rfl, one_shl, bn_or, ← p4]
            · rw [if_neg e, if_neg e]
          · intro q hq
            rw [s2 q hi hq, Int.toNat_natCast]
            by_cases e : q = sq
            · subst e
              rw [if_pos rfl, if_pos rfl, if_pos rfl, p5, Int.toNat_natCast, s3, if_neg Bool.false_ne_true, one_shl, bn_or, kingN, hb, if_pos rfl]
            · rw [if_neg e, if_neg e]
      case dn =>
        clear R9 F8 N8 N7
        rintro h tk m₁ _ ⟨hg, ⟨ti, hin⟩, ⟨tdl, hdl⟩, hray, v2, n2, vk', nk', rfl, hV2, hK2⟩ F₁ N₁
        k_steps
        (rename Fr _ _ _ _ => F9)
        (rename News _ _ _ _ => N9)
        rw [List.push_toArray] at N9
        have hK3 := hK2.congr (f2 := fun q => ((kingN nf nr (d + 1) q : Nat) : Int)) (fun q hq => by rw [w6 q hq]; rfl)
        have hV3 := hV2.congr (f2 := fun q => ((rayW nf nr vr.length q : Nat) : Int)) (fun q hq => by rw [w6 q hq, hvl]; rfl)
        rw [hSd] at hV3
        show LpEnd _ _ _ _ _ _ _
        refine lp_end ((G2.king, lobj vk' nk') :: (x, instObj 53 G2.dx) :: (G2.dx, dictOf (G2.entries w.params nf nr) 14) :: (G2.rays, lobj (vr ++ [.ref ra]) (n + 1)) :: (ra, lobj v2 n2) :: tl) F9 N9 (by k_mem) (by lcg_sub) ?_
          ⟨hg, _, _, _, _, _, rfl, hK3, hV.snoc hV3, by simp [hvl], ?_, ?_, ?_, ?_⟩
        · exact List.forall_mem_cons.mpr ⟨i1, List.forall_mem_cons.mpr ⟨i2, List.forall_mem_cons.mpr ⟨i3, List.forall_mem_cons.mpr ⟨i4, List.forall_mem_cons.mpr ⟨Nat.ne_of_gt ora.2.1, fun p hp => hn₁ p (.tail _ (.tail _ (.tail _ (.tail _ hp))))⟩⟩⟩⟩⟩
        · exact List.forall_mem_cons.mpr ⟨Nat.ne_of_gt ora.2.2.1, f1⟩
        · exact List.forall_mem_cons.mpr ⟨Nat.ne_of_gt ora.2.2.2.1, f2⟩
        · exact List.forall_mem_cons.mpr ⟨Nat.ne_of_gt ora.2.2.2.2.1, f3⟩
        · exact List.forall_mem_cons.mpr ⟨Nat.ne_of_gt ora.2.2.2.2.2.1, f4⟩
  · clear R9 F8 N8
    rintro h tk m₁ _ ⟨hg, vk, nk, vr, n, tl, rfl, hK, hV, hvl, f1, f2, f3, f4⟩ F₁ N₁
    k_steps
    (rename Fr _ _ _ _ => F9)
    (rename News _ _ _ _ => N9)
    rw [hSd] at hK
    refine retM_ F9 N9 (fun st fr => hret _ _ _ _ st fr ⟨G2.king, vk, nk, vr, n, tl, ?_, hK, hV, hvl, ⟨Ne.symm q1, Ne.symm q2, Ne.symm q3⟩, f2, ?_⟩)
    · rw [hent, g1, g2]
    · rw [← g1]; exact f3
end

end PartRays

section PartPawns
local macro_rules | `(tactic| walk_at "subscriptTail") => `(tactic| (k_here; (with_reducible show wpAny _ _ (subscriptTail _ _ (Value.ref _) (Value.int _ _)) _ _ _); k_dflt (first
  | (refine' sub_list ?h ?h0 ?h1 ?hv ?_ ?hs; (case h => exact Fr.keep (by k_asm) _ _ (by assumption)); (case h0 => decide); (case h1 => decide); (case hv => rfl); (case hs => with_unfolding_all rfl); k_whole))))
theorem rowsPawns18 : True := by
  k_with_none
  k_with "ble" => (first | decide | exact Nat.le_of_ble_eq_true rfl)
  k_with "exec For Name Call cons nil" => ((refine stop_ ?_))
  k_with "exec For Tuple Name cons nil" => ((refine stop_ ?_))
  k_with "exec For Tuple" => ((refine stop_ ?_))
  k_with "exec While BoolOp cons nil" => ((refine stop_ ?_))
  k_with "WhTest" => (first | refine wh_true ?_ | refine wh_false ?_)
  k_with "pyIter ref" => (((with_reducible show wpAny _ _ (pyIter (Value.ref _)) (fun it s₂ => LoopC _ _ _ _ _ _ _ it s₂) _ _); refine stop_ ?_))
  k_with "k_mem" => (assumption)
  k_with "lcg_sub" => ((intro p9 hp9; k_mem))
  k_with "k_all" => (assumption)
  k_with "size_fits" => ((rw [List.size_toArray, PySem.sizeLine_eq]; omega))
  k_with "k_ne" => ((refine neN ?_; (try dsimp only); first | assumption | exact Ne.symm (by assumption) | omega))
  k_with "k_inst" => (exact instAt_keeps (by assumption) (Fr.keep (by k_asm)))
  k_with "refs" => (assumption)
  k_with "ints" => (assumption)
  k_with "up" => (exact fun a o e => Fr.keep (by k_asm) a o e)
  trivial
def pawnN (nf nr c q : Nat) : Nat := kingN nf nr 8 q &&& (if c = 0 then rayW nf nr 4 q ||| rayW nf nr 7 q else rayW nf nr 5 q ||| rayW nf nr 6 q)
abbrev pawnMu (p0 p1 : Addr) : List (Addr × Obj) := [(p0, lobj [] 0), (p1, lobj [] 0)]
section
variable (w : World) (mean : ExcName → Option Value) (mg mb : Str → Option Value) (s : Shared)
set_option maxHeartbeats 8000000 in
theorem pawns_spec (x p0 p1 : Addr) (np : Nat) (G : GeoA) (nf nr S : Nat) (eS : S ≤ 64) (hmu : ∀ p ∈ pawnMu p0 p1, s.heap.get? p.1 = some p.2) (hne : @Ne Nat p0 p1)
    (X : (heapK w.params).In (gOf s (pawnMu p0 p1))) (T : TopL mean mg mb (gOf s (pawnMu p0 p1)))
    (hI : PySem.W.InstAt (gOf s (pawnMu p0 p1)) x (instObj 53 G.dx) 53 (some (dictOf (G.entries w.params nf nr) 14)))
    (hP : (gOf s (pawnMu p0 p1)).get? G.pawn = some (lobj [.ref p0, .ref p1] np)) (hs : G.size = (S : Int))
    (HR : TabF (Hv (gOf s (pawnMu p0 p1))) G.rays 8 S (fun d q => ((rayW nf nr d q : Nat) : Int))) (HK : IntsF (Hv (gOf s (pawnMu p0 p1))) G.king S (fun q => ((kingN nf nr 8 q : Nat) : Int))) :
    CallsM w 7 92 [.ref x] s (pawnMu p0 p1)
      (fun _ tl => ∃ v0 v1 n0 n1, tl = [(p0, lobj v0 n0), (p1, lobj v1 n1)] ∧ IntsV v0 S (fun q => ((pawnN nf nr 0 q : Nat) : Int)) ∧ IntsV v1 S (fun q => ((pawnN nf nr 1 q : Nat) : Int))) := by
  intro A Q E hh hdp hu hret
  refine' call_mut (binds := [(Str.ofString "geo", .ref x)]) hmu X T hh hdp hu ?ho ?hcd (by decide) ?hbind ?hloc ?h ?c1 ?c2 ?c3 ?c4
  case ho => with_unfolding_all k_is
  case hcd => with_unfolding_all k_is
  case hbind => exact BindsTo.of_eq rfl
  case hloc => exact locs rfl
  case c1 => rfl
  case c2 => rfl
  case c3 => rfl
  case c4 => decide
  intro h₁ tk₁ F N
  have N : News (gOf s (pawnMu p0 p1)) s.heap.objs.size h₁ [(p0, lobj [] 0), (p1, lobj [] 0)] := N
  try dsimp only
  show wpAny _ _ _ _ _ _
  k_fold
  k_steps
  refine Stop.go (for_go ?_ (fun _ => rfl))
  k_steps
  (rename IsRange _ _ _ _ _ _ _ _ => R9)
  (rename Fr _ _ _ _ => F9)
  (rename News _ _ _ _ => N9)
  rw [hs] at R9
  refine Stop.go (loop_up rfl R9 (small_of (by omega) (by omega) (.inl rfl)) F9 N9
    (fun i m news => m (Str.ofString "geo") = some (.ref x) ∧
      ∃ v0 n0 v1 n1, news = [(p0, lobj v0 n0), (p1, lobj v1 n1)] ∧ IntsV v0 i (fun q => ((pawnN nf nr 0 q : Nat) : Int)) ∧ IntsV v1 i (fun q => ((pawnN nf nr 1 q : Nat) : Int)))
    ⟨rfl, [], 0, [], 0, rfl, IntsV.nil, IntsV.nil⟩ rfl rfl ?_ ?_)
  · clear R9 F9 N9
    rintro i t h tk m₁ _ I oI hi ⟨hg, v0, n0, v1, n1, rfl, hV0, hV1⟩ F₁ N₁ hn₁
    have i1 : @Ne Nat p0 I := hn₁ _ (.head _)
    have i2 : @Ne Nat p1 I := hn₁ _ (.tail _ (.head _))
    have hvl0 := hV0.1
    have hvl1 := hV1.1
    k_steps
    (rename Fr _ _ _ _ => F9)
    (rename News _ _ _ _ => N9)
    rw [List.push_toArray, List.push_toArray] at N9
    show LpEnd _ _ _ _ _ _ _
    refine' lp_end _ F9 N9 (by k_mem) ?hs ?hne ⟨hg, _, _, _, _, rfl, hV0.snoc ?hx, hV1.snoc ?hy⟩
    case hs => lcg_sub
    case hne => exact List.forall_mem_cons.mpr ⟨i1, List.forall_mem_cons.mpr ⟨i2, fun p hp => nomatch hp⟩⟩
    case hx => rw [bn_or, bn_and]; rfl
    case hy => rw [bn_or, bn_and]; rfl
  · clear R9 F9 N9
    rintro h tk m₁ _ ⟨hg, v0, n0, v1, n1, rfl, hV0, hV1⟩ F₁ N₁
    k_steps
    (rename Fr _ _ _ _ => F9)
    (rename News _ _ _ _ => N9)
    exact retM_ F9 N9 (fun st fr => hret _ _ _ _ st fr ⟨_, _, _, _, rfl, hV0, hV1⟩)
end

end PartPawns

section PartKnights
local macro_rules | `(tactic| walk_at "no such step") => `(tactic| skip)
theorem rowsKnights19 : True := by
  k_with_none
  k_with "ble" => (first | decide | exact Nat.le_of_ble_eq_true rfl)
  k_with "exec For Name Call cons nil" => ((refine stop_ ?_))
  k_with "exec For Tuple Name cons nil" => ((refine stop_ ?_))
  k_with "exec For Tuple" => ((refine stop_ ?_))
  k_with "exec While BoolOp cons nil" => ((refine stop_ ?_))
  k_with "WhTest" => (first | refine wh_true ?_ | refine wh_false ?_)
  k_with "pyIter ref" => (((with_reducible show wpAny _ _ (pyIter (Value.ref _)) (fun it s₂ => LoopC _ _ _ _ _ _ _ it s₂) _ _); refine stop_ ?_))
  k_with "k_mem" => (assumption)
  k_with "lcg_sub" => ((intro p9 hp9; k_mem))
  k_with "k_all" => (assumption)
  k_with "size_fits" => ((rw [List.size_toArray, PySem.sizeLine_eq]; omega))
  k_with "k_ne" => ((refine neN ?_; (try dsimp only); first | assumption | exact Ne.symm (by assumption) | omega))
  k_with "k_inst" => (exact instAt_keeps (by assumption) (Fr.keep (by k_asm)))
  trivial
def nF (nf nr : Nat) : Nat := fullN nf nr - (fullN nf nr &&& maskF nf nr 0)
def nL (nf nr : Nat) : Nat := fullN nf nr - (fullN nf nr &&& maskF nf nr (nf - 1))
def nF2 (nf nr : Nat) : Nat := nF nf nr - (nF nf nr &&& maskF nf nr 1)
def nL2 (nf nr : Nat) : Nat := nL nf nr - (nL nf nr &&& maskF nf nr (nf - 2))
def nearN (nf nr q : Nat) : Nat := ((1 <<< q) <<< 1 &&& nF nf nr) ||| ((1 <<< q) >>> 1 &&& nL nf nr)
def farN (nf nr q : Nat) : Nat := ((1 <<< q) <<< 2 &&& nF2 nf nr) ||| ((1 <<< q) >>> 2 &&& nL2 nf nr)
def knightN (nf nr q : Nat) : Nat := (((nearN nf nr q <<< (2 * nf) ||| nearN nf nr q >>> (2 * nf)) ||| farN nf nr q <<< nf) ||| farN nf nr q >>> nf) &&& fullN nf nr
theorem full_small {nf nr : Nat} (h : nf * nr ≤ 64) : fullN nf nr < 2 ^ 64 := by
  unfold fullN
  rw [Nat.shiftLeft_eq, Nat.one_mul]
  have := Nat.pow_le_pow_right (n := 2) (by decide) h
  have := Nat.two_pow_pos (nf * nr)
  omega
theorem toNat_sub2 (n : Nat) : ((n : Int) - 2).toNat = n - 2 := by omega
theorem toNat_two (n : Nat) : (2 * (n : Int)).toNat = 2 * n := by omega
theorem toNat_one : Int.toNat 1 = 1 := rfl
theorem toNat_2 : Int.toNat 2 = 2 := rfl
theorem small_or {a b c d : Nat} (hc : c < 2 ^ 64) (hd : d < 2 ^ 64) : (a &&& c) ||| (b &&& d) < 2 ^ 64 :=
  Nat.or_lt_two_pow (Nat.and_lt_two_pow _ hc) (Nat.and_lt_two_pow _ hd)
theorem one_small {i : Nat} (h : i < 64) : (1 : Nat) <<< i < 2 ^ 64 := by
  rw [Nat.shiftLeft_eq, Nat.one_mul]; exact Nat.pow_lt_pow_right (by decide) h
local macro_rules | `(tactic| walk_at "binaryOp LShift int int") => `(tactic| (k_here; (with_reducible refine' lshift_int_small ?kb1 ?kb2 ?kb3 ?_); (case kb1 => omega); (case kb2 => omega); (case kb3 => first | exact (by decide : (1 : Int).natAbs < 2 ^ 64) | (simp only [one_shl, bn_shl, bn_shr, bn_and, bn_or, Int.toNat_natCast, Int.natAbs_natCast]; first | (with_reducible assumption) | exact small_or (by with_reducible assumption) (by with_reducible assumption)))))
theorem rowsKnights20 : True := by
  k_with "ints" => (assumption)
  k_with "up" => (exact fun a o e => Fr.keep (by k_asm) a o e)
  trivial
section
variable (w : World) (mean : ExcName → Option Value) (mg mb : Str → Option Value) (s : Shared)
set_option maxHeartbeats 8000000 in
theorem knights_spec (x : Addr) (G : GeoA) (nf nr S : Nat) (eS : S ≤ 64) (hS : S = nf * nr) (hF : 2 ≤ nf ∧ nf ≤ 8) (hmu : ∀ p ∈ [(G.knight, lobj [] 0)], s.heap.get? p.1 = some p.2)
    (X : (heapK w.params).In (gOf s [(G.knight, lobj [] 0)])) (T : TopL mean mg mb (gOf s [(G.knight, lobj [] 0)]))
    (hI : PySem.W.InstAt (gOf s [(G.knight, lobj [] 0)]) x (instObj 53 G.dx) 53 (some (dictOf (G.entries w.params nf nr) 14)))
    (hs : G.size = (S : Int)) (hf : G.full = ((fullN nf nr : Nat) : Int))
    (HF : IntsF (Hv (gOf s [(G.knight, lobj [] 0)])) G.masksF nf (fun f => ((maskF nf nr f : Nat) : Int))) :
    CallsM w 7 99 [.ref x] s [(G.knight, lobj [] 0)] (fun _ tl => ∃ v n, tl = [(G.knight, lobj v n)] ∧ IntsV v S (fun q => ((knightN nf nr q : Nat) : Int))) := by
  intro A Q E hh hdp hu hret
  refine' call_mut (binds := [(Str.ofString "geo", .ref x)]) hmu X T hh hdp hu ?ho ?hcd (by decide) ?hbind ?hloc ?h ?c1 ?c2 ?c3 ?c4
  case ho => with_unfolding_all k_is
  case hcd => with_unfolding_all k_is
  case hbind => exact BindsTo.of_eq rfl
  case hloc => exact locs rfl
  case c1 => rfl
  case c2 => rfl
  case c3 => rfl
  case c4 => decide
  intro h₁ tk₁ F N
  have b0 : fullN nf nr < 2 ^ 64 := full_small (by omega)
  have b1 : nF nf nr < 2 ^ 64 := Nat.lt_of_le_of_lt (Nat.sub_le _ _) b0
  have b2 : nL nf nr < 2 ^ 64 := Nat.lt_of_le_of_lt (Nat.sub_le _ _) b0
  have b3 : nF2 nf nr < 2 ^ 64 := Nat.lt_of_le_of_lt (Nat.sub_le _ _) b1
  have b4 : nL2 nf nr < 2 ^ 64 := Nat.lt_of_le_of_lt (Nat.sub_le _ _) b2
  try dsimp only
  show wpAny _ _ _ _ _ _
  k_fold
  k_steps
  refine Stop.go (for_go ?_ (fun _ => rfl))
  k_steps
  (rename IsRange _ _ _ _ _ _ _ _ => R9)
  (rename Fr _ _ _ _ => F9)
  (rename News _ _ _ _ => N9)
  rw [hs] at R9
  refine Stop.go (loop_up rfl R9 (small_of (by omega) (by omega) (.inl rfl)) F9 N9
    (fun i m news => m (Str.ofString "geo") = some (.ref x) ∧ (∃ t, m (Str.ofString "files") = some (.int nf t)) ∧ (∃ t, m (Str.ofString "not_first") = some (.int ((nF nf nr : Nat) : Int) t)) ∧ (∃ t, m (Str.ofString "not_last") = some (.int ((nL nf nr : Nat) : Int) t)) ∧
      (∃ t, m (Str.ofString "not_first_two") = some (.int ((nF2 nf nr : Nat) : Int) t)) ∧ (∃ t, m (Str.ofString "not_last_two") = some (.int ((nL2 nf nr : Nat) : Int) t)) ∧
      ∃ v n, news = [(G.knight, lobj v n)] ∧ IntsV v i (fun q => ((knightN nf nr q : Nat) : Int)))
    ⟨rfl, ⟨_, rfl⟩, ⟨_, congrArg (fun z => some (Value.int z _)) ?v1⟩, ⟨_, congrArg (fun z => some (Value.int z _)) ?v2⟩, ⟨_, congrArg (fun z => some (Value.int z _)) ?v3⟩, ⟨_, congrArg (fun z => some (Value.int z _)) ?v4⟩, [], 0, rfl, IntsV.nil⟩ rfl rfl ?_ ?_)
  case v1 => rw [hf, bn_andnot]; rfl
  case v2 => rw [hf, bn_andnot, toNat_sub1]; rfl
  case v3 => rw [hf, bn_andnot, bn_andnot]; rfl
  case v4 => rw [hf, bn_andnot, bn_andnot, toNat_sub1, toNat_sub2]; rfl
  · clear R9 F9 N9
    rintro i t h tk m₁ _ I oI hi ⟨hg, ⟨tf, hfi⟩, ⟨t1, h1⟩, ⟨t2, h2⟩, ⟨t3, h3⟩, ⟨t4, h4⟩, v, n, rfl, hV⟩ F₁ N₁ hn₁
    have i1 : @Ne Nat G.knight I := hn₁ _ (.head _)
    have hvl := hV.1
    have b5 : (1 : Nat) <<< i < 2 ^ 64 := one_small (by omega)
    k_steps
    (rename Fr _ _ _ _ => F9)
    (rename News _ _ _ _ => N9)
    rw [List.push_toArray] at N9
    show LpEnd _ _ _ _ _ _ _
    refine' lp_end _ F9 N9 (by k_mem) ?hs ?hne ⟨hg, ⟨_, hfi⟩, ⟨_, h1⟩, ⟨_, h2⟩, ⟨_, h3⟩, ⟨_, h4⟩, _, _, rfl, hV.snoc ?hx⟩
    case hs => lcg_sub
    case hne => exact List.forall_mem_cons.mpr ⟨i1, fun p hp => nomatch hp⟩
    case hx =>
      rw [hf]
      simp only [one_shl, bn_shl, bn_shr, bn_and, bn_or, Int.toNat_natCast, toNat_two, toNat_one, toNat_2]
      rfl
  · clear R9 F9 N9
    rintro h tk m₁ _ ⟨hg, ⟨tf, hfi⟩, ⟨t1, h1⟩, ⟨t2, h2⟩, ⟨t3, h3⟩, ⟨t4, h4⟩, v, n, rfl, hV⟩ F₁ N₁
    k_steps
    (rename Fr _ _ _ _ => F9)
    (rename News _ _ _ _ => N9)
    exact retM_ F9 N9 (fun st fr => hret _ _ _ _ st fr ⟨_, _, rfl, hV⟩)
end

end PartKnights

section PartCastles
theorem rowsCastles21 : True := by
  k_with_none
  k_with "ble" => (first | decide | exact Nat.le_of_ble_eq_true rfl)
  k_with "exec For Name Call cons nil" => ((refine stop_ ?_))
  k_with "exec For Tuple Name cons nil" => ((refine stop_ ?_))
  k_with "exec For Tuple" => ((refine stop_ ?_))
  k_with "exec While BoolOp cons nil" => ((refine stop_ ?_))
  k_with "WhTest" => (first | refine wh_true ?_ | refine wh_false ?_)
  k_with "pyIter ref" => (((with_reducible show wpAny _ _ (pyIter (Value.ref _)) (fun it s₂ => LoopC _ _ _ _ _ _ _ it s₂) _ _); refine stop_ ?_))
  k_with "k_mem" => (assumption)
  k_with "lcg_sub" => ((intro p9 hp9; k_mem))
  k_with "k_all" => (assumption)
  k_with "size_fits" => ((rw [List.size_toArray, PySem.sizeLine_eq]; omega))
  k_with "k_ne" => ((refine neN ?_; (try dsimp only); first | assumption | exact Ne.symm (by assumption) | omega))
  k_with "k_inst" => (exact instAt_keeps (by assumption) (Fr.keep (by k_asm)))
  trivial
def entV (G : GeoA) (P : Params) (F R : Nat) : List DictEntry :=
  [⟨PyData.keyHash P "files", .str "files" G.k0, .int F G.tf⟩, ⟨PyData.keyHash P "ranks", .str "ranks" G.k1, .int R G.tr⟩, ⟨PyData.keyHash P "size", .str "size" G.k2, .int G.size G.ts⟩, ⟨PyData.keyHash P "full", .str "full" G.k3, .int G.full G.tu⟩,
   ⟨PyData.keyHash P "has_double", .str "has_double" G.k4, G.hd⟩, ⟨PyData.keyHash P "has_castling", .str "has_castling" G.k5, .bool false⟩,
   ⟨PyData.keyHash P "file_masks", .str "file_masks" G.k6, .ref G.masksF⟩, ⟨PyData.keyHash P "rank_masks", .str "rank_masks" G.k7, .ref G.masksR⟩, ⟨PyData.keyHash P "rays", .str "rays" G.k8, .ref G.rays⟩,
   ⟨PyData.keyHash P "king", .str "king" G.k9, .ref G.king⟩, ⟨PyData.keyHash P "knight", .str "knight" G.k10, .ref G.knight⟩, ⟨PyData.keyHash P "pawn", .str "pawn" G.k11, .ref G.pawn⟩,
   ⟨PyData.keyHash P "castles", .str "castles" G.k12, .ref G.castles⟩, ⟨PyData.keyHash P "rights_lost", .str "rights_lost" G.k13, .ref G.rights⟩]
theorem rights_cast {h₀ h : Heap} {L r2 c x : Addr} {o o2 : Obj} {P : Params} {G : GeoA} {nf nr : Nat} (N : News h₀ L h [(r2, o), (c, o2), (x, instObj 53 G.dx), (G.dx, dictOf (entV { G with rights := r2 } P nf nr) 14), (G.castles, lobj [] 0)]) :
    ∃ G2 : GeoA, News h₀ L h [(x, instObj 53 G2.dx), (G2.dx, dictOf (entV G2 P nf nr) 14), (G2.castles, lobj [] 0)] ∧ G2.dx = G.dx ∧ G2.castles = G.castles ∧ entV G2 P nf nr = ({ G with rights := r2, hc := .bool false } : GeoA).entries P nf nr :=
  ⟨{ G with rights := r2 }, news_sub N (by intro p hp; exact .tail _ (.tail _ hp)), rfl, rfl, rfl⟩
section
variable (w : World) (mean : ExcName → Option Value) (mg mb : Str → Option Value) (s : Shared)
theorem pick0 {h₀ h : Heap} {L r : Addr} {o : Obj} {rest : List (Addr × Obj)} (N : News h₀ L h ((r, o) :: rest)) : ∃ r2, News h₀ L h ((r2, o) :: rest) ∧ r2 = r := ⟨r, N, rfl⟩
theorem cast_led {h₀ h : Heap} {L : Addr} {l : List (Addr × Obj)} {P : List (Addr × Obj) → Prop} (N : News h₀ L h l) (hP : P l) : ∃ tl, News h₀ L h tl ∧ P tl := ⟨l, N, hP⟩
abbrev castMu (P : Params) (x : Addr) (G : GeoA) (nf nr : Nat) : List (Addr × Obj) := [(x, instObj 53 G.dx), (G.dx, dictOf (({ G with hc := .bool false } : GeoA).entries P nf nr) 14), (G.castles, lobj [] 0)]
set_option maxHeartbeats 16000000 in
theorem castles_spec (x : Addr) (G : GeoA) (nf nr S : Nat) (hF : 2 ≤ nf ∧ nf ≤ 8) (hR : 3 ≤ nr ∧ nr ≤ 8) (eS : S ≤ 64) (hmu : ∀ p ∈ castMu w.params x G nf nr, s.heap.get? p.1 = some p.2)
    (n1 : @Ne Nat x G.dx) (n2 : @Ne Nat x G.castles) (n3 : @Ne Nat G.dx G.castles)
    (X : (heapK w.params).In (gOf s (castMu w.params x G nf nr))) (T : TopL mean mg mb (gOf s (castMu w.params x G nf nr)))
    (hs : G.size = (S : Int)) :
    CallsM w 7 106 [.ref x] s (castMu w.params x G nf nr)
      (fun _ tl => ∃ r2, (x, instObj 53 G.dx) ∈ tl ∧ (G.dx, dictOf (({ G with rights := r2, hc := .bool false } : GeoA).entries w.params nf nr) 14) ∈ tl) := by
  intro A Q E hh hdp hu hret
  refine' call_mut (binds := [(Str.ofString "geo", .ref x)]) hmu X T hh hdp hu ?ho ?hcd (by decide) ?hbind ?hloc ?h ?c1 ?c2 ?c3 ?c4
  case ho => with_unfolding_all k_is
  case hcd => with_unfolding_all k_is
  case hbind => exact BindsTo.of_eq rfl
  case hloc => exact locs rfl
  case c1 => rfl
  case c2 => rfl
  case c3 => rfl
  case c4 => decide
  intro h₁ tk₁ F N
  have e1 : 0 ≤ G.size := by omega
  have e2 : G.size ≤ 64 := by omega
  have N : News (gOf s (castMu w.params x G nf nr)) s.heap.objs.size h₁ [(x, instObj 53 G.dx), (G.dx, dictOf (entV G w.params nf nr) 14), (G.castles, lobj [] 0)] := N
  try dsimp only
  show wpAny _ _ _ _ _ _
  k_fold
  k_steps
  (rename Fr _ _ _ _ => F8)
  (rename News _ _ _ _ => N9)
  obtain ⟨r2, N8, e8⟩ := pick0 N9
  clear N9
  subst e8
  obtain ⟨G2, N7, g1, g2, hG2⟩ := rights_cast (G := G) (r2 := r2) N8
  clear N8
  rw [← g1, ← g2] at n3
  rw [← g1] at n1
  rw [← g2] at n2
  refine Stop.go (for_go ?_ (fun _ => rfl))
  k_steps
  (rename IsRange _ _ _ _ _ _ _ _ => R9)
  (rename Fr _ _ _ _ => F9)
  (rename News _ _ _ _ => N9)
  refine Stop.go (loop_up (n := 4) rfl R9 (by decide) F9 N9
    (fun i m news => m (Str.ofString "geo") = some (.ref x) ∧ (∃ v t, m (Str.ofString "start") = some (.int v t)) ∧ ∃ vs n, news = [(x, instObj 53 G2.dx), (G2.dx, dictOf (entV G2 w.params nf nr) 14), (G2.castles, lobj vs n)] ∧ vs.length = i)
    ⟨rfl, ⟨_, _, rfl⟩, [], 0, rfl, rfl⟩ rfl rfl ?_ ?_)
  · clear R9 F9 N9
    rintro i t h tk m₁ _ I oI hi ⟨hg, ⟨st, ts, hst⟩, vs, n, rfl, hvl⟩ F₁ N₁ hn₁
    have hi4 : i < 4 := hi
    have i1 : @Ne Nat x I := hn₁ _ (.head _)
    have i2 : @Ne Nat G2.dx I := hn₁ _ (.tail _ (.head _))
    have i3 : @Ne Nat G2.castles I := hn₁ _ (.tail _ (.tail _ (.head _)))
    k_steps
    all_goals
      (rename Fr _ _ _ _ => F9)
      (rename News _ _ _ _ => N9)
      rw [List.push_toArray] at N9
      show LpEnd _ _ _ _ _ _ _
      exact lp_end _ F9 N9 (by k_mem) (by lcg_sub) (List.forall_mem_cons.mpr ⟨i1, List.forall_mem_cons.mpr ⟨i2, List.forall_mem_cons.mpr ⟨i3, List.forall_mem_nil _⟩⟩⟩) ⟨hg, ⟨_, _, hst⟩, _, _, rfl, by simp [hvl]⟩
  · clear R9 F9 N9
    rintro h tk m₁ _ ⟨hg, _, vs, n, rfl, hvl⟩ F₁ N₁
    k_steps
    (rename Fr _ _ _ _ => F9)
    (rename News _ _ _ _ => N9)
    refine retM_ F9 N9 (fun st fr => hret _ _ _ _ st fr ⟨r2, ?_, ?_⟩)
    · rw [← g1]; exact .head _
    · rw [← hG2, ← g1]; exact .tail _ (.head _)
end

end PartCastles

section PartMake
local macro_rules | `(tactic| walk_at "no such step") => `(tactic| skip)
theorem rowsMake22 : True := by
  k_with_none
  k_with "ble" => (first | decide | exact Nat.le_of_ble_eq_true rfl)
  k_with "exec For Name Call cons nil" => ((refine stop_ ?_))
  k_with "exec For Tuple Name cons nil" => ((refine stop_ ?_))
  k_with "exec For Tuple" => ((refine stop_ ?_))
  k_with "exec While BoolOp cons nil" => ((refine stop_ ?_))
  k_with "WhTest" => (first | refine wh_true ?_ | refine wh_false ?_)
  k_with "pyIter ref" => (((with_reducible show wpAny _ _ (pyIter (Value.ref _)) (fun it s₂ => LoopC _ _ _ _ _ _ _ it s₂) _ _); refine stop_ ?_))
  k_with "k_mem" => (assumption)
  k_with "lcg_sub" => ((intro p9 hp9; k_mem))
  k_with "k_all" => (assumption)
  k_with "size_fits" => ((rw [List.size_toArray, PySem.sizeLine_eq]; omega))
  k_with "k_ne" => ((refine neN ?_; (try dsimp only); first | assumption | exact Ne.symm (by assumption) | omega))
  k_with "k_inst" => (exact instAt_keeps (by assumption) (Fr.keep (by k_asm)))
  k_with "call ref" => ((refine stop_ ?_))
  trivial
def Sorted : List Nat → Prop
  | [] => True
  | [_] => True
  | a :: b :: l => a < b ∧ Sorted (b :: l)
theorem sorted_lt : ∀ {l : List Nat}, Sorted l → ∀ (i j : Nat) {a b : Nat}, l[i]? = some a → l[j]? = some b → i < j → a < b
  | [], _, i, _, _, _, hi, _, _ => by simp at hi
  | [_], _, i, j, _, _, hi, hj, h => by
    have := (List.getElem?_eq_some_iff.mp hj).1
    simp at this; omega
  | x :: y :: l, h, i, j, a, b, hi, hj, hij => by
    cases j with
    | zero => omega
    | succ j =>
      cases i with
      | zero =>
        have e : x = a := by simpa using hi
        subst e
        cases j with
        | zero => have e2 : y = b := by simpa using hj
                  subst e2; exact h.1
        | succ j => exact Nat.lt_trans h.1 (sorted_lt h.2 0 (j + 1) rfl (by simpa using hj) (by omega))
      | succ i => exact sorted_lt h.2 i j (by simpa using hi) (by simpa using hj) (by omega)
theorem sorted_ne {l : List Nat} (h : Sorted l) (i j : Nat) {a b : Nat} (hi : l[i]? = some a) (hj : l[j]? = some b) (hij : i ≠ j) : @Ne Nat a b := by
  rcases Nat.lt_or_gt_of_ne hij with q | q
  · exact Nat.ne_of_lt (sorted_lt h i j hi hj q)
  · exact Nat.ne_of_gt (sorted_lt h j i hj hi q)
theorem led_after {h₀ h' : Heap} {L : Addr} {m : Str → Option Value} {news mu tl : List (Addr × Obj)} {s : Shared} (F : Fr h₀ L s.heap m) (N : News h₀ L s.heap news) (hm : ∀ p ∈ mu, p ∈ news) (rest : List (Addr × Obj)) (hr : ∀ p ∈ rest, p ∈ news) (hne : ∀ p ∈ rest, ∀ q ∈ mu, p.1 ≠ q.1)
    (st : (gOf s mu).StaysIn h') (fr : Fresh (gOf s mu) h' tl) : Fr h₀ L h' m ∧ News h₀ L h' (tl ++ rest) ∧ ∀ p ∈ tl, ∀ q ∈ rest, p.1 ≠ q.1 := by
  obtain ⟨oL, a1, a2, hL, a3⟩ := F.ns
  have hLg : (gOf s mu).get? L = some oL := hideAll_get _ hL fun q => by
    obtain ⟨p, hp, e⟩ := List.mem_map.mp q
    exact (N p (hm p hp)).2.1 e
  have sg := stays_g F N hm
  have ig := inL_g (mu := mu) N rest hr hne
  refine ⟨⟨⟨oL, a1, a2, st _ _ hLg, a3⟩, fun b o e => st b o (sg b o e), F.above⟩, fun p hp => ?_, fun p hp q hq e => ?_⟩
  · rcases List.mem_append.mp hp with hp | hp
    · refine ⟨(fr p hp).1, fun e => ?_, ?_⟩
      · have := (fr p hp).2; rw [e, hLg] at this; cases this
      · cases e : h₀.get? p.1 with
        | none => rfl
        | some o => have := sg _ _ e; rw [(fr p hp).2] at this; cases this
    · exact ⟨st _ _ (ig p.1 p.2 hp), (N p (hr p hp)).2⟩
  · have := (fr p hp).2; rw [e, show (gOf s mu).get? q.1 = some q.2 from ig q.1 q.2 hq] at this; cases this
theorem stays_h {h₀ h : Heap} {L : Addr} {m : Str → Option Value} {news mu : List (Addr × Obj)} (F : Fr h₀ L h m) (N : News h₀ L h news) (hm : ∀ p ∈ mu, p ∈ news) : h₀.StaysIn (hideAll h (mu.map (·.1))) := fun b o e =>
  hideAll_get _ (F.keep b o e) fun q => by
    obtain ⟨p, hp, rfl⟩ := List.mem_map.mp q
    rw [(N p (hm p hp)).2.2] at e; cases e
theorem inL_h {h₀ h : Heap} {L : Addr} {news mu : List (Addr × Obj)} (N : News h₀ L h news) (rest : List (Addr × Obj)) (hr : ∀ p ∈ rest, p ∈ news) (hne : ∀ p ∈ rest, ∀ q ∈ mu, p.1 ≠ q.1) : ∀ a o, InL rest a o → (hideAll h (mu.map (·.1))).get? a = some o := fun a o e =>
  hideAll_get _ (N _ (hr _ e)).1 fun q => by
    obtain ⟨p, hp, e'⟩ := List.mem_map.mp q
    exact hne _ e p hp e'.symm
abbrev ledC (G : GeoA) (p0 p1 : Addr) (vF vR v0 v1 vk : List Value) (nF nR n0 n1 nk : Nat) : List (Addr × Obj) :=
  [(G.masksF, lobj vF nF), (G.masksR, lobj vR nR), (G.rights, lobj [] 0), (G.castles, lobj [] 0), (G.pawn, lobj [.ref p0, .ref p1] 0), (p0, lobj v0 n0), (p1, lobj v1 n1), (G.knight, lobj vk nk), (G.king, lobj [] 0)]
abbrev ledD (G : GeoA) (p0 p1 : Addr) (vF vR v0 v1 vk : List Value) (nF nR n0 n1 nk : Nat) : List (Addr × Obj) :=
  [(G.masksF, lobj vF nF), (G.masksR, lobj vR nR), (G.castles, lobj [] 0), (G.pawn, lobj [.ref p0, .ref p1] 0), (p0, lobj v0 n0), (p1, lobj v1 n1), (G.knight, lobj vk nk)]
theorem sub3 {a b : Addr × Obj} {t C C' : List (Addr × Obj)} (h : ∀ p ∈ C', p ∈ C) : ∀ p ∈ a :: b :: (t ++ C'), p ∈ a :: b :: (t ++ C) :=
  List.forall_mem_cons.mpr ⟨.head _, List.forall_mem_cons.mpr ⟨.tail _ (.head _), fun p hp => (List.mem_append.mp hp).elim (fun q => .tail _ (.tail _ (List.mem_append_left _ q))) fun q => .tail _ (.tail _ (List.mem_append_right _ (h p q)))⟩⟩
theorem ne3 {a b : Addr × Obj} {t C mu : List (Addr × Obj)} (ha : ∀ q ∈ mu, a.1 ≠ q.1) (hb : ∀ q ∈ mu, b.1 ≠ q.1) (ht : ∀ p ∈ t, ∀ q ∈ mu, p.1 ≠ q.1) (hc : ∀ p ∈ C, ∀ q ∈ mu, p.1 ≠ q.1) : ∀ p ∈ a :: b :: (t ++ C), ∀ q ∈ mu, p.1 ≠ q.1 :=
  List.forall_mem_cons.mpr ⟨ha, List.forall_mem_cons.mpr ⟨hb, fun p hp => (List.mem_append.mp hp).elim (ht p) (hc p)⟩⟩
theorem back3 {a b : Addr × Obj} {t C C' tl : List (Addr × Obj)} (h : ∀ p ∈ C', p ∈ tl ∨ p ∈ C) : ∀ p ∈ a :: b :: (t ++ C'), p ∈ tl ++ (a :: b :: (t ++ C)) :=
  List.forall_mem_cons.mpr ⟨List.mem_append_right _ (.head _), List.forall_mem_cons.mpr ⟨List.mem_append_right _ (.tail _ (.head _)), fun p hp => (List.mem_append.mp hp).elim (fun q => List.mem_append_right _ (.tail _ (.tail _ (List.mem_append_left _ q))))
    fun q => (h p q).elim (fun r => List.mem_append_left _ r) fun r => List.mem_append_right _ (.tail _ (.tail _ (List.mem_append_right _ r)))⟩⟩
abbrev ledX (P : Params) (x : Addr) (G : GeoA) (nf nr : Nat) : List (Addr × Obj) := [(x, instObj 53 G.dx), (G.dx, dictOf (G.entries P nf nr) 14), (G.rays, lobj [] 0)]
section
variable (w : World) (mean : ExcName → Option Value) (mg mb : Str → Option Value) (s : Shared) (X : (heapK w.params).In s.heap) (T : TopL mean mg mb s.heap)
include X T
set_option maxHeartbeats 8000000 in
theorem make_spec (nf nr : Nat) (tf tr : Tok) (hF : 2 ≤ nf ∧ nf ≤ 8) (hR : 3 ≤ nr ∧ nr ≤ 8) :
    Calls w 5 113 [.int nf tf, .int nr tr, .bool false, .bool false] s (fun v tl => ∃ x G, v = .ref x ∧
      GeoOK (InL tl) w.params x G nf nr (fun d q => ((rayW nf nr d q : Nat) : Int)) (fun q => ((kingN nf nr 8 q : Nat) : Int)) (fun q => ((knightN nf nr q : Nat) : Int)) (fun c q => ((pawnN nf nr c q : Nat) : Int))) := by
  intro A Q E hh hdp hu hret
  refine' call_def (binds := [(Str.ofString "files", .int nf tf), (Str.ofString "ranks", .int nr tr), (Str.ofString "has_double", .bool false), (Str.ofString "has_castling", .bool false)]) X T hh hdp hu ?ho ?hcd (by decide) ?hbind ?hloc ?h ?c1 ?c2 ?c3 ?c4
  case ho => with_unfolding_all k_is
  case hcd => with_unfolding_all k_is
  case hbind => exact BindsTo.of_eq rfl
  case hloc => exact locs rfl
  case c1 => rfl
  case c2 => rfl
  case c3 => rfl
  case c4 => decide
  intro h₁ tk₁ F N
  try dsimp only
  k_fold
  k_steps
  refine Stop.go ?_
  (rename Fr _ _ _ _ => F8)
  (rename News _ _ _ _ => N8)
  refine' call_cls (K := heapK w.params) (fI := 50) F8 X N8 ?m ?i ?f ?_
  case m => k_is
  case i => k_is
  case f => k_is
  clear F8 N8
  intro x dx h' F8 N8 _ lx
  have lx' : @LT.lt Nat _ dx x := lx
  have hm0 : ∀ p ∈ [(x, instObj 53 dx), (dx, dictOf [] 0)], p ∈ [(x, instObj 53 dx), (dx, dictOf [] 0)] := fun p hp => hp
  have sg : ∀ tk, s.heap.StaysIn (gOf { s with heap := h', toks := tk } [(x, instObj 53 dx), (dx, dictOf [] 0)]) := fun tk => stays_g (s := { s with heap := h', toks := tk }) F8 N8 hm0
  refine' init_spec w mean mg mb _ x dx nf nr tf tr hF.2 hR.2 (fun p hp => (N8 p hp).1) (Nat.ne_of_gt lx) (X.keeps (sg _)) (T.keeps (sg _)) _ _ ?a1 ?a2 ?a3 ?_
  case a1 => rfl
  case a2 => exact Nat.le_of_ble_eq_true rfl
  case a3 => exact Nat.le_of_ble_eq_true rfl
  rintro tl h2 tk2 st fr ⟨G, p0, p1, rfl, ⟨l1, l2, l3, l4, l5, l6, l7, l8, l9, l10, l11⟩, rfl, hc, hs, hf⟩
  have hSo : Sorted [G.dx, x, G.masksF, G.masksR, G.rays, G.king, G.knight, p0, p1, G.pawn, G.castles, G.rights] := ⟨lx', l1, l3, l4, l5, l6, l7, l8, l9, l10, l11, trivial⟩
  obtain ⟨F9, N9, _⟩ := led_after (s := { s with heap := h' }) F8 N8 hm0 [] (fun _ h => nomatch h) (fun _ h => nomatch h) st fr
  clear F8 N8 hm0 sg st fr
  rw [List.append_nil] at N9
  dsimp only [InitBack]
  refine ⟨rfl, ?_⟩
  have hSd : nf * nr ≤ 64 := Nat.mul_le_mul hF.2 hR.2
  k_steps
  refine Stop.go ?_
  (rename Fr _ _ _ _ => F8)
  (rename News _ _ _ _ => N8)
  have hm1 : ∀ p ∈ [(G.masksF, lobj [] 0), (G.masksR, lobj [] 0)], p ∈ initLed w.params x G p0 p1 nf nr := by lcg_sub
  have hr1 : ∀ p ∈ ledX w.params x G nf nr ++ (ledC G p0 p1 [] [] [] [] [] 0 0 0 0 0).drop 2, p ∈ initLed w.params x G p0 p1 nf nr := by lcg_sub
  have hn1 : ∀ p ∈ ledX w.params x G nf nr ++ (ledC G p0 p1 [] [] [] [] [] 0 0 0 0 0).drop 2, ∀ q ∈ [(G.masksF, lobj [] 0), (G.masksR, lobj [] 0)], p.1 ≠ q.1 := by
    simp only [List.drop, List.cons_append, List.nil_append]
    (repeat' (first | exact (fun _ h => absurd h List.not_mem_nil) | refine List.forall_mem_cons.mpr ⟨?_, ?_⟩ | exact hq.1 | exact hq.2.1 | exact hq.2.2.1 | exact hq.2.2.2.1 | exact hq.2.2.2.2.1 | exact hq.2.2.2.2.2 | exact sorted_ne hSo 0 1 rfl rfl (by decide) | exact sorted_ne hSo 0 2 rfl rfl (by decide) | exact sorted_ne hSo 0 3 rfl rfl (by decide) | exact sorted_ne hSo 0 4 rfl rfl (by decide) | exact sorted_ne hSo 0 5 rfl rfl (by decide) | exact sorted_ne hSo 0 6 rfl rfl (by decide) | exact sorted_ne hSo 0 7 rfl rfl (by decide) | exact sorted_ne hSo 0 8 rfl rfl (by decide) | exact sorted_ne hSo 0 9 rfl rfl (by decide) | exact sorted_ne hSo 0 10 rfl rfl (by decide) | exact sorted_ne hSo 0 11 rfl rfl (by decide) | exact sorted_ne hSo 1 0 rfl rfl (by decide) | exact sorted_ne hSo 1 2 rfl rfl (by decide) | exact sorted_ne hSo 1 3 rfl rfl (by decide) | exact sorted_ne hSo 1 4 rfl rfl (by decide) | exact sorted_ne hSo 1 5 rfl rfl (by decide) | exact sorted_ne hSo 1 6 rfl rfl (by decide) | exact sorted_ne hSo 1 7 rfl rfl (by decide) | exact sorted_ne hSo 1 8 rfl rfl (by decide) | exact sorted_ne hSo 1 9 rfl rfl (by decide) | exact sorted_ne hSo 1 10 rfl rfl (by decide) | exact sorted_ne hSo 1 11 rfl rfl (by decide) | exact sorted_ne hSo 2 0 rfl rfl (by decide) | exact sorted_ne hSo 2 1 rfl rfl (by decide) | exact sorted_ne hSo 2 3 rfl rfl (by decide) | exact sorted_ne hSo 2 4 rfl rfl (by decide) | exact sorted_ne hSo 2 5 rfl rfl (by decide) | exact sorted_ne hSo 2 6 rfl rfl (by decide) | exact sorted_ne hSo 2 7 rfl rfl (by decide) | exact sorted_ne hSo 2 8 rfl rfl (by decide) | exact sorted_ne hSo 2 9 rfl rfl (by decide) | exact sorted_ne hSo 2 10 rfl rfl (by decide) | exact sorted_ne hSo 2 11 rfl rfl (by decide) | exact sorted_ne hSo 3 0 rfl rfl (by decide) | exact sorted_ne hSo 3 1 rfl rfl (by decide) | exact sorted_ne hSo 3 2 rfl rfl (by decide) | exact sorted_ne hSo 3 4 rfl rfl (by decide) | exact sorted_ne hSo 3 5 rfl rfl (by decide) | exact sorted_ne hSo 3 6 rfl rfl (by decide) | exact sorted_ne hSo 3 7 rfl rfl (by decide) | exact sorted_ne hSo 3 8 rfl rfl (by decide) | exact sorted_ne hSo 3 9 rfl rfl (by decide) | exact sorted_ne hSo 3 10 rfl rfl (by decide) | exact sorted_ne hSo 3 11 rfl rfl (by decide) | exact sorted_ne hSo 4 0 rfl rfl (by decide) | exact sorted_ne hSo 4 1 rfl rfl (by decide) | exact sorted_ne hSo 4 2 rfl rfl (by decide) | exact sorted_ne hSo 4 3 rfl rfl (by decide) | exact sorted_ne hSo 4 5 rfl rfl (by decide) | exact sorted_ne hSo 4 6 rfl rfl (by decide) | exact sorted_ne hSo 4 7 rfl rfl (by decide) | exact sorted_ne hSo 4 8 rfl rfl (by decide) | exact sorted_ne hSo 4 9 rfl rfl (by decide) | exact sorted_ne hSo 4 10 rfl rfl (by decide) | exact sorted_ne hSo 4 11 rfl rfl (by decide) | exact sorted_ne hSo 5 0 rfl rfl (by decide) | exact sorted_ne hSo 5 1 rfl rfl (by decide) | exact sorted_ne hSo 5 2 rfl rfl (by decide) | exact sorted_ne hSo 5 3 rfl rfl (by decide) | exact sorted_ne hSo 5 4 rfl rfl (by decide) | exact sorted_ne hSo 5 6 rfl rfl (by decide) | exact sorted_ne hSo 5 7 rfl rfl (by decide) | exact sorted_ne hSo 5 8 rfl rfl (by decide) | exact sorted_ne hSo 5 9 rfl rfl (by decide) | exact sorted_ne hSo 5 10 rfl rfl (by decide) | exact sorted_ne hSo 5 11 rfl rfl (by decide) | exact sorted_ne hSo 6 0 rfl rfl (by decide) | exact sorted_ne hSo 6 1 rfl rfl (by decide) | exact sorted_ne hSo 6 2 rfl rfl (by decide) | exact sorted_ne hSo 6 3 rfl rfl (by decide) | exact sorted_ne hSo 6 4 rfl rfl (by decide) | exact sorted_ne hSo 6 5 rfl rfl (by decide) | exact sorted_ne hSo 6 7 rfl rfl (by decide) | exact sorted_ne hSo 6 8 rfl rfl (by decide) | exact sorted_ne hSo 6 9 rfl rfl (by decide) | exact sorted_ne hSo 6 10 rfl rfl (by decide) | exact sorted_ne hSo 6 11 rfl rfl (by decide) | exact sorted_ne hSo 7 0 rfl rfl (by decide) | exact sorted_ne hSo 7 1 rfl rfl (by decide) | exact sorted_ne hSo 7 2 rfl rfl (by decide) | exact sorted_ne hSo 7 3 rfl rfl (by decide) | exact sorted_ne hSo 7 4 rfl rfl (by decide) | exact sorted_ne hSo 7 5 rfl rfl (by decide) | exact sorted_ne hSo 7 6 rfl rfl (by decide) | exact sorted_ne hSo 7 8 rfl rfl (by decide) | exact sorted_ne hSo 7 9 rfl rfl (by decide) | exact sorted_ne hSo 7 10 rfl rfl (by decide) | exact sorted_ne hSo 7 11 rfl rfl (by decide) | exact sorted_ne hSo 8 0 rfl rfl (by decide) | exact sorted_ne hSo 8 1 rfl rfl (by decide) | exact sorted_ne hSo 8 2 rfl rfl (by decide) | exact sorted_ne hSo 8 3 rfl rfl (by decide) | exact sorted_ne hSo 8 4 rfl rfl (by decide) | exact sorted_ne hSo 8 5 rfl rfl (by decide) | exact sorted_ne hSo 8 6 rfl rfl (by decide) | exact sorted_ne hSo 8 7 rfl rfl (by decide) | exact sorted_ne hSo 8 9 rfl rfl (by decide) | exact sorted_ne hSo 8 10 rfl rfl (by decide) | exact sorted_ne hSo 8 11 rfl rfl (by decide) | exact sorted_ne hSo 9 0 rfl rfl (by decide) | exact sorted_ne hSo 9 1 rfl rfl (by decide) | exact sorted_ne hSo 9 2 rfl rfl (by decide) | exact sorted_ne hSo 9 3 rfl rfl (by decide) | exact sorted_ne hSo 9 4 rfl rfl (by decide) | exact sorted_ne hSo 9 5 rfl rfl (by decide) | exact sorted_ne hSo 9 6 rfl rfl (by decide) | exact sorted_ne hSo 9 7 rfl rfl (by decide) | exact sorted_ne hSo 9 8 rfl rfl (by decide) | exact sorted_ne hSo 9 10 rfl rfl (by decide) | exact sorted_ne hSo 9 11 rfl rfl (by decide) | exact sorted_ne hSo 10 0 rfl rfl (by decide) | exact sorted_ne hSo 10 1 rfl rfl (by decide) | exact sorted_ne hSo 10 2 rfl rfl (by decide) | exact sorted_ne hSo 10 3 rfl rfl (by decide) | exact sorted_ne hSo 10 4 rfl rfl (by decide) | exact sorted_ne hSo 10 5 rfl rfl (by decide) | exact sorted_ne hSo 10 6 rfl rfl (by decide) | exact sorted_ne hSo 10 7 rfl rfl (by decide) | exact sorted_ne hSo 10 8 rfl rfl (by decide) | exact sorted_ne hSo 10 9 rfl rfl (by decide) | exact sorted_ne hSo 10 11 rfl rfl (by decide) | exact sorted_ne hSo 11 0 rfl rfl (by decide) | exact sorted_ne hSo 11 1 rfl rfl (by decide) | exact sorted_ne hSo 11 2 rfl rfl (by decide) | exact sorted_ne hSo 11 3 rfl rfl (by decide) | exact sorted_ne hSo 11 4 rfl rfl (by decide) | exact sorted_ne hSo 11 5 rfl rfl (by decide) | exact sorted_ne hSo 11 6 rfl rfl (by decide) | exact sorted_ne hSo 11 7 rfl rfl (by decide) | exact sorted_ne hSo 11 8 rfl rfl (by decide) | exact sorted_ne hSo 11 9 rfl rfl (by decide) | exact sorted_ne hSo 11 10 rfl rfl (by decide)))
  have sg := stays_h F8 N8 hm1
  have ig := inL_h N8 _ hr1 hn1
  refine useM (masks_spec w mean mg mb _ x G nf nr hF hR (fun p hp => (N8 p (hm1 p hp)).1) (by (repeat' (first | exact (fun _ h => absurd h List.not_mem_nil) | refine List.forall_mem_cons.mpr ⟨?_, ?_⟩ | exact hq.1 | exact hq.2.1 | exact hq.2.2.1 | exact hq.2.2.2.1 | exact hq.2.2.2.2.1 | exact hq.2.2.2.2.2 | exact sorted_ne hSo 0 1 rfl rfl (by decide) | exact sorted_ne hSo 0 2 rfl rfl (by decide) | exact sorted_ne hSo 0 3 rfl rfl (by decide) | exact sorted_ne hSo 0 4 rfl rfl (by decide) | exact sorted_ne hSo 0 5 rfl rfl (by decide) | exact sorted_ne hSo 0 6 rfl rfl (by decide) | exact sorted_ne hSo 0 7 rfl rfl (by decide) | exact sorted_ne hSo 0 8 rfl rfl (by decide) | exact sorted_ne hSo 0 9 rfl rfl (by decide) | exact sorted_ne hSo 0 10 rfl rfl (by decide) | exact sorted_ne hSo 0 11 rfl rfl (by decide) | exact sorted_ne hSo 1 0 rfl rfl (by decide) | exact sorted_ne hSo 1 2 rfl rfl (by decide) | exact sorted_ne hSo 1 3 rfl rfl (by decide) | exact sorted_ne hSo 1 4 rfl rfl (by decide) | exact sorted_ne hSo 1 5 rfl rfl (by decide) | exact sorted_ne hSo 1 6 rfl rfl (by decide) | exact sorted_ne hSo 1 7 rfl rfl (by decide) | exact sorted_ne hSo 1 8 rfl rfl (by decide) | exact sorted_ne hSo 1 9 rfl rfl (by decide) | exact sorted_ne hSo 1 10 rfl rfl (by decide) | exact sorted_ne hSo 1 11 rfl rfl (by decide) | exact sorted_ne hSo 2 0 rfl rfl (by decide) | exact sorted_ne hSo 2 1 rfl rfl (by decide) | exact sorted_ne hSo 2 3 rfl rfl (by decide) | exact sorted_ne hSo 2 4 rfl rfl (by decide) | exact sorted_ne hSo 2 5 rfl rfl (by decide) | exact sorted_ne hSo 2 6 rfl rfl (by decide) | exact sorted_ne hSo 2 7 rfl rfl (by decide) | exact sorted_ne hSo 2 8 rfl rfl (by decide) | exact sorted_ne hSo 2 9 rfl rfl (by decide) | exact sorted_ne hSo 2 10 rfl rfl (by decide) | exact sorted_ne hSo 2 11 rfl rfl (by decide) | exact sorted_ne hSo 3 0 rfl rfl (by decide) | exact sorted_ne hSo 3 1 rfl rfl (by decide) | exact sorted_ne hSo 3 2 rfl rfl (by decide) | exact sorted_ne hSo 3 4 rfl rfl (by decide) | exact sorted_ne hSo 3 5 rfl rfl (by decide) | exact sorted_ne hSo 3 6 rfl rfl (by decide) | exact sorted_ne hSo 3 7 rfl rfl (by decide) | exact sorted_ne hSo 3 8 rfl rfl (by decide) | exact sorted_ne hSo 3 9 rfl rfl (by decide) | exact sorted_ne hSo 3 10 rfl rfl (by decide) | exact sorted_ne hSo 3 11 rfl rfl (by decide) | exact sorted_ne hSo 4 0 rfl rfl (by decide) | exact sorted_ne hSo 4 1 rfl rfl (by decide) | exact sorted_ne hSo 4 2 rfl rfl (by decide) | exact sorted_ne hSo 4 3 rfl rfl (by decide) | exact sorted_ne hSo 4 5 rfl rfl (by decide) | exact sorted_ne hSo 4 6 rfl rfl (by decide) | exact sorted_ne hSo 4 7 rfl rfl (by decide) | exact sorted_ne hSo 4 8 rfl rfl (by decide) | exact sorted_ne hSo 4 9 rfl rfl (by decide) | exact sorted_ne hSo 4 10 rfl rfl (by decide) | exact sorted_ne hSo 4 11 rfl rfl (by decide) | exact sorted_ne hSo 5 0 rfl rfl (by decide) | exact sorted_ne hSo 5 1 rfl rfl (by decide) | exact sorted_ne hSo 5 2 rfl rfl (by decide) | exact sorted_ne hSo 5 3 rfl rfl (by decide) | exact sorted_ne hSo 5 4 rfl rfl (by decide) | exact sorted_ne hSo 5 6 rfl rfl (by decide) | exact sorted_ne hSo 5 7 rfl rfl (by decide) | exact sorted_ne hSo 5 8 rfl rfl (by decide) | exact sorted_ne hSo 5 9 rfl rfl (by decide) | exact sorted_ne hSo 5 10 rfl rfl (by decide) | exact sorted_ne hSo 5 11 rfl rfl (by decide) | exact sorted_ne hSo 6 0 rfl rfl (by decide) | exact sorted_ne hSo 6 1 rfl rfl (by decide) | exact sorted_ne hSo 6 2 rfl rfl (by decide) | exact sorted_ne hSo 6 3 rfl rfl (by decide) | exact sorted_ne hSo 6 4 rfl rfl (by decide) | exact sorted_ne hSo 6 5 rfl rfl (by decide) | exact sorted_ne hSo 6 7 rfl rfl (by decide) | exact sorted_ne hSo 6 8 rfl rfl (by decide) | exact sorted_ne hSo 6 9 rfl rfl (by decide) | exact sorted_ne hSo 6 10 rfl rfl (by decide) | exact sorted_ne hSo 6 11 rfl rfl (by decide) | exact sorted_ne hSo 7 0 rfl rfl (by decide) | exact sorted_ne hSo 7 1 rfl rfl (by decide) | exact sorted_ne hSo 7 2 rfl rfl (by decide) | exact sorted_ne hSo 7 3 rfl rfl (by decide) | exact sorted_ne hSo 7 4 rfl rfl (by decide) | exact sorted_ne hSo 7 5 rfl rfl (by decide) | exact sorted_ne hSo 7 6 rfl rfl (by decide) | exact sorted_ne hSo 7 8 rfl rfl (by decide) | exact sorted_ne hSo 7 9 rfl rfl (by decide) | exact sorted_ne hSo 7 10 rfl rfl (by decide) | exact sorted_ne hSo 7 11 rfl rfl (by decide) | exact sorted_ne hSo 8 0 rfl rfl (by decide) | exact sorted_ne hSo 8 1 rfl rfl (by decide) | exact sorted_ne hSo 8 2 rfl rfl (by decide) | exact sorted_ne hSo 8 3 rfl rfl (by decide) | exact sorted_ne hSo 8 4 rfl rfl (by decide) | exact sorted_ne hSo 8 5 rfl rfl (by decide) | exact sorted_ne hSo 8 6 rfl rfl (by decide) | exact sorted_ne hSo 8 7 rfl rfl (by decide) | exact sorted_ne hSo 8 9 rfl rfl (by decide) | exact sorted_ne hSo 8 10 rfl rfl (by decide) | exact sorted_ne hSo 8 11 rfl rfl (by decide) | exact sorted_ne hSo 9 0 rfl rfl (by decide) | exact sorted_ne hSo 9 1 rfl rfl (by decide) | exact sorted_ne hSo 9 2 rfl rfl (by decide) | exact sorted_ne hSo 9 3 rfl rfl (by decide) | exact sorted_ne hSo 9 4 rfl rfl (by decide) | exact sorted_ne hSo 9 5 rfl rfl (by decide) | exact sorted_ne hSo 9 6 rfl rfl (by decide) | exact sorted_ne hSo 9 7 rfl rfl (by decide) | exact sorted_ne hSo 9 8 rfl rfl (by decide) | exact sorted_ne hSo 9 10 rfl rfl (by decide) | exact sorted_ne hSo 9 11 rfl rfl (by decide) | exact sorted_ne hSo 10 0 rfl rfl (by decide) | exact sorted_ne hSo 10 1 rfl rfl (by decide) | exact sorted_ne hSo 10 2 rfl rfl (by decide) | exact sorted_ne hSo 10 3 rfl rfl (by decide) | exact sorted_ne hSo 10 4 rfl rfl (by decide) | exact sorted_ne hSo 10 5 rfl rfl (by decide) | exact sorted_ne hSo 10 6 rfl rfl (by decide) | exact sorted_ne hSo 10 7 rfl rfl (by decide) | exact sorted_ne hSo 10 8 rfl rfl (by decide) | exact sorted_ne hSo 10 9 rfl rfl (by decide) | exact sorted_ne hSo 10 11 rfl rfl (by decide) | exact sorted_ne hSo 11 0 rfl rfl (by decide) | exact sorted_ne hSo 11 1 rfl rfl (by decide) | exact sorted_ne hSo 11 2 rfl rfl (by decide) | exact sorted_ne hSo 11 3 rfl rfl (by decide) | exact sorted_ne hSo 11 4 rfl rfl (by decide) | exact sorted_ne hSo 11 5 rfl rfl (by decide) | exact sorted_ne hSo 11 6 rfl rfl (by decide) | exact sorted_ne hSo 11 7 rfl rfl (by decide) | exact sorted_ne hSo 11 8 rfl rfl (by decide) | exact sorted_ne hSo 11 9 rfl rfl (by decide) | exact sorted_ne hSo 11 10 rfl rfl (by decide)))) (X.keeps sg) (T.keeps sg) ⟨ig _ _ (.head _), rfl, rfl, ig _ _ (.tail _ (.head _))⟩) F8 N8 hm1 _ hr1 hn1 rfl (by decide) (by decide) ?_
  clear F8 N8 hm1 hr1 hn1 sg ig
  rintro v tl h' tk' F8 N8 - ⟨vF, vR, nF, nR, rfl, hVF, hVR⟩
  have N9 := news_sub (news := ledX w.params x G nf nr ++ ledC G p0 p1 vF vR [] [] [] nF nR 0 0 0) N8 (by simp only [List.drop, List.cons_append, List.nil_append]; lcg_sub)
  clear N8
  k_steps
  refine Stop.go ?_
  (rename Fr _ _ _ _ => F8)
  (rename News _ _ _ _ => N8)
  have hm1 : ∀ p ∈ raysMu w.params x G nf nr, p ∈ ledX w.params x G nf nr ++ ledC G p0 p1 vF vR [] [] [] nF nR 0 0 0 := fun p hp => List.mem_append_left _ hp
  have hr1 : ∀ p ∈ ledC G p0 p1 vF vR [] [] [] nF nR 0 0 0, p ∈ ledX w.params x G nf nr ++ ledC G p0 p1 vF vR [] [] [] nF nR 0 0 0 := fun p hp => List.mem_append_right _ hp
  have hn1 : ∀ p ∈ ledC G p0 p1 vF vR [] [] [] nF nR 0 0 0, ∀ q ∈ raysMu w.params x G nf nr, p.1 ≠ q.1 := by
    (repeat' (first | exact (fun _ h => absurd h List.not_mem_nil) | refine List.forall_mem_cons.mpr ⟨?_, ?_⟩ | exact hq.1 | exact hq.2.1 | exact hq.2.2.1 | exact hq.2.2.2.1 | exact hq.2.2.2.2.1 | exact hq.2.2.2.2.2 | exact sorted_ne hSo 0 1 rfl rfl (by decide) | exact sorted_ne hSo 0 2 rfl rfl (by decide) | exact sorted_ne hSo 0 3 rfl rfl (by decide) | exact sorted_ne hSo 0 4 rfl rfl (by decide) | exact sorted_ne hSo 0 5 rfl rfl (by decide) | exact sorted_ne hSo 0 6 rfl rfl (by decide) | exact sorted_ne hSo 0 7 rfl rfl (by decide) | exact sorted_ne hSo 0 8 rfl rfl (by decide) | exact sorted_ne hSo 0 9 rfl rfl (by decide) | exact sorted_ne hSo 0 10 rfl rfl (by decide) | exact sorted_ne hSo 0 11 rfl rfl (by decide) | exact sorted_ne hSo 1 0 rfl rfl (by decide) | exact sorted_ne hSo 1 2 rfl rfl (by decide) | exact sorted_ne hSo 1 3 rfl rfl (by decide) | exact sorted_ne hSo 1 4 rfl rfl (by decide) | exact sorted_ne hSo 1 5 rfl rfl (by decide) | exact sorted_ne hSo 1 6 rfl rfl (by decide) | exact sorted_ne hSo 1 7 rfl rfl (by decide) | exact sorted_ne hSo 1 8 rfl rfl (by decide) | exact sorted_ne hSo 1 9 rfl rfl (by decide) | exact sorted_ne hSo 1 10 rfl rfl (by decide) | exact sorted_ne hSo 1 11 rfl rfl (by decide) | exact sorted_ne hSo 2 0 rfl rfl (by decide) | exact sorted_ne hSo 2 1 rfl rfl (by decide) | exact sorted_ne hSo 2 3 rfl rfl (by decide) | exact sorted_ne hSo 2 4 rfl rfl (by decide) | exact sorted_ne hSo 2 5 rfl rfl (by decide) | exact sorted_ne hSo 2 6 rfl rfl (by decide) | exact sorted_ne hSo 2 7 rfl rfl (by decide) | exact sorted_ne hSo 2 8 rfl rfl (by decide) | exact sorted_ne hSo 2 9 rfl rfl (by decide) | exact sorted_ne hSo 2 10 rfl rfl (by decide) | exact sorted_ne hSo 2 11 rfl rfl (by decide) | exact sorted_ne hSo 3 0 rfl rfl (by decide) | exact sorted_ne hSo 3 1 rfl rfl (by decide) | exact sorted_ne hSo 3 2 rfl rfl (by decide) | exact sorted_ne hSo 3 4 rfl rfl (by decide) | exact sorted_ne hSo 3 5 rfl rfl (by decide) | exact sorted_ne hSo 3 6 rfl rfl (by decide) | exact sorted_ne hSo 3 7 rfl rfl (by decide) | exact sorted_ne hSo 3 8 rfl rfl (by decide) | exact sorted_ne hSo 3 9 rfl rfl (by decide) | exact sorted_ne hSo 3 10 rfl rfl (by decide) | exact sorted_ne hSo 3 11 rfl rfl (by decide) | exact sorted_ne hSo 4 0 rfl rfl (by decide) | exact sorted_ne hSo 4 1 rfl rfl (by decide) | exact sorted_ne hSo 4 2 rfl rfl (by decide) | exact sorted_ne hSo 4 3 rfl rfl (by decide) | exact sorted_ne hSo 4 5 rfl rfl (by decide) | exact sorted_ne hSo 4 6 rfl rfl (by decide) | exact sorted_ne hSo 4 7 rfl rfl (by decide) | exact sorted_ne hSo 4 8 rfl rfl (by decide) | exact sorted_ne hSo 4 9 rfl rfl (by decide) | exact sorted_ne hSo 4 10 rfl rfl (by decide) | exact sorted_ne hSo 4 11 rfl rfl (by decide) | exact sorted_ne hSo 5 0 rfl rfl (by decide) | exact sorted_ne hSo 5 1 rfl rfl (by decide) | exact sorted_ne hSo 5 2 rfl rfl (by decide) | exact sorted_ne hSo 5 3 rfl rfl (by decide) | exact sorted_ne hSo 5 4 rfl rfl (by decide) | exact sorted_ne hSo 5 6 rfl rfl (by decide) | exact sorted_ne hSo 5 7 rfl rfl (by decide) | exact sorted_ne hSo 5 8 rfl rfl (by decide) | exact sorted_ne hSo 5 9 rfl rfl (by decide) | exact sorted_ne hSo 5 10 rfl rfl (by decide) | exact sorted_ne hSo 5 11 rfl rfl (by decide) | exact sorted_ne hSo 6 0 rfl rfl (by decide) | exact sorted_ne hSo 6 1 rfl rfl (by decide) | exact sorted_ne hSo 6 2 rfl rfl (by decide) | exact sorted_ne hSo 6 3 rfl rfl (by decide) | exact sorted_ne hSo 6 4 rfl rfl (by decide) | exact sorted_ne hSo 6 5 rfl rfl (by decide) | exact sorted_ne hSo 6 7 rfl rfl (by decide) | exact sorted_ne hSo 6 8 rfl rfl (by decide) | exact sorted_ne hSo 6 9 rfl rfl (by decide) | exact sorted_ne hSo 6 10 rfl rfl (by decide) | exact sorted_ne hSo 6 11 rfl rfl (by decide) | exact sorted_ne hSo 7 0 rfl rfl (by decide) | exact sorted_ne hSo 7 1 rfl rfl (by decide) | exact sorted_ne hSo 7 2 rfl rfl (by decide) | exact sorted_ne hSo 7 3 rfl rfl (by decide) | exact sorted_ne hSo 7 4 rfl rfl (by decide) | exact sorted_ne hSo 7 5 rfl rfl (by decide) | exact sorted_ne hSo 7 6 rfl rfl (by decide) | exact sorted_ne hSo 7 8 rfl rfl (by decide) | exact sorted_ne hSo 7 9 rfl rfl (by decide) | exact sorted_ne hSo 7 10 rfl rfl (by decide) | exact sorted_ne hSo 7 11 rfl rfl (by decide) | exact sorted_ne hSo 8 0 rfl rfl (by decide) | exact sorted_ne hSo 8 1 rfl rfl (by decide) | exact sorted_ne hSo 8 2 rfl rfl (by decide) | exact sorted_ne hSo 8 3 rfl rfl (by decide) | exact sorted_ne hSo 8 4 rfl rfl (by decide) | exact sorted_ne hSo 8 5 rfl rfl (by decide) | exact sorted_ne hSo 8 6 rfl rfl (by decide) | exact sorted_ne hSo 8 7 rfl rfl (by decide) | exact sorted_ne hSo 8 9 rfl rfl (by decide) | exact sorted_ne hSo 8 10 rfl rfl (by decide) | exact sorted_ne hSo 8 11 rfl rfl (by decide) | exact sorted_ne hSo 9 0 rfl rfl (by decide) | exact sorted_ne hSo 9 1 rfl rfl (by decide) | exact sorted_ne hSo 9 2 rfl rfl (by decide) | exact sorted_ne hSo 9 3 rfl rfl (by decide) | exact sorted_ne hSo 9 4 rfl rfl (by decide) | exact sorted_ne hSo 9 5 rfl rfl (by decide) | exact sorted_ne hSo 9 6 rfl rfl (by decide) | exact sorted_ne hSo 9 7 rfl rfl (by decide) | exact sorted_ne hSo 9 8 rfl rfl (by decide) | exact sorted_ne hSo 9 10 rfl rfl (by decide) | exact sorted_ne hSo 9 11 rfl rfl (by decide) | exact sorted_ne hSo 10 0 rfl rfl (by decide) | exact sorted_ne hSo 10 1 rfl rfl (by decide) | exact sorted_ne hSo 10 2 rfl rfl (by decide) | exact sorted_ne hSo 10 3 rfl rfl (by decide) | exact sorted_ne hSo 10 4 rfl rfl (by decide) | exact sorted_ne hSo 10 5 rfl rfl (by decide) | exact sorted_ne hSo 10 6 rfl rfl (by decide) | exact sorted_ne hSo 10 7 rfl rfl (by decide) | exact sorted_ne hSo 10 8 rfl rfl (by decide) | exact sorted_ne hSo 10 9 rfl rfl (by decide) | exact sorted_ne hSo 10 11 rfl rfl (by decide) | exact sorted_ne hSo 11 0 rfl rfl (by decide) | exact sorted_ne hSo 11 1 rfl rfl (by decide) | exact sorted_ne hSo 11 2 rfl rfl (by decide) | exact sorted_ne hSo 11 3 rfl rfl (by decide) | exact sorted_ne hSo 11 4 rfl rfl (by decide) | exact sorted_ne hSo 11 5 rfl rfl (by decide) | exact sorted_ne hSo 11 6 rfl rfl (by decide) | exact sorted_ne hSo 11 7 rfl rfl (by decide) | exact sorted_ne hSo 11 8 rfl rfl (by decide) | exact sorted_ne hSo 11 9 rfl rfl (by decide) | exact sorted_ne hSo 11 10 rfl rfl (by decide)))
  have sg := stays_h F8 N8 hm1
  have ig := inL_h N8 _ hr1 hn1
  refine useM (rays_spec w mean mg mb _ x G nf nr hF hR (fun p hp => (N8 p (hm1 p hp)).1) (by (repeat' (first | exact (fun _ h => absurd h List.not_mem_nil) | refine List.forall_mem_cons.mpr ⟨?_, ?_⟩ | exact hq.1 | exact hq.2.1 | exact hq.2.2.1 | exact hq.2.2.2.1 | exact hq.2.2.2.2.1 | exact hq.2.2.2.2.2 | exact sorted_ne hSo 0 1 rfl rfl (by decide) | exact sorted_ne hSo 0 2 rfl rfl (by decide) | exact sorted_ne hSo 0 3 rfl rfl (by decide) | exact sorted_ne hSo 0 4 rfl rfl (by decide) | exact sorted_ne hSo 0 5 rfl rfl (by decide) | exact sorted_ne hSo 0 6 rfl rfl (by decide) | exact sorted_ne hSo 0 7 rfl rfl (by decide) | exact sorted_ne hSo 0 8 rfl rfl (by decide) | exact sorted_ne hSo 0 9 rfl rfl (by decide) | exact sorted_ne hSo 0 10 rfl rfl (by decide) | exact sorted_ne hSo 0 11 rfl rfl (by decide) | exact sorted_ne hSo 1 0 rfl rfl (by decide) | exact sorted_ne hSo 1 2 rfl rfl (by decide) | exact sorted_ne hSo 1 3 rfl rfl (by decide) | exact sorted_ne hSo 1 4 rfl rfl (by decide) | exact sorted_ne hSo 1 5 rfl rfl (by decide) | exact sorted_ne hSo 1 6 rfl rfl (by decide) | exact sorted_ne hSo 1 7 rfl rfl (by decide) | exact sorted_ne hSo 1 8 rfl rfl (by decide) | exact sorted_ne hSo 1 9 rfl rfl (by decide) | exact sorted_ne hSo 1 10 rfl rfl (by decide) | exact sorted_ne hSo 1 11 rfl rfl (by decide) | exact sorted_ne hSo 2 0 rfl rfl (by decide) | exact sorted_ne hSo 2 1 rfl rfl (by decide) | exact sorted_ne hSo 2 3 rfl rfl (by decide) | exact sorted_ne hSo 2 4 rfl rfl (by decide) | exact sorted_ne hSo 2 5 rfl rfl (by decide) | exact sorted_ne hSo 2 6 rfl rfl (by decide) | exact sorted_ne hSo 2 7 rfl rfl (by decide) | exact sorted_ne hSo 2 8 rfl rfl (by decide) | exact sorted_ne hSo 2 9 rfl rfl (by decide) | exact sorted_ne hSo 2 10 rfl rfl (by decide) | exact sorted_ne hSo 2 11 rfl rfl (by decide) | exact sorted_ne hSo 3 0 rfl rfl (by decide) | exact sorted_ne hSo 3 1 rfl rfl (by decide) | exact sorted_ne hSo 3 2 rfl rfl (by decide) | exact sorted_ne hSo 3 4 rfl rfl (by decide) | exact sorted_ne hSo 3 5 rfl rfl (by decide) | exact sorted_ne hSo 3 6 rfl rfl (by decide) | exact sorted_ne hSo 3 7 rfl rfl (by decide) | exact sorted_ne hSo 3 8 rfl rfl (by decide) | exact sorted_ne hSo 3 9 rfl rfl (by decide) | exact sorted_ne hSo 3 10 rfl rfl (by decide) | exact sorted_ne hSo 3 11 rfl rfl (by decide) | exact sorted_ne hSo 4 0 rfl rfl (by decide) | exact sorted_ne hSo 4 1 rfl rfl (by decide) | exact sorted_ne hSo 4 2 rfl rfl (by decide) | exact sorted_ne hSo 4 3 rfl rfl (by decide) | exact sorted_ne hSo 4 5 rfl rfl (by decide) | exact sorted_ne hSo 4 6 rfl rfl (by decide) | exact sorted_ne hSo 4 7 rfl rfl (by decide) | exact sorted_ne hSo 4 8 rfl rfl (by decide) | exact sorted_ne hSo 4 9 rfl rfl (by decide) | exact sorted_ne hSo 4 10 rfl rfl (by decide) | exact sorted_ne hSo 4 11 rfl rfl (by decide) | exact sorted_ne hSo 5 0 rfl rfl (by decide) | exact sorted_ne hSo 5 1 rfl rfl (by decide) | exact sorted_ne hSo 5 2 rfl rfl (by decide) | exact sorted_ne hSo 5 3 rfl rfl (by decide) | exact sorted_ne hSo 5 4 rfl rfl (by decide) | exact sorted_ne hSo 5 6 rfl rfl (by decide) | exact sorted_ne hSo 5 7 rfl rfl (by decide) | exact sorted_ne hSo 5 8 rfl rfl (by decide) | exact sorted_ne hSo 5 9 rfl rfl (by decide) | exact sorted_ne hSo 5 10 rfl rfl (by decide) | exact sorted_ne hSo 5 11 rfl rfl (by decide) | exact sorted_ne hSo 6 0 rfl rfl (by decide) | exact sorted_ne hSo 6 1 rfl rfl (by decide) | exact sorted_ne hSo 6 2 rfl rfl (by decide) | exact sorted_ne hSo 6 3 rfl rfl (by decide) | exact sorted_ne hSo 6 4 rfl rfl (by decide) | exact sorted_ne hSo 6 5 rfl rfl (by decide) | exact sorted_ne hSo 6 7 rfl rfl (by decide) | exact sorted_ne hSo 6 8 rfl rfl (by decide) | exact sorted_ne hSo 6 9 rfl rfl (by decide) | exact sorted_ne hSo 6 10 rfl rfl (by decide) | exact sorted_ne hSo 6 11 rfl rfl (by decide) | exact sorted_ne hSo 7 0 rfl rfl (by decide) | exact sorted_ne hSo 7 1 rfl rfl (by decide) | exact sorted_ne hSo 7 2 rfl rfl (by decide) | exact sorted_ne hSo 7 3 rfl rfl (by decide) | exact sorted_ne hSo 7 4 rfl rfl (by decide) | exact sorted_ne hSo 7 5 rfl rfl (by decide) | exact sorted_ne hSo 7 6 rfl rfl (by decide) | exact sorted_ne hSo 7 8 rfl rfl (by decide) | exact sorted_ne hSo 7 9 rfl rfl (by decide) | exact sorted_ne hSo 7 10 rfl rfl (by decide) | exact sorted_ne hSo 7 11 rfl rfl (by decide) | exact sorted_ne hSo 8 0 rfl rfl (by decide) | exact sorted_ne hSo 8 1 rfl rfl (by decide) | exact sorted_ne hSo 8 2 rfl rfl (by decide) | exact sorted_ne hSo 8 3 rfl rfl (by decide) | exact sorted_ne hSo 8 4 rfl rfl (by decide) | exact sorted_ne hSo 8 5 rfl rfl (by decide) | exact sorted_ne hSo 8 6 rfl rfl (by decide) | exact sorted_ne hSo 8 7 rfl rfl (by decide) | exact sorted_ne hSo 8 9 rfl rfl (by decide) | exact sorted_ne hSo 8 10 rfl rfl (by decide) | exact sorted_ne hSo 8 11 rfl rfl (by decide) | exact sorted_ne hSo 9 0 rfl rfl (by decide) | exact sorted_ne hSo 9 1 rfl rfl (by decide) | exact sorted_ne hSo 9 2 rfl rfl (by decide) | exact sorted_ne hSo 9 3 rfl rfl (by decide) | exact sorted_ne hSo 9 4 rfl rfl (by decide) | exact sorted_ne hSo 9 5 rfl rfl (by decide) | exact sorted_ne hSo 9 6 rfl rfl (by decide) | exact sorted_ne hSo 9 7 rfl rfl (by decide) | exact sorted_ne hSo 9 8 rfl rfl (by decide) | exact sorted_ne hSo 9 10 rfl rfl (by decide) | exact sorted_ne hSo 9 11 rfl rfl (by decide) | exact sorted_ne hSo 10 0 rfl rfl (by decide) | exact sorted_ne hSo 10 1 rfl rfl (by decide) | exact sorted_ne hSo 10 2 rfl rfl (by decide) | exact sorted_ne hSo 10 3 rfl rfl (by decide) | exact sorted_ne hSo 10 4 rfl rfl (by decide) | exact sorted_ne hSo 10 5 rfl rfl (by decide) | exact sorted_ne hSo 10 6 rfl rfl (by decide) | exact sorted_ne hSo 10 7 rfl rfl (by decide) | exact sorted_ne hSo 10 8 rfl rfl (by decide) | exact sorted_ne hSo 10 9 rfl rfl (by decide) | exact sorted_ne hSo 10 11 rfl rfl (by decide) | exact sorted_ne hSo 11 0 rfl rfl (by decide) | exact sorted_ne hSo 11 1 rfl rfl (by decide) | exact sorted_ne hSo 11 2 rfl rfl (by decide) | exact sorted_ne hSo 11 3 rfl rfl (by decide) | exact sorted_ne hSo 11 4 rfl rfl (by decide) | exact sorted_ne hSo 11 5 rfl rfl (by decide) | exact sorted_ne hSo 11 6 rfl rfl (by decide) | exact sorted_ne hSo 11 7 rfl rfl (by decide) | exact sorted_ne hSo 11 8 rfl rfl (by decide) | exact sorted_ne hSo 11 9 rfl rfl (by decide) | exact sorted_ne hSo 11 10 rfl rfl (by decide)))) (by (repeat' (first | exact (fun _ h => absurd h List.not_mem_nil) | refine List.forall_mem_cons.mpr ⟨?_, ?_⟩ | exact hq.1 | exact hq.2.1 | exact hq.2.2.1 | exact hq.2.2.2.1 | exact hq.2.2.2.2.1 | exact hq.2.2.2.2.2 | exact sorted_ne hSo 0 1 rfl rfl (by decide) | exact sorted_ne hSo 0 2 rfl rfl (by decide) | exact sorted_ne hSo 0 3 rfl rfl (by decide) | exact sorted_ne hSo 0 4 rfl rfl (by decide) | exact sorted_ne hSo 0 5 rfl rfl (by decide) | exact sorted_ne hSo 0 6 rfl rfl (by decide) | exact sorted_ne hSo 0 7 rfl rfl (by decide) | exact sorted_ne hSo 0 8 rfl rfl (by decide) | exact sorted_ne hSo 0 9 rfl rfl (by decide) | exact sorted_ne hSo 0 10 rfl rfl (by decide) | exact sorted_ne hSo 0 11 rfl rfl (by decide) | exact sorted_ne hSo 1 0 rfl rfl (by decide) | exact sorted_ne hSo 1 2 rfl rfl (by decide) | exact sorted_ne hSo 1 3 rfl rfl (by decide) | exact sorted_ne hSo 1 4 rfl rfl (by decide) | exact sorted_ne hSo 1 5 rfl rfl (by decide) | exact sorted_ne hSo 1 6 rfl rfl (by decide) | exact sorted_ne hSo 1 7 rfl rfl (by decide) | exact sorted_ne hSo 1 8 rfl rfl (by decide) | exact sorted_ne hSo 1 9 rfl rfl (by decide) | exact sorted_ne hSo 1 10 rfl rfl (by decide) | exact sorted_ne hSo 1 11 rfl rfl (by decide) | exact sorted_ne hSo 2 0 rfl rfl (by decide) | exact sorted_ne hSo 2 1 rfl rfl (by decide) | exact sorted_ne hSo 2 3 rfl rfl (by decide) | exact sorted_ne hSo 2 4 rfl rfl (by decide) | exact sorted_ne hSo 2 5 rfl rfl (by decide) | exact sorted_ne hSo 2 6 rfl rfl (by decide) | exact sorted_ne hSo 2 7 rfl rfl (by decide) | exact sorted_ne hSo 2 8 rfl rfl (by decide) | exact sorted_ne hSo 2 9 rfl rfl (by decide) | exact sorted_ne hSo 2 10 rfl rfl (by decide) | exact sorted_ne hSo 2 11 rfl rfl (by decide) | exact sorted_ne hSo 3 0 rfl rfl (by decide) | exact sorted_ne hSo 3 1 rfl rfl (by decide) | exact sorted_ne hSo 3 2 rfl rfl (by decide) | exact sorted_ne hSo 3 4 rfl rfl (by decide) | exact sorted_ne hSo 3 5 rfl rfl (by decide) | exact sorted_ne hSo 3 6 rfl rfl (by decide) | exact sorted_ne hSo 3 7 rfl rfl (by decide) | exact sorted_ne hSo 3 8 rfl rfl (by decide) | exact sorted_ne hSo 3 9 rfl rfl (by decide) | exact sorted_ne hSo 3 10 rfl rfl (by decide) | exact sorted_ne hSo 3 11 rfl rfl (by decide) | exact sorted_ne hSo 4 0 rfl rfl (by decide) | exact sorted_ne hSo 4 1 rfl rfl (by decide) | exact sorted_ne hSo 4 2 rfl rfl (by decide) | exact sorted_ne hSo 4 3 rfl rfl (by decide) | exact sorted_ne hSo 4 5 rfl rfl (by decide) | exact sorted_ne hSo 4 6 rfl rfl (by decide) | exact sorted_ne hSo 4 7 rfl rfl (by decide) | exact sorted_ne hSo 4 8 rfl rfl (by decide) | exact sorted_ne hSo 4 9 rfl rfl (by decide) | exact sorted_ne hSo 4 10 rfl rfl (by decide) | exact sorted_ne hSo 4 11 rfl rfl (by decide) | exact sorted_ne hSo 5 0 rfl rfl (by decide) | exact sorted_ne hSo 5 1 rfl rfl (by decide) | exact sorted_ne hSo 5 2 rfl rfl (by decide) | exact sorted_ne hSo 5 3 rfl rfl (by decide) | exact sorted_ne hSo 5 4 rfl rfl (by decide) | exact sorted_ne hSo 5 6 rfl rfl (by decide) | exact sorted_ne hSo 5 7 rfl rfl (by decide) | exact sorted_ne hSo 5 8 rfl rfl (by decide) | exact sorted_ne hSo 5 9 rfl rfl (by decide) | exact sorted_ne hSo 5 10 rfl rfl (by decide) | exact sorted_ne hSo 5 11 rfl rfl (by decide) | exact sorted_ne hSo 6 0 rfl rfl (by decide) | exact sorted_ne hSo 6 1 rfl rfl (by decide) | exact sorted_ne hSo 6 2 rfl rfl (by decide) | exact sorted_ne hSo 6 3 rfl rfl (by decide) | exact sorted_ne hSo 6 4 rfl rfl (by decide) | exact sorted_ne hSo 6 5 rfl rfl (by decide) | exact sorted_ne hSo 6 7 rfl rfl (by decide) | exact sorted_ne hSo 6 8 rfl rfl (by decide) | exact sorted_ne hSo 6 9 rfl rfl (by decide) | exact sorted_ne hSo 6 10 rfl rfl (by decide) | exact sorted_ne hSo 6 11 rfl rfl (by decide) | exact sorted_ne hSo 7 0 rfl rfl (by decide) | exact sorted_ne hSo 7 1 rfl rfl (by decide) | exact sorted_ne hSo 7 2 rfl rfl (by decide) | exact sorted_ne hSo 7 3 rfl rfl (by decide) | exact sorted_ne hSo 7 4 rfl rfl (by decide) | exact sorted_ne hSo 7 5 rfl rfl (by decide) | exact sorted_ne hSo 7 6 rfl rfl (by decide) | exact sorted_ne hSo 7 8 rfl rfl (by decide) | exact sorted_ne hSo 7 9 rfl rfl (by decide) | exact sorted_ne hSo 7 10 rfl rfl (by decide) | exact sorted_ne hSo 7 11 rfl rfl (by decide) | exact sorted_ne hSo 8 0 rfl rfl (by decide) | exact sorted_ne hSo 8 1 rfl rfl (by decide) | exact sorted_ne hSo 8 2 rfl rfl (by decide) | exact sorted_ne hSo 8 3 rfl rfl (by decide) | exact sorted_ne hSo 8 4 rfl rfl (by decide) | exact sorted_ne hSo 8 5 rfl rfl (by decide) | exact sorted_ne hSo 8 6 rfl rfl (by decide) | exact sorted_ne hSo 8 7 rfl rfl (by decide) | exact sorted_ne hSo 8 9 rfl rfl (by decide) | exact sorted_ne hSo 8 10 rfl rfl (by decide) | exact sorted_ne hSo 8 11 rfl rfl (by decide) | exact sorted_ne hSo 9 0 rfl rfl (by decide) | exact sorted_ne hSo 9 1 rfl rfl (by decide) | exact sorted_ne hSo 9 2 rfl rfl (by decide) | exact sorted_ne hSo 9 3 rfl rfl (by decide) | exact sorted_ne hSo 9 4 rfl rfl (by decide) | exact sorted_ne hSo 9 5 rfl rfl (by decide) | exact sorted_ne hSo 9 6 rfl rfl (by decide) | exact sorted_ne hSo 9 7 rfl rfl (by decide) | exact sorted_ne hSo 9 8 rfl rfl (by decide) | exact sorted_ne hSo 9 10 rfl rfl (by decide) | exact sorted_ne hSo 9 11 rfl rfl (by decide) | exact sorted_ne hSo 10 0 rfl rfl (by decide) | exact sorted_ne hSo 10 1 rfl rfl (by decide) | exact sorted_ne hSo 10 2 rfl rfl (by decide) | exact sorted_ne hSo 10 3 rfl rfl (by decide) | exact sorted_ne hSo 10 4 rfl rfl (by decide) | exact sorted_ne hSo 10 5 rfl rfl (by decide) | exact sorted_ne hSo 10 6 rfl rfl (by decide) | exact sorted_ne hSo 10 7 rfl rfl (by decide) | exact sorted_ne hSo 10 8 rfl rfl (by decide) | exact sorted_ne hSo 10 9 rfl rfl (by decide) | exact sorted_ne hSo 10 11 rfl rfl (by decide) | exact sorted_ne hSo 11 0 rfl rfl (by decide) | exact sorted_ne hSo 11 1 rfl rfl (by decide) | exact sorted_ne hSo 11 2 rfl rfl (by decide) | exact sorted_ne hSo 11 3 rfl rfl (by decide) | exact sorted_ne hSo 11 4 rfl rfl (by decide) | exact sorted_ne hSo 11 5 rfl rfl (by decide) | exact sorted_ne hSo 11 6 rfl rfl (by decide) | exact sorted_ne hSo 11 7 rfl rfl (by decide) | exact sorted_ne hSo 11 8 rfl rfl (by decide) | exact sorted_ne hSo 11 9 rfl rfl (by decide) | exact sorted_ne hSo 11 10 rfl rfl (by decide)))) (by (repeat' (first | exact (fun _ h => absurd h List.not_mem_nil) | refine List.forall_mem_cons.mpr ⟨?_, ?_⟩ | exact hq.1 | exact hq.2.1 | exact hq.2.2.1 | exact hq.2.2.2.1 | exact hq.2.2.2.2.1 | exact hq.2.2.2.2.2 | exact sorted_ne hSo 0 1 rfl rfl (by decide) | exact sorted_ne hSo 0 2 rfl rfl (by decide) | exact sorted_ne hSo 0 3 rfl rfl (by decide) | exact sorted_ne hSo 0 4 rfl rfl (by decide) | exact sorted_ne hSo 0 5 rfl rfl (by decide) | exact sorted_ne hSo 0 6 rfl rfl (by decide) | exact sorted_ne hSo 0 7 rfl rfl (by decide) | exact sorted_ne hSo 0 8 rfl rfl (by decide) | exact sorted_ne hSo 0 9 rfl rfl (by decide) | exact sorted_ne hSo 0 10 rfl rfl (by decide) | exact sorted_ne hSo 0 11 rfl rfl (by decide) | exact sorted_ne hSo 1 0 rfl rfl (by decide) | exact sorted_ne hSo 1 2 rfl rfl (by decide) | exact sorted_ne hSo 1 3 rfl rfl (by decide) | exact sorted_ne hSo 1 4 rfl rfl (by decide) | exact sorted_ne hSo 1 5 rfl rfl (by decide) | exact sorted_ne hSo 1 6 rfl rfl (by decide) | exact sorted_ne hSo 1 7 rfl rfl (by decide) | exact sorted_ne hSo 1 8 rfl rfl (by decide) | exact sorted_ne hSo 1 9 rfl rfl (by decide) | exact sorted_ne hSo 1 10 rfl rfl (by decide) | exact sorted_ne hSo 1 11 rfl rfl (by decide) | exact sorted_ne hSo 2 0 rfl rfl (by decide) | exact sorted_ne hSo 2 1 rfl rfl (by decide) | exact sorted_ne hSo 2 3 rfl rfl (by decide) | exact sorted_ne hSo 2 4 rfl rfl (by decide) | exact sorted_ne hSo 2 5 rfl rfl (by decide) | exact sorted_ne hSo 2 6 rfl rfl (by decide) | exact sorted_ne hSo 2 7 rfl rfl (by decide) | exact sorted_ne hSo 2 8 rfl rfl (by decide) | exact sorted_ne hSo 2 9 rfl rfl (by decide) | exact sorted_ne hSo 2 10 rfl rfl (by decide) | exact sorted_ne hSo 2 11 rfl rfl (by decide) | exact sorted_ne hSo 3 0 rfl rfl (by decide) | exact sorted_ne hSo 3 1 rfl rfl (by decide) | exact sorted_ne hSo 3 2 rfl rfl (by decide) | exact sorted_ne hSo 3 4 rfl rfl (by decide) | exact sorted_ne hSo 3 5 rfl rfl (by decide) | exact sorted_ne hSo 3 6 rfl rfl (by decide) | exact sorted_ne hSo 3 7 rfl rfl (by decide) | exact sorted_ne hSo 3 8 rfl rfl (by decide) | exact sorted_ne hSo 3 9 rfl rfl (by decide) | exact sorted_ne hSo 3 10 rfl rfl (by decide) | exact sorted_ne hSo 3 11 rfl rfl (by decide) | exact sorted_ne hSo 4 0 rfl rfl (by decide) | exact sorted_ne hSo 4 1 rfl rfl (by decide) | exact sorted_ne hSo 4 2 rfl rfl (by decide) | exact sorted_ne hSo 4 3 rfl rfl (by decide) | exact sorted_ne hSo 4 5 rfl rfl (by decide) | exact sorted_ne hSo 4 6 rfl rfl (by decide) | exact sorted_ne hSo 4 7 rfl rfl (by decide) | exact sorted_ne hSo 4 8 rfl rfl (by decide) | exact sorted_ne hSo 4 9 rfl rfl (by decide) | exact sorted_ne hSo 4 10 rfl rfl (by decide) | exact sorted_ne hSo 4 11 rfl rfl (by decide) | exact sorted_ne hSo 5 0 rfl rfl (by decide) | exact sorted_ne hSo 5 1 rfl rfl (by decide) | exact sorted_ne hSo 5 2 rfl rfl (by decide) | exact sorted_ne hSo 5 3 rfl rfl (by decide) | exact sorted_ne hSo 5 4 rfl rfl (by decide) | exact sorted_ne hSo 5 6 rfl rfl (by decide) | exact sorted_ne hSo 5 7 rfl rfl (by decide) | exact sorted_ne hSo 5 8 rfl rfl (by decide) | exact sorted_ne hSo 5 9 rfl rfl (by decide) | exact sorted_ne hSo 5 10 rfl rfl (by decide) | exact sorted_ne hSo 5 11 rfl rfl (by decide) | exact sorted_ne hSo 6 0 rfl rfl (by decide) | exact sorted_ne hSo 6 1 rfl rfl (by decide) | exact sorted_ne hSo 6 2 rfl rfl (by decide) | exact sorted_ne hSo 6 3 rfl rfl (by decide) | exact sorted_ne hSo 6 4 rfl rfl (by decide) | exact sorted_ne hSo 6 5 rfl rfl (by decide) | exact sorted_ne hSo 6 7 rfl rfl (by decide) | exact sorted_ne hSo 6 8 rfl rfl (by decide) | exact sorted_ne hSo 6 9 rfl rfl (by decide) | exact sorted_ne hSo 6 10 rfl rfl (by decide) | exact sorted_ne hSo 6 11 rfl rfl (by decide) | exact sorted_ne hSo 7 0 rfl rfl (by decide) | exact sorted_ne hSo 7 1 rfl rfl (by decide) | exact sorted_ne hSo 7 2 rfl rfl (by decide) | exact sorted_ne hSo 7 3 rfl rfl (by decide) | exact sorted_ne hSo 7 4 rfl rfl (by decide) | exact sorted_ne hSo 7 5 rfl rfl (by decide) | exact sorted_ne hSo 7 6 rfl rfl (by decide) | exact sorted_ne hSo 7 8 rfl rfl (by decide) | exact sorted_ne hSo 7 9 rfl rfl (by decide) | exact sorted_ne hSo 7 10 rfl rfl (by decide) | exact sorted_ne hSo 7 11 rfl rfl (by decide) | exact sorted_ne hSo 8 0 rfl rfl (by decide) | exact sorted_ne hSo 8 1 rfl rfl (by decide) | exact sorted_ne hSo 8 2 rfl rfl (by decide) | exact sorted_ne hSo 8 3 rfl rfl (by decide) | exact sorted_ne hSo 8 4 rfl rfl (by decide) | exact sorted_ne hSo 8 5 rfl rfl (by decide) | exact sorted_ne hSo 8 6 rfl rfl (by decide) | exact sorted_ne hSo 8 7 rfl rfl (by decide) | exact sorted_ne hSo 8 9 rfl rfl (by decide) | exact sorted_ne hSo 8 10 rfl rfl (by decide) | exact sorted_ne hSo 8 11 rfl rfl (by decide) | exact sorted_ne hSo 9 0 rfl rfl (by decide) | exact sorted_ne hSo 9 1 rfl rfl (by decide) | exact sorted_ne hSo 9 2 rfl rfl (by decide) | exact sorted_ne hSo 9 3 rfl rfl (by decide) | exact sorted_ne hSo 9 4 rfl rfl (by decide) | exact sorted_ne hSo 9 5 rfl rfl (by decide) | exact sorted_ne hSo 9 6 rfl rfl (by decide) | exact sorted_ne hSo 9 7 rfl rfl (by decide) | exact sorted_ne hSo 9 8 rfl rfl (by decide) | exact sorted_ne hSo 9 10 rfl rfl (by decide) | exact sorted_ne hSo 9 11 rfl rfl (by decide) | exact sorted_ne hSo 10 0 rfl rfl (by decide) | exact sorted_ne hSo 10 1 rfl rfl (by decide) | exact sorted_ne hSo 10 2 rfl rfl (by decide) | exact sorted_ne hSo 10 3 rfl rfl (by decide) | exact sorted_ne hSo 10 4 rfl rfl (by decide) | exact sorted_ne hSo 10 5 rfl rfl (by decide) | exact sorted_ne hSo 10 6 rfl rfl (by decide) | exact sorted_ne hSo 10 7 rfl rfl (by decide) | exact sorted_ne hSo 10 8 rfl rfl (by decide) | exact sorted_ne hSo 10 9 rfl rfl (by decide) | exact sorted_ne hSo 10 11 rfl rfl (by decide) | exact sorted_ne hSo 11 0 rfl rfl (by decide) | exact sorted_ne hSo 11 1 rfl rfl (by decide) | exact sorted_ne hSo 11 2 rfl rfl (by decide) | exact sorted_ne hSo 11 3 rfl rfl (by decide) | exact sorted_ne hSo 11 4 rfl rfl (by decide) | exact sorted_ne hSo 11 5 rfl rfl (by decide) | exact sorted_ne hSo 11 6 rfl rfl (by decide) | exact sorted_ne hSo 11 7 rfl rfl (by decide) | exact sorted_ne hSo 11 8 rfl rfl (by decide) | exact sorted_ne hSo 11 9 rfl rfl (by decide) | exact sorted_ne hSo 11 10 rfl rfl (by decide)))) (X.keeps sg) (T.keeps sg) hs hf
    (IntsF.mono ig (hVF.ints (.head _))) (IntsF.mono ig (hVR.ints (.tail _ (.head _))))) F8 N8 hm1 _ hr1 hn1 rfl (by decide) (by decide) ?_
  clear F8 N8 hm1 hr1 hn1 sg ig
  rintro v tl h' tk' F8 N8 hnT ⟨k2, vk, nk, vr, n, tl', rfl, hK, hV, hvl, ⟨o1, o2, o3⟩, o4, o5⟩
  obtain ⟨S, hS⟩ : ∃ S, S = nf * nr := ⟨_, rfl⟩
  rw [← hS] at hs hK hSd
  obtain ⟨G1, hG1⟩ : ∃ G1 : GeoA, G1 = { G with king := k2 } := ⟨_, rfl⟩
  obtain ⟨tlr, N9, m1, m2, m3, hT, ⟨hs, hf, hc, hke⟩, ⟨l1, l2, l3, l6, l7, l8, l9, lx'⟩⟩ : ∃ tlr : List (Addr × Obj), News s.heap s.heap.objs.size h' ((x, instObj 53 G1.dx) :: (G1.dx, dictOf (G1.entries w.params nf nr) 14) :: (tlr ++ ledD G1 p0 p1 vF vR [] [] [] nF nR 0 0 0)) ∧ (G1.king, lobj vk nk) ∈ tlr ∧ (G1.rays, lobj vr n) ∈ tlr ∧ (∀ p ∈ tl', p ∈ tlr) ∧
      (∀ p ∈ tlr, (@Ne Nat p.1 G1.castles) ∧ (@Ne Nat p.1 p0) ∧ (@Ne Nat p.1 p1) ∧ (@Ne Nat p.1 G1.knight) ∧ (@Ne Nat p.1 x) ∧ (@Ne Nat p.1 G1.dx)) ∧ (G1.size = (S : Int) ∧ G1.full = ((fullN nf nr : Nat) : Int) ∧ G1.hc = .bool false ∧ G1.king = k2) ∧
      ((@LT.lt Nat _ x G1.masksF) ∧ (@LT.lt Nat _ G1.dx G1.masksF) ∧ (@LT.lt Nat _ G1.masksF G1.masksR) ∧ (@LT.lt Nat _ G1.masksR G1.knight) ∧ (@LT.lt Nat _ G1.knight p0) ∧ (@LT.lt Nat _ p0 p1) ∧ (@LT.lt Nat _ p1 G1.pawn ∧ @LT.lt Nat _ G1.pawn G1.castles) ∧ @LT.lt Nat _ G1.dx x) := by
    subst hG1
    have cs : ∀ p ∈ (k2, lobj vk nk) :: (G.rays, lobj vr n) :: tl', p ∈ (k2, lobj vk nk) :: (x, instObj 53 G.dx) :: (G.dx, dictOf (({ G with king := k2 } : GeoA).entries w.params nf nr) 14) :: (G.rays, lobj vr n) :: tl' :=
      List.forall_mem_cons.mpr ⟨.head _, fun p hp => .tail _ (.tail _ (.tail _ hp))⟩
    refine ⟨(k2, lobj vk nk) :: (G.rays, lobj vr n) :: tl', news_sub N8 ?_, .head _, .tail _ (.head _), fun p hp => .tail _ (.tail _ hp), ?_, ⟨hs, hf, hc, rfl⟩, ⟨l1, l2, l3, by show @LT.lt Nat _ G.masksR G.knight; omega, l7, l8, ⟨l9, l10⟩, lx'⟩⟩
    · refine List.forall_mem_cons.mpr ⟨List.mem_append_left _ (.tail _ (.head _)), List.forall_mem_cons.mpr ⟨List.mem_append_left _ (.tail _ (.tail _ (.head _))), fun p hp => (List.mem_append.mp hp).elim (fun q => List.mem_append_left _ (cs p q)) fun q => List.mem_append_right _ ?_⟩⟩
      revert p
      rintro p - q
      revert p
      show ∀ p ∈ ledD G p0 p1 vF vR [] [] [] nF nR 0 0 0, p ∈ ledC G p0 p1 vF vR [] [] [] nF nR 0 0 0
      lcg_sub
    · intro p hp
      have a1 := hnT p (cs p hp) (G.castles, lobj [] 0) (.tail _ (.tail _ (.tail _ (.head _))))
      have a2 := hnT p (cs p hp) (p0, lobj [] 0) (.tail _ (.tail _ (.tail _ (.tail _ (.tail _ (.head _))))))
      have a3 := hnT p (cs p hp) (p1, lobj [] 0) (.tail _ (.tail _ (.tail _ (.tail _ (.tail _ (.tail _ (.head _)))))))
      have a4 := hnT p (cs p hp) (G.knight, lobj [] 0) (.tail _ (.tail _ (.tail _ (.tail _ (.tail _ (.tail _ (.tail _ (.head _))))))))
      refine ⟨a1, a2, a3, a4, ?_⟩
      rcases List.mem_cons.mp hp with rfl | hp
      · exact ⟨o1, o2⟩
      · rcases List.mem_cons.mp hp with rfl | hp
        · exact ⟨by show @Ne Nat _ _; omega, by show @Ne Nat G.rays G.dx; omega⟩
        · exact ⟨o4 p hp, o5 p hp⟩
  clear N8 hnT o1 o2 o3 o4 o5 l4 l5 l10 l11 hSo
  have hSo : Sorted [G1.dx, x, G1.masksF, G1.masksR, G1.knight, p0, p1, G1.pawn, G1.castles] := ⟨lx', l1, l3, l6, l7, l8, l9.1, l9.2, trivial⟩
  k_steps
  refine Stop.go ?_
  (rename Fr _ _ _ _ => F8)
  (rename News _ _ _ _ => N8)
  have hm1 : ∀ p ∈ pawnMu p0 p1, p ∈ (x, instObj 53 G1.dx) :: (G1.dx, dictOf (G1.entries w.params nf nr) 14) :: (tlr ++ ledD G1 p0 p1 vF vR [] [] [] nF nR 0 0 0) := fun p hp => .tail _ (.tail _ (List.mem_append_right _ ((show ∀ p ∈ pawnMu p0 p1, p ∈ ledD G1 p0 p1 vF vR [] [] [] nF nR 0 0 0 by lcg_sub) p hp)))
  have hr1 := sub3 (a := (x, instObj 53 G1.dx)) (b := (G1.dx, dictOf (G1.entries w.params nf nr) 14)) (t := tlr) (C := ledD G1 p0 p1 vF vR [] [] [] nF nR 0 0 0) (C' := [(G1.masksF, lobj vF nF), (G1.masksR, lobj vR nR), (G1.castles, lobj [] 0), (G1.pawn, lobj [.ref p0, .ref p1] 0), (G1.knight, lobj [] 0)]) (by lcg_sub)
  have hn1 := ne3 (mu := pawnMu p0 p1) (a := (x, instObj 53 G1.dx)) (b := (G1.dx, dictOf (G1.entries w.params nf nr) 14)) (t := tlr) (C := [(G1.masksF, lobj vF nF), (G1.masksR, lobj vR nR), (G1.castles, lobj [] 0), (G1.pawn, lobj [.ref p0, .ref p1] 0), (G1.knight, lobj [] 0)])
    (by (repeat' (first | exact (fun _ h => absurd h List.not_mem_nil) | refine List.forall_mem_cons.mpr ⟨?_, ?_⟩ | exact hq.1 | exact hq.2.1 | exact hq.2.2.1 | exact hq.2.2.2.1 | exact hq.2.2.2.2.1 | exact hq.2.2.2.2.2 | exact sorted_ne hSo 0 1 rfl rfl (by decide) | exact sorted_ne hSo 0 2 rfl rfl (by decide) | exact sorted_ne hSo 0 3 rfl rfl (by decide) | exact sorted_ne hSo 0 4 rfl rfl (by decide) | exact sorted_ne hSo 0 5 rfl rfl (by decide) | exact sorted_ne hSo 0 6 rfl rfl (by decide) | exact sorted_ne hSo 0 7 rfl rfl (by decide) | exact sorted_ne hSo 0 8 rfl rfl (by decide) | exact sorted_ne hSo 0 9 rfl rfl (by decide) | exact sorted_ne hSo 0 10 rfl rfl (by decide) | exact sorted_ne hSo 0 11 rfl rfl (by decide) | exact sorted_ne hSo 1 0 rfl rfl (by decide) | exact sorted_ne hSo 1 2 rfl rfl (by decide) | exact sorted_ne hSo 1 3 rfl rfl (by decide) | exact sorted_ne hSo 1 4 rfl rfl (by decide) | exact sorted_ne hSo 1 5 rfl rfl (by decide) | exact sorted_ne hSo 1 6 rfl rfl (by decide) | exact sorted_ne hSo 1 7 rfl rfl (by decide) | exact sorted_ne hSo 1 8 rfl rfl (by decide) | exact sorted_ne hSo 1 9 rfl rfl (by decide) | exact sorted_ne hSo 1 10 rfl rfl (by decide) | exact sorted_ne hSo 1 11 rfl rfl (by decide) | exact sorted_ne hSo 2 0 rfl rfl (by decide) | exact sorted_ne hSo 2 1 rfl rfl (by decide) | exact sorted_ne hSo 2 3 rfl rfl (by decide) | exact sorted_ne hSo 2 4 rfl rfl (by decide) | exact sorted_ne hSo 2 5 rfl rfl (by decide) | exact sorted_ne hSo 2 6 rfl rfl (by decide) | exact sorted_ne hSo 2 7 rfl rfl (by decide) | exact sorted_ne hSo 2 8 rfl rfl (by decide) | exact sorted_ne hSo 2 9 rfl rfl (by decide) | exact sorted_ne hSo 2 10 rfl rfl (by decide) | exact sorted_ne hSo 2 11 rfl rfl (by decide) | exact sorted_ne hSo 3 0 rfl rfl (by decide) | exact sorted_ne hSo 3 1 rfl rfl (by decide) | exact sorted_ne hSo 3 2 rfl rfl (by decide) | exact sorted_ne hSo 3 4 rfl rfl (by decide) | exact sorted_ne hSo 3 5 rfl rfl (by decide) | exact sorted_ne hSo 3 6 rfl rfl (by decide) | exact sorted_ne hSo 3 7 rfl rfl (by decide) | exact sorted_ne hSo 3 8 rfl rfl (by decide) | exact sorted_ne hSo 3 9 rfl rfl (by decide) | exact sorted_ne hSo 3 10 rfl rfl (by decide) | exact sorted_ne hSo 3 11 rfl rfl (by decide) | exact sorted_ne hSo 4 0 rfl rfl (by decide) | exact sorted_ne hSo 4 1 rfl rfl (by decide) | exact sorted_ne hSo 4 2 rfl rfl (by decide) | exact sorted_ne hSo 4 3 rfl rfl (by decide) | exact sorted_ne hSo 4 5 rfl rfl (by decide) | exact sorted_ne hSo 4 6 rfl rfl (by decide) | exact sorted_ne hSo 4 7 rfl rfl (by decide) | exact sorted_ne hSo 4 8 rfl rfl (by decide) | exact sorted_ne hSo 4 9 rfl rfl (by decide) | exact sorted_ne hSo 4 10 rfl rfl (by decide) | exact sorted_ne hSo 4 11 rfl rfl (by decide) | exact sorted_ne hSo 5 0 rfl rfl (by decide) | exact sorted_ne hSo 5 1 rfl rfl (by decide) | exact sorted_ne hSo 5 2 rfl rfl (by decide) | exact sorted_ne hSo 5 3 rfl rfl (by decide) | exact sorted_ne hSo 5 4 rfl rfl (by decide) | exact sorted_ne hSo 5 6 rfl rfl (by decide) | exact sorted_ne hSo 5 7 rfl rfl (by decide) | exact sorted_ne hSo 5 8 rfl rfl (by decide) | exact sorted_ne hSo 5 9 rfl rfl (by decide) | exact sorted_ne hSo 5 10 rfl rfl (by decide) | exact sorted_ne hSo 5 11 rfl rfl (by decide) | exact sorted_ne hSo 6 0 rfl rfl (by decide) | exact sorted_ne hSo 6 1 rfl rfl (by decide) | exact sorted_ne hSo 6 2 rfl rfl (by decide) | exact sorted_ne hSo 6 3 rfl rfl (by decide) | exact sorted_ne hSo 6 4 rfl rfl (by decide) | exact sorted_ne hSo 6 5 rfl rfl (by decide) | exact sorted_ne hSo 6 7 rfl rfl (by decide) | exact sorted_ne hSo 6 8 rfl rfl (by decide) | exact sorted_ne hSo 6 9 rfl rfl (by decide) | exact sorted_ne hSo 6 10 rfl rfl (by decide) | exact sorted_ne hSo 6 11 rfl rfl (by decide) | exact sorted_ne hSo 7 0 rfl rfl (by decide) | exact sorted_ne hSo 7 1 rfl rfl (by decide) | exact sorted_ne hSo 7 2 rfl rfl (by decide) | exact sorted_ne hSo 7 3 rfl rfl (by decide) | exact sorted_ne hSo 7 4 rfl rfl (by decide) | exact sorted_ne hSo 7 5 rfl rfl (by decide) | exact sorted_ne hSo 7 6 rfl rfl (by decide) | exact sorted_ne hSo 7 8 rfl rfl (by decide) | exact sorted_ne hSo 7 9 rfl rfl (by decide) | exact sorted_ne hSo 7 10 rfl rfl (by decide) | exact sorted_ne hSo 7 11 rfl rfl (by decide) | exact sorted_ne hSo 8 0 rfl rfl (by decide) | exact sorted_ne hSo 8 1 rfl rfl (by decide) | exact sorted_ne hSo 8 2 rfl rfl (by decide) | exact sorted_ne hSo 8 3 rfl rfl (by decide) | exact sorted_ne hSo 8 4 rfl rfl (by decide) | exact sorted_ne hSo 8 5 rfl rfl (by decide) | exact sorted_ne hSo 8 6 rfl rfl (by decide) | exact sorted_ne hSo 8 7 rfl rfl (by decide) | exact sorted_ne hSo 8 9 rfl rfl (by decide) | exact sorted_ne hSo 8 10 rfl rfl (by decide) | exact sorted_ne hSo 8 11 rfl rfl (by decide) | exact sorted_ne hSo 9 0 rfl rfl (by decide) | exact sorted_ne hSo 9 1 rfl rfl (by decide) | exact sorted_ne hSo 9 2 rfl rfl (by decide) | exact sorted_ne hSo 9 3 rfl rfl (by decide) | exact sorted_ne hSo 9 4 rfl rfl (by decide) | exact sorted_ne hSo 9 5 rfl rfl (by decide) | exact sorted_ne hSo 9 6 rfl rfl (by decide) | exact sorted_ne hSo 9 7 rfl rfl (by decide) | exact sorted_ne hSo 9 8 rfl rfl (by decide) | exact sorted_ne hSo 9 10 rfl rfl (by decide) | exact sorted_ne hSo 9 11 rfl rfl (by decide) | exact sorted_ne hSo 10 0 rfl rfl (by decide) | exact sorted_ne hSo 10 1 rfl rfl (by decide) | exact sorted_ne hSo 10 2 rfl rfl (by decide) | exact sorted_ne hSo 10 3 rfl rfl (by decide) | exact sorted_ne hSo 10 4 rfl rfl (by decide) | exact sorted_ne hSo 10 5 rfl rfl (by decide) | exact sorted_ne hSo 10 6 rfl rfl (by decide) | exact sorted_ne hSo 10 7 rfl rfl (by decide) | exact sorted_ne hSo 10 8 rfl rfl (by decide) | exact sorted_ne hSo 10 9 rfl rfl (by decide) | exact sorted_ne hSo 10 11 rfl rfl (by decide) | exact sorted_ne hSo 11 0 rfl rfl (by decide) | exact sorted_ne hSo 11 1 rfl rfl (by decide) | exact sorted_ne hSo 11 2 rfl rfl (by decide) | exact sorted_ne hSo 11 3 rfl rfl (by decide) | exact sorted_ne hSo 11 4 rfl rfl (by decide) | exact sorted_ne hSo 11 5 rfl rfl (by decide) | exact sorted_ne hSo 11 6 rfl rfl (by decide) | exact sorted_ne hSo 11 7 rfl rfl (by decide) | exact sorted_ne hSo 11 8 rfl rfl (by decide) | exact sorted_ne hSo 11 9 rfl rfl (by decide) | exact sorted_ne hSo 11 10 rfl rfl (by decide)))) (by (repeat' (first | exact (fun _ h => absurd h List.not_mem_nil) | refine List.forall_mem_cons.mpr ⟨?_, ?_⟩ | exact hq.1 | exact hq.2.1 | exact hq.2.2.1 | exact hq.2.2.2.1 | exact hq.2.2.2.2.1 | exact hq.2.2.2.2.2 | exact sorted_ne hSo 0 1 rfl rfl (by decide) | exact sorted_ne hSo 0 2 rfl rfl (by decide) | exact sorted_ne hSo 0 3 rfl rfl (by decide) | exact sorted_ne hSo 0 4 rfl rfl (by decide) | exact sorted_ne hSo 0 5 rfl rfl (by decide) | exact sorted_ne hSo 0 6 rfl rfl (by decide) | exact sorted_ne hSo 0 7 rfl rfl (by decide) | exact sorted_ne hSo 0 8 rfl rfl (by decide) | exact sorted_ne hSo 0 9 rfl rfl (by decide) | exact sorted_ne hSo 0 10 rfl rfl (by decide) | exact sorted_ne hSo 0 11 rfl rfl (by decide) | exact sorted_ne hSo 1 0 rfl rfl (by decide) | exact sorted_ne hSo 1 2 rfl rfl (by decide) | exact sorted_ne hSo 1 3 rfl rfl (by decide) | exact sorted_ne hSo 1 4 rfl rfl (by decide) | exact sorted_ne hSo 1 5 rfl rfl (by decide) | exact sorted_ne hSo 1 6 rfl rfl (by decide) | exact sorted_ne hSo 1 7 rfl rfl (by decide) | exact sorted_ne hSo 1 8 rfl rfl (by decide) | exact sorted_ne hSo 1 9 rfl rfl (by decide) | exact sorted_ne hSo 1 10 rfl rfl (by decide) | exact sorted_ne hSo 1 11 rfl rfl (by decide) | exact sorted_ne hSo 2 0 rfl rfl (by decide) | exact sorted_ne hSo 2 1 rfl rfl (by decide) | exact sorted_ne hSo 2 3 rfl rfl (by decide) | exact sorted_ne hSo 2 4 rfl rfl (by decide) | exact sorted_ne hSo 2 5 rfl rfl (by decide) | exact sorted_ne hSo 2 6 rfl rfl (by decide) | exact sorted_ne hSo 2 7 rfl rfl (by decide) | exact sorted_ne hSo 2 8 rfl rfl (by decide) | exact sorted_ne hSo 2 9 rfl rfl (by decide) | exact sorted_ne hSo 2 10 rfl rfl (by decide) | exact sorted_ne hSo 2 11 rfl rfl (by decide) | exact sorted_ne hSo 3 0 rfl rfl (by decide) | exact sorted_ne hSo 3 1 rfl rfl (by decide) | exact sorted_ne hSo 3 2 rfl rfl (by decide) | exact sorted_ne hSo 3 4 rfl rfl (by decide) | exact sorted_ne hSo 3 5 rfl rfl (by decide) | exact sorted_ne hSo 3 6 rfl rfl (by decide) | exact sorted_ne hSo 3 7 rfl rfl (by decide) | exact sorted_ne hSo 3 8 rfl rfl (by decide) | exact sorted_ne hSo 3 9 rfl rfl (by decide) | exact sorted_ne hSo 3 10 rfl rfl (by decide) | exact sorted_ne hSo 3 11 rfl rfl (by decide) | exact sorted_ne hSo 4 0 rfl rfl (by decide) | exact sorted_ne hSo 4 1 rfl rfl (by decide) | exact sorted_ne hSo 4 2 rfl rfl (by decide) | exact sorted_ne hSo 4 3 rfl rfl (by decide) | exact sorted_ne hSo 4 5 rfl rfl (by decide) | exact sorted_ne hSo 4 6 rfl rfl (by decide) | exact sorted_ne hSo 4 7 rfl rfl (by decide) | exact sorted_ne hSo 4 8 rfl rfl (by decide) | exact sorted_ne hSo 4 9 rfl rfl (by decide) | exact sorted_ne hSo 4 10 rfl rfl (by decide) | exact sorted_ne hSo 4 11 rfl rfl (by decide) | exact sorted_ne hSo 5 0 rfl rfl (by decide) | exact sorted_ne hSo 5 1 rfl rfl (by decide) | exact sorted_ne hSo 5 2 rfl rfl (by decide) | exact sorted_ne hSo 5 3 rfl rfl (by decide) | exact sorted_ne hSo 5 4 rfl rfl (by decide) | exact sorted_ne hSo 5 6 rfl rfl (by decide) | exact sorted_ne hSo 5 7 rfl rfl (by decide) | exact sorted_ne hSo 5 8 rfl rfl (by decide) | exact sorted_ne hSo 5 9 rfl rfl (by decide) | exact sorted_ne hSo 5 10 rfl rfl (by decide) | exact sorted_ne hSo 5 11 rfl rfl (by decide) | exact sorted_ne hSo 6 0 rfl rfl (by decide) | exact sorted_ne hSo 6 1 rfl rfl (by decide) | exact sorted_ne hSo 6 2 rfl rfl (by decide) | exact sorted_ne hSo 6 3 rfl rfl (by decide) | exact sorted_ne hSo 6 4 rfl rfl (by decide) | exact sorted_ne hSo 6 5 rfl rfl (by decide) | exact sorted_ne hSo 6 7 rfl rfl (by decide) | exact sorted_ne hSo 6 8 rfl rfl (by decide) | exact sorted_ne hSo 6 9 rfl rfl (by decide) | exact sorted_ne hSo 6 10 rfl rfl (by decide) | exact sorted_ne hSo 6 11 rfl rfl (by decide) | exact sorted_ne hSo 7 0 rfl rfl (by decide) | exact sorted_ne hSo 7 1 rfl rfl (by decide) | exact sorted_ne hSo 7 2 rfl rfl (by decide) | exact sorted_ne hSo 7 3 rfl rfl (by decide) | exact sorted_ne hSo 7 4 rfl rfl (by decide) | exact sorted_ne hSo 7 5 rfl rfl (by decide) | exact sorted_ne hSo 7 6 rfl rfl (by decide) | exact sorted_ne hSo 7 8 rfl rfl (by decide) | exact sorted_ne hSo 7 9 rfl rfl (by decide) | exact sorted_ne hSo 7 10 rfl rfl (by decide) | exact sorted_ne hSo 7 11 rfl rfl (by decide) | exact sorted_ne hSo 8 0 rfl rfl (by decide) | exact sorted_ne hSo 8 1 rfl rfl (by decide) | exact sorted_ne hSo 8 2 rfl rfl (by decide) | exact sorted_ne hSo 8 3 rfl rfl (by decide) | exact sorted_ne hSo 8 4 rfl rfl (by decide) | exact sorted_ne hSo 8 5 rfl rfl (by decide) | exact sorted_ne hSo 8 6 rfl rfl (by decide) | exact sorted_ne hSo 8 7 rfl rfl (by decide) | exact sorted_ne hSo 8 9 rfl rfl (by decide) | exact sorted_ne hSo 8 10 rfl rfl (by decide) | exact sorted_ne hSo 8 11 rfl rfl (by decide) | exact sorted_ne hSo 9 0 rfl rfl (by decide) | exact sorted_ne hSo 9 1 rfl rfl (by decide) | exact sorted_ne hSo 9 2 rfl rfl (by decide) | exact sorted_ne hSo 9 3 rfl rfl (by decide) | exact sorted_ne hSo 9 4 rfl rfl (by decide) | exact sorted_ne hSo 9 5 rfl rfl (by decide) | exact sorted_ne hSo 9 6 rfl rfl (by decide) | exact sorted_ne hSo 9 7 rfl rfl (by decide) | exact sorted_ne hSo 9 8 rfl rfl (by decide) | exact sorted_ne hSo 9 10 rfl rfl (by decide) | exact sorted_ne hSo 9 11 rfl rfl (by decide) | exact sorted_ne hSo 10 0 rfl rfl (by decide) | exact sorted_ne hSo 10 1 rfl rfl (by decide) | exact sorted_ne hSo 10 2 rfl rfl (by decide) | exact sorted_ne hSo 10 3 rfl rfl (by decide) | exact sorted_ne hSo 10 4 rfl rfl (by decide) | exact sorted_ne hSo 10 5 rfl rfl (by decide) | exact sorted_ne hSo 10 6 rfl rfl (by decide) | exact sorted_ne hSo 10 7 rfl rfl (by decide) | exact sorted_ne hSo 10 8 rfl rfl (by decide) | exact sorted_ne hSo 10 9 rfl rfl (by decide) | exact sorted_ne hSo 10 11 rfl rfl (by decide) | exact sorted_ne hSo 11 0 rfl rfl (by decide) | exact sorted_ne hSo 11 1 rfl rfl (by decide) | exact sorted_ne hSo 11 2 rfl rfl (by decide) | exact sorted_ne hSo 11 3 rfl rfl (by decide) | exact sorted_ne hSo 11 4 rfl rfl (by decide) | exact sorted_ne hSo 11 5 rfl rfl (by decide) | exact sorted_ne hSo 11 6 rfl rfl (by decide) | exact sorted_ne hSo 11 7 rfl rfl (by decide) | exact sorted_ne hSo 11 8 rfl rfl (by decide) | exact sorted_ne hSo 11 9 rfl rfl (by decide) | exact sorted_ne hSo 11 10 rfl rfl (by decide)))) (fun p hp => by have hq := hT p hp; (repeat' (first | exact (fun _ h => absurd h List.not_mem_nil) | refine List.forall_mem_cons.mpr ⟨?_, ?_⟩ | exact hq.1 | exact hq.2.1 | exact hq.2.2.1 | exact hq.2.2.2.1 | exact hq.2.2.2.2.1 | exact hq.2.2.2.2.2 | exact sorted_ne hSo 0 1 rfl rfl (by decide) | exact sorted_ne hSo 0 2 rfl rfl (by decide) | exact sorted_ne hSo 0 3 rfl rfl (by decide) | exact sorted_ne hSo 0 4 rfl rfl (by decide) | exact sorted_ne hSo 0 5 rfl rfl (by decide) | exact sorted_ne hSo 0 6 rfl rfl (by decide) | exact sorted_ne hSo 0 7 rfl rfl (by decide) | exact sorted_ne hSo 0 8 rfl rfl (by decide) | exact sorted_ne hSo 0 9 rfl rfl (by decide) | exact sorted_ne hSo 0 10 rfl rfl (by decide) | exact sorted_ne hSo 0 11 rfl rfl (by decide) | exact sorted_ne hSo 1 0 rfl rfl (by decide) | exact sorted_ne hSo 1 2 rfl rfl (by decide) | exact sorted_ne hSo 1 3 rfl rfl (by decide) | exact sorted_ne hSo 1 4 rfl rfl (by decide) | exact sorted_ne hSo 1 5 rfl rfl (by decide) | exact sorted_ne hSo 1 6 rfl rfl (by decide) | exact sorted_ne hSo 1 7 rfl rfl (by decide) | exact sorted_ne hSo 1 8 rfl rfl (by decide) | exact sorted_ne hSo 1 9 rfl rfl (by decide) | exact sorted_ne hSo 1 10 rfl rfl (by decide) | exact sorted_ne hSo 1 11 rfl rfl (by decide) | exact sorted_ne hSo 2 0 rfl rfl (by decide) | exact sorted_ne hSo 2 1 rfl rfl (by decide) | exact sorted_ne hSo 2 3 rfl rfl (by decide) | exact sorted_ne hSo 2 4 rfl rfl (by decide) | exact sorted_ne hSo 2 5 rfl rfl (by decide) | exact sorted_ne hSo 2 6 rfl rfl (by decide) | exact sorted_ne hSo 2 7 rfl rfl (by decide) | exact sorted_ne hSo 2 8 rfl rfl (by decide) | exact sorted_ne hSo 2 9 rfl rfl (by decide) | exact sorted_ne hSo 2 10 rfl rfl (by decide) | exact sorted_ne hSo 2 11 rfl rfl (by decide) | exact sorted_ne hSo 3 0 rfl rfl (by decide) | exact sorted_ne hSo 3 1 rfl rfl (by decide) | exact sorted_ne hSo 3 2 rfl rfl (by decide) | exact sorted_ne hSo 3 4 rfl rfl (by decide) | exact sorted_ne hSo 3 5 rfl rfl (by decide) | exact sorted_ne hSo 3 6 rfl rfl (by decide) | exact sorted_ne hSo 3 7 rfl rfl (by decide) | exact sorted_ne hSo 3 8 rfl rfl (by decide) | exact sorted_ne hSo 3 9 rfl rfl (by decide) | exact sorted_ne hSo 3 10 rfl rfl (by decide) | exact sorted_ne hSo 3 11 rfl rfl (by decide) | exact sorted_ne hSo 4 0 rfl rfl (by decide) | exact sorted_ne hSo 4 1 rfl rfl (by decide) | exact sorted_ne hSo 4 2 rfl rfl (by decide) | exact sorted_ne hSo 4 3 rfl rfl (by decide) | exact sorted_ne hSo 4 5 rfl rfl (by decide) | exact sorted_ne hSo 4 6 rfl rfl (by decide) | exact sorted_ne hSo 4 7 rfl rfl (by decide) | exact sorted_ne hSo 4 8 rfl rfl (by decide) | exact sorted_ne hSo 4 9 rfl rfl (by decide) | exact sorted_ne hSo 4 10 rfl rfl (by decide) | exact sorted_ne hSo 4 11 rfl rfl (by decide) | exact sorted_ne hSo 5 0 rfl rfl (by decide) | exact sorted_ne hSo 5 1 rfl rfl (by decide) | exact sorted_ne hSo 5 2 rfl rfl (by decide) | exact sorted_ne hSo 5 3 rfl rfl (by decide) | exact sorted_ne hSo 5 4 rfl rfl (by decide) | exact sorted_ne hSo 5 6 rfl rfl (by decide) | exact sorted_ne hSo 5 7 rfl rfl (by decide) | exact sorted_ne hSo 5 8 rfl rfl (by decide) | exact sorted_ne hSo 5 9 rfl rfl (by decide) | exact sorted_ne hSo 5 10 rfl rfl (by decide) | exact sorted_ne hSo 5 11 rfl rfl (by decide) | exact sorted_ne hSo 6 0 rfl rfl (by decide) | exact sorted_ne hSo 6 1 rfl rfl (by decide) | exact sorted_ne hSo 6 2 rfl rfl (by decide) | exact sorted_ne hSo 6 3 rfl rfl (by decide) | exact sorted_ne hSo 6 4 rfl rfl (by decide) | exact sorted_ne hSo 6 5 rfl rfl (by decide) | exact sorted_ne hSo 6 7 rfl rfl (by decide) | exact sorted_ne hSo 6 8 rfl rfl (by decide) | exact sorted_ne hSo 6 9 rfl rfl (by decide) | exact sorted_ne hSo 6 10 rfl rfl (by decide) | exact sorted_ne hSo 6 11 rfl rfl (by decide) | exact sorted_ne hSo 7 0 rfl rfl (by decide) | exact sorted_ne hSo 7 1 rfl rfl (by decide) | exact sorted_ne hSo 7 2 rfl rfl (by decide) | exact sorted_ne hSo 7 3 rfl rfl (by decide) | exact sorted_ne hSo 7 4 rfl rfl (by decide) | exact sorted_ne hSo 7 5 rfl rfl (by decide) | exact sorted_ne hSo 7 6 rfl rfl (by decide) | exact sorted_ne hSo 7 8 rfl rfl (by decide) | exact sorted_ne hSo 7 9 rfl rfl (by decide) | exact sorted_ne hSo 7 10 rfl rfl (by decide) | exact sorted_ne hSo 7 11 rfl rfl (by decide) | exact sorted_ne hSo 8 0 rfl rfl (by decide) | exact sorted_ne hSo 8 1 rfl rfl (by decide) | exact sorted_ne hSo 8 2 rfl rfl (by decide) | exact sorted_ne hSo 8 3 rfl rfl (by decide) | exact sorted_ne hSo 8 4 rfl rfl (by decide) | exact sorted_ne hSo 8 5 rfl rfl (by decide) | exact sorted_ne hSo 8 6 rfl rfl (by decide) | exact sorted_ne hSo 8 7 rfl rfl (by decide) | exact sorted_ne hSo 8 9 rfl rfl (by decide) | exact sorted_ne hSo 8 10 rfl rfl (by decide) | exact sorted_ne hSo 8 11 rfl rfl (by decide) | exact sorted_ne hSo 9 0 rfl rfl (by decide) | exact sorted_ne hSo 9 1 rfl rfl (by decide) | exact sorted_ne hSo 9 2 rfl rfl (by decide) | exact sorted_ne hSo 9 3 rfl rfl (by decide) | exact sorted_ne hSo 9 4 rfl rfl (by decide) | exact sorted_ne hSo 9 5 rfl rfl (by decide) | exact sorted_ne hSo 9 6 rfl rfl (by decide) | exact sorted_ne hSo 9 7 rfl rfl (by decide) | exact sorted_ne hSo 9 8 rfl rfl (by decide) | exact sorted_ne hSo 9 10 rfl rfl (by decide) | exact sorted_ne hSo 9 11 rfl rfl (by decide) | exact sorted_ne hSo 10 0 rfl rfl (by decide) | exact sorted_ne hSo 10 1 rfl rfl (by decide) | exact sorted_ne hSo 10 2 rfl rfl (by decide) | exact sorted_ne hSo 10 3 rfl rfl (by decide) | exact sorted_ne hSo 10 4 rfl rfl (by decide) | exact sorted_ne hSo 10 5 rfl rfl (by decide) | exact sorted_ne hSo 10 6 rfl rfl (by decide) | exact sorted_ne hSo 10 7 rfl rfl (by decide) | exact sorted_ne hSo 10 8 rfl rfl (by decide) | exact sorted_ne hSo 10 9 rfl rfl (by decide) | exact sorted_ne hSo 10 11 rfl rfl (by decide) | exact sorted_ne hSo 11 0 rfl rfl (by decide) | exact sorted_ne hSo 11 1 rfl rfl (by decide) | exact sorted_ne hSo 11 2 rfl rfl (by decide) | exact sorted_ne hSo 11 3 rfl rfl (by decide) | exact sorted_ne hSo 11 4 rfl rfl (by decide) | exact sorted_ne hSo 11 5 rfl rfl (by decide) | exact sorted_ne hSo 11 6 rfl rfl (by decide) | exact sorted_ne hSo 11 7 rfl rfl (by decide) | exact sorted_ne hSo 11 8 rfl rfl (by decide) | exact sorted_ne hSo 11 9 rfl rfl (by decide) | exact sorted_ne hSo 11 10 rfl rfl (by decide)))) (by (repeat' (first | exact (fun _ h => absurd h List.not_mem_nil) | refine List.forall_mem_cons.mpr ⟨?_, ?_⟩ | exact hq.1 | exact hq.2.1 | exact hq.2.2.1 | exact hq.2.2.2.1 | exact hq.2.2.2.2.1 | exact hq.2.2.2.2.2 | exact sorted_ne hSo 0 1 rfl rfl (by decide) | exact sorted_ne hSo 0 2 rfl rfl (by decide) | exact sorted_ne hSo 0 3 rfl rfl (by decide) | exact sorted_ne hSo 0 4 rfl rfl (by decide) | exact sorted_ne hSo 0 5 rfl rfl (by decide) | exact sorted_ne hSo 0 6 rfl rfl (by decide) | exact sorted_ne hSo 0 7 rfl rfl (by decide) | exact sorted_ne hSo 0 8 rfl rfl (by decide) | exact sorted_ne hSo 0 9 rfl rfl (by decide) | exact sorted_ne hSo 0 10 rfl rfl (by decide) | exact sorted_ne hSo 0 11 rfl rfl (by decide) | exact sorted_ne hSo 1 0 rfl rfl (by decide) | exact sorted_ne hSo 1 2 rfl rfl (by decide) | exact sorted_ne hSo 1 3 rfl rfl (by decide) | exact sorted_ne hSo 1 4 rfl rfl (by decide) | exact sorted_ne hSo 1 5 rfl rfl (by decide) | exact sorted_ne hSo 1 6 rfl rfl (by decide) | exact sorted_ne hSo 1 7 rfl rfl (by decide) | exact sorted_ne hSo 1 8 rfl rfl (by decide) | exact sorted_ne hSo 1 9 rfl rfl (by decide) | exact sorted_ne hSo 1 10 rfl rfl (by decide) | exact sorted_ne hSo 1 11 rfl rfl (by decide) | exact sorted_ne hSo 2 0 rfl rfl (by decide) | exact sorted_ne hSo 2 1 rfl rfl (by decide) | exact sorted_ne hSo 2 3 rfl rfl (by decide) | exact sorted_ne hSo 2 4 rfl rfl (by decide) | exact sorted_ne hSo 2 5 rfl rfl (by decide) | exact sorted_ne hSo 2 6 rfl rfl (by decide) | exact sorted_ne hSo 2 7 rfl rfl (by decide) | exact sorted_ne hSo 2 8 rfl rfl (by decide) | exact sorted_ne hSo 2 9 rfl rfl (by decide) | exact sorted_ne hSo 2 10 rfl rfl (by decide) | exact sorted_ne hSo 2 11 rfl rfl (by decide) | exact sorted_ne hSo 3 0 rfl rfl (by decide) | exact sorted_ne hSo 3 1 rfl rfl (by decide) | exact sorted_ne hSo 3 2 rfl rfl (by decide) | exact sorted_ne hSo 3 4 rfl rfl (by decide) | exact sorted_ne hSo 3 5 rfl rfl (by decide) | exact sorted_ne hSo 3 6 rfl rfl (by decide) | exact sorted_ne hSo 3 7 rfl rfl (by decide) | exact sorted_ne hSo 3 8 rfl rfl (by decide) | exact sorted_ne hSo 3 9 rfl rfl (by decide) | exact sorted_ne hSo 3 10 rfl rfl (by decide) | exact sorted_ne hSo 3 11 rfl rfl (by decide) | exact sorted_ne hSo 4 0 rfl rfl (by decide) | exact sorted_ne hSo 4 1 rfl rfl (by decide) | exact sorted_ne hSo 4 2 rfl rfl (by decide) | exact sorted_ne hSo 4 3 rfl rfl (by decide) | exact sorted_ne hSo 4 5 rfl rfl (by decide) | exact sorted_ne hSo 4 6 rfl rfl (by decide) | exact sorted_ne hSo 4 7 rfl rfl (by decide) | exact sorted_ne hSo 4 8 rfl rfl (by decide) | exact sorted_ne hSo 4 9 rfl rfl (by decide) | exact sorted_ne hSo 4 10 rfl rfl (by decide) | exact sorted_ne hSo 4 11 rfl rfl (by decide) | exact sorted_ne hSo 5 0 rfl rfl (by decide) | exact sorted_ne hSo 5 1 rfl rfl (by decide) | exact sorted_ne hSo 5 2 rfl rfl (by decide) | exact sorted_ne hSo 5 3 rfl rfl (by decide) | exact sorted_ne hSo 5 4 rfl rfl (by decide) | exact sorted_ne hSo 5 6 rfl rfl (by decide) | exact sorted_ne hSo 5 7 rfl rfl (by decide) | exact sorted_ne hSo 5 8 rfl rfl (by decide) | exact sorted_ne hSo 5 9 rfl rfl (by decide) | exact sorted_ne hSo 5 10 rfl rfl (by decide) | exact sorted_ne hSo 5 11 rfl rfl (by decide) | exact sorted_ne hSo 6 0 rfl rfl (by decide) | exact sorted_ne hSo 6 1 rfl rfl (by decide) | exact sorted_ne hSo 6 2 rfl rfl (by decide) | exact sorted_ne hSo 6 3 rfl rfl (by decide) | exact sorted_ne hSo 6 4 rfl rfl (by decide) | exact sorted_ne hSo 6 5 rfl rfl (by decide) | exact sorted_ne hSo 6 7 rfl rfl (by decide) | exact sorted_ne hSo 6 8 rfl rfl (by decide) | exact sorted_ne hSo 6 9 rfl rfl (by decide) | exact sorted_ne hSo 6 10 rfl rfl (by decide) | exact sorted_ne hSo 6 11 rfl rfl (by decide) | exact sorted_ne hSo 7 0 rfl rfl (by decide) | exact sorted_ne hSo 7 1 rfl rfl (by decide) | exact sorted_ne hSo 7 2 rfl rfl (by decide) | exact sorted_ne hSo 7 3 rfl rfl (by decide) | exact sorted_ne hSo 7 4 rfl rfl (by decide) | exact sorted_ne hSo 7 5 rfl rfl (by decide) | exact sorted_ne hSo 7 6 rfl rfl (by decide) | exact sorted_ne hSo 7 8 rfl rfl (by decide) | exact sorted_ne hSo 7 9 rfl rfl (by decide) | exact sorted_ne hSo 7 10 rfl rfl (by decide) | exact sorted_ne hSo 7 11 rfl rfl (by decide) | exact sorted_ne hSo 8 0 rfl rfl (by decide) | exact sorted_ne hSo 8 1 rfl rfl (by decide) | exact sorted_ne hSo 8 2 rfl rfl (by decide) | exact sorted_ne hSo 8 3 rfl rfl (by decide) | exact sorted_ne hSo 8 4 rfl rfl (by decide) | exact sorted_ne hSo 8 5 rfl rfl (by decide) | exact sorted_ne hSo 8 6 rfl rfl (by decide) | exact sorted_ne hSo 8 7 rfl rfl (by decide) | exact sorted_ne hSo 8 9 rfl rfl (by decide) | exact sorted_ne hSo 8 10 rfl rfl (by decide) | exact sorted_ne hSo 8 11 rfl rfl (by decide) | exact sorted_ne hSo 9 0 rfl rfl (by decide) | exact sorted_ne hSo 9 1 rfl rfl (by decide) | exact sorted_ne hSo 9 2 rfl rfl (by decide) | exact sorted_ne hSo 9 3 rfl rfl (by decide) | exact sorted_ne hSo 9 4 rfl rfl (by decide) | exact sorted_ne hSo 9 5 rfl rfl (by decide) | exact sorted_ne hSo 9 6 rfl rfl (by decide) | exact sorted_ne hSo 9 7 rfl rfl (by decide) | exact sorted_ne hSo 9 8 rfl rfl (by decide) | exact sorted_ne hSo 9 10 rfl rfl (by decide) | exact sorted_ne hSo 9 11 rfl rfl (by decide) | exact sorted_ne hSo 10 0 rfl rfl (by decide) | exact sorted_ne hSo 10 1 rfl rfl (by decide) | exact sorted_ne hSo 10 2 rfl rfl (by decide) | exact sorted_ne hSo 10 3 rfl rfl (by decide) | exact sorted_ne hSo 10 4 rfl rfl (by decide) | exact sorted_ne hSo 10 5 rfl rfl (by decide) | exact sorted_ne hSo 10 6 rfl rfl (by decide) | exact sorted_ne hSo 10 7 rfl rfl (by decide) | exact sorted_ne hSo 10 8 rfl rfl (by decide) | exact sorted_ne hSo 10 9 rfl rfl (by decide) | exact sorted_ne hSo 10 11 rfl rfl (by decide) | exact sorted_ne hSo 11 0 rfl rfl (by decide) | exact sorted_ne hSo 11 1 rfl rfl (by decide) | exact sorted_ne hSo 11 2 rfl rfl (by decide) | exact sorted_ne hSo 11 3 rfl rfl (by decide) | exact sorted_ne hSo 11 4 rfl rfl (by decide) | exact sorted_ne hSo 11 5 rfl rfl (by decide) | exact sorted_ne hSo 11 6 rfl rfl (by decide) | exact sorted_ne hSo 11 7 rfl rfl (by decide) | exact sorted_ne hSo 11 8 rfl rfl (by decide) | exact sorted_ne hSo 11 9 rfl rfl (by decide) | exact sorted_ne hSo 11 10 rfl rfl (by decide))))
  have sg := stays_h F8 N8 hm1
  have ig := inL_h N8 _ hr1 hn1
  refine useM (pawns_spec w mean mg mb _ x p0 p1 0 G1 nf nr S hSd (fun p hp => (N8 p (hm1 p hp)).1) (by (repeat' (first | exact (fun _ h => absurd h List.not_mem_nil) | refine List.forall_mem_cons.mpr ⟨?_, ?_⟩ | exact hq.1 | exact hq.2.1 | exact hq.2.2.1 | exact hq.2.2.2.1 | exact hq.2.2.2.2.1 | exact hq.2.2.2.2.2 | exact sorted_ne hSo 0 1 rfl rfl (by decide) | exact sorted_ne hSo 0 2 rfl rfl (by decide) | exact sorted_ne hSo 0 3 rfl rfl (by decide) | exact sorted_ne hSo 0 4 rfl rfl (by decide) | exact sorted_ne hSo 0 5 rfl rfl (by decide) | exact sorted_ne hSo 0 6 rfl rfl (by decide) | exact sorted_ne hSo 0 7 rfl rfl (by decide) | exact sorted_ne hSo 0 8 rfl rfl (by decide) | exact sorted_ne hSo 0 9 rfl rfl (by decide) | exact sorted_ne hSo 0 10 rfl rfl (by decide) | exact sorted_ne hSo 0 11 rfl rfl (by decide) | exact sorted_ne hSo 1 0 rfl rfl (by decide) | exact sorted_ne hSo 1 2 rfl rfl (by decide) | exact sorted_ne hSo 1 3 rfl rfl (by decide) | exact sorted_ne hSo 1 4 rfl rfl (by decide) | exact sorted_ne hSo 1 5 rfl rfl (by decide) | exact sorted_ne hSo 1 6 rfl rfl (by decide) | exact sorted_ne hSo 1 7 rfl rfl (by decide) | exact sorted_ne hSo 1 8 rfl rfl (by decide) | exact sorted_ne hSo 1 9 rfl rfl (by decide) | exact sorted_ne hSo 1 10 rfl rfl (by decide) | exact sorted_ne hSo 1 11 rfl rfl (by decide) | exact sorted_ne hSo 2 0 rfl rfl (by decide) | exact sorted_ne hSo 2 1 rfl rfl (by decide) | exact sorted_ne hSo 2 3 rfl rfl (by decide) | exact sorted_ne hSo 2 4 rfl rfl (by decide) | exact sorted_ne hSo 2 5 rfl rfl (by decide) | exact sorted_ne hSo 2 6 rfl rfl (by decide) | exact sorted_ne hSo 2 7 rfl rfl (by decide) | exact sorted_ne hSo 2 8 rfl rfl (by decide) | exact sorted_ne hSo 2 9 rfl rfl (by decide) | exact sorted_ne hSo 2 10 rfl rfl (by decide) | exact sorted_ne hSo 2 11 rfl rfl (by decide) | exact sorted_ne hSo 3 0 rfl rfl (by decide) | exact sorted_ne hSo 3 1 rfl rfl (by decide) | exact sorted_ne hSo 3 2 rfl rfl (by decide) | exact sorted_ne hSo 3 4 rfl rfl (by decide) | exact sorted_ne hSo 3 5 rfl rfl (by decide) | exact sorted_ne hSo 3 6 rfl rfl (by decide) | exact sorted_ne hSo 3 7 rfl rfl (by decide) | exact sorted_ne hSo 3 8 rfl rfl (by decide) | exact sorted_ne hSo 3 9 rfl rfl (by decide) | exact sorted_ne hSo 3 10 rfl rfl (by decide) | exact sorted_ne hSo 3 11 rfl rfl (by decide) | exact sorted_ne hSo 4 0 rfl rfl (by decide) | exact sorted_ne hSo 4 1 rfl rfl (by decide) | exact sorted_ne hSo 4 2 rfl rfl (by decide) | exact sorted_ne hSo 4 3 rfl rfl (by decide) | exact sorted_ne hSo 4 5 rfl rfl (by decide) | exact sorted_ne hSo 4 6 rfl rfl (by decide) | exact sorted_ne hSo 4 7 rfl rfl (by decide) | exact sorted_ne hSo 4 8 rfl rfl (by decide) | exact sorted_ne hSo 4 9 rfl rfl (by decide) | exact sorted_ne hSo 4 10 rfl rfl (by decide) | exact sorted_ne hSo 4 11 rfl rfl (by decide) | exact sorted_ne hSo 5 0 rfl rfl (by decide) | exact sorted_ne hSo 5 1 rfl rfl (by decide) | exact sorted_ne hSo 5 2 rfl rfl (by decide) | exact sorted_ne hSo 5 3 rfl rfl (by decide) | exact sorted_ne hSo 5 4 rfl rfl (by decide) | exact sorted_ne hSo 5 6 rfl rfl (by decide) | exact sorted_ne hSo 5 7 rfl rfl (by decide) | exact sorted_ne hSo 5 8 rfl rfl (by decide) | exact sorted_ne hSo 5 9 rfl rfl (by decide) | exact sorted_ne hSo 5 10 rfl rfl (by decide) | exact sorted_ne hSo 5 11 rfl rfl (by decide) | exact sorted_ne hSo 6 0 rfl rfl (by decide) | exact sorted_ne hSo 6 1 rfl rfl (by decide) | exact sorted_ne hSo 6 2 rfl rfl (by decide) | exact sorted_ne hSo 6 3 rfl rfl (by decide) | exact sorted_ne hSo 6 4 rfl rfl (by decide) | exact sorted_ne hSo 6 5 rfl rfl (by decide) | exact sorted_ne hSo 6 7 rfl rfl (by decide) | exact sorted_ne hSo 6 8 rfl rfl (by decide) | exact sorted_ne hSo 6 9 rfl rfl (by decide) | exact sorted_ne hSo 6 10 rfl rfl (by decide) | exact sorted_ne hSo 6 11 rfl rfl (by decide) | exact sorted_ne hSo 7 0 rfl rfl (by decide) | exact sorted_ne hSo 7 1 rfl rfl (by decide) | exact sorted_ne hSo 7 2 rfl rfl (by decide) | exact sorted_ne hSo 7 3 rfl rfl (by decide) | exact sorted_ne hSo 7 4 rfl rfl (by decide) | exact sorted_ne hSo 7 5 rfl rfl (by decide) | exact sorted_ne hSo 7 6 rfl rfl (by decide) | exact sorted_ne hSo 7 8 rfl rfl (by decide) | exact sorted_ne hSo 7 9 rfl rfl (by decide) | exact sorted_ne hSo 7 10 rfl rfl (by decide) | exact sorted_ne hSo 7 11 rfl rfl (by decide) | exact sorted_ne hSo 8 0 rfl rfl (by decide) | exact sorted_ne hSo 8 1 rfl rfl (by decide) | exact sorted_ne hSo 8 2 rfl rfl (by decide) | exact sorted_ne hSo 8 3 rfl rfl (by decide) | exact sorted_ne hSo 8 4 rfl rfl (by decide) | exact sorted_ne hSo 8 5 rfl rfl (by decide) | exact sorted_ne hSo 8 6 rfl rfl (by decide) | exact sorted_ne hSo 8 7 rfl rfl (by decide) | exact sorted_ne hSo 8 9 rfl rfl (by decide) | exact sorted_ne hSo 8 10 rfl rfl (by decide) | exact sorted_ne hSo 8 11 rfl rfl (by decide) | exact sorted_ne hSo 9 0 rfl rfl (by decide) | exact sorted_ne hSo 9 1 rfl rfl (by decide) | exact sorted_ne hSo 9 2 rfl rfl (by decide) | exact sorted_ne hSo 9 3 rfl rfl (by decide) | exact sorted_ne hSo 9 4 rfl rfl (by decide) | exact sorted_ne hSo 9 5 rfl rfl (by decide) | exact sorted_ne hSo 9 6 rfl rfl (by decide) | exact sorted_ne hSo 9 7 rfl rfl (by decide) | exact sorted_ne hSo 9 8 rfl rfl (by decide) | exact sorted_ne hSo 9 10 rfl rfl (by decide) | exact sorted_ne hSo 9 11 rfl rfl (by decide) | exact sorted_ne hSo 10 0 rfl rfl (by decide) | exact sorted_ne hSo 10 1 rfl rfl (by decide) | exact sorted_ne hSo 10 2 rfl rfl (by decide) | exact sorted_ne hSo 10 3 rfl rfl (by decide) | exact sorted_ne hSo 10 4 rfl rfl (by decide) | exact sorted_ne hSo 10 5 rfl rfl (by decide) | exact sorted_ne hSo 10 6 rfl rfl (by decide) | exact sorted_ne hSo 10 7 rfl rfl (by decide) | exact sorted_ne hSo 10 8 rfl rfl (by decide) | exact sorted_ne hSo 10 9 rfl rfl (by decide) | exact sorted_ne hSo 10 11 rfl rfl (by decide) | exact sorted_ne hSo 11 0 rfl rfl (by decide) | exact sorted_ne hSo 11 1 rfl rfl (by decide) | exact sorted_ne hSo 11 2 rfl rfl (by decide) | exact sorted_ne hSo 11 3 rfl rfl (by decide) | exact sorted_ne hSo 11 4 rfl rfl (by decide) | exact sorted_ne hSo 11 5 rfl rfl (by decide) | exact sorted_ne hSo 11 6 rfl rfl (by decide) | exact sorted_ne hSo 11 7 rfl rfl (by decide) | exact sorted_ne hSo 11 8 rfl rfl (by decide) | exact sorted_ne hSo 11 9 rfl rfl (by decide) | exact sorted_ne hSo 11 10 rfl rfl (by decide)))) (X.keeps sg) (T.keeps sg) ⟨ig _ _ (.head _), rfl, rfl, ig _ _ (.tail _ (.head _))⟩
    (ig _ _ (.tail _ (.tail _ (List.mem_append_right _ (.tail _ (.tail _ (.tail _ (.head _)))))))) hs
    ⟨vr, n, ig _ _ (.tail _ (.tail _ (List.mem_append_left _ m2))), hvl, fun d hd => let ⟨b, e, hb⟩ := hV d (by omega); ⟨b, e, by rw [hS]; exact IntsF.mono (fun a o q => ig a o (.tail _ (.tail _ (List.mem_append_left _ (m3 _ q))))) hb⟩⟩
    (hK.ints (ig _ _ (.tail _ (.tail _ (List.mem_append_left _ m1)))))) F8 N8 hm1 _ hr1 hn1 rfl (by decide) (by decide) ?_
  clear F8 N8 hm1 hr1 hn1 sg ig
  rintro v tl h' tk' F8 N8 - ⟨v0, v1, n0, n1, rfl, hV0, hV1⟩
  have N9 := news_sub (news := (x, instObj 53 G1.dx) :: (G1.dx, dictOf (G1.entries w.params nf nr) 14) :: (tlr ++ ledD G1 p0 p1 vF vR v0 v1 [] nF nR n0 n1 0)) N8 (back3 (show ∀ p ∈ ledD G1 p0 p1 vF vR v0 v1 [] nF nR n0 n1 0, _ by
    (repeat' (first | exact (fun _ h => absurd h List.not_mem_nil) | refine List.forall_mem_cons.mpr ⟨?_, ?_⟩ | exact .inl (by k_mem) | exact .inr (by k_mem)))))
  clear N8
  k_steps
  refine Stop.go ?_
  (rename Fr _ _ _ _ => F8)
  (rename News _ _ _ _ => N8)
  have hm1 : ∀ p ∈ [(G1.knight, lobj [] 0)], p ∈ (x, instObj 53 G1.dx) :: (G1.dx, dictOf (G1.entries w.params nf nr) 14) :: (tlr ++ ledD G1 p0 p1 vF vR v0 v1 [] nF nR n0 n1 0) := fun p hp => .tail _ (.tail _ (List.mem_append_right _ ((show ∀ p ∈ [(G1.knight, lobj [] 0)], p ∈ ledD G1 p0 p1 vF vR v0 v1 [] nF nR n0 n1 0 by lcg_sub) p hp)))
  have hr1 := sub3 (a := (x, instObj 53 G1.dx)) (b := (G1.dx, dictOf (G1.entries w.params nf nr) 14)) (t := tlr) (C := ledD G1 p0 p1 vF vR v0 v1 [] nF nR n0 n1 0) (C' := [(G1.masksF, lobj vF nF), (G1.masksR, lobj vR nR), (G1.castles, lobj [] 0), (G1.pawn, lobj [.ref p0, .ref p1] 0), (p0, lobj v0 n0), (p1, lobj v1 n1)]) (by lcg_sub)
  have hn1 := ne3 (mu := [(G1.knight, lobj [] 0)]) (a := (x, instObj 53 G1.dx)) (b := (G1.dx, dictOf (G1.entries w.params nf nr) 14)) (t := tlr) (C := [(G1.masksF, lobj vF nF), (G1.masksR, lobj vR nR), (G1.castles, lobj [] 0), (G1.pawn, lobj [.ref p0, .ref p1] 0), (p0, lobj v0 n0), (p1, lobj v1 n1)])
    (by (repeat' (first | exact (fun _ h => absurd h List.not_mem_nil) | refine List.forall_mem_cons.mpr ⟨?_, ?_⟩ | exact hq.1 | exact hq.2.1 | exact hq.2.2.1 | exact hq.2.2.2.1 | exact hq.2.2.2.2.1 | exact hq.2.2.2.2.2 | exact sorted_ne hSo 0 1 rfl rfl (by decide) | exact sorted_ne hSo 0 2 rfl rfl (by decide) | exact sorted_ne hSo 0 3 rfl rfl (by decide) | exact sorted_ne hSo 0 4 rfl rfl (by decide) | exact sorted_ne hSo 0 5 rfl rfl (by decide) | exact sorted_ne hSo 0 6 rfl rfl (by decide) | exact sorted_ne hSo 0 7 rfl rfl (by decide) | exact sorted_ne hSo 0 8 rfl rfl (by decide) | exact sorted_ne hSo 0 9 rfl rfl (by decide) | exact sorted_ne hSo 0 10 rfl rfl (by decide) | exact sorted_ne hSo 0 11 rfl rfl (by decide) | exact sorted_ne hSo 1 0 rfl rfl (by decide) | exact sorted_ne hSo 1 2 rfl rfl (by decide) | exact sorted_ne hSo 1 3 rfl rfl (by decide) | exact sorted_ne hSo 1 4 rfl rfl (by decide) | exact sorted_ne hSo 1 5 rfl rfl (by decide) | exact sorted_ne hSo 1 6 rfl rfl (by decide) | exact sorted_ne hSo 1 7 rfl rfl (by decide) | exact sorted_ne hSo 1 8 rfl rfl (by decide) | exact sorted_ne hSo 1 9 rfl rfl (by decide) | exact sorted_ne hSo 1 10 rfl rfl (by decide) | exact sorted_ne hSo 1 11 rfl rfl (by decide) | exact sorted_ne hSo 2 0 rfl rfl (by decide) | exact sorted_ne hSo 2 1 rfl rfl (by decide) | exact sorted_ne hSo 2 3 rfl rfl (by decide) | exact sorted_ne hSo 2 4 rfl rfl (by decide) | exact sorted_ne hSo 2 5 rfl rfl (by decide) | exact sorted_ne hSo 2 6 rfl rfl (by decide) | exact sorted_ne hSo 2 7 rfl rfl (by decide) | exact sorted_ne hSo 2 8 rfl rfl (by decide) | exact sorted_ne hSo 2 9 rfl rfl (by decide) | exact sorted_ne hSo 2 10 rfl rfl (by decide) | exact sorted_ne hSo 2 11 rfl rfl (by decide) | exact sorted_ne hSo 3 0 rfl rfl (by decide) | exact sorted_ne hSo 3 1 rfl rfl (by decide) | exact sorted_ne hSo 3 2 rfl rfl (by decide) | exact sorted_ne hSo 3 4 rfl rfl (by decide) | exact sorted_ne hSo 3 5 rfl rfl (by decide) | exact sorted_ne hSo 3 6 rfl rfl (by decide) | exact sorted_ne hSo 3 7 rfl rfl (by decide) | exact sorted_ne hSo 3 8 rfl rfl (by decide) | exact sorted_ne hSo 3 9 rfl rfl (by decide) | exact sorted_ne hSo 3 10 rfl rfl (by decide) | exact sorted_ne hSo 3 11 rfl rfl (by decide) | exact sorted_ne hSo 4 0 rfl rfl (by decide) | exact sorted_ne hSo 4 1 rfl rfl (by decide) | exact sorted_ne hSo 4 2 rfl rfl (by decide) | exact sorted_ne hSo 4 3 rfl rfl (by decide) | exact sorted_ne hSo 4 5 rfl rfl (by decide) | exact sorted_ne hSo 4 6 rfl rfl (by decide) | exact sorted_ne hSo 4 7 rfl rfl (by decide) | exact sorted_ne hSo 4 8 rfl rfl (by decide) | exact sorted_ne hSo 4 9 rfl rfl (by decide) | exact sorted_ne hSo 4 10 rfl rfl (by decide) | exact sorted_ne hSo 4 11 rfl rfl (by decide) | exact sorted_ne hSo 5 0 rfl rfl (by decide) | exact sorted_ne hSo 5 1 rfl rfl (by decide) | exact sorted_ne hSo 5 2 rfl rfl (by decide) | exact sorted_ne hSo 5 3 rfl rfl (by decide) | exact sorted_ne hSo 5 4 rfl rfl (by decide) | exact sorted_ne hSo 5 6 rfl rfl (by decide) | exact sorted_ne hSo 5 7 rfl rfl (by decide) | exact sorted_ne hSo 5 8 rfl rfl (by decide) | exact sorted_ne hSo 5 9 rfl rfl (by decide) | exact sorted_ne hSo 5 10 rfl rfl (by decide) | exact sorted_ne hSo 5 11 rfl rfl (by decide) | exact sorted_ne hSo 6 0 rfl rfl (by decide) | exact sorted_ne hSo 6 1 rfl rfl (by decide) | exact sorted_ne hSo 6 2 rfl rfl (by decide) | exact sorted_ne hSo 6 3 rfl rfl (by decide) | exact sorted_ne hSo 6 4 rfl rfl (by decide) | exact sorted_ne hSo 6 5 rfl rfl (by decide) | exact sorted_ne hSo 6 7 rfl rfl (by decide) | exact sorted_ne hSo 6 8 rfl rfl (by decide) | exact sorted_ne hSo 6 9 rfl rfl (by decide) | exact sorted_ne hSo 6 10 rfl rfl (by decide) | exact sorted_ne hSo 6 11 rfl rfl (by decide) | exact sorted_ne hSo 7 0 rfl rfl (by decide) | exact sorted_ne hSo 7 1 rfl rfl (by decide) | exact sorted_ne hSo 7 2 rfl rfl (by decide) | exact sorted_ne hSo 7 3 rfl rfl (by decide) | exact sorted_ne hSo 7 4 rfl rfl (by decide) | exact sorted_ne hSo 7 5 rfl rfl (by decide) | exact sorted_ne hSo 7 6 rfl rfl (by decide) | exact sorted_ne hSo 7 8 rfl rfl (by decide) | exact sorted_ne hSo 7 9 rfl rfl (by decide) | exact sorted_ne hSo 7 10 rfl rfl (by decide) | exact sorted_ne hSo 7 11 rfl rfl (by decide) | exact sorted_ne hSo 8 0 rfl rfl (by decide) | exact sorted_ne hSo 8 1 rfl rfl (by decide) | exact sorted_ne hSo 8 2 rfl rfl (by decide) | exact sorted_ne hSo 8 3 rfl rfl (by decide) | exact sorted_ne hSo 8 4 rfl rfl (by decide) | exact sorted_ne hSo 8 5 rfl rfl (by decide) | exact sorted_ne hSo 8 6 rfl rfl (by decide) | exact sorted_ne hSo 8 7 rfl rfl (by decide) | exact sorted_ne hSo 8 9 rfl rfl (by decide) | exact sorted_ne hSo 8 10 rfl rfl (by decide) | exact sorted_ne hSo 8 11 rfl rfl (by decide) | exact sorted_ne hSo 9 0 rfl rfl (by decide) | exact sorted_ne hSo 9 1 rfl rfl (by decide) | exact sorted_ne hSo 9 2 rfl rfl (by decide) | exact sorted_ne hSo 9 3 rfl rfl (by decide) | exact sorted_ne hSo 9 4 rfl rfl (by decide) | exact sorted_ne hSo 9 5 rfl rfl (by decide) | exact sorted_ne hSo 9 6 rfl rfl (by decide) | exact sorted_ne hSo 9 7 rfl rfl (by decide) | exact sorted_ne hSo 9 8 rfl rfl (by decide) | exact sorted_ne hSo 9 10 rfl rfl (by decide) | exact sorted_ne hSo 9 11 rfl rfl (by decide) | exact sorted_ne hSo 10 0 rfl rfl (by decide) | exact sorted_ne hSo 10 1 rfl rfl (by decide) | exact sorted_ne hSo 10 2 rfl rfl (by decide) | exact sorted_ne hSo 10 3 rfl rfl (by decide) | exact sorted_ne hSo 10 4 rfl rfl (by decide) | exact sorted_ne hSo 10 5 rfl rfl (by decide) | exact sorted_ne hSo 10 6 rfl rfl (by decide) | exact sorted_ne hSo 10 7 rfl rfl (by decide) | exact sorted_ne hSo 10 8 rfl rfl (by decide) | exact sorted_ne hSo 10 9 rfl rfl (by decide) | exact sorted_ne hSo 10 11 rfl rfl (by decide) | exact sorted_ne hSo 11 0 rfl rfl (by decide) | exact sorted_ne hSo 11 1 rfl rfl (by decide) | exact sorted_ne hSo 11 2 rfl rfl (by decide) | exact sorted_ne hSo 11 3 rfl rfl (by decide) | exact sorted_ne hSo 11 4 rfl rfl (by decide) | exact sorted_ne hSo 11 5 rfl rfl (by decide) | exact sorted_ne hSo 11 6 rfl rfl (by decide) | exact sorted_ne hSo 11 7 rfl rfl (by decide) | exact sorted_ne hSo 11 8 rfl rfl (by decide) | exact sorted_ne hSo 11 9 rfl rfl (by decide) | exact sorted_ne hSo 11 10 rfl rfl (by decide)))) (by (repeat' (first | exact (fun _ h => absurd h List.not_mem_nil) | refine List.forall_mem_cons.mpr ⟨?_, ?_⟩ | exact hq.1 | exact hq.2.1 | exact hq.2.2.1 | exact hq.2.2.2.1 | exact hq.2.2.2.2.1 | exact hq.2.2.2.2.2 | exact sorted_ne hSo 0 1 rfl rfl (by decide) | exact sorted_ne hSo 0 2 rfl rfl (by decide) | exact sorted_ne hSo 0 3 rfl rfl (by decide) | exact sorted_ne hSo 0 4 rfl rfl (by decide) | exact sorted_ne hSo 0 5 rfl rfl (by decide) | exact sorted_ne hSo 0 6 rfl rfl (by decide) | exact sorted_ne hSo 0 7 rfl rfl (by decide) | exact sorted_ne hSo 0 8 rfl rfl (by decide) | exact sorted_ne hSo 0 9 rfl rfl (by decide) | exact sorted_ne hSo 0 10 rfl rfl (by decide) | exact sorted_ne hSo 0 11 rfl rfl (by decide) | exact sorted_ne hSo 1 0 rfl rfl (by decide) | exact sorted_ne hSo 1 2 rfl rfl (by decide) | exact sorted_ne hSo 1 3 rfl rfl (by decide) | exact sorted_ne hSo 1 4 rfl rfl (by decide) | exact sorted_ne hSo 1 5 rfl rfl (by decide) | exact sorted_ne hSo 1 6 rfl rfl (by decide) | exact sorted_ne hSo 1 7 rfl rfl (by decide) | exact sorted_ne hSo 1 8 rfl rfl (by decide) | exact sorted_ne hSo 1 9 rfl rfl (by decide) | exact sorted_ne hSo 1 10 rfl rfl (by decide) | exact sorted_ne hSo 1 11 rfl rfl (by decide) | exact sorted_ne hSo 2 0 rfl rfl (by decide) | exact sorted_ne hSo 2 1 rfl rfl (by decide) | exact sorted_ne hSo 2 3 rfl rfl (by decide) | exact sorted_ne hSo 2 4 rfl rfl (by decide) | exact sorted_ne hSo 2 5 rfl rfl (by decide) | exact sorted_ne hSo 2 6 rfl rfl (by decide) | exact sorted_ne hSo 2 7 rfl rfl (by decide) | exact sorted_ne hSo 2 8 rfl rfl (by decide) | exact sorted_ne hSo 2 9 rfl rfl (by decide) | exact sorted_ne hSo 2 10 rfl rfl (by decide) | exact sorted_ne hSo 2 11 rfl rfl (by decide) | exact sorted_ne hSo 3 0 rfl rfl (by decide) | exact sorted_ne hSo 3 1 rfl rfl (by decide) | exact sorted_ne hSo 3 2 rfl rfl (by decide) | exact sorted_ne hSo 3 4 rfl rfl (by decide) | exact sorted_ne hSo 3 5 rfl rfl (by decide) | exact sorted_ne hSo 3 6 rfl rfl (by decide) | exact sorted_ne hSo 3 7 rfl rfl (by decide) | exact sorted_ne hSo 3 8 rfl rfl (by decide) | exact sorted_ne hSo 3 9 rfl rfl (by decide) | exact sorted_ne hSo 3 10 rfl rfl (by decide) | exact sorted_ne hSo 3 11 rfl rfl (by decide) | exact sorted_ne hSo 4 0 rfl rfl (by decide) | exact sorted_ne hSo 4 1 rfl rfl (by decide) | exact sorted_ne hSo 4 2 rfl rfl (by decide) | exact sorted_ne hSo 4 3 rfl rfl (by decide) | exact sorted_ne hSo 4 5 rfl rfl (by decide) | exact sorted_ne hSo 4 6 rfl rfl (by decide) | exact sorted_ne hSo 4 7 rfl rfl (by decide) | exact sorted_ne hSo 4 8 rfl rfl (by decide) | exact sorted_ne hSo 4 9 rfl rfl (by decide) | exact sorted_ne hSo 4 10 rfl rfl (by decide) | exact sorted_ne hSo 4 11 rfl rfl (by decide) | exact sorted_ne hSo 5 0 rfl rfl (by decide) | exact sorted_ne hSo 5 1 rfl rfl (by decide) | exact sorted_ne hSo 5 2 rfl rfl (by decide) | exact sorted_ne hSo 5 3 rfl rfl (by decide) | exact sorted_ne hSo 5 4 rfl rfl (by decide) | exact sorted_ne hSo 5 6 rfl rfl (by decide) | exact sorted_ne hSo 5 7 rfl rfl (by decide) | exact sorted_ne hSo 5 8 rfl rfl (by decide) | exact sorted_ne hSo 5 9 rfl rfl (by decide) | exact sorted_ne hSo 5 10 rfl rfl (by decide) | exact sorted_ne hSo 5 11 rfl rfl (by decide) | exact sorted_ne hSo 6 0 rfl rfl (by decide) | exact sorted_ne hSo 6 1 rfl rfl (by decide) | exact sorted_ne hSo 6 2 rfl rfl (by decide) | exact sorted_ne hSo 6 3 rfl rfl (by decide) | exact sorted_ne hSo 6 4 rfl rfl (by decide) | exact sorted_ne hSo 6 5 rfl rfl (by decide) | exact sorted_ne hSo 6 7 rfl rfl (by decide) | exact sorted_ne hSo 6 8 rfl rfl (by decide) | exact sorted_ne hSo 6 9 rfl rfl (by decide) | exact sorted_ne hSo 6 10 rfl rfl (by decide) | exact sorted_ne hSo 6 11 rfl rfl (by decide) | exact sorted_ne hSo 7 0 rfl rfl (by decide) | exact sorted_ne hSo 7 1 rfl rfl (by decide) | exact sorted_ne hSo 7 2 rfl rfl (by decide) | exact sorted_ne hSo 7 3 rfl rfl (by decide) | exact sorted_ne hSo 7 4 rfl rfl (by decide) | exact sorted_ne hSo 7 5 rfl rfl (by decide) | exact sorted_ne hSo 7 6 rfl rfl (by decide) | exact sorted_ne hSo 7 8 rfl rfl (by decide) | exact sorted_ne hSo 7 9 rfl rfl (by decide) | exact sorted_ne hSo 7 10 rfl rfl (by decide) | exact sorted_ne hSo 7 11 rfl rfl (by decide) | exact sorted_ne hSo 8 0 rfl rfl (by decide) | exact sorted_ne hSo 8 1 rfl rfl (by decide) | exact sorted_ne hSo 8 2 rfl rfl (by decide) | exact sorted_ne hSo 8 3 rfl rfl (by decide) | exact sorted_ne hSo 8 4 rfl rfl (by decide) | exact sorted_ne hSo 8 5 rfl rfl (by decide) | exact sorted_ne hSo 8 6 rfl rfl (by decide) | exact sorted_ne hSo 8 7 rfl rfl (by decide) | exact sorted_ne hSo 8 9 rfl rfl (by decide) | exact sorted_ne hSo 8 10 rfl rfl (by decide) | exact sorted_ne hSo 8 11 rfl rfl (by decide) | exact sorted_ne hSo 9 0 rfl rfl (by decide) | exact sorted_ne hSo 9 1 rfl rfl (by decide) | exact sorted_ne hSo 9 2 rfl rfl (by decide) | exact sorted_ne hSo 9 3 rfl rfl (by decide) | exact sorted_ne hSo 9 4 rfl rfl (by decide) | exact sorted_ne hSo 9 5 rfl rfl (by decide) | exact sorted_ne hSo 9 6 rfl rfl (by decide) | exact sorted_ne hSo 9 7 rfl rfl (by decide) | exact sorted_ne hSo 9 8 rfl rfl (by decide) | exact sorted_ne hSo 9 10 rfl rfl (by decide) | exact sorted_ne hSo 9 11 rfl rfl (by decide) | exact sorted_ne hSo 10 0 rfl rfl (by decide) | exact sorted_ne hSo 10 1 rfl rfl (by decide) | exact sorted_ne hSo 10 2 rfl rfl (by decide) | exact sorted_ne hSo 10 3 rfl rfl (by decide) | exact sorted_ne hSo 10 4 rfl rfl (by decide) | exact sorted_ne hSo 10 5 rfl rfl (by decide) | exact sorted_ne hSo 10 6 rfl rfl (by decide) | exact sorted_ne hSo 10 7 rfl rfl (by decide) | exact sorted_ne hSo 10 8 rfl rfl (by decide) | exact sorted_ne hSo 10 9 rfl rfl (by decide) | exact sorted_ne hSo 10 11 rfl rfl (by decide) | exact sorted_ne hSo 11 0 rfl rfl (by decide) | exact sorted_ne hSo 11 1 rfl rfl (by decide) | exact sorted_ne hSo 11 2 rfl rfl (by decide) | exact sorted_ne hSo 11 3 rfl rfl (by decide) | exact sorted_ne hSo 11 4 rfl rfl (by decide) | exact sorted_ne hSo 11 5 rfl rfl (by decide) | exact sorted_ne hSo 11 6 rfl rfl (by decide) | exact sorted_ne hSo 11 7 rfl rfl (by decide) | exact sorted_ne hSo 11 8 rfl rfl (by decide) | exact sorted_ne hSo 11 9 rfl rfl (by decide) | exact sorted_ne hSo 11 10 rfl rfl (by decide)))) (fun p hp => by have hq := hT p hp; (repeat' (first | exact (fun _ h => absurd h List.not_mem_nil) | refine List.forall_mem_cons.mpr ⟨?_, ?_⟩ | exact hq.1 | exact hq.2.1 | exact hq.2.2.1 | exact hq.2.2.2.1 | exact hq.2.2.2.2.1 | exact hq.2.2.2.2.2 | exact sorted_ne hSo 0 1 rfl rfl (by decide) | exact sorted_ne hSo 0 2 rfl rfl (by decide) | exact sorted_ne hSo 0 3 rfl rfl (by decide) | exact sorted_ne hSo 0 4 rfl rfl (by decide) | exact sorted_ne hSo 0 5 rfl rfl (by decide) | exact sorted_ne hSo 0 6 rfl rfl (by decide) | exact sorted_ne hSo 0 7 rfl rfl (by decide) | exact sorted_ne hSo 0 8 rfl rfl (by decide) | exact sorted_ne hSo 0 9 rfl rfl (by decide) | exact sorted_ne hSo 0 10 rfl rfl (by decide) | exact sorted_ne hSo 0 11 rfl rfl (by decide) | exact sorted_ne hSo 1 0 rfl rfl (by decide) | exact sorted_ne hSo 1 2 rfl rfl (by decide) | exact sorted_ne hSo 1 3 rfl rfl (by decide) | exact sorted_ne hSo 1 4 rfl rfl (by decide) | exact sorted_ne hSo 1 5 rfl rfl (by decide) | exact sorted_ne hSo 1 6 rfl rfl (by decide) | exact sorted_ne hSo 1 7 rfl rfl (by decide) | exact sorted_ne hSo 1 8 rfl rfl (by decide) | exact sorted_ne hSo 1 9 rfl rfl (by decide) | exact sorted_ne hSo 1 10 rfl rfl (by decide) | exact sorted_ne hSo 1 11 rfl rfl (by decide) | exact sorted_ne hSo 2 0 rfl rfl (by decide) | exact sorted_ne hSo 2 1 rfl rfl (by decide) | exact sorted_ne hSo 2 3 rfl rfl (by decide) | exact sorted_ne hSo 2 4 rfl rfl (by decide) | exact sorted_ne hSo 2 5 rfl rfl (by decide) | exact sorted_ne hSo 2 6 rfl rfl (by decide) | exact sorted_ne hSo 2 7 rfl rfl (by decide) | exact sorted_ne hSo 2 8 rfl rfl (by decide) | exact sorted_ne hSo 2 9 rfl rfl (by decide) | exact sorted_ne hSo 2 10 rfl rfl (by decide) | exact sorted_ne hSo 2 11 rfl rfl (by decide) | exact sorted_ne hSo 3 0 rfl rfl (by decide) | exact sorted_ne hSo 3 1 rfl rfl (by decide) | exact sorted_ne hSo 3 2 rfl rfl (by decide) | exact sorted_ne hSo 3 4 rfl rfl (by decide) | exact sorted_ne hSo 3 5 rfl rfl (by decide) | exact sorted_ne hSo 3 6 rfl rfl (by decide) | exact sorted_ne hSo 3 7 rfl rfl (by decide) | exact sorted_ne hSo 3 8 rfl rfl (by decide) | exact sorted_ne hSo 3 9 rfl rfl (by decide) | exact sorted_ne hSo 3 10 rfl rfl (by decide) | exact sorted_ne hSo 3 11 rfl rfl (by decide) | exact sorted_ne hSo 4 0 rfl rfl (by decide) | exact sorted_ne hSo 4 1 rfl rfl (by decide) | exact sorted_ne hSo 4 2 rfl rfl (by decide) | exact sorted_ne hSo 4 3 rfl rfl (by decide) | exact sorted_ne hSo 4 5 rfl rfl (by decide) | exact sorted_ne hSo 4 6 rfl rfl (by decide) | exact sorted_ne hSo 4 7 rfl rfl (by decide) | exact sorted_ne hSo 4 8 rfl rfl (by decide) | exact sorted_ne hSo 4 9 rfl rfl (by decide) | exact sorted_ne hSo 4 10 rfl rfl (by decide) | exact sorted_ne hSo 4 11 rfl rfl (by decide) | exact sorted_ne hSo 5 0 rfl rfl (by decide) | exact sorted_ne hSo 5 1 rfl rfl (by decide) | exact sorted_ne hSo 5 2 rfl rfl (by decide) | exact sorted_ne hSo 5 3 rfl rfl (by decide) | exact sorted_ne hSo 5 4 rfl rfl (by decide) | exact sorted_ne hSo 5 6 rfl rfl (by decide) | exact sorted_ne hSo 5 7 rfl rfl (by decide) | exact sorted_ne hSo 5 8 rfl rfl (by decide) | exact sorted_ne hSo 5 9 rfl rfl (by decide) | exact sorted_ne hSo 5 10 rfl rfl (by decide) | exact sorted_ne hSo 5 11 rfl rfl (by decide) | exact sorted_ne hSo 6 0 rfl rfl (by decide) | exact sorted_ne hSo 6 1 rfl rfl (by decide) | exact sorted_ne hSo 6 2 rfl rfl (by decide) | exact sorted_ne hSo 6 3 rfl rfl (by decide) | exact sorted_ne hSo 6 4 rfl rfl (by decide) | exact sorted_ne hSo 6 5 rfl rfl (by decide) | exact sorted_ne hSo 6 7 rfl rfl (by decide) | exact sorted_ne hSo 6 8 rfl rfl (by decide) | exact sorted_ne hSo 6 9 rfl rfl (by decide) | exact sorted_ne hSo 6 10 rfl rfl (by decide) | exact sorted_ne hSo 6 11 rfl rfl (by decide) | exact sorted_ne hSo 7 0 rfl rfl (by decide) | exact sorted_ne hSo 7 1 rfl rfl (by decide) | exact sorted_ne hSo 7 2 rfl rfl (by decide) | exact sorted_ne hSo 7 3 rfl rfl (by decide) | exact sorted_ne hSo 7 4 rfl rfl (by decide) | exact sorted_ne hSo 7 5 rfl rfl (by decide) | exact sorted_ne hSo 7 6 rfl rfl (by decide) | exact sorted_ne hSo 7 8 rfl rfl (by decide) | exact sorted_ne hSo 7 9 rfl rfl (by decide) | exact sorted_ne hSo 7 10 rfl rfl (by decide) | exact sorted_ne hSo 7 11 rfl rfl (by decide) | exact sorted_ne hSo 8 0 rfl rfl (by decide) | exact sorted_ne hSo 8 1 rfl rfl (by decide) | exact sorted_ne hSo 8 2 rfl rfl (by decide) | exact sorted_ne hSo 8 3 rfl rfl (by decide) | exact sorted_ne hSo 8 4 rfl rfl (by decide) | exact sorted_ne hSo 8 5 rfl rfl (by decide) | exact sorted_ne hSo 8 6 rfl rfl (by decide) | exact sorted_ne hSo 8 7 rfl rfl (by decide) | exact sorted_ne hSo 8 9 rfl rfl (by decide) | exact sorted_ne hSo 8 10 rfl rfl (by decide) | exact sorted_ne hSo 8 11 rfl rfl (by decide) | exact sorted_ne hSo 9 0 rfl rfl (by decide) | exact sorted_ne hSo 9 1 rfl rfl (by decide) | exact sorted_ne hSo 9 2 rfl rfl (by decide) | exact sorted_ne hSo 9 3 rfl rfl (by decide) | exact sorted_ne hSo 9 4 rfl rfl (by decide) | exact sorted_ne hSo 9 5 rfl rfl (by decide) | exact sorted_ne hSo 9 6 rfl rfl (by decide) | exact sorted_ne hSo 9 7 rfl rfl (by decide) | exact sorted_ne hSo 9 8 rfl rfl (by decide) | exact sorted_ne hSo 9 10 rfl rfl (by decide) | exact sorted_ne hSo 9 11 rfl rfl (by decide) | exact sorted_ne hSo 10 0 rfl rfl (by decide) | exact sorted_ne hSo 10 1 rfl rfl (by decide) | exact sorted_ne hSo 10 2 rfl rfl (by decide) | exact sorted_ne hSo 10 3 rfl rfl (by decide) | exact sorted_ne hSo 10 4 rfl rfl (by decide) | exact sorted_ne hSo 10 5 rfl rfl (by decide) | exact sorted_ne hSo 10 6 rfl rfl (by decide) | exact sorted_ne hSo 10 7 rfl rfl (by decide) | exact sorted_ne hSo 10 8 rfl rfl (by decide) | exact sorted_ne hSo 10 9 rfl rfl (by decide) | exact sorted_ne hSo 10 11 rfl rfl (by decide) | exact sorted_ne hSo 11 0 rfl rfl (by decide) | exact sorted_ne hSo 11 1 rfl rfl (by decide) | exact sorted_ne hSo 11 2 rfl rfl (by decide) | exact sorted_ne hSo 11 3 rfl rfl (by decide) | exact sorted_ne hSo 11 4 rfl rfl (by decide) | exact sorted_ne hSo 11 5 rfl rfl (by decide) | exact sorted_ne hSo 11 6 rfl rfl (by decide) | exact sorted_ne hSo 11 7 rfl rfl (by decide) | exact sorted_ne hSo 11 8 rfl rfl (by decide) | exact sorted_ne hSo 11 9 rfl rfl (by decide) | exact sorted_ne hSo 11 10 rfl rfl (by decide)))) (by (repeat' (first | exact (fun _ h => absurd h List.not_mem_nil) | refine List.forall_mem_cons.mpr ⟨?_, ?_⟩ | exact hq.1 | exact hq.2.1 | exact hq.2.2.1 | exact hq.2.2.2.1 | exact hq.2.2.2.2.1 | exact hq.2.2.2.2.2 | exact sorted_ne hSo 0 1 rfl rfl (by decide) | exact sorted_ne hSo 0 2 rfl rfl (by decide) | exact sorted_ne hSo 0 3 rfl rfl (by decide) | exact sorted_ne hSo 0 4 rfl rfl (by decide) | exact sorted_ne hSo 0 5 rfl rfl (by decide) | exact sorted_ne hSo 0 6 rfl rfl (by decide) | exact sorted_ne hSo 0 7 rfl rfl (by decide) | exact sorted_ne hSo 0 8 rfl rfl (by decide) | exact sorted_ne hSo 0 9 rfl rfl (by decide) | exact sorted_ne hSo 0 10 rfl rfl (by decide) | exact sorted_ne hSo 0 11 rfl rfl (by decide) | exact sorted_ne hSo 1 0 rfl rfl (by decide) | exact sorted_ne hSo 1 2 rfl rfl (by decide) | exact sorted_ne hSo 1 3 rfl rfl (by decide) | exact sorted_ne hSo 1 4 rfl rfl (by decide) | exact sorted_ne hSo 1 5 rfl rfl (by decide) | exact sorted_ne hSo 1 6 rfl rfl (by decide) | exact sorted_ne hSo 1 7 rfl rfl (by decide) | exact sorted_ne hSo 1 8 rfl rfl (by decide) | exact sorted_ne hSo 1 9 rfl rfl (by decide) | exact sorted_ne hSo 1 10 rfl rfl (by decide) | exact sorted_ne hSo 1 11 rfl rfl (by decide) | exact sorted_ne hSo 2 0 rfl rfl (by decide) | exact sorted_ne hSo 2 1 rfl rfl (by decide) | exact sorted_ne hSo 2 3 rfl rfl (by decide) | exact sorted_ne hSo 2 4 rfl rfl (by decide) | exact sorted_ne hSo 2 5 rfl rfl (by decide) | exact sorted_ne hSo 2 6 rfl rfl (by decide) | exact sorted_ne hSo 2 7 rfl rfl (by decide) | exact sorted_ne hSo 2 8 rfl rfl (by decide) | exact sorted_ne hSo 2 9 rfl rfl (by decide) | exact sorted_ne hSo 2 10 rfl rfl (by decide) | exact sorted_ne hSo 2 11 rfl rfl (by decide) | exact sorted_ne hSo 3 0 rfl rfl (by decide) | exact sorted_ne hSo 3 1 rfl rfl (by decide) | exact sorted_ne hSo 3 2 rfl rfl (by decide) | exact sorted_ne hSo 3 4 rfl rfl (by decide) | exact sorted_ne hSo 3 5 rfl rfl (by decide) | exact sorted_ne hSo 3 6 rfl rfl (by decide) | exact sorted_ne hSo 3 7 rfl rfl (by decide) | exact sorted_ne hSo 3 8 rfl rfl (by decide) | exact sorted_ne hSo 3 9 rfl rfl (by decide) | exact sorted_ne hSo 3 10 rfl rfl (by decide) | exact sorted_ne hSo 3 11 rfl rfl (by decide) | exact sorted_ne hSo 4 0 rfl rfl (by decide) | exact sorted_ne hSo 4 1 rfl rfl (by decide) | exact sorted_ne hSo 4 2 rfl rfl (by decide) | exact sorted_ne hSo 4 3 rfl rfl (by decide) | exact sorted_ne hSo 4 5 rfl rfl (by decide) | exact sorted_ne hSo 4 6 rfl rfl (by decide) | exact sorted_ne hSo 4 7 rfl rfl (by decide) | exact sorted_ne hSo 4 8 rfl rfl (by decide) | exact sorted_ne hSo 4 9 rfl rfl (by decide) | exact sorted_ne hSo 4 10 rfl rfl (by decide) | exact sorted_ne hSo 4 11 rfl rfl (by decide) | exact sorted_ne hSo 5 0 rfl rfl (by decide) | exact sorted_ne hSo 5 1 rfl rfl (by decide) | exact sorted_ne hSo 5 2 rfl rfl (by decide) | exact sorted_ne hSo 5 3 rfl rfl (by decide) | exact sorted_ne hSo 5 4 rfl rfl (by decide) | exact sorted_ne hSo 5 6 rfl rfl (by decide) | exact sorted_ne hSo 5 7 rfl rfl (by decide) | exact sorted_ne hSo 5 8 rfl rfl (by decide) | exact sorted_ne hSo 5 9 rfl rfl (by decide) | exact sorted_ne hSo 5 10 rfl rfl (by decide) | exact sorted_ne hSo 5 11 rfl rfl (by decide) | exact sorted_ne hSo 6 0 rfl rfl (by decide) | exact sorted_ne hSo 6 1 rfl rfl (by decide) | exact sorted_ne hSo 6 2 rfl rfl (by decide) | exact sorted_ne hSo 6 3 rfl rfl (by decide) | exact sorted_ne hSo 6 4 rfl rfl (by decide) | exact sorted_ne hSo 6 5 rfl rfl (by decide) | exact sorted_ne hSo 6 7 rfl rfl (by decide) | exact sorted_ne hSo 6 8 rfl rfl (by decide) | exact sorted_ne hSo 6 9 rfl rfl (by decide) | exact sorted_ne hSo 6 10 rfl rfl (by decide) | exact sorted_ne hSo 6 11 rfl rfl (by decide) | exact sorted_ne hSo 7 0 rfl rfl (by decide) | exact sorted_ne hSo 7 1 rfl rfl (by decide) | exact sorted_ne hSo 7 2 rfl rfl (by decide) | exact sorted_ne hSo 7 3 rfl rfl (by decide) | exact sorted_ne hSo 7 4 rfl rfl (by decide) | exact sorted_ne hSo 7 5 rfl rfl (by decide) | exact sorted_ne hSo 7 6 rfl rfl (by decide) | exact sorted_ne hSo 7 8 rfl rfl (by decide) | exact sorted_ne hSo 7 9 rfl rfl (by decide) | exact sorted_ne hSo 7 10 rfl rfl (by decide) | exact sorted_ne hSo 7 11 rfl rfl (by decide) | exact sorted_ne hSo 8 0 rfl rfl (by decide) | exact sorted_ne hSo 8 1 rfl rfl (by decide) | exact sorted_ne hSo 8 2 rfl rfl (by decide) | exact sorted_ne hSo 8 3 rfl rfl (by decide) | exact sorted_ne hSo 8 4 rfl rfl (by decide) | exact sorted_ne hSo 8 5 rfl rfl (by decide) | exact sorted_ne hSo 8 6 rfl rfl (by decide) | exact sorted_ne hSo 8 7 rfl rfl (by decide) | exact sorted_ne hSo 8 9 rfl rfl (by decide) | exact sorted_ne hSo 8 10 rfl rfl (by decide) | exact sorted_ne hSo 8 11 rfl rfl (by decide) | exact sorted_ne hSo 9 0 rfl rfl (by decide) | exact sorted_ne hSo 9 1 rfl rfl (by decide) | exact sorted_ne hSo 9 2 rfl rfl (by decide) | exact sorted_ne hSo 9 3 rfl rfl (by decide) | exact sorted_ne hSo 9 4 rfl rfl (by decide) | exact sorted_ne hSo 9 5 rfl rfl (by decide) | exact sorted_ne hSo 9 6 rfl rfl (by decide) | exact sorted_ne hSo 9 7 rfl rfl (by decide) | exact sorted_ne hSo 9 8 rfl rfl (by decide) | exact sorted_ne hSo 9 10 rfl rfl (by decide) | exact sorted_ne hSo 9 11 rfl rfl (by decide) | exact sorted_ne hSo 10 0 rfl rfl (by decide) | exact sorted_ne hSo 10 1 rfl rfl (by decide) | exact sorted_ne hSo 10 2 rfl rfl (by decide) | exact sorted_ne hSo 10 3 rfl rfl (by decide) | exact sorted_ne hSo 10 4 rfl rfl (by decide) | exact sorted_ne hSo 10 5 rfl rfl (by decide) | exact sorted_ne hSo 10 6 rfl rfl (by decide) | exact sorted_ne hSo 10 7 rfl rfl (by decide) | exact sorted_ne hSo 10 8 rfl rfl (by decide) | exact sorted_ne hSo 10 9 rfl rfl (by decide) | exact sorted_ne hSo 10 11 rfl rfl (by decide) | exact sorted_ne hSo 11 0 rfl rfl (by decide) | exact sorted_ne hSo 11 1 rfl rfl (by decide) | exact sorted_ne hSo 11 2 rfl rfl (by decide) | exact sorted_ne hSo 11 3 rfl rfl (by decide) | exact sorted_ne hSo 11 4 rfl rfl (by decide) | exact sorted_ne hSo 11 5 rfl rfl (by decide) | exact sorted_ne hSo 11 6 rfl rfl (by decide) | exact sorted_ne hSo 11 7 rfl rfl (by decide) | exact sorted_ne hSo 11 8 rfl rfl (by decide) | exact sorted_ne hSo 11 9 rfl rfl (by decide) | exact sorted_ne hSo 11 10 rfl rfl (by decide))))
  have sg := stays_h F8 N8 hm1
  have ig := inL_h N8 _ hr1 hn1
  refine useM (knights_spec w mean mg mb _ x G1 nf nr S hSd hS hF (fun p hp => (N8 p (hm1 p hp)).1) (X.keeps sg) (T.keeps sg) ⟨ig _ _ (.head _), rfl, rfl, ig _ _ (.tail _ (.head _))⟩ hs hf
    (hVF.ints (ig _ _ (.tail _ (.tail _ (List.mem_append_right _ (.head _))))))) F8 N8 hm1 _ hr1 hn1 rfl (by decide) (by decide) ?_
  clear F8 N8 hm1 hr1 hn1 sg ig
  rintro v tl h' tk' F8 N8 - ⟨vn, nn, rfl, hVn⟩
  have N9 := news_sub (news := (x, instObj 53 G1.dx) :: (G1.dx, dictOf (G1.entries w.params nf nr) 14) :: (tlr ++ ledD G1 p0 p1 vF vR v0 v1 vn nF nR n0 n1 nn)) N8 (back3 (show ∀ p ∈ ledD G1 p0 p1 vF vR v0 v1 vn nF nR n0 n1 nn, _ by
    (repeat' (first | exact (fun _ h => absurd h List.not_mem_nil) | refine List.forall_mem_cons.mpr ⟨?_, ?_⟩ | exact .inl (by k_mem) | exact .inr (by k_mem)))))
  clear N8
  k_steps
  refine Stop.go ?_
  (rename Fr _ _ _ _ => F8)
  (rename News _ _ _ _ => N8)
  have hcE : (({ G1 with hc := .bool false } : GeoA).entries w.params nf nr) = G1.entries w.params nf nr := by unfold GeoA.entries; rw [hc]
  rw [← hcE] at N8
  have hm1 : ∀ p ∈ castMu w.params x G1 nf nr, p ∈ (x, instObj 53 G1.dx) :: (G1.dx, dictOf (({ G1 with hc := .bool false } : GeoA).entries w.params nf nr) 14) :: (tlr ++ ledD G1 p0 p1 vF vR v0 v1 vn nF nR n0 n1 nn) :=
    List.forall_mem_cons.mpr ⟨.head _, List.forall_mem_cons.mpr ⟨.tail _ (.head _), fun p hp => .tail _ (.tail _ (List.mem_append_right _ ((show ∀ p ∈ [(G1.castles, lobj [] 0)], p ∈ ledD G1 p0 p1 vF vR v0 v1 vn nF nR n0 n1 nn by lcg_sub) p hp)))⟩⟩
  have hr1 : ∀ p ∈ tlr ++ [(G1.pawn, lobj [.ref p0, .ref p1] 0), (p0, lobj v0 n0), (p1, lobj v1 n1), (G1.knight, lobj vn nn)], p ∈ (x, instObj 53 G1.dx) :: (G1.dx, dictOf (({ G1 with hc := .bool false } : GeoA).entries w.params nf nr) 14) :: (tlr ++ ledD G1 p0 p1 vF vR v0 v1 vn nF nR n0 n1 nn) := fun p hp =>
    .tail _ (.tail _ ((List.mem_append.mp hp).elim (fun q => List.mem_append_left _ q) fun q => List.mem_append_right _ ((show ∀ p ∈ [(G1.pawn, lobj [.ref p0, .ref p1] 0), (p0, lobj v0 n0), (p1, lobj v1 n1), (G1.knight, lobj vn nn)], p ∈ ledD G1 p0 p1 vF vR v0 v1 vn nF nR n0 n1 nn by lcg_sub) p q)))
  have hn1 : ∀ p ∈ tlr ++ [(G1.pawn, lobj [.ref p0, .ref p1] 0), (p0, lobj v0 n0), (p1, lobj v1 n1), (G1.knight, lobj vn nn)], ∀ q ∈ castMu w.params x G1 nf nr, p.1 ≠ q.1 := fun p hp =>
    (List.mem_append.mp hp).elim (fun q => by have hq := hT p q; (repeat' (first | exact (fun _ h => absurd h List.not_mem_nil) | refine List.forall_mem_cons.mpr ⟨?_, ?_⟩ | exact hq.1 | exact hq.2.1 | exact hq.2.2.1 | exact hq.2.2.2.1 | exact hq.2.2.2.2.1 | exact hq.2.2.2.2.2 | exact sorted_ne hSo 0 1 rfl rfl (by decide) | exact sorted_ne hSo 0 2 rfl rfl (by decide) | exact sorted_ne hSo 0 3 rfl rfl (by decide) | exact sorted_ne hSo 0 4 rfl rfl (by decide) | exact sorted_ne hSo 0 5 rfl rfl (by decide) | exact sorted_ne hSo 0 6 rfl rfl (by decide) | exact sorted_ne hSo 0 7 rfl rfl (by decide) | exact sorted_ne hSo 0 8 rfl rfl (by decide) | exact sorted_ne hSo 0 9 rfl rfl (by decide) | exact sorted_ne hSo 0 10 rfl rfl (by decide) | exact sorted_ne hSo 0 11 rfl rfl (by decide) | exact sorted_ne hSo 1 0 rfl rfl (by decide) | exact sorted_ne hSo 1 2 rfl rfl (by decide) | exact sorted_ne hSo 1 3 rfl rfl (by decide) | exact sorted_ne hSo 1 4 rfl rfl (by decide) | exact sorted_ne hSo 1 5 rfl rfl (by decide) | exact sorted_ne hSo 1 6 rfl rfl (by decide) | exact sorted_ne hSo 1 7 rfl rfl (by decide) | exact sorted_ne hSo 1 8 rfl rfl (by decide) | exact sorted_ne hSo 1 9 rfl rfl (by decide) | exact sorted_ne hSo 1 10 rfl rfl (by decide) | exact sorted_ne hSo 1 11 rfl rfl (by decide) | exact sorted_ne hSo 2 0 rfl rfl (by decide) | exact sorted_ne hSo 2 1 rfl rfl (by decide) | exact sorted_ne hSo 2 3 rfl rfl (by decide) | exact sorted_ne hSo 2 4 rfl rfl (by decide) | exact sorted_ne hSo 2 5 rfl rfl (by decide) | exact sorted_ne hSo 2 6 rfl rfl (by decide) | exact sorted_ne hSo 2 7 rfl rfl (by decide) | exact sorted_ne hSo 2 8 rfl rfl (by decide) | exact sorted_ne hSo 2 9 rfl rfl (by decide) | exact sorted_ne hSo 2 10 rfl rfl (by decide) | exact sorted_ne hSo 2 11 rfl rfl (by decide) | exact sorted_ne hSo 3 0 rfl rfl (by decide) | exact sorted_ne hSo 3 1 rfl rfl (by decide) | exact sorted_ne hSo 3 2 rfl rfl (by decide) | exact sorted_ne hSo 3 4 rfl rfl (by decide) | exact sorted_ne hSo 3 5 rfl rfl (by decide) | exact sorted_ne hSo 3 6 rfl rfl (by decide) | exact sorted_ne hSo 3 7 rfl rfl (by decide) | exact sorted_ne hSo 3 8 rfl rfl (by decide) | exact sorted_ne hSo 3 9 rfl rfl (by decide) | exact sorted_ne hSo 3 10 rfl rfl (by decide) | exact sorted_ne hSo 3 11 rfl rfl (by decide) | exact sorted_ne hSo 4 0 rfl rfl (by decide) | exact sorted_ne hSo 4 1 rfl rfl (by decide) | exact sorted_ne hSo 4 2 rfl rfl (by decide) | exact sorted_ne hSo 4 3 rfl rfl (by decide) | exact sorted_ne hSo 4 5 rfl rfl (by decide) | exact sorted_ne hSo 4 6 rfl rfl (by decide) | exact sorted_ne hSo 4 7 rfl rfl (by decide) | exact sorted_ne hSo 4 8 rfl rfl (by decide) | exact sorted_ne hSo 4 9 rfl rfl (by decide) | exact sorted_ne hSo 4 10 rfl rfl (by decide) | exact sorted_ne hSo 4 11 rfl rfl (by decide) | exact sorted_ne hSo 5 0 rfl rfl (by decide) | exact sorted_ne hSo 5 1 rfl rfl (by decide) | exact sorted_ne hSo 5 2 rfl rfl (by decide) | exact sorted_ne hSo 5 3 rfl rfl (by decide) | exact sorted_ne hSo 5 4 rfl rfl (by decide) | exact sorted_ne hSo 5 6 rfl rfl (by decide) | exact sorted_ne hSo 5 7 rfl rfl (by decide) | exact sorted_ne hSo 5 8 rfl rfl (by decide) | exact sorted_ne hSo 5 9 rfl rfl (by decide) | exact sorted_ne hSo 5 10 rfl rfl (by decide) | exact sorted_ne hSo 5 11 rfl rfl (by decide) | exact sorted_ne hSo 6 0 rfl rfl (by decide) | exact sorted_ne hSo 6 1 rfl rfl (by decide) | exact sorted_ne hSo 6 2 rfl rfl (by decide) | exact sorted_ne hSo 6 3 rfl rfl (by decide) | exact sorted_ne hSo 6 4 rfl rfl (by decide) | exact sorted_ne hSo 6 5 rfl rfl (by decide) | exact sorted_ne hSo 6 7 rfl rfl (by decide) | exact sorted_ne hSo 6 8 rfl rfl (by decide) | exact sorted_ne hSo 6 9 rfl rfl (by decide) | exact sorted_ne hSo 6 10 rfl rfl (by decide) | exact sorted_ne hSo 6 11 rfl rfl (by decide) | exact sorted_ne hSo 7 0 rfl rfl (by decide) | exact sorted_ne hSo 7 1 rfl rfl (by decide) | exact sorted_ne hSo 7 2 rfl rfl (by decide) | exact sorted_ne hSo 7 3 rfl rfl (by decide) | exact sorted_ne hSo 7 4 rfl rfl (by decide) | exact sorted_ne hSo 7 5 rfl rfl (by decide) | exact sorted_ne hSo 7 6 rfl rfl (by decide) | exact sorted_ne hSo 7 8 rfl rfl (by decide) | exact sorted_ne hSo 7 9 rfl rfl (by decide) | exact sorted_ne hSo 7 10 rfl rfl (by decide) | exact sorted_ne hSo 7 11 rfl rfl (by decide) | exact sorted_ne hSo 8 0 rfl rfl (by decide) | exact sorted_ne hSo 8 1 rfl rfl (by decide) | exact sorted_ne hSo 8 2 rfl rfl (by decide) | exact sorted_ne hSo 8 3 rfl rfl (by decide) | exact sorted_ne hSo 8 4 rfl rfl (by decide) | exact sorted_ne hSo 8 5 rfl rfl (by decide) | exact sorted_ne hSo 8 6 rfl rfl (by decide) | exact sorted_ne hSo 8 7 rfl rfl (by decide) | exact sorted_ne hSo 8 9 rfl rfl (by decide) | exact sorted_ne hSo 8 10 rfl rfl (by decide) | exact sorted_ne hSo 8 11 rfl rfl (by decide) | exact sorted_ne hSo 9 0 rfl rfl (by decide) | exact sorted_ne hSo 9 1 rfl rfl (by decide) | exact sorted_ne hSo 9 2 rfl rfl (by decide) | exact sorted_ne hSo 9 3 rfl rfl (by decide) | exact sorted_ne hSo 9 4 rfl rfl (by decide) | exact sorted_ne hSo 9 5 rfl rfl (by decide) | exact sorted_ne hSo 9 6 rfl rfl (by decide) | exact sorted_ne hSo 9 7 rfl rfl (by decide) | exact sorted_ne hSo 9 8 rfl rfl (by decide) | exact sorted_ne hSo 9 10 rfl rfl (by decide) | exact sorted_ne hSo 9 11 rfl rfl (by decide) | exact sorted_ne hSo 10 0 rfl rfl (by decide) | exact sorted_ne hSo 10 1 rfl rfl (by decide) | exact sorted_ne hSo 10 2 rfl rfl (by decide) | exact sorted_ne hSo 10 3 rfl rfl (by decide) | exact sorted_ne hSo 10 4 rfl rfl (by decide) | exact sorted_ne hSo 10 5 rfl rfl (by decide) | exact sorted_ne hSo 10 6 rfl rfl (by decide) | exact sorted_ne hSo 10 7 rfl rfl (by decide) | exact sorted_ne hSo 10 8 rfl rfl (by decide) | exact sorted_ne hSo 10 9 rfl rfl (by decide) | exact sorted_ne hSo 10 11 rfl rfl (by decide) | exact sorted_ne hSo 11 0 rfl rfl (by decide) | exact sorted_ne hSo 11 1 rfl rfl (by decide) | exact sorted_ne hSo 11 2 rfl rfl (by decide) | exact sorted_ne hSo 11 3 rfl rfl (by decide) | exact sorted_ne hSo 11 4 rfl rfl (by decide) | exact sorted_ne hSo 11 5 rfl rfl (by decide) | exact sorted_ne hSo 11 6 rfl rfl (by decide) | exact sorted_ne hSo 11 7 rfl rfl (by decide) | exact sorted_ne hSo 11 8 rfl rfl (by decide) | exact sorted_ne hSo 11 9 rfl rfl (by decide) | exact sorted_ne hSo 11 10 rfl rfl (by decide)))) fun q => (show ∀ p ∈ [(G1.pawn, lobj [.ref p0, .ref p1] 0), (p0, lobj v0 n0), (p1, lobj v1 n1), (G1.knight, lobj vn nn)], ∀ q ∈ castMu w.params x G1 nf nr, p.1 ≠ q.1 by (repeat' (first | exact (fun _ h => absurd h List.not_mem_nil) | refine List.forall_mem_cons.mpr ⟨?_, ?_⟩ | exact hq.1 | exact hq.2.1 | exact hq.2.2.1 | exact hq.2.2.2.1 | exact hq.2.2.2.2.1 | exact hq.2.2.2.2.2 | exact sorted_ne hSo 0 1 rfl rfl (by decide) | exact sorted_ne hSo 0 2 rfl rfl (by decide) | exact sorted_ne hSo 0 3 rfl rfl (by decide) | exact sorted_ne hSo 0 4 rfl rfl (by decide) | exact sorted_ne hSo 0 5 rfl rfl (by decide) | exact sorted_ne hSo 0 6 rfl rfl (by decide) | exact sorted_ne hSo 0 7 rfl rfl (by decide) | exact sorted_ne hSo 0 8 rfl rfl (by decide) | exact sorted_ne hSo 0 9 rfl rfl (by decide) | exact sorted_ne hSo 0 10 rfl rfl (by decide) | exact sorted_ne hSo 0 11 rfl rfl (by decide) | exact sorted_ne hSo 1 0 rfl rfl (by decide) | exact sorted_ne hSo 1 2 rfl rfl (by decide) | exact sorted_ne hSo 1 3 rfl rfl (by decide) | exact sorted_ne hSo 1 4 rfl rfl (by decide) | exact sorted_ne hSo 1 5 rfl rfl (by decide) | exact sorted_ne hSo 1 6 rfl rfl (by decide) | exact sorted_ne hSo 1 7 rfl rfl (by decide) | exact sorted_ne hSo 1 8 rfl rfl (by decide) | exact sorted_ne hSo 1 9 rfl rfl (by decide) | exact sorted_ne hSo 1 10 rfl rfl (by decide) | exact sorted_ne hSo 1 11 rfl rfl (by decide) | exact sorted_ne hSo 2 0 rfl rfl (by decide) | exact sorted_ne hSo 2 1 rfl rfl (by decide) | exact sorted_ne hSo 2 3 rfl rfl (by decide) | exact sorted_ne hSo 2 4 rfl rfl (by decide) | exact sorted_ne hSo 2 5 rfl rfl (by decide) | exact sorted_ne hSo 2 6 rfl rfl (by decide) | exact sorted_ne hSo 2 7 rfl rfl (by decide) | exact sorted_ne hSo 2 8 rfl rfl (by decide) | exact sorted_ne hSo 2 9 rfl rfl (by decide) | exact sorted_ne hSo 2 10 rfl rfl (by decide) | exact sorted_ne hSo 2 11 rfl rfl (by decide) | exact sorted_ne hSo 3 0 rfl rfl (by decide) | exact sorted_ne hSo 3 1 rfl rfl (by decide) | exact sorted_ne hSo 3 2 rfl rfl (by decide) | exact sorted_ne hSo 3 4 rfl rfl (by decide) | exact sorted_ne hSo 3 5 rfl rfl (by decide) | exact sorted_ne hSo 3 6 rfl rfl (by decide) | exact sorted_ne hSo 3 7 rfl rfl (by decide) | exact sorted_ne hSo 3 8 rfl rfl (by decide) | exact sorted_ne hSo 3 9 rfl rfl (by decide) | exact sorted_ne hSo 3 10 rfl rfl (by decide) | exact sorted_ne hSo 3 11 rfl rfl (by decide) | exact sorted_ne hSo 4 0 rfl rfl (by decide) | exact sorted_ne hSo 4 1 rfl rfl (by decide) | exact sorted_ne hSo 4 2 rfl rfl (by decide) | exact sorted_ne hSo 4 3 rfl rfl (by decide) | exact sorted_ne hSo 4 5 rfl rfl (by decide) | exact sorted_ne hSo 4 6 rfl rfl (by decide) | exact sorted_ne hSo 4 7 rfl rfl (by decide) | exact sorted_ne hSo 4 8 rfl rfl (by decide) | exact sorted_ne hSo 4 9 rfl rfl (by decide) | exact sorted_ne hSo 4 10 rfl rfl (by decide) | exact sorted_ne hSo 4 11 rfl rfl (by decide) | exact sorted_ne hSo 5 0 rfl rfl (by decide) | exact sorted_ne hSo 5 1 rfl rfl (by decide) | exact sorted_ne hSo 5 2 rfl rfl (by decide) | exact sorted_ne hSo 5 3 rfl rfl (by decide) | exact sorted_ne hSo 5 4 rfl rfl (by decide) | exact sorted_ne hSo 5 6 rfl rfl (by decide) | exact sorted_ne hSo 5 7 rfl rfl (by decide) | exact sorted_ne hSo 5 8 rfl rfl (by decide) | exact sorted_ne hSo 5 9 rfl rfl (by decide) | exact sorted_ne hSo 5 10 rfl rfl (by decide) | exact sorted_ne hSo 5 11 rfl rfl (by decide) | exact sorted_ne hSo 6 0 rfl rfl (by decide) | exact sorted_ne hSo 6 1 rfl rfl (by decide) | exact sorted_ne hSo 6 2 rfl rfl (by decide) | exact sorted_ne hSo 6 3 rfl rfl (by decide) | exact sorted_ne hSo 6 4 rfl rfl (by decide) | exact sorted_ne hSo 6 5 rfl rfl (by decide) | exact sorted_ne hSo 6 7 rfl rfl (by decide) | exact sorted_ne hSo 6 8 rfl rfl (by decide) | exact sorted_ne hSo 6 9 rfl rfl (by decide) | exact sorted_ne hSo 6 10 rfl rfl (by decide) | exact sorted_ne hSo 6 11 rfl rfl (by decide) | exact sorted_ne hSo 7 0 rfl rfl (by decide) | exact sorted_ne hSo 7 1 rfl rfl (by decide) | exact sorted_ne hSo 7 2 rfl rfl (by decide) | exact sorted_ne hSo 7 3 rfl rfl (by decide) | exact sorted_ne hSo 7 4 rfl rfl (by decide) | exact sorted_ne hSo 7 5 rfl rfl (by decide) | exact sorted_ne hSo 7 6 rfl rfl (by decide) | exact sorted_ne hSo 7 8 rfl rfl (by decide) | exact sorted_ne hSo 7 9 rfl rfl (by decide) | exact sorted_ne hSo 7 10 rfl rfl (by decide) | exact sorted_ne hSo 7 11 rfl rfl (by decide) | exact sorted_ne hSo 8 0 rfl rfl (by decide) | exact sorted_ne hSo 8 1 rfl rfl (by decide) | exact sorted_ne hSo 8 2 rfl rfl (by decide) | exact sorted_ne hSo 8 3 rfl rfl (by decide) | exact sorted_ne hSo 8 4 rfl rfl (by decide) | exact sorted_ne hSo 8 5 rfl rfl (by decide) | exact sorted_ne hSo 8 6 rfl rfl (by decide) | exact sorted_ne hSo 8 7 rfl rfl (by decide) | exact sorted_ne hSo 8 9 rfl rfl (by decide) | exact sorted_ne hSo 8 10 rfl rfl (by decide) | exact sorted_ne hSo 8 11 rfl rfl (by decide) | exact sorted_ne hSo 9 0 rfl rfl (by decide) | exact sorted_ne hSo 9 1 rfl rfl (by decide) | exact sorted_ne hSo 9 2 rfl rfl (by decide) | exact sorted_ne hSo 9 3 rfl rfl (by decide) | exact sorted_ne hSo 9 4 rfl rfl (by decide) | exact sorted_ne hSo 9 5 rfl rfl (by decide) | exact sorted_ne hSo 9 6 rfl rfl (by decide) | exact sorted_ne hSo 9 7 rfl rfl (by decide) | exact sorted_ne hSo 9 8 rfl rfl (by decide) | exact sorted_ne hSo 9 10 rfl rfl (by decide) | exact sorted_ne hSo 9 11 rfl rfl (by decide) | exact sorted_ne hSo 10 0 rfl rfl (by decide) | exact sorted_ne hSo 10 1 rfl rfl (by decide) | exact sorted_ne hSo 10 2 rfl rfl (by decide) | exact sorted_ne hSo 10 3 rfl rfl (by decide) | exact sorted_ne hSo 10 4 rfl rfl (by decide) | exact sorted_ne hSo 10 5 rfl rfl (by decide) | exact sorted_ne hSo 10 6 rfl rfl (by decide) | exact sorted_ne hSo 10 7 rfl rfl (by decide) | exact sorted_ne hSo 10 8 rfl rfl (by decide) | exact sorted_ne hSo 10 9 rfl rfl (by decide) | exact sorted_ne hSo 10 11 rfl rfl (by decide) | exact sorted_ne hSo 11 0 rfl rfl (by decide) | exact sorted_ne hSo 11 1 rfl rfl (by decide) | exact sorted_ne hSo 11 2 rfl rfl (by decide) | exact sorted_ne hSo 11 3 rfl rfl (by decide) | exact sorted_ne hSo 11 4 rfl rfl (by decide) | exact sorted_ne hSo 11 5 rfl rfl (by decide) | exact sorted_ne hSo 11 6 rfl rfl (by decide) | exact sorted_ne hSo 11 7 rfl rfl (by decide) | exact sorted_ne hSo 11 8 rfl rfl (by decide) | exact sorted_ne hSo 11 9 rfl rfl (by decide) | exact sorted_ne hSo 11 10 rfl rfl (by decide)))) p q
  have sg := stays_h F8 N8 hm1
  refine useM (castles_spec w mean mg mb _ x G1 nf nr S hF hR hSd (fun p hp => (N8 p (hm1 p hp)).1) (by (repeat' (first | exact (fun _ h => absurd h List.not_mem_nil) | refine List.forall_mem_cons.mpr ⟨?_, ?_⟩ | exact hq.1 | exact hq.2.1 | exact hq.2.2.1 | exact hq.2.2.2.1 | exact hq.2.2.2.2.1 | exact hq.2.2.2.2.2 | exact sorted_ne hSo 0 1 rfl rfl (by decide) | exact sorted_ne hSo 0 2 rfl rfl (by decide) | exact sorted_ne hSo 0 3 rfl rfl (by decide) | exact sorted_ne hSo 0 4 rfl rfl (by decide) | exact sorted_ne hSo 0 5 rfl rfl (by decide) | exact sorted_ne hSo 0 6 rfl rfl (by decide) | exact sorted_ne hSo 0 7 rfl rfl (by decide) | exact sorted_ne hSo 0 8 rfl rfl (by decide) | exact sorted_ne hSo 0 9 rfl rfl (by decide) | exact sorted_ne hSo 0 10 rfl rfl (by decide) | exact sorted_ne hSo 0 11 rfl rfl (by decide) | exact sorted_ne hSo 1 0 rfl rfl (by decide) | exact sorted_ne hSo 1 2 rfl rfl (by decide) | exact sorted_ne hSo 1 3 rfl rfl (by decide) | exact sorted_ne hSo 1 4 rfl rfl (by decide) | exact sorted_ne hSo 1 5 rfl rfl (by decide) | exact sorted_ne hSo 1 6 rfl rfl (by decide) | exact sorted_ne hSo 1 7 rfl rfl (by decide) | exact sorted_ne hSo 1 8 rfl rfl (by decide) | exact sorted_ne hSo 1 9 rfl rfl (by decide) | exact sorted_ne hSo 1 10 rfl rfl (by decide) | exact sorted_ne hSo 1 11 rfl rfl (by decide) | exact sorted_ne hSo 2 0 rfl rfl (by decide) | exact sorted_ne hSo 2 1 rfl rfl (by decide) | exact sorted_ne hSo 2 3 rfl rfl (by decide) | exact sorted_ne hSo 2 4 rfl rfl (by decide) | exact sorted_ne hSo 2 5 rfl rfl (by decide) | exact sorted_ne hSo 2 6 rfl rfl (by decide) | exact sorted_ne hSo 2 7 rfl rfl (by decide) | exact sorted_ne hSo 2 8 rfl rfl (by decide) | exact sorted_ne hSo 2 9 rfl rfl (by decide) | exact sorted_ne hSo 2 10 rfl rfl (by decide) | exact sorted_ne hSo 2 11 rfl rfl (by decide) | exact sorted_ne hSo 3 0 rfl rfl (by decide) | exact sorted_ne hSo 3 1 rfl rfl (by decide) | exact sorted_ne hSo 3 2 rfl rfl (by decide) | exact sorted_ne hSo 3 4 rfl rfl (by decide) | exact sorted_ne hSo 3 5 rfl rfl (by decide) | exact sorted_ne hSo 3 6 rfl rfl (by decide) | exact sorted_ne hSo 3 7 rfl rfl (by decide) | exact sorted_ne hSo 3 8 rfl rfl (by decide) | exact sorted_ne hSo 3 9 rfl rfl (by decide) | exact sorted_ne hSo 3 10 rfl rfl (by decide) | exact sorted_ne hSo 3 11 rfl rfl (by decide) | exact sorted_ne hSo 4 0 rfl rfl (by decide) | exact sorted_ne hSo 4 1 rfl rfl (by decide) | exact sorted_ne hSo 4 2 rfl rfl (by decide) | exact sorted_ne hSo 4 3 rfl rfl (by decide) | exact sorted_ne hSo 4 5 rfl rfl (by decide) | exact sorted_ne hSo 4 6 rfl rfl (by decide) | exact sorted_ne hSo 4 7 rfl rfl (by decide) | exact sorted_ne hSo 4 8 rfl rfl (by decide) | exact sorted_ne hSo 4 9 rfl rfl (by decide) | exact sorted_ne hSo 4 10 rfl rfl (by decide) | exact sorted_ne hSo 4 11 rfl rfl (by decide) | exact sorted_ne hSo 5 0 rfl rfl (by decide) | exact sorted_ne hSo 5 1 rfl rfl (by decide) | exact sorted_ne hSo 5 2 rfl rfl (by decide) | exact sorted_ne hSo 5 3 rfl rfl (by decide) | exact sorted_ne hSo 5 4 rfl rfl (by decide) | exact sorted_ne hSo 5 6 rfl rfl (by decide) | exact sorted_ne hSo 5 7 rfl rfl (by decide) | exact sorted_ne hSo 5 8 rfl rfl (by decide) | exact sorted_ne hSo 5 9 rfl rfl (by decide) | exact sorted_ne hSo 5 10 rfl rfl (by decide) | exact sorted_ne hSo 5 11 rfl rfl (by decide) | exact sorted_ne hSo 6 0 rfl rfl (by decide) | exact sorted_ne hSo 6 1 rfl rfl (by decide) | exact sorted_ne hSo 6 2 rfl rfl (by decide) | exact sorted_ne hSo 6 3 rfl rfl (by decide) | exact sorted_ne hSo 6 4 rfl rfl (by decide) | exact sorted_ne hSo 6 5 rfl rfl (by decide) | exact sorted_ne hSo 6 7 rfl rfl (by decide) | exact sorted_ne hSo 6 8 rfl rfl (by decide) | exact sorted_ne hSo 6 9 rfl rfl (by decide) | exact sorted_ne hSo 6 10 rfl rfl (by decide) | exact sorted_ne hSo 6 11 rfl rfl (by decide) | exact sorted_ne hSo 7 0 rfl rfl (by decide) | exact sorted_ne hSo 7 1 rfl rfl (by decide) | exact sorted_ne hSo 7 2 rfl rfl (by decide) | exact sorted_ne hSo 7 3 rfl rfl (by decide) | exact sorted_ne hSo 7 4 rfl rfl (by decide) | exact sorted_ne hSo 7 5 rfl rfl (by decide) | exact sorted_ne hSo 7 6 rfl rfl (by decide) | exact sorted_ne hSo 7 8 rfl rfl (by decide) | exact sorted_ne hSo 7 9 rfl rfl (by decide) | exact sorted_ne hSo 7 10 rfl rfl (by decide) | exact sorted_ne hSo 7 11 rfl rfl (by decide) | exact sorted_ne hSo 8 0 rfl rfl (by decide) | exact sorted_ne hSo 8 1 rfl rfl (by decide) | exact sorted_ne hSo 8 2 rfl rfl (by decide) | exact sorted_ne hSo 8 3 rfl rfl (by decide) | exact sorted_ne hSo 8 4 rfl rfl (by decide) | exact sorted_ne hSo 8 5 rfl rfl (by decide) | exact sorted_ne hSo 8 6 rfl rfl (by decide) | exact sorted_ne hSo 8 7 rfl rfl (by decide) | exact sorted_ne hSo 8 9 rfl rfl (by decide) | exact sorted_ne hSo 8 10 rfl rfl (by decide) | exact sorted_ne hSo 8 11 rfl rfl (by decide) | exact sorted_ne hSo 9 0 rfl rfl (by decide) | exact sorted_ne hSo 9 1 rfl rfl (by decide) | exact sorted_ne hSo 9 2 rfl rfl (by decide) | exact sorted_ne hSo 9 3 rfl rfl (by decide) | exact sorted_ne hSo 9 4 rfl rfl (by decide) | exact sorted_ne hSo 9 5 rfl rfl (by decide) | exact sorted_ne hSo 9 6 rfl rfl (by decide) | exact sorted_ne hSo 9 7 rfl rfl (by decide) | exact sorted_ne hSo 9 8 rfl rfl (by decide) | exact sorted_ne hSo 9 10 rfl rfl (by decide) | exact sorted_ne hSo 9 11 rfl rfl (by decide) | exact sorted_ne hSo 10 0 rfl rfl (by decide) | exact sorted_ne hSo 10 1 rfl rfl (by decide) | exact sorted_ne hSo 10 2 rfl rfl (by decide) | exact sorted_ne hSo 10 3 rfl rfl (by decide) | exact sorted_ne hSo 10 4 rfl rfl (by decide) | exact sorted_ne hSo 10 5 rfl rfl (by decide) | exact sorted_ne hSo 10 6 rfl rfl (by decide) | exact sorted_ne hSo 10 7 rfl rfl (by decide) | exact sorted_ne hSo 10 8 rfl rfl (by decide) | exact sorted_ne hSo 10 9 rfl rfl (by decide) | exact sorted_ne hSo 10 11 rfl rfl (by decide) | exact sorted_ne hSo 11 0 rfl rfl (by decide) | exact sorted_ne hSo 11 1 rfl rfl (by decide) | exact sorted_ne hSo 11 2 rfl rfl (by decide) | exact sorted_ne hSo 11 3 rfl rfl (by decide) | exact sorted_ne hSo 11 4 rfl rfl (by decide) | exact sorted_ne hSo 11 5 rfl rfl (by decide) | exact sorted_ne hSo 11 6 rfl rfl (by decide) | exact sorted_ne hSo 11 7 rfl rfl (by decide) | exact sorted_ne hSo 11 8 rfl rfl (by decide) | exact sorted_ne hSo 11 9 rfl rfl (by decide) | exact sorted_ne hSo 11 10 rfl rfl (by decide)))) (by (repeat' (first | exact (fun _ h => absurd h List.not_mem_nil) | refine List.forall_mem_cons.mpr ⟨?_, ?_⟩ | exact hq.1 | exact hq.2.1 | exact hq.2.2.1 | exact hq.2.2.2.1 | exact hq.2.2.2.2.1 | exact hq.2.2.2.2.2 | exact sorted_ne hSo 0 1 rfl rfl (by decide) | exact sorted_ne hSo 0 2 rfl rfl (by decide) | exact sorted_ne hSo 0 3 rfl rfl (by decide) | exact sorted_ne hSo 0 4 rfl rfl (by decide) | exact sorted_ne hSo 0 5 rfl rfl (by decide) | exact sorted_ne hSo 0 6 rfl rfl (by decide) | exact sorted_ne hSo 0 7 rfl rfl (by decide) | exact sorted_ne hSo 0 8 rfl rfl (by decide) | exact sorted_ne hSo 0 9 rfl rfl (by decide) | exact sorted_ne hSo 0 10 rfl rfl (by decide) | exact sorted_ne hSo 0 11 rfl rfl (by decide) | exact sorted_ne hSo 1 0 rfl rfl (by decide) | exact sorted_ne hSo 1 2 rfl rfl (by decide) | exact sorted_ne hSo 1 3 rfl rfl (by decide) | exact sorted_ne hSo 1 4 rfl rfl (by decide) | exact sorted_ne hSo 1 5 rfl rfl (by decide) | exact sorted_ne hSo 1 6 rfl rfl (by decide) | exact sorted_ne hSo 1 7 rfl rfl (by decide) | exact sorted_ne hSo 1 8 rfl rfl (by decide) | exact sorted_ne hSo 1 9 rfl rfl (by decide) | exact sorted_ne hSo 1 10 rfl rfl (by decide) | exact sorted_ne hSo 1 11 rfl rfl (by decide) | exact sorted_ne hSo 2 0 rfl rfl (by decide) | exact sorted_ne hSo 2 1 rfl rfl (by decide) | exact sorted_ne hSo 2 3 rfl rfl (by decide) | exact sorted_ne hSo 2 4 rfl rfl (by decide) | exact sorted_ne hSo 2 5 rfl rfl (by decide) | exact sorted_ne hSo 2 6 rfl rfl (by decide) | exact sorted_ne hSo 2 7 rfl rfl (by decide) | exact sorted_ne hSo 2 8 rfl rfl (by decide) | exact sorted_ne hSo 2 9 rfl rfl (by decide) | exact sorted_ne hSo 2 10 rfl rfl (by decide) | exact sorted_ne hSo 2 11 rfl rfl (by decide) | exact sorted_ne hSo 3 0 rfl rfl (by decide) | exact sorted_ne hSo 3 1 rfl rfl (by decide) | exact sorted_ne hSo 3 2 rfl rfl (by decide) | exact sorted_ne hSo 3 4 rfl rfl (by decide) | exact sorted_ne hSo 3 5 rfl rfl (by decide) | exact sorted_ne hSo 3 6 rfl rfl (by decide) | exact sorted_ne hSo 3 7 rfl rfl (by decide) | exact sorted_ne hSo 3 8 rfl rfl (by decide) | exact sorted_ne hSo 3 9 rfl rfl (by decide) | exact sorted_ne hSo 3 10 rfl rfl (by decide) | exact sorted_ne hSo 3 11 rfl rfl (by decide) | exact sorted_ne hSo 4 0 rfl rfl (by decide) | exact sorted_ne hSo 4 1 rfl rfl (by decide) | exact sorted_ne hSo 4 2 rfl rfl (by decide) | exact sorted_ne hSo 4 3 rfl rfl (by decide) | exact sorted_ne hSo 4 5 rfl rfl (by decide) | exact sorted_ne hSo 4 6 rfl rfl (by decide) | exact sorted_ne hSo 4 7 rfl rfl (by decide) | exact sorted_ne hSo 4 8 rfl rfl (by decide) | exact sorted_ne hSo 4 9 rfl rfl (by decide) | exact sorted_ne hSo 4 10 rfl rfl (by decide) | exact sorted_ne hSo 4 11 rfl rfl (by decide) | exact sorted_ne hSo 5 0 rfl rfl (by decide) | exact sorted_ne hSo 5 1 rfl rfl (by decide) | exact sorted_ne hSo 5 2 rfl rfl (by decide) | exact sorted_ne hSo 5 3 rfl rfl (by decide) | exact sorted_ne hSo 5 4 rfl rfl (by decide) | exact sorted_ne hSo 5 6 rfl rfl (by decide) | exact sorted_ne hSo 5 7 rfl rfl (by decide) | exact sorted_ne hSo 5 8 rfl rfl (by decide) | exact sorted_ne hSo 5 9 rfl rfl (by decide) | exact sorted_ne hSo 5 10 rfl rfl (by decide) | exact sorted_ne hSo 5 11 rfl rfl (by decide) | exact sorted_ne hSo 6 0 rfl rfl (by decide) | exact sorted_ne hSo 6 1 rfl rfl (by decide) | exact sorted_ne hSo 6 2 rfl rfl (by decide) | exact sorted_ne hSo 6 3 rfl rfl (by decide) | exact sorted_ne hSo 6 4 rfl rfl (by decide) | exact sorted_ne hSo 6 5 rfl rfl (by decide) | exact sorted_ne hSo 6 7 rfl rfl (by decide) | exact sorted_ne hSo 6 8 rfl rfl (by decide) | exact sorted_ne hSo 6 9 rfl rfl (by decide) | exact sorted_ne hSo 6 10 rfl rfl (by decide) | exact sorted_ne hSo 6 11 rfl rfl (by decide) | exact sorted_ne hSo 7 0 rfl rfl (by decide) | exact sorted_ne hSo 7 1 rfl rfl (by decide) | exact sorted_ne hSo 7 2 rfl rfl (by decide) | exact sorted_ne hSo 7 3 rfl rfl (by decide) | exact sorted_ne hSo 7 4 rfl rfl (by decide) | exact sorted_ne hSo 7 5 rfl rfl (by decide) | exact sorted_ne hSo 7 6 rfl rfl (by decide) | exact sorted_ne hSo 7 8 rfl rfl (by decide) | exact sorted_ne hSo 7 9 rfl rfl (by decide) | exact sorted_ne hSo 7 10 rfl rfl (by decide) | exact sorted_ne hSo 7 11 rfl rfl (by decide) | exact sorted_ne hSo 8 0 rfl rfl (by decide) | exact sorted_ne hSo 8 1 rfl rfl (by decide) | exact sorted_ne hSo 8 2 rfl rfl (by decide) | exact sorted_ne hSo 8 3 rfl rfl (by decide) | exact sorted_ne hSo 8 4 rfl rfl (by decide) | exact sorted_ne hSo 8 5 rfl rfl (by decide) | exact sorted_ne hSo 8 6 rfl rfl (by decide) | exact sorted_ne hSo 8 7 rfl rfl (by decide) | exact sorted_ne hSo 8 9 rfl rfl (by decide) | exact sorted_ne hSo 8 10 rfl rfl (by decide) | exact sorted_ne hSo 8 11 rfl rfl (by decide) | exact sorted_ne hSo 9 0 rfl rfl (by decide) | exact sorted_ne hSo 9 1 rfl rfl (by decide) | exact sorted_ne hSo 9 2 rfl rfl (by decide) | exact sorted_ne hSo 9 3 rfl rfl (by decide) | exact sorted_ne hSo 9 4 rfl rfl (by decide) | exact sorted_ne hSo 9 5 rfl rfl (by decide) | exact sorted_ne hSo 9 6 rfl rfl (by decide) | exact sorted_ne hSo 9 7 rfl rfl (by decide) | exact sorted_ne hSo 9 8 rfl rfl (by decide) | exact sorted_ne hSo 9 10 rfl rfl (by decide) | exact sorted_ne hSo 9 11 rfl rfl (by decide) | exact sorted_ne hSo 10 0 rfl rfl (by decide) | exact sorted_ne hSo 10 1 rfl rfl (by decide) | exact sorted_ne hSo 10 2 rfl rfl (by decide) | exact sorted_ne hSo 10 3 rfl rfl (by decide) | exact sorted_ne hSo 10 4 rfl rfl (by decide) | exact sorted_ne hSo 10 5 rfl rfl (by decide) | exact sorted_ne hSo 10 6 rfl rfl (by decide) | exact sorted_ne hSo 10 7 rfl rfl (by decide) | exact sorted_ne hSo 10 8 rfl rfl (by decide) | exact sorted_ne hSo 10 9 rfl rfl (by decide) | exact sorted_ne hSo 10 11 rfl rfl (by decide) | exact sorted_ne hSo 11 0 rfl rfl (by decide) | exact sorted_ne hSo 11 1 rfl rfl (by decide) | exact sorted_ne hSo 11 2 rfl rfl (by decide) | exact sorted_ne hSo 11 3 rfl rfl (by decide) | exact sorted_ne hSo 11 4 rfl rfl (by decide) | exact sorted_ne hSo 11 5 rfl rfl (by decide) | exact sorted_ne hSo 11 6 rfl rfl (by decide) | exact sorted_ne hSo 11 7 rfl rfl (by decide) | exact sorted_ne hSo 11 8 rfl rfl (by decide) | exact sorted_ne hSo 11 9 rfl rfl (by decide) | exact sorted_ne hSo 11 10 rfl rfl (by decide)))) (by (repeat' (first | exact (fun _ h => absurd h List.not_mem_nil) | refine List.forall_mem_cons.mpr ⟨?_, ?_⟩ | exact hq.1 | exact hq.2.1 | exact hq.2.2.1 | exact hq.2.2.2.1 | exact hq.2.2.2.2.1 | exact hq.2.2.2.2.2 | exact sorted_ne hSo 0 1 rfl rfl (by decide) | exact sorted_ne hSo 0 2 rfl rfl (by decide) | exact sorted_ne hSo 0 3 rfl rfl (by decide) | exact sorted_ne hSo 0 4 rfl rfl (by decide) | exact sorted_ne hSo 0 5 rfl rfl (by decide) | exact sorted_ne hSo 0 6 rfl rfl (by decide) | exact sorted_ne hSo 0 7 rfl rfl (by decide) | exact sorted_ne hSo 0 8 rfl rfl (by decide) | exact sorted_ne hSo 0 9 rfl rfl (by decide) | exact sorted_ne hSo 0 10 rfl rfl (by decide) | exact sorted_ne hSo 0 11 rfl rfl (by decide) | exact sorted_ne hSo 1 0 rfl rfl (by decide) | exact sorted_ne hSo 1 2 rfl rfl (by decide) | exact sorted_ne hSo 1 3 rfl rfl (by decide) | exact sorted_ne hSo 1 4 rfl rfl (by decide) | exact sorted_ne hSo 1 5 rfl rfl (by decide) | exact sorted_ne hSo 1 6 rfl rfl (by decide) | exact sorted_ne hSo 1 7 rfl rfl (by decide) | exact sorted_ne hSo 1 8 rfl rfl (by decide) | exact sorted_ne hSo 1 9 rfl rfl (by decide) | exact sorted_ne hSo 1 10 rfl rfl (by decide) | exact sorted_ne hSo 1 11 rfl rfl (by decide) | exact sorted_ne hSo 2 0 rfl rfl (by decide) | exact sorted_ne hSo 2 1 rfl rfl (by decide) | exact sorted_ne hSo 2 3 rfl rfl (by decide) | exact sorted_ne hSo 2 4 rfl rfl (by decide) | exact sorted_ne hSo 2 5 rfl rfl (by decide) | exact sorted_ne hSo 2 6 rfl rfl (by decide) | exact sorted_ne hSo 2 7 rfl rfl (by decide) | exact sorted_ne hSo 2 8 rfl rfl (by decide) | exact sorted_ne hSo 2 9 rfl rfl (by decide) | exact sorted_ne hSo 2 10 rfl rfl (by decide) | exact sorted_ne hSo 2 11 rfl rfl (by decide) | exact sorted_ne hSo 3 0 rfl rfl (by decide) | exact sorted_ne hSo 3 1 rfl rfl (by decide) | exact sorted_ne hSo 3 2 rfl rfl (by decide) | exact sorted_ne hSo 3 4 rfl rfl (by decide) | exact sorted_ne hSo 3 5 rfl rfl (by decide) | exact sorted_ne hSo 3 6 rfl rfl (by decide) | exact sorted_ne hSo 3 7 rfl rfl (by decide) | exact sorted_ne hSo 3 8 rfl rfl (by decide) | exact sorted_ne hSo 3 9 rfl rfl (by decide) | exact sorted_ne hSo 3 10 rfl rfl (by decide) | exact sorted_ne hSo 3 11 rfl rfl (by decide) | exact sorted_ne hSo 4 0 rfl rfl (by decide) | exact sorted_ne hSo 4 1 rfl rfl (by decide) | exact sorted_ne hSo 4 2 rfl rfl (by decide) | exact sorted_ne hSo 4 3 rfl rfl (by decide) | exact sorted_ne hSo 4 5 rfl rfl (by decide) | exact sorted_ne hSo 4 6 rfl rfl (by decide) | exact sorted_ne hSo 4 7 rfl rfl (by decide) | exact sorted_ne hSo 4 8 rfl rfl (by decide) | exact sorted_ne hSo 4 9 rfl rfl (by decide) | exact sorted_ne hSo 4 10 rfl rfl (by decide) | exact sorted_ne hSo 4 11 rfl rfl (by decide) | exact sorted_ne hSo 5 0 rfl rfl (by decide) | exact sorted_ne hSo 5 1 rfl rfl (by decide) | exact sorted_ne hSo 5 2 rfl rfl (by decide) | exact sorted_ne hSo 5 3 rfl rfl (by decide) | exact sorted_ne hSo 5 4 rfl rfl (by decide) | exact sorted_ne hSo 5 6 rfl rfl (by decide) | exact sorted_ne hSo 5 7 rfl rfl (by decide) | exact sorted_ne hSo 5 8 rfl rfl (by decide) | exact sorted_ne hSo 5 9 rfl rfl (by decide) | exact sorted_ne hSo 5 10 rfl rfl (by decide) | exact sorted_ne hSo 5 11 rfl rfl (by decide) | exact sorted_ne hSo 6 0 rfl rfl (by decide) | exact sorted_ne hSo 6 1 rfl rfl (by decide) | exact sorted_ne hSo 6 2 rfl rfl (by decide) | exact sorted_ne hSo 6 3 rfl rfl (by decide) | exact sorted_ne hSo 6 4 rfl rfl (by decide) | exact sorted_ne hSo 6 5 rfl rfl (by decide) | exact sorted_ne hSo 6 7 rfl rfl (by decide) | exact sorted_ne hSo 6 8 rfl rfl (by decide) | exact sorted_ne hSo 6 9 rfl rfl (by decide) | exact sorted_ne hSo 6 10 rfl rfl (by decide) | exact sorted_ne hSo 6 11 rfl rfl (by decide) | exact sorted_ne hSo 7 0 rfl rfl (by decide) | exact sorted_ne hSo 7 1 rfl rfl (by decide) | exact sorted_ne hSo 7 2 rfl rfl (by decide) | exact sorted_ne hSo 7 3 rfl rfl (by decide) | exact sorted_ne hSo 7 4 rfl rfl (by decide) | exact sorted_ne hSo 7 5 rfl rfl (by decide) | exact sorted_ne hSo 7 6 rfl rfl (by decide) | exact sorted_ne hSo 7 8 rfl rfl (by decide) | exact sorted_ne hSo 7 9 rfl rfl (by decide) | exact sorted_ne hSo 7 10 rfl rfl (by decide) | exact sorted_ne hSo 7 11 rfl rfl (by decide) | exact sorted_ne hSo 8 0 rfl rfl (by decide) | exact sorted_ne hSo 8 1 rfl rfl (by decide) | exact sorted_ne hSo 8 2 rfl rfl (by decide) | exact sorted_ne hSo 8 3 rfl rfl (by decide) | exact sorted_ne hSo 8 4 rfl rfl (by decide) | exact sorted_ne hSo 8 5 rfl rfl (by decide) | exact sorted_ne hSo 8 6 rfl rfl (by decide) | exact sorted_ne hSo 8 7 rfl rfl (by decide) | exact sorted_ne hSo 8 9 rfl rfl (by decide) | exact sorted_ne hSo 8 10 rfl rfl (by decide) | exact sorted_ne hSo 8 11 rfl rfl (by decide) | exact sorted_ne hSo 9 0 rfl rfl (by decide) | exact sorted_ne hSo 9 1 rfl rfl (by decide) | exact sorted_ne hSo 9 2 rfl rfl (by decide) | exact sorted_ne hSo 9 3 rfl rfl (by decide) | exact sorted_ne hSo 9 4 rfl rfl (by decide) | exact sorted_ne hSo 9 5 rfl rfl (by decide) | exact sorted_ne hSo 9 6 rfl rfl (by decide) | exact sorted_ne hSo 9 7 rfl rfl (by decide) | exact sorted_ne hSo 9 8 rfl rfl (by decide) | exact sorted_ne hSo 9 10 rfl rfl (by decide) | exact sorted_ne hSo 9 11 rfl rfl (by decide) | exact sorted_ne hSo 10 0 rfl rfl (by decide) | exact sorted_ne hSo 10 1 rfl rfl (by decide) | exact sorted_ne hSo 10 2 rfl rfl (by decide) | exact sorted_ne hSo 10 3 rfl rfl (by decide) | exact sorted_ne hSo 10 4 rfl rfl (by decide) | exact sorted_ne hSo 10 5 rfl rfl (by decide) | exact sorted_ne hSo 10 6 rfl rfl (by decide) | exact sorted_ne hSo 10 7 rfl rfl (by decide) | exact sorted_ne hSo 10 8 rfl rfl (by decide) | exact sorted_ne hSo 10 9 rfl rfl (by decide) | exact sorted_ne hSo 10 11 rfl rfl (by decide) | exact sorted_ne hSo 11 0 rfl rfl (by decide) | exact sorted_ne hSo 11 1 rfl rfl (by decide) | exact sorted_ne hSo 11 2 rfl rfl (by decide) | exact sorted_ne hSo 11 3 rfl rfl (by decide) | exact sorted_ne hSo 11 4 rfl rfl (by decide) | exact sorted_ne hSo 11 5 rfl rfl (by decide) | exact sorted_ne hSo 11 6 rfl rfl (by decide) | exact sorted_ne hSo 11 7 rfl rfl (by decide) | exact sorted_ne hSo 11 8 rfl rfl (by decide) | exact sorted_ne hSo 11 9 rfl rfl (by decide) | exact sorted_ne hSo 11 10 rfl rfl (by decide)))) (X.keeps sg) (T.keeps sg) hs) F8 N8 hm1 _ hr1 hn1 rfl (by decide) (by decide) ?_
  clear F8 N8 hm1 hr1 hn1 sg
  rintro v tl h' tk' F8 N8 - ⟨r2, c1, c2⟩
  k_steps
  (rename Fr _ _ _ _ => F9)
  (rename News _ _ _ _ => N9)
  refine ret_ F9 N9 (fun st fr => hret _ _ _ _ st fr ⟨x, { G1 with rights := r2, hc := .bool false }, rfl, ⟨List.mem_append_left _ c1, List.mem_append_left _ c2, ?_, ?_, ?_, ?_⟩⟩)
  · refine ⟨vr, n, List.mem_append_right _ (List.mem_append_left _ m2), hvl, fun d hd => let ⟨b, e, hb⟩ := hV d (by omega); ⟨b, e, IntsF.mono (fun a o q => List.mem_append_right _ (List.mem_append_left _ (m3 _ q))) hb⟩⟩
  · rw [← hS]; exact hK.ints (List.mem_append_right _ (List.mem_append_left _ m1))
  · rw [← hS]; exact hVn.ints (List.mem_append_right _ (List.mem_append_right _ (.tail _ (.tail _ (.tail _ (.head _))))))
  · rw [← hS]
    refine ⟨[.ref p0, .ref p1], 0, List.mem_append_right _ (List.mem_append_right _ (.head _)), rfl, fun i hi => ?_⟩
    rcases (by omega : i = 0 ∨ i = 1) with rfl | rfl
    · exact ⟨p0, rfl, hV0.ints (List.mem_append_right _ (List.mem_append_right _ (.tail _ (.head _))))⟩
    · exact ⟨p1, rfl, hV1.ints (List.mem_append_right _ (List.mem_append_right _ (.tail _ (.tail _ (.head _)))))⟩
end

end PartMake

end Linesgeob7

section Linesrows8
local macro_rules | `(tactic| walk_at "call builtin:len") => `(tactic| (k_here; (with_reducible show wpAny _ _ (call (Value.builtin "len") [Value.ref _]) _ _ _); k_dflt (first
  | (refine' len_bools ?H (fun a o e => Fr.keep ?F a o e) ?hS ?_; (case H => assumption); (case F => k_asm); (case hS => omega); k_whole)
  | (refine' len_refs ?H (fun a o e => Fr.keep ?F a o e) ?hS ?_; (case H => assumption); (case F => k_asm); (case hS => omega); k_whole))))

section PartMen
local macro_rules | `(tactic| walk_at "call ref") => `(tactic| (k_here; (with_reducible show wpAny _ _ (call (Value.ref 206) _) _ _ _); k_dflt (refine' use0 (board_spec _ _ _ _ _ ?X ?T _ _ _ _ ?wC ?a ?b) ?F ?N ?hh ?hd ?hu ?_; (case X => k_in); (case T => exact Top.keeps (by k_asm) (Fr.keep (by k_asm))); (case wC => first | exact cells_at (by k_asm) (by lcg_sub) (by assumption) | (refine' cells_at ?n1 ?n2 ?n3; (case n3 => assumption); (case n1 => k_asm); (case n2 => lcg_sub)) | exact CellsP.mono (fun a o e => Fr.keep (by k_asm) a o e) (by assumption)); (case a => first | omega | assumption); (case b => first | omega | assumption); (case F => k_asm); (case N => k_asm); (case hh => rfl); (case hd => first | decide | exact Nat.le_of_ble_eq_true rfl); (case hu => first | decide | exact Nat.le_of_ble_eq_true rfl); k_whole; intro v' tl' h' tk' F' N' hp'; obtain ⟨t', hp'⟩ := hp'; subst hp')))
theorem rowsMen23 : True := by
  k_with_none
  k_with "ble" => (first | decide | exact Nat.le_of_ble_eq_true rfl)
  k_with "exec For Name Call cons nil" => ((refine stop_ ?_))
  k_with "exec For Tuple Name cons nil" => ((refine stop_ ?_))
  k_with "exec For Tuple" => ((refine stop_ ?_))
  k_with "exec While BoolOp cons nil" => ((refine stop_ ?_))
  k_with "WhTest" => (first | refine wh_true ?_ | refine wh_false ?_)
  k_with "pyIter ref" => (((with_reducible show wpAny _ _ (pyIter (Value.ref _)) (fun it s₂ => LoopC _ _ _ _ _ _ _ it s₂) _ _); refine stop_ ?_))
  k_with "k_mem" => (assumption)
  k_with "lcg_sub" => ((intro p9 hp9; k_mem))
  k_with "k_all" => (assumption)
  k_with "size_fits" => ((rw [List.size_toArray, PySem.sizeLine_eq]; omega))
  k_with "k_ne" => ((refine neN ?_; (try dsimp only); first | assumption | exact Ne.symm (by assumption) | omega))
  k_with "refs" => (assumption)
  k_with "bools" => (assumption)
  k_with "up" => (exact fun a o e => Fr.keep (by k_asm) a o e)
  k_with "up" => (exact inl_up (by k_asm) (by lcg_sub))
  trivial
section
variable (w : World) (mean : ExcName → Option Value) (mg mb : Str → Option Value) (s : Shared) (X : (heapK w.params).In s.heap) (T : TopL mean mg mb s.heap)
include X T
set_option maxHeartbeats 4000000 in
theorem men_spec (a : Addr) (nr nf : Nat) (f : Nat → Nat → Bool) (H : RowsF (Hv s.heap) a nr nf f) (hF : 1 ≤ nf ∧ nf ≤ 8) (hR : 1 ≤ nr ∧ nr ≤ 8) :
    Calls w 7 213 [.ref a] s (fun v _ => ∃ t, v = .int (boardOf nf (menPre nf f nr)) t) := by
  intro A Q E hh hdp hu hret
  refine' call_def (binds := [(Str.ofString "men", .ref a)]) X T hh hdp hu ?ho ?hcd (by decide) ?hbind ?hloc ?h ?c1 ?c2 ?c3 ?c4
  case ho => with_unfolding_all k_is
  case hcd => with_unfolding_all k_is
  case hbind => exact BindsTo.of_eq rfl
  case hloc => exact locs rfl
  case c1 => rfl
  case c2 => rfl
  case c3 => rfl
  case c4 => decide
  intro h₁ tk₁ F N
  try dsimp only
  k_fold
  k_steps
  refine Stop.go (for_go ?_ (fun _ => rfl))
  k_steps
  rename_i cl _ _ _ _ _ _ _ _ _ _ R9 F9 N9 _
  refine Stop.go (loop_up rfl R9 (small_of (by omega) (by omega) (.inl rfl)) F9 N9
    (fun i m news => m (Str.ofString "cells") = some (.ref cl) ∧ m (Str.ofString "men") = some (.ref a) ∧ ∃ vs n tl, news = (cl, lobj vs n) :: tl ∧ CellsV tl vs (menPre nf f i) ∧ vs.length ≤ 8 * i ∧ ∀ p ∈ tl, p.1 ≠ cl)
    ⟨rfl, rfl, [], 0, [], rfl, CellsV.nil, by simp, fun p hp => nomatch hp⟩ rfl rfl ?_ ?_)
  · rintro i t h tk m₁ _ I oI hi ⟨hc, hm, vs, n, tl, rfl, hV, hvl, hoff⟩ F₁ N₁ hn₁
    clear R9 F9 N9
    have hcI : @Ne Nat cl I := hn₁ _ (.head _)
    k_steps
    refine Stop.go (for_go ?_ (fun _ => rfl))
    k_steps
    (rename IsRange _ _ _ _ _ _ _ _ => R9)
    (rename Fr _ _ _ _ => F9)
    (rename News _ _ _ _ => N9)
    refine Stop.go (loop_up rfl R9 (small_of (by omega) (by omega) (.inl rfl)) F9 N9
      (fun j m news => m (Str.ofString "cells") = some (.ref cl) ∧ m (Str.ofString "men") = some (.ref a) ∧ m (Str.ofString "y") = some (.int i t) ∧
        ∃ vs n tl, news = (I, oI) :: (cl, lobj vs n) :: tl ∧ CellsV tl vs (menPre nf f i ++ rowPre f i j) ∧ vs.length ≤ 8 * i + j ∧ (∀ p ∈ tl, p.1 ≠ cl) ∧ ∀ p ∈ tl, p.1 ≠ I)
      ⟨hc, hm, rfl, vs, n, tl, rfl, by simpa [rowPre] using hV, by omega, hoff, fun p hp => hn₁ p (.tail _ hp)⟩ rfl rfl ?_ ?_)
    · clear R9 F9 N9 hV hvl hoff
      rintro j t' h tk m₁ _ I' oI' hj ⟨hc, hm, hy, vs, n, tl, rfl, hV, hvl, hoff, hoI⟩ F₁ N₁ hn₁
      have hcI' : @Ne Nat cl I' := hn₁ _ (.tail _ (.head _))
      k_steps
      · rename_i hft D9 _ l9 _ F9 N9
        have hft' : f i j = true := by simpa using hft
        rw [List.push_toArray] at N9
        show LpEnd _ _ _ _ _ _ _
        refine lp_end ((I, oI) :: (cl, lobj (vs ++ [.ref D9]) (n + 1)) :: (D9, tupObj [.int (i : Int) t, .int (j : Int) t'] 0) :: tl) F9 N9 (by k_mem) (by lcg_sub) ?_ ⟨hc, hm, hy, _, _, _, rfl, ?_, ?_, ?_, ?_⟩
        · have h1 := hn₁ _ (.head _)
          have h2 := l9.1
          refine List.forall_mem_cons.mpr ⟨h1, List.forall_mem_cons.mpr ⟨hcI', List.forall_mem_cons.mpr ⟨?_, fun p hp => hn₁ p (.tail _ (.tail _ hp))⟩⟩⟩
          exact Nat.ne_of_gt h2
        · rw [rowPre_succ_t hft', ← List.append_assoc]
          exact (hV.mono fun p hp => .tail _ hp).snoc ⟨t, t', 0, .head _⟩
        · simp only [List.length_append, List.length_singleton]; omega
        · exact List.forall_mem_cons.mpr ⟨Nat.ne_of_gt l9.2.2.1, hoff⟩
        · exact List.forall_mem_cons.mpr ⟨Nat.ne_of_gt l9.2.1, hoI⟩
      · rename_i hff
        have hff' : f i j = false := by simpa using hff
        (rename Fr _ _ _ _ => F9)
        (rename News _ _ _ _ => N9)
        show LpEnd _ _ _ _ _ _ _
        refine lp_end _ F9 N9 (by k_mem) (fun p hp => .tail _ hp) hn₁ ⟨hc, hm, hy, _, _, _, rfl, ?_, ?_, hoff, hoI⟩
        · rw [rowPre_succ_f hff']; exact hV
        · omega
    · clear R9 F9 N9 hV hvl hoff
      rintro h tk m₁ _ ⟨hc, hm, hy, vs, n, tl, rfl, hV, hvl, hoff, hoI⟩ F₁ N₁
      k_steps
      (rename Fr _ _ _ _ => F9)
      (rename News _ _ _ _ => N9)
      show LpEnd _ _ _ _ _ _ _
      refine lp_end ((cl, lobj vs n) :: tl) F9 N9 (by k_mem) (fun p hp => .tail _ hp) ?_ ⟨hc, hm, _, _, _, rfl, ?_, ?_, hoff⟩
      · exact List.forall_mem_cons.mpr ⟨hcI, hoI⟩
      · rw [menPre_succ]; exact hV
      · omega
  · clear R9 F9 N9
    rintro h tk m₁ _ ⟨hc, hm, vs, n, tl, rfl, hV, hvl, hoff⟩ F₁ N₁
    have hP : CellsP (InL ((cl, lobj vs n) :: tl)) cl (menPre nf f nr) := hV.cells (.head _) fun a o e => .tail _ e
    have hcs : ∀ c ∈ menPre nf f nr, 0 ≤ c.1 ∧ c.1 < 8 ∧ 0 ≤ c.2 ∧ c.2 < 8 := fun c hc => by
      obtain ⟨y, hy, x, hx, _, rfl⟩ := menPre_mem.mp hc
      dsimp only
      omega
    k_steps
    exact ret_ (by k_asm) (by k_asm) (fun st fr => hret _ _ _ _ st fr ⟨_, rfl⟩)
end

end PartMen

section PartMet
theorem rowsMet24 : True := by
  k_with_none
  k_with "ble" => (first | decide | exact Nat.le_of_ble_eq_true rfl)
  k_with "exec For Name Call cons nil" => ((refine stop_ ?_))
  k_with "exec For Tuple Name cons nil" => ((refine stop_ ?_))
  k_with "exec For Tuple" => ((refine stop_ ?_))
  k_with "exec While BoolOp cons nil" => ((refine stop_ ?_))
  k_with "WhTest" => (first | refine wh_true ?_ | refine wh_false ?_)
  k_with "pyIter ref" => (((with_reducible show wpAny _ _ (pyIter (Value.ref _)) (fun it s₂ => LoopC _ _ _ _ _ _ _ it s₂) _ _); refine stop_ ?_))
  k_with "k_mem" => (assumption)
  k_with "lcg_sub" => ((intro p9 hp9; k_mem))
  k_with "k_all" => (assumption)
  k_with "size_fits" => ((rw [List.size_toArray, PySem.sizeLine_eq]; omega))
  k_with "k_ne" => ((refine neN ?_; (try dsimp only); first | assumption | exact Ne.symm (by assumption) | omega))
  k_with "refs" => (assumption)
  k_with "bools" => (assumption)
  k_with "up" => (exact fun a o e => Fr.keep (by k_asm) a o e)
  k_with "up" => (exact inl_up (by k_asm) (by lcg_sub))
  trivial
def walk (f : Nat → Nat → Bool) (nr nf : Nat) (dx dy : Int) : Nat → Int → Int → List (Int × Int)
  | 0, _, _ => []
  | l + 1, x, y => if 0 ≤ y ∧ y < (nr : Int) ∧ 0 ≤ x ∧ x < (nf : Int) then (y, x) :: (if f y.toNat x.toNat then [] else walk f nr nf dx dy l (x + dx) (y + dy)) else []
def metOf (f : Nat → Nat → Bool) (nr nf : Nat) (sq : Int) (reach : Nat) (ws : List (Int × Int)) : List (Int × Int) :=
  ws.flatMap fun c => walk f nr nf c.1 c.2 reach (sq.fmod nf + c.1) (sq.fdiv nf + c.2)
theorem walk_nil {f : Nat → Nat → Bool} {nr nf : Nat} {dx dy : Int} {l : Nat} {x y : Int} (h : ¬ (0 < (l : Int) ∧ 0 ≤ y ∧ y < (nr : Int) ∧ 0 ≤ x ∧ x < (nf : Int))) : walk f nr nf dx dy l x y = [] := by
  cases l with
  | zero => rfl
  | succ l => unfold walk; exact if_neg fun q => h ⟨by omega, q⟩
theorem walk_stop {f : Nat → Nat → Bool} {nr nf : Nat} {dx dy : Int} {l : Nat} {x y : Int} (h : 0 < (l : Int) ∧ 0 ≤ y ∧ y < (nr : Int) ∧ 0 ≤ x ∧ x < (nf : Int)) (hf : f y.toNat x.toNat = true) : walk f nr nf dx dy l x y = [(y, x)] := by
  cases l with
  | zero => omega
  | succ l => unfold walk; rw [if_pos h.2, if_pos hf]
theorem walk_on {f : Nat → Nat → Bool} {nr nf : Nat} {dx dy : Int} {l : Nat} {x y : Int} (h : 0 < (l : Int) ∧ 0 ≤ y ∧ y < (nr : Int) ∧ 0 ≤ x ∧ x < (nf : Int)) (hf : f y.toNat x.toNat = false) :
    walk f nr nf dx dy l x y = (y, x) :: walk f nr nf dx dy (l - 1) (x + dx) (y + dy) := by
  cases l with
  | zero => omega
  | succ l => rw [walk, if_pos h.2, hf]; rfl
theorem walk_in {f : Nat → Nat → Bool} {nr nf : Nat} {dx dy : Int} {c : Int × Int} : ∀ {l : Nat} {x y : Int}, c ∈ walk f nr nf dx dy l x y → 0 ≤ c.1 ∧ c.1 < (nr : Int) ∧ 0 ≤ c.2 ∧ c.2 < (nf : Int)
  | 0, _, _, h => nomatch h
  | l + 1, x, y, h => by
    unfold walk at h
    split at h
    · rename_i q
      rcases List.mem_cons.mp h with rfl | h
      · exact ⟨q.1, q.2.1, q.2.2.1, q.2.2.2⟩
      · split at h
        · cases h
        · exact walk_in h
    · cases h
theorem metOf_in {f : Nat → Nat → Bool} {nr nf : Nat} {sq : Int} {reach : Nat} {ws : List (Int × Int)} {c : Int × Int} (h : c ∈ metOf f nr nf sq reach ws) : 0 ≤ c.1 ∧ c.1 < (nr : Int) ∧ 0 ≤ c.2 ∧ c.2 < (nf : Int) := by
  obtain ⟨d, _, hd⟩ := List.mem_flatMap.mp h
  exact walk_in hd
theorem walk_len {f : Nat → Nat → Bool} {nr nf : Nat} {dx dy : Int} : ∀ {l : Nat} {x y : Int}, (walk f nr nf dx dy l x y).length ≤ l
  | 0, _, _ => Nat.le_refl _
  | l + 1, x, y => by
    unfold walk
    split
    · rw [List.length_cons]
      split
      · simp
      · exact Nat.succ_le_succ walk_len
    · simp
theorem metOf_len {f : Nat → Nat → Bool} {nr nf : Nat} {sq : Int} {reach : Nat} : ∀ {ws : List (Int × Int)}, (metOf f nr nf sq reach ws).length ≤ reach * ws.length
  | [] => by simp [metOf]
  | c :: r => by
    have h1 := metOf_len (f := f) (nr := nr) (nf := nf) (sq := sq) (reach := reach) (ws := r)
    have h2 : (walk f nr nf c.1 c.2 reach (sq.fmod nf + c.1) (sq.fdiv nf + c.2)).length ≤ reach := walk_len
    unfold metOf at h1 ⊢
    rw [List.flatMap_cons, List.length_append, List.length_cons, Nat.mul_add, Nat.mul_one]
    omega
theorem metOf_succ {f : Nat → Nat → Bool} {nr nf : Nat} {sq : Int} {reach i : Nat} {ws : List (Int × Int)} {c : Int × Int} (h : ws[i]? = some c) :
    metOf f nr nf sq reach (ws.take (i + 1)) = metOf f nr nf sq reach (ws.take i) ++ walk f nr nf c.1 c.2 reach (sq.fmod nf + c.1) (sq.fdiv nf + c.2) := by
  rw [List.take_add_one, h]; simp [metOf]
section
variable (w : World) (mean : ExcName → Option Value) (mg mb : Str → Option Value) (s : Shared) (X : (heapK w.params).In s.heap) (T : TopL mean mg mb s.heap)
include X T
set_option maxHeartbeats 8000000 in
theorem met_spec (a ways : Addr) (nr nf : Nat) (f : Nat → Nat → Bool) (sq : Int) (ts : Tok) (ws : List (Int × Int)) (reach : Nat) (tr : Tok) (H : RowsF (Hv s.heap) a nr nf f) (hF : 1 ≤ nf ∧ nf ≤ 8) (hR : 1 ≤ nr ∧ nr ≤ 8)
    (W : CellsP (Hv s.heap) ways ws) (hw : ws.length ≤ 8) (hr : reach ≤ 8) (h0 : 0 ≤ sq) (h64 : sq < 64) :
    Calls w 8 220 [.ref a, .int sq ts, .ref ways, .int reach tr] s (fun v tl => ∃ b, v = .ref b ∧ CellsP (InL tl) b (metOf f nr nf sq reach ws)) := by
  intro A Q E hh hdp hu hret
  refine' call_def (binds := [(Str.ofString "men", .ref a), (Str.ofString "square", .int sq ts), (Str.ofString "ways", .ref ways), (Str.ofString "reach", .int reach tr)]) X T hh hdp hu ?ho ?hcd (by decide) ?hbind ?hloc ?h ?c1 ?c2 ?c3 ?c4
  case ho => with_unfolding_all k_is
  case hcd => with_unfolding_all k_is
  case hbind => exact BindsTo.of_eq rfl
  case hloc => exact locs rfl
  case c1 => rfl
  case c2 => rfl
  case c3 => rfl
  case c4 => decide
  intro h₁ tk₁ F N
  try dsimp only
  k_fold
  k_steps
  rename_i cl _ _ _ F9 N9
  refine Stop.go (for_go ?_ (fun _ => rfl))
  k_steps
  refine Stop.go (loop_cells [] rfl (CellsP.mono (fun a o e => .inl e) W) F9 N9
    (fun i m news => m (Str.ofString "met") = some (.ref cl) ∧ m (Str.ofString "men") = some (.ref a) ∧ (∃ t, m (Str.ofString "files") = some (.int nf t)) ∧ m (Str.ofString "square") = some (.int sq ts) ∧ m (Str.ofString "reach") = some (.int reach tr) ∧
      ∃ vs n tl, news = (cl, lobj vs n) :: tl ∧ CellsV tl vs (metOf f nr nf sq reach (ws.take i)) ∧ vs.length ≤ 8 * i ∧ ∀ p ∈ tl, p.1 ≠ cl)
    ⟨rfl, rfl, ⟨_, rfl⟩, rfl, rfl, [], 0, [], rfl, CellsV.nil, by simp, fun p hp => nomatch hp⟩ (fun _ _ _ _ p hp => nomatch hp) rfl rfl rfl ?_ ?_)
  · clear F9 N9
    rintro i c t u h tk m₁ _ I oI hci ⟨hc, hm, ⟨tf, hf⟩, hsq, hre, vs, n, tl, rfl, hV, hvl, hoff⟩ F₁ N₁ hn₁
    have hcI : @Ne Nat cl I := hn₁ _ (.head _)
    have hi : i < ws.length := by
      rcases Nat.lt_or_ge i ws.length with h | h
      · exact h
      · rw [List.getElem?_eq_none h] at hci; cases hci
    k_steps
    (rename Fr _ _ _ _ => F9)
    (rename News _ _ _ _ => N9)
    refine Stop.go (while_go F9 N9
      (fun k m news => m (Str.ofString "met") = some (.ref cl) ∧ m (Str.ofString "men") = some (.ref a) ∧ m (Str.ofString "files") = some (.int nf tf) ∧ m (Str.ofString "square") = some (.int sq ts) ∧ m (Str.ofString "reach") = some (.int reach tr) ∧
        m (Str.ofString "dx") = some (.int c.1 t) ∧ m (Str.ofString "dy") = some (.int c.2 u) ∧ ∃ x y, (∃ t, m (Str.ofString "x") = some (.int x t)) ∧ (∃ t, m (Str.ofString "y") = some (.int y t)) ∧ (∃ t, m (Str.ofString "left") = some (.int (k : Int) t)) ∧
        ∃ vs n tl cs, news = (I, oI) :: (cl, lobj vs n) :: tl ∧ CellsV tl vs cs ∧ cs ++ walk f nr nf c.1 c.2 k x y = metOf f nr nf sq reach (ws.take (i + 1)) ∧ vs.length + k ≤ 8 * i + 8 ∧ (∀ p ∈ tl, p.1 ≠ cl) ∧ ∀ p ∈ tl, p.1 ≠ I)
      reach ⟨hc, hm, hf, hsq, hre, rfl, rfl, _, _, ⟨_, rfl⟩, ⟨_, rfl⟩, ⟨_, rfl⟩, vs, n, tl, _, rfl, hV, (metOf_succ hci).symm, by omega, hoff, fun p hp => hn₁ p (.tail _ hp)⟩ ?_)
    clear F9 N9 hV hvl hoff hn₁
    rintro k h tk m₁ _ ⟨hc, hm, hf, hsq, hre, hdx, hdy, x, y, ⟨tx, hx⟩, ⟨ty, hy⟩, ⟨tle, hle⟩, vs, n, tl, cs, rfl, hV, hW, hvl, hoff, hoI⟩ F₁ N₁
    k_steps
    · rename_i D9 _ l9 _ _ _ _ _ _ _ hft _ _ _ F9 N9
      rw [List.push_toArray] at N9
      show WhEnd _ _ _ _ _ _
      refine wh_end 0 ((I, oI) :: (cl, lobj (vs ++ [.ref D9]) (n + 1)) :: (D9, tupObj [.int y ty, .int x tx] 0) :: tl) (by omega) F9 N9 (by lcg_sub) ⟨hc, hm, hf, hsq, hre, hdx, hdy, _, _, ⟨_, rfl⟩, ⟨_, rfl⟩, ⟨_, rfl⟩, _, _, _, cs ++ [(y, x)], rfl, ?_, ?_, ?_, ?_, ?_⟩
      · exact (hV.mono fun p hp => .tail _ hp).snoc ⟨ty, tx, 0, .head _⟩
      · rw [← hW, walk_stop ⟨by assumption, by assumption, by assumption, by assumption, by assumption⟩ hft, List.append_assoc]; rfl
      · simp only [List.length_append, List.length_singleton]; omega
      · exact List.forall_mem_cons.mpr ⟨Nat.ne_of_gt l9.2.1, hoff⟩
      · exact List.forall_mem_cons.mpr ⟨Nat.ne_of_gt l9.1, hoI⟩
    · rename_i D9 _ l9 _ _ _ _ _ _ _ hft _ _ F9 N9
      rw [List.push_toArray] at N9
      show WhEnd _ _ _ _ _ _
      refine wh_end (k - 1) ((I, oI) :: (cl, lobj (vs ++ [.ref D9]) (n + 1)) :: (D9, tupObj [.int y ty, .int x tx] 0) :: tl) (by omega) F9 N9 (by lcg_sub) ⟨hc, hm, hf, hsq, hre, hdx, hdy, _, _, ⟨_, rfl⟩, ⟨_, rfl⟩, ⟨_, congrArg (fun z => some (Value.int z _)) (by omega)⟩, _, _, _, cs ++ [(y, x)], rfl, ?_, ?_, ?_, ?_, ?_⟩
      · exact (hV.mono fun p hp => .tail _ hp).snoc ⟨ty, tx, 0, .head _⟩
      · rw [← hW, walk_on ⟨by assumption, by assumption, by assumption, by assumption, by assumption⟩ hft, List.append_assoc]; rfl
      · simp only [List.length_append, List.length_singleton]; omega
      · exact List.forall_mem_cons.mpr ⟨Nat.ne_of_gt l9.2.1, hoff⟩
      · exact List.forall_mem_cons.mpr ⟨Nat.ne_of_gt l9.1, hoI⟩
    all_goals
      have hz : walk f nr nf c.1 c.2 k x y = [] := walk_nil (by omega)
      rw [hz, List.append_nil] at hW
      (rename Fr _ _ _ _ => F9)
      (rename News _ _ _ _ => N9)
      show LpEnd _ _ _ _ _ _ _
      refine lp_end ((cl, lobj vs n) :: tl) F9 N9 (by k_mem) (by lcg_sub) (List.forall_mem_cons.mpr ⟨hcI, hoI⟩) ⟨hc, hm, ⟨_, hf⟩, hsq, hre, _, _, _, rfl, ?_, ?_, hoff⟩
      · rw [← hW]; exact hV
      · omega
  · clear F9 N9
    rintro h tk m₁ _ ⟨hc, hm, ⟨tf, hf⟩, hsq, hre, vs, n, tl, rfl, hV, hvl, hoff⟩ F₁ N₁
    rw [List.take_length] at hV
    k_steps
    refine ret_ (by k_asm) (by k_asm) (fun st fr => hret _ _ _ _ st fr ⟨_, rfl, hV.cells (.head _) fun a o e => .tail _ e⟩)
end

end PartMet

section Linescomp9


section PartAnew
local macro_rules | `(tactic| walk_at "no such step") => `(tactic| skip)
theorem rowsAnew25 : True := by
  k_with_none
  k_with "ble" => (first | decide | exact Nat.le_of_ble_eq_true rfl)
  k_with "exec For Name Call cons nil" => ((refine stop_ ?_))
  k_with "exec For Tuple Name cons nil" => ((refine stop_ ?_))
  k_with "exec For Tuple" => ((refine stop_ ?_))
  k_with "exec While BoolOp cons nil" => ((refine stop_ ?_))
  k_with "WhTest" => (first | refine wh_true ?_ | refine wh_false ?_)
  k_with "pyIter ref" => (((with_reducible show wpAny _ _ (pyIter (Value.ref _)) (fun it s₂ => LoopC _ _ _ _ _ _ _ it s₂) _ _); refine stop_ ?_))
  k_with "k_mem" => (assumption)
  k_with "lcg_sub" => ((intro p9 hp9; k_mem))
  k_with "k_all" => (assumption)
  k_with "size_fits" => ((rw [List.size_toArray, PySem.sizeLine_eq]; omega))
  k_with "k_ne" => ((refine neN ?_; (try dsimp only); first | assumption | exact Ne.symm (by assumption) | omega))
  k_with "refs" => (assumption)
  k_with "bools" => (assumption)
  k_with "up" => (exact fun a o e => Fr.keep (by k_asm) a o e)
  k_with "up" => (exact inl_up (by k_asm) (by lcg_sub))
  k_with "eval ListComp" => ((refine stop_ ?_))
  k_with "exec Assign cons ListComp" => ((refine stop_ ?_))
  k_with "CompSrc" => ((refine stop_ ?_))
  k_with "CompSrcT" => ((refine stop_ ?_))
  k_with "CompEnd" => ((refine stop_ ?_))
  k_with "call ref" => (((with_reducible show wpAny _ _ (call (Value.ref 220) _) _ _ _); refine stop_ ?_))
  k_with "setItem ref int" => (((with_reducible show wpAny _ _ (setItem (Value.ref _) (Value.int _ _) (Value.bool _)) _ _ _); refine stop_ ?_))
  k_with "compareOp NotIn" => (((with_reducible show wpAny _ _ (compareOp CmpOp.NotIn (Value.ref _) (Value.ref _)) _ _ _); refine stop_ ?_))
  k_with "subscriptTail Name Slice ref ref" => ((refine stop_ ?_))
  trivial
def strike (f g : Nat → Nat → Bool) (cs : List (Int × Int)) (y x : Nat) : Bool := f y x && !(g y x && decide (((y : Int), (x : Int)) ∈ cs))
def anewOf (f g : Nat → Nat → Bool) (nr nf : Nat) (sq : Int) (ws : List (Int × Int)) : List (Int × Int) :=
  (metOf (strike f g (metOf f nr nf sq 8 ws)) nr nf sq 8 ws).filter fun c => !decide (c ∈ metOf f nr nf sq 8 ws)
theorem strike_t {f g : Nat → Nat → Bool} {cs : List (Int × Int)} {i : Nat} {c : Int × Int} (h : cs[i]? = some c) (h1 : 0 ≤ c.1) (h2 : 0 ≤ c.2) (hg : g c.1.toNat c.2.toNat = true) (y x : Nat) :
    strike f g (cs.take (i + 1)) y x = if y = c.1.toNat ∧ x = c.2.toNat then false else strike f g (cs.take i) y x := by
  unfold strike
  rw [List.take_add_one, h]
  simp only [Option.toList_some, List.mem_append, List.mem_singleton]
  by_cases e : y = c.1.toNat ∧ x = c.2.toNat
  · rw [if_pos e]
    obtain ⟨rfl, rfl⟩ := e
    have ec : (((c.1.toNat : Nat) : Int), ((c.2.toNat : Nat) : Int)) = c := Prod.ext (by simp; omega) (by simp; omega)
    rw [ec, hg]; simp
  · rw [if_neg e]
    have ne : ¬ (((y : Int), (x : Int)) = c) := fun q => e (by rw [← q]; simp)
    simp [ne]
theorem strike_f {f g : Nat → Nat → Bool} {cs : List (Int × Int)} {i : Nat} {c : Int × Int} (h : cs[i]? = some c) (h1 : 0 ≤ c.1) (h2 : 0 ≤ c.2) (hg : g c.1.toNat c.2.toNat = false) (y x : Nat) :
    strike f g (cs.take (i + 1)) y x = strike f g (cs.take i) y x := by
  unfold strike
  rw [List.take_add_one, h]
  simp only [Option.toList_some, List.mem_append, List.mem_singleton]
  by_cases e : ((y : Int), (x : Int)) = c
  · have hg' : g y x = false := by rw [← e] at hg; simpa using hg
    simp [hg']
  · simp [e]
section
variable (w : World) (mean : ExcName → Option Value) (mg mb : Str → Option Value) (s : Shared) (X : (heapK w.params).In s.heap) (T : TopL mean mg mb s.heap)
include X T
set_option maxHeartbeats 8000000 in
theorem anew_spec (a lf ways : Addr) (nr nf : Nat) (f g : Nat → Nat → Bool) (sq : Int) (ts : Tok) (ws : List (Int × Int)) (H : RowsF (Hv s.heap) a nr nf f) (Hl : RowsF (Hv s.heap) lf nr nf g) (hF : 1 ≤ nf ∧ nf ≤ 8) (hR : 1 ≤ nr ∧ nr ≤ 8)
    (W : CellsP (Hv s.heap) ways ws) (hw : ws.length ≤ 8) (h0 : 0 ≤ sq) (h64 : sq < 64) :
    Calls w 7 225 [.ref a, .ref lf, .int sq ts, .ref ways] s (fun v tl => ∃ b, v = .ref b ∧ CellsP (InL tl) b (anewOf f g nr nf sq ws)) := by
  intro A Q E hh hdp hu hret
  refine' call_mutC (mu := []) (binds := [(Str.ofString "men", .ref a), (Str.ofString "lifted", .ref lf), (Str.ofString "square", .int sq ts), (Str.ofString "ways", .ref ways)]) (fun p hp => nomatch hp) X T hh hdp hu ?ho ?hcd (by decide) ?hbind ?hkind ?hnd ?h ?c1 ?c2 ?c3
  case ho => with_unfolding_all k_is
  case hcd => with_unfolding_all k_is
  case hbind => exact BindsTo.of_eq rfl
  case hkind => exact rfl
  case hnd => decide +kernel
  case c1 => rfl
  case c2 => rfl
  case c3 => rfl
  intro h₁ tk₁ cells F N Y l1
  k_cells Y
  simp only [List.cons_append, List.nil_append] at N
  change Fr s.heap _ _ _ at F
  change News s.heap _ _ _ at N
  rename_i oc dc
  try dsimp only
  show wpAny _ _ _ _ _ _
  k_fold
  k_steps
  (rename Fr _ _ _ _ => F9)
  (rename News _ _ _ _ => N9)
  refine Stop.go (use1 (met_spec w mean mg mb _ (X.keeps F9.keep) (T.keeps F9.keep) a ways nr nf f sq ts ws 8 _ (RowsF.mono (fun a o e => F9.keep a o e) H) hF hR (CellsP.mono (fun a o e => F9.keep a o e) W) hw (by decide) h0 h64) F9 N9 rfl (by decide) (by decide) ?_)
  clear F9 N9
  rintro v tl h' tk' F9 N9 hne ⟨sl, rfl, hP⟩
  simp only [List.cons_append, List.nil_append] at N9
  have o1 : ∀ p ∈ tl, p.1 ≠ s.heap.objs.size + 1 := fun p hp => hne p hp _ (.head _)
  clear hne
  dsimp only
  k_steps
  rename_i _ oc2 F9 N9 dc2
  refine Stop.go ?_
  refine' LCg.Assign_ListComp_U F9 ?e1 ?e2 ?c1 ?c2 ?c3 ?c4 ?c5 ?c7 ?c8 ?_ ?c6
  case e1 => rfl
  case e2 => with_unfolding_all rfl
  case c1 => with_unfolding_all rfl
  case c2 => decide
  case c3 => rfl
  case c4 => decide
  case c5 => rfl
  case c7 => rfl
  case c8 => rfl
  case c6 => intro _; rfl
  k_steps
  obtain ⟨vs, nm, hvl, hlen, hvg⟩ := id H
  have hsz : vs.toArray.size = nr := by simpa using hlen
  refine Stop.go (LCg.CompSrc.base rfl F9 N9 (isList_of hvl) (by rw [hsz, PySem.sizeLine_eq]; omega) ?_)
  intro g9
  refine comp_inv (fun i ys nw => ∃ bs, nw = rowsLed bs nf f ++ ((s.heap.objs.size + 1, oc2) :: tl) ∧ bs.length = i ∧ ys = bs.map .ref ∧ bs.Nodup ∧ (∀ p ∈ tl, p.1 ∉ bs) ∧ s.heap.objs.size + 1 ∉ bs)
    ⟨[], rfl, rfl, rfl, List.nodup_nil, (fun _ _ h => nomatch h), fun h => nomatch h⟩ ?_ ?_
  · rintro i _ _ v I9 oI9 C oC D m₂ h tk E' hi ⟨bs, rfl, hbl, rfl, hnd, hb1, hb2⟩ hv hC hx F₂ N₂ off ne
    obtain ⟨b, hb, hB⟩ := hvg i (by omega)
    have hvb : v = .ref b := by
      rw [show vs.toArray[i]? = vs[i]? by simp, hb] at hv; exact (Option.some.inj hv).symm
    subst hvb
    obtain ⟨rv, rn, hrl, hrlen, hrg⟩ := hB
    k_steps
    refine Stop.go ?_
    k_dflt (refine' kmk_slice F₂ N₂ ?zl ?zp ?zq ?_ ?zs ?zt ?zz; (case zl => exact isList_of (F₂.keep _ _ hrl)); (case zp => kmk_part); (case zq => kmk_part); (case zs => with_unfolding_all rfl); (case zt => (intro _; with_unfolding_all rfl)); (case zz => (simp only [List.size_toArray, hrlen, PySem.sizeLine_eq]; omega)))
    intro D9 h9 F9 N9 l9
    rw [slicePick_all, bools_eq hrlen hrg] at N9
    have hbD : D9 ∉ bs := fun hm => by
      obtain ⟨k, hk⟩ := List.mem_iff_getElem?.mp hm
      exact absurd (l9 _ (.tail _ (.tail _ (.tail _ (List.mem_append_left _ (rowsLed_mem.mpr ⟨k, D9, hk, rfl⟩)))))) (Nat.lt_irrefl _)
    refine LCg.CompEnd.intro F9 N9 (rowsLed (bs ++ [D9]) nf f ++ ((s.heap.objs.size + 1, oc2) :: tl)) ?_ ?_ (.inl (isList_of hvl)) ⟨bs ++ [D9], rfl, by simp [hbl], by simp, ?_, ?_, ?_⟩
    · refine List.forall_mem_cons.mpr ⟨by k_mem, List.forall_mem_cons.mpr ⟨by k_mem, List.forall_mem_cons.mpr ⟨by k_mem, fun p hp => ?_⟩⟩⟩
      rcases List.mem_append.mp hp with hp | hp
      · rcases rowsLed_snoc p hp with hp | rfl
        · exact .tail _ (.tail _ (.tail _ (.tail _ (List.mem_append_left _ hp))))
        · rw [hbl]; exact .head _
      · exact .tail _ (.tail _ (.tail _ (.tail _ (List.mem_append_right _ hp))))
    · refine LCg.Off3.of fun p hp => ?_
      rcases List.mem_append.mp hp with hp | hp
      · rcases rowsLed_snoc p hp with hp | rfl
        · exact off.mem p (List.mem_append_left _ hp)
        · exact ⟨Nat.ne_of_gt (l9 _ (.head _)), Nat.ne_of_gt (l9 _ (.tail _ (.head _))), Nat.ne_of_gt (l9 _ (.tail _ (.tail _ (.head _))))⟩
      · exact off.mem p (List.mem_append_right _ hp)
    · exact List.nodup_append.mpr ⟨hnd, by simp, fun x hx y hy => by rw [List.mem_singleton.mp hy]; exact fun e => hbD (e ▸ hx)⟩
    · intro p hp hm
      rcases List.mem_append.mp hm with hm | hm
      · exact hb1 p hp hm
      · have := l9 p (.tail _ (.tail _ (.tail _ (List.mem_append_right _ (.tail _ hp)))))
        rw [List.mem_singleton.mp hm] at this
        exact absurd this (Nat.lt_irrefl _)
    · intro hm
      rcases List.mem_append.mp hm with hm | hm
      · exact hb2 hm
      · have := l9 (s.heap.objs.size + 1, oc2) (.tail _ (.tail _ (.tail _ (List.mem_append_right _ (.head _)))))
        rw [← List.mem_singleton.mp hm] at this
        exact absurd this (Nat.lt_irrefl _)
  · rintro ys _ ⟨bs, rfl, hbl, rfl, hnd, hb1, hb2⟩
    unfold LCg.FinA
    intro D h tk F₂ N₂ o1'
    dsimp only
    clear F9 N9
    rw [hsz] at hbl
    have hofD := off1_mem o1'
    have hN : News s.heap s.heap.objs.size h ((s.heap.objs.size + 1, oc2) :: (D, lobj (bs.map .ref) bs.length) :: (rowsLed bs nf f ++ tl)) := by
      have e : LCg.lst (bs.map Value.ref) = lobj (bs.map .ref) bs.length := by simp
      rw [e] at N₂
      intro p hp
      rcases List.mem_cons.mp hp with rfl | hp
      · exact N₂ _ (.tail _ (List.mem_append_right _ (.head _)))
      · rcases List.mem_cons.mp hp with rfl | hp
        · exact N₂ _ (.head _)
        · rcases List.mem_append.mp hp with hp | hp
          · exact N₂ _ (.tail _ (List.mem_append_left _ hp))
          · exact N₂ _ (.tail _ (List.mem_append_right _ (.tail _ hp)))
    have hcD : s.heap.objs.size + 1 ≠ D := hofD (s.heap.objs.size + 1, oc2) (List.mem_append_right _ (.head _))
    have htD : ∀ p ∈ tl, p.1 ≠ D := fun p hp => hofD p (List.mem_append_right _ (.tail _ hp))
    have hbsD : D ∉ bs := fun hm => by
      obtain ⟨k, hk⟩ := List.mem_iff_getElem?.mp hm
      exact hofD _ (List.mem_append_left _ (rowsLed_mem.mpr ⟨k, D, hk, rfl⟩)) rfl
    clear N₂ o1' hofD
    have hseen : ∀ c ∈ metOf f nr nf sq 8 ws, 0 ≤ c.1 ∧ c.1 < (nr : Int) ∧ 0 ≤ c.2 ∧ c.2 < (nf : Int) := fun c hc => metOf_in hc
    have hbl' := hbl
    have hbl : RefsF (InL [(D, lobj (bs.map .ref) bs.length)]) D nr (fun y b => bs[y]? = some b) := ⟨bs.map .ref, bs.length, .head _, by simpa using hbl, fun i hi => ⟨bs[i], by simp, by simp⟩⟩
    k_steps
    refine Stop.go (for_go ?_ (fun _ => rfl))
    k_steps
    (rename Fr _ _ _ _ => F9)
    refine Stop.go (loop_cells tl rfl (CellsP.mono (fun a o e => .inr e) hP) F9 hN
      (fun i m news => m (Str.ofString "bare") = some (.ref D) ∧ m (Str.ofString "lifted") = some (.ref lf) ∧ m (Str.ofString "square") = some (.int sq ts) ∧ m (Str.ofString "ways") = some (.ref ways) ∧
        news = (s.heap.objs.size + 1, oc2) :: (D, lobj (bs.map .ref) bs.length) :: (rowsLed bs nf (strike f g ((metOf f nr nf sq 8 ws).take i)) ++ tl))
      ⟨rfl, rfl, rfl, rfl, ?_⟩ ?_ rfl rfl rfl ?_ ?_)
    · rw [rowsLed_congr (f := f) (g := strike f g ((metOf f nr nf sq 8 ws).take 0)) (fun y x _ _ => by simp [strike])]
    · rintro i m _ ⟨_, _, _, _, rfl⟩ p hp
      exact .tail _ (.tail _ (List.mem_append_right _ hp))
    · rintro i c t u h tk m₁ _ I oI hci ⟨hm1, hm2, hm3, hm4, rfl⟩ F₁ N₁ hn₁
      obtain ⟨q1, q2, q3, q4⟩ := hseen c (List.mem_of_getElem? hci)
      k_steps
      · rename_i hg b9 hb9
        have hIbs : I ∉ bs := fun hm => by
          obtain ⟨k, hk⟩ := List.mem_iff_getElem?.mp hm
          exact hn₁ _ (.tail _ (.tail _ (List.mem_append_left _ (rowsLed_mem.mpr ⟨k, I, hk, rfl⟩)))) rfl
        (rename Fr _ _ _ _ => F9)
        (rename News _ _ _ _ => N9)
        refine Stop.go (set_row (f2 := strike f g ((metOf f nr nf sq 8 ws).take (i + 1))) F9 N9 (fun p hp => .tail _ (.tail _ (.tail _ (List.mem_append_left _ hp)))) hb9 hnd q3 q4 hF.2 (fun y' x' => strike_t hci q1 q3 hg y' x') ?_)
        intro h9 F8 Nf
        have N8 := Nf ((I, oI) :: (s.heap.objs.size + 1, oc2) :: (D, lobj (bs.map .ref) bs.length) :: (rowsLed bs nf (strike f g ((metOf f nr nf sq 8 ws).take (i + 1))) ++ tl)) (fun p hp => by
          rcases List.mem_cons.mp hp with rfl | hp
          · exact .inr ⟨.head _, hIbs⟩
          · rcases List.mem_cons.mp hp with rfl | hp
            · exact .inr ⟨.tail _ (.head _), hb2⟩
            · rcases List.mem_cons.mp hp with rfl | hp
              · exact .inr ⟨.tail _ (.tail _ (.head _)), hbsD⟩
              · rcases List.mem_append.mp hp with hp | hp
                · exact .inl hp
                · exact .inr ⟨.tail _ (.tail _ (.tail _ (List.mem_append_right _ hp))), hb1 p hp⟩)
        clear Nf F9 N9
        dsimp only
        k_steps
        show LpEnd _ _ _ _ _ _ _
        refine lp_end _ F8 N8 (.head _) (fun p hp => .tail _ hp) (fun p hp => ?_) ⟨hm1, hm2, hm3, hm4, rfl⟩
        rcases List.mem_cons.mp hp with rfl | hp
        · exact hn₁ _ (.head _)
        · rcases List.mem_cons.mp hp with rfl | hp
          · exact hn₁ _ (.tail _ (.head _))
          · rcases List.mem_append.mp hp with hp | hp
            · exact fun e => hIbs (e ▸ rowsLed_addr hp)
            · exact hn₁ _ (.tail _ (.tail _ (List.mem_append_right _ hp)))
      · rename_i hg
        have e : rowsLed bs nf (strike f g ((metOf f nr nf sq 8 ws).take i)) = rowsLed bs nf (strike f g ((metOf f nr nf sq 8 ws).take (i + 1))) := rowsLed_congr fun y x _ _ => (strike_f hci q1 q3 (by simpa using hg) y x).symm
        (rename Fr _ _ _ _ => F9)
        (rename News _ _ _ _ => N9)
        rw [e] at N9 hn₁
        show LpEnd _ _ _ _ _ _ _
        exact lp_end _ F9 N9 (.head _) (fun p hp => .tail _ hp) hn₁ ⟨hm1, hm2, hm3, hm4, rfl⟩
    · rintro h tk m₁ _ ⟨hm1, hm2, hm3, hm4, rfl⟩ F₁ N₁
      rw [List.take_length] at N₁
      k_steps
      (rename Fr _ _ _ _ => F9)
      refine Stop.go ?_
      refine' LCt.ListComp_T F9 ?c1 ?c2 ?c3 ?c4 ?c5 ?_ ?c6
      case c1 => with_unfolding_all rfl
      case c2 => decide
      case c3 => rfl
      case c4 => decide
      case c5 => rfl
      case c6 => intro _; rfl
      k_steps
      (rename Fr _ _ _ _ => F9)
      (rename News _ _ _ _ => N9)
      refine Stop.go (use1 (met_spec w mean mg mb _ (X.keeps F9.keep) (T.keeps F9.keep) D ways nr nf (strike f g (metOf f nr nf sq 8 ws)) sq ts ws 8 _
        (rows_at N9 (K9 := (D, lobj (bs.map .ref) bs.length) :: rowsLed bs nf (strike f g (metOf f nr nf sq 8 ws))) (fun p hp => by
          rcases List.mem_cons.mp hp with rfl | hp
          · exact .tail _ (.head _)
          · exact .tail _ (.tail _ (List.mem_append_left _ hp))) (rows_of_led hbl')) hF hR (CellsP.mono (fun a o e => F9.keep a o e) W) hw (by decide) h0 h64) F9 N9 rfl (by decide) (by decide) ?_)
      clear F9 N9
      rintro v tl2 h' tk' F9 N9 hne ⟨sl2, rfl, hP2⟩
      simp only [List.cons_append, List.append_assoc] at N9
      obtain ⟨vs2, n2, hl2, hlen2, hv2⟩ := id hP2
      have hlen8 : (metOf (strike f g (metOf f nr nf sq 8 ws)) nr nf sq 8 ws).length ≤ 64 := Nat.le_trans metOf_len (by omega)
      have hsz2 : vs2.toArray.size = (metOf (strike f g (metOf f nr nf sq 8 ws)) nr nf sq 8 ws).length := by simpa using hlen2
      refine LCt.CompSrcT.ledger rfl F9 N9 (.tail _ (.tail _ (List.mem_append_right _ (List.mem_append_right _ hl2)))) (by rw [hsz2, PySem.sizeLine_eq]; omega) ?_
      intro g8
      refine comp_invT (fun i ys nw => nw = (s.heap.objs.size + 1, oc2) :: (D, lobj (bs.map .ref) bs.length) :: (rowsLed bs nf (strike f g (metOf f nr nf sq 8 ws)) ++ (tl ++ tl2)) ∧
        CellsV tl2 ys (((metOf (strike f g (metOf f nr nf sq 8 ws)) nr nf sq 8 ws).take i).filter fun c => !decide (c ∈ metOf f nr nf sq 8 ws))) ⟨rfl, by simpa using CellsV.mono CellsV.nil (fun p hp => nomatch hp)⟩ ?_ ?_
      · clear F9 N9
        rintro i ys _ v I9 oI9 C oC D9 m₂ h tk E' hi ⟨rfl, hV⟩ hv hC hx F₂ N₂ off ne
        obtain ⟨b, hb, c, hc, hpc⟩ := hv2 i (by omega)
        have hvb : v = .ref b := by
          rw [show vs2.toArray[i]? = vs2[i]? by simp, hb] at hv; exact (Option.some.inj hv).symm
        subst hvb
        k_steps
        refine Stop.go (notin_pairs (Lk := InL (tl ++ tl2)) (CellsP.mono (fun a o e => List.mem_append_left _ e) hP) (PairP.mono (fun a o e => List.mem_append_right _ e) hpc)
          (inl_up N₂ fun p hp => .tail _ (.tail _ (.tail _ (.tail _ (.tail _ (List.mem_append_right _ hp)))))) (by decide) ?_)
        have hsrc : LCg.SrcAt s.heap sl2 vs2.toArray ((s.heap.objs.size + 1, oc2) :: (D, lobj (bs.map .ref) bs.length) :: (rowsLed bs nf (strike f g (metOf f nr nf sq 8 ws)) ++ (tl ++ tl2))) :=
          .inr ⟨_, .tail _ (.tail _ (List.mem_append_right _ (List.mem_append_right _ hl2))), rfl, _, rfl⟩
        k_steps
        · rename_i hin
          (rename Fr _ _ _ _ => F9)
          (rename News _ _ _ _ => N9)
          refine Stop.go (LCg.CompEnd.intro F9 N9 _ (fun p hp => hp) off hsrc ⟨rfl, ?_⟩)
          rw [List.take_add_one, hc, List.filter_append]
          have e : (Option.toList (some c)).filter (fun c => !decide (c ∈ metOf f nr nf sq 8 ws)) = [] := by simp [hin]
          rw [e, List.append_nil]
          exact hV
        · rename_i hin
          (rename Fr _ _ _ _ => F9)
          (rename News _ _ _ _ => N9)
          refine Stop.go (LCg.CompEnd.intro F9 N9 _ (fun p hp => hp) off hsrc ⟨rfl, ?_⟩)
          rw [List.take_add_one, hc, List.filter_append]
          have e : (Option.toList (some c)).filter (fun c => !decide (c ∈ metOf f nr nf sq 8 ws)) = [c] := by simp [hin]
          rw [e]
          exact hV.snoc hpc
      · clear F9 N9
        rintro ys _ ⟨rfl, hV⟩
        unfold LCg.FinE
        intro D9 h tk F₂ N₂ o1'
        rw [hsz2, List.take_length] at hV
        dsimp only
        k_steps
        refine retM_ F₂ N₂ (fun st fr => hret _ _ _ _ st fr ⟨D9, rfl, hV.cells (.head _) fun a o e => .tail _ (.tail _ (.tail _ (List.mem_append_right _ (List.mem_append_right _ e))))⟩)
end

end PartAnew

end Linescomp9

section PartWant
def pawnW (i : Nat) : List (Int × Int) := if i = 0 then [(1, 1), (-1, 1)] else [(1, -1), (-1, -1)]
theorem len8 (i : Nat) : (pawnW i).length ≤ 8 := by unfold pawnW; split <;> decide
def wantL (f : Nat → Nat → Bool) (nr nf : Nat) (sq k : Int) : List (Int × Int) :=
  if k = 2 then metOf f nr nf sq 1 leapsL else if k = 3 then metOf f nr nf sq 8 (waysL.drop 4) else if k = 4 then metOf f nr nf sq 8 (waysL.take 4) else if k = 5 then metOf f nr nf sq 8 waysL else metOf f nr nf sq 1 waysL
theorem wantL_in {f : Nat → Nat → Bool} {nr nf : Nat} {sq k : Int} {c : Int × Int} (h : c ∈ wantL f nr nf sq k) : 0 ≤ c.1 ∧ c.1 < (nr : Int) ∧ 0 ≤ c.2 ∧ c.2 < (nf : Int) := by
  unfold wantL at h
  split at h
  · exact metOf_in h
  · split at h
    · exact metOf_in h
    · split at h
      · exact metOf_in h
      · split at h <;> exact metOf_in h
theorem anewOf_in {f g : Nat → Nat → Bool} {nr nf : Nat} {sq : Int} {ws : List (Int × Int)} {c : Int × Int} (h : c ∈ anewOf f g nr nf sq ws) : 0 ≤ c.1 ∧ c.1 < (nr : Int) ∧ 0 ≤ c.2 ∧ c.2 < (nf : Int) := metOf_in (List.mem_filter.mp h).1

end PartWant

section Linesways10
local macro_rules | `(tactic| k_tabat) => `(tactic| first | (refine' wayOneN ?n1 ?n2 ?n3 ?n4 ?n5; (case n1 => k_in); (case n2 => k_asm); (case n3 => k_mem); (case n4 => assumption); (case n5 => omega)) | (refine' cells2 ?n1 ?n2 ?n3 ?n4; (case n1 => k_asm); (case n2 => k_mem); (case n3 => k_mem); (case n4 => k_mem)) | exact leapsAll (by k_in) | exact waysAll (by k_in) | (refine' waysLowN ?n1 ?n2 ?n3; (case n1 => k_in); (case n2 => k_asm); (case n3 => k_mem)) | (refine' waysHighN ?n1 ?n2 ?n3; (case n1 => k_in); (case n2 => k_asm); (case n3 => k_mem)) | exact CellsP.mono (fun a o e => Fr.keep (by k_asm) a o e) (by assumption) | (refine' cells_at ?n1 ?n2 ?n3; (case n3 => assumption); (case n1 => k_asm); (case n2 => lcg_sub)))
local macro_rules | `(tactic| k_flat) => `(tactic| first | (refine' rows_at ?n1 ?n2 ?n3; (case n3 => assumption); (case n1 => k_asm); (case n2 => lcg_sub)) | exact rows_at (by k_asm) (by lcg_sub) (by assumption) | exact RowsF.mono (fun a o e => Fr.keep (by k_asm) a o e) (by assumption))
local macro_rules | `(tactic| k_keys) => `(tactic| first | (refine' geo_at ?n1 ?n2 ?n3; (case n3 => assumption); (case n1 => k_asm); (case n2 => lcg_sub)) | exact geo_at (by k_asm) (by lcg_sub) (by assumption) | exact GeoOK.mono (by assumption) (fun a o e => Fr.keep (by k_asm) a o e))
local macro_rules | `(tactic| k_typeOf) => `(tactic| first | exact cells_at (by k_asm) (by lcg_sub) (by assumption) | (refine' cells_at ?n1 ?n2 ?n3; (case n3 => assumption); (case n1 => k_asm); (case n2 => lcg_sub)) | exact CellsP.mono (fun a o e => Fr.keep (by k_asm) a o e) (by assumption))
local macro_rules | `(tactic| k_units) => `(tactic| exact fun c hc => by first | (have h9 := metOf_in hc; omega) | (have h9 := wantL_in hc; omega) | (have h9 := anewOf_in hc; omega))
local macro_rules | `(tactic| walk_at "subscriptTail Name Slice ref ref") => `(tactic| (k_here; (with_reducible show wpAny _ _ (subscriptTail _ (PySem.Expr.Slice _ _ none _) (Value.ref 178) (Value.ref _)) _ _ _); k_dflt (refine' kmk_slice_lit ?F ?N ?l ?p ?q ?e ?_ ?s ?t ?z; (case F => k_asm); (case N => k_asm); (case l => exact ways_list (by k_in)); (case p => kmk_part); (case q => kmk_part); (case e => first | exact pickLow | exact pickHigh); (case s => with_unfolding_all rfl); (case t => (intro _; with_unfolding_all rfl)); (case z => exact Nat.le_of_ble_eq_true rfl); k_whole); intro D9 h9 F' N' l9; (try k_lt l9)))

section Linesgeo11


section PartKinds
theorem rowsKinds26 : True := by
  k_with_none
  k_with "ble" => (first | decide | exact Nat.le_of_ble_eq_true rfl)
  k_with "exec For Name Call cons nil" => ((refine stop_ ?_))
  k_with "exec For Tuple Name cons nil" => ((refine stop_ ?_))
  k_with "exec For Tuple" => ((refine stop_ ?_))
  k_with "exec While BoolOp cons nil" => ((refine stop_ ?_))
  k_with "WhTest" => (first | refine wh_true ?_ | refine wh_false ?_)
  k_with "pyIter ref" => (((with_reducible show wpAny _ _ (pyIter (Value.ref _)) (fun it s₂ => LoopC _ _ _ _ _ _ _ it s₂) _ _); refine stop_ ?_))
  k_with "k_mem" => (assumption)
  k_with "lcg_sub" => ((intro p9 hp9; k_mem))
  k_with "k_all" => (assumption)
  k_with "size_fits" => ((rw [List.size_toArray, PySem.sizeLine_eq]; omega))
  k_with "k_ne" => ((refine neN ?_; (try dsimp only); first | assumption | exact Ne.symm (by assumption) | omega))
  k_with "refs" => (assumption)
  k_with "bools" => (assumption)
  k_with "up" => (exact fun a o e => Fr.keep (by k_asm) a o e)
  k_with "up" => (exact inl_up (by k_asm) (by lcg_sub))
  k_with "k_mem" => (exact List.mem_append_left _ (by assumption))
  k_with "k_mem" => (((refine List.mem_append_right _ ?_); k_mem))
  k_with "spec0" => ((with_reducible show Calls _ _ 206 _ _ _); exact board_spec _ _ _ _ _ (by k_in) (by exact Top.keeps (by k_asm) (Fr.keep (by k_asm))) _ _ _ _ (by k_typeOf) (by first | omega | assumption) (by k_units))
  k_with "spec1" => ((with_reducible show Calls _ _ 220 _ _ _); exact met_spec _ _ _ _ _ (by k_in) (by exact Top.keeps (by k_asm) (Fr.keep (by k_asm))) _ _ _ _ _ _ _ _ _ _ (by k_flat) (by first | omega | assumption) (by first | omega | assumption) (by k_tabat) (by first | decide | omega | exact len8 _ | exact Nat.le_of_ble_eq_true rfl) (by first | decide | omega | exact len8 _ | exact Nat.le_of_ble_eq_true rfl) (by first | omega | assumption) (by first | omega | assumption))
  k_with "k_inst" => (exact GeoOK.instAt (by assumption) (fun a o e => Fr.keep (by k_asm) a o e))
  k_with "refs" => (first | assumption | exact GeoOK.rays (by assumption) | exact GeoOK.pawn (by assumption))
  k_with "ints" => (first | assumption | exact GeoOK.king (by assumption) | exact GeoOK.knight (by assumption))
  k_with "up" => (exact fun a o e => Fr.keep (by k_asm) a o e)
  trivial
inductive KindJ (geo men : Addr) (nf : Nat) (side sq occ : Int) (td ts to : Tok) (K : List (Addr × Obj)) (R : (Str → Option Value) → Prop) (i : Nat) (m : Str → Option Value) (news : List (Addr × Obj)) : Prop
  | mk (h1 : m (Str.ofString "geo") = some (.ref geo)) (h2 : m (Str.ofString "men") = some (.ref men)) (h3 : m (Str.ofString "side") = some (.int side td)) (h4 : m (Str.ofString "square") = some (.int sq ts)) (h5 : m (Str.ofString "taken") = some (.int occ to))
    (h6 : ∃ t, m (Str.ofString "files") = some (.int nf t)) (h7 : R m) (hn : news = K)
theorem off_of {tl news : List (Addr × Obj)} {d : Addr} {o : Obj} (h : ∀ p ∈ tl, ∀ q ∈ news, p.1 ≠ q.1) (hm : (d, o) ∈ news) : ∀ p ∈ tl, p.1 ≠ d := fun p hp => h p hp _ hm
local macro_rules | `(tactic| k_all) => `(tactic| (refine' off_of ?h ?m; (case h => assumption); (case m => k_mem)))
theorem rowsKinds27 : True := by
  k_with "k_all" => ((refine List.forall_mem_append.mpr ⟨?_, ?_⟩ <;> k_all))
  k_with "exec For Name Tuple cons nil" => ((refine stop_ ?_))
  k_with "hb" => ((rename_i hb'; (try simp only [Int.toNat_natCast] at hb'); revert hb'; intro _))
  trivial
theorem pawns_refs {K : List (Addr × Obj)} {a b c : Addr} {n : Nat} (h : (a, lobj [.ref b, .ref c] n) ∈ K) (hb : CellsP (InL K) b (pawnW 0)) (hc : CellsP (InL K) c (pawnW 1)) : RefsF (InL K) a 2 (fun i d => CellsP (InL K) d (pawnW i)) := by
  refine ⟨_, n, h, rfl, fun i hi => ?_⟩
  rcases (by omega : i = 0 ∨ i = 1) with rfl | rfl
  · exact ⟨b, rfl, hb⟩
  · exact ⟨c, rfl, hc⟩
theorem cells2L {K : List (Addr × Obj)} {a b c : Addr} {n k j : Nat} {x y x' y' : Int} {t u t' u' : Tok} (h1 : (a, lobj [.ref b, .ref c] n) ∈ K) (h2 : (b, tupObj [.int x t, .int y u] k) ∈ K) (h3 : (c, tupObj [.int x' t', .int y' u'] j) ∈ K) :
    CellsP (InL K) a [(x, y), (x', y')] := by
  refine ⟨_, n, h1, rfl, fun i hi => ?_⟩
  rcases (by simp at hi; omega : i = 0 ∨ i = 1) with rfl | rfl
  · exact ⟨b, rfl, _, rfl, t, u, k, h2⟩
  · exact ⟨c, rfl, _, rfl, t', u', j, h3⟩
theorem pawns_cast {h₀ h : Heap} {L a b c d1 d2 d3 d4 : Addr} {n1 n2 n3 k1 k2 k3 k4 : Nat} {t1 t2 t3 t4 t5 t6 t7 t8 : Tok}
    (N : News h₀ L h [(a, lobj [.ref b, .ref c] n1), (c, lobj [.ref d3, .ref d4] n3), (d4, tupObj [.int (-1) t7, .int (-1) t8] k4), (d3, tupObj [.int 1 t5, .int (-1) t6] k3), (b, lobj [.ref d1, .ref d2] n2), (d2, tupObj [.int (-1) t3, .int 1 t4] k2), (d1, tupObj [.int 1 t1, .int 1 t2] k1)]) :
    ∃ K, News h₀ L h K ∧ RefsF (InL K) a 2 (fun i d => CellsP (InL K) d (pawnW i)) :=
  ⟨_, N, pawns_refs (.head _) (cells2L (.tail _ (.tail _ (.tail _ (.tail _ (.head _))))) (.tail _ (.tail _ (.tail _ (.tail _ (.tail _ (.tail _ (.head _))))))) (.tail _ (.tail _ (.tail _ (.tail _ (.tail _ (.head _))))))) (cells2L (.tail _ (.head _)) (.tail _ (.tail _ (.tail _ (.head _)))) (.tail _ (.tail _ (.head _))))⟩
section
variable {prog : Program} {w : World} {A : Around} {s : Shared} {env : Env} {h₀ : Heap}
theorem loop_tup {x : Str} {px : Pos} {body : List Stmt} {Q : Flow → Shared → Prop} {T : Addr} {vs : List Value} {n : Nat} {m : Str → Option Value} {news : List (Addr × Obj)}
    (hh : A.handled = none) (hT : (T, tupObj vs n) ∈ news) (F : Fr h₀ env.locals s.heap m) (N : News h₀ env.locals s.heap news)
    (J : Nat → (Str → Option Value) → List (Addr × Obj) → Prop) (hJ : J 0 m news) (hK : ∀ i m news, J i m news → (T, tupObj vs n) ∈ news)
    (hx : env.kindOf x = some .local) (hp : (env.scope.kind == .class || (env.scope.kind == .module && env.locals != env.globals)) = false)
    (turn : ∀ i v h tk m₁ news₁ I oI, vs[i]? = some v → J i m₁ news₁ → Fr h₀ env.locals h (fun z => if z = x then some v else m₁ z) → News h₀ env.locals h ((I, oI) :: news₁) → (∀ p ∈ news₁, p.1 ≠ I) →
      wpAny (model prog w) A (execs body env) (LpPost h₀ env.locals (J (i + 1)) I oI s Q) NoE { s with heap := h, toks := tk })
    (done : ∀ h tk m₁ news₁, J vs.length m₁ news₁ → Fr h₀ env.locals h m₁ → News h₀ env.locals h news₁ → Q .next { s with heap := h, toks := tk }) :
    wpAny (model prog w) A (pyIter (.ref T)) (fun it s₂ => LoopC prog w A env (.Name x px) body Q it s₂) NoE s := by
  have htup : s.heap.IsTuple T vs.toArray := ⟨_, (N _ hT).1, rfl, n, rfl⟩
  refine wpAny_pyIter_tuple htup ?_
  have hI₀ : h₀.get? s.heap.objs.size = none := next_is_new F
  have hne : T ≠ s.heap.objs.size := Nat.ne_of_lt (Heap.lt_size (N _ hT).1)
  have W := Walks.tuple (prog := prog) (w := w) hh s.heap.objs.size T hne vs.toArray
  rw [show vs.toArray.size = vs.length by simp] at W
  refine loop_src (s := { s with heap := s.heap.push _ }) W [(T, tupObj vs n)] (fun b hb => ?_) hI₀ (Nat.ne_of_gt F.ns.lt) ⟨⟨_, Heap.get?_push_size _ rfl, rfl, rfl⟩, ⟨_, Heap.get?_push_of_some _ (N _ hT).1, rfl, n, rfl⟩⟩ (fun i h st => ?_) (F.push _) (fun p hp => ⟨Heap.get?_push_of_some _ (N p hp).1, (N p hp).2⟩)
    (fun p hp => Nat.ne_of_lt (Heap.lt_size (N p hp).1)) J hJ (fun i m news h p hp => by rw [List.mem_singleton.mp hp]; exact hK i m news h) ?_ done (fun _ _ _ _ _ _ _ q => wpAny_pure q)
  · rcases List.mem_cons.mp hb with rfl | hb
    · exact .inl rfl
    · rw [List.mem_singleton.mp hb]
      exact .inr (.inr ⟨_, .head _⟩)
  · obtain ⟨o, e, _⟩ := st.1; exact ⟨o, e⟩
  intro i v h tk m₁ news₁ oI hi hP hJ₁ F₁ N₁ hn₁
  refine wpAny_assign_Name (wpAny_storeName_local hx F₁.ns (fun h₂ hn₂ hs₂ => ?_) hp)
  exact turn i v h₂ _ m₁ news₁ _ oI (by simpa using hP) hJ₁ (F₁.set hn₂ hs₂) (N₁.set hs₂) hn₁
end
def WantD (w : World) (K : List (Addr × Obj)) (d : Addr) (ws : Int → List (Int × Int)) : Prop := ∃ o kvs, (d, o) ∈ K ∧ o.IsDictOf (PySem.intKind PySem.Challenge.rw_nt0422_01.row.prog w) kvs ∧ ∀ k : Int, 2 ≤ k → k ≤ 6 → ∃ b, valueAt kvs k = some (.ref b) ∧ CellsP (InL K) b (ws k)
theorem want_cast {w : World} {h₀ h : Heap} {L d a1 a2 b2 b3 b4 b5 b6 : Addr} {o o1 o2 : Obj} {t2 t3 t4 t5 t6 : List (Addr × Obj)} {k2 k3 k4 k5 k6 : Tok} {f : Nat → Nat → Bool} {nr nf : Nat} {sq : Int}
    (N : News h₀ L h ((a1, o1) :: (a2, o2) :: (d, o) :: (t2 ++ (t3 ++ (t4 ++ (t5 ++ t6))))))
    (hd : o.IsDictOf (PySem.intKind PySem.Challenge.rw_nt0422_01.row.prog w) (intKeyPairs [(.int 2 k2, .ref b2), (.int 3 k3, .ref b3), (.int 4 k4, .ref b4), (.int 5 k5, .ref b5), (.int 6 k6, .ref b6)]))
    (h2 : CellsP (InL t2) b2 (metOf f nr nf sq 1 leapsL)) (h3 : CellsP (InL t3) b3 (metOf f nr nf sq 8 (waysL.drop 4))) (h4 : CellsP (InL t4) b4 (metOf f nr nf sq 8 (waysL.take 4))) (h5 : CellsP (InL t5) b5 (metOf f nr nf sq 8 waysL)) (h6 : CellsP (InL t6) b6 (metOf f nr nf sq 1 waysL)) :
    ∃ K, News h₀ L h K ∧ WantD w K d (wantL f nr nf sq) := by
  refine ⟨_, N, o, _, .tail _ (.tail _ (.head _)), hd, fun k l1 l2 => ?_⟩
  rcases (by omega : k = 2 ∨ k = 3 ∨ k = 4 ∨ k = 5 ∨ k = 6) with rfl | rfl | rfl | rfl | rfl
  · exact ⟨b2, rfl, CellsP.mono (fun a o e => .tail _ (.tail _ (.tail _ (List.mem_append_left _ e)))) h2⟩
  · exact ⟨b3, rfl, CellsP.mono (fun a o e => .tail _ (.tail _ (.tail _ (List.mem_append_right _ (List.mem_append_left _ e))))) h3⟩
  · exact ⟨b4, rfl, CellsP.mono (fun a o e => .tail _ (.tail _ (.tail _ (List.mem_append_right _ (List.mem_append_right _ (List.mem_append_left _ e)))))) h4⟩
  · exact ⟨b5, rfl, CellsP.mono (fun a o e => .tail _ (.tail _ (.tail _ (List.mem_append_right _ (List.mem_append_right _ (List.mem_append_right _ (List.mem_append_left _ e))))))) h5⟩
  · exact ⟨b6, rfl, CellsP.mono (fun a o e => .tail _ (.tail _ (.tail _ (List.mem_append_right _ (List.mem_append_right _ (List.mem_append_right _ (List.mem_append_right _ e))))))) h6⟩
section
variable {w : World} {A : Around} {E : Value → Shared → Prop} {s : Shared} {h₀ : Heap} {L : Addr} {news K : List (Addr × Obj)}
theorem sub_want {value slice : PySem.Expr} {Q : Value → Shared → Prop} {d : Addr} {k : Int} {u : Tok} {ws : Int → List (Int × Int)} (N : News h₀ L s.heap news) (hK : ∀ p ∈ K, p ∈ news) (H : WantD w K d ws) (l1 : 2 ≤ k) (l2 : k ≤ 6)
    (hq : ∀ b, CellsP (InL K) b (ws k) → Q (.ref b) { s with toks := s.toks + 1 })
    (hs : subscripted slice false (.ref d) (.int k u) = operate [.ref d, .int k u] (getItem (.ref d) (.int k u))) (hg : ∀ r, letTemporaryGo value (.ref d) r = pure ()) :
    wpAny (model PySem.Challenge.rw_nt0422_01.row.prog w) A (subscriptTail value slice (.ref d) (.int k u)) Q E s := by
  obtain ⟨o, kvs, hm, hd, h⟩ := H
  obtain ⟨b, hv, hb⟩ := h k l1 l2
  exact kda_item N (hK _ hm) hd (intKind_is _ _ _ _) hv (hq b hb) hs hg
end
local macro_rules | `(tactic| walk_at "subscriptTail") => `(tactic| (k_here; (with_reducible show wpAny _ _ (subscriptTail _ _ (Value.ref _) (Value.int _ _)) _ _ _); k_dflt (
  (refine' sub_want ?N ?hK ?H ?h0 ?h1 ?_ ?hs ?hg; (case hg => (intro _; with_unfolding_all rfl)); (case H => assumption); (case N => k_asm); (case hK => lcg_sub); (case h0 => omega); (case h1 => omega); (case hs => with_unfolding_all rfl); k_whole; intro b' hb'))))
section
variable (w : World) (mean : ExcName → Option Value) (mg mb : Str → Option Value) (s : Shared) (X : (heapK w.params).In s.heap) (T : TopL mean mg mb s.heap)
variable (geo : Addr) (G : GeoA) (nf nr : Nat) (ray : Nat → Nat → Int) (king knight : Nat → Int) (pawn : Nat → Nat → Int) (hG : GeoOK (Hv s.heap) w.params geo G nf nr ray king knight pawn)
include X T hG
theorem rowsKinds28 : True := by
  k_with "spec0" => ((with_reducible show Calls _ _ 155 _ _ _); exact piece_spec _ _ _ _ _ (by k_in) (by exact Top.keeps (by k_asm) (Fr.keep (by k_asm))) _ _ _ _ _ _ _ _ (by exact GeoOK.mono (by assumption) (fun a o e => Fr.keep (by k_asm) a o e)) (by assumption) _ _ _ _ _ _ _ _ (by first | omega | assumption) (by first | omega | assumption) (by first | omega | assumption) (by first | omega | assumption))
  k_with "spec0" => ((with_reducible show Calls _ _ 148 _ _ _); exact slider_spec _ _ _ _ _ (by k_in) (by exact Top.keeps (by k_asm) (Fr.keep (by k_asm))) _ _ _ _ _ _ _ _ (by exact GeoOK.mono (by assumption) (fun a o e => Fr.keep (by k_asm) a o e)) (by assumption) _ _ _ _ _ _ (by first | omega | assumption) (by first | omega | assumption))
  trivial
set_option maxHeartbeats 8000000 in
theorem kinds_spec (men : Addr) (f : Nat → Nat → Bool) (side sq occ : Int) (td ts to : Tok) (H : RowsF (Hv s.heap) men nr nf f) (hF : 2 ≤ nf ∧ nf ≤ 8) (hR : 3 ≤ nr ∧ nr ≤ 8) (hFR : nf * nr ≤ 64) (d0 : 0 ≤ side) (d2 : side < 2) (s0 : 0 ≤ sq) (s1 : sq < (nf * nr : Nat))
    (e1 : ∀ i : Nat, i < 2 → pieceAtt (fun d => ray d sq.toNat) (king sq.toNat) (knight sq.toNat) (fun c => pawn c.toNat sq.toNat) (i : Int) 1 occ = boardOf nf (metOf f nr nf sq 1 (pawnW i)))
    (e2 : ∀ k : Int, 2 ≤ k → k ≤ 6 → pieceAtt (fun d => ray d sq.toNat) (king sq.toNat) (knight sq.toNat) (fun c => pawn c.toNat sq.toNat) side k occ = boardOf nf (wantL f nr nf sq k))
    (e3 : ∀ k : Int, 3 ≤ k → k ≤ 5 → sliderAtt (fun d => ray d sq.toNat) k occ = boardOf nf (wantL f nr nf sq k)) :
    Calls w 2 232 [.ref geo, .ref men, .int side td, .int sq ts, .int occ to] s (fun v tl => v = .bool true) := by
  intro A Q E hh hdp hu hret
  refine' call_def (binds := [(Str.ofString "geo", .ref geo), (Str.ofString "men", .ref men), (Str.ofString "side", .int side td), (Str.ofString "square", .int sq ts), (Str.ofString "taken", .int occ to)]) X T hh hdp hu ?ho ?hcd (by decide) ?hbind ?hloc ?h ?c1 ?c2 ?c3 ?c4
  case ho => with_unfolding_all k_is
  case hcd => with_unfolding_all k_is
  case hbind => exact BindsTo.of_eq rfl
  case hloc => exact locs rfl
  case c1 => rfl
  case c2 => rfl
  case c3 => rfl
  case c4 => decide
  intro h₁ tk₁ F N
  try dsimp only
  k_fold
  k_steps
  (rename Fr _ _ _ _ => F9)
  (rename News _ _ _ _ => N9)
  obtain ⟨K, N8, hK⟩ := pawns_cast N9
  clear N9
  refine Stop.go (for_go ?_ (fun _ => rfl))
  k_steps
  (rename IsRange _ _ _ _ _ _ _ _ => R9)
  (rename Fr _ _ _ _ => F9)
  (rename News _ _ _ _ => N9)
  refine Stop.go (loop_up rfl R9 (by decide) F9 N9
    (KindJ geo men nf side sq occ td ts to K (fun m => ∃ pl, m (Str.ofString "pawns") = some (.ref pl) ∧ RefsF (InL K) pl 2 (fun i d => CellsP (InL K) d (pawnW i)))) ⟨rfl, rfl, rfl, rfl, rfl, ⟨_, rfl⟩, ⟨_, rfl, hK⟩, rfl⟩ rfl rfl ?_ ?_)
  · clear R9 F9 N9
    rintro i t h tk m₁ K2 I oI hi ⟨h1, h2, h3, h4, h5, ⟨tf, h6⟩, ⟨pl, h7, hK⟩, hnews⟩ F₁ N₁ hn₁
    subst hnews
    have hi2 : i < 2 := hi
    have e1i := e1 i hi2
    k_steps
    · exact absurd e1i (by assumption)
    (rename Fr _ _ _ _ => F9)
    (rename News _ _ _ _ => N9)
    show LpEnd _ _ _ _ _ _ _
    exact lp_end K2 F9 N9 (by k_mem) (by lcg_sub) (fun p hp => hn₁ p hp) ⟨h1, h2, h3, h4, h5, ⟨_, h6⟩, ⟨pl, h7, hK⟩, rfl⟩
  · clear R9 F9 N9
    rintro h tk m₁ _ ⟨h1, h2, h3, h4, h5, ⟨tf, h6⟩, ⟨pl, h7, hK⟩, hnews⟩ F₁ N₁
    have N₁ := news_sub (news := []) N₁ (fun p hp => nomatch hp)
    clear hnews hK h7
    k_steps
    (rename Fr _ _ _ _ => F9)
    (rename News _ _ _ _ => N9)
    obtain ⟨K, N8, hK⟩ := want_cast N9 (by assumption) (by assumption) (by assumption) (by assumption) (by assumption) (by assumption)
    clear N9
    refine Stop.go (for_go ?_ (fun _ => rfl))
    k_steps
    (rename IsRange _ _ _ _ _ _ _ _ => R9)
    (rename Fr _ _ _ _ => F9)
    (rename News _ _ _ _ => N9)
    refine Stop.go (loop_range (n := 5) rfl R9 (by decide) (by decide) F9 N9
      (KindJ geo men nf side sq occ td ts to K (fun m => ∃ d, m (Str.ofString "want") = some (.ref d) ∧ WantD w K d (wantL f nr nf sq))) ⟨h1, h2, h3, h4, h5, ⟨_, h6⟩, ⟨_, rfl, hK⟩, rfl⟩ rfl rfl ?_ ?_)
    · clear R9 F9 N9 h1 h2 h3 h4 h5 h6
      rintro i t h tk m₁ K2 I oI hi ⟨h1, h2, h3, h4, h5, ⟨tf, h6⟩, ⟨dw, h7, hK⟩, hnews⟩ F₁ N₁ hn₁
      subst hnews
      have e2i := e2 (2 + (i : Int) * 1) (by omega) (by omega)
      k_steps
      · exact absurd e2i (by assumption)
      (rename Fr _ _ _ _ => F9)
      (rename News _ _ _ _ => N9)
      show LpEnd _ _ _ _ _ _ _
      exact lp_end K2 F9 N9 (by k_mem) (by lcg_sub) (fun p hp => hn₁ p hp) ⟨h1, h2, h3, h4, h5, ⟨_, h6⟩, ⟨dw, h7, hK⟩, rfl⟩
    · clear R9 F9 N9 h1 h2 h3 h4 h5 h6
      rintro h tk m₁ K2 ⟨h1, h2, h3, h4, h5, ⟨tf, h6⟩, ⟨dw, h7, hK⟩, hnews⟩ F₁ N₁
      subst hnews
      k_steps
      refine Stop.go (for_go ?_ (fun _ => rfl))
      k_steps
      (rename Fr _ _ _ _ => F9)
      (rename News _ _ _ _ => N9)
      have e4 : ∀ k : Int, (k = 1 ∨ k = 2 ∨ k = 6) → sliderAtt (fun d => ray d sq.toNat) k occ = 0 := fun k hk => by
        unfold sliderAtt
        rw [if_neg (by omega), if_neg (by omega), if_neg (by omega)]
      have m0 : 0 ≤ sq.fmod 3 := Int.fmod_nonneg_of_pos _ (by decide)
      have m3 : sq.fmod 3 < 3 := Int.fmod_lt_of_pos _ (by decide)
      have e3i := e3 (3 + sq.fmod 3) (by omega) (by omega)
      refine Stop.go (loop_tup rfl (.head _) F9 N9
        (fun i m news => m (Str.ofString "geo") = some (.ref geo) ∧ m (Str.ofString "square") = some (.int sq ts) ∧ m (Str.ofString "taken") = some (.int occ to) ∧
          (∃ t, m (Str.ofString "files") = some (.int nf t)) ∧ (∃ d, m (Str.ofString "want") = some (.ref d) ∧ WantD w K2 d (wantL f nr nf sq)) ∧ news = _ :: K2) ⟨h1, h4, h5, ⟨_, h6⟩, ⟨_, h7, hK⟩, rfl⟩ (fun i m news h => by rw [h.2.2.2.2.2]; exact .head _) rfl rfl ?_ ?_)
      · clear F9 N9 h1 h2 h3 h4 h5 h6 h7
        rintro i v h tk m₁ K3 I oI hv ⟨h1, h4, h5, ⟨tf, h6⟩, ⟨dw, h7, hK⟩, hnews⟩ F₁ N₁ hn₁
        subst hnews
        obtain ⟨k, t, rfl, hk⟩ : ∃ k t, v = .int k t ∧ (k = 1 ∨ k = 2 ∨ k = 6) := by
          match i, hv with
          | 0, hv => exact ⟨1, _, (Option.some.inj hv).symm, by omega⟩
          | 1, hv => exact ⟨2, _, (Option.some.inj hv).symm, by omega⟩
          | 2, hv => exact ⟨6, _, (Option.some.inj hv).symm, by omega⟩
        have e4i := e4 k hk
        k_steps
        · exact absurd e4i (by assumption)
        (rename Fr _ _ _ _ => F9)
        (rename News _ _ _ _ => N9)
        show LpEnd _ _ _ _ _ _ _
        exact lp_end _ F9 N9 (by k_mem) (by lcg_sub) hn₁ ⟨h1, h4, h5, ⟨_, h6⟩, ⟨dw, h7, hK⟩, rfl⟩
      · clear F9 N9 h1 h2 h3 h4 h5 h6 h7
        rintro h tk m₁ K3 ⟨h1, h4, h5, ⟨tf, h6⟩, ⟨dw, h7, hK⟩, hnews⟩ F₁ N₁
        subst hnews
        k_steps
        (rename Fr _ _ _ _ => F9)
        (rename News _ _ _ _ => N9)
        refine ret_ F9 N9 (fun st fr => hret _ _ _ _ st fr (congrArg Value.bool ?_))
        rw [e3i]; exact beq_self_eq_true _
end

end PartKinds

end Linesgeo11

section PartSteps
def rayTab (nf nr : Nat) (d q : Nat) : Int := ((rayW nf nr d q : Nat) : Int)
def kingTab (nf nr q : Nat) : Int := ((kingN nf nr 8 q : Nat) : Int)
def knightTab (nf nr q : Nat) : Int := ((knightN nf nr q : Nat) : Int)
def pawnTab (nf nr c q : Nat) : Int := ((pawnN nf nr c q : Nat) : Int)
structure PlainOK (nf nr : Nat) (f g : Nat → Nat → Bool) (ray : Nat → Nat → Int) (king knight : Nat → Int) (pawn : Nat → Nat → Int) (side sq : Int) : Prop where
  r : ∀ d : Nat, d < 8 → rayAtt (ray d sq.toNat) (growing (d : Int)) (boardOf nf (menPre nf f nr)) = boardOf nf (metOf f nr nf sq 8 [waysL.getD d (0, 0)])
  e1 : ∀ i : Nat, i < 2 → pieceAtt (fun d => ray d sq.toNat) (king sq.toNat) (knight sq.toNat) (fun c => pawn c.toNat sq.toNat) (i : Int) 1 (boardOf nf (menPre nf f nr)) = boardOf nf (metOf f nr nf sq 1 (pawnW i))
  e2 : ∀ k : Int, 2 ≤ k → k ≤ 6 → pieceAtt (fun d => ray d sq.toNat) (king sq.toNat) (knight sq.toNat) (fun c => pawn c.toNat sq.toNat) side k (boardOf nf (menPre nf f nr)) = boardOf nf (wantL f nr nf sq k)
  e3 : ∀ k : Int, 3 ≤ k → k ≤ 5 → sliderAtt (fun d => ray d sq.toNat) k (boardOf nf (menPre nf f nr)) = boardOf nf (wantL f nr nf sq k)
  xr : xrayOf (rookAtt fun d => ray d sq.toNat) (boardOf nf (menPre nf f nr)) (boardOf nf (menPre nf g nr)) = boardOf nf (anewOf f g nr nf sq (waysL.take 4))
  xb : xrayOf (bishopAtt fun d => ray d sq.toNat) (boardOf nf (menPre nf f nr)) (boardOf nf (menPre nf g nr)) = boardOf nf (anewOf f g nr nf sq (waysL.drop 4))
def PlainAll : Prop := ∀ nf nr, (2 ≤ nf ∧ nf ≤ 8) → (3 ≤ nr ∧ nr ≤ 8) → ∀ f g (side sq : Int), 0 ≤ side → side < 2 → 0 ≤ sq → sq < (nf * nr : Nat) → PlainOK nf nr f g (rayTab nf nr) (kingTab nf nr) (knightTab nf nr) (pawnTab nf nr) side sq
theorem tape_cast {h₀ h : Heap} {L a b : Addr} {ws : List Value} {n k : Nat} {t : Tok} {ns : List Int} (N : News h₀ L h [(b, lobj [.ref a, .int 0 t] n), (a, lobj ws k)]) (hI : IntsAre ws (ns.take 24)) (hab : @LT.lt Nat _ a b) :
    ∃ K, News h₀ L h ((b, lobj [.ref a, .int 0 t] n) :: K) ∧ IntsF (InL K) a ws.length (fun i => (ns.take 24).getD i 0) ∧ ws.length ≤ 24 ∧ ∀ p ∈ K, p.1 ≠ b := by
  refine ⟨_, N, ⟨ws, k, .head _, rfl, fun i hi => ?_⟩, ?_, fun p hp => ?_⟩
  · have hl := hI.length
    have hi' : i < (ns.take 24).length := by omega
    obtain ⟨t, e⟩ := hI.get i _ (List.getElem?_eq_getElem hi')
    refine ⟨t, ?_⟩
    have e2 : (ns.take 24).getD i 0 = (ns.take 24)[i] := by rw [List.getD_eq_getElem?_getD, List.getElem?_eq_getElem hi']; rfl
    show ws[i]? = some (.int ((ns.take 24).getD i 0) t)
    rw [e2]; exact e
  · rw [hI.length, List.length_take]; omega
  · rw [List.mem_singleton.mp hp]
    exact Nat.ne_of_lt hab
section
variable {w : World} {mean : ExcName → Option Value} {mg mb : Str → Option Value} {h₀ : Heap} {L : Addr} {m : Str → Option Value} {K : List (Addr × Obj)} {s : Shared} {A : Around} {Q E : Value → Shared → Prop} {tape l : Addr} {at_ : Int} {ta : Tok} {nt S : Nat} {fn : Nat → Int}
theorem take_step {n : Int} {tm : Tok} (X : (heapK w.params).In h₀) (T : TopL mean mg mb h₀) (F : Fr h₀ L s.heap m) (N : News h₀ L s.heap ((tape, lobj [.ref l, .int at_ ta] nt) :: K)) (hl : IntsF (InL K) l S fn) (hS : S ≤ 24) (hKt : ∀ p ∈ K, p.1 ≠ tape)
    (a0 : 0 ≤ at_) (a1 : at_ ≤ 900) (m0 : 0 < n) (hh : A.handled = none) (hd : A.depth ≤ (std 8).depth) (hu : A.units ≤ (std 8).units)
    (h : ∀ x t t' h' tk', 0 ≤ x → x < n → Fr h₀ L h' m → News h₀ L h' ((tape, lobj [.ref l, .int (at_ + 1) t'] nt) :: K) → Q (.int x t) { s with heap := h', toks := tk' }) :
    wpAny (model PySem.Challenge.rw_nt0422_01.row.prog w) A (call (.ref 194) [.ref tape, .int n tm]) Q E s :=
  use_take K X T F N (Upd.head hKt) (IntsF.mono (fun a o e => .inr e) hl) (fun p hp => .tail _ hp) hKt hS a0 a1 m0 hh hd hu fun x t t' h' tk' x0 x1 F' N' => h x t t' h' tk' x0 x1 F' (N' _ (Upd.head hKt))
theorem rows_step {nf nr : Nat} {tf tr : Tok} (X : (heapK w.params).In h₀) (T : TopL mean mg mb h₀) (F : Fr h₀ L s.heap m) (N : News h₀ L s.heap ((tape, lobj [.ref l, .int at_ ta] nt) :: K)) (hl : IntsF (InL K) l S fn) (hS : S ≤ 24) (hKt : ∀ p ∈ K, p.1 ≠ tape)
    (a0 : 0 ≤ at_) (a1 : at_ ≤ 800) (hF : 1 ≤ nf ∧ nf ≤ 8) (hR : 1 ≤ nr ∧ nr ≤ 8) (hh : A.handled = none) (hd : A.depth ≤ (std 7).depth) (hu : A.units ≤ (std 7).units)
    (h : ∀ b t' K2 g h' tk', Fr h₀ L h' m → News h₀ L h' ((tape, lobj [.ref l, .int (at_ + nr) t'] nt) :: K2) → (∀ p ∈ K, p ∈ K2) → RowsF (InL K2) b nr nf g → (∀ p ∈ K2, p.1 ≠ tape) → Q (.ref b) { s with heap := h', toks := tk' }) :
    wpAny (model PySem.Challenge.rw_nt0422_01.row.prog w) A (call (.ref 199) [.ref tape, .int nf tf, .int nr tr]) Q E s := by
  have hm : ∀ p ∈ [(tape, lobj [.ref l, .int at_ ta] nt)], p ∈ (tape, lobj [.ref l, .int at_ ta] nt) :: K := fun p hp => by rw [List.mem_singleton.mp hp]; exact .head _
  have hr : ∀ p ∈ K, p ∈ (tape, lobj [.ref l, .int at_ ta] nt) :: K := fun p hp => .tail _ hp
  have hn : ∀ p ∈ K, ∀ q ∈ [(tape, lobj [.ref l, .int at_ ta] nt)], p.1 ≠ q.1 := fun p hp q hq => by rw [List.mem_singleton.mp hq]; exact hKt p hp
  have sg := stays_h F N hm
  have ig := inL_h N K hr hn
  refine useM (rows_spec w mean mg mb s tape l at_ ta nt S nf nr fn tf tr (fun p hp => (N p (hm p hp)).1) (X.keeps sg) (T.keeps sg) (IntsF.mono ig hl) hS a0 a1 hF hR) F N hm K hr hn hh hd hu ?_
  rintro v tl h' tk' F' N' - ⟨b, t', tl', g, rfl, rfl, hg, ht⟩
  exact h b t' (tl' ++ K) g h' tk' F' N' (fun p hp => List.mem_append_right _ hp) (RowsF.mono (fun a o e => List.mem_append_left _ e) hg) (fun p hp => (List.mem_append.mp hp).elim (ht p) (hKt p))
theorem make_step {nf nr : Nat} {tf tr : Tok} (X : (heapK w.params).In h₀) (T : TopL mean mg mb h₀) (F : Fr h₀ L s.heap m) (N : News h₀ L s.heap ((tape, lobj [.ref l, .int at_ ta] nt) :: K)) (hKt : ∀ p ∈ K, p.1 ≠ tape)
    (hF : 2 ≤ nf ∧ nf ≤ 8) (hR : 3 ≤ nr ∧ nr ≤ 8) (hh : A.handled = none) (hd : A.depth ≤ (std 5).depth) (hu : A.units ≤ (std 5).units)
    (h : ∀ x G K2 h' tk', Fr h₀ L h' m → News h₀ L h' ((tape, lobj [.ref l, .int at_ ta] nt) :: K2) → (∀ p ∈ K, p ∈ K2) → GeoOK (InL K2) w.params x G nf nr (rayTab nf nr) (kingTab nf nr) (knightTab nf nr) (pawnTab nf nr) → (∀ p ∈ K2, p.1 ≠ tape) → Q (.ref x) { s with heap := h', toks := tk' }) :
    wpAny (model PySem.Challenge.rw_nt0422_01.row.prog w) A (call (.ref 113) [.int nf tf, .int nr tr, .bool false, .bool false]) Q E s := by
  refine use1 (make_spec w mean mg mb s (X.keeps F.keep) (T.keeps F.keep) nf nr tf tr hF hR) F N hh hd hu ?_
  rintro v tl h' tk' F' N' hne ⟨x, G, rfl, hG⟩
  exact h x G (K ++ tl) h' tk' F' N' (fun p hp => List.mem_append_left _ hp) (GeoOK.mono hG fun a o e => List.mem_append_right _ e) (fun p hp => (List.mem_append.mp hp).elim (hKt p) fun q => hne p q _ (.head _))
theorem men_step {a : Addr} {nf nr : Nat} {f : Nat → Nat → Bool} {news : List (Addr × Obj)} (X : (heapK w.params).In h₀) (T : TopL mean mg mb h₀) (F : Fr h₀ L s.heap m) (N : News h₀ L s.heap news) (hK : ∀ p ∈ K, p ∈ news) (H : RowsF (InL K) a nr nf f)
    (hF : 2 ≤ nf ∧ nf ≤ 8) (hR : 3 ≤ nr ∧ nr ≤ 8) (hh : A.handled = none) (hd : A.depth ≤ (std 7).depth) (hu : A.units ≤ (std 7).units)
    (h : ∀ t h' tk', Fr h₀ L h' m → News h₀ L h' news → Q (.int (boardOf nf (menPre nf f nr)) t) { s with heap := h', toks := tk' }) :
    wpAny (model PySem.Challenge.rw_nt0422_01.row.prog w) A (call (.ref 213) [.ref a]) Q E s := by
  refine use0 (men_spec w mean mg mb s (X.keeps F.keep) (T.keeps F.keep) a nr nf f (rows_at N hK H) ⟨by omega, by omega⟩ ⟨by omega, by omega⟩) F N hh hd hu ?_
  rintro v tl h' tk' F' N' ⟨t, rfl⟩
  exact h t h' tk' F' N'
end

end PartSteps

section PartLaw
local macro_rules | `(tactic| walk_at "no such step") => `(tactic| skip)
local macro_rules | `(tactic| walk_at "call ref") => `(tactic| (k_here; (with_reducible show wpAny _ _ (call (Value.ref 120) _) _ _ _); k_dflt (refine' use0 (ray_spec _ _ _ _ _ ?X ?T _ _ _ _ _ _ _ _ ?vG ?FR _ _ _ _ _ _ ?a ?b ?c ?d) ?F ?N ?hh ?hd ?hu ?_; (case X => k_in); (case T => exact Top.keeps (by k_asm) (Fr.keep (by k_asm))); (case vG => k_keys); (case FR => assumption); (case a => first | omega | assumption); (case b => first | omega | assumption); (case c => first | omega | assumption); (case d => first | omega | assumption); (case F => k_asm); (case N => k_asm); (case hh => rfl); (case hd => first | decide | exact Nat.le_of_ble_eq_true rfl); (case hu => first | decide | exact Nat.le_of_ble_eq_true rfl); k_whole; intro v' tl' h' tk' F' N' hp'; obtain ⟨t', hp'⟩ := hp'; (try simp only [Int.toNat_natCast] at hp'); subst hp')))
theorem rowsLaw29 : True := by
  k_with_none
  k_with "ble" => (first | decide | exact Nat.le_of_ble_eq_true rfl)
  k_with "exec For Name Call cons nil" => ((refine stop_ ?_))
  k_with "exec For Tuple Name cons nil" => ((refine stop_ ?_))
  k_with "exec For Tuple" => ((refine stop_ ?_))
  k_with "exec While BoolOp cons nil" => ((refine stop_ ?_))
  k_with "WhTest" => (first | refine wh_true ?_ | refine wh_false ?_)
  k_with "pyIter ref" => (((with_reducible show wpAny _ _ (pyIter (Value.ref _)) (fun it s₂ => LoopC _ _ _ _ _ _ _ it s₂) _ _); refine stop_ ?_))
  k_with "k_mem" => (assumption)
  k_with "lcg_sub" => ((intro p9 hp9; k_mem))
  k_with "k_all" => (assumption)
  k_with "size_fits" => ((rw [List.size_toArray, PySem.sizeLine_eq]; omega))
  k_with "k_ne" => ((refine neN ?_; (try dsimp only); first | assumption | exact Ne.symm (by assumption) | omega))
  k_with "refs" => (assumption)
  k_with "bools" => (assumption)
  k_with "up" => (exact fun a o e => Fr.keep (by k_asm) a o e)
  k_with "up" => (exact inl_up (by k_asm) (by lcg_sub))
  k_with "k_mem" => (exact List.mem_append_left _ (by assumption))
  k_with "k_mem" => (((refine List.mem_append_right _ ?_); k_mem))
  k_with "spec0" => ((with_reducible show Calls _ _ 206 _ _ _); exact board_spec _ _ _ _ _ (by k_in) (by exact Top.keeps (by k_asm) (Fr.keep (by k_asm))) _ _ _ _ (by k_typeOf) (by first | omega | assumption) (by k_units))
  k_with "spec1" => ((with_reducible show Calls _ _ 220 _ _ _); exact met_spec _ _ _ _ _ (by k_in) (by exact Top.keeps (by k_asm) (Fr.keep (by k_asm))) _ _ _ _ _ _ _ _ _ _ (by k_flat) (by first | omega | assumption) (by first | omega | assumption) (by k_tabat) (by first | decide | omega | exact len8 _ | exact Nat.le_of_ble_eq_true rfl) (by first | decide | omega | exact len8 _ | exact Nat.le_of_ble_eq_true rfl) (by first | omega | assumption) (by first | omega | assumption))
  k_with "call ref" => (((with_reducible show wpAny _ _ (call (Value.ref 194) _) _ _ _); refine stop_ ?_))
  k_with "call ref" => (((with_reducible show wpAny _ _ (call (Value.ref 199) _) _ _ _); refine stop_ ?_))
  k_with "call ref" => (((with_reducible show wpAny _ _ (call (Value.ref 113) _) _ _ _); refine stop_ ?_))
  k_with "call ref" => (((with_reducible show wpAny _ _ (call (Value.ref 213) _) _ _ _); refine stop_ ?_))
  k_with "hb" => ((rename_i hb'; (try simp only [Int.toNat_natCast] at hb'); revert hb'; intro _))
  k_with "spec1" => ((with_reducible show Calls _ _ 225 _ _ _); exact anew_spec _ _ _ _ _ (by k_in) (by exact Top.keeps (by k_asm) (Fr.keep (by k_asm))) _ _ _ _ _ _ _ _ _ _ (by k_flat) (by k_flat) (by first | omega | assumption) (by first | omega | assumption) (by k_tabat) (by first | decide | omega | exact len8 _ | exact Nat.le_of_ble_eq_true rfl) (by first | omega | assumption) (by first | omega | assumption))
  k_with "spec0" => ((with_reducible show Calls _ _ 232 _ _ _); exact kinds_spec _ _ _ _ _ (by k_in) (by exact Top.keeps (by k_asm) (Fr.keep (by k_asm))) _ _ _ _ _ _ _ _ (by k_keys) _ _ _ _ _ _ _ _ (by k_flat) (by first | omega | assumption) (by first | omega | assumption) (by assumption) (by first | omega | assumption) (by first | omega | assumption) (by first | omega | assumption) (by first | omega | assumption) (by first | omega | assumption) (by first | omega | assumption) (by first | omega | assumption))
  k_with "spec0" => ((with_reducible show Calls _ _ 162 _ _ _); exact xrook_spec _ _ _ _ _ (by k_in) (by exact Top.keeps (by k_asm) (Fr.keep (by k_asm))) _ _ _ _ _ _ _ _ (by k_keys) (by assumption) _ _ _ _ _ _ (by first | omega | assumption) (by first | omega | assumption))
  k_with "spec0" => ((with_reducible show Calls _ _ 169 _ _ _); exact xbishop_spec _ _ _ _ _ (by k_in) (by exact Top.keeps (by k_asm) (Fr.keep (by k_asm))) _ _ _ _ _ _ _ _ (by k_keys) (by assumption) _ _ _ _ _ _ (by first | omega | assumption) (by first | omega | assumption))
  trivial
inductive LawJ (nf nr : Nat) (f g : Nat → Nat → Bool) (mn lf geo : Addr) (side : Int) (t5 t7 t8 : Tok) (K4 : List (Addr × Obj)) (i : Nat) (m : Str → Option Value) (news : List (Addr × Obj)) : Prop
  | mk (tape l : Addr) (at_ : Int) (u : Tok) (nt S : Nat) (fn : Nat → Int) (v1 : ∃ t, m (Str.ofString "files") = some (.int nf t)) (v2 : ∃ t, m (Str.ofString "ranks") = some (.int nr t)) (v3 : m (Str.ofString "men") = some (.ref mn)) (v4 : m (Str.ofString "lifted") = some (.ref lf)) (v5 : m (Str.ofString "side") = some (.int side t5))
    (v6 : m (Str.ofString "geo") = some (.ref geo)) (v7 : m (Str.ofString "taken") = some (.int (boardOf nf (menPre nf f nr)) t7)) (v8 : m (Str.ofString "own") = some (.int (boardOf nf (menPre nf g nr)) t8)) (v9 : m (Str.ofString "tape") = some (.ref tape))
    (hn : news = (tape, lobj [.ref l, .int at_ u] nt) :: K4) (a0 : 0 ≤ at_) (a1 : at_ ≤ 60 + (i : Int)) (hS : S ≤ 24) (hK : IntsF (InL K4) l S fn) (hKt : ∀ p ∈ K4, p.1 ≠ tape)
inductive LawJ2 (nf nr : Nat) (f g : Nat → Nat → Bool) (mn lf geo : Addr) (side sq : Int) (t5 t7 t8 t9 : Tok) (K9 : List (Addr × Obj)) (tape : Addr) (d : Nat) (m : Str → Option Value) (news : List (Addr × Obj)) : Prop
  | mk (v1 : ∃ t, m (Str.ofString "files") = some (.int nf t)) (v2 : ∃ t, m (Str.ofString "ranks") = some (.int nr t)) (v3 : m (Str.ofString "men") = some (.ref mn)) (v4 : m (Str.ofString "lifted") = some (.ref lf)) (v5 : m (Str.ofString "side") = some (.int side t5))
    (v6 : m (Str.ofString "geo") = some (.ref geo)) (v7 : m (Str.ofString "taken") = some (.int (boardOf nf (menPre nf f nr)) t7)) (v8 : m (Str.ofString "own") = some (.int (boardOf nf (menPre nf g nr)) t8)) (v9 : m (Str.ofString "tape") = some (.ref tape)) (v10 : m (Str.ofString "square") = some (.int sq t9)) (hn : news = K9)
def LawPost (s : Shared) (fl : Flow) (s' : Shared) : Prop := fl = .ret (.bool true) ∧ ∃ h' tk' m', s' = { s with heap := h', toks := tk' } ∧ Fr s.heap s.heap.objs.size h' m'
theorem to_lawPost {prog : Program} {w : World} {A : Around} {body : List Stmt} {env : Env} {Q : Flow → Shared → Prop} {E : Value → Shared → Prop} {s : Shared} {h : Heap} {m : Str → Option Value} {tk : Nat} (_F : Fr s.heap s.heap.objs.size h m)
    (h1 : wpAny (model prog w) A (execs body env) (LawPost s) NoE { s with heap := h, toks := tk }) (h2 : ∀ h' tk' m', Fr s.heap s.heap.objs.size h' m' → Q (.ret (.bool true)) { s with heap := h', toks := tk' }) :
    wpAny (model prog w) A (execs body env) Q E { s with heap := h, toks := tk } :=
  wpAny_mono h1 (fun _ _ ⟨e, h', tk', m', e2, F'⟩ => by rw [e, e2]; exact h2 h' tk' m' F') (fun _ _ z => z.elim)
set_option maxHeartbeats 8000000 in
theorem said0 : PySem.Challenge.rw_nt0422_01.wellSaid = true := by
  rw [Fast.te9446332074065402090]
  unfold Fast.tw9446332074065402090 Fast.tw17960256430627541270
  repeat' (with_reducible refine look_both ?_ ?_)
  (all_goals try unfold Fast.tw2436336058641802641)
  (all_goals repeat' (with_reducible refine look_both ?_ ?_))
  (all_goals try unfold Fast.tw12908688711261696721)
  (all_goals repeat' (with_reducible refine look_both ?_ ?_))
  all_goals decide +kernel
set_option maxHeartbeats 16000000 in
theorem law_of_plain (plain : PlainAll) : PySem.Challenge.rw_nt0422_01.Holds := by
  w_on
  refine holds_law said0 fun said => ?_
  refine holds_open (q := viewK) (loose := looseK) (Xt := fun s => xlAt viewK [] s && recOk [] s) (XP := XL viewK []) (Yf := Hook.obs hookK) (Ya := Hook.val hookK) (YP := Hook.says hookK) (N := 3270) left (Hook.of hookK) (Hook.keeps hookK) (fun s e => xl_of s (Bool.and_eq_true_iff.mp e).1) XL.keeps (by rfl) (by rfl) (by rfl) (fun s e => recFacts_of (Bool.and_eq_true_iff.mp e).2) (by rfl) said (by decide +kernel) ⟨rfl, rfl, rfl, rfl, rfl, by decide +kernel⟩ ?hw ?hc
  case hw => w_witness2
  clear said
  intro w s₀ s₁ mg mb G Y fa o pm cd doc dV kV ho hd hcd hD hmg hg args vals as hpre hlay hrd hwl hlo
  have KX := kIn_of Y
  refine Ground.open G ?_
  intro T B D TE TW
  (try (refine guard_noD D (by decide +kernel) ?_; clear D))
  have TA := at_of_top T
  clear hmg
  wrow_args hpre hlay hrd hwl hlo
  all_goals (
    first | refine callC_kw (enter_call ?_) | refine enter_call ?_
    w_top on
    (try refine codeAny_mono ?_ (fun _ _ g => GoodW.toG g))
    have K0 := below_caller (Top.heap T)
    w_call any ho hd hcd hD T F
    clear hd TA
    k_drop)
  (all_goals try k_fold)
  clear hcd hD
  (rename Fr _ _ _ _ => F9)
  refine to_lawPost F9 ?_ ?_
  rotate_left
  · clear F9
    intro h' tk' m' F9
    k_steps
  k_steps
  (rename (heapK _).In _ => X)
  (rename Top _ _ _ _ _ _ => T)
  (rename Fr _ _ _ _ => F9)
  (rename News _ _ _ _ => N9)
  (rename IntsAre _ (List.take _ _) => hI)
  obtain ⟨K, N8, hK, hS, hKt⟩ := tape_cast N9 hI (by omega)
  clear N9
  refine Stop.go (take_step X T F9 N8 hK hS hKt (by decide) (by decide) (by decide) rfl (Nat.le_of_ble_eq_true rfl) (Nat.le_of_ble_eq_true rfl) ?_)
  clear F9 N8
  intro x1 t1 u1 h1 k1 x10 x17 F9 N9
  dsimp only
  k_steps
  (rename Fr _ _ _ _ => F8)
  (rename News _ _ _ _ => N8)
  refine Stop.go (take_step X T F8 N8 hK hS hKt (by decide) (by decide) (by decide) rfl (Nat.le_of_ble_eq_true rfl) (Nat.le_of_ble_eq_true rfl) ?_)
  clear F8 N8
  intro x2 t2 u2 h2 k2 x20 x26 F9 N9
  dsimp only
  k_steps
  (rename Fr _ _ _ _ => F8)
  (rename News _ _ _ _ => N8)
  obtain ⟨nf, hnf⟩ : ∃ nf : Nat, 2 + x1 = (nf : Int) := ⟨(2 + x1).toNat, (Int.toNat_of_nonneg (by omega)).symm⟩
  obtain ⟨nr, hnr⟩ : ∃ nr : Nat, 3 + x2 = (nr : Int) := ⟨(3 + x2).toNat, (Int.toNat_of_nonneg (by omega)).symm⟩
  rw [hnf, hnr] at F8
  rw [hnf, hnr]
  have hF : 2 ≤ nf ∧ nf ≤ 8 := by omega
  have hR : 3 ≤ nr ∧ nr ≤ 8 := by omega
  clear hnf hnr
  refine Stop.go (rows_step X T F8 N8 hK hS hKt (by decide) (by decide) (by omega) (by omega) rfl (Nat.le_of_ble_eq_true rfl) (Nat.le_of_ble_eq_true rfl) ?_)
  clear F8 N8
  intro mn u3 K2 f h3 k3 F9 N9 s2 hM hKt2
  have hK2 := IntsF.mono (fun a o e => s2 (a, o) e) hK
  clear hK hKt
  dsimp only
  k_steps
  (rename Fr _ _ _ _ => F8)
  (rename News _ _ _ _ => N8)
  refine Stop.go (rows_step X T F8 N8 hK2 hS hKt2 (by omega) (by omega) (by omega) (by omega) rfl (Nat.le_of_ble_eq_true rfl) (Nat.le_of_ble_eq_true rfl) ?_)
  clear F8 N8
  intro lf u4 K3 g h4 k4 F9 N9 s3 hL hKt3
  have hK3 := IntsF.mono (fun a o e => s3 (a, o) e) hK2
  have hM3 := RowsF.mono (fun a o e => s3 (a, o) e) hM
  clear hK2 hKt2 hM
  dsimp only
  k_steps
  (rename Fr _ _ _ _ => F8)
  (rename News _ _ _ _ => N8)
  refine Stop.go (take_step X T F8 N8 hK3 hS hKt3 (by omega) (by omega) (by decide) rfl (Nat.le_of_ble_eq_true rfl) (Nat.le_of_ble_eq_true rfl) ?_)
  clear F8 N8
  intro side t5 u5 h5 k5 sd0 sd2 F9 N9
  dsimp only
  k_steps
  (rename Fr _ _ _ _ => F8)
  (rename News _ _ _ _ => N8)
  refine Stop.go (make_step X T F8 N8 hKt3 hF hR rfl (Nat.le_of_ble_eq_true rfl) (Nat.le_of_ble_eq_true rfl) ?_)
  clear F8 N8
  intro geo G K4 h6 k6 F9 N9 s4 hG hKt4
  have hK4 := IntsF.mono (fun a o e => s4 (a, o) e) hK3
  have hM4 := RowsF.mono (fun a o e => s4 (a, o) e) hM3
  have hL4 := RowsF.mono (fun a o e => s4 (a, o) e) hL
  clear hK3 hKt3 hM3 hL
  dsimp only
  k_steps
  (rename Fr _ _ _ _ => F8)
  (rename News _ _ _ _ => N8)
  refine Stop.go (men_step X T F8 N8 (fun p hp => .tail _ hp) hM4 hF hR rfl (Nat.le_of_ble_eq_true rfl) (Nat.le_of_ble_eq_true rfl) ?_)
  clear F8 N8
  intro t7 h7 k7 F9 N9
  dsimp only
  k_steps
  (rename Fr _ _ _ _ => F8)
  (rename News _ _ _ _ => N8)
  refine Stop.go (men_step X T F8 N8 (fun p hp => .tail _ hp) hL4 hF hR rfl (Nat.le_of_ble_eq_true rfl) (Nat.le_of_ble_eq_true rfl) ?_)
  clear F8 N8
  intro t8 h8 k8 F9 N9
  dsimp only
  k_steps
  have hways := ways_refs X
  have hFR : nf * nr ≤ 64 := Nat.mul_le_mul hF.2 hR.2
  have q1 : 0 ≤ (nf : Int) * (nr : Int) := Int.mul_nonneg (by omega) (by omega)
  have q2 : (nf : Int) * (nr : Int) ≤ 8 * 8 := Int.mul_le_mul (by omega) (by omega) (by omega) (by omega)
  have q3 : 0 < (nf : Int) * (nr : Int) := Int.mul_pos (by omega) (by omega)
  refine Stop.go (for_go ?_ (fun _ => rfl))
  k_steps
  (rename IsRange _ _ _ _ _ _ _ _ => R9)
  (rename Fr _ _ _ _ => F8)
  (rename News _ _ _ _ => N8)
  refine Stop.go (loop_up (n := 2) rfl R9 (by decide) F8 N8
    (LawJ nf nr f g mn lf geo side t5 t7 t8 K4) ?iv rfl rfl ?tn ?dn)
  case iv => exact ⟨_, _, _, _, _, _, _, ⟨_, rfl⟩, ⟨_, rfl⟩, rfl, rfl, rfl, rfl, rfl, rfl, rfl, rfl, by omega, by omega, hS, hK4, hKt4⟩
  case tn =>
    clear R9 F8 N8
    rintro i ti h tk m₁ _ I oI hi ⟨tape, l, at_, u, nt, S, fn, ⟨tf, v1⟩, ⟨tr, v2⟩, v3, v4, v5, v6, v7, v8, v9, rfl, a0, a1, hS, hK, hKt⟩ F₁ N₁ hn₁
    have hi2 : i < 2 := hi
    have i1 : @Ne Nat tape I := hn₁ _ (.head _)
    have i2 : ∀ p ∈ K4, p.1 ≠ I := fun p hp => hn₁ p (.tail _ hp)
    have N₁ := news_sub (news := (tape, lobj [.ref l, .int at_ u] nt) :: (I, oI) :: K4) N₁ (List.forall_mem_cons.mpr ⟨.tail _ (.head _), List.forall_mem_cons.mpr ⟨.head _, fun p hp => .tail _ (.tail _ hp)⟩⟩)
    have hKI : ∀ p ∈ (I, oI) :: K4, p.1 ≠ tape := List.forall_mem_cons.mpr ⟨Ne.symm i1, hKt⟩
    have hKJ := IntsF.mono (Lk' := InL ((I, oI) :: K4)) (fun a o e => .tail _ e) hK
    clear hn₁
    k_steps
    (rename Fr _ _ _ _ => F8)
    (rename News _ _ _ _ => N8)
    refine Stop.go (take_step X T F8 N8 hKJ hS hKI a0 (by omega) q3 rfl (Nat.le_of_ble_eq_true rfl) (Nat.le_of_ble_eq_true rfl) ?_)
    clear F8 N8
    intro sq t9 u9 h9 k9 s0 s1 F9 N9
    dsimp only
    have s1' : sq < ((nf * nr : Nat) : Int) := by rw [Int.natCast_mul]; exact s1
    have P := plain nf nr hF hR f g side sq sd0 sd2 s0 s1'
    have e1 := P.e1
    have e2 := P.e2
    have e3 := P.e3
    have N9 := news_sub (news := (I, oI) :: (tape, lobj [.ref l, .int (at_ + 1) u9] nt) :: K4) N9 (List.forall_mem_cons.mpr ⟨.tail _ (.head _), List.forall_mem_cons.mpr ⟨.head _, fun p hp => .tail _ (.tail _ hp)⟩⟩)
    k_steps
    refine Stop.go (for_go ?_ (fun _ => rfl))
    k_steps
    (rename IsRange _ _ _ _ _ _ _ _ => R9)
    (rename Fr _ _ _ _ => F8)
    (rename News _ _ _ _ => N8)
    refine Stop.go (loop_up (n := 8) rfl R9 (by decide) F8 N8
      (LawJ2 nf nr f g mn lf geo side sq t5 t7 t8 t9 ((I, oI) :: (tape, lobj [.ref l, .int (at_ + 1) u9] nt) :: K4) tape) ⟨⟨_, v1⟩, ⟨_, v2⟩, v3, v4, v5, v6, v7, v8, v9, rfl, rfl⟩ rfl rfl ?tn2 ?dn2)
    case tn2 =>
      clear R9 F8 N8 v1 v2 v3 v4 v5 v6 v7 v8 v9
      rintro d td h tk m₁ K9 I2 oI2 hd ⟨⟨tf, v1⟩, ⟨tr, v2⟩, v3, v4, v5, v6, v7, v8, v9, v10, hnews⟩ F₁ N₁ hn₁
      subst hnews
      have hd8 : d < 8 := hd
      have er := P.r d hd8
      k_steps
      · exact absurd er (by assumption)
      (rename Fr _ _ _ _ => F9)
      (rename News _ _ _ _ => N9)
      show LpEnd _ _ _ _ _ _ _
      exact lp_end _ F9 N9 (by k_mem) (by lcg_sub) hn₁ ⟨⟨_, v1⟩, ⟨_, v2⟩, v3, v4, v5, v6, v7, v8, v9, v10, rfl⟩
    case dn2 =>
      clear R9 F8 N8 v1 v2 v3 v4 v5 v6 v7 v8 v9
      rintro h tk m₁ K9 ⟨⟨tf, v1⟩, ⟨tr, v2⟩, v3, v4, v5, v6, v7, v8, v9, v10, hnews⟩ F₁ N₁
      subst hnews
      have exr := P.xr
      have exb := P.xb
      k_steps
      · exact absurd exr (by assumption)
      · exact absurd exb (by assumption)
      (rename Fr _ _ _ _ => F9)
      (rename News _ _ _ _ => N9)
      show LpEnd _ _ _ _ _ _ _
      exact lp_end ((tape, lobj [.ref l, .int (at_ + 1) u9] nt) :: K4) F9 N9 (by k_mem) (by lcg_sub) (List.forall_mem_cons.mpr ⟨i1, i2⟩) ⟨tape, l, _, _, _, S, fn, ⟨_, v1⟩, ⟨_, v2⟩, v3, v4, v5, v6, v7, v8, v9, rfl, by omega, by omega, hS, hK, hKt⟩
  case dn =>
    clear R9 F8 N8
    rintro h tk m₁ _ ⟨tape, l, at_, u, nt, S, fn, ⟨tf, v1⟩, ⟨tr, v2⟩, v3, v4, v5, v6, v7, v8, v9, rfl, a0, a1, hS, hK, hKt⟩ F₁ N₁
    k_steps
    exact ⟨rfl, _, _, _, rfl, by k_asm⟩

end PartLaw

end Linesways10

end Linesrows8

end Linesloops4

end Linesshl2

section PartPBits

/-! the lowest set bit -/
theorem tb_succ (x i : Nat) : x.testBit (i + 1) = (x / 2).testBit i := Nat.testBit_succ x i
theorem low_bit : ∀ s : Nat, s ≠ 0 → ∀ j, ((s ^^^ (s - 1)).testBit j = true ↔ ∀ i, i < j → s.testBit i = false) := by
  intro s
  induction s using Nat.strongRecOn with
  | ind s ih =>
    intro h0 j
    cases j with
    | zero =>
      refine ⟨fun _ i hi => absurd hi (Nat.not_lt_zero _), fun _ => ?_⟩
      rw [Nat.testBit_xor, Nat.testBit_zero, Nat.testBit_zero]
      rcases Nat.mod_two_eq_zero_or_one s with h | h
      · have : (s - 1) % 2 = 1 := by omega
        rw [h, this]; rfl
      · have : (s - 1) % 2 = 0 := by omega
        rw [h, this]; rfl
    | succ j =>
      rw [tb_succ, Nat.xor_div_two]
      rcases Nat.mod_two_eq_zero_or_one s with h | h
      · have e : (s - 1) / 2 = s / 2 - 1 := by omega
        rw [e, ih (s / 2) (by omega) (by omega) j]
        constructor
        · intro q i hi
          cases i with
          | zero => rw [Nat.testBit_zero, h]; rfl
          | succ i => rw [tb_succ]; exact q i (by omega)
        · intro q i hi
          have := q (i + 1) (by omega)
          rwa [tb_succ] at this
      · have e : (s - 1) / 2 = s / 2 := by omega
        rw [e, Nat.xor_self, Nat.zero_testBit]
        constructor
        · intro q; cases q
        · intro q
          have := q 0 (by omega)
          rw [Nat.testBit_zero, h] at this
          simp at this
/-! the smear -/
def SmP (stop k b : Nat) : Prop := ∀ j, b.testBit j = true ↔ ∃ i, j < i ∧ i ≤ j + k ∧ stop.testBit i = true
theorem sm_one (stop : Nat) : SmP stop 1 (stop >>> 1) := by
  intro j
  rw [Nat.testBit_shiftRight]
  constructor
  · intro h; exact ⟨1 + j, by omega, by omega, h⟩
  · rintro ⟨i, h1, h2, h⟩
    have : i = 1 + j := by omega
    subst this; exact h
theorem sm_two {stop k b : Nat} (h : SmP stop k b) : SmP stop (k + k) (b ||| b >>> k) := by
  intro j
  rw [Nat.testBit_or, Nat.testBit_shiftRight, Bool.or_eq_true, h j, h (k + j)]
  constructor
  · rintro (⟨i, h1, h2, h3⟩ | ⟨i, h1, h2, h3⟩)
    · exact ⟨i, h1, by omega, h3⟩
    · exact ⟨i, by omega, by omega, h3⟩
  · rintro ⟨i, h1, h2, h3⟩
    by_cases hi : i ≤ j + k
    · exact .inl ⟨i, h1, hi, h3⟩
    · exact .inr ⟨i, by omega, by omega, h3⟩
def smear (stop : Nat) : Nat :=
  let b := stop >>> 1
  let b := b ||| b >>> 1
  let b := b ||| b >>> 2
  let b := b ||| b >>> 4
  let b := b ||| b >>> 8
  let b := b ||| b >>> 16
  b ||| b >>> 32
theorem smear_bit {stop : Nat} (hs : stop < 2 ^ 64) (j : Nat) : (smear stop).testBit j = true ↔ ∃ i, j < i ∧ stop.testBit i = true := by
  have h := sm_two (sm_two (sm_two (sm_two (sm_two (sm_two (sm_one stop))))))
  refine (h j).trans ⟨fun ⟨i, h1, _, h3⟩ => ⟨i, h1, h3⟩, fun ⟨i, h1, h3⟩ => ⟨i, h1, ?_, h3⟩⟩
  have : i < 64 := by
    rcases Nat.lt_or_ge i 64 with q | q
    · exact q
    · rw [Nat.testBit_lt_two_pow (Nat.lt_of_lt_of_le hs (Nat.pow_le_pow_right (by decide) q))] at h3
      cases h3
  omega
def rayN (ray : Nat) (g : Bool) (occ : Nat) : Nat :=
  if ray &&& occ = 0 then ray else if g then ray &&& ((ray &&& occ) ^^^ ((ray &&& occ) - 1)) else ray - (ray &&& smear (ray &&& occ))
def bef (g : Bool) (i j : Nat) : Prop := if g then i < j else j < i
theorem rayN_bit {ray : Nat} (hr : ray < 2 ^ 64) (g : Bool) (occ j : Nat) : (rayN ray g occ).testBit j = true ↔ ray.testBit j = true ∧ ∀ i, bef g i j → ray.testBit i = true → occ.testBit i = false := by
  have key : ∀ i, (ray &&& occ).testBit i = false ↔ (ray.testBit i = true → occ.testBit i = false) := fun i => by
    rw [Nat.testBit_and]; cases ray.testBit i <;> cases occ.testBit i <;> simp
  unfold rayN
  split
  · rename_i h0
    refine ⟨fun h => ⟨h, fun i _ => (key i).mp ?_⟩, fun h => h.1⟩
    rw [h0, Nat.zero_testBit]
  · rename_i h0
    cases g with
    | true =>
      rw [if_pos rfl, Nat.testBit_and, Bool.and_eq_true, low_bit _ h0 j]
      refine and_congr_right fun _ => ?_
      simp only [key, bef, if_true]
    | false =>
      rw [if_neg Bool.false_ne_true, andnot_bit, Bool.and_eq_true, Bool.not_eq_true']
      refine and_congr_right fun _ => ?_
      have hs : ray &&& occ < 2 ^ 64 := Nat.lt_of_le_of_lt Nat.and_le_left hr
      have q := smear_bit hs j
      constructor
      · intro h i hb
        have hb' : j < i := by simpa [bef] using hb
        refine (key i).mp ?_
        cases e : (ray &&& occ).testBit i with
        | false => rfl
        | true => rw [q.mpr ⟨i, hb', e⟩] at h; cases h
      · intro h
        cases e : (smear (ray &&& occ)).testBit j with
        | false => rfl
        | true =>
          obtain ⟨i, h1, h2⟩ := q.mp e
          rw [(key i).mpr (h i (by simpa [bef] using h1))] at h2; cases h2
/-! a sum of distinct powers -/
def powS (L : List Nat) : Nat := (L.map fun a => 2 ^ a).sum
theorem and_pow {n a : Nat} (h : n.testBit a = false) : 2 ^ a &&& n = 0 := by
  apply Nat.eq_of_testBit_eq
  intro i
  rw [Nat.testBit_and, Nat.testBit_two_pow, Nat.zero_testBit]
  by_cases e : a = i
  · subst e; rw [h, Bool.and_false]
  · rw [decide_eq_false e, Bool.false_and]
theorem add_or {a b : Nat} (h : a &&& b = 0) : a + b = a ||| b := by
  have h1 := xor_add_and a b
  have h2 := or_eq a b
  rw [h] at h1 h2
  omega
theorem powS_bit : ∀ L : List Nat, L.Nodup → ∀ j, (powS L).testBit j = decide (j ∈ L)
  | [], _, j => by simp [powS]
  | a :: L, h, j => by
    have hn := List.nodup_cons.mp h
    have ih := powS_bit L hn.2
    have e : powS (a :: L) = 2 ^ a ||| powS L := by
      show 2 ^ a + powS L = _
      refine add_or (and_pow ?_)
      rw [ih a]; exact decide_eq_false hn.1
    rw [e, Nat.testBit_or, ih j, Nat.testBit_two_pow, Bool.eq_iff_iff]
    simp only [Bool.or_eq_true, decide_eq_true_eq, List.mem_cons]
    constructor
    · rintro (h | h)
      · exact .inl h.symm
      · exact .inr h
    · rintro (h | h)
      · exact .inl h.symm
      · exact .inr h

end PartPBits

section PartPCells
def cellN (nf : Nat) (c : Int × Int) : Nat := (c.1 * nf + c.2).toNat
abbrev idx (nf j : Nat) : Int × Int := (((j / nf : Nat) : Int), ((j % nf : Nat) : Int))
def InB (nf : Nat) (c : Int × Int) : Prop := 0 ≤ c.1 ∧ 0 ≤ c.2 ∧ c.2 < (nf : Int)
theorem board_nat (nf : Nat) : ∀ cs : List (Int × Int), boardOf nf cs = ((powS (cs.map (cellN nf)) : Nat) : Int)
  | [] => rfl
  | c :: cs => by
    have ih := board_nat nf cs
    show bit nf c + boardOf nf cs = ((2 ^ cellN nf c + powS (cs.map (cellN nf)) : Nat) : Int)
    rw [ih, Int.natCast_add]
    congr 1
theorem cell_idx {nf : Nat} (h0 : 0 < nf) {c : Int × Int} (h : InB nf c) : idx nf (cellN nf c) = c := by
  obtain ⟨h1, h2, h3⟩ := h
  obtain ⟨y, x⟩ := c
  dsimp only at h1 h2 h3
  obtain ⟨y, rfl⟩ := Int.eq_ofNat_of_zero_le h1
  obtain ⟨x, rfl⟩ := Int.eq_ofNat_of_zero_le h2
  have hx : x < nf := by omega
  have e : cellN nf ((y : Int), (x : Int)) = x + nf * y := by
    unfold cellN
    show ((y : Int) * nf + x).toNat = _
    rw [← Int.natCast_mul, ← Int.natCast_add, Int.toNat_natCast, Nat.mul_comm, Nat.add_comm]
  unfold idx
  rw [e, Nat.add_mul_div_left _ _ h0, Nat.add_mul_mod_self_left, Nat.div_eq_of_lt hx, Nat.mod_eq_of_lt hx, Nat.zero_add]
theorem idx_cell {nf : Nat} (h0 : 0 < nf) (j : Nat) : cellN nf (idx nf j) = j := by
  unfold cellN idx
  show (((j / nf : Nat) : Int) * nf + ((j % nf : Nat) : Int)).toNat = j
  rw [← Int.natCast_mul, ← Int.natCast_add, Int.toNat_natCast, Nat.mul_comm]
  exact Nat.div_add_mod j nf
theorem idx_in {nf : Nat} (h0 : 0 < nf) (j : Nat) : InB nf (idx nf j) := ⟨Int.natCast_nonneg _, Int.natCast_nonneg _, by dsimp only [idx]; have := Nat.mod_lt j h0; omega⟩
theorem idx_inj {nf : Nat} (h0 : 0 < nf) {i j : Nat} (h : idx nf i = idx nf j) : i = j := by
  rw [← idx_cell h0 i, h, idx_cell h0 j]
theorem mem_cells {nf : Nat} (h0 : 0 < nf) {cs : List (Int × Int)} (hin : ∀ c ∈ cs, InB nf c) (j : Nat) : j ∈ cs.map (cellN nf) ↔ idx nf j ∈ cs := by
  rw [List.mem_map]
  constructor
  · rintro ⟨c, hc, rfl⟩
    rw [cell_idx h0 (hin c hc)]; exact hc
  · intro h
    exact ⟨_, h, idx_cell h0 j⟩
theorem nodup_cells {nf : Nat} (h0 : 0 < nf) {cs : List (Int × Int)} (hin : ∀ c ∈ cs, InB nf c) (hn : cs.Nodup) : (cs.map (cellN nf)).Nodup := by
  unfold List.Nodup
  rw [List.pairwise_map]
  refine List.Pairwise.imp_of_mem (fun {a b} ha hb hab e => hab ?_) hn
  rw [← cell_idx h0 (hin a ha), e, cell_idx h0 (hin b hb)]
/-- a board's bits -/
theorem board_bits {nf : Nat} (h0 : 0 < nf) {cs : List (Int × Int)} (hin : ∀ c ∈ cs, InB nf c) (hn : cs.Nodup) : ∃ B : Nat, boardOf nf cs = (B : Int) ∧ ∀ j, B.testBit j = decide (idx nf j ∈ cs) := by
  refine ⟨_, board_nat nf cs, fun j => ?_⟩
  rw [powS_bit _ (nodup_cells h0 hin hn)]
  exact decide_eq_decide.mpr (mem_cells h0 hin j)
theorem men_nodup (nf : Nat) (f : Nat → Nat → Bool) (nr : Nat) : (menPre nf f nr).Nodup := by
  unfold List.Nodup menPre
  rw [List.pairwise_flatMap]
  constructor
  · intro y _
    unfold rowPre
    rw [List.pairwise_map]
    refine List.Pairwise.filter _ ?_
    refine List.Pairwise.imp (fun {a b} hab e => ?_) List.nodup_range
    exact hab (Int.ofNat.inj (congrArg Prod.snd e))
  · refine List.Pairwise.imp (fun {a b} hab c hc d hd e => ?_) List.nodup_range
    obtain ⟨x, _, _, rfl⟩ := rowPre_mem.mp hc
    obtain ⟨x', _, _, rfl⟩ := rowPre_mem.mp hd
    exact hab (Int.ofNat.inj (congrArg Prod.fst e))
theorem men_bits {nf : Nat} (h0 : 0 < nf) (f : Nat → Nat → Bool) (nr : Nat) : ∃ B : Nat, boardOf nf (menPre nf f nr) = (B : Int) ∧ ∀ j, B.testBit j = (decide (j / nf < nr) && f (j / nf) (j % nf)) := by
  obtain ⟨B, e, h⟩ := board_bits h0 (cs := menPre nf f nr) (fun c hc => by
    obtain ⟨y, _, x, hx, _, rfl⟩ := menPre_mem.mp hc
    exact ⟨by dsimp only; omega, by dsimp only; omega, by dsimp only; omega⟩) (men_nodup nf f nr)
  refine ⟨B, e, fun j => ?_⟩
  rw [h j, Bool.eq_iff_iff, decide_eq_true_iff, menPre_mem, Bool.and_eq_true, decide_eq_true_iff]
  constructor
  · rintro ⟨y, hy, x, hx, hf, e⟩
    have e1 : j / nf = y := by have := congrArg Prod.fst e; dsimp only [idx] at this; omega
    have e2 : j % nf = x := by have := congrArg Prod.snd e; dsimp only [idx] at this; omega
    rw [e1, e2]; exact ⟨hy, hf⟩
  · rintro ⟨h1, h2⟩
    exact ⟨_, h1, _, Nat.mod_lt j h0, h2, rfl⟩

end PartPCells

section PartPWalk
theorem bef_trans {g : Bool} {a b c : Nat} (h1 : bef g a b) (h2 : bef g b c) : bef g a c := by
  unfold bef at *
  cases g <;> simp at * <;> omega
theorem bef_irrefl {g : Bool} {a : Nat} (h : bef g a a) : False := by
  unfold bef at h
  cases g <;> simp at h
abbrev wv (d : Nat) : Int × Int := waysL.getD d (0, 0)
def inB (nf nr : Nat) (y x : Int) : Bool := decide (0 ≤ y) && decide (y < (nr : Int)) && decide (0 ≤ x) && decide (x < (nf : Int))
theorem inB_iff {nf nr : Nat} {y x : Int} : inB nf nr y x = true ↔ 0 ≤ y ∧ y < (nr : Int) ∧ 0 ≤ x ∧ x < (nf : Int) := by
  unfold inB
  simp only [Bool.and_eq_true, decide_eq_true_eq, and_assoc]
def rayChk (nf nr d q : Nat) : Bool :=
  ((innerN nf nr d).testBit q == inB nf nr (((q / nf : Nat) : Int) + (wv d).2) (((q % nf : Nat) : Int) + (wv d).1)) &&
  (!(innerN nf nr d).testBit q || (decide (((goalN nf d q / nf : Nat) : Int) = ((q / nf : Nat) : Int) + (wv d).2) && decide (((goalN nf d q % nf : Nat) : Int) = ((q % nf : Nat) : Int) + (wv d).1)))
set_option maxRecDepth 100000 in
theorem rayChk_all : (boards fun nf nr => (List.range 8).all fun d => (List.range (nf * nr)).all fun q => rayChk nf nr d q) = true := by decide +kernel
theorem ray_step {nf nr d q : Nat} (hF : 2 ≤ nf ∧ nf ≤ 8) (hR : 3 ≤ nr ∧ nr ≤ 8) (hd : d < 8) (hq : q < nf * nr) :
    ((innerN nf nr d).testBit q = inB nf nr (((q / nf : Nat) : Int) + (wv d).2) (((q % nf : Nat) : Int) + (wv d).1)) ∧
    ((innerN nf nr d).testBit q = true → ((q / nf : Nat) : Int) + (wv d).2 = ((goalN nf d q / nf : Nat) : Int) ∧ ((q % nf : Nat) : Int) + (wv d).1 = ((goalN nf d q % nf : Nat) : Int) ∧ goalN nf d q < nf * nr ∧ bef (growing (d : Int)) q (goalN nf d q)) := by
  have h := all_range (all_range (boards_get rayChk_all hF hR) hd) hq
  unfold rayChk at h
  rw [Bool.and_eq_true] at h
  refine ⟨by simpa using h.1, fun hb => ?_⟩
  have h2 := h.2
  rw [hb] at h2
  simp only [Bool.not_true, Bool.false_or, Bool.and_eq_true, decide_eq_true_eq] at h2
  obtain ⟨_, p2, p3, _⟩ := ray_at hF hR hd hq hb
  exact ⟨h2.1.symm, h2.2.symm, p2, p3⟩
theorem walk_ray {nf nr d : Nat} (hF : 2 ≤ nf ∧ nf ≤ 8) (hR : 3 ≤ nr ∧ nr ≤ 8) (hd : d < 8) (f : Nat → Nat → Bool) : ∀ l q, q < nf * nr →
    (∀ i, (rayR nf nr d l q).testBit i = true → bef (growing (d : Int)) q i ∧ i < nf * nr) ∧
    ∀ j, idx nf j ∈ walk f nr nf (wv d).1 (wv d).2 l (((q % nf : Nat) : Int) + (wv d).1) (((q / nf : Nat) : Int) + (wv d).2) ↔
      ((rayR nf nr d l q).testBit j = true ∧ ∀ i, bef (growing (d : Int)) i j → (rayR nf nr d l q).testBit i = true → f (i / nf) (i % nf) = false) := by
  have h0 : 0 < nf := by omega
  intro l
  induction l with
  | zero =>
    intro q hq
    refine ⟨fun i h => ?_, fun j => ⟨fun h => absurd h List.not_mem_nil, fun h => ?_⟩⟩
    · rw [rayR, Nat.zero_testBit] at h; cases h
    · have h1 := h.1
      rw [rayR, Nat.zero_testBit] at h1; cases h1
  | succ l ih =>
    intro q hq
    obtain ⟨s1, s2⟩ := ray_step hF hR hd hq
    cases hb : (innerN nf nr d).testBit q with
    | false =>
      have e0 : rayR nf nr d (l + 1) q = 0 := by rw [rayR, hb, if_neg Bool.false_ne_true]
      rw [hb] at s1
      have hw : walk f nr nf (wv d).1 (wv d).2 (l + 1) (((q % nf : Nat) : Int) + (wv d).1) (((q / nf : Nat) : Int) + (wv d).2) = [] := walk_nil fun h => by
        rw [inB_iff.mpr h.2] at s1; cases s1
      rw [e0, hw]
      refine ⟨fun i h => ?_, fun j => ⟨fun h => absurd h List.not_mem_nil, fun h => ?_⟩⟩
      · rw [Nat.zero_testBit] at h; cases h
      · have h1 := h.1
        rw [Nat.zero_testBit] at h1; cases h1
    | true =>
      obtain ⟨y1, x1, hG, hbG⟩ := s2 hb
      rw [hb] at s1
      obtain ⟨ih1, ih2⟩ := ih (goalN nf d q) hG
      have e0 : rayR nf nr d (l + 1) q = rayR nf nr d l (goalN nf d q) ||| (1 <<< goalN nf d q) := by rw [rayR, hb, if_pos rfl]
      have tb : ∀ i, (rayR nf nr d (l + 1) q).testBit i = true ↔ (rayR nf nr d l (goalN nf d q)).testBit i = true ∨ goalN nf d q = i := fun i => by
        rw [e0, Nat.testBit_or, Bool.or_eq_true, Nat.shiftLeft_eq, Nat.one_mul, Nat.testBit_two_pow, decide_eq_true_iff]
      have hin := inB_iff.mp s1.symm
      have hw : walk f nr nf (wv d).1 (wv d).2 (l + 1) (((q % nf : Nat) : Int) + (wv d).1) (((q / nf : Nat) : Int) + (wv d).2) =
          idx nf (goalN nf d q) :: (if f (goalN nf d q / nf) (goalN nf d q % nf) then [] else walk f nr nf (wv d).1 (wv d).2 l (((goalN nf d q % nf : Nat) : Int) + (wv d).1) (((goalN nf d q / nf : Nat) : Int) + (wv d).2)) := by
        rw [walk, if_pos hin, y1, x1, Int.toNat_natCast, Int.toNat_natCast]
      refine ⟨fun i h => ?_, fun j => ?_⟩
      · rcases (tb i).mp h with h | rfl
        · obtain ⟨a, b⟩ := ih1 i h
          exact ⟨bef_trans hbG a, b⟩
        · exact ⟨hbG, hG⟩
      · rw [hw, List.mem_cons]
        constructor
        · rintro (h | h)
          · have ej := idx_inj h0 h
            subst ej
            refine ⟨(tb _).mpr (.inr rfl), fun i hi hti => ?_⟩
            rcases (tb i).mp hti with h | h
            · exact (bef_irrefl (bef_trans hi (ih1 i h).1)).elim
            · rw [h] at hi; exact (bef_irrefl hi).elim
          · cases hf : f (goalN nf d q / nf) (goalN nf d q % nf) with
            | true => rw [hf, if_pos rfl] at h; cases h
            | false =>
              rw [hf, if_neg Bool.false_ne_true] at h
              obtain ⟨a, b⟩ := (ih2 j).mp h
              refine ⟨(tb j).mpr (.inl a), fun i hi hti => ?_⟩
              rcases (tb i).mp hti with h | h
              · exact b i hi h
              · rw [← h]; exact hf
        · rintro ⟨a, b⟩
          rcases (tb j).mp a with h | h
          · right
            have hf := b (goalN nf d q) (ih1 j h).1 ((tb _).mpr (.inr rfl))
            rw [hf, if_neg Bool.false_ne_true]
            exact (ih2 j).mpr ⟨h, fun i hi hti => b i hi ((tb i).mpr (.inl hti))⟩
          · left; rw [h]
/-! no square twice -/
theorem walk_form {f : Nat → Nat → Bool} {nr nf : Nat} {dx dy : Int} {c : Int × Int} : ∀ {l : Nat} {x y : Int}, c ∈ walk f nr nf dx dy l x y → ∃ k : Int, 0 ≤ k ∧ c.1 = y + k * dy ∧ c.2 = x + k * dx
  | 0, _, _, h => nomatch h
  | l + 1, x, y, h => by
    unfold walk at h
    split at h
    · rcases List.mem_cons.mp h with rfl | h
      · exact ⟨0, Int.le_refl _, by simp, by simp⟩
      · split at h
        · cases h
        · obtain ⟨k, k0, h1, h2⟩ := walk_form h
          refine ⟨k + 1, by omega, ?_, ?_⟩
          · rw [h1, Int.add_mul, Int.one_mul]; omega
          · rw [h2, Int.add_mul, Int.one_mul]; omega
    · cases h
theorem walk_nodup {f : Nat → Nat → Bool} {nr nf : Nat} {dx dy : Int} (hd : ¬ (dx = 0 ∧ dy = 0)) : ∀ {l : Nat} {x y : Int}, (walk f nr nf dx dy l x y).Nodup
  | 0, _, _ => List.nodup_nil
  | l + 1, x, y => by
    unfold walk
    split
    · refine List.nodup_cons.mpr ⟨fun h => ?_, ?_⟩
      · split at h
        · cases h
        · obtain ⟨k, k0, h1, h2⟩ := walk_form h
          dsimp only at h1 h2
          have e1 : (k + 1) * dy = 0 := by rw [Int.add_mul, Int.one_mul]; omega
          have e2 : (k + 1) * dx = 0 := by rw [Int.add_mul, Int.one_mul]; omega
          rcases Int.mul_eq_zero.mp e1 with q | q
          · omega
          · rcases Int.mul_eq_zero.mp e2 with q' | q'
            · omega
            · exact hd ⟨q', q⟩
      · split
        · exact List.nodup_nil
        · exact walk_nodup hd
    · exact List.nodup_nil
def NP (a b : Int × Int) : Prop := ∀ k l : Int, 1 ≤ k → 1 ≤ l → ¬ (k * a.1 = l * b.1 ∧ k * a.2 = l * b.2)
theorem ways_np : waysL.Pairwise NP := by
  unfold waysL NP
  simp only [List.pairwise_cons, List.mem_cons, List.not_mem_nil, or_false, forall_eq_or_imp, forall_eq, List.Pairwise.nil, and_true]
  refine ⟨⟨?_, ?_, ?_, ?_, ?_, ?_, ?_⟩, ⟨?_, ?_, ?_, ?_, ?_, ?_⟩, ⟨?_, ?_, ?_, ?_, ?_⟩, ⟨?_, ?_, ?_, ?_⟩, ⟨?_, ?_, ?_⟩, ⟨?_, ?_⟩, ?_, ?_⟩
  all_goals first | (intro k l hk hl h; omega) | (intro a h; cases h)
theorem ways_ne {c : Int × Int} (h : c ∈ waysL) : ¬ (c.1 = 0 ∧ c.2 = 0) := by
  unfold waysL at h
  simp only [List.mem_cons, List.not_mem_nil, or_false] at h
  rcases h with rfl | rfl | rfl | rfl | rfl | rfl | rfl | rfl <;> decide
theorem met_nodup {f : Nat → Nat → Bool} {nr nf : Nat} {sq : Int} {l : Nat} {ws : List (Int × Int)} (hp : ws.Pairwise NP) (hne : ∀ c ∈ ws, ¬ (c.1 = 0 ∧ c.2 = 0)) : (metOf f nr nf sq l ws).Nodup := by
  unfold List.Nodup metOf
  rw [List.pairwise_flatMap]
  refine ⟨fun c hc => walk_nodup (hne c hc), List.Pairwise.imp (fun {a b} hab c hc d hd e => ?_) hp⟩
  obtain ⟨k, k0, h1, h2⟩ := walk_form hc
  obtain ⟨j, j0, h3, h4⟩ := walk_form hd
  subst e
  refine hab (k + 1) (j + 1) (by omega) (by omega) ⟨?_, ?_⟩
  · rw [Int.add_mul, Int.add_mul, Int.one_mul, Int.one_mul]; omega
  · rw [Int.add_mul, Int.add_mul, Int.one_mul, Int.one_mul]; omega
/-! fewer men, longer walks -/
theorem walk_mono {f f2 : Nat → Nat → Bool} {nr nf : Nat} {dx dy : Int} (h : ∀ y x, f2 y x = true → f y x = true) {c : Int × Int} : ∀ {l : Nat} {x y : Int}, c ∈ walk f nr nf dx dy l x y → c ∈ walk f2 nr nf dx dy l x y
  | 0, _, _, q => nomatch q
  | l + 1, x, y, q => by
    unfold walk at q ⊢
    split at q
    · rename_i hin
      rw [if_pos hin]
      rcases List.mem_cons.mp q with rfl | q
      · exact .head _
      · split at q
        · cases q
        · rename_i hf
          rw [if_neg fun q2 => hf (h _ _ q2)]
          exact .tail _ (walk_mono h q)
    · cases q
theorem met_mono {f f2 : Nat → Nat → Bool} {nr nf : Nat} {sq : Int} {l : Nat} {ws : List (Int × Int)} (h : ∀ y x, f2 y x = true → f y x = true) {c : Int × Int} (hc : c ∈ metOf f nr nf sq l ws) : c ∈ metOf f2 nr nf sq l ws := by
  obtain ⟨d, hd, hw⟩ := List.mem_flatMap.mp hc
  exact List.mem_flatMap.mpr ⟨d, hd, walk_mono h hw⟩

end PartPWalk

section PartPTabs
def stepN (nf nr q : Nat) (w : Int × Int) : Nat :=
  if inB nf nr (((q / nf : Nat) : Int) + w.2) (((q % nf : Nat) : Int) + w.1) then 2 ^ cellN nf (((q / nf : Nat) : Int) + w.2, ((q % nf : Nat) : Int) + w.1) else 0
set_option maxRecDepth 100000 in
theorem king_tab : (boards fun nf nr => (List.range (nf * nr)).all fun q => kingN nf nr 8 q == (waysL.map (stepN nf nr q)).sum) = true := by decide +kernel
set_option maxRecDepth 100000 in
theorem knight_tab : (boards fun nf nr => (List.range (nf * nr)).all fun q => knightN nf nr q == (leapsL.map (stepN nf nr q)).sum) = true := by decide +kernel
set_option maxRecDepth 100000 in
theorem pawn_tab : (boards fun nf nr => (List.range (nf * nr)).all fun q => (List.range 2).all fun c => pawnN nf nr c q == ((pawnW c).map (stepN nf nr q)).sum) = true := by decide +kernel
theorem fmod_nat (q nf : Nat) : Int.fmod (q : Int) (nf : Int) = ((q % nf : Nat) : Int) := by
  rw [Int.fmod_eq_emod_of_nonneg _ (Int.natCast_nonneg _)]; rfl
theorem fdiv_nat (q nf : Nat) : Int.fdiv (q : Int) (nf : Int) = ((q / nf : Nat) : Int) := by
  rw [Int.fdiv_eq_ediv_of_nonneg _ (Int.natCast_nonneg _)]; rfl
theorem board_append (nf : Nat) (a b : List (Int × Int)) : boardOf nf (a ++ b) = boardOf nf a + boardOf nf b := by
  unfold boardOf; rw [List.map_append, List.sum_append]
theorem walk_one {f : Nat → Nat → Bool} {nr nf : Nat} {dx dy x y : Int} : walk f nr nf dx dy 1 x y = if inB nf nr y x then [(y, x)] else [] := by
  cases h : inB nf nr y x with
  | true =>
    rw [walk, if_pos (inB_iff.mp h), if_pos rfl]
    split <;> rfl
  | false =>
    rw [walk, if_neg (fun q => by rw [inB_iff.mpr q] at h; cases h), if_neg Bool.false_ne_true]
theorem met_one (f : Nat → Nat → Bool) (nr nf q : Nat) : ∀ ws : List (Int × Int), boardOf nf (metOf f nr nf (q : Int) 1 ws) = (((ws.map (stepN nf nr q)).sum : Nat) : Int)
  | [] => rfl
  | w :: ws => by
    have ih := met_one f nr nf q ws
    unfold metOf at ih ⊢
    rw [List.flatMap_cons, board_append, ih, List.map_cons, List.sum_cons, Int.natCast_add, fmod_nat, fdiv_nat, walk_one]
    congr 1
    unfold stepN
    split
    · rw [board_nat]; simp [powS]
    · rfl
theorem king_eq {nf nr q : Nat} (hF : 2 ≤ nf ∧ nf ≤ 8) (hR : 3 ≤ nr ∧ nr ≤ 8) (hq : q < nf * nr) (f : Nat → Nat → Bool) : kingTab nf nr q = boardOf nf (metOf f nr nf (q : Int) 1 waysL) := by
  have h := all_range (boards_get king_tab hF hR) hq
  rw [met_one, ← eq_of_beq h]; rfl
theorem knight_eq {nf nr q : Nat} (hF : 2 ≤ nf ∧ nf ≤ 8) (hR : 3 ≤ nr ∧ nr ≤ 8) (hq : q < nf * nr) (f : Nat → Nat → Bool) : knightTab nf nr q = boardOf nf (metOf f nr nf (q : Int) 1 leapsL) := by
  have h := all_range (boards_get knight_tab hF hR) hq
  rw [met_one, ← eq_of_beq h]; rfl
theorem pawn_eq {nf nr q c : Nat} (hF : 2 ≤ nf ∧ nf ≤ 8) (hR : 3 ≤ nr ∧ nr ≤ 8) (hq : q < nf * nr) (hc : c < 2) (f : Nat → Nat → Bool) : pawnTab nf nr c q = boardOf nf (metOf f nr nf (q : Int) 1 (pawnW c)) := by
  have h := all_range (all_range (boards_get pawn_tab hF hR) hq) hc
  rw [met_one, ← eq_of_beq h]; rfl

end PartPTabs

section PartPLaw
theorem rayAtt_nat (ray : Nat) (g : Bool) (occ : Nat) : rayAtt (ray : Int) g (occ : Int) = ((rayN ray g occ : Nat) : Int) := by
  unfold rayAtt rayN
  dsimp only
  rw [bn_and]
  by_cases h : ray &&& occ = 0
  · rw [if_pos h, h]; rfl
  · rw [if_neg h, if_neg (fun e => h (by omega))]
    cases g with
    | true =>
      rw [if_pos rfl, if_pos rfl]
      have e : (((ray &&& occ : Nat) : Int)) - 1 = (((ray &&& occ) - 1 : Nat) : Int) := by omega
      rw [e, bn_xor, bn_and]
    | false =>
      rw [if_neg Bool.false_ne_true, if_neg Bool.false_ne_true]
      simp only [bn_shr, bn_or]
      exact bn_andnot _ _
theorem rayW_small {nf nr d q : Nat} (hF : 2 ≤ nf ∧ nf ≤ 8) (hR : 3 ≤ nr ∧ nr ≤ 8) (hd : d < 8) (hq : q < nf * nr) : rayW nf nr d q < 2 ^ 64 := by
  have hS : nf * nr ≤ 64 := Nat.mul_le_mul hF.2 hR.2
  refine Nat.lt_pow_two_of_testBit _ fun i hi => ?_
  cases e : (rayW nf nr d q).testBit i with
  | false => rfl
  | true =>
    have := ((walk_ray hF hR hd (fun _ _ => false) 8 q hq).1 i e).2
    omega
abbrev Occ (nf nr O : Nat) (f : Nat → Nat → Bool) : Prop := ∀ j, j < nf * nr → O.testBit j = f (j / nf) (j % nf)
abbrev wk (f : Nat → Nat → Bool) (nf nr d q : Nat) : List (Int × Int) := walk f nr nf (wv d).1 (wv d).2 8 (((q % nf : Nat) : Int) + (wv d).1) (((q / nf : Nat) : Int) + (wv d).2)
theorem rayA {nf nr d q O : Nat} {f : Nat → Nat → Bool} (hF : 2 ≤ nf ∧ nf ≤ 8) (hR : 3 ≤ nr ∧ nr ≤ 8) (hd : d < 8) (hq : q < nf * nr) (hO : Occ nf nr O f) {g : Bool} (hg : growing (d : Int) = g) :
    ∃ R : Nat, rayAtt (rayTab nf nr d q) g (O : Int) = (R : Int) ∧ ∀ j, R.testBit j = decide (idx nf j ∈ wk f nf nr d q) := by
  refine ⟨_, rayAtt_nat _ g O, fun j => ?_⟩
  obtain ⟨h1, h2⟩ := walk_ray hF hR hd f 8 q hq
  rw [hg] at h2
  rw [Bool.eq_iff_iff, decide_eq_true_iff, h2 j, rayN_bit (rayW_small hF hR hd hq)]
  refine and_congr_right fun _ => ?_
  constructor
  · intro h i hb ht
    rw [← hO i (h1 i ht).2]; exact h i hb ht
  · intro h i hb ht
    rw [hO i (h1 i ht).2]; exact h i hb ht
theorem met_wk {f : Nat → Nat → Bool} {nf nr q : Nat} {ws : List (Int × Int)} {c : Int × Int} : c ∈ metOf f nr nf (q : Int) 8 ws ↔ ∃ w ∈ ws, c ∈ walk f nr nf w.1 w.2 8 (((q % nf : Nat) : Int) + w.1) (((q / nf : Nat) : Int) + w.2) := by
  unfold metOf
  rw [List.mem_flatMap, fmod_nat, fdiv_nat]
theorem rookA {nf nr q O : Nat} {f : Nat → Nat → Bool} (hF : 2 ≤ nf ∧ nf ≤ 8) (hR : 3 ≤ nr ∧ nr ≤ 8) (hq : q < nf * nr) (hO : Occ nf nr O f) :
    ∃ R : Nat, rookAtt (fun d => rayTab nf nr d q) (O : Int) = (R : Int) ∧ ∀ j, R.testBit j = decide (idx nf j ∈ metOf f nr nf (q : Int) 8 (waysL.take 4)) := by
  obtain ⟨R0, e0, b0⟩ := rayA (d := 0) (g := true) hF hR (by decide) hq hO (by decide)
  obtain ⟨R1, e1, b1⟩ := rayA (d := 1) (g := true) hF hR (by decide) hq hO (by decide)
  obtain ⟨R2, e2, b2⟩ := rayA (d := 2) (g := false) hF hR (by decide) hq hO (by decide)
  obtain ⟨R3, e3, b3⟩ := rayA (d := 3) (g := false) hF hR (by decide) hq hO (by decide)
  refine ⟨(((0 ||| R0) ||| R1) ||| R2) ||| R3, ?_, fun j => ?_⟩
  · unfold rookAtt
    rw [e0, e1, e2, e3, bn_or0, bn_or, bn_or, bn_or]
  · rw [Bool.eq_iff_iff, decide_eq_true_iff, met_wk]
    simp only [Nat.testBit_or, Nat.zero_testBit, b0, b1, b2, b3, Bool.false_or, Bool.or_eq_true, decide_eq_true_eq]
    constructor
    · rintro (((h | h) | h) | h)
      · exact ⟨wv 0, by decide, h⟩
      · exact ⟨wv 1, by decide, h⟩
      · exact ⟨wv 2, by decide, h⟩
      · exact ⟨wv 3, by decide, h⟩
    · rintro ⟨w, hw, h⟩
      have hw' : w = wv 0 ∨ w = wv 1 ∨ w = wv 2 ∨ w = wv 3 := by
        have e : waysL.take 4 = [wv 0, wv 1, wv 2, wv 3] := rfl
        rw [e] at hw
        simpa only [List.mem_cons, List.not_mem_nil, or_false] using hw
      rcases hw' with rfl | rfl | rfl | rfl
      · exact .inl (.inl (.inl h))
      · exact .inl (.inl (.inr h))
      · exact .inl (.inr h)
      · exact .inr h
theorem bishopA {nf nr q O : Nat} {f : Nat → Nat → Bool} (hF : 2 ≤ nf ∧ nf ≤ 8) (hR : 3 ≤ nr ∧ nr ≤ 8) (hq : q < nf * nr) (hO : Occ nf nr O f) :
    ∃ R : Nat, bishopAtt (fun d => rayTab nf nr d q) (O : Int) = (R : Int) ∧ ∀ j, R.testBit j = decide (idx nf j ∈ metOf f nr nf (q : Int) 8 (waysL.drop 4)) := by
  obtain ⟨R0, e0, b0⟩ := rayA (d := 4) (g := true) hF hR (by decide) hq hO (by decide)
  obtain ⟨R1, e1, b1⟩ := rayA (d := 5) (g := false) hF hR (by decide) hq hO (by decide)
  obtain ⟨R2, e2, b2⟩ := rayA (d := 6) (g := false) hF hR (by decide) hq hO (by decide)
  obtain ⟨R3, e3, b3⟩ := rayA (d := 7) (g := true) hF hR (by decide) hq hO (by decide)
  refine ⟨(((0 ||| R0) ||| R1) ||| R2) ||| R3, ?_, fun j => ?_⟩
  · unfold bishopAtt
    rw [e0, e1, e2, e3, bn_or0, bn_or, bn_or, bn_or]
  · rw [Bool.eq_iff_iff, decide_eq_true_iff, met_wk]
    simp only [Nat.testBit_or, Nat.zero_testBit, b0, b1, b2, b3, Bool.false_or, Bool.or_eq_true, decide_eq_true_eq]
    constructor
    · rintro (((h | h) | h) | h)
      · exact ⟨wv 4, by decide, h⟩
      · exact ⟨wv 5, by decide, h⟩
      · exact ⟨wv 6, by decide, h⟩
      · exact ⟨wv 7, by decide, h⟩
    · rintro ⟨w, hw, h⟩
      have hw' : w = wv 4 ∨ w = wv 5 ∨ w = wv 6 ∨ w = wv 7 := by
        have e : waysL.drop 4 = [wv 4, wv 5, wv 6, wv 7] := rfl
        rw [e] at hw
        simpa only [List.mem_cons, List.not_mem_nil, or_false] using hw
      rcases hw' with rfl | rfl | rfl | rfl
      · exact .inl (.inl (.inl h))
      · exact .inl (.inl (.inr h))
      · exact .inl (.inr h)
      · exact .inr h
/-- a list of squares on the board is its bits -/
theorem board_of_bits {nf R : Nat} (h0 : 0 < nf) {cs : List (Int × Int)} (hin : ∀ c ∈ cs, InB nf c) (hn : cs.Nodup) (hb : ∀ j, R.testBit j = decide (idx nf j ∈ cs)) : (R : Int) = boardOf nf cs := by
  obtain ⟨B, e, h⟩ := board_bits h0 hin hn
  rw [e]
  congr 1
  exact Nat.eq_of_testBit_eq fun j => by rw [hb j, h j]
theorem met_inB {f : Nat → Nat → Bool} {nr nf : Nat} {sq : Int} {l : Nat} {ws : List (Int × Int)} : ∀ c ∈ metOf f nr nf sq l ws, InB nf c := fun c hc => by
  obtain ⟨h1, _, h3, h4⟩ := metOf_in hc
  exact ⟨h1, h3, h4⟩
theorem take_np : (waysL.take 4).Pairwise NP := ways_np.sublist (List.take_sublist _ _)
theorem drop_np : (waysL.drop 4).Pairwise NP := ways_np.sublist (List.drop_sublist _ _)
theorem take_ne : ∀ c ∈ waysL.take 4, ¬ (c.1 = 0 ∧ c.2 = 0) := fun _ h => ways_ne (List.mem_of_mem_take h)
theorem drop_ne : ∀ c ∈ waysL.drop 4, ¬ (c.1 = 0 ∧ c.2 = 0) := fun _ h => ways_ne (List.mem_of_mem_drop h)
/-- the second look -/
theorem xrayA {nf nr q O W : Nat} {f g : Nat → Nat → Bool} {att : Int → Int} {ws : List (Int × Int)} (hF : 2 ≤ nf ∧ nf ≤ 8) (hO : Occ nf nr O f) (hW : Occ nf nr W g) (hp : ws.Pairwise NP) (hne : ∀ c ∈ ws, ¬ (c.1 = 0 ∧ c.2 = 0))
    (ha : ∀ (O : Nat) f, Occ nf nr O f → ∃ R : Nat, att (O : Int) = (R : Int) ∧ ∀ j, R.testBit j = decide (idx nf j ∈ metOf f nr nf (q : Int) 8 ws)) :
    xrayOf att (O : Int) (W : Int) = boardOf nf (anewOf f g nr nf (q : Int) ws) := by
  have h0 : 0 < nf := by omega
  obtain ⟨A, e1, b1⟩ := ha O f hO
  have hO2 : Occ nf nr (O ^^^ ((A &&& W) &&& O)) (strike f g (metOf f nr nf (q : Int) 8 ws)) := fun j hj => by
    unfold strike
    rw [Nat.testBit_xor, Nat.testBit_and, Nat.testBit_and, hO j hj, hW j hj, b1 j]
    cases f (j / nf) (j % nf) <;> cases g (j / nf) (j % nf) <;> cases decide (idx nf j ∈ metOf f nr nf (q : Int) 8 ws) <;> rfl
  obtain ⟨A2, e2, b2⟩ := ha _ _ hO2
  unfold xrayOf
  rw [e1, bn_and, bn_and, bn_xor, e2, bn_xor]
  refine board_of_bits h0 (fun c hc => met_inB c (List.mem_filter.mp hc).1) (List.Pairwise.filter _ (met_nodup hp hne)) fun j => ?_
  rw [Nat.testBit_xor, b1 j, b2 j, Bool.eq_iff_iff, decide_eq_true_iff]
  unfold anewOf
  rw [List.mem_filter]
  have mono : idx nf j ∈ metOf f nr nf (q : Int) 8 ws → idx nf j ∈ metOf (strike f g (metOf f nr nf (q : Int) 8 ws)) nr nf (q : Int) 8 ws := met_mono fun y x h => by
    unfold strike at h
    exact (Bool.and_eq_true_iff.mp h).1
  by_cases m1 : idx nf j ∈ metOf f nr nf (q : Int) 8 ws
  · have m2 := mono m1
    simp [m1, m2]
  · by_cases m2 : idx nf j ∈ metOf (strike f g (metOf f nr nf (q : Int) 8 ws)) nr nf (q : Int) 8 ws <;> simp [m1, m2]
theorem plain_all : PlainAll := by
  intro nf nr hF hR f g side sq d0 d2 s0 s1
  obtain ⟨q, rfl⟩ := Int.eq_ofNat_of_zero_le s0
  have hq : q < nf * nr := by omega
  have h0 : 0 < nf := by omega
  have hdiv : ∀ j, j < nf * nr → j / nf < nr := fun j hj => Nat.div_lt_of_lt_mul hj
  obtain ⟨O, eO, bO⟩ := men_bits h0 f nr
  obtain ⟨W, eW, bW⟩ := men_bits h0 g nr
  have hO : Occ nf nr O f := fun j hj => by rw [bO j, decide_eq_true (hdiv j hj), Bool.true_and]
  have hW : Occ nf nr W g := fun j hj => by rw [bW j, decide_eq_true (hdiv j hj), Bool.true_and]
  have rook : rookAtt (fun d => rayTab nf nr d q) (O : Int) = boardOf nf (metOf f nr nf (q : Int) 8 (waysL.take 4)) := by
    obtain ⟨R, e, b⟩ := rookA hF hR hq hO
    rw [e]; exact board_of_bits h0 met_inB (met_nodup take_np take_ne) b
  have bishop : bishopAtt (fun d => rayTab nf nr d q) (O : Int) = boardOf nf (metOf f nr nf (q : Int) 8 (waysL.drop 4)) := by
    obtain ⟨R, e, b⟩ := bishopA hF hR hq hO
    rw [e]; exact board_of_bits h0 met_inB (met_nodup drop_np drop_ne) b
  have queen : Builtin.bitOr (rookAtt (fun d => rayTab nf nr d q) (O : Int)) (bishopAtt (fun d => rayTab nf nr d q) (O : Int)) = boardOf nf (metOf f nr nf (q : Int) 8 waysL) := by
    obtain ⟨R, e, b⟩ := rookA hF hR hq hO
    obtain ⟨B, e', b'⟩ := bishopA hF hR hq hO
    rw [e, e', bn_or]
    refine board_of_bits h0 met_inB (met_nodup ways_np fun _ h => ways_ne h) fun j => ?_
    have em : metOf f nr nf (q : Int) 8 waysL = metOf f nr nf (q : Int) 8 (waysL.take 4) ++ metOf f nr nf (q : Int) 8 (waysL.drop 4) := by
      unfold metOf; rw [← List.flatMap_append, List.take_append_drop]
    rw [Nat.testBit_or, b j, b' j, em, Bool.eq_iff_iff]
    simp only [Bool.or_eq_true, decide_eq_true_eq, List.mem_append]
  have slider : ∀ k : Int, 3 ≤ k → k ≤ 5 → sliderAtt (fun d => rayTab nf nr d q) k (O : Int) = boardOf nf (wantL f nr nf (q : Int) k) := fun k k3 k5 => by
    rcases (by omega : k = 3 ∨ k = 4 ∨ k = 5) with rfl | rfl | rfl
    · exact bishop
    · exact rook
    · exact queen
  refine ⟨fun d hd => ?_, fun i hi => ?_, fun k k2 k6 => ?_, ?_, ?_, ?_⟩ <;> (try rw [eO]) <;> (try rw [eW]) <;> (try simp only [Int.toNat_natCast])
  · obtain ⟨R, e, b⟩ := rayA (g := growing (d : Int)) hF hR hd hq hO rfl
    rw [e]
    refine board_of_bits h0 met_inB (met_nodup (List.pairwise_singleton _ _) fun c hc => ?_) fun j => ?_
    · rw [List.mem_singleton.mp hc]
      refine ways_ne ?_
      rw [List.getD_eq_getElem?_getD, List.getElem?_eq_getElem (show d < waysL.length from hd)]
      exact List.getElem_mem _
    · rw [b j, Bool.eq_iff_iff, decide_eq_true_iff, decide_eq_true_iff, met_wk]
      exact ⟨fun h => ⟨_, List.mem_singleton.mpr rfl, h⟩, fun ⟨w, hw, h⟩ => by rw [List.mem_singleton.mp hw] at h; exact h⟩
  · unfold pieceAtt
    rw [if_pos rfl]
    show pawnTab nf nr ((i : Int)).toNat q = _
    rw [Int.toNat_natCast]
    exact pawn_eq hF hR hq hi f
  · rcases (by omega : k = 2 ∨ (3 ≤ k ∧ k ≤ 5) ∨ k = 6) with rfl | h | rfl
    · exact knight_eq hF hR hq f
    · unfold pieceAtt
      rw [if_neg (by omega), if_neg (by omega), if_neg (by omega)]
      exact slider k h.1 h.2
    · exact king_eq hF hR hq f
  · exact slider
  · exact xrayA hF hO hW take_np take_ne fun O f h => rookA hF hR hq h
  · exact xrayA hF hO hW drop_np drop_ne fun O f h => bishopA hF hR hq h

end PartPLaw

end Mine

set_option maxHeartbeats 8000000 in
theorem PySem.Challenge.cw_nt0422_01_holds : PySem.Challenge.rw_nt0422_01.Holds := by
  exact Mine.law_of_plain Mine.plain_all
