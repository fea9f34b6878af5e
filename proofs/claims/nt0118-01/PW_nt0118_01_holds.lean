import PyProof.Rows.All
import Wide.All
import OpenK.AllK
import Wide.FinOn
import Lean
import PySem.Challenge.RW_nt0118_01
set_option Elab.async false
open PySem PySem.W PyProof.Rows
set_option maxRecDepth 100000
set_option maxHeartbeats 0
namespace Mine
/-- the i-th statement of the text; the j-th of the i-th, a class -/
def stm (i : Nat) : Stmt := (PySem.Challenge.pw_nt0118_01.main.body[i]?).getD (.Pass default)
def meth (i j : Nat) : Stmt := match stm i with
  | .ClassDef _ _ _ b .. => (b[j]?).getD (.Pass default)
  | s => s
/-- the function that a def statement makes -/
@[reducible] def fobj {s : Stmt} {name : Str} {args : Arguments} {body : List Stmt} {decs : List PySem.Expr} {rets : Option PySem.Expr} {tps : List TypeParam} {scope : Scope} {tscope : Option Scope} {bind : Str} {pos : Pos}
    (_h : s = .FunctionDef name args body decs rets tps scope tscope bind pos) (qual : Str) (df mo code : Value) : Obj :=
  { cls := .type "function", data := .func { name := name, qualname := qual, params := args, body := .stmts body, scope := scope, globals := 3, closure := [], defaults := df, kwdefaults := .none, pyModule := mo, code := code } }
/-- the written part of the state: what the walk reads -/
noncomputable def K (P : Params) : Frag :=
  (nat_lit 2, { cls := Value.none, data := Data.dict #[{ hash := PyData.keyHash P (Str.ofString "type.__subclasses__.Exception.0"), key := Value.str (Str.ofString "type.__subclasses__.Exception.0") 214, val := Value.int 31 0 }, { hash := PyData.keyHash P (Str.ofString "type.__subclasses__.Exception.n"), key := Value.str (Str.ofString "type.__subclasses__.Exception.n") 215, val := Value.int 1 0 }] 2 }) ::
  (nat_lit 3, { cls := Value.type "dict", data := Data.dict (Array.mk ({ hash := PyData.keyHash P (Str.ofString "__name__"), key := Value.str (Str.ofString "__name__") 165, val := Value.str (Str.ofString "law_nt0118_01") 767 } ::
      { hash := PyData.keyHash P (Str.ofString "__doc__"), key := Value.str (Str.ofString "__doc__") 166, val := Value.none } ::
      { hash := PyData.keyHash P (Str.ofString "__package__"), key := Value.str (Str.ofString "__package__") 167, val := Value.none } ::
      { hash := PyData.keyHash P (Str.ofString "__loader__"), key := Value.str (Str.ofString "__loader__") 168, val := Value.builtin "__main__.__loader__#opaque" } ::
      { hash := PyData.keyHash P (Str.ofString "__spec__"), key := Value.str (Str.ofString "__spec__") 169, val := Value.none } ::
      { hash := PyData.keyHash P (Str.ofString "__annotations__"), key := Value.str (Str.ofString "__annotations__") 170, val := Value.ref 6 } ::
      { hash := PyData.keyHash P (Str.ofString "__builtins__"), key := Value.str (Str.ofString "__builtins__") 171, val := Value.ref 4 } ::
      { hash := PyData.keyHash P (Str.ofString "__file__"), key := Value.str (Str.ofString "__file__") 173, val := Value.str (Str.ofString "/claim/cut.py") 172 } ::
      { hash := PyData.keyHash P (Str.ofString "__cached__"), key := Value.str (Str.ofString "__cached__") 174, val := Value.none } ::
      { hash := PyData.keyHash P (Str.ofString "PagebaseError"), key := Value.str (Str.ofString "PagebaseError") 217, val := Value.ref 31 } ::
      { hash := PyData.keyHash P (Str.ofString "SqlError"), key := Value.str (Str.ofString "SqlError") 233, val := Value.ref 44 } ::
      { hash := PyData.keyHash P (Str.ofString "TooBigError"), key := Value.str (Str.ofString "TooBigError") 249, val := Value.ref 56 } ::
      { hash := PyData.keyHash P (Str.ofString "MisuseError"), key := Value.str (Str.ofString "MisuseError") 265, val := Value.ref 68 } ::
      { hash := PyData.keyHash P (Str.ofString "MIN_INT"), key := Value.str (Str.ofString "MIN_INT") 272, val := Value.int (-9223372036854775808) 271 } ::
      { hash := PyData.keyHash P (Str.ofString "MAX_INT"), key := Value.str (Str.ofString "MAX_INT") 278, val := Value.int 9223372036854775807 277 } ::
      { hash := PyData.keyHash P (Str.ofString "STORAGE_RANKS"), key := Value.str (Str.ofString "STORAGE_RANKS") 291, val := Value.ref 71 } ::
      { hash := PyData.keyHash P (Str.ofString "SPACES"), key := Value.str (Str.ofString "SPACES") 293, val := Value.str (Str.ofString " \t\n\x0b\x0c\x0d") 292 } ::
      { hash := PyData.keyHash P (Str.ofString "DIGITS"), key := Value.str (Str.ofString "DIGITS") 295, val := Value.str (Str.ofString "0123456789") 294 } ::
      { hash := PyData.keyHash P (Str.ofString "HEX_DIGITS"), key := Value.str (Str.ofString "HEX_DIGITS") 297, val := Value.str (Str.ofString "0123456789ABCDEF") 296 } ::
      { hash := PyData.keyHash P (Str.ofString "REPLACEMENT"), key := Value.str (Str.ofString "REPLACEMENT") 300, val := Value.str (Str.ofString "�") 299 } ::
      { hash := PyData.keyHash P (Str.ofString "utf8"), key := Value.str (Str.ofString "utf8") 310, val := Value.ref 78 } ::
      { hash := PyData.keyHash P (Str.ofString "lead_of"), key := Value.str (Str.ofString "lead_of") 317, val := Value.ref 85 } ::
      { hash := PyData.keyHash P (Str.ofString "text_of"), key := Value.str (Str.ofString "text_of") 328, val := Value.ref 92 } ::
      { hash := PyData.keyHash P (Str.ofString "code_at"), key := Value.str (Str.ofString "code_at") 341, val := Value.ref 99 } ::
      { hash := PyData.keyHash P (Str.ofString "fold_ascii"), key := Value.str (Str.ofString "fold_ascii") 350, val := Value.ref 106 } ::
      { hash := PyData.keyHash P (Str.ofString "hex_text"), key := Value.str (Str.ofString "hex_text") 359, val := Value.ref 113 } ::
      { hash := PyData.keyHash P (Str.ofString "storage_class"), key := Value.str (Str.ofString "storage_class") 366, val := Value.ref 120 } ::
      { hash := PyData.keyHash P (Str.ofString "collate"), key := Value.str (Str.ofString "collate") 375, val := Value.ref 127 } ::
      { hash := PyData.keyHash P (Str.ofString "sign_of"), key := Value.str (Str.ofString "sign_of") 383, val := Value.ref 134 } ::
      { hash := PyData.keyHash P (Str.ofString "compare_values"), key := Value.str (Str.ofString "compare_values") 395, val := Value.ref 142 } ::
      { hash := PyData.keyHash P (Str.ofString "digits_end"), key := Value.str (Str.ofString "digits_end") 403, val := Value.ref 149 } ::
      { hash := PyData.keyHash P (Str.ofString "number_span"), key := Value.str (Str.ofString "number_span") 413, val := Value.ref 156 } ::
      { hash := PyData.keyHash P (Str.ofString "number_of"), key := Value.str (Str.ofString "number_of") 422, val := Value.ref 163 } ::
      { hash := PyData.keyHash P (Str.ofString "as_integer"), key := Value.str (Str.ofString "as_integer") 431, val := Value.ref 170 } ::
      { hash := PyData.keyHash P (Str.ofString "as_text"), key := Value.str (Str.ofString "as_text") 438, val := Value.ref 177 } ::
      { hash := PyData.keyHash P (Str.ofString "write_literal"), key := Value.str (Str.ofString "write_literal") 446, val := Value.ref 184 } ::
      { hash := PyData.keyHash P (Str.ofString "ANY"), key := Value.str (Str.ofString "ANY") 450, val := Value.int 0 449 } ::
      { hash := PyData.keyHash P (Str.ofString "ONE"), key := Value.str (Str.ofString "ONE") 452, val := Value.int 1 451 } ::
      { hash := PyData.keyHash P (Str.ofString "SIGN"), key := Value.str (Str.ofString "SIGN") 454, val := Value.int 2 453 } ::
      { hash := PyData.keyHash P (Str.ofString "LOT"), key := Value.str (Str.ofString "LOT") 456, val := Value.int 3 455 } ::
      { hash := PyData.keyHash P (Str.ofString "Part"), key := Value.str (Str.ofString "Part") 502, val := Value.ref 209 } ::
      { hash := PyData.keyHash P (Str.ofString "matches"), key := Value.str (Str.ofString "matches") 514, val := Value.ref 220 } ::
      { hash := PyData.keyHash P (Str.ofString "like_parts"), key := Value.str (Str.ofString "like_parts") 525, val := Value.ref 227 } ::
      { hash := PyData.keyHash P (Str.ofString "like"), key := Value.str (Str.ofString "like") 535, val := Value.ref 235 } ::
      { hash := PyData.keyHash P (Str.ofString "lot_at"), key := Value.str (Str.ofString "lot_at") 546, val := Value.ref 242 } ::
      { hash := PyData.keyHash P (Str.ofString "glob_parts"), key := Value.str (Str.ofString "glob_parts") 557, val := Value.ref 249 } ::
      { hash := PyData.keyHash P (Str.ofString "glob"), key := Value.str (Str.ofString "glob") 566, val := Value.ref 256 } ::
      { hash := PyData.keyHash P (Str.ofString "MOST_OCTETS"), key := Value.str (Str.ofString "MOST_OCTETS") 570, val := Value.int 100000 569 } ::
      { hash := PyData.keyHash P (Str.ofString "octets_of"), key := Value.str (Str.ofString "octets_of") 577, val := Value.ref 263 } ::
      { hash := PyData.keyHash P (Str.ofString "lowered"), key := Value.str (Str.ofString "lowered") 583, val := Value.ref 268 } ::
      { hash := PyData.keyHash P (Str.ofString "raised"), key := Value.str (Str.ofString "raised") 589, val := Value.ref 273 } ::
      { hash := PyData.keyHash P (Str.ofString "length_of"), key := Value.str (Str.ofString "length_of") 596, val := Value.ref 280 } ::
      { hash := PyData.keyHash P (Str.ofString "place_in"), key := Value.str (Str.ofString "place_in") 604, val := Value.ref 287 } ::
      { hash := PyData.keyHash P (Str.ofString "trimmed"), key := Value.str (Str.ofString "trimmed") 616, val := Value.ref 294 } ::
      { hash := PyData.keyHash P (Str.ofString "part_of"), key := Value.str (Str.ofString "part_of") 627, val := Value.ref 301 } ::
      { hash := PyData.keyHash P (Str.ofString "replaced"), key := Value.str (Str.ofString "replaced") 633, val := Value.ref 306 } ::
      { hash := PyData.keyHash P (Str.ofString "chosen"), key := Value.str (Str.ofString "chosen") 645, val := Value.ref 313 } ::
      { hash := PyData.keyHash P (Str.ofString "signs_of"), key := Value.str (Str.ofString "signs_of") 655, val := Value.ref 320 } ::
      { hash := PyData.keyHash P (Str.ofString "zeros"), key := Value.str (Str.ofString "zeros") 663, val := Value.ref 327 } ::
      { hash := PyData.keyHash P (Str.ofString "matched"), key := Value.str (Str.ofString "matched") 672, val := Value.ref 334 } ::
      { hash := PyData.keyHash P (Str.ofString "call_with_nulls"), key := Value.str (Str.ofString "call_with_nulls") 678, val := Value.ref 339 } ::
      { hash := PyData.keyHash P (Str.ofString "call_function"), key := Value.str (Str.ofString "call_function") 693, val := Value.ref 346 } ::
      { hash := PyData.keyHash P (Str.ofString "call_on_texts"), key := Value.str (Str.ofString "call_on_texts") 702, val := Value.ref 353 } ::
      { hash := PyData.keyHash P (Str.ofString "better"), key := Value.str (Str.ofString "better") 714, val := Value.ref 360 } ::
      { hash := PyData.keyHash P (Str.ofString "Aggregate"), key := Value.str (Str.ofString "Aggregate") 766, val := Value.ref 391 } ::
      { hash := PyData.keyHash P (Str.ofString "_law_pool"), key := Value.str (Str.ofString "_law_pool") 779, val := Value.ref 402 } ::
      { hash := PyData.keyHash P (Str.ofString "_law_take"), key := Value.str (Str.ofString "_law_take") 788, val := Value.ref 409 } ::
      { hash := PyData.keyHash P (Str.ofString "_law_one"), key := Value.str (Str.ofString "_law_one") 796, val := Value.ref 416 } ::
      { hash := PyData.keyHash P (Str.ofString "_law_value"), key := Value.str (Str.ofString "_law_value") 803, val := Value.ref 423 } ::
      { hash := PyData.keyHash P (Str.ofString "_law_place"), key := Value.str (Str.ofString "_law_place") 809, val := Value.ref 428 } ::
      { hash := PyData.keyHash P (Str.ofString "_law_gathered"), key := Value.str (Str.ofString "_law_gathered") 820, val := Value.ref 435 } ::
      { hash := PyData.keyHash P (Str.ofString "law"), key := Value.str (Str.ofString "law") 826, val := Value.ref 440 } :: [])) 72 }) ::
  (nat_lit 71, { cls := Value.type "dict", data := Data.dict #[{ hash := PyData.keyHash P (Str.ofString "null"), key := Value.str (Str.ofString "null") 279, val := Value.int 0 280 }, { hash := PyData.keyHash P (Str.ofString "integer"), key := Value.str (Str.ofString "integer") 281, val := Value.int 1 282 }, { hash := PyData.keyHash P (Str.ofString "text"), key := Value.str (Str.ofString "text") 283, val := Value.int 2 284 }, { hash := PyData.keyHash P (Str.ofString "blob"), key := Value.str (Str.ofString "blob") 285, val := Value.int 3 286 }] 4 }) ::
  (nat_lit 72, { cls := Value.type "tuple", data := Data.seq #[] }) ::
  (nat_lit 105, { cls := Value.type "code", data := Data.fields #[Value.str (Str.ofString "fold_ascii") 342, Value.str (Str.ofString "fold_ascii") 343, Value.str (Str.ofString "/claim/cut.py") 344, Value.int 75 0, Value.int 1 0, Value.int 0 0, Value.int 0 0, Value.int 3 0, Value.ref 100, Value.bool true, Value.int 181 0, Value.ref 101, Value.none, Value.ref 102, Value.ref 103, Value.ref 104, Value.int 348 0, Value.int 75 0, Value.str (Str.ofString "/claim/cut.py") 349] }) ::
  (nat_lit 106, fobj (s := stm 17) rfl (Str.ofString "fold_ascii") (Value.none) (Value.str (Str.ofString "pagebase.values") 266) (Value.ref 105)) ::
  (nat_lit 119, { cls := Value.type "code", data := Data.fields #[Value.str (Str.ofString "storage_class") 360, Value.str (Str.ofString "storage_class") 361, Value.str (Str.ofString "/claim/cut.py") 362, Value.int 89 0, Value.int 1 0, Value.int 0 0, Value.int 0 0, Value.int 3 0, Value.ref 114, Value.bool true, Value.int 181 0, Value.ref 115, Value.none, Value.ref 116, Value.ref 117, Value.ref 118, Value.int 364 0, Value.int 89 0, Value.str (Str.ofString "/claim/cut.py") 365] }) ::
  (nat_lit 120, fobj (s := stm 19) rfl (Str.ofString "storage_class") (Value.none) (Value.str (Str.ofString "pagebase.values") 266) (Value.ref 119)) ::
  (nat_lit 126, { cls := Value.type "code", data := Data.fields #[Value.str (Str.ofString "collate") 367, Value.str (Str.ofString "collate") 368, Value.str (Str.ofString "/claim/cut.py") 369, Value.int 99 0, Value.int 2 0, Value.int 0 0, Value.int 0 0, Value.int 3 0, Value.ref 121, Value.bool true, Value.int 181 0, Value.ref 122, Value.none, Value.ref 123, Value.ref 124, Value.ref 125, Value.int 373 0, Value.int 99 0, Value.str (Str.ofString "/claim/cut.py") 374] }) ::
  (nat_lit 127, fobj (s := stm 20) rfl (Str.ofString "collate") (Value.none) (Value.str (Str.ofString "pagebase.values") 266) (Value.ref 126)) ::
  (nat_lit 133, { cls := Value.type "code", data := Data.fields #[Value.str (Str.ofString "sign_of") 376, Value.str (Str.ofString "sign_of") 377, Value.str (Str.ofString "/claim/cut.py") 378, Value.int 110 0, Value.int 2 0, Value.int 0 0, Value.int 0 0, Value.int 3 0, Value.ref 128, Value.bool true, Value.int 181 0, Value.ref 129, Value.none, Value.ref 130, Value.ref 131, Value.ref 132, Value.int 381 0, Value.int 110 0, Value.str (Str.ofString "/claim/cut.py") 382] }) ::
  (nat_lit 134, fobj (s := stm 21) rfl (Str.ofString "sign_of") (Value.none) (Value.str (Str.ofString "pagebase.values") 266) (Value.ref 133)) ::
  (nat_lit 135, { cls := Value.type "tuple", data := Data.seq #[Value.str (Str.ofString "binary") 384] }) ::
  (nat_lit 141, { cls := Value.type "code", data := Data.fields #[Value.str (Str.ofString "compare_values") 385, Value.str (Str.ofString "compare_values") 386, Value.str (Str.ofString "/claim/cut.py") 387, Value.int 116 0, Value.int 3 0, Value.int 0 0, Value.int 0 0, Value.int 3 0, Value.ref 136, Value.bool true, Value.int 181 0, Value.ref 137, Value.none, Value.ref 138, Value.ref 139, Value.ref 140, Value.int 393 0, Value.int 116 0, Value.str (Str.ofString "/claim/cut.py") 394] }) ::
  (nat_lit 142, fobj (s := stm 22) rfl (Str.ofString "compare_values") (Value.ref 135) (Value.str (Str.ofString "pagebase.values") 266) (Value.ref 141)) ::
  (nat_lit 312, { cls := Value.type "code", data := Data.fields #[Value.str (Str.ofString "chosen") 634, Value.str (Str.ofString "chosen") 635, Value.str (Str.ofString "/claim/cut.py") 636, Value.int 343 0, Value.int 3 0, Value.int 0 0, Value.int 0 0, Value.int 3 0, Value.ref 307, Value.bool true, Value.int 181 0, Value.ref 308, Value.none, Value.ref 309, Value.ref 310, Value.ref 311, Value.int 643 0, Value.int 343 0, Value.str (Str.ofString "/claim/cut.py") 644] }) ::
  (nat_lit 313, fobj (s := stm 51) rfl (Str.ofString "chosen") (Value.none) (Value.str (Str.ofString "pagebase.functions") 567) (Value.ref 312)) ::
  (nat_lit 338, { cls := Value.type "code", data := Data.fields #[Value.str (Str.ofString "call_with_nulls") 673, Value.str (Str.ofString "call_with_nulls") 674, Value.str (Str.ofString "/claim/cut.py") 675, Value.int 370 0, Value.int 4 0, Value.int 0 0, Value.int 0 0, Value.int 3 0, Value.ref 335, Value.bool true, Value.int 181 0, Value.ref 336, Value.none, Value.none, Value.none, Value.ref 337, Value.int 676 0, Value.int 370 0, Value.str (Str.ofString "/claim/cut.py") 677] }) ::
  (nat_lit 339, fobj (s := stm 55) rfl (Str.ofString "call_with_nulls") (Value.none) (Value.str (Str.ofString "pagebase.functions") 567) (Value.ref 338)) ::
  (nat_lit 345, { cls := Value.type "code", data := Data.fields #[Value.str (Str.ofString "call_function") 679, Value.str (Str.ofString "call_function") 680, Value.str (Str.ofString "/claim/cut.py") 681, Value.int 395 0, Value.int 4 0, Value.int 0 0, Value.int 0 0, Value.int 3 0, Value.ref 340, Value.bool true, Value.int 181 0, Value.ref 341, Value.none, Value.ref 342, Value.ref 343, Value.ref 344, Value.int 691 0, Value.int 395 0, Value.str (Str.ofString "/claim/cut.py") 692] }) ::
  (nat_lit 346, fobj (s := stm 56) rfl (Str.ofString "call_function") (Value.none) (Value.str (Str.ofString "pagebase.functions") 567) (Value.ref 345)) ::
  (nat_lit 352, { cls := Value.type "code", data := Data.fields #[Value.str (Str.ofString "call_on_texts") 694, Value.str (Str.ofString "call_on_texts") 695, Value.str (Str.ofString "/claim/cut.py") 696, Value.int 415 0, Value.int 2 0, Value.int 0 0, Value.int 0 0, Value.int 3 0, Value.ref 347, Value.bool true, Value.int 181 0, Value.ref 348, Value.none, Value.ref 349, Value.ref 350, Value.ref 351, Value.int 700 0, Value.int 415 0, Value.str (Str.ofString "/claim/cut.py") 701] }) ::
  (nat_lit 353, fobj (s := stm 57) rfl (Str.ofString "call_on_texts") (Value.none) (Value.str (Str.ofString "pagebase.functions") 567) (Value.ref 352)) ::
  (nat_lit 359, { cls := Value.type "code", data := Data.fields #[Value.str (Str.ofString "better") 705, Value.str (Str.ofString "better") 706, Value.str (Str.ofString "/claim/cut.py") 707, Value.int 437 0, Value.int 4 0, Value.int 0 0, Value.int 0 0, Value.int 3 0, Value.ref 354, Value.bool true, Value.int 181 0, Value.ref 355, Value.none, Value.ref 356, Value.ref 357, Value.ref 358, Value.int 712 0, Value.int 437 0, Value.str (Str.ofString "/claim/cut.py") 713] }) ::
  (nat_lit 360, fobj (s := stm 59) rfl (Str.ofString "better") (Value.none) (Value.str (Str.ofString "pagebase.aggregates") 703) (Value.ref 359)) ::
  (nat_lit 373, { cls := Value.type "code", data := Data.fields #[Value.str (Str.ofString "__init__") 727, Value.str (Str.ofString "Aggregate.__init__") 728, Value.str (Str.ofString "/claim/cut.py") 729, Value.int 441 0, Value.int 3 0, Value.int 0 0, Value.int 0 0, Value.int 3 0, Value.ref 368, Value.bool true, Value.int 181 0, Value.ref 369, Value.none, Value.ref 370, Value.ref 371, Value.ref 372, Value.int 733 0, Value.int 441 0, Value.str (Str.ofString "/claim/cut.py") 734] }) ::
  (nat_lit 374, fobj (s := meth 60 0) rfl (Str.ofString "Aggregate.__init__") (Value.none) (Value.str (Str.ofString "pagebase.aggregates") 703) (Value.ref 373)) ::
  (nat_lit 380, { cls := Value.type "code", data := Data.fields #[Value.str (Str.ofString "step") 736, Value.str (Str.ofString "Aggregate.step") 737, Value.str (Str.ofString "/claim/cut.py") 738, Value.int 449 0, Value.int 2 0, Value.int 0 0, Value.int 0 0, Value.int 3 0, Value.ref 375, Value.bool true, Value.int 181 0, Value.ref 376, Value.none, Value.ref 377, Value.ref 378, Value.ref 379, Value.int 743 0, Value.int 449 0, Value.str (Str.ofString "/claim/cut.py") 744] }) ::
  (nat_lit 381, fobj (s := meth 60 1) rfl (Str.ofString "Aggregate.step") (Value.none) (Value.str (Str.ofString "pagebase.aggregates") 703) (Value.ref 380)) ::
  (nat_lit 387, { cls := Value.type "code", data := Data.fields #[Value.str (Str.ofString "final") 746, Value.str (Str.ofString "Aggregate.final") 747, Value.str (Str.ofString "/claim/cut.py") 748, Value.int 470 0, Value.int 1 0, Value.int 0 0, Value.int 0 0, Value.int 3 0, Value.ref 382, Value.bool true, Value.int 181 0, Value.ref 383, Value.none, Value.ref 384, Value.ref 385, Value.ref 386, Value.int 750 0, Value.int 470 0, Value.str (Str.ofString "/claim/cut.py") 751] }) ::
  (nat_lit 388, fobj (s := meth 60 2) rfl (Str.ofString "Aggregate.final") (Value.none) (Value.str (Str.ofString "pagebase.aggregates") 703) (Value.ref 387)) ::
  (nat_lit 389, { cls := Value.type "tuple", data := Data.seq #[Value.str (Str.ofString "best") 753, Value.str (Str.ofString "collation") 754, Value.str (Str.ofString "many") 755, Value.str (Str.ofString "pieces") 756, Value.str (Str.ofString "summed") 757, Value.str (Str.ofString "word") 758] }) ::
  (nat_lit 390, { cls := Value.type "dict", data := Data.dict #[{ hash := PyData.keyHash P (Str.ofString "__module__"), key := Value.str (Str.ofString "__module__") 722, val := Value.str (Str.ofString "pagebase.aggregates") 703 }, { hash := PyData.keyHash P (Str.ofString "__firstlineno__"), key := Value.str (Str.ofString "__firstlineno__") 726, val := Value.int 439 725 }, { hash := PyData.keyHash P (Str.ofString "__init__"), key := Value.str (Str.ofString "__init__") 735, val := Value.ref 374 }, { hash := PyData.keyHash P (Str.ofString "step"), key := Value.str (Str.ofString "step") 745, val := Value.ref 381 }, { hash := PyData.keyHash P (Str.ofString "final"), key := Value.str (Str.ofString "final") 752, val := Value.ref 388 }, { hash := PyData.keyHash P (Str.ofString "__static_attributes__"), key := Value.str (Str.ofString "__static_attributes__") 759, val := Value.ref 389 }, { hash := PyData.keyHash P (Str.ofString "__dict__"), key := Value.str (Str.ofString "__dict__") 761, val := Value.ref 392 }, { hash := PyData.keyHash P (Str.ofString "__weakref__"), key := Value.str (Str.ofString "__weakref__") 763, val := Value.ref 393 }, { hash := PyData.keyHash P (Str.ofString "__doc__"), key := Value.str (Str.ofString "__doc__") 764, val := Value.none }] 4 }) ::
  (nat_lit 391, { cls := Value.type "type", data := Data.cls { name := Str.ofString "Aggregate", bases := [Value.type "object"], mro := [Value.ref 391, Value.type "object"], ns := 390, qualname := Str.ofString "Aggregate" }, slots := #[none, none, some (Value.str (Str.ofString "Aggregate") 715), some (Value.str (Str.ofString "Aggregate") 723), some (Value.builtin "object.__new__"), some (Value.bool true)] }) ::
  (nat_lit 392, { cls := Value.type "getset_descriptor", data := Data.fields #[Value.str (Str.ofString "__dict__") 760, Value.ref 391, Value.builtin "function.__dict__", Value.builtin "function.__dict__#set"] }) ::
  (nat_lit 393, { cls := Value.type "getset_descriptor", data := Data.fields #[Value.str (Str.ofString "__weakref__") 762, Value.ref 391, Value.builtin "ExceptionGroup.__weakref__", Value.none] }) ::
  (nat_lit 401, { cls := Value.type "code", data := Data.fields #[Value.str (Str.ofString "_law_pool") 769, Value.str (Str.ofString "_law_pool") 770, Value.str (Str.ofString "/claim/cut.py") 771, Value.int 485 0, Value.int 2 0, Value.int 0 0, Value.int 0 0, Value.int 3 0, Value.ref 396, Value.bool true, Value.int 181 0, Value.ref 397, Value.none, Value.ref 398, Value.ref 399, Value.ref 400, Value.int 777 0, Value.int 485 0, Value.str (Str.ofString "/claim/cut.py") 778] }) ::
  (nat_lit 402, fobj (s := stm 62) rfl (Str.ofString "_law_pool") (Value.none) (Value.str (Str.ofString "law_nt0118_01") 767) (Value.ref 401)) ::
  (nat_lit 408, { cls := Value.type "code", data := Data.fields #[Value.str (Str.ofString "_law_take") 780, Value.str (Str.ofString "_law_take") 781, Value.str (Str.ofString "/claim/cut.py") 782, Value.int 492 0, Value.int 2 0, Value.int 0 0, Value.int 0 0, Value.int 3 0, Value.ref 403, Value.bool true, Value.int 181 0, Value.ref 404, Value.none, Value.ref 405, Value.ref 406, Value.ref 407, Value.int 786 0, Value.int 492 0, Value.str (Str.ofString "/claim/cut.py") 787] }) ::
  (nat_lit 409, fobj (s := stm 63) rfl (Str.ofString "_law_take") (Value.none) (Value.str (Str.ofString "law_nt0118_01") 767) (Value.ref 408)) ::
  (nat_lit 415, { cls := Value.type "code", data := Data.fields #[Value.str (Str.ofString "_law_one") 789, Value.str (Str.ofString "_law_one") 790, Value.str (Str.ofString "/claim/cut.py") 791, Value.int 499 0, Value.int 2 0, Value.int 0 0, Value.int 0 0, Value.int 3 0, Value.ref 410, Value.bool true, Value.int 181 0, Value.ref 411, Value.none, Value.ref 412, Value.ref 413, Value.ref 414, Value.int 794 0, Value.int 499 0, Value.str (Str.ofString "/claim/cut.py") 795] }) ::
  (nat_lit 416, fobj (s := stm 64) rfl (Str.ofString "_law_one") (Value.none) (Value.str (Str.ofString "law_nt0118_01") 767) (Value.ref 415)) ::
  (nat_lit 422, { cls := Value.type "code", data := Data.fields #[Value.str (Str.ofString "_law_value") 797, Value.str (Str.ofString "_law_value") 798, Value.str (Str.ofString "/claim/cut.py") 799, Value.int 501 0, Value.int 1 0, Value.int 0 0, Value.int 0 0, Value.int 3 0, Value.ref 417, Value.bool true, Value.int 181 0, Value.ref 418, Value.none, Value.ref 419, Value.ref 420, Value.ref 421, Value.int 801 0, Value.int 501 0, Value.str (Str.ofString "/claim/cut.py") 802] }) ::
  (nat_lit 423, fobj (s := stm 65) rfl (Str.ofString "_law_value") (Value.none) (Value.str (Str.ofString "law_nt0118_01") 767) (Value.ref 422)) ::
  (nat_lit 427, { cls := Value.type "code", data := Data.fields #[Value.str (Str.ofString "_law_place") 804, Value.str (Str.ofString "_law_place") 805, Value.str (Str.ofString "/claim/cut.py") 806, Value.int 503 0, Value.int 2 0, Value.int 0 0, Value.int 0 0, Value.int 3 0, Value.ref 424, Value.bool true, Value.int 181 0, Value.ref 425, Value.none, Value.none, Value.none, Value.ref 426, Value.int 807 0, Value.int 503 0, Value.str (Str.ofString "/claim/cut.py") 808] }) ::
  (nat_lit 428, fobj (s := stm 66) rfl (Str.ofString "_law_place") (Value.none) (Value.str (Str.ofString "law_nt0118_01") 767) (Value.ref 427)) ::
  (nat_lit 434, { cls := Value.type "code", data := Data.fields #[Value.str (Str.ofString "_law_gathered") 810, Value.str (Str.ofString "_law_gathered") 811, Value.str (Str.ofString "/claim/cut.py") 812, Value.int 513 0, Value.int 3 0, Value.int 0 0, Value.int 0 0, Value.int 3 0, Value.ref 429, Value.bool true, Value.int 181 0, Value.ref 430, Value.none, Value.ref 431, Value.ref 432, Value.ref 433, Value.int 818 0, Value.int 513 0, Value.str (Str.ofString "/claim/cut.py") 819] }) ::
  (nat_lit 435, fobj (s := stm 67) rfl (Str.ofString "_law_gathered") (Value.none) (Value.str (Str.ofString "law_nt0118_01") 767) (Value.ref 434)) ::
  (nat_lit 439, { cls := Value.type "code", data := Data.fields #[Value.str (Str.ofString "law") 821, Value.str (Str.ofString "law") 822, Value.str (Str.ofString "/claim/cut.py") 823, Value.int 518 0, Value.int 1 0, Value.int 0 0, Value.int 0 0, Value.int 3 0, Value.ref 436, Value.bool true, Value.int 181 0, Value.ref 437, Value.none, Value.none, Value.none, Value.ref 438, Value.int 824 0, Value.int 518 0, Value.str (Str.ofString "/claim/cut.py") 825] }) ::
  (nat_lit 440, fobj (s := stm 68) rfl (Str.ofString "law") (Value.none) (Value.str (Str.ofString "law_nt0118_01") 767) (Value.ref 439)) ::
  []
noncomputable abbrev P0 : Program := PySem.Challenge.rw_nt0118_01.row.prog
noncomputable def q : Program := view P0 [68]
def loose : List Str := Str.ofString "PagebaseError" :: Str.ofString "SqlError" :: Str.ofString "TooBigError" :: Str.ofString "MisuseError" :: Str.ofString "MIN_INT" :: Str.ofString "MAX_INT" :: Str.ofString "STORAGE_RANKS" :: Str.ofString "SPACES" :: Str.ofString "DIGITS" :: Str.ofString "HEX_DIGITS" :: Str.ofString "REPLACEMENT" :: Str.ofString "utf8" :: Str.ofString "lead_of" :: Str.ofString "text_of" :: Str.ofString "code_at" :: Str.ofString "fold_ascii" :: Str.ofString "hex_text" :: Str.ofString "storage_class" :: Str.ofString "collate" :: Str.ofString "sign_of" :: Str.ofString "compare_values" :: Str.ofString "digits_end" :: Str.ofString "number_span" :: Str.ofString "number_of" :: Str.ofString "as_integer" :: Str.ofString "as_text" :: Str.ofString "write_literal" :: Str.ofString "ANY" :: Str.ofString "ONE" :: Str.ofString "SIGN" :: Str.ofString "LOT" :: Str.ofString "Part" :: Str.ofString "matches" :: Str.ofString "like_parts" :: Str.ofString "like" :: Str.ofString "lot_at" :: Str.ofString "glob_parts" :: Str.ofString "glob" :: Str.ofString "MOST_OCTETS" :: Str.ofString "octets_of" :: Str.ofString "lowered" :: Str.ofString "raised" :: Str.ofString "length_of" :: Str.ofString "place_in" :: Str.ofString "trimmed" :: Str.ofString "part_of" :: Str.ofString "replaced" :: Str.ofString "chosen" :: Str.ofString "signs_of" :: Str.ofString "zeros" :: Str.ofString "matched" :: Str.ofString "call_with_nulls" :: Str.ofString "call_function" :: Str.ofString "call_on_texts" :: Str.ofString "better" :: Str.ofString "Aggregate" :: Str.ofString "_law_pool" :: Str.ofString "_law_take" :: Str.ofString "_law_one" :: Str.ofString "_law_value" :: Str.ofString "_law_place" :: Str.ofString "_law_gathered" :: []
noncomputable abbrev H : Hook := kHook K (nat_lit 2 :: nat_lit 3 :: nat_lit 71 :: nat_lit 72 :: nat_lit 105 :: nat_lit 106 :: nat_lit 119 :: nat_lit 120 :: nat_lit 126 :: nat_lit 127 :: nat_lit 133 :: nat_lit 134 :: nat_lit 135 :: nat_lit 141 :: nat_lit 142 :: nat_lit 312 :: nat_lit 313 :: nat_lit 338 :: nat_lit 339 :: nat_lit 345 :: nat_lit 346 :: nat_lit 352 :: nat_lit 353 :: nat_lit 359 :: nat_lit 360 :: nat_lit 373 :: nat_lit 374 :: nat_lit 380 :: nat_lit 381 :: nat_lit 387 :: nat_lit 388 :: nat_lit 389 :: nat_lit 390 :: nat_lit 391 :: nat_lit 392 :: nat_lit 393 :: nat_lit 401 :: nat_lit 402 :: nat_lit 408 :: nat_lit 409 :: nat_lit 415 :: nat_lit 416 :: nat_lit 422 :: nat_lit 423 :: nat_lit 427 :: nat_lit 428 :: nat_lit 434 :: nat_lit 435 :: nat_lit 439 :: nat_lit 440 :: []) (fun _ => by kernel_rfl)
def p00 : Pos := { line := 0, col := 0, endLine := 0, endCol := 0 }
noncomputable def env0 : Env := { scope := P0.main.scope, locals := mainNs, globals := mainNs, cells := [], code := .ref 13, frame := some 14 }
noncomputable def cB : Code := .body (behindTheImports P0) env0
def oC : Obj := { cls := .type "code", data := .fields #[.str (Str.ofString "<module>") 182, .str (Str.ofString "<module>") 183, .str (Str.ofString "/claim/cut.py") 184, .int 1 0, .int 0 0, .int 0 0, .int 0 0, .int 0 0, .ref 11, .bool false, .int 181 0, .ref 12, .none, .none, .none, .none, .int 185 0, .int 1 0, .str (Str.ofString "/claim/cut.py") 186] }
def oT : Obj := { cls := .type "tuple", data := .seq #[] }
def oN : Obj := { cls := .none, data := .fields #[] }
def oF : Obj := { cls := .type "frame", slots := #[some (.ref 13), some (.ref 3), some (.ref 3), none, some (.str (Str.ofString "__main__") 164), none, some (.ref 0)] }
noncomputable def heapA (P : Params) : Heap := { objs := ⟨[boot_o_0 P, boot_o_1 P, boot_o_2 P, boot_o_3 P, boot_o_4 P, boot_o_5 P, boot_o_6 P, boot_o_7 P, boot_o_8 P, boot_o_9 P, boot_o_10 P, oT, oN, oC, oF]⟩ }
noncomputable def treeB (P : Params) : BT := .node (boot_o_0 P) (.node (boot_o_1 P) (.node (boot_o_3 P) (.node (boot_o_7 P) .nil .nil) (.node oT .nil .nil)) (.node (boot_o_5 P) (.node (boot_o_9 P) .nil .nil) (.node oC .nil .nil)))
    (.node (boot_o_2 P) (.node (boot_o_4 P) (.node (boot_o_8 P) .nil .nil) (.node oN .nil .nil)) (.node (boot_o_6 P) (.node (boot_o_10 P) .nil .nil) (.node oF .nil .nil)))
noncomputable def stB (w : World) (os : OsState) : SharedT := { tree := treeB w.params, n := 15, life := {}, gens := #[], drawn := {}, toks := 187, os := os }
/-- the top: its opening, its block's start -/
theorem top_pre (w : World) (os : OsState) : topGo treeTable P0 w 11 (some (.ref 6)) 12 { heap := boot_heap w.params, drawn := boot_drawn, toks := boot_toks, os := os } (topStub P0) = some ({ heap := heapA w.params, toks := 187, os := os }, { cur := denote treeTable cB, code := cB, pos := p00, stack := [topFrame p00] }) := by
  rw [PySem.W.Fast.te15667345088766844465, PySem.W.Fast.te14364793385576792824, PySem.W.Fast.te11892475500146522536]
  kernel_rfl
theorem top_block (w : World) (os : OsState) : segRun treeTable P0 w 11 (some (.ref 6)) 1 1 { heap := heapA w.params, toks := 187, os := os } (blockOf (behindTheImports P0) env0 cB p00 [topFrame p00]) = some (.next, (stB w os).abs, cB, p00) := by
  rw [PySem.W.Fast.te14374325043358763698, PySem.W.Fast.te14364793385576792824]
  kernel_rfl
theorem top_size (w : World) : ((boot_heap w.params).isNs mainGlobals && (#[] : Array GenState).size == 0, (boot_heap w.params).objs.size, (boot_heap w.params).nsMap mainGlobals "__annotations__") = (true, 11, some (.ref 6)) := by
  kernel_rfl
/-- all the rest of the top at once, and what is asked of its end -/
noncomputable def runQ (w : World) (os : OsState) : Option (Flow × SharedT × Code × Pos) := PySem.W.Fast.tw10110043849684766642 PySem.W.Fast.tw14364793385576792824 P0 w 11 (some (.ref 6)) 1 6000 (stB w os) (piecesOf (behindTheImports P0) env0 cB p00 [topFrame p00])
noncomputable def endsQ (w : World) (r : Flow × SharedT × Code × Pos) : Option Shared := PySem.W.Fast.tw14082659384304107361 PySem.W.Fast.tw14364793385576792824 P0 w 11 (some (.ref 6)) 2 r.2.1.abs ⟨doneF .next, cB, r.2.2.2, [topFrame p00]⟩
noncomputable def stats (h₀ : Heap) (s : Shared) : Bool := staticsOk (PySem.W.Fast.tw5923862056798008813 P0.main.body) h₀ s.heap && namesBound P0 s.heap && gensDone s && laidKept h₀ s.heap
def Top7 (w : World) : Prop := ∀ os : OsState, (runQ w os).bind (fun r => (endsQ w r).map fun s => (r.1, r.2.2.1, stats (boot_heap w.params) s, PySem.W.Fast.tw4187177175401517315 q loose (PySem.W.Fast.tw5923862056798008813 P0.main.body) (fun s => xlAt q [] s) true s, H.obs s)) = some (.next, cB, true, openGood q loose, H.val w)
theorem top7f (w : World) : Top7 (w.withFollow "special-get-raises" false) := fun os => by kernel_rfl
theorem top7t (w : World) : Top7 (w.withFollow "special-get-raises" true) := fun os => by kernel_rfl
theorem top7 (w : World) : Top7 w := byRow2 "special-get-raises" top7f top7t w
theorem top_open : ∀ w : World, (fencedOpening treeTable P0 w 7000).map (fun s => (s.heap, s.gens, s.drawn, s.toks)) = some (boot_heap w.params, Array.mk [], boot_drawn, boot_toks) :=
  boot_open (by kernel_rfl) (by decide) (fun s => by kernel_rfl)
theorem left : LeftO P0 q loose (fun s => xlAt q [] s) H.obs H.val 7000 := fun w => by
  obtain ⟨⟨h, gs, d, k, os⟩, e, e'⟩ := Option.map_eq_some_iff.mp (top_open w)
  obtain ⟨rfl, rfl, rfl, rfl⟩ : h = boot_heap w.params ∧ gs = Array.mk [] ∧ d = boot_drawn ∧ k = boot_toks := by simpa using e'
  obtain ⟨z1, z2, z3⟩ : _ ∧ _ ∧ _ := by simpa only [Prod.mk.injEq] using top_size w
  obtain ⟨⟨fl, st, c, ps⟩, r1, r2⟩ := Option.bind_eq_some_iff.mp (top7 w os)
  obtain ⟨s₁, r3, r4⟩ := Option.map_eq_some_iff.mp r2
  obtain ⟨y1, y2, y3, y4, y5⟩ : _ ∧ _ ∧ _ ∧ _ ∧ _ := by simpa only [Prod.mk.injEq] using r4
  subst y1 y2
  unfold runQ at r1
  unfold endsQ at r3
  unfold stats at y3
  rw [← PySem.W.Fast.te10110043849684766642, ← PySem.W.Fast.te14364793385576792824] at r1
  rw [← PySem.W.Fast.te14082659384304107361, ← PySem.W.Fast.te14364793385576792824] at r3
  rw [← PySem.W.Fast.te4187177175401517315, ← PySem.W.Fast.te5923862056798008813] at y4
  rw [← PySem.W.Fast.te5923862056798008813] at y3
  have g := piece_app (rest := []) (segRun_of r1) (piece_nil r3)
  rw [List.append_nil] at g
  have r := topRun_mono 985 _ _ _ _ (go_top (top_pre w os) (piece_block (top_block w os) g))
  have t : topFrom treeTable P0 w 7000 ⟨boot_heap w.params, Array.mk [], boot_drawn, boot_toks, os⟩ = some s₁ := by
    unfold topFrom
    dsimp only
    rw [z1, z2, z3, r]
    show (match staticsOk (importedModules P0.main.body) (boot_heap w.params) s₁.heap && namesBound P0 s₁.heap && gensDone s₁ && laidKept (boot_heap w.params) s₁.heap with | true => _ | false => _) = _
    rw [y3]
  unfold openEnds
  rw [e]
  show (topFrom treeTable P0 w 7000 _).map _ = _
  rw [t]
  exact congrArg some (Prod.ext y4 y5)

theorem hd2 {d : DefRec} {kwd : List (Str × PySem.Expr)} (hdef : defOf q PySem.Challenge.rw_nt0118_01.row.name = some (d, kwd)) (hthe : P0.theDef PySem.Challenge.rw_nt0118_01.row.name = some (d.params, d.body, d.scope)) (hkw : kwWritten? d.params.kwonlyargs d.params.kw_defaults = some kwd)
    (walk : WalkO q loose (XL q []) H.says PySem.Challenge.rw_nt0118_01.row.toRowW d kwd fun f vs => call f vs) : PySem.Challenge.rw_nt0118_01.Holds := by
  refine holds_law (by decide +kernel) fun said => ?_
  exact holds_open (q := q) (loose := loose) (Xt := fun s => xlAt q [] s) (XP := XL q []) (Yf := H.obs) (Ya := H.val) (YP := H.says) (N := 7000) left H.of H.keeps (fun s e => xl_of s e) XL.keeps hdef hthe hkw (fun s _ => recFacts_nil rfl) rfl said (by decide +kernel) ⟨rfl, rfl, rfl, rfl, rfl, by decide +kernel⟩ (by w_witness2) walk
end Mine
open PySem PySem.W PySem.Calls PyProof.Rows
set_option maxRecDepth 100000
set_option maxHeartbeats 0
namespace Mine

/-- what the call leaves as it was: all but the objects at adr -/
def Kept (h h' : Heap) (adr : List Addr) : Prop := ∀ b o, h.get? b = some o → b ∉ adr → h'.get? b = some o
def KeptR (h g : Heap) (adr : List Addr) (R : Result → Shared → Prop) (r : Result) (s' : Shared) : Prop := match r with
  | .ok f => GSub h g adr → Kept h s'.heap adr → R (.ok f) s'
  | .error e => R (.error e) s'

/-- a def is entered; behind it stands what it has kept -/
theorem code_kept {prog : Program} {w : World} {A₀ A : Around} {s : Shared} {base h₀ : Heap} {outer : List Env} {L : Addr} {m : Str → Option Value} {env : Env} {news : List (Addr × Obj)} {K : Frag} {p : Program} {loose : List Str} {mean : ExcName → Option Value} {mg mb : Str → Option Value} {R : Result → Shared → Prop} {name qual : Str} {params : Arguments} {body : List Stmt} {scope : Scope} {dV kV doc pm cdv ct oc : Value} {an od : Option Addr} {osl : Array (Option Value)} {f : Addr} {args : Args} {binds : List (Str × Value)}
    (B : Below A₀ base outer h₀) (F : Fr h₀ L s.heap m) (X₀ : K.In h₀) (N : News h₀ L s.heap news) (T : Top p loose mean mg mb h₀) (hA : A.frames = some (env :: outer)) (hf : env.frame = some L) (hke : env.scope.kind = .function)
    (ho : K.lookup f = some ⟨oc, od, .func (fnOf name qual params body scope dV kV doc pm an cdv ct), osl⟩) (hcd : codeIn K cdv qual = true) (hroom : A.depth < recursionLimit)
    (hbind : BindsTo s (fnOf name qual params body scope dV kV doc pm an cdv ct) args binds) (hloc : ∀ y ∈ binds, scope.names.lookup y.1 = some .local)
    (h : ∀ g L' h₁, Fr h₀ L g m → Fr g L' h₁ (fun y => binds.reverse.lookup y) → News g L' h₁ news → Below A base (env :: outer) g → K.In g → Top p loose mean mg mb g →
      wpAny (model prog w) (A.deeper (envOf qual scope L' f cdv)) (execs body (envOf qual scope L' f cdv))
        (fun fl s' => LeaveK h₀ L m g (KeptR s.heap g (news.map (·.1)) R) (match fl with | .ret v => v | _ => .none) s')
        (fun e s' => wpAny (model prog w) (A.deeper (envOf qual scope L' f cdv)) (leaving (envOf qual scope L' f cdv) e) (fun _ s'' => R (.error e) s'') (fun e' s'' => R (.error e') s'') s')
        { s with heap := h₁, toks := s.toks + binds.length })
    (hco : scope.isCoroutine = false) (hgen : scope.isGenerator = false) (hk : scope.kind = .function)
    (hcell : ∀ x ∈ scope.names, x.2 ≠ .cell) : codeAny (model prog w) A (.call (.ref f) args) R s :=
  code_defG B F X₀ N T hA hf hke ho hcd hroom hbind hloc (fun g L' h₁ FG F' N' B' X' T' G => wpAny_mono (h g L' h₁ FG F' N' B' X' T') (fun fl s' hl => by
    obtain ⟨L₂, m₂, news₂, F₂, N₂, k⟩ := hl
    exact ⟨L₂, m₂, news₂, F₂, N₂, fun a b => k a b G fun c o e n => F₂.keep c o (G c o e n)⟩) fun _ _ y => y) hco hgen hk hcell

/-- a call of the text's function at f with the arguments vs over the written ledger news: it ends in a value and a ledger as Post says; all else is kept -/
def CallTo (w : World) (p : Program) (loose : List Str) (mean : ExcName → Option Value) (mg mb : Str → Option Value) (f : Addr) (vs : List Value) (d : Nat) (news : List (Addr × Obj)) (Post : Value → List (Addr × Obj) → Prop) : Prop :=
  ∀ (dp un : Nat) (gd : Option (List Code)) (cn : Str) (cs : Scope) (a : Addr) (ccd : Value) (cl : List (Str × Addr)) (outer : List Env) (A₀ : Around) (base h₀ : Heap) (L : Addr) (m : Str → Option Value) (s : Shared) (Q E : Value → Shared → Prop),
    Below A₀ base outer h₀ → Fr h₀ L s.heap m → (Mine.K w.params).In h₀ → News h₀ L s.heap news → Top p loose mean mg mb h₀ → cs.kind = .function →
    dp + d < recursionLimit → un + 8 * d < cLine →
    (∀ v news' h' tk', Post v news' → Fr h₀ L h' m → News h₀ L h' news' → Kept s.heap h' (news.map (·.1)) → (∀ q ∈ news', q.1 ∉ news.map (·.1) → s.heap.get? q.1 = none) → Q v { s with heap := h', toks := tk' }) →
    wpAny (model PySem.Challenge.rw_nt0118_01.row.prog w) (ktrTop dp un gd cn cs L a ccd cl outer) (call (.ref f) vs) Q E s

theorem fresh_of {h g h' : Heap} {L : Addr} {adr : List Addr} {nw : List (Addr × Obj)} (hG : GSub h g adr) (N : News g L h' nw) : ∀ q ∈ nw, q.1 ∉ adr → h.get? q.1 = none := fun q hq hn => by
  cases e : h.get? q.1 with
  | none => rfl
  | some o => have := hG _ _ e hn; rw [(N q hq).2.2] at this; cases this

def AllNe (D : Addr) : List (Addr × Obj) → Prop
  | [] => True
  | p :: r => (@Ne Nat D p.1) ∧ AllNe D r
theorem AllNe.of {D : Addr} : ∀ {l : List (Addr × Obj)}, (∀ p ∈ l, D ≠ p.1) → AllNe D l
  | [], _ => trivial
  | _ :: _, h => ⟨h _ (.head _), AllNe.of fun q hq => h q (.tail _ hq)⟩

/-- the call asks nothing of the ledger and hands on a plain value -/
theorem CallTo.use {w : World} {p : Program} {loose : List Str} {mean : ExcName → Option Value} {mg mb : Str → Option Value} {f : Addr} {vs : List Value} {d : Nat} {news : List (Addr × Obj)} {R : Value → Prop}
    {dp un : Nat} {gd : Option (List Code)} {cn : Str} {cs : Scope} {a : Addr} {ccd : Value} {cl : List (Str × Addr)} {outer : List Env} {A₀ : Around} {base h₀ : Heap} {L : Addr} {m : Str → Option Value} {s : Shared} {Q E : Value → Shared → Prop}
    (C : CallTo w p loose mean mg mb f vs d [] (fun v _ => R v)) (B : Below A₀ base outer h₀) (F : Fr h₀ L s.heap m) (X : (Mine.K w.params).In h₀) (N : News h₀ L s.heap news) (T : Top p loose mean mg mb h₀) (hk : cs.kind = .function)
    (hd : dp + d < recursionLimit) (hu : un + 8 * d < cLine)
    (ret : ∀ v h' tk', R v → Fr h₀ L h' m → News h₀ L h' news → Q v { s with heap := h', toks := tk' }) :
    wpAny (model PySem.Challenge.rw_nt0118_01.row.prog w) (ktrTop dp un gd cn cs L a ccd cl outer) (call (.ref f) vs) Q E s :=
  C _ _ _ _ _ _ _ _ _ _ _ _ _ _ _ _ _ B F X (fun _ h => nomatch h) T hk hd hu fun v _ h' tk' hP F' _ k _ => ret v h' tk' hP F' fun q hq => ⟨k _ _ (N q hq).1 (fun h => nomatch h), (N q hq).2⟩

/-- the call asks nothing of the ledger and hands on a plain value: the asked facts are sought -/
theorem useA0 {w : World} {p : Program} {loose : List Str} {mean : ExcName → Option Value} {mg mb : Str → Option Value} {f : Addr} {vs : List Value} {d : Nat} {news : List (Addr × Obj)} {R : Value → Prop} {dp un : Nat} {gd : Option (List Code)} {cn : Str} {cs : Scope} {a : Addr} {ccd : Value} {cl : List (Str × Addr)} {outer : List Env} {A₀ : Around} {base h₀ : Heap} {L : Addr} {m : Str → Option Value} {s : Shared} {Q E : Value → Shared → Prop} {S : Prop}
    (C : S → CallTo w p loose mean mg mb f vs d [] (fun v _ => R v)) (ret : ∀ v h' tk', R v → Fr h₀ L h' m → News h₀ L h' news → Q v { s with heap := h', toks := tk' })
    (B : Below A₀ base outer h₀ := by k_asm) (F : Fr h₀ L s.heap m := by k_asm) (X : (Mine.K w.params).In h₀ := by k_asm) (N : News h₀ L s.heap news := by k_asm) (T : Top p loose mean mg mb h₀ := by k_asm) (hk : cs.kind = .function := by first | exact rfl | assumption) (hd : dp + d < recursionLimit := by ktr_room) (hu : un + 8 * d < cLine := by ktr_units) (c : S := by (repeat' apply And.intro) <;> first | assumption | (split <;> assumption) | omega | decide) :
    wpAny (model PySem.Challenge.rw_nt0118_01.row.prog w) (ktrTop dp un gd cn cs L a ccd cl outer) (call (.ref f) vs) Q E s := CallTo.use (C c) B F X N T hk hd hu ret
/-- the call asks nothing of the ledger and makes one object -/
theorem CallTo.use1 {w : World} {p : Program} {loose : List Str} {mean : ExcName → Option Value} {mg mb : Str → Option Value} {f : Addr} {vs : List Value} {d : Nat} {news : List (Addr × Obj)} {R : Obj → Prop}
    {dp un : Nat} {gd : Option (List Code)} {cn : Str} {cs : Scope} {a : Addr} {ccd : Value} {cl : List (Str × Addr)} {outer : List Env} {A₀ : Around} {base h₀ : Heap} {L : Addr} {m : Str → Option Value} {s : Shared} {Q E : Value → Shared → Prop}
    (C : CallTo w p loose mean mg mb f vs d [] (fun v nw => ∃ D o, v = .ref D ∧ R o ∧ (D, o) ∈ nw)) (B : Below A₀ base outer h₀) (F : Fr h₀ L s.heap m) (X : (Mine.K w.params).In h₀) (N : News h₀ L s.heap news) (T : Top p loose mean mg mb h₀) (hk : cs.kind = .function)
    (hd : dp + d < recursionLimit) (hu : un + 8 * d < cLine)
    (ret : ∀ D o h' tk', R o → Fr h₀ L h' m → News h₀ L h' ((D, o) :: news) → AllNe D news → Q (.ref D) { s with heap := h', toks := tk' }) :
    wpAny (model PySem.Challenge.rw_nt0118_01.row.prog w) (ktrTop dp un gd cn cs L a ccd cl outer) (call (.ref f) vs) Q E s :=
  C _ _ _ _ _ _ _ _ _ _ _ _ _ _ _ _ _ B F X (fun _ h => nomatch h) T hk hd hu fun v nw h' tk' hP F' N' k fr => by
    obtain ⟨D, o, rfl, hR, hm⟩ := hP
    have hn := fr _ hm (fun h => nomatch h)
    refine ret D o h' tk' hR F' (fun q hq => ?_) (AllNe.of fun q hq e => ?_)
    case refine_2 =>
      have z := (N q hq).1
      rw [← e] at z
      rw [show s.heap.get? D = none from hn] at z
      cases z
    rcases List.mem_cons.mp hq with rfl | hq
    · exact N' _ hm
    · exact ⟨k _ _ (N q hq).1 (fun h => nomatch h), (N q hq).2⟩

/-- the nine texts -/
def txt : Nat → Str
  | 0 => "a" | 1 => "A" | 2 => "a " | 3 => "A  " | 4 => "b" | 5 => "B" | 6 => "" | 7 => " " | _ => "ab"
/-- folded -/
def foldT : Nat → Str
  | 0 => "a" | 1 => "a" | 2 => "a " | 3 => "a  " | 4 => "b" | 5 => "b" | 6 => "" | 7 => " " | _ => "ab"
/-- cut at the right -/
def cutT : Nat → Str
  | 0 => "a" | 1 => "A" | 2 => "a" | 3 => "A" | 4 => "b" | 5 => "B" | 6 => "" | 7 => "" | _ => "ab"
/-- the collations as the menu lists them -/
def colAt : Nat → Str
  | 0 => "binary" | 1 => "nocase" | 2 => "nocase" | _ => "rtrim"
def collT (c i : Nat) : Str := match c with
  | 0 => txt i | 1 => foldT i | 2 => foldT i | _ => cutT i
/-- the place of a value among the thirteen, by a collation -/
def rk (c i : Nat) : Nat := match i with
  | 9 => 0 | 10 => 1 | 11 => 12 | 12 => 11
  | i => match c with
    | 0 => (match i with | 0 => 7 | 1 => 4 | 2 => 8 | 3 => 5 | 4 => 10 | 5 => 6 | 6 => 2 | 7 => 3 | _ => 9)
    | 1 => (match i with | 0 => 4 | 1 => 4 | 2 => 5 | 3 => 6 | 4 => 8 | 5 => 8 | 6 => 2 | 7 => 3 | _ => 7)
    | 2 => (match i with | 0 => 4 | 1 => 4 | 2 => 5 | 3 => 6 | 4 => 8 | 5 => 8 | 6 => 2 | 7 => 3 | _ => 7)
    | _ => (match i with | 0 => 5 | 1 => 3 | 2 => 5 | 3 => 3 | 4 => 7 | 5 => 4 | 6 => 2 | 7 => 2 | _ => 6)
def sg (a b : Nat) : Int := if a < b then -1 else if b < a then 1 else 0
/-- the thirteen values -/
def valAt (k : Nat) (t : Tok) : Value := match k with
  | 9 => .int 1 t | 10 => .int 2 t | 11 => .bytes #[97] t | 12 => .bytes #[65] t
  | k => .str (txt k) t

theorem lt9 {i : Nat} (h : i < 9) : i = 0 ∨ i = 1 ∨ i = 2 ∨ i = 3 ∨ i = 4 ∨ i = 5 ∨ i = 6 ∨ i = 7 ∨ i = 8 := by omega
theorem lt4 {i : Nat} (h : i < 4) : i = 0 ∨ i = 1 ∨ i = 2 ∨ i = 3 := by omega

theorem coll_lt : ∀ c, c < 4 → ∀ i, i < 9 → ∀ j, j < 9 → (((collT c i).cps.toList < (collT c j).cps.toList) ↔ rk c i < rk c j) := by decide +kernel
end Mine
open PySem PySem.W PySem.Calls PyProof.Rows
set_option maxRecDepth 100000
set_option maxHeartbeats 0
namespace Mine
theorem words_W1 : True := by
  k_with_none
  (k_with "mine enter" => (refine' code_kept (by k_asm) (by k_asm) (by k_asm) (by k_asm) (by k_asm) rfl rfl (by assumption) (by k_is) (by k_is) (by ktr_room) (by exact BindsTo.of_eq rfl) (by exact locs rfl) ?_ (by exact rfl) (by exact rfl) (by exact rfl) (by decide); k_whole; intro g' L' h' FG' F' N' B' X' T'; (try dsimp only); (try k_lift B'); (try k_fold)))
  (k_with "mine go" => (refine wpAny_call ?_; k_dflt (walk_at "mine enter"); k_steps))
  (k_with "mine end" => (unfold KeptR; dsimp only))
  (k_with "my exec For Name Name cons nil" => (k_here; (with_reducible show wpAny _ _ (exec (Stmt.For _ _ _ [] _) _) _ _ _); k_strName; (rename Fr _ _ _ _ => lF'); (with_unfolding_all refine' For_invVF lF' (by exact rfl) (by exact rfl) ?_; k_whole)))
  (k_with "my pyIter str" => ((with_reducible show wpAny _ _ (pyIter (Value.str _ _)) (fun it s₂ => LoopAtV _ _ _ _ _ _ _ _ _ it s₂) _ _); k_here; k_strUnr))
  trivial
local macro_rules | `(tactic| walk_at "exec For Name Name cons nil") => `(tactic| k_extra "my exec For Name Name cons nil")
local macro_rules | `(tactic| walk_at "pyIter str") => `(tactic| k_extra "my pyIter str")

theorem str_eq {a b : Str} {t : Tok} (h : a = b) : Value.str a t = Value.str b t := by rw [h]
theorem int_eq {a b : Int} {t : Tok} (h : a = b) : Value.int a t = Value.int b t := by rw [h]

section
variable {w : World} {p : Program} {loose : List Str} {mean : ExcName → Option Value} {mg mb : Str → Option Value}

theorem sign_str (c i j : Nat) (hc : c < 4) (hi : i < 9) (hj : j < 9) (tx ty : Tok) :
    CallTo w p loose mean mg mb 134 [.str (collT c i) tx, .str (collT c j) ty] 1 [] (fun v _ => ∃ t, v = .int (sg (rk c i) (rk c j)) t) := by
  unfold CallTo; k_fill
  intro dp un gd cn cs a ccd cl outer A₀ base h₀ L m s Q E B F X N T hk hd hu hret
  have e1 := coll_lt c hc i hi j hj
  have e2 := coll_lt c hc j hj i hi
  walk_at "mine go"
  all_goals (walk_at "mine end"; intro hG hK; refine hret _ _ _ _ ⟨_, int_eq ?_⟩ (by k_asm) (by k_asm) hK (fresh_of hG (by k_asm)))
  all_goals (unfold sg; (split <;> rename_i h1 <;> (try (split <;> rename_i h2)) <;> first | rfl | exact absurd (e1.mpr (by assumption)) (by assumption) | exact absurd (e2.mpr (by assumption)) (by assumption) | exact absurd (e1.mp (by assumption)) (by assumption) | exact absurd (e2.mp (by assumption)) (by assumption)))

theorem sign_int (x y : Int) (tx ty : Tok) :
    CallTo w p loose mean mg mb 134 [.int x tx, .int y ty] 1 [] (fun v _ => ∃ t, v = .int (if x < y then -1 else if y < x then 1 else 0) t) := by
  unfold CallTo; k_fill
  intro dp un gd cn cs a ccd cl outer A₀ base h₀ L m s Q E B F X N T hk hd hu hret
  walk_at "mine go"
  all_goals (walk_at "mine end"; intro hG hK; refine hret _ _ _ _ ⟨_, int_eq ?_⟩ (by k_asm) (by k_asm) hK (fresh_of hG (by k_asm)))
  all_goals (split <;> (try split) <;> first | rfl | omega)

theorem fold_txt (i : Nat) (hi : i < 9) (t : Tok) :
    CallTo w p loose mean mg mb 106 [.str (txt i) t] 1 [] (fun v _ => ∃ t, v = .str (foldT i) t) := by
  unfold CallTo; k_fill
  intro dp un gd cn cs a ccd cl outer A₀ base h₀ L m s Q E B F X N T hk hd hu hret
  rcases lt9 hi with rfl | rfl | rfl | rfl | rfl | rfl | rfl | rfl | rfl
  all_goals (simp only [txt, foldT] at hret ⊢; clear hi)
  all_goals (walk_at "mine go")
  all_goals (walk_at "mine end"; intro hG hK; refine hret _ _ _ _ ⟨_, str_eq ?_⟩ (by k_asm) (by k_asm) hK (fresh_of hG (by k_asm)))
  all_goals decide +kernel
end
end Mine
open PySem PySem.W PySem.Calls PyProof.Rows
set_option maxRecDepth 100000
set_option maxHeartbeats 0
namespace Mine
theorem words_W2 : True := by
  k_with_none
  (k_with "mine enter" => (refine' code_kept (by k_asm) (by k_asm) (by k_asm) (by k_asm) (by k_asm) rfl rfl (by assumption) (by k_is) (by k_is) (by ktr_room) (by exact BindsTo.of_eq rfl) (by exact locs rfl) ?_ (by exact rfl) (by exact rfl) (by exact rfl) (by decide); k_whole; intro g' L' h' FG' F' N' B' X' T'; (try dsimp only); (try k_lift B'); (try k_fold)))
  (k_with "mine go" => (refine wpAny_call ?_; k_dflt (walk_at "mine enter"); k_steps))
  (k_with "mine end" => (unfold KeptR; dsimp only))
  (k_with "my exec For Name Name cons nil" => (k_here; (with_reducible show wpAny _ _ (exec (Stmt.For _ _ _ [] _) _) _ _ _); k_strName; (rename Fr _ _ _ _ => lF'); (with_unfolding_all refine' For_invVF lF' (by exact rfl) (by exact rfl) ?_; k_whole)))
  (k_with "my pyIter str" => ((with_reducible show wpAny _ _ (pyIter (Value.str _ _)) (fun it s₂ => LoopAtV _ _ _ _ _ _ _ _ _ it s₂) _ _); k_here; k_strUnr))
  (k_with "my call ref" => (k_here; (with_reducible show wpAny _ _ (call (Value.ref 106) _) _ _ _); k_dflt (refine' useA0 (fun (H : _) => fold_txt _ H _) ?_); (intro v' h' tk' hv' F' N'; obtain ⟨t', hv'⟩ := hv'; subst hv'; (try k_sweep); (try dsimp only))))
  trivial
local macro_rules | `(tactic| walk_at "exec For Name Name cons nil") => `(tactic| k_extra "my exec For Name Name cons nil")
local macro_rules | `(tactic| walk_at "pyIter str") => `(tactic| k_extra "my pyIter str")
local macro_rules | `(tactic| walk_at "call ref") => `(tactic| k_extra "my call ref")


section
variable {w : World} {p : Program} {loose : List Str} {mean : ExcName → Option Value} {mg mb : Str → Option Value}

theorem collate0 (x : Str) (t tc : Tok) :
    CallTo w p loose mean mg mb 127 [.str x t, .str "binary" tc] 2 [] (fun v _ => ∃ t, v = .str x t) := by
  unfold CallTo; k_fill
  intro dp un gd cn cs a ccd cl outer A₀ base h₀ L m s Q E B F X N T hk hd hu hret
  walk_at "mine go"
  all_goals (walk_at "mine end"; intro hG hK; refine hret _ _ _ _ ⟨_, str_eq ?_⟩ (by k_asm) (by k_asm) hK (fresh_of hG (by k_asm)))
  all_goals rfl

theorem collate1 (i : Nat) (hi : i < 9) (t tc : Tok) :
    CallTo w p loose mean mg mb 127 [.str (txt i) t, .str "nocase" tc] 2 [] (fun v _ => ∃ t, v = .str (foldT i) t) := by
  unfold CallTo; k_fill
  intro dp un gd cn cs a ccd cl outer A₀ base h₀ L m s Q E B F X N T hk hd hu hret
  walk_at "mine go"
  all_goals (walk_at "mine end"; intro hG hK; refine hret _ _ _ _ ⟨_, str_eq ?_⟩ (by k_asm) (by k_asm) hK (fresh_of hG (by k_asm)))
  all_goals rfl

theorem collate3 (i : Nat) (hi : i < 9) (t tc : Tok) :
    CallTo w p loose mean mg mb 127 [.str (txt i) t, .str "rtrim" tc] 2 [] (fun v _ => ∃ t, v = .str (cutT i) t) := by
  unfold CallTo; k_fill
  intro dp un gd cn cs a ccd cl outer A₀ base h₀ L m s Q E B F X N T hk hd hu hret
  rcases lt9 hi with rfl | rfl | rfl | rfl | rfl | rfl | rfl | rfl | rfl
  all_goals (simp only [txt, cutT] at hret ⊢; clear hi)
  all_goals (walk_at "mine go")
  all_goals (walk_at "mine end"; intro hG hK; refine hret _ _ _ _ ⟨_, str_eq ?_⟩ (by k_asm) (by k_asm) hK (fresh_of hG (by k_asm)))
  all_goals decide +kernel

theorem collate_all (c i : Nat) (hc : c < 4) (hi : i < 9) (t tc : Tok) :
    CallTo w p loose mean mg mb 127 [.str (txt i) t, .str (colAt c) tc] 2 [] (fun v _ => ∃ t, v = .str (collT c i) t) := by
  rcases lt4 hc with rfl | rfl | rfl | rfl
  · exact collate0 _ _ _
  · exact collate1 i hi _ _
  · exact collate1 i hi _ _
  · exact collate3 i hi _ _
end
end Mine
open PySem PySem.W PySem.Calls PyProof.Rows
set_option maxRecDepth 100000
set_option maxHeartbeats 0
namespace Mine
theorem words_W3 : True := by
  k_with_none
  (k_with "mine enter" => (refine' code_kept (by k_asm) (by k_asm) (by k_asm) (by k_asm) (by k_asm) rfl rfl (by assumption) (by k_is) (by k_is) (by ktr_room) (by first | exact BindsTo.of_eq rfl | exact binds_K (by k_in) rfl (by k_is) rfl rfl rfl) (by exact locs rfl) ?_ (by exact rfl) (by exact rfl) (by exact rfl) (by decide); k_whole; intro g' L' h' FG' F' N' B' X' T'; (try dsimp only); (try k_lift B'); (try k_fold)))
  (k_with "mine go" => (refine wpAny_call ?_; k_dflt (walk_at "mine enter"); k_steps))
  (k_with "mine end" => (unfold KeptR; dsimp only))
  (k_with "my exec For Name Name cons nil" => (k_here; (with_reducible show wpAny _ _ (exec (Stmt.For _ _ _ [] _) _) _ _ _); k_strName; (rename Fr _ _ _ _ => lF'); (with_unfolding_all refine' For_invVF lF' (by exact rfl) (by exact rfl) ?_; k_whole)))
  (k_with "my pyIter str" => ((with_reducible show wpAny _ _ (pyIter (Value.str _ _)) (fun it s₂ => LoopAtV _ _ _ _ _ _ _ _ _ it s₂) _ _); k_here; k_strUnr))
  (k_with "my call ref" => (k_here; (with_reducible show wpAny _ _ (call (Value.ref _) _) _ _ _); refine wpAny_call ?_; k_dflt (refine' code_def (by k_asm) (by k_asm) (by k_asm) (by k_asm) (by k_asm) rfl rfl (by first | exact rfl | assumption) (by k_is) (by k_is) (by ktr_room) (by first | exact BindsTo.of_eq rfl | exact binds_K (by k_in) rfl (by k_is) rfl rfl rfl) (by exact locs rfl) ?_ (by exact rfl) (by exact rfl) (by exact rfl) (by decide); k_whole; intro g' L' h' FG' F' N' B' X' T'; (try dsimp only); (try k_lift B'); (try k_fold))))
  (k_with "my call ref" => (k_here; (with_reducible show wpAny _ _ (call (Value.ref 127) _) _ _ _); k_dflt (refine' useA0 (fun (H : _ ∧ _) => collate_all _ _ H.1 H.2 _ _) ?_); (intro v' h' tk' hv' F' N'; obtain ⟨t', hv'⟩ := hv'; subst hv'; (try k_sweep); (try dsimp only))))
  (k_with "my call ref" => (k_here; (with_reducible show wpAny _ _ (call (Value.ref 134) _) _ _ _); k_dflt (refine' useA0 (fun (H : _ ∧ _ ∧ _) => sign_str _ _ _ H.1 H.2.1 H.2.2 _ _) ?_); (intro v' h' tk' hv' F' N'; obtain ⟨t', hv'⟩ := hv'; subst hv'; (try k_sweep); (try dsimp only))))
  (k_with "my call ref" => (k_here; (with_reducible show wpAny _ _ (call (Value.ref 134) _) _ _ _); k_dflt (refine' useA0 (fun (H : True) => sign_int _ _ _ _) ?_); (intro v' h' tk' hv' F' N'; obtain ⟨t', hv'⟩ := hv'; subst hv'; (try k_sweep); (try dsimp only))))
  (k_with "my compareOp Lt bytes bytes" => refine lt_bytes ?_)
  trivial
local macro_rules | `(tactic| walk_at "exec For Name Name cons nil") => `(tactic| k_extra "my exec For Name Name cons nil")
local macro_rules | `(tactic| walk_at "pyIter str") => `(tactic| k_extra "my pyIter str")
local macro_rules | `(tactic| walk_at "call ref") => `(tactic| k_extra "my call ref")
local macro_rules | `(tactic| walk_at "compareOp Lt bytes bytes") => `(tactic| k_extra "my compareOp Lt bytes bytes")



theorem slot_bytes_lt : Slot "bytes" (cmpInfo .Lt).2.1 "bytes.__lt__" :=
  .of (owner := "bytes") (n := "__lt__") (by rw [typeLookup_type, builtinLookup_eq_fast]; kernel_rfl) (by decide +kernel) (by decide +kernel) (by decide +kernel)
    (by first | exact .inl (by decide +kernel) | exact .inr (by decide +kernel)) (by rw [isSubtype_type]; kernel_rfl)
theorem entry_bytes_lt : entryFor table "bytes.__lt__" = some Builtin.«bytes.__lt__» := entryFor_of_tree (by kernel_rfl)
theorem args_bytes_lt_2 (a b : Value) : argsOk "bytes.__lt__" ⟨[a, b], []⟩ := by
  unfold argsOk; rw [signature?_of (id := "bytes.__lt__") (n := ['_', '_', 't', 'l', '_', '_']) (o := ['s', 'e', 't', 'y', 'b']) (by kernel_rfl) PySem.W.FB.owner_bytes]; kernel_rfl
theorem gives_bytes_lt (b c : Array UInt8) (t u : Tok) : Gives (Builtin.«bytes.__lt__» ⟨[.bytes b t, .bytes c u], []⟩) (.val (.bool (Builtin.Bytes.order b.toList c.toList == .lt))) := by
  refine .of_wp fun M A E s Q hq => ?_
  show wpAny M A (isInstance (.bytes c u) (.type "bytes") >>= fun r => _) _ E s
  refine wpAny_bind (wpAny_isInstance (PySem.W.typeIs_bytes s c u) F.sub_bytes_bytes ?_)
  exact wpAny_pure ⟨_, rfl, hq⟩
theorem lt_bytes {prog : Program} {w : World} {A : Around} {E : Value → Shared → Prop} {s : Shared} {b c : Array UInt8} {t u : Tok} {Q : Value → Shared → Prop} (h : Q (.bool (Builtin.Bytes.order b.toList c.toList == .lt)) s) : wpAny (model prog w) A (compareOp .Lt (.bytes b t) (.bytes c u)) Q E s :=
  compareOp_gives (op := .Lt) (PySem.W.typeIs_bytes s b t) (PySem.W.typeIs_bytes s c u) slot_bytes_lt entry_bytes_lt (args_bytes_lt_2 _ _) (gives_bytes_lt b c t u) (fun e => nomatch e) h

theorem sg_hi : ∀ c i j : Nat, c < 4 → i < 9 → j = 9 ∨ j = 10 → sg (rk c i) (rk c j) = 1 := by
  intro c i j hc hi hj
  rcases lt4 hc with rfl | rfl | rfl | rfl <;> rcases lt9 hi with rfl | rfl | rfl | rfl | rfl | rfl | rfl | rfl | rfl <;> rcases hj with rfl | rfl <;> rfl
theorem sg_lo : ∀ c i j : Nat, c < 4 → i < 9 → j = 11 ∨ j = 12 → sg (rk c i) (rk c j) = -1 := by
  intro c i j hc hi hj
  rcases lt4 hc with rfl | rfl | rfl | rfl <;> rcases lt9 hi with rfl | rfl | rfl | rfl | rfl | rfl | rfl | rfl | rfl <;> rcases hj with rfl | rfl <;> rfl
theorem sg_lo' : ∀ c j i : Nat, c < 4 → j < 9 → i = 9 ∨ i = 10 → sg (rk c i) (rk c j) = -1 := by
  intro c j i hc hj hi
  rcases lt4 hc with rfl | rfl | rfl | rfl <;> rcases lt9 hj with rfl | rfl | rfl | rfl | rfl | rfl | rfl | rfl | rfl <;> rcases hi with rfl | rfl <;> rfl
theorem sg_hi' : ∀ c j i : Nat, c < 4 → j < 9 → i = 11 ∨ i = 12 → sg (rk c i) (rk c j) = 1 := by
  intro c j i hc hj hi
  rcases lt4 hc with rfl | rfl | rfl | rfl <;> rcases lt9 hj with rfl | rfl | rfl | rfl | rfl | rfl | rfl | rfl | rfl <;> rcases hi with rfl | rfl <;> rfl

section
variable {w : World} {p : Program} {loose : List Str} {mean : ExcName → Option Value} {mg mb : Str → Option Value}

theorem sign_bytes (x y : Array UInt8) (tx ty : Tok) :
    CallTo w p loose mean mg mb 134 [.bytes x tx, .bytes y ty] 1 [] (fun v _ => ∃ t, v = .int (if (Builtin.Bytes.order x.toList y.toList == .lt) = true then -1 else if (Builtin.Bytes.order y.toList x.toList == .lt) = true then 1 else 0) t) := by
  unfold CallTo; k_fill
  intro dp un gd cn cs a ccd cl outer A₀ base h₀ L m s Q E B F X N T hk hd hu hret
  walk_at "mine go"
  all_goals (walk_at "mine end"; intro hG hK; refine hret _ _ _ _ ⟨_, int_eq ?_⟩ (by k_asm) (by k_asm) hK (fresh_of hG (by k_asm)))
  all_goals simp only [*, if_true, if_false, Bool.false_eq_true]

theorem cmp_tt (c i j : Nat) (hc : c < 4) (hi : i < 9) (hj : j < 9) (ti tj tc : Tok) :
    CallTo w p loose mean mg mb 142 [.str (txt i) ti, .str (txt j) tj, .str (colAt c) tc] 3 [] (fun v _ => ∃ t, v = .int (sg (rk c i) (rk c j)) t) := by
  unfold CallTo; k_fill
  intro dp un gd cn cs a ccd cl outer A₀ base h₀ L m s Q E B F X N T hk hd hu hret
  walk_at "mine go"
  all_goals (walk_at "mine end"; intro hG hK; refine hret _ _ _ _ ⟨_, int_eq ?_⟩ (by k_asm) (by k_asm) hK (fresh_of hG (by k_asm)))
  all_goals first | rfl | (simp; done)

theorem cmp_ii (x y : Int) (tc : Str) (ti tj u : Tok) :
    CallTo w p loose mean mg mb 142 [.int x ti, .int y tj, .str tc u] 3 [] (fun v _ => ∃ t, v = .int (if x < y then -1 else if y < x then 1 else 0) t) := by
  unfold CallTo; k_fill
  intro dp un gd cn cs a ccd cl outer A₀ base h₀ L m s Q E B F X N T hk hd hu hret
  walk_at "mine go"
  all_goals (walk_at "mine end"; intro hG hK; refine hret _ _ _ _ ⟨_, int_eq ?_⟩ (by k_asm) (by k_asm) hK (fresh_of hG (by k_asm)))
  all_goals first | rfl | (simp; done)

theorem cmp_it (x : Int) (y : Str) (tc : Str) (ti tj u : Tok) :
    CallTo w p loose mean mg mb 142 [.int x ti, .str y tj, .str tc u] 3 [] (fun v _ => ∃ t, v = .int (-1) t) := by
  unfold CallTo; k_fill
  intro dp un gd cn cs a ccd cl outer A₀ base h₀ L m s Q E B F X N T hk hd hu hret
  walk_at "mine go"
  all_goals (walk_at "mine end"; intro hG hK; refine hret _ _ _ _ ⟨_, int_eq ?_⟩ (by k_asm) (by k_asm) hK (fresh_of hG (by k_asm)))
  all_goals first | rfl | (simp; done)

theorem cmp_ti (x : Str) (y : Int) (tc : Str) (ti tj u : Tok) :
    CallTo w p loose mean mg mb 142 [.str x ti, .int y tj, .str tc u] 3 [] (fun v _ => ∃ t, v = .int (1) t) := by
  unfold CallTo; k_fill
  intro dp un gd cn cs a ccd cl outer A₀ base h₀ L m s Q E B F X N T hk hd hu hret
  walk_at "mine go"
  all_goals (walk_at "mine end"; intro hG hK; refine hret _ _ _ _ ⟨_, int_eq ?_⟩ (by k_asm) (by k_asm) hK (fresh_of hG (by k_asm)))
  all_goals first | rfl | (simp; done)

theorem cmp_ib (x : Int) (y : Array UInt8) (tc : Str) (ti tj u : Tok) :
    CallTo w p loose mean mg mb 142 [.int x ti, .bytes y tj, .str tc u] 3 [] (fun v _ => ∃ t, v = .int (-1) t) := by
  unfold CallTo; k_fill
  intro dp un gd cn cs a ccd cl outer A₀ base h₀ L m s Q E B F X N T hk hd hu hret
  walk_at "mine go"
  all_goals (walk_at "mine end"; intro hG hK; refine hret _ _ _ _ ⟨_, int_eq ?_⟩ (by k_asm) (by k_asm) hK (fresh_of hG (by k_asm)))
  all_goals first | rfl | (simp; done)

theorem cmp_bi (x : Array UInt8) (y : Int) (tc : Str) (ti tj u : Tok) :
    CallTo w p loose mean mg mb 142 [.bytes x ti, .int y tj, .str tc u] 3 [] (fun v _ => ∃ t, v = .int (1) t) := by
  unfold CallTo; k_fill
  intro dp un gd cn cs a ccd cl outer A₀ base h₀ L m s Q E B F X N T hk hd hu hret
  walk_at "mine go"
  all_goals (walk_at "mine end"; intro hG hK; refine hret _ _ _ _ ⟨_, int_eq ?_⟩ (by k_asm) (by k_asm) hK (fresh_of hG (by k_asm)))
  all_goals first | rfl | (simp; done)

theorem cmp_tb (x : Str) (y : Array UInt8) (tc : Str) (ti tj u : Tok) :
    CallTo w p loose mean mg mb 142 [.str x ti, .bytes y tj, .str tc u] 3 [] (fun v _ => ∃ t, v = .int (-1) t) := by
  unfold CallTo; k_fill
  intro dp un gd cn cs a ccd cl outer A₀ base h₀ L m s Q E B F X N T hk hd hu hret
  walk_at "mine go"
  all_goals (walk_at "mine end"; intro hG hK; refine hret _ _ _ _ ⟨_, int_eq ?_⟩ (by k_asm) (by k_asm) hK (fresh_of hG (by k_asm)))
  all_goals first | rfl | (simp; done)

theorem cmp_bt (x : Array UInt8) (y : Str) (tc : Str) (ti tj u : Tok) :
    CallTo w p loose mean mg mb 142 [.bytes x ti, .str y tj, .str tc u] 3 [] (fun v _ => ∃ t, v = .int (1) t) := by
  unfold CallTo; k_fill
  intro dp un gd cn cs a ccd cl outer A₀ base h₀ L m s Q E B F X N T hk hd hu hret
  walk_at "mine go"
  all_goals (walk_at "mine end"; intro hG hK; refine hret _ _ _ _ ⟨_, int_eq ?_⟩ (by k_asm) (by k_asm) hK (fresh_of hG (by k_asm)))
  all_goals first | rfl | (simp; done)

theorem cmp_bb (x : Array UInt8) (y : Array UInt8) (tc : Str) (ti tj u : Tok) :
    CallTo w p loose mean mg mb 142 [.bytes x ti, .bytes y tj, .str tc u] 3 [] (fun v _ => ∃ t, v = .int (if (Builtin.Bytes.order x.toList y.toList == .lt) = true then -1 else if (Builtin.Bytes.order y.toList x.toList == .lt) = true then 1 else 0) t) := by
  unfold CallTo; k_fill
  intro dp un gd cn cs a ccd cl outer A₀ base h₀ L m s Q E B F X N T hk hd hu hret
  walk_at "mine go"
  all_goals (walk_at "mine end"; intro hG hK; refine hret _ _ _ _ ⟨_, int_eq ?_⟩ (by k_asm) (by k_asm) hK (fresh_of hG (by k_asm)))
  all_goals first | rfl | (simp; done)

theorem cmp_all (c i j : Nat) (hc : c < 4) (hi : i < 13) (hj : j < 13) (ti tj tc : Tok) :
    CallTo w p loose mean mg mb 142 [valAt i ti, valAt j tj, .str (colAt c) tc] 3 [] (fun v _ => ∃ t, v = .int (sg (rk c i) (rk c j)) t) := by
  by_cases h1 : i < 9
  · have e1 : valAt i ti = .str (txt i) ti := by rcases lt9 h1 with rfl | rfl | rfl | rfl | rfl | rfl | rfl | rfl | rfl <;> rfl
    rw [e1]
    by_cases h2 : j < 9
    · have e2 : valAt j tj = .str (txt j) tj := by rcases lt9 h2 with rfl | rfl | rfl | rfl | rfl | rfl | rfl | rfl | rfl <;> rfl
      rw [e2]
      exact cmp_tt c i j hc h1 h2 _ _ _
    · rcases (by omega : j = 9 ∨ j = 10 ∨ j = 11 ∨ j = 12) with rfl | rfl | rfl | rfl
      · rw [sg_hi c i 9 hc h1 (by decide)]; exact cmp_ti _ _ _ _ _ _
      · rw [sg_hi c i 10 hc h1 (by decide)]; exact cmp_ti _ _ _ _ _ _
      · rw [sg_lo c i 11 hc h1 (by decide)]; exact cmp_tb _ _ _ _ _ _
      · rw [sg_lo c i 12 hc h1 (by decide)]; exact cmp_tb _ _ _ _ _ _
  · by_cases h2 : j < 9
    · have e2 : valAt j tj = .str (txt j) tj := by rcases lt9 h2 with rfl | rfl | rfl | rfl | rfl | rfl | rfl | rfl | rfl <;> rfl
      rw [e2]
      rcases (by omega : i = 9 ∨ i = 10 ∨ i = 11 ∨ i = 12) with rfl | rfl | rfl | rfl
      · rw [sg_lo' c j 9 hc h2 (by decide)]; exact cmp_it _ _ _ _ _ _
      · rw [sg_lo' c j 10 hc h2 (by decide)]; exact cmp_it _ _ _ _ _ _
      · rw [sg_hi' c j 11 hc h2 (by decide)]; exact cmp_bt _ _ _ _ _ _
      · rw [sg_hi' c j 12 hc h2 (by decide)]; exact cmp_bt _ _ _ _ _ _
    · rcases (by omega : i = 9 ∨ i = 10 ∨ i = 11 ∨ i = 12) with rfl | rfl | rfl | rfl <;> rcases (by omega : j = 9 ∨ j = 10 ∨ j = 11 ∨ j = 12) with rfl | rfl | rfl | rfl <;>
        first
        | exact cmp_ii 1 1 _ _ _ _ | exact cmp_ii 1 2 _ _ _ _ | exact cmp_ii 2 1 _ _ _ _ | exact cmp_ii 2 2 _ _ _ _
        | exact cmp_ib _ _ _ _ _ _ | exact cmp_bi _ _ _ _ _ _
        | exact cmp_bb #[97] #[97] _ _ _ _ | exact cmp_bb #[97] #[65] _ _ _ _ | exact cmp_bb #[65] #[97] _ _ _ _ | exact cmp_bb #[65] #[65] _ _ _ _
end
end Mine
open PySem PySem.W PySem.Calls PyProof.Rows
set_option maxRecDepth 100000
set_option maxHeartbeats 0
namespace Mine
theorem words_W4 : True := by
  k_with_none
  (k_with "mine enter" => (refine' code_kept (by k_asm) (by k_asm) (by k_asm) (by k_asm) (by k_asm) rfl rfl (by assumption) (by k_is) (by k_is) (by ktr_room) (by first | exact BindsTo.of_eq rfl | exact binds_K (by k_in) rfl (by k_is) rfl rfl rfl) (by exact locs rfl) ?_ (by exact rfl) (by exact rfl) (by exact rfl) (by decide); k_whole; intro g' L' h' FG' F' N' B' X' T'; (try dsimp only); (try k_lift B'); (try k_fold)))
  (k_with "mine go" => (refine wpAny_call ?_; k_dflt (walk_at "mine enter"); k_steps))
  (k_with "mine end" => (unfold KeptR; dsimp only))
  (k_with "my exec For Name Name cons nil" => (k_here; (with_reducible show wpAny _ _ (exec (Stmt.For _ _ _ [] _) _) _ _ _); k_strName; (rename Fr _ _ _ _ => lF'); (with_unfolding_all refine' For_invVF lF' (by exact rfl) (by exact rfl) ?_; k_whole)))
  (k_with "my pyIter str" => ((with_reducible show wpAny _ _ (pyIter (Value.str _ _)) (fun it s₂ => LoopAtV _ _ _ _ _ _ _ _ _ it s₂) _ _); k_here; k_strUnr))
  (k_with "my call ref" => (k_here; (with_reducible show wpAny _ _ (call (Value.ref _) _) _ _ _); refine wpAny_call ?_; k_dflt (refine' code_def (by k_asm) (by k_asm) (by k_asm) (by k_asm) (by k_asm) rfl rfl (by first | exact rfl | assumption) (by k_is) (by k_is) (by ktr_room) (by first | exact BindsTo.of_eq rfl | exact binds_K (by k_in) rfl (by k_is) rfl rfl rfl) (by exact locs rfl) ?_ (by exact rfl) (by exact rfl) (by exact rfl) (by decide); k_whole; intro g' L' h' FG' F' N' B' X' T'; (try dsimp only); (try k_lift B'); (try k_fold))))
  (k_with "my eval ListComp" => (k_here; k_dflt (refine ListComp_S (F₀ := by k_asm) (by rfl) (by decide) (by rfl) (by decide) (by rfl) ?_)))
  (k_with "my SrcS" => (k_here; k_dflt (refine SrcS.intro (by assumption) (by rfl) (by k_asm) (by k_asm) (by decide +kernel) (by rfl) (by exact Nat.le_of_ble_eq_true rfl) ?_); intro g'))
  (k_with "my CompRest" => (with_unfolding_all (refine LCg.CompRest.succ ?_; intro v' I' oI' C' oC' D' m' h' tk' E' hv' hC' hx' F' N' off' ne'; obtain ⟨t9', hv9'⟩ := hv'; simp only [nthS] at hv9'; subst hv9'; (try simp only [LCg.Off3, and_true] at off'))))
  (k_with "mine pl" => (refine ⟨_, _, rfl, ?_, by k_mem⟩; refine pl_end ?_))
  trivial
local macro_rules | `(tactic| walk_at "exec For Name Name cons nil") => `(tactic| k_extra "my exec For Name Name cons nil")
local macro_rules | `(tactic| walk_at "pyIter str") => `(tactic| k_extra "my pyIter str")
local macro_rules | `(tactic| walk_at "call ref") => `(tactic| k_extra "my call ref")
local macro_rules | `(tactic| walk_at "eval ListComp") => `(tactic| k_extra "my eval ListComp")
local macro_rules | `(tactic| walk_at "SrcS") => `(tactic| k_extra "my SrcS")
local macro_rules | `(tactic| walk_at "CompRest") => `(tactic| k_extra "my CompRest")


/-- the i-th of some texts -/
def nthS : List Str → Nat → Str
  | [], _ => ""
  | x :: _, 0 => x
  | _ :: r, n + 1 => nthS r n
theorem nthS_get : ∀ (l : List Str) (i : Nat) (y : Str), l[i]? = some y → nthS l i = y
  | [], _, _, h => by simp at h
  | x :: _, 0, _, h => by simpa [nthS] using h
  | _ :: r, n + 1, y, h => by simp only [nthS]; exact nthS_get r n y (by simpa using h)

section
variable {prog : Program} {w : World} {A : Around} {E : Value → Shared → Prop} {s : Shared} {h₀ : Heap} {L : Addr} {m : Str → Option Value} {env : Env}
def SrcS (prog : Program) (w : World) (A : Around) (h₀ : Heap) (L : Addr) (m : Str → Option Value) (env : Env) (elt : Expr) (x : Str) (scope : Scope) (cl : List (Str × Addr)) (Fin : Shared → List Value → List (Addr × Obj) → Prop) (xv : Value) (s₁ : Shared) : Prop :=
  ∃ tx t l news, xv = .str tx t ∧ A.handled = none ∧ Fr h₀ L s₁.heap m ∧ News h₀ L s₁.heap news ∧ tx.cps.all (· < 128) = true ∧ tx.cps.toList.map (fun c => (⟨#[c]⟩ : Str)) = l ∧ l.length ≤ sizeLine ∧
    ∀ s₂ : Shared, (∃ h, s₂ = { s₁ with heap := h }) → LCg.CompRest prog w A h₀ L m env elt x scope cl s₂ (fun _ => True) (fun i v => ∃ t, v = .str (nthS l i) t) (Fin s₂) l.length 0 [] news
theorem SrcS.intro {elt : Expr} {x : Str} {scope : Scope} {cl : List (Str × Addr)} {Fin : Shared → List Value → List (Addr × Obj) → Prop} {tx : Str} {t : Tok} {l : List Str} {n : Nat} {news : List (Addr × Obj)} {s₁ : Shared}
    (hl : tx.cps.toList.map (fun c => (⟨#[c]⟩ : Str)) = l) (hh : A.handled = none) (F : Fr h₀ L s₁.heap m) (N : News h₀ L s₁.heap news) (ha : tx.cps.all (· < 128) = true) (hn : l.length = n) (hsz : n ≤ sizeLine)
    (h : ∀ g, LCg.CompRest prog w A h₀ L m env elt x scope cl { s₁ with heap := g } (fun _ => True) (fun i v => ∃ t, v = .str (nthS l i) t) (Fin { s₁ with heap := g }) n 0 [] news) :
    SrcS prog w A h₀ L m env elt x scope cl Fin (.str tx t) s₁ := ⟨tx, t, l, news, rfl, hh, F, N, ha, hl, hn ▸ hsz, fun _ ⟨g, e⟩ => e ▸ hn ▸ h g⟩
theorem sign_walks {I : Addr} (hh : A.handled = none) (tx : Str) (t : Tok) (l : List Str) (hl : tx.cps.toList.map (fun c => (⟨#[c]⟩ : Str)) = l) : Walks prog w A I [I] [I] l.length (fun i v => ∃ t, v = .str (nthS l i) t) (fun i h => h.IsStrIter I "str_ascii_iterator" tx t i) := by
  have hn : l.length = tx.cps.size := by rw [← hl, List.length_map, Array.length_toList]
  rw [hn]
  have W := Walks.strAscii (prog := prog) (w := w) hh I tx t
  refine { sub := W.sub, frame := W.frame, done := W.done, self := W.self, item := fun i s Q E hi st hQ => W.item i s Q E hi st fun v h' tk hP => hQ v h' tk ?_ }
  obtain ⟨c, u, hc, rfl⟩ := hP
  refine ⟨u, ?_⟩
  rw [nthS_get l i ⟨#[c]⟩ (by rw [← hl, List.getElem?_map, Array.getElem?_toList, hc]; rfl)]
theorem ListComp_S {elt iter : Expr} {x : Str} {px : Pos} {scope : Scope} {cl : List (Str × Addr)} {pos : Pos} {Q : Value → Shared → Prop} (F₀ : Fr h₀ L s.heap m)
    (hclos : closureFor scope env = pure cl) (hcell : ∀ y ∈ scope.names, y.2 ≠ .cell) (hkind : scope.kind = .function)
    (hnames : ∀ y ∈ scope.names, y.2 = .local → scope.names.lookup y.1 = some .local) (hx : scope.names.lookup x = some .local)
    (h : wpAny (model prog w) A (eval iter env) (SrcS prog w A h₀ L m env elt x scope cl (fun s₂ => LCg.FinE h₀ L m s₂ Q)) E s)
    (hs : ∀ x, foldedSetIterable iter env x = pure x := by intro _; rfl) :
    wpAny (model prog w) A (eval (.ListComp elt [⟨.Name x px, iter, [], 0⟩] scope pos) env) Q E s := by
  rw [eval_ListComp]
  refine wpAny_comprehension_free (use := none) rfl hs hclos hkind hnames (wpAny_mono h (fun xv s₁ h₁ => ?_) fun _ _ e => e)
  obtain ⟨tx, t, l, news, rfl, hh, F, N, ha, hl, hsz, R⟩ := h₁
  refine wpAny_pyIter_ascii ha ?_
  have up : ∀ b o, s₁.heap.get? b = some o → (s₁.heap.push { cls := .type "str_ascii_iterator", data := .fields #[.str tx t, .int 0 0] }).get? b = some o := fun b o e => Heap.get?_push_of_some _ e
  refine LCg.block_U (sign_walks hh tx t l hl) hsz (fun i h st => by obtain ⟨o, e, _⟩ := st; exact ⟨o, e⟩)
    (fun i h h' o nw st e e' _ _ _ => by obtain ⟨o', q, r⟩ := st; rw [e] at q; cases q; exact ⟨o, e', r⟩) hcell hkind hx ⟨_, Heap.get?_push_size _ rfl, rfl, rfl⟩ (fun b hb => ?_)
    (F.keeps up) (N.grown up) (Nat.ne_of_lt F.ns.lt) (next_is_new F) (fun p hp => Nat.ne_of_lt (Heap.lt_size (N p hp).1)) trivial (R _ ⟨_, rfl⟩) ?_
  · rw [List.mem_singleton.mp hb]
    show s₁.heap.objs.size < (s₁.heap.push _).objs.size
    rw [Heap.size_push]; exact Nat.lt_succ_self _
  · intro D C h tk m' ys news' F' N' o1 hn hC₀ hD₀ hCL hDL hCD offC fin
    refine ⟨m', hn, fun h'' hs'' => fin D h'' tk (F'.change hs'' hCL hC₀) (fun p hp => ?_) o1⟩
    refine ⟨hs''.extBut _ _ ?_ (N' p hp).1, (N' p hp).2⟩
    rcases List.mem_cons.mp hp with rfl | hp
    · exact Ne.symm hCD
    · exact offC p hp
end

def plA (i : Nat) : Int := match i with | 9 => 0 | 10 => 0 | 11 => 2 | 12 => 2 | _ => 1
def plB (i : Nat) : Int := match i with | 9 => 1 | 10 => 2 | _ => 0
def plS (c i : Nat) : Str := match i with | 9 => "" | 10 => "" | 11 => "" | 12 => "" | i => collT c i
def plZ (i : Nat) : Array UInt8 := match i with | 11 => #[97] | 12 => #[65] | _ => #[]
/-- the object is a tuple: a place -/
def PlO (a b : Int) (x : Str) (z : Array UInt8) (o : Obj) : Prop := ∃ ta tb ts tz n, o = { cls := .type "tuple", data := .seq #[.int a ta, .int b tb, .str x ts, .bytes z tz] n }
def sgns : Nat → List Str
  | 0 => ["a"] | 1 => ["A"] | 2 => ["a", " "] | 3 => ["A", " ", " "] | 4 => ["b"] | 5 => ["B"] | 6 => [] | 7 => [" "] | _ => ["a", "b"]
theorem sgns_eq {i : Nat} (hi : i < 9) : (txt i).cps.toList.map (fun c => (⟨#[c]⟩ : Str)) = sgns i := by
  rcases lt9 hi with rfl | rfl | rfl | rfl | rfl | rfl | rfl | rfl | rfl <;> decide +kernel
theorem pl_end {a b : Int} {x y : Str} {z : Array UInt8} {ta tb ts tz : Tok} {n : Nat} (h : x = y) : PlO a b y z { cls := .type "tuple", data := .seq #[.int a ta, .int b tb, .str x ts, .bytes z tz] n } := ⟨ta, tb, ts, tz, n, by rw [h]⟩
section
variable {w : World} {p : Program} {loose : List Str} {mean : ExcName → Option Value} {mg mb : Str → Option Value}

theorem place_n (i : Nat) (hi : i < 9) (t u : Tok) :
    CallTo w p loose mean mg mb 428 [.str (txt i) t, .str "nocase" u] 1 [] (fun v nw => ∃ D o, v = .ref D ∧ PlO 1 0 (foldT i) #[] o ∧ (D, o) ∈ nw) := by
  unfold CallTo; k_fill
  intro dp un gd cn cs a ccd cl outer A₀ base h₀ L m s Q E B F X N T hk hd hu hret
  have hl := sgns_eq hi
  rcases lt9 hi with rfl | rfl | rfl | rfl | rfl | rfl | rfl | rfl | rfl
  all_goals (simp only [txt, foldT, sgns] at hret hl ⊢; clear hi)
  all_goals (walk_at "mine go")
  all_goals (walk_at "mine end"; intro hG hK; refine hret _ _ _ _ ?_ (by k_asm) (by k_asm) hK (fresh_of hG (by k_asm)); walk_at "mine pl")
  all_goals decide +kernel

theorem place_r (i : Nat) (hi : i < 9) (t u : Tok) :
    CallTo w p loose mean mg mb 428 [.str (txt i) t, .str "rtrim" u] 1 [] (fun v nw => ∃ D o, v = .ref D ∧ PlO 1 0 (cutT i) #[] o ∧ (D, o) ∈ nw) := by
  unfold CallTo; k_fill
  intro dp un gd cn cs a ccd cl outer A₀ base h₀ L m s Q E B F X N T hk hd hu hret
  rcases lt9 hi with rfl | rfl | rfl | rfl | rfl | rfl | rfl | rfl | rfl
  all_goals (simp only [txt, cutT] at hret ⊢; clear hi)
  all_goals (walk_at "mine go")
  all_goals (walk_at "mine end"; intro hG hK; refine hret _ _ _ _ ?_ (by k_asm) (by k_asm) hK (fresh_of hG (by k_asm)); walk_at "mine pl")
  all_goals decide +kernel

end
end Mine
open PySem PySem.W PySem.Calls PyProof.Rows
set_option maxRecDepth 100000
set_option maxHeartbeats 0
namespace Mine
theorem words_W4b : True := by
  k_with_none
  (k_with "mine enter" => (refine' code_kept (by k_asm) (by k_asm) (by k_asm) (by k_asm) (by k_asm) rfl rfl (by assumption) (by k_is) (by k_is) (by ktr_room) (by first | exact BindsTo.of_eq rfl | exact binds_K (by k_in) rfl (by k_is) rfl rfl rfl) (by exact locs rfl) ?_ (by exact rfl) (by exact rfl) (by exact rfl) (by decide); k_whole; intro g' L' h' FG' F' N' B' X' T'; (try dsimp only); (try k_lift B'); (try k_fold)))
  (k_with "mine go" => (refine wpAny_call ?_; k_dflt (walk_at "mine enter"); k_steps))
  (k_with "mine end" => (unfold KeptR; dsimp only))
  (k_with "my exec For Name Name cons nil" => (k_here; (with_reducible show wpAny _ _ (exec (Stmt.For _ _ _ [] _) _) _ _ _); k_strName; (rename Fr _ _ _ _ => lF'); (with_unfolding_all refine' For_invVF lF' (by exact rfl) (by exact rfl) ?_; k_whole)))
  (k_with "my pyIter str" => ((with_reducible show wpAny _ _ (pyIter (Value.str _ _)) (fun it s₂ => LoopAtV _ _ _ _ _ _ _ _ _ it s₂) _ _); k_here; k_strUnr))
  (k_with "my call ref" => (k_here; (with_reducible show wpAny _ _ (call (Value.ref _) _) _ _ _); refine wpAny_call ?_; k_dflt (refine' code_def (by k_asm) (by k_asm) (by k_asm) (by k_asm) (by k_asm) rfl rfl (by first | exact rfl | assumption) (by k_is) (by k_is) (by ktr_room) (by first | exact BindsTo.of_eq rfl | exact binds_K (by k_in) rfl (by k_is) rfl rfl rfl) (by exact locs rfl) ?_ (by exact rfl) (by exact rfl) (by exact rfl) (by decide); k_whole; intro g' L' h' FG' F' N' B' X' T'; (try dsimp only); (try k_lift B'); (try k_fold))))
  (k_with "mine pl" => (refine ⟨_, _, rfl, ?_, by k_mem⟩; refine pl_end ?_))
  (k_with "my exec While BoolOp" => (k_here; k_dflt (refine whl_start 100 ?_)))
  trivial
local macro_rules | `(tactic| walk_at "exec For Name Name cons nil") => `(tactic| k_extra "my exec For Name Name cons nil")
local macro_rules | `(tactic| walk_at "pyIter str") => `(tactic| k_extra "my pyIter str")
local macro_rules | `(tactic| walk_at "call ref") => `(tactic| k_extra "my call ref")
local macro_rules | `(tactic| walk_at "exec While BoolOp") => `(tactic| k_extra "my exec While BoolOp")

section
variable {w : World} {p : Program} {loose : List Str} {mean : ExcName → Option Value} {mg mb : Str → Option Value}

theorem place_b (x : Str) (t u : Tok) :
    CallTo w p loose mean mg mb 428 [.str x t, .str "binary" u] 1 [] (fun v nw => ∃ D o, v = .ref D ∧ PlO 1 0 x #[] o ∧ (D, o) ∈ nw) := by
  unfold CallTo; k_fill
  intro dp un gd cn cs a ccd cl outer A₀ base h₀ L m s Q E B F X N T hk hd hu hret
  walk_at "mine go"
  all_goals (walk_at "mine end"; intro hG hK; refine hret _ _ _ _ ?_ (by k_asm) (by k_asm) hK (fresh_of hG (by k_asm)); walk_at "mine pl")
  all_goals rfl

theorem place_i (x : Int) (c : Str) (t u : Tok) :
    CallTo w p loose mean mg mb 428 [.int x t, .str c u] 1 [] (fun v nw => ∃ D o, v = .ref D ∧ PlO 0 x "" #[] o ∧ (D, o) ∈ nw) := by
  unfold CallTo; k_fill
  intro dp un gd cn cs a ccd cl outer A₀ base h₀ L m s Q E B F X N T hk hd hu hret
  walk_at "mine go"
  all_goals (walk_at "mine end"; intro hG hK; refine hret _ _ _ _ ?_ (by k_asm) (by k_asm) hK (fresh_of hG (by k_asm)); walk_at "mine pl")
  all_goals rfl

theorem place_z (x : Array UInt8) (c : Str) (t u : Tok) :
    CallTo w p loose mean mg mb 428 [.bytes x t, .str c u] 1 [] (fun v nw => ∃ D o, v = .ref D ∧ PlO 2 0 "" x o ∧ (D, o) ∈ nw) := by
  unfold CallTo; k_fill
  intro dp un gd cn cs a ccd cl outer A₀ base h₀ L m s Q E B F X N T hk hd hu hret
  walk_at "mine go"
  all_goals (walk_at "mine end"; intro hG hK; refine hret _ _ _ _ ?_ (by k_asm) (by k_asm) hK (fresh_of hG (by k_asm)); walk_at "mine pl")
  all_goals rfl

/-- the place of any of the thirteen, by any of the collations -/
def Pl (c i : Nat) (o : Obj) : Prop := PlO (plA i) (plB i) (plS c i) (plZ i) o
theorem place_all (c i : Nat) (hc : c < 4) (hi : i < 13) (t u : Tok) :
    CallTo w p loose mean mg mb 428 [valAt i t, .str (colAt c) u] 1 [] (fun v nw => ∃ D o, v = .ref D ∧ Pl c i o ∧ (D, o) ∈ nw) := by
  by_cases h : i < 9
  · have e1 : valAt i t = .str (txt i) t := by rcases lt9 h with rfl | rfl | rfl | rfl | rfl | rfl | rfl | rfl | rfl <;> rfl
    have e2 : plA i = 1 := by rcases lt9 h with rfl | rfl | rfl | rfl | rfl | rfl | rfl | rfl | rfl <;> rfl
    have e3 : plB i = 0 := by rcases lt9 h with rfl | rfl | rfl | rfl | rfl | rfl | rfl | rfl | rfl <;> rfl
    have e4 : plS c i = collT c i := by rcases lt9 h with rfl | rfl | rfl | rfl | rfl | rfl | rfl | rfl | rfl <;> rfl
    have e5 : plZ i = #[] := by rcases lt9 h with rfl | rfl | rfl | rfl | rfl | rfl | rfl | rfl | rfl <;> rfl
    unfold Pl
    rw [e1, e2, e3, e4, e5]
    rcases lt4 hc with rfl | rfl | rfl | rfl
    · exact place_b _ _ _
    · exact place_n i h _ _
    · exact place_n i h _ _
    · exact place_r i h _ _
  · rcases (by omega : i = 9 ∨ i = 10 ∨ i = 11 ∨ i = 12) with rfl | rfl | rfl | rfl
    · exact place_i _ _ _ _
    · exact place_i _ _ _ _
    · exact place_z _ _ _ _
    · exact place_z _ _ _ _
end
end Mine
open PySem PySem.W PySem.Calls PyProof.Rows
set_option maxRecDepth 100000
set_option maxHeartbeats 0
namespace Mine

/-- two places compared, item by item -/
def lexB (a b : Int) (x : Str) (z : Array UInt8) (a' b' : Int) (x' : Str) (z' : Array UInt8) : Bool :=
  if (a == a') = true then (if (b == b') = true then (if (x == x') = true then (if decide (z.toList = z'.toList) = true then false else (Builtin.Bytes.order z.toList z'.toList == .lt)) else decide (x.cps.toList < x'.cps.toList)) else decide (b < b')) else decide (a < a')
def eqI (a b : Int) (x : Str) (z : Array UInt8) (a' b' : Int) (x' : Str) (z' : Array UInt8) (j : Nat) : Bool := match j with
  | 0 => a == a' | 1 => b == b' | 2 => x == x' | _ => decide (z.toList = z'.toList)
def eqB (a b : Int) (x : Str) (z : Array UInt8) (a' b' : Int) (x' : Str) (z' : Array UInt8) : Bool := (a == a') && (b == b') && (x == x') && decide (z.toList = z'.toList)
theorem lexB_rk : ∀ c, c < 4 → ∀ i, i < 13 → ∀ j, j < 13 → lexB (plA i) (plB i) (plS c i) (plZ i) (plA j) (plB j) (plS c j) (plZ j) = decide (rk c i < rk c j) := by decide +kernel
theorem eqB_rk : ∀ c, c < 4 → ∀ i, i < 13 → ∀ j, j < 13 → eqB (plA i) (plB i) (plS c i) (plZ i) (plA j) (plB j) (plS c j) (plZ j) = decide (rk c i = rk c j) := by decide +kernel

section
variable {prog : Program} {w : World} {A : Around} {E : Value → Shared → Prop} {s : Shared}

theorem eq_pl {l b : Addr} {c i j : Nat} {o o' : Obj} {Q : Value → Shared → Prop} (hc : c < 4) (hi : i < 13) (hj : j < 13) (h1 : s.heap.get? l = some o) (h2 : s.heap.get? b = some o') (p1 : Pl c i o) (p2 : Pl c j o') (hu : A.units < cLine)
    (h : Q (.bool (decide (rk c i = rk c j))) s) : wpAny (model prog w) A (compareOp .Eq (.ref l) (.ref b)) Q E s := by
  obtain ⟨ta, tb, ts, tz, n, rfl⟩ := p1
  obtain ⟨ua, ub, us, uz, k, rfl⟩ := p2
  refine PySem.SeqAt.eq_tupleAt (e := eqI (plA i) (plB i) (plS c i) (plZ i) (plA j) (plB j) (plS c j) (plZ j)) ⟨_, h1, rfl, n, rfl⟩ ⟨_, h2, rfl, k, rfl⟩ hu (fun q q1 q2 => ?_) ?_
  · rcases (by simp only [List.size_toArray, List.length_cons, List.length_nil] at q1; omega : q = 0 ∨ q = 1 ∨ q = 2 ∨ q = 3) with rfl | rfl | rfl | rfl
    · exact (PySem.MeetsSeq.EqGives.int _ _ _ _).at _ _
    · exact (PySem.MeetsSeq.EqGives.int _ _ _ _).at _ _
    · exact (eqGives_str _ _ _ _).at _ _
    · exact fun _ _ _ _ hq => eqBool_bytes hq
  · have e := eqB_rk c hc i hi j hj
    have e2 : ((List.range (min 4 4)).all (eqI (plA i) (plB i) (plS c i) (plZ i) (plA j) (plB j) (plS c j) (plZ j)) && (4 == 4)) = eqB (plA i) (plB i) (plS c i) (plZ i) (plA j) (plB j) (plS c j) (plZ j) := by
      show ([0, 1, 2, 3].all _ && true) = _
      simp only [List.all_cons, List.all_nil, eqI, eqB, Bool.and_true, Bool.and_assoc]
    rw [← e] at h
    rw [← e2] at h
    exact h

theorem lex_pl {a b : Int} {x : Str} {z : Array UInt8} {a' b' : Int} {x' : Str} {z' : Array UInt8} {ta tb ts tz ua ub us uz : Tok} {Q : Bool → Shared → Prop} (h : Q (lexB a b x z a' b' x' z') s) :
    KatLex prog w A true false Q [(.int a ta, .int a' ua), (.int b tb, .int b' ub), (.str x ts, .str x' us), (.bytes z tz, .bytes z' uz)] 0 s := by
  unfold lexB at h
  refine kat_cons (wpAny_eqBool_int ?_)
  refine kat_go (fun e => kat_yes ?_) (fun e => kat_no ?_)
  · rw [if_pos e] at h
    refine kat_cons (wpAny_eqBool_int ?_)
    refine kat_go (fun e => kat_yes ?_) (fun e => kat_no ?_)
    · rw [if_pos e] at h
      refine kat_cons (eqBool_str ?_)
      refine kat_go (fun e => kat_yes ?_) (fun e => kat_no ?_)
      · rw [if_pos e] at h
        refine kat_cons (eqBool_bytes ?_)
        refine kat_go (fun e => kat_yes (kat_nil ?_)) (fun e => kat_no ?_)
        · rw [if_pos e] at h; exact h
        · rw [if_neg (by rw [e]; simp)] at h
          exact kat_one _ _ (lt_bytes h)
      · rw [if_neg (by rw [e]; simp)] at h
        exact kat_one _ _ (PyProof.Rows.lt_str h)
    · rw [if_neg (by rw [e]; simp)] at h
      exact kat_one _ _ (PyProof.Rows.lt_int h)
  · rw [if_neg (by rw [e]; simp)] at h
    exact oneLt_int h

theorem ask_pl {d d' : Addr} {c i j : Nat} {o o' : Obj} {Q : Bool → Shared → Prop} (hc : c < 4) (hi : i < 13) (hj : j < 13) (h1 : s.heap.get? d = some o) (h2 : s.heap.get? d' = some o') (p1 : Pl c i o) (p2 : Pl c j o')
    (h : Q (decide (rk c i < rk c j)) s) : wpAny (model prog w) A (keyLt' (tuples' true) (.ref d) (.ref d')) Q E s := by
  obtain ⟨ta, tb, ts, tz, n, rfl⟩ := p1
  obtain ⟨ua, ub, us, uz, k, rfl⟩ := p2
  refine kat_lt h1 rfl h2 rfl ?_
  exact lex_pl (by rw [lexB_rk c hc i hi j hj]; exact h)
end

def runT {α : Type} (lt : Nat → Nat → Bool) : KasT α → α
  | .ret a => a
  | .ask i j k => runT lt (k (lt i j))
def okT {α : Type} (n : Nat) : KasT α → Bool
  | .ret _ => true
  | .ask i j k => decide (i < n) && decide (j < n) && okT n (k true) && okT n (k false)
theorem runT_congr {α : Type} {n : Nat} {f g : Nat → Nat → Bool} (h : ∀ i, i < n → ∀ j, j < n → f i j = g i j) : ∀ t : KasT α, okT n t = true → runT f t = runT g t
  | .ret _, _ => rfl
  | .ask i j k, ok => by
    simp only [okT, Bool.and_eq_true, decide_eq_true_eq] at ok
    show runT f (k (f i j)) = runT g (k (g i j))
    rw [h i ok.1.1.1 j ok.1.1.2]
    cases g i j
    · exact runT_congr h _ ok.2
    · exact runT_congr h _ ok.1.2
theorem run_wp {α : Type} {cmp : Nat → Nat → (Bool → Shared → Prop) → Shared → Prop} {n : Nat} {lt : Nat → Nat → Bool} {s : Shared} (h : ∀ i, i < n → ∀ j, j < n → ∀ C : Bool → Shared → Prop, C (lt i j) s → cmp i j C s) :
    ∀ (t : KasT α) (Q : α → Shared → Prop), okT n t = true → Q (runT lt t) s → t.kasWp cmp Q s
  | .ret _, _, _, hq => hq
  | .ask i j k, Q, ok, hq => by
    simp only [okT, Bool.and_eq_true, decide_eq_true_eq] at ok
    refine h i ok.1.1.1 j ok.1.1.2 _ ?_
    have hq' : Q (runT lt (k (lt i j))) s := hq
    revert hq'
    cases lt i j
    · exact fun hq' => run_wp h _ Q ok.2 hq'
    · exact fun hq' => run_wp h _ Q ok.1.2 hq'
theorem ok_sort2 : okT 2 (kas_sort 2) = true := by decide +kernel
theorem ok_sort3 : okT 3 (kas_sort 3) = true := by decide +kernel

/-- the ledger bears the places of the values is at the addresses ds -/
inductive Pls (c : Nat) (news : List (Addr × Obj)) : List Addr → List Nat → Prop
  | nil : Pls c news [] []
  | cons {d i o ds is} : (d, o) ∈ news → Pl c i o → i < 13 → Pls c news ds is → Pls c news (d :: ds) (i :: is)
theorem Pls.len {c : Nat} {news : List (Addr × Obj)} {ds : List Addr} {is : List Nat} (h : Pls c news ds is) : is.length = ds.length := by
  induction h with
  | nil => rfl
  | cons _ _ _ _ ih => simp [ih]
theorem Pls.at {c : Nat} {news : List (Addr × Obj)} {ds : List Addr} {is : List Nat} (h : Pls c news ds is) : ∀ a, a < ds.length → ∃ d o, (ds.map Value.ref).getD a Value.none = .ref d ∧ (d, o) ∈ news ∧ Pl c (is.getD a 0) o ∧ is.getD a 0 < 13 := by
  induction h with
  | nil => intro a ha; cases ha
  | @cons d i o ds is hm hp hi _ ih =>
    intro a ha
    cases a with
    | zero => exact ⟨d, o, rfl, hm, hp, hi⟩
    | succ a =>
      obtain ⟨d', o', e1, e2, e3, e4⟩ := ih a (by simpa using ha)
      exact ⟨d', o', by simpa using e1, e2, by simpa using e3, by simpa using e4⟩
theorem Pls.firsts {c : Nat} {news : List (Addr × Obj)} {ds : List Addr} {is : List Nat} {h : Heap} (hg : ∀ p ∈ news, h.get? p.1 = some p.2) (hp : Pls c news ds is) :
    ∃ fs, KatTups h (ds.map Value.ref) fs ∧ fs.length = ds.length ∧ ∀ v ∈ fs, ∃ a t, v = .int a t := by
  induction hp with
  | nil => exact ⟨[], .nil, rfl, fun _ h => nomatch h⟩
  | @cons d i o ds is hm hp hi _ ih =>
    obtain ⟨fs, k, e, a⟩ := ih
    obtain ⟨ta, tb, ts, tz, n, rfl⟩ := hp
    refine ⟨.int (plA i) ta :: fs, .cons (hg _ hm) rfl rfl rfl k, by simp [e], fun v hv => ?_⟩
    rcases List.mem_cons.mp hv with rfl | hv
    · exact ⟨_, _, rfl⟩
    · exact a v hv
theorem sorted_pl {prog : Program} {w : World} {A : Around} {E : Value → Shared → Prop} {s : Shared} {h₀ : Heap} {L l : Addr} {m : Str → Option Value} {news : List (Addr × Obj)} {Q : Value → Shared → Prop}
    {c n : Nat} {ds : List Addr} {is : List Nat} {out : List Value} (q : Nat → Nat) (hc : c < 4) (F : Fr h₀ L s.heap m) (N : News h₀ L s.heap news) (hl : s.heap.IsList l (ds.map Value.ref).toArray) (hP : Pls c news ds is) (hn : ds.length = n) (h2 : 2 ≤ n) (h64 : n < 64)
    (hok : okT n (kas_sort n) = true) (hq : ∀ a, a < n → ∀ b, b < n → (rk c (is.getD a 0) < rk c (is.getD b 0) ↔ q a < q b))
    (hout : (runT (fun a b => decide (q a < q b)) (kas_sort n)).toList.map (fun i => (ds.map Value.ref).getD i Value.none) = out)
    (h : ∀ D e h', Fr h₀ L h' m → News h₀ L h' ((D, listOf out.toArray e) :: news) → (∀ q ∈ news, q.1 < D) → Q (.ref D) { s with heap := h' }) :
    wpAny (model prog w) A (call (.builtin "sorted") [.ref l]) Q E s := by
  have hlen : (ds.map Value.ref).length = n := by rw [List.length_map, hn]
  refine kat_sorted F N hl (by rw [hlen]; exact h2) (by rw [hlen]; exact h64) fun D e1 h' F' N' lt => ?_
  have hg : ∀ p ∈ news, h'.get? p.1 = some p.2 := fun p hp => (N' p (.tail _ hp)).1
  obtain ⟨fs, k, e, a⟩ := hP.firsts hg
  refine kat_kind k (by rw [e, hn]; omega) (T := .type "int") (fun v hv => ?_) (by decide) ?_
  · obtain ⟨x, t, rfl⟩ := a v hv
    exact Looks.of_pure rfl
  rw [show (Value.type "int" != Value.type "tuple") = true from by decide, hlen]
  refine run_wp (n := n) (lt := fun a b => decide (rk c (is.getD a 0) < rk c (is.getD b 0))) (fun i hi j hj C hC => ?_) _ _ hok ?_
  · obtain ⟨d, o, e1, m1, p1, b1⟩ := hP.at i (hn ▸ hi)
    obtain ⟨d', o', e2, m2, p2, b2⟩ := hP.at j (hn ▸ hj)
    show wpAny _ _ (keyLt' (tuples' true) _ _) C _ _
    rw [e1, e2]
    exact ask_pl hc b1 b2 (hg _ m1) (hg _ m2) p1 p2 hC
  · rw [runT_congr (n := n) (g := fun a b => decide (q a < q b)) (fun i hi j hj => by rw [decide_eq_decide]; exact hq i hi j hj) _ hok, hout]
    exact KasFin.intro F' N' (.head fun p hp => Nat.ne_of_lt (lt p hp)) fun h'' c' F'' N'' => h D c' h'' F'' N'' lt
end Mine
open PySem PySem.W PySem.Calls PyProof.Rows
set_option maxRecDepth 100000
set_option maxHeartbeats 0
namespace Mine
theorem slot_bytes_repr : Slot "bytes" "__repr__" "bytes.__repr__" :=
  .of (owner := "bytes") (n := "__repr__") (by rw [typeLookup_type, builtinLookup_eq_fast]; kernel_rfl) (by decide +kernel) (by decide +kernel) (by decide +kernel)
    (by first | exact .inl (by decide +kernel) | exact .inr (by decide +kernel)) (by rw [isSubtype_type]; kernel_rfl)
theorem entry_bytes_repr : entryFor table "bytes.__repr__" = some Builtin.«bytes.__repr__» := entryFor_of_tree (by kernel_rfl)
theorem args_bytes_repr_1 (a : Value) : argsOk "bytes.__repr__" ⟨[a], []⟩ := by
  unfold argsOk; rw [signature?_of (id := "bytes.__repr__") (n := ['_', '_', 'r', 'p', 'e', 'r', '_', '_']) (o := ['s', 'e', 't', 'y', 'b']) (by kernel_rfl) PySem.W.FB.owner_bytes]; kernel_rfl
theorem gives_repr_97 (t : Tok) : Gives (Builtin.«bytes.__repr__» ⟨[.bytes #[97] t], []⟩) (.str (Str.ofString "b'a'")) := .of_eq (by kernel_rfl)
theorem gives_repr_65 (t : Tok) : Gives (Builtin.«bytes.__repr__» ⟨[.bytes #[65] t], []⟩) (.str (Str.ofString "b'A'")) := .of_eq (by kernel_rfl)

/-- the thirteen values as repr shows them -/
def rpAt (i : Nat) : Str := match i with
  | 9 => (toString (1 : Int) : String) | 10 => (toString (2 : Int) : String) | 11 => "b'a'" | 12 => "b'A'"
  | i => reprText (txt i)
theorem rp_len : ∀ i, i < 13 → (rpAt i).length ≤ 10 := by decide +kernel
theorem rp_two : ∀ i, i < 13 → ∀ j, j < 13 → (listText [rpAt i, rpAt j]).length ≤ 100 := by decide +kernel

section
variable {prog : Program} {w : World} {A : Around} {E : Value → Shared → Prop} {s : Shared}
theorem small_fits {n k : Nat} (h : n ≤ k) (hk : k ≤ 100) : n ≤ sizeLine := by rw [sizeLine_eq]; omega
theorem val_txt {i : Nat} (h : i < 9) (t : Tok) : valAt i t = .str (txt i) t := by rcases lt9 h with rfl | rfl | rfl | rfl | rfl | rfl | rfl | rfl | rfl <;> rfl
theorem rp_txt {i : Nat} (h : i < 9) : rpAt i = reprText (txt i) := by rcases lt9 h with rfl | rfl | rfl | rfl | rfl | rfl | rfl | rfl | rfl <;> rfl

theorem repr_val {i : Nat} {t : Tok} {Q : Value → Shared → Prop} (hi : i < 13) (h : Q (.str (rpAt i) s.toks) { s with toks := s.toks + 1 }) : wpAny (model prog w) A (call (.builtin "repr") [valAt i t]) Q E s := by
  have hz := rp_len i hi
  by_cases h9 : i < 9
  · rw [val_txt h9]
    rw [rp_txt h9] at h hz
    exact P.repr_of_str h (small_fits hz (by decide))
  · rcases (by omega : i = 9 ∨ i = 10 ∨ i = 11 ∨ i = 12) with rfl | rfl | rfl | rfl
    · exact P.repr_of_int (by decide) h
    · exact P.repr_of_int (by decide) h
    · exact call_repr_gives (PySem.W.typeIs_bytes s _ t) slot_bytes_repr entry_bytes_repr (args_bytes_repr_1 _) (gives_repr_97 t) h (hx := small_fits hz (by decide))
    · exact call_repr_gives (PySem.W.typeIs_bytes s _ t) slot_bytes_repr entry_bytes_repr (args_bytes_repr_1 _) (gives_repr_65 t) h (hx := small_fits hz (by decide))

theorem is_val {i : Nat} {t : Tok} (hi : i < 13) : ReprIs prog w (valAt i t) (rpAt i) := by
  have hz := rp_len i hi
  by_cases h9 : i < 9
  · rw [val_txt h9, rp_txt h9]
    rw [rp_txt h9] at hz
    exact ReprIs.str _ _ (small_fits hz (by decide))
  · rcases (by omega : i = 9 ∨ i = 10 ∨ i = 11 ∨ i = 12) with rfl | rfl | rfl | rfl
    · exact ReprIs.int _ (by decide)
    · exact ReprIs.int _ (by decide)
    · show ReprIs prog w (.bytes #[97] t) _
      intro n hn _ _ _ _ h
      rw [pyReprUnder_leaf (v := .bytes #[97] t) (by omega) (fun _ e => nomatch e)]
      unfold pyRepr
      exact wpAny_bind (wpAny_pyReprObj_gives (PySem.W.typeIs_bytes _ _ t) slot_bytes_repr entry_bytes_repr (args_bytes_repr_1 _) (gives_repr_97 t) (wpAny_pure (h _)) (hx := small_fits hz (by decide)))
    · show ReprIs prog w (.bytes #[65] t) _
      intro n hn _ _ _ _ h
      rw [pyReprUnder_leaf (v := .bytes #[65] t) (by omega) (fun _ e => nomatch e)]
      unfold pyRepr
      exact wpAny_bind (wpAny_pyReprObj_gives (PySem.W.typeIs_bytes _ _ t) slot_bytes_repr entry_bytes_repr (args_bytes_repr_1 _) (gives_repr_65 t) (wpAny_pure (h _)) (hx := small_fits hz (by decide)))

theorem repr_two {h₀ : Heap} {L a : Addr} {m : Str → Option Value} {news : List (Addr × Obj)} {i j n : Nat} {t u : Tok} {Q : Value → Shared → Prop} (hi : i < 13) (hj : j < 13) (F : Fr h₀ L s.heap m) (N : News h₀ L s.heap news)
    (hl : s.heap.get? a = some ({ cls := .type "list", data := .seq #[valAt i t, valAt j u] n } : Obj)) (hg : A.guards = some []) (hu : A.units + 4 < cLine)
    (h : ∀ h' u tk, Fr h₀ L h' m → News h₀ L h' news → Q (.str (listText [rpAt i, rpAt j]) u) { s with heap := h', toks := tk }) :
    wpAny (model prog w) A (call (.builtin "repr") [.ref a]) Q E s := by
  refine call_repr_slot (by omega) (T := "list") ⟨_, hl, rfl⟩ PySem.F.slot_list_repr.toG ?_
  refine call_list_reprK (h₀ := s.heap) (as := []) (d := 0) hl rfl rfl (fun h => nomatch h) rfl (ts := [rpAt i, rpAt j]) (fun q y e => ?_) hg (fun b _ => Clear.nil b) (by show A.units + 1 + (0 + 1) < cLine; omega) (fun _ _ e => e) (fun h' u tk k => ⟨_, _, rfl, h h' u tk (F.keeps k) (N.keepsAll k)⟩) (small_fits (rp_two i hi j hj) (by decide))
  rcases q with _ | _ | q
  · simp at e; subst e; exact ⟨_, rfl, ReprK.of_is (is_val hi) _ _ _⟩
  · simp at e; subst e; exact ⟨_, rfl, ReprK.of_is (is_val hj) _ _ _⟩
  · simp at e
end
end Mine
open PySem PySem.W PySem.Calls PyProof.Rows
set_option maxRecDepth 100000
set_option maxHeartbeats 0
namespace Mine
theorem words_W7 : True := by
  k_with_none
  (k_with "mine enter" => (refine' code_kept (by k_asm) (by k_asm) (by k_asm) (by k_asm) (by k_asm) rfl rfl (by assumption) (by k_is) (by k_is) (by ktr_room) (by first | exact BindsTo.of_eq rfl | exact binds_K (by k_in) rfl (by k_is) rfl rfl rfl) (by exact locs rfl) ?_ (by exact rfl) (by exact rfl) (by exact rfl) (by decide); k_whole; intro g' L' h' FG' F' N' B' X' T'; (try dsimp only); (try k_lift B'); (try k_fold)))
  (k_with "mine go" => (refine wpAny_call ?_; k_dflt (walk_at "mine enter"); k_steps))
  (k_with "mine end" => (unfold KeptR; dsimp only))
  (k_with "my exec For Name Name cons nil" => (k_here; (with_reducible show wpAny _ _ (exec (Stmt.For _ _ _ [] _) _) _ _ _); k_strName; (rename Fr _ _ _ _ => lF'); (with_unfolding_all refine' For_invVF lF' (by exact rfl) (by exact rfl) ?_; k_whole)))
  (k_with "my pyIter str" => ((with_reducible show wpAny _ _ (pyIter (Value.str _ _)) (fun it s₂ => LoopAtV _ _ _ _ _ _ _ _ _ it s₂) _ _); k_here; k_strUnr))
  (k_with "my call ref" => (k_here; (with_reducible show wpAny _ _ (call (Value.ref _) _) _ _ _); refine wpAny_call ?_; k_dflt (refine' code_def (by k_asm) (by k_asm) (by k_asm) (by k_asm) (by k_asm) rfl rfl (by first | exact rfl | assumption) (by k_is) (by k_is) (by ktr_room) (by first | exact BindsTo.of_eq rfl | exact binds_K (by k_in) rfl (by k_is) rfl rfl rfl) (by exact locs rfl) ?_ (by exact rfl) (by exact rfl) (by exact rfl) (by decide); k_whole; intro g' L' h' FG' F' N' B' X' T'; (try dsimp only); (try k_lift B'); (try k_fold))))
  (k_with "my call ref" => (k_here; (with_reducible show wpAny _ _ (call (Value.ref 142) _) _ _ _); k_dflt (refine' useA0 (fun (H : _ ∧ _ ∧ _) => cmp_all _ _ _ H.1 H.2.1 H.2.2 _ _ _) ?_); (intro v' h' tk' hv' F' N'; obtain ⟨t', hv'⟩ := hv'; subst hv'; (try k_sweep); (try dsimp only))))
  (k_with "my exec For Name Subscript cons nil" => (k_here; (rename Fr _ _ _ _ => lF'); (with_unfolding_all refine' For_turns lF' ?_; k_whole)))
  (k_with "my exec For Name Name cons nil" => (k_here; (rename Fr _ _ _ _ => lF'); (with_unfolding_all refine' For_turns lF' ?_; k_whole)))
  (k_with "my compareOp Is none" => refine is_none_ne val_none ?_)
  (k_with "mine pick" => ((repeat (first | rw [pick_yes (by omega)] | rw [pick_no (by omega)])); rfl))
  trivial
local macro_rules | `(tactic| walk_at "exec For Name Name cons nil") => `(tactic| k_extra "my exec For Name Name cons nil")
local macro_rules | `(tactic| walk_at "pyIter str") => `(tactic| k_extra "my pyIter str")
local macro_rules | `(tactic| walk_at "call ref") => `(tactic| k_extra "my call ref")
local macro_rules | `(tactic| walk_at "exec For Name Subscript cons nil") => `(tactic| k_extra "my exec For Name Subscript cons nil")
local macro_rules | `(tactic| walk_at "compareOp Is none") => `(tactic| k_extra "my compareOp Is none")


/-- the call asks for some objects of the ledger, which it keeps, and hands on a plain value -/
theorem CallTo.useS {w : World} {p : Program} {loose : List Str} {mean : ExcName → Option Value} {mg mb : Str → Option Value} {f : Addr} {vs : List Value} {d : Nat} {sub news : List (Addr × Obj)} {R : Value → Prop}
    {dp un : Nat} {gd : Option (List Code)} {cn : Str} {cs : Scope} {a : Addr} {ccd : Value} {cl : List (Str × Addr)} {outer : List Env} {A₀ : Around} {base h₀ : Heap} {L : Addr} {m : Str → Option Value} {s : Shared} {Q E : Value → Shared → Prop}
    (C : CallTo w p loose mean mg mb f vs d sub (fun v nw => R v ∧ ∀ q ∈ sub, q ∈ nw)) (hs : ∀ q ∈ sub, q ∈ news) (B : Below A₀ base outer h₀) (F : Fr h₀ L s.heap m) (X : (Mine.K w.params).In h₀) (N : News h₀ L s.heap news) (T : Top p loose mean mg mb h₀) (hk : cs.kind = .function)
    (hd : dp + d < recursionLimit) (hu : un + 8 * d < cLine)
    (ret : ∀ v h' tk', R v → Fr h₀ L h' m → News h₀ L h' news → Q v { s with heap := h', toks := tk' }) :
    wpAny (model PySem.Challenge.rw_nt0118_01.row.prog w) (ktrTop dp un gd cn cs L a ccd cl outer) (call (.ref f) vs) Q E s :=
  C _ _ _ _ _ _ _ _ _ _ _ _ _ _ _ _ _ B F X (fun q hq => N q (hs q hq)) T hk hd hu fun v nw h' tk' hP F' N' k _ => ret v h' tk' hP.1 F' fun q hq => by
    by_cases hm : q.1 ∈ sub.map (·.1)
    · obtain ⟨q', hq', e⟩ := List.mem_map.mp hm
      have e1 := (N q' (hs q' hq')).1
      rw [e, (N q hq).1] at e1
      have : q' = q := Prod.ext e (Option.some.inj e1).symm
      exact N' q (hP.2 q (this ▸ hq'))
    · exact ⟨k _ _ (N q hq).1 hm, (N q hq).2⟩
theorem useSA {w : World} {p : Program} {loose : List Str} {mean : ExcName → Option Value} {mg mb : Str → Option Value} {f : Addr} {vs : List Value} {d : Nat} {sub news : List (Addr × Obj)} {R : Value → Prop} {dp un : Nat} {gd : Option (List Code)} {cn : Str} {cs : Scope} {a : Addr} {ccd : Value} {cl : List (Str × Addr)} {outer : List Env} {A₀ : Around} {base h₀ : Heap} {L : Addr} {m : Str → Option Value} {s : Shared} {Q E : Value → Shared → Prop} {S : Prop}
    (C : S → CallTo w p loose mean mg mb f vs d sub (fun v nw => R v ∧ ∀ q ∈ sub, q ∈ nw)) (ret : ∀ v h' tk', R v → Fr h₀ L h' m → News h₀ L h' news → Q v { s with heap := h', toks := tk' })
    (B : Below A₀ base outer h₀ := by k_asm) (F : Fr h₀ L s.heap m := by k_asm) (X : (Mine.K w.params).In h₀ := by k_asm) (N : News h₀ L s.heap news := by k_asm) (T : Top p loose mean mg mb h₀ := by k_asm) (hk : cs.kind = .function := by first | exact rfl | assumption) (hs : ∀ q ∈ sub, q ∈ news := by lcg_sub) (hd : dp + d < recursionLimit := by ktr_room) (hu : un + 8 * d < cLine := by ktr_units) (c : S := by (repeat' apply And.intro) <;> first | assumption | (split <;> assumption) | omega | decide) :
    wpAny (model PySem.Challenge.rw_nt0118_01.row.prog w) (ktrTop dp un gd cn cs L a ccd cl outer) (call (.ref f) vs) Q E s := CallTo.useS (C c) hs B F X N T hk hd hu ret

/-- the best of some, as chosen picks it -/
def pick (s : Int) (c : Nat) : Nat → List Nat → Nat
  | b, [] => b
  | b, v :: r => pick s c (if sg (rk c v) (rk c b) = s ∨ (sg (rk c v) (rk c b) = 0 ∧ s < 0) then v else b) r
theorem val_eq {i j : Nat} {t : Tok} (h : i = j) : valAt i t = valAt j t := by rw [h]
theorem val_none {i : Nat} {t : Tok} : valAt i t ≠ .none := by unfold valAt; split <;> intro x <;> cases x
abbrev lstO (vs : List Value) (n : Nat) : Obj := { cls := .type "list", data := .seq vs.toArray n }
theorem pick_yes {s : Int} {c b v : Nat} {r : List Nat} (h : sg (rk c v) (rk c b) = s ∨ (sg (rk c v) (rk c b) = 0 ∧ s < 0)) : pick s c b (v :: r) = pick s c v r := by
  show pick s c (if _ then v else b) r = _
  rw [if_pos h]
theorem pick_no {s : Int} {c b v : Nat} {r : List Nat} (h : ¬ (sg (rk c v) (rk c b) = s ∨ (sg (rk c v) (rk c b) = 0 ∧ s < 0))) : pick s c b (v :: r) = pick s c b r := by
  show pick s c (if _ then v else b) r = _
  rw [if_neg h]
section
variable {w : World} {p : Program} {loose : List Str} {mean : ExcName → Option Value} {mg mb : Str → Option Value}

theorem chosen2x (c i1 i2 : Nat) (hc : c < 4) (h1 : i1 < 13) (h2 : i2 < 13) (l : Addr) (n : Nat) (t1 t2 ts tc : Tok) :
    CallTo w p loose mean mg mb 313 [.ref l, .int (1) ts, .str (colAt c) tc] 4 [(l, lstO [valAt i1 t1, valAt i2 t2] n)] (fun v nw => (∃ t, v = valAt (pick (1) c i1 [i2]) t) ∧ ∀ q ∈ [(l, lstO [valAt i1 t1, valAt i2 t2] n)], q ∈ nw) := by
  unfold CallTo; k_fill
  intro dp un gd cn cs a ccd cl outer A₀ base h₀ L m s Q E B F X N T hk hd hu hret
  walk_at "mine go"
  all_goals (walk_at "mine end"; intro hG hK; refine hret _ _ _ _ ?_ (by k_asm) (by k_asm) hK (fresh_of hG (by k_asm)); refine ⟨⟨_, val_eq ?_⟩, by lcg_sub⟩)
  all_goals walk_at "mine pick"

theorem chosen2n (c i1 i2 : Nat) (hc : c < 4) (h1 : i1 < 13) (h2 : i2 < 13) (l : Addr) (n : Nat) (t1 t2 ts tc : Tok) :
    CallTo w p loose mean mg mb 313 [.ref l, .int (-1) ts, .str (colAt c) tc] 4 [(l, lstO [valAt i1 t1, valAt i2 t2] n)] (fun v nw => (∃ t, v = valAt (pick (-1) c i1 [i2]) t) ∧ ∀ q ∈ [(l, lstO [valAt i1 t1, valAt i2 t2] n)], q ∈ nw) := by
  unfold CallTo; k_fill
  intro dp un gd cn cs a ccd cl outer A₀ base h₀ L m s Q E B F X N T hk hd hu hret
  walk_at "mine go"
  all_goals (walk_at "mine end"; intro hG hK; refine hret _ _ _ _ ?_ (by k_asm) (by k_asm) hK (fresh_of hG (by k_asm)); refine ⟨⟨_, val_eq ?_⟩, by lcg_sub⟩)
  all_goals walk_at "mine pick"

theorem chosen3x (c i1 i2 i3 : Nat) (hc : c < 4) (h1 : i1 < 13) (h2 : i2 < 13) (h3 : i3 < 13) (l : Addr) (n : Nat) (t1 t2 t3 ts tc : Tok) :
    CallTo w p loose mean mg mb 313 [.ref l, .int (1) ts, .str (colAt c) tc] 4 [(l, lstO [valAt i1 t1, valAt i2 t2, valAt i3 t3] n)] (fun v nw => (∃ t, v = valAt (pick (1) c i1 [i2, i3]) t) ∧ ∀ q ∈ [(l, lstO [valAt i1 t1, valAt i2 t2, valAt i3 t3] n)], q ∈ nw) := by
  unfold CallTo; k_fill
  intro dp un gd cn cs a ccd cl outer A₀ base h₀ L m s Q E B F X N T hk hd hu hret
  walk_at "mine go"
  all_goals (walk_at "mine end"; intro hG hK; refine hret _ _ _ _ ?_ (by k_asm) (by k_asm) hK (fresh_of hG (by k_asm)); refine ⟨⟨_, val_eq ?_⟩, by lcg_sub⟩)
  all_goals walk_at "mine pick"

theorem chosen3n (c i1 i2 i3 : Nat) (hc : c < 4) (h1 : i1 < 13) (h2 : i2 < 13) (h3 : i3 < 13) (l : Addr) (n : Nat) (t1 t2 t3 ts tc : Tok) :
    CallTo w p loose mean mg mb 313 [.ref l, .int (-1) ts, .str (colAt c) tc] 4 [(l, lstO [valAt i1 t1, valAt i2 t2, valAt i3 t3] n)] (fun v nw => (∃ t, v = valAt (pick (-1) c i1 [i2, i3]) t) ∧ ∀ q ∈ [(l, lstO [valAt i1 t1, valAt i2 t2, valAt i3 t3] n)], q ∈ nw) := by
  unfold CallTo; k_fill
  intro dp un gd cn cs a ccd cl outer A₀ base h₀ L m s Q E B F X N T hk hd hu hret
  walk_at "mine go"
  all_goals (walk_at "mine end"; intro hG hK; refine hret _ _ _ _ ?_ (by k_asm) (by k_asm) hK (fresh_of hG (by k_asm)); refine ⟨⟨_, val_eq ?_⟩, by lcg_sub⟩)
  all_goals walk_at "mine pick"

end
end Mine
open PySem PySem.W PySem.Calls PyProof.Rows
set_option maxRecDepth 100000
set_option maxHeartbeats 0
namespace Mine
section
variable {w : World} {p : Program} {loose : List Str} {mean : ExcName → Option Value} {mg mb : Str → Option Value}
theorem chosen2xA (c : Nat) (i1 : Nat) (i2 : Nat) (l : Addr) (n : Nat) (t1 : Tok) (t2 : Tok) (ts : Tok) (tc : Tok) (H : (c < 4) ∧ (i1 < 13) ∧ (i2 < 13)) :
    CallTo w p loose mean mg mb 313 [.ref l, .int (1) ts, .str (colAt c) tc] 4 [(l, lstO [valAt i1 t1, valAt i2 t2] n)] (fun v nw => (∃ t, v = valAt (pick (1) c i1 [i2]) t) ∧ ∀ q ∈ [(l, lstO [valAt i1 t1, valAt i2 t2] n)], q ∈ nw) := chosen2x c i1 i2 H.1 H.2.1 H.2.2 l n t1 t2 ts tc
theorem chosen2nA (c : Nat) (i1 : Nat) (i2 : Nat) (l : Addr) (n : Nat) (t1 : Tok) (t2 : Tok) (ts : Tok) (tc : Tok) (H : (c < 4) ∧ (i1 < 13) ∧ (i2 < 13)) :
    CallTo w p loose mean mg mb 313 [.ref l, .int (-1) ts, .str (colAt c) tc] 4 [(l, lstO [valAt i1 t1, valAt i2 t2] n)] (fun v nw => (∃ t, v = valAt (pick (-1) c i1 [i2]) t) ∧ ∀ q ∈ [(l, lstO [valAt i1 t1, valAt i2 t2] n)], q ∈ nw) := chosen2n c i1 i2 H.1 H.2.1 H.2.2 l n t1 t2 ts tc
theorem chosen3xA (c : Nat) (i1 : Nat) (i2 : Nat) (i3 : Nat) (l : Addr) (n : Nat) (t1 : Tok) (t2 : Tok) (t3 : Tok) (ts : Tok) (tc : Tok) (H : (c < 4) ∧ (i1 < 13) ∧ (i2 < 13) ∧ (i3 < 13)) :
    CallTo w p loose mean mg mb 313 [.ref l, .int (1) ts, .str (colAt c) tc] 4 [(l, lstO [valAt i1 t1, valAt i2 t2, valAt i3 t3] n)] (fun v nw => (∃ t, v = valAt (pick (1) c i1 [i2, i3]) t) ∧ ∀ q ∈ [(l, lstO [valAt i1 t1, valAt i2 t2, valAt i3 t3] n)], q ∈ nw) := chosen3x c i1 i2 i3 H.1 H.2.1 H.2.2.1 H.2.2.2 l n t1 t2 t3 ts tc
theorem chosen3nA (c : Nat) (i1 : Nat) (i2 : Nat) (i3 : Nat) (l : Addr) (n : Nat) (t1 : Tok) (t2 : Tok) (t3 : Tok) (ts : Tok) (tc : Tok) (H : (c < 4) ∧ (i1 < 13) ∧ (i2 < 13) ∧ (i3 < 13)) :
    CallTo w p loose mean mg mb 313 [.ref l, .int (-1) ts, .str (colAt c) tc] 4 [(l, lstO [valAt i1 t1, valAt i2 t2, valAt i3 t3] n)] (fun v nw => (∃ t, v = valAt (pick (-1) c i1 [i2, i3]) t) ∧ ∀ q ∈ [(l, lstO [valAt i1 t1, valAt i2 t2, valAt i3 t3] n)], q ∈ nw) := chosen3n c i1 i2 i3 H.1 H.2.1 H.2.2.1 H.2.2.2 l n t1 t2 t3 ts tc
end
theorem words_W8 : True := by
  k_with_none
  (k_with "mine enter" => (refine' code_kept (by k_asm) (by k_asm) (by k_asm) (by k_asm) (by k_asm) rfl rfl (by assumption) (by k_is) (by k_is) (by ktr_room) (by first | exact BindsTo.of_eq rfl | exact binds_K (by k_in) rfl (by k_is) rfl rfl rfl) (by exact locs rfl) ?_ (by exact rfl) (by exact rfl) (by exact rfl) (by decide); k_whole; intro g' L' h' FG' F' N' B' X' T'; (try dsimp only); (try k_lift B'); (try k_fold)))
  (k_with "mine go" => (refine wpAny_call ?_; k_dflt (walk_at "mine enter"); k_steps))
  (k_with "mine end" => (unfold KeptR; dsimp only))
  (k_with "my exec For Name Name cons nil" => (k_here; (with_reducible show wpAny _ _ (exec (Stmt.For _ _ _ [] _) _) _ _ _); k_strName; (rename Fr _ _ _ _ => lF'); (with_unfolding_all refine' For_invVF lF' (by exact rfl) (by exact rfl) ?_; k_whole)))
  (k_with "my pyIter str" => ((with_reducible show wpAny _ _ (pyIter (Value.str _ _)) (fun it s₂ => LoopAtV _ _ _ _ _ _ _ _ _ it s₂) _ _); k_here; k_strUnr))
  (k_with "my call ref" => (plain_pass; (fail_if_success (with_reducible show wpAny _ _ (call (Value.ref 106) _) _ _ _)); (fail_if_success (with_reducible show wpAny _ _ (call (Value.ref 127) _) _ _ _)); (fail_if_success (with_reducible show wpAny _ _ (call (Value.ref 134) _) _ _ _)); (fail_if_success (with_reducible show wpAny _ _ (call (Value.ref 142) _) _ _ _)); (fail_if_success (with_reducible show wpAny _ _ (call (Value.ref 313) _) _ _ _)); (fail_if_success (with_reducible show wpAny _ _ (call (Value.ref 346) _) _ _ _)); (fail_if_success (with_reducible show wpAny _ _ (call (Value.ref 428) _) _ _ _)); (fail_if_success (with_reducible show wpAny _ _ (call (Value.ref 435) _) _ _ _)); (fail_if_success (with_reducible show wpAny _ _ (call (Value.ref 409) _) _ _ _)); (fail_if_success (with_reducible show wpAny _ _ (call (Value.ref 423) _) _ _ _)); k_here; (with_reducible show wpAny _ _ (call (Value.ref _) _) _ _ _); refine wpAny_call ?_; k_dflt (refine' code_def (by k_asm) (by k_asm) (by k_asm) (by k_asm) (by k_asm) rfl rfl (by first | exact rfl | assumption) (by k_is) (by k_is) (by ktr_room) (by first | exact BindsTo.of_eq rfl | exact binds_K (by k_in) rfl (by k_is) rfl rfl rfl) (by exact locs rfl) ?_ (by exact rfl) (by exact rfl) (by exact rfl) (by decide); k_whole; intro g' L' h' FG' F' N' B' X' T'; (try dsimp only); (try k_lift B'); (try k_fold))))
  (k_with "my call ref" => (k_here; (with_reducible show wpAny _ _ (call (Value.ref 142) _) _ _ _); k_dflt (refine' useA0 (fun (H : _ ∧ _ ∧ _) => cmp_all _ _ _ H.1 H.2.1 H.2.2 _ _ _) ?_); (intro v' h' tk' hv' F' N'; obtain ⟨t', hv'⟩ := hv'; subst hv'; (try k_sweep); (try dsimp only))))
  (k_with "my call ref" => (k_here; (with_reducible show wpAny _ _ (call (Value.ref 313) _) _ _ _); k_dflt (refine' useSA (chosen2xA _ _ _ _ _ _ _ _ _) ?_); (intro v' h' tk' hv' F' N'; obtain ⟨t', hv'⟩ := hv'; subst hv'; (try k_sweep); (try dsimp only))))
  (k_with "my call ref" => (k_here; (with_reducible show wpAny _ _ (call (Value.ref 313) _) _ _ _); k_dflt (refine' useSA (chosen2nA _ _ _ _ _ _ _ _ _) ?_); (intro v' h' tk' hv' F' N'; obtain ⟨t', hv'⟩ := hv'; subst hv'; (try k_sweep); (try dsimp only))))
  (k_with "my call ref" => (k_here; (with_reducible show wpAny _ _ (call (Value.ref 313) _) _ _ _); k_dflt (refine' useSA (chosen3xA _ _ _ _ _ _ _ _ _ _ _) ?_); (intro v' h' tk' hv' F' N'; obtain ⟨t', hv'⟩ := hv'; subst hv'; (try k_sweep); (try dsimp only))))
  (k_with "my call ref" => (k_here; (with_reducible show wpAny _ _ (call (Value.ref 313) _) _ _ _); k_dflt (refine' useSA (chosen3nA _ _ _ _ _ _ _ _ _ _ _) ?_); (intro v' h' tk' hv' F' N'; obtain ⟨t', hv'⟩ := hv'; subst hv'; (try k_sweep); (try dsimp only))))
  (k_with "my exec For Name Subscript cons nil" => (k_here; (rename Fr _ _ _ _ => lF'); (with_unfolding_all refine' For_turns lF' ?_; k_whole)))
  (k_with "my exec For Name Name cons nil" => (k_here; (rename Fr _ _ _ _ => lF'); (with_unfolding_all refine' For_turns lF' ?_; k_whole)))
  (k_with "my compareOp Is none" => refine is_none_ne val_none ?_)
  trivial
local macro_rules | `(tactic| walk_at "exec For Name Name cons nil") => `(tactic| k_extra "my exec For Name Name cons nil")
local macro_rules | `(tactic| walk_at "pyIter str") => `(tactic| k_extra "my pyIter str")
local macro_rules | `(tactic| walk_at "call ref") => `(tactic| k_extra "my call ref")
local macro_rules | `(tactic| walk_at "exec For Name Subscript cons nil") => `(tactic| k_extra "my exec For Name Subscript cons nil")
local macro_rules | `(tactic| walk_at "compareOp Is none") => `(tactic| k_extra "my compareOp Is none")

theorem sg_zero {a b : Nat} : sg a b = 0 ↔ a = b := by
  unfold sg
  by_cases h : a < b
  · rw [if_pos h]; constructor <;> intro e <;> omega
  · by_cases h2 : b < a
    · rw [if_neg h, if_pos h2]; constructor <;> intro e <;> omega
    · rw [if_neg h, if_neg h2]; constructor <;> intro e <;> omega
section
variable {w : World} {p : Program} {loose : List Str} {mean : ExcName → Option Value} {mg mb : Str → Option Value}

theorem nullif2 (c i1 i2 : Nat) (hc : c < 4) (h1 : i1 < 13) (h2 : i2 < 13) (l : Addr) (n : Nat) (t1 t2 ts tc : Tok) :
    CallTo w p loose mean mg mb 346 [.str "nullif" ts, .ref l, .str (colAt c) tc, .none] 5 [(l, lstO [valAt i1 t1, valAt i2 t2] n)] (fun v nw => (∃ t, v = if rk c i1 = rk c i2 then .none else valAt i1 t) ∧ ∀ q ∈ [(l, lstO [valAt i1 t1, valAt i2 t2] n)], q ∈ nw) := by
  unfold CallTo; k_fill
  intro dp un gd cn cs a ccd cl outer A₀ base h₀ L m s Q E B F X N T hk hd hu hret
  walk_at "mine go"
  all_goals (walk_at "mine end"; intro hG hK; refine hret _ _ _ _ ?_ (by k_asm) (by k_asm) hK (fresh_of hG (by k_asm)); refine ⟨⟨t1, ?_⟩, by lcg_sub⟩)
  · rw [if_pos (sg_zero.mp (by assumption))]
  · rw [if_neg (fun e => absurd (sg_zero.mpr e) (by assumption))]

theorem cf2x (c i1 i2 : Nat) (hc : c < 4) (h1 : i1 < 13) (h2 : i2 < 13) (l : Addr) (n : Nat) (t1 t2 ts tc : Tok) :
    CallTo w p loose mean mg mb 346 [.str "max" ts, .ref l, .str (colAt c) tc, .none] 5 [(l, lstO [valAt i1 t1, valAt i2 t2] n)] (fun v nw => (∃ t, v = valAt (pick (1) c i1 [i2]) t) ∧ ∀ q ∈ [(l, lstO [valAt i1 t1, valAt i2 t2] n)], q ∈ nw) := by
  unfold CallTo; k_fill
  intro dp un gd cn cs a ccd cl outer A₀ base h₀ L m s Q E B F X N T hk hd hu hret
  walk_at "mine go"
  all_goals (walk_at "mine end"; intro hG hK; refine hret _ _ _ _ ?_ (by k_asm) (by k_asm) hK (fresh_of hG (by k_asm)); refine ⟨⟨_, rfl⟩, by lcg_sub⟩)

theorem cf2n (c i1 i2 : Nat) (hc : c < 4) (h1 : i1 < 13) (h2 : i2 < 13) (l : Addr) (n : Nat) (t1 t2 ts tc : Tok) :
    CallTo w p loose mean mg mb 346 [.str "Min" ts, .ref l, .str (colAt c) tc, .none] 5 [(l, lstO [valAt i1 t1, valAt i2 t2] n)] (fun v nw => (∃ t, v = valAt (pick (-1) c i1 [i2]) t) ∧ ∀ q ∈ [(l, lstO [valAt i1 t1, valAt i2 t2] n)], q ∈ nw) := by
  unfold CallTo; k_fill
  intro dp un gd cn cs a ccd cl outer A₀ base h₀ L m s Q E B F X N T hk hd hu hret
  walk_at "mine go"
  all_goals (walk_at "mine end"; intro hG hK; refine hret _ _ _ _ ?_ (by k_asm) (by k_asm) hK (fresh_of hG (by k_asm)); refine ⟨⟨_, rfl⟩, by lcg_sub⟩)

theorem cf3x (c i1 i2 i3 : Nat) (hc : c < 4) (h1 : i1 < 13) (h2 : i2 < 13) (h3 : i3 < 13) (l : Addr) (n : Nat) (t1 t2 t3 ts tc : Tok) :
    CallTo w p loose mean mg mb 346 [.str "max" ts, .ref l, .str (colAt c) tc, .none] 5 [(l, lstO [valAt i1 t1, valAt i2 t2, valAt i3 t3] n)] (fun v nw => (∃ t, v = valAt (pick (1) c i1 [i2, i3]) t) ∧ ∀ q ∈ [(l, lstO [valAt i1 t1, valAt i2 t2, valAt i3 t3] n)], q ∈ nw) := by
  unfold CallTo; k_fill
  intro dp un gd cn cs a ccd cl outer A₀ base h₀ L m s Q E B F X N T hk hd hu hret
  walk_at "mine go"
  all_goals (walk_at "mine end"; intro hG hK; refine hret _ _ _ _ ?_ (by k_asm) (by k_asm) hK (fresh_of hG (by k_asm)); refine ⟨⟨_, rfl⟩, by lcg_sub⟩)

theorem cf3n (c i1 i2 i3 : Nat) (hc : c < 4) (h1 : i1 < 13) (h2 : i2 < 13) (h3 : i3 < 13) (l : Addr) (n : Nat) (t1 t2 t3 ts tc : Tok) :
    CallTo w p loose mean mg mb 346 [.str "Min" ts, .ref l, .str (colAt c) tc, .none] 5 [(l, lstO [valAt i1 t1, valAt i2 t2, valAt i3 t3] n)] (fun v nw => (∃ t, v = valAt (pick (-1) c i1 [i2, i3]) t) ∧ ∀ q ∈ [(l, lstO [valAt i1 t1, valAt i2 t2, valAt i3 t3] n)], q ∈ nw) := by
  unfold CallTo; k_fill
  intro dp un gd cn cs a ccd cl outer A₀ base h₀ L m s Q E B F X N T hk hd hu hret
  walk_at "mine go"
  all_goals (walk_at "mine end"; intro hG hK; refine hret _ _ _ _ ?_ (by k_asm) (by k_asm) hK (fresh_of hG (by k_asm)); refine ⟨⟨_, rfl⟩, by lcg_sub⟩)

end
end Mine
open PySem PySem.W PySem.Calls PyProof.Rows
set_option maxRecDepth 100000
set_option maxHeartbeats 0
namespace Mine
theorem words_W9 : True := by
  k_with_none
  (k_with "mine enter" => (refine' code_kept (by k_asm) (by k_asm) (by k_asm) (by k_asm) (by k_asm) rfl rfl (by assumption) (by k_is) (by k_is) (by ktr_room) (by first | exact BindsTo.of_eq rfl | exact binds_K (by k_in) rfl (by k_is) rfl rfl rfl) (by exact locs rfl) ?_ (by exact rfl) (by exact rfl) (by exact rfl) (by decide); k_whole; intro g' L' h' FG' F' N' B' X' T'; (try dsimp only); (try k_lift B'); (try k_fold)))
  (k_with "mine go" => (refine wpAny_call ?_; k_dflt (walk_at "mine enter"); k_steps))
  (k_with "mine end" => (unfold KeptR; dsimp only))
  (k_with "my call ref" => (k_here; (with_reducible show wpAny _ _ (call (Value.ref 142) _) _ _ _); k_dflt ((refine' useA0 (fun (H : _ ∧ _ ∧ _) => cmp_all _ _ _ H.1 H.2.1 H.2.2 _ _ _) ?_); (intro v' h' tk' hv' F' N'; obtain ⟨t', hv'⟩ := hv'; subst hv'; (try k_sweep); (try dsimp only)))))
  (k_with "my exec For Name Subscript cons nil" => (k_here; (rename Fr _ _ _ _ => lF'); (with_unfolding_all refine' For_turns lF' ?_; k_whole)))
  (k_with "my exec For Name Name cons nil" => (k_here; (rename Fr _ _ _ _ => lF'); (with_unfolding_all refine' For_turns lF' ?_; k_whole)))
  (k_with "my compareOp Is none" => refine is_none_ne val_none ?_)
  (k_with "mine but" => exact List.forall_mem_cons.mpr ⟨fun _ => by k_mem, List.forall_mem_cons.mpr ⟨fun h => absurd rfl h, List.forall_mem_cons.mpr ⟨fun _ => by k_mem, List.forall_mem_nil _⟩⟩⟩)
  trivial
local macro_rules | `(tactic| walk_at "call ref") => `(tactic| k_extra "my call ref")
local macro_rules | `(tactic| walk_at "exec For Name Subscript cons nil") => `(tactic| k_extra "my exec For Name Subscript cons nil")
local macro_rules | `(tactic| walk_at "exec For Name Name cons nil") => `(tactic| k_extra "my exec For Name Name cons nil")
local macro_rules | `(tactic| walk_at "compareOp Is none") => `(tactic| k_extra "my compareOp Is none")
local macro_rules | `(tactic| k_enter) => `(tactic| (refine' code_def ?k1 ?k2 ?k3 ?k4 ?k5 ?kA ?kF ?kK ?k6 ?k7 ?k8 ?k9 ?kB ?_ ?c2 ?c3 ?c4 ?c5; (case kA => exact rfl); (case kF => exact rfl); (case kK => first | exact rfl | assumption); (case k1 => k_asm); (case k2 => k_asm); (case k3 => k_asm); (case k4 => k_asm); (case k5 => k_asm); (case k6 => k_is); (case k7 => k_is); (case k8 => ktr_room); (case k9 => first | exact BindsTo.of_eq rfl | exact binds_K (by k_in) rfl (by k_is) rfl rfl rfl); (case c5 => decide); (case kB => exact locs rfl); (case c2 => exact rfl); (case c3 => exact rfl); (case c4 => exact rfl); k_whole; intro g' L' h' FG' F' N' B' X' T'; (try dsimp only); (try k_lift B'); (try k_fold)))

/-- the call asks for some objects of the ledger, of which it turns one -/
theorem CallTo.useU {w : World} {p : Program} {loose : List Str} {mean : ExcName → Option Value} {mg mb : Str → Option Value} {f : Addr} {vs : List Value} {d : Nat} {sub news : List (Addr × Obj)} {x : Addr} {o : Obj} {g : Obj → List (Addr × Obj)} {P : Value → Obj → Prop}
    {dp un : Nat} {gd : Option (List Code)} {cn : Str} {cs : Scope} {a : Addr} {ccd : Value} {cl : List (Str × Addr)} {outer : List Env} {A₀ : Around} {base h₀ : Heap} {L : Addr} {m : Str → Option Value} {s : Shared} {Q E : Value → Shared → Prop}
    (C : CallTo w p loose mean mg mb f vs d sub (fun v nw => ∃ o', P v o' ∧ (x, o') ∈ nw ∧ ∀ q ∈ sub, q.1 ≠ x → q ∈ nw)) (hs : ∀ q ∈ sub, q ∈ news) (U : UpdF x o news g) (B : Below A₀ base outer h₀) (F : Fr h₀ L s.heap m) (X : (Mine.K w.params).In h₀) (N : News h₀ L s.heap news) (T : Top p loose mean mg mb h₀) (hk : cs.kind = .function)
    (hd : dp + d < recursionLimit) (hu : un + 8 * d < cLine)
    (ret : ∀ v o' h' tk', P v o' → Fr h₀ L h' m → News h₀ L h' (g o') → Q v { s with heap := h', toks := tk' }) :
    wpAny (model PySem.Challenge.rw_nt0118_01.row.prog w) (ktrTop dp un gd cn cs L a ccd cl outer) (call (.ref f) vs) Q E s :=
  C _ _ _ _ _ _ _ _ _ _ _ _ _ _ _ _ _ B F X (fun q hq => N q (hs q hq)) T hk hd hu fun v nw h' tk' hP F' N' k _ => by
    obtain ⟨o', hP, hm, hq⟩ := hP
    obtain ⟨pre, post, e0, hg, x1, x2⟩ := U.split
    refine ret v o' h' tk' hP F' ?_
    rw [hg]
    have old : ∀ q ∈ news, q.1 ≠ x → (h'.get? q.1 = some q.2 ∧ q.1 ≠ L ∧ h₀.get? q.1 = none) := fun q hn hx => by
      by_cases hmem : q.1 ∈ sub.map (·.1)
      · obtain ⟨q', hq', e⟩ := List.mem_map.mp hmem
        have e1 := (N q' (hs q' hq')).1
        rw [e, (N q hn).1] at e1
        have e2 : q' = q := Prod.ext e (Option.some.inj e1).symm
        exact N' q (hq q (e2 ▸ hq') hx)
      · exact ⟨k _ _ (N q hn).1 hmem, (N q hn).2⟩
    intro q hn
    rcases List.mem_append.mp hn with hn | hn
    · exact old q (e0 ▸ List.mem_append_left _ hn) (x1 q hn)
    · rcases List.mem_cons.mp hn with rfl | hn
      · exact N' _ hm
      · exact old q (e0 ▸ List.mem_append_right _ (.tail _ hn)) (x2 q hn)
theorem useUA {w : World} {p : Program} {loose : List Str} {mean : ExcName → Option Value} {mg mb : Str → Option Value} {f : Addr} {vs : List Value} {d : Nat} {sub news : List (Addr × Obj)} {x : Addr} {o : Obj} {g : Obj → List (Addr × Obj)} {P : Value → Obj → Prop} {dp un : Nat} {gd : Option (List Code)} {cn : Str} {cs : Scope} {a : Addr} {ccd : Value} {cl : List (Str × Addr)} {outer : List Env} {A₀ : Around} {base h₀ : Heap} {L : Addr} {m : Str → Option Value} {s : Shared} {Q E : Value → Shared → Prop} {S : Prop}
    (C : S → CallTo w p loose mean mg mb f vs d sub (fun v nw => ∃ o', P v o' ∧ (x, o') ∈ nw ∧ ∀ q ∈ sub, q.1 ≠ x → q ∈ nw)) (ret : ∀ v o' h' tk', P v o' → Fr h₀ L h' m → News h₀ L h' (g o') → Q v { s with heap := h', toks := tk' })
    (B : Below A₀ base outer h₀ := by k_asm) (F : Fr h₀ L s.heap m := by k_asm) (X : (Mine.K w.params).In h₀ := by k_asm) (N : News h₀ L s.heap news := by k_asm) (T : Top p loose mean mg mb h₀ := by k_asm) (hk : cs.kind = .function := by first | exact rfl | assumption) (hs : ∀ q ∈ sub, q ∈ news := by lcg_sub) (U : UpdF x o news g := by k_updF) (hd : dp + d < recursionLimit := by ktr_room) (hu : un + 8 * d < cLine := by ktr_units) (c : S := by (repeat' apply And.intro) <;> first | assumption | (split <;> assumption) | omega | decide) :
    wpAny (model PySem.Challenge.rw_nt0118_01.row.prog w) (ktrTop dp un gd cn cs L a ccd cl outer) (call (.ref f) vs) Q E s := CallTo.useU (C c) hs U B F X N T hk hd hu ret

/-- the best of some, as the aggregate keeps it -/
def bet (s : Int) (c : Nat) : Nat → List Nat → Nat
  | b, [] => b
  | b, v :: r => bet s c (if sg (rk c v) (rk c b) = s then v else b) r
theorem val_handed {i : Nat} {t : Tok} : handedIn (valAt i t) = true := by unfold valAt; split <;> rfl
local macro_rules | `(tactic| k_handed) => `(tactic| exact val_handed)
/-- the dict of an aggregate -/
abbrev agD (h1 h2 h3 h4 h5 h6 : Int) (k1 k2 k3 k4 k5 k6 : Tok) (wd : Str) (tw : Tok) (col : Str) (tc : Tok) (many : Int) (tm : Tok) (best : Value) (su : Value) (pc : Addr) (n : Nat) : Obj :=
  dictOf [⟨h1, .str "word" k1, .str wd tw⟩, ⟨h2, .str "collation" k2, .str col tc⟩, ⟨h3, .str "many" k3, .int many tm⟩, ⟨h4, .str "best" k4, best⟩, ⟨h5, .str "summed" k5, su⟩, ⟨h6, .str "pieces" k6, .ref pc⟩] n
theorem bet_yes {s : Int} {c b v : Nat} {r : List Nat} (h : sg (rk c v) (rk c b) = s) : bet s c b (v :: r) = bet s c v r := by
  show bet s c (if _ then v else b) r = _
  rw [if_pos h]
theorem bet_no {s : Int} {c b v : Nat} {r : List Nat} (h : ¬ sg (rk c v) (rk c b) = s) : bet s c b (v :: r) = bet s c b r := by
  show bet s c (if _ then v else b) r = _
  rw [if_neg h]
section
variable {w : World} {p : Program} {loose : List Str} {mean : ExcName → Option Value} {mg mb : Str → Option Value}

theorem stepFx (c i : Nat) (h1 h2 h3 h4 h5 h6 : Int) (k1 k2 k3 k4 k5 k6 tw tc tm : Tok) (su : Value) (pc : Addr) (nl : Nat) (x dx l : Addr) (e1 : @Ne Nat x dx) (e2 : @Ne Nat x l) (e3 : @Ne Nat dx l) (t : Tok) :
    CallTo w p loose mean mg mb 381 [.ref x, .ref l] 3 [(x, instObj 391 dx), (dx, agD h1 h2 h3 h4 h5 h6 k1 k2 k3 k4 k5 k6 "max" tw (colAt c) tc 0 tm .none su pc 6), (l, lstO [valAt i t] nl)]
      (fun v nw => ∃ o', (v = .none ∧ ∃ tm', o' = agD h1 h2 h3 h4 h5 h6 k1 k2 k3 k4 k5 k6 "max" tw (colAt c) tc 1 tm' (valAt i t) su pc 6) ∧ (dx, o') ∈ nw ∧ ∀ q ∈ [(x, instObj 391 dx), (dx, agD h1 h2 h3 h4 h5 h6 k1 k2 k3 k4 k5 k6 "max" tw (colAt c) tc 0 tm .none su pc 6), (l, lstO [valAt i t] nl)], q.1 ≠ dx → q ∈ nw) := by
  unfold CallTo; k_fill
  intro dp un gd cn cs a ccd cl outer A₀ base h₀ L m s Q E B F X N T hk hd hu hret
  walk_at "mine go"
  all_goals (walk_at "mine end"; intro hG hK; refine hret _ _ _ _ ?_ (by k_asm) (by k_asm) hK (fresh_of hG (by k_asm)); refine ⟨_, ⟨rfl, ?_⟩, by k_mem, ?_⟩)
  · exact ⟨_, rfl⟩
  · walk_at "mine but"

theorem stepFn (c i : Nat) (h1 h2 h3 h4 h5 h6 : Int) (k1 k2 k3 k4 k5 k6 tw tc tm : Tok) (su : Value) (pc : Addr) (nl : Nat) (x dx l : Addr) (e1 : @Ne Nat x dx) (e2 : @Ne Nat x l) (e3 : @Ne Nat dx l) (t : Tok) :
    CallTo w p loose mean mg mb 381 [.ref x, .ref l] 3 [(x, instObj 391 dx), (dx, agD h1 h2 h3 h4 h5 h6 k1 k2 k3 k4 k5 k6 "min" tw (colAt c) tc 0 tm .none su pc 6), (l, lstO [valAt i t] nl)]
      (fun v nw => ∃ o', (v = .none ∧ ∃ tm', o' = agD h1 h2 h3 h4 h5 h6 k1 k2 k3 k4 k5 k6 "min" tw (colAt c) tc 1 tm' (valAt i t) su pc 6) ∧ (dx, o') ∈ nw ∧ ∀ q ∈ [(x, instObj 391 dx), (dx, agD h1 h2 h3 h4 h5 h6 k1 k2 k3 k4 k5 k6 "min" tw (colAt c) tc 0 tm .none su pc 6), (l, lstO [valAt i t] nl)], q.1 ≠ dx → q ∈ nw) := by
  unfold CallTo; k_fill
  intro dp un gd cn cs a ccd cl outer A₀ base h₀ L m s Q E B F X N T hk hd hu hret
  walk_at "mine go"
  all_goals (walk_at "mine end"; intro hG hK; refine hret _ _ _ _ ?_ (by k_asm) (by k_asm) hK (fresh_of hG (by k_asm)); refine ⟨_, ⟨rfl, ?_⟩, by k_mem, ?_⟩)
  · exact ⟨_, rfl⟩
  · walk_at "mine but"

theorem stepNx (c i j : Nat) (hc : c < 4) (hi : i < 13) (hj : j < 13) (many : Int) (hm : 1 ≤ many) (hm2 : many ≤ 100) (h1 h2 h3 h4 h5 h6 : Int) (k1 k2 k3 k4 k5 k6 tw tc tm : Tok) (su : Value) (pc : Addr) (nl : Nat) (x dx l : Addr) (e1 : @Ne Nat x dx) (e2 : @Ne Nat x l) (e3 : @Ne Nat dx l) (t u : Tok) :
    CallTo w p loose mean mg mb 381 [.ref x, .ref l] 6 [(x, instObj 391 dx), (dx, agD h1 h2 h3 h4 h5 h6 k1 k2 k3 k4 k5 k6 "max" tw (colAt c) tc many tm (valAt j u) su pc 6), (l, lstO [valAt i t] nl)]
      (fun v nw => ∃ o', (v = .none ∧ ∃ tm' u', o' = agD h1 h2 h3 h4 h5 h6 k1 k2 k3 k4 k5 k6 "max" tw (colAt c) tc (many + 1) tm' (valAt (if sg (rk c i) (rk c j) = 1 then i else j) u') su pc 6) ∧ (dx, o') ∈ nw ∧ ∀ q ∈ [(x, instObj 391 dx), (dx, agD h1 h2 h3 h4 h5 h6 k1 k2 k3 k4 k5 k6 "max" tw (colAt c) tc many tm (valAt j u) su pc 6), (l, lstO [valAt i t] nl)], q.1 ≠ dx → q ∈ nw) := by
  unfold CallTo; k_fill
  intro dp un gd cn cs a ccd cl outer A₀ base h₀ L m s Q E B F X N T hk hd hu hret
  walk_at "mine go"
  · exfalso; omega
  all_goals (walk_at "mine end"; intro hG hK; refine hret _ _ _ _ ?_ (by k_asm) (by k_asm) hK (fresh_of hG (by k_asm)); refine ⟨_, ⟨rfl, ?_⟩, by k_mem, ?_⟩)
  · rw [if_pos (by assumption)]; exact ⟨_, _, rfl⟩
  · walk_at "mine but"
  · rw [if_neg (by assumption)]; exact ⟨_, _, rfl⟩
  · walk_at "mine but"

theorem stepNn (c i j : Nat) (hc : c < 4) (hi : i < 13) (hj : j < 13) (many : Int) (hm : 1 ≤ many) (hm2 : many ≤ 100) (h1 h2 h3 h4 h5 h6 : Int) (k1 k2 k3 k4 k5 k6 tw tc tm : Tok) (su : Value) (pc : Addr) (nl : Nat) (x dx l : Addr) (e1 : @Ne Nat x dx) (e2 : @Ne Nat x l) (e3 : @Ne Nat dx l) (t u : Tok) :
    CallTo w p loose mean mg mb 381 [.ref x, .ref l] 6 [(x, instObj 391 dx), (dx, agD h1 h2 h3 h4 h5 h6 k1 k2 k3 k4 k5 k6 "min" tw (colAt c) tc many tm (valAt j u) su pc 6), (l, lstO [valAt i t] nl)]
      (fun v nw => ∃ o', (v = .none ∧ ∃ tm' u', o' = agD h1 h2 h3 h4 h5 h6 k1 k2 k3 k4 k5 k6 "min" tw (colAt c) tc (many + 1) tm' (valAt (if sg (rk c i) (rk c j) = -1 then i else j) u') su pc 6) ∧ (dx, o') ∈ nw ∧ ∀ q ∈ [(x, instObj 391 dx), (dx, agD h1 h2 h3 h4 h5 h6 k1 k2 k3 k4 k5 k6 "min" tw (colAt c) tc many tm (valAt j u) su pc 6), (l, lstO [valAt i t] nl)], q.1 ≠ dx → q ∈ nw) := by
  unfold CallTo; k_fill
  intro dp un gd cn cs a ccd cl outer A₀ base h₀ L m s Q E B F X N T hk hd hu hret
  walk_at "mine go"
  · exfalso; omega
  all_goals (walk_at "mine end"; intro hG hK; refine hret _ _ _ _ ?_ (by k_asm) (by k_asm) hK (fresh_of hG (by k_asm)); refine ⟨_, ⟨rfl, ?_⟩, by k_mem, ?_⟩)
  · rw [if_pos (by assumption)]; exact ⟨_, _, rfl⟩
  · walk_at "mine but"
  · rw [if_neg (by assumption)]; exact ⟨_, _, rfl⟩
  · walk_at "mine but"

end
end Mine
open PySem PySem.W PySem.Calls PyProof.Rows
set_option maxRecDepth 100000
set_option maxHeartbeats 0
namespace Mine
section
variable {w : World} {p : Program} {loose : List Str} {mean : ExcName → Option Value} {mg mb : Str → Option Value}
theorem stepFxA (c : Nat) (i : Nat) (h1 : Int) (h2 : Int) (h3 : Int) (h4 : Int) (h5 : Int) (h6 : Int) (k1 : Tok) (k2 : Tok) (k3 : Tok) (k4 : Tok) (k5 : Tok) (k6 : Tok) (tw : Tok) (tc : Tok) (tm : Tok) (su : Value) (pc : Addr) (nl : Nat) (x : Addr) (dx : Addr) (l : Addr) (t : Tok) (H : (@Ne Nat x dx) ∧ (@Ne Nat x l) ∧ (@Ne Nat dx l)) :
    CallTo w p loose mean mg mb 381 [.ref x, .ref l] 3 [(x, instObj 391 dx), (dx, agD h1 h2 h3 h4 h5 h6 k1 k2 k3 k4 k5 k6 "max" tw (colAt c) tc 0 tm .none su pc 6), (l, lstO [valAt i t] nl)]
      (fun v nw => ∃ o', (v = .none ∧ ∃ tm', o' = agD h1 h2 h3 h4 h5 h6 k1 k2 k3 k4 k5 k6 "max" tw (colAt c) tc 1 tm' (valAt i t) su pc 6) ∧ (dx, o') ∈ nw ∧ ∀ q ∈ [(x, instObj 391 dx), (dx, agD h1 h2 h3 h4 h5 h6 k1 k2 k3 k4 k5 k6 "max" tw (colAt c) tc 0 tm .none su pc 6), (l, lstO [valAt i t] nl)], q.1 ≠ dx → q ∈ nw) := stepFx c i h1 h2 h3 h4 h5 h6 k1 k2 k3 k4 k5 k6 tw tc tm su pc nl x dx l H.1 H.2.1 H.2.2 t
theorem stepFnA (c : Nat) (i : Nat) (h1 : Int) (h2 : Int) (h3 : Int) (h4 : Int) (h5 : Int) (h6 : Int) (k1 : Tok) (k2 : Tok) (k3 : Tok) (k4 : Tok) (k5 : Tok) (k6 : Tok) (tw : Tok) (tc : Tok) (tm : Tok) (su : Value) (pc : Addr) (nl : Nat) (x : Addr) (dx : Addr) (l : Addr) (t : Tok) (H : (@Ne Nat x dx) ∧ (@Ne Nat x l) ∧ (@Ne Nat dx l)) :
    CallTo w p loose mean mg mb 381 [.ref x, .ref l] 3 [(x, instObj 391 dx), (dx, agD h1 h2 h3 h4 h5 h6 k1 k2 k3 k4 k5 k6 "min" tw (colAt c) tc 0 tm .none su pc 6), (l, lstO [valAt i t] nl)]
      (fun v nw => ∃ o', (v = .none ∧ ∃ tm', o' = agD h1 h2 h3 h4 h5 h6 k1 k2 k3 k4 k5 k6 "min" tw (colAt c) tc 1 tm' (valAt i t) su pc 6) ∧ (dx, o') ∈ nw ∧ ∀ q ∈ [(x, instObj 391 dx), (dx, agD h1 h2 h3 h4 h5 h6 k1 k2 k3 k4 k5 k6 "min" tw (colAt c) tc 0 tm .none su pc 6), (l, lstO [valAt i t] nl)], q.1 ≠ dx → q ∈ nw) := stepFn c i h1 h2 h3 h4 h5 h6 k1 k2 k3 k4 k5 k6 tw tc tm su pc nl x dx l H.1 H.2.1 H.2.2 t
theorem stepNxA (c : Nat) (i : Nat) (j : Nat) (many : Int) (h1 : Int) (h2 : Int) (h3 : Int) (h4 : Int) (h5 : Int) (h6 : Int) (k1 : Tok) (k2 : Tok) (k3 : Tok) (k4 : Tok) (k5 : Tok) (k6 : Tok) (tw : Tok) (tc : Tok) (tm : Tok) (su : Value) (pc : Addr) (nl : Nat) (x : Addr) (dx : Addr) (l : Addr) (t : Tok) (u : Tok) (H : (c < 4) ∧ (i < 13) ∧ (j < 13) ∧ (1 ≤ many) ∧ (many ≤ 100) ∧ (@Ne Nat x dx) ∧ (@Ne Nat x l) ∧ (@Ne Nat dx l)) :
    CallTo w p loose mean mg mb 381 [.ref x, .ref l] 6 [(x, instObj 391 dx), (dx, agD h1 h2 h3 h4 h5 h6 k1 k2 k3 k4 k5 k6 "max" tw (colAt c) tc many tm (valAt j u) su pc 6), (l, lstO [valAt i t] nl)]
      (fun v nw => ∃ o', (v = .none ∧ ∃ tm' u', o' = agD h1 h2 h3 h4 h5 h6 k1 k2 k3 k4 k5 k6 "max" tw (colAt c) tc (many + 1) tm' (valAt (if sg (rk c i) (rk c j) = 1 then i else j) u') su pc 6) ∧ (dx, o') ∈ nw ∧ ∀ q ∈ [(x, instObj 391 dx), (dx, agD h1 h2 h3 h4 h5 h6 k1 k2 k3 k4 k5 k6 "max" tw (colAt c) tc many tm (valAt j u) su pc 6), (l, lstO [valAt i t] nl)], q.1 ≠ dx → q ∈ nw) := stepNx c i j H.1 H.2.1 H.2.2.1 many H.2.2.2.1 H.2.2.2.2.1 h1 h2 h3 h4 h5 h6 k1 k2 k3 k4 k5 k6 tw tc tm su pc nl x dx l H.2.2.2.2.2.1 H.2.2.2.2.2.2.1 H.2.2.2.2.2.2.2 t u
theorem stepNnA (c : Nat) (i : Nat) (j : Nat) (many : Int) (h1 : Int) (h2 : Int) (h3 : Int) (h4 : Int) (h5 : Int) (h6 : Int) (k1 : Tok) (k2 : Tok) (k3 : Tok) (k4 : Tok) (k5 : Tok) (k6 : Tok) (tw : Tok) (tc : Tok) (tm : Tok) (su : Value) (pc : Addr) (nl : Nat) (x : Addr) (dx : Addr) (l : Addr) (t : Tok) (u : Tok) (H : (c < 4) ∧ (i < 13) ∧ (j < 13) ∧ (1 ≤ many) ∧ (many ≤ 100) ∧ (@Ne Nat x dx) ∧ (@Ne Nat x l) ∧ (@Ne Nat dx l)) :
    CallTo w p loose mean mg mb 381 [.ref x, .ref l] 6 [(x, instObj 391 dx), (dx, agD h1 h2 h3 h4 h5 h6 k1 k2 k3 k4 k5 k6 "min" tw (colAt c) tc many tm (valAt j u) su pc 6), (l, lstO [valAt i t] nl)]
      (fun v nw => ∃ o', (v = .none ∧ ∃ tm' u', o' = agD h1 h2 h3 h4 h5 h6 k1 k2 k3 k4 k5 k6 "min" tw (colAt c) tc (many + 1) tm' (valAt (if sg (rk c i) (rk c j) = -1 then i else j) u') su pc 6) ∧ (dx, o') ∈ nw ∧ ∀ q ∈ [(x, instObj 391 dx), (dx, agD h1 h2 h3 h4 h5 h6 k1 k2 k3 k4 k5 k6 "min" tw (colAt c) tc many tm (valAt j u) su pc 6), (l, lstO [valAt i t] nl)], q.1 ≠ dx → q ∈ nw) := stepNn c i j H.1 H.2.1 H.2.2.1 many H.2.2.2.1 H.2.2.2.2.1 h1 h2 h3 h4 h5 h6 k1 k2 k3 k4 k5 k6 tw tc tm su pc nl x dx l H.2.2.2.2.2.1 H.2.2.2.2.2.2.1 H.2.2.2.2.2.2.2 t u
end
theorem words_W10 : True := by
  k_with_none
  (k_with "mine enter" => (refine' code_kept (by k_asm) (by k_asm) (by k_asm) (by k_asm) (by k_asm) rfl rfl (by assumption) (by k_is) (by k_is) (by ktr_room) (by first | exact BindsTo.of_eq rfl | exact binds_K (by k_in) rfl (by k_is) rfl rfl rfl) (by exact locs rfl) ?_ (by exact rfl) (by exact rfl) (by exact rfl) (by decide); k_whole; intro g' L' h' FG' F' N' B' X' T'; (try dsimp only); (try k_lift B'); (try k_fold)))
  (k_with "mine go" => (refine wpAny_call ?_; k_dflt (walk_at "mine enter"); k_steps))
  (k_with "mine end" => (unfold KeptR; dsimp only))
  (k_with "my exec For Name Subscript cons nil" => (k_here; (rename Fr _ _ _ _ => lF'); (with_unfolding_all refine' For_turns lF' ?_; k_whole)))
  (k_with "my exec For Name Name cons nil" => (k_here; (rename Fr _ _ _ _ => lF'); (with_unfolding_all refine' For_turns lF' ?_; k_whole)))
  (k_with "my compareOp Is none" => refine is_none_ne val_none ?_)
  (k_with "my call ref" => (k_here; (with_reducible show wpAny _ _ (call (Value.ref 381) _) _ _ _); k_dflt ((refine' useUA (stepFxA _ _ _ _ _ _ _ _ _ _ _ _ _ _ _ _ _ _ _ _ _ _ _ _) ?_); (intro v' o' h' tk' hv' F' N'; obtain ⟨hv', t', ho'⟩ := hv'; subst hv'; subst ho'; (try dsimp only at N'); (try k_sweep); (try dsimp only)))))
  (k_with "my call ref" => (k_here; (with_reducible show wpAny _ _ (call (Value.ref 381) _) _ _ _); k_dflt ((refine' useUA (stepFnA _ _ _ _ _ _ _ _ _ _ _ _ _ _ _ _ _ _ _ _ _ _ _ _) ?_); (intro v' o' h' tk' hv' F' N'; obtain ⟨hv', t', ho'⟩ := hv'; subst hv'; subst ho'; (try dsimp only at N'); (try k_sweep); (try dsimp only)))))
  (k_with "my call ref" => (k_here; (with_reducible show wpAny _ _ (call (Value.ref 381) _) _ _ _); k_dflt ((refine' useUA (stepNxA _ _ _ _ _ _ _ _ _ _ _ _ _ _ _ _ _ _ _ _ _ _ _ _ _ _ _) ?_); (intro v' o' h' tk' hv' F' N'; obtain ⟨hv', t', u', ho'⟩ := hv'; subst hv'; subst ho'; (try dsimp only at N'); (try k_sweep); (try dsimp only)))))
  (k_with "my call ref" => (k_here; (with_reducible show wpAny _ _ (call (Value.ref 381) _) _ _ _); k_dflt ((refine' useUA (stepNnA _ _ _ _ _ _ _ _ _ _ _ _ _ _ _ _ _ _ _ _ _ _ _ _ _ _ _) ?_); (intro v' o' h' tk' hv' F' N'; obtain ⟨hv', t', u', ho'⟩ := hv'; subst hv'; subst ho'; (try dsimp only at N'); (try k_sweep); (try dsimp only)))))
  trivial
local macro_rules | `(tactic| walk_at "exec For Name Subscript cons nil") => `(tactic| k_extra "my exec For Name Subscript cons nil")
local macro_rules | `(tactic| walk_at "exec For Name Name cons nil") => `(tactic| k_extra "my exec For Name Name cons nil")
local macro_rules | `(tactic| walk_at "compareOp Is none") => `(tactic| k_extra "my compareOp Is none")
local macro_rules | `(tactic| walk_at "call ref") => `(tactic| k_extra "my call ref")
local macro_rules | `(tactic| k_enter) => `(tactic| (refine' code_def ?k1 ?k2 ?k3 ?k4 ?k5 ?kA ?kF ?kK ?k6 ?k7 ?k8 ?k9 ?kB ?_ ?c2 ?c3 ?c4 ?c5; (case kA => exact rfl); (case kF => exact rfl); (case kK => first | exact rfl | assumption); (case k1 => k_asm); (case k2 => k_asm); (case k3 => k_asm); (case k4 => k_asm); (case k5 => k_asm); (case k6 => k_is); (case k7 => k_is); (case k8 => ktr_room); (case k9 => first | exact BindsTo.of_eq rfl | exact binds_K (by k_in) rfl (by k_is) rfl rfl rfl); (case c5 => decide); (case kB => exact locs rfl); (case c2 => exact rfl); (case c3 => exact rfl); (case c4 => exact rfl); k_whole; intro g' L' h' FG' F' N' B' X' T'; (try dsimp only); (try k_lift B'); (try k_fold)))
local macro_rules | `(tactic| k_handed) => `(tactic| exact val_handed)
section
variable {w : World} {p : Program} {loose : List Str} {mean : ExcName → Option Value} {mg mb : Str → Option Value}

theorem ga2x (c i1 i2 : Nat) (hc : c < 4) (h1 : i1 < 13) (h2 : i2 < 13) (l : Addr) (n : Nat) (t1 t2 ts tc : Tok) :
    CallTo w p loose mean mg mb 435 [.str "max" ts, .ref l, .str (colAt c) tc] 7 [(l, lstO [valAt i1 t1, valAt i2 t2] n)] (fun v nw => (∃ t, v = valAt (bet (1) c i1 [i2]) t) ∧ ∀ q ∈ [(l, lstO [valAt i1 t1, valAt i2 t2] n)], q ∈ nw) := by
  unfold CallTo; k_fill
  intro dp un gd cn cs a ccd cl outer A₀ base h₀ L m s Q E B F X N T hk hd hu hret
  walk_at "mine go"
  all_goals (walk_at "mine end"; intro hG hK; refine hret _ _ _ _ ?_ (by k_asm) (by k_asm) hK (fresh_of hG (by k_asm)); refine ⟨⟨_, rfl⟩, by lcg_sub⟩)

theorem ga2n (c i1 i2 : Nat) (hc : c < 4) (h1 : i1 < 13) (h2 : i2 < 13) (l : Addr) (n : Nat) (t1 t2 ts tc : Tok) :
    CallTo w p loose mean mg mb 435 [.str "min" ts, .ref l, .str (colAt c) tc] 7 [(l, lstO [valAt i1 t1, valAt i2 t2] n)] (fun v nw => (∃ t, v = valAt (bet (-1) c i1 [i2]) t) ∧ ∀ q ∈ [(l, lstO [valAt i1 t1, valAt i2 t2] n)], q ∈ nw) := by
  unfold CallTo; k_fill
  intro dp un gd cn cs a ccd cl outer A₀ base h₀ L m s Q E B F X N T hk hd hu hret
  walk_at "mine go"
  all_goals (walk_at "mine end"; intro hG hK; refine hret _ _ _ _ ?_ (by k_asm) (by k_asm) hK (fresh_of hG (by k_asm)); refine ⟨⟨_, rfl⟩, by lcg_sub⟩)

theorem ga3x (c i1 i2 i3 : Nat) (hc : c < 4) (h1 : i1 < 13) (h2 : i2 < 13) (h3 : i3 < 13) (l : Addr) (n : Nat) (t1 t2 t3 ts tc : Tok) :
    CallTo w p loose mean mg mb 435 [.str "max" ts, .ref l, .str (colAt c) tc] 7 [(l, lstO [valAt i1 t1, valAt i2 t2, valAt i3 t3] n)] (fun v nw => (∃ t, v = valAt (bet (1) c i1 [i2, i3]) t) ∧ ∀ q ∈ [(l, lstO [valAt i1 t1, valAt i2 t2, valAt i3 t3] n)], q ∈ nw) := by
  unfold CallTo; k_fill
  intro dp un gd cn cs a ccd cl outer A₀ base h₀ L m s Q E B F X N T hk hd hu hret
  walk_at "mine go"
  all_goals (walk_at "mine end"; intro hG hK; refine hret _ _ _ _ ?_ (by k_asm) (by k_asm) hK (fresh_of hG (by k_asm)); refine ⟨⟨_, rfl⟩, by lcg_sub⟩)

theorem ga3n (c i1 i2 i3 : Nat) (hc : c < 4) (h1 : i1 < 13) (h2 : i2 < 13) (h3 : i3 < 13) (l : Addr) (n : Nat) (t1 t2 t3 ts tc : Tok) :
    CallTo w p loose mean mg mb 435 [.str "min" ts, .ref l, .str (colAt c) tc] 7 [(l, lstO [valAt i1 t1, valAt i2 t2, valAt i3 t3] n)] (fun v nw => (∃ t, v = valAt (bet (-1) c i1 [i2, i3]) t) ∧ ∀ q ∈ [(l, lstO [valAt i1 t1, valAt i2 t2, valAt i3 t3] n)], q ∈ nw) := by
  unfold CallTo; k_fill
  intro dp un gd cn cs a ccd cl outer A₀ base h₀ L m s Q E B F X N T hk hd hu hret
  walk_at "mine go"
  all_goals (walk_at "mine end"; intro hG hK; refine hret _ _ _ _ ?_ (by k_asm) (by k_asm) hK (fresh_of hG (by k_asm)); refine ⟨⟨_, rfl⟩, by lcg_sub⟩)

end
end Mine
open PySem PySem.W PySem.Calls PyProof.Rows
set_option maxRecDepth 100000
set_option maxHeartbeats 0
namespace Mine
theorem words_W11 : True := by
  k_with_none
  (k_with "mine enter" => (refine' code_kept (by k_asm) (by k_asm) (by k_asm) (by k_asm) (by k_asm) rfl rfl (by assumption) (by k_is) (by k_is) (by ktr_room) (by first | exact BindsTo.of_eq rfl | exact binds_K (by k_in) rfl (by k_is) rfl rfl rfl) (by exact locs rfl) ?_ (by exact rfl) (by exact rfl) (by exact rfl) (by decide); k_whole; intro g' L' h' FG' F' N' B' X' T'; (try dsimp only); (try k_lift B'); (try k_fold)))
  (k_with "mine go" => (refine wpAny_call ?_; k_dflt (walk_at "mine enter"); k_steps))
  (k_with "mine end" => (unfold KeptR; dsimp only))
  (k_with "my subscriptTail Name Constant ref int" => (k_here; k_dflt ((refine' lst_item (by k_asm) (by k_mem) (by decide) (by decide) (by rfl) ?_); )))
  trivial
local macro_rules | `(tactic| walk_at "subscriptTail Name Constant ref int") => `(tactic| k_extra "my subscriptTail Name Constant ref int")
local macro_rules | `(tactic| k_enter) => `(tactic| (refine' code_def ?k1 ?k2 ?k3 ?k4 ?k5 ?kA ?kF ?kK ?k6 ?k7 ?k8 ?k9 ?kB ?_ ?c2 ?c3 ?c4 ?c5; (case kA => exact rfl); (case kF => exact rfl); (case kK => first | exact rfl | assumption); (case k1 => k_asm); (case k2 => k_asm); (case k3 => k_asm); (case k4 => k_asm); (case k5 => k_asm); (case k6 => k_is); (case k7 => k_is); (case k8 => ktr_room); (case k9 => first | exact BindsTo.of_eq rfl | exact binds_K (by k_in) rfl (by k_is) rfl rfl rfl); (case c5 => decide); (case kB => exact locs rfl); (case c2 => exact rfl); (case c3 => exact rfl); (case c4 => exact rfl); k_whole; intro g' L' h' FG' F' N' B' X' T'; (try dsimp only); (try k_lift B'); (try k_fold)))

theorem lst_item {prog : Program} {w : World} {A : Around} {E : Value → Shared → Prop} {s : Shared} {h₀ : Heap} {L l : Addr} {news : List (Addr × Obj)} {value slice : PySem.Expr} {vs : List Value} {n : Nat} {k : Int} {u : Tok} {v : Value} {Q : Value → Shared → Prop}
    (N : News h₀ L s.heap news) (hm : (l, ({ cls := .type "list", data := .seq vs.toArray n } : Obj)) ∈ news) (h0 : 0 ≤ k) (hhi : k < 2 ^ 63) (hx : vs[k.toNat]? = some v) (h : Q v s)
    (hs : subscripted slice false (.ref l) (.int k u) = operate [.ref l, .int k u] (getItem (.ref l) (.int k u)) := by with_unfolding_all rfl) :
    wpAny (model prog w) A (subscriptTail value slice (.ref l) (.int k u)) Q E s :=
  have hL : s.heap.IsList l vs.toArray := ⟨_, (N _ hm).1, rfl, n, rfl⟩
  tail_any hL.typeIs slot_list_getitem.lookup (wpAny_getItem_list hL h0 hhi (by simpa using hx) h) hs
/-- the drawing source: two ints, nought or more -/
def SrcO (o : Obj) : Prop := ∃ (a b : Int) (ta tb : Tok) (n : Nat), o = { cls := .type "list", data := .seq #[.int a ta, .int b tb] n } ∧ 0 ≤ a ∧ 0 ≤ b ∧ b < 2147483647
section
variable {w : World} {p : Program} {loose : List Str} {mean : ExcName → Option Value} {mg mb : Str → Option Value}


theorem take_any (top a b : Int) (h0 : 0 < top) (h1 : top ≤ 13) (ha : 0 ≤ a) (hb : 0 ≤ b) (hb2 : b < 2147483647) (src : Addr) (n : Nat) (ta tb tt : Tok) :
    CallTo w p loose mean mg mb 409 [.ref src, .int top tt] 1 [(src, { cls := .type "list", data := .seq #[.int a ta, .int b tb] n })]
      (fun v nw => ∃ o', ((∃ d t, v = .int d t ∧ 0 ≤ d ∧ d < top) ∧ SrcO o') ∧ (src, o') ∈ nw ∧ ∀ q ∈ [(src, ({ cls := .type "list", data := .seq #[.int a ta, .int b tb] n } : Obj))], q.1 ≠ src → q ∈ nw) := by
  unfold CallTo; k_fill
  intro dp un gd cn cs a ccd cl outer A₀ base h₀ L m s Q E B F X N T hk hd hu hret
  walk_at "mine go"
  all_goals (walk_at "mine end"; intro hG hK; refine hret _ _ _ _ ?_ (by k_asm) (by k_asm) hK (fresh_of hG (by k_asm)); refine ⟨_, ⟨⟨_, _, rfl, Int.fmod_nonneg_of_pos _ h0, Int.fmod_lt_of_pos _ h0⟩, ?_⟩, by k_mem, ?_⟩)
  · exact ⟨_, _, _, _, _, rfl, Int.fdiv_nonneg ha (Int.le_of_lt h0), hb, hb2⟩
  · exact List.forall_mem_cons.mpr ⟨fun h => absurd rfl h, List.forall_mem_nil _⟩
  · exact ⟨_, _, _, _, _, rfl, ha, Int.fmod_nonneg_of_pos _ (by decide), Int.fmod_lt_of_pos _ (by decide)⟩
  · exact List.forall_mem_cons.mpr ⟨fun h => absurd rfl h, List.forall_mem_nil _⟩
end
end Mine
open PySem PySem.W PySem.Calls PyProof.Rows
set_option maxRecDepth 100000
set_option maxHeartbeats 0
namespace Mine
section
variable {w : World} {p : Program} {loose : List Str} {mean : ExcName → Option Value} {mg mb : Str → Option Value}
theorem take_anyA (top : Int) (a : Int) (b : Int) (src : Addr) (n : Nat) (ta : Tok) (tb : Tok) (tt : Tok) (H : (0 < top) ∧ (top ≤ 13) ∧ (0 ≤ a) ∧ (0 ≤ b) ∧ (b < 2147483647)) :
    CallTo w p loose mean mg mb 409 [.ref src, .int top tt] 1 [(src, { cls := .type "list", data := .seq #[.int a ta, .int b tb] n })]
      (fun v nw => ∃ o', ((∃ d t, v = .int d t ∧ 0 ≤ d ∧ d < top) ∧ SrcO o') ∧ (src, o') ∈ nw ∧ ∀ q ∈ [(src, ({ cls := .type "list", data := .seq #[.int a ta, .int b tb] n } : Obj))], q.1 ≠ src → q ∈ nw) := take_any top a b H.1 H.2.1 H.2.2.1 H.2.2.2.1 H.2.2.2.2 src n ta tb tt
end
theorem words_W12 : True := by
  k_with_none
  (k_with "mine enter" => (refine' code_kept (by k_asm) (by k_asm) (by k_asm) (by k_asm) (by k_asm) rfl rfl (by assumption) (by k_is) (by k_is) (by ktr_room) (by first | exact BindsTo.of_eq rfl | exact binds_K (by k_in) rfl (by k_is) rfl rfl rfl) (by exact locs rfl) ?_ (by exact rfl) (by exact rfl) (by exact rfl) (by decide); k_whole; intro g' L' h' FG' F' N' B' X' T'; (try dsimp only); (try k_lift B'); (try k_fold)))
  (k_with "mine go" => (refine wpAny_call ?_; k_dflt (walk_at "mine enter"); k_steps))
  (k_with "mine end" => (unfold KeptR; dsimp only))
  (k_with "my call ref" => (k_here; (with_reducible show wpAny _ _ (call (Value.ref 409) _) _ _ _); k_dflt ((refine' useUA (take_anyA _ _ _ _ _ _ _ _) ?_); (intro v' o' h' tk' hv' F' N'; obtain ⟨⟨d', t', hv', hd1', hd2'⟩, a', b', ta', tb', n', ho', ha', hb', hb2'⟩ := hv'; subst hv'; subst ho'; (try dsimp only at N'); (try k_sweep); (try dsimp only)))))
  (k_with "my subscriptTail Name Call ref int" => (k_here; k_dflt (first | ((refine' menu_val (by k_asm) (by k_mem) (by assumption) (by assumption) ?_); intro i' t' hi') | ((refine' menu_col (by k_asm) (by k_mem) (by assumption) (by assumption) ?_); intro i' t' hi'))))
  trivial
local macro_rules | `(tactic| walk_at "call ref") => `(tactic| k_extra "my call ref")
local macro_rules | `(tactic| walk_at "subscriptTail Name Call ref int") => `(tactic| k_extra "my subscriptTail Name Call ref int")
local macro_rules | `(tactic| k_enter) => `(tactic| (refine' code_def ?k1 ?k2 ?k3 ?k4 ?k5 ?kA ?kF ?kK ?k6 ?k7 ?k8 ?k9 ?kB ?_ ?c2 ?c3 ?c4 ?c5; (case kA => exact rfl); (case kF => exact rfl); (case kK => first | exact rfl | assumption); (case k1 => k_asm); (case k2 => k_asm); (case k3 => k_asm); (case k4 => k_asm); (case k5 => k_asm); (case k6 => k_is); (case k7 => k_is); (case k8 => ktr_room); (case k9 => first | exact BindsTo.of_eq rfl | exact binds_K (by k_in) rfl (by k_is) rfl rfl rfl); (case c5 => decide); (case kB => exact locs rfl); (case c2 => exact rfl); (case c3 => exact rfl); (case c4 => exact rfl); k_whole; intro g' L' h' FG' F' N' B' X' T'; (try dsimp only); (try k_lift B'); (try k_fold)))
theorem menu_at {d : Int} (h0 : 0 ≤ d) (h1 : d < 13) (u0 u1 u2 u3 u4 u5 u6 u7 u8 u9 u10 u11 u12 : Tok) : ∃ t, ([.str "a" u0, .str "A" u1, .str "a " u2, .str "A  " u3, .str "b" u4, .str "B" u5, .str "" u6, .str " " u7, .str "ab" u8, .int 1 u9, .int 2 u10, .bytes [97].toArray u11, .bytes [65].toArray u12] : List Value)[d.toNat]? = some (valAt d.toNat t) := by
  rcases (by omega : d = 0 ∨ d = 1 ∨ d = 2 ∨ d = 3 ∨ d = 4 ∨ d = 5 ∨ d = 6 ∨ d = 7 ∨ d = 8 ∨ d = 9 ∨ d = 10 ∨ d = 11 ∨ d = 12) with rfl | rfl | rfl | rfl | rfl | rfl | rfl | rfl | rfl | rfl | rfl | rfl | rfl
  · exact ⟨u0, rfl⟩
  · exact ⟨u1, rfl⟩
  · exact ⟨u2, rfl⟩
  · exact ⟨u3, rfl⟩
  · exact ⟨u4, rfl⟩
  · exact ⟨u5, rfl⟩
  · exact ⟨u6, rfl⟩
  · exact ⟨u7, rfl⟩
  · exact ⟨u8, rfl⟩
  · exact ⟨u9, rfl⟩
  · exact ⟨u10, rfl⟩
  · exact ⟨u11, rfl⟩
  · exact ⟨u12, rfl⟩
theorem menu_c {d : Int} (h0 : 0 ≤ d) (h1 : d < 4) (u0 u1 u2 u3 : Tok) : ∃ t, ([.str "binary" u0, .str "nocase" u1, .str "nocase" u2, .str "rtrim" u3] : List Value)[d.toNat]? = some (.str (colAt d.toNat) t) := by
  rcases (by omega : d = 0 ∨ d = 1 ∨ d = 2 ∨ d = 3) with rfl | rfl | rfl | rfl
  · exact ⟨u0, rfl⟩
  · exact ⟨u1, rfl⟩
  · exact ⟨u2, rfl⟩
  · exact ⟨u3, rfl⟩
section
variable {prog : Program} {w : World} {A : Around} {E : Value → Shared → Prop} {s : Shared} {h₀ : Heap} {L l : Addr} {news : List (Addr × Obj)} {value slice : PySem.Expr} {n : Nat} {d : Int} {u : Tok} {Q : Value → Shared → Prop}
theorem menu_val {u0 u1 u2 u3 u4 u5 u6 u7 u8 u9 u10 u11 u12 : Tok} (N : News h₀ L s.heap news) (hm : (l, ({ cls := .type "list", data := .seq ([.str "a" u0, .str "A" u1, .str "a " u2, .str "A  " u3, .str "b" u4, .str "B" u5, .str "" u6, .str " " u7, .str "ab" u8, .int 1 u9, .int 2 u10, .bytes [97].toArray u11, .bytes [65].toArray u12] : List Value).toArray n } : Obj)) ∈ news) (h0 : 0 ≤ d) (h1 : d < 13)
    (h : ∀ i t, i < 13 → Q (valAt i t) s) (hs : subscripted slice false (.ref l) (.int d u) = operate [.ref l, .int d u] (getItem (.ref l) (.int d u)) := by with_unfolding_all rfl) :
    wpAny (model prog w) A (subscriptTail value slice (.ref l) (.int d u)) Q E s := by
  obtain ⟨t, e⟩ := menu_at h0 h1 u0 u1 u2 u3 u4 u5 u6 u7 u8 u9 u10 u11 u12
  exact lst_item N hm h0 (by omega) e (h _ t (by omega)) hs
theorem menu_col {u0 u1 u2 u3 : Tok} (N : News h₀ L s.heap news) (hm : (l, ({ cls := .type "list", data := .seq ([.str "binary" u0, .str "nocase" u1, .str "nocase" u2, .str "rtrim" u3] : List Value).toArray n } : Obj)) ∈ news) (h0 : 0 ≤ d) (h1 : d < 4)
    (h : ∀ i t, i < 4 → Q (.str (colAt i) t) s) (hs : subscripted slice false (.ref l) (.int d u) = operate [.ref l, .int d u] (getItem (.ref l) (.int d u)) := by with_unfolding_all rfl) :
    wpAny (model prog w) A (subscriptTail value slice (.ref l) (.int d u)) Q E s := by
  obtain ⟨t, e⟩ := menu_c h0 h1 u0 u1 u2 u3
  exact lst_item N hm h0 (by omega) e (h _ t (by omega)) hs
end
section
variable {w : World} {p : Program} {loose : List Str} {mean : ExcName → Option Value} {mg mb : Str → Option Value}

theorem value_any (a b : Int) (ha : 0 ≤ a) (hb : 0 ≤ b) (hb2 : b < 2147483647) (src : Addr) (n : Nat) (ta tb : Tok) :
    CallTo w p loose mean mg mb 423 [.ref src] 3 [(src, { cls := .type "list", data := .seq #[.int a ta, .int b tb] n })]
      (fun v nw => ∃ o', ((∃ i t, v = valAt i t ∧ i < 13) ∧ SrcO o') ∧ (src, o') ∈ nw ∧ ∀ q ∈ [(src, ({ cls := .type "list", data := .seq #[.int a ta, .int b tb] n } : Obj))], q.1 ≠ src → q ∈ nw) := by
  unfold CallTo; k_fill
  intro dp un gd cn cs a ccd cl outer A₀ base h₀ L m s Q E B F X N T hk hd hu hret
  walk_at "mine go"
  all_goals (walk_at "mine end"; intro hG hK; refine hret _ _ _ _ ?_ (by k_asm) (by k_asm) hK (fresh_of hG (by k_asm)); refine ⟨_, ⟨⟨_, _, rfl, by assumption⟩, ?_⟩, by k_mem, ?_⟩)
  · exact ⟨_, _, _, _, _, rfl, by assumption, by assumption, by assumption⟩
  · exact List.forall_mem_cons.mpr ⟨fun h => absurd rfl h, List.forall_mem_nil _⟩
end
end Mine
open PySem PySem.W PySem.Calls PyProof.Rows
set_option maxRecDepth 100000
set_option maxHeartbeats 0
namespace Mine
/-- two addresses that part: out of the arithmetic's sight -/
def NeA (a b : Nat) : Prop := a ≠ b
theorem NeA.out {a b : Nat} (h : NeA a b) : a ≠ b := h
def AllNeA (D : Addr) : List (Addr × Obj) → Prop
  | [] => True
  | p :: r => NeA D p.1 ∧ AllNeA D r
theorem AllNeA.of {D : Addr} : ∀ {l : List (Addr × Obj)}, AllNe D l → AllNeA D l
  | [], _ => trivial
  | _ :: _, h => ⟨h.1, AllNeA.of h.2⟩
theorem CallTo.use1N {w : World} {p : Program} {loose : List Str} {mean : ExcName → Option Value} {mg mb : Str → Option Value} {f : Addr} {vs : List Value} {d : Nat} {news : List (Addr × Obj)} {R : Obj → Prop}
    {dp un : Nat} {gd : Option (List Code)} {cn : Str} {cs : Scope} {a : Addr} {ccd : Value} {cl : List (Str × Addr)} {outer : List Env} {A₀ : Around} {base h₀ : Heap} {L : Addr} {m : Str → Option Value} {s : Shared} {Q E : Value → Shared → Prop}
    (C : CallTo w p loose mean mg mb f vs d [] (fun v nw => ∃ D o, v = .ref D ∧ R o ∧ (D, o) ∈ nw)) (B : Below A₀ base outer h₀) (F : Fr h₀ L s.heap m) (X : (Mine.K w.params).In h₀) (N : News h₀ L s.heap news) (T : Top p loose mean mg mb h₀) (hk : cs.kind = .function)
    (hd : dp + d < recursionLimit) (hu : un + 8 * d < cLine)
    (ret : ∀ D o h' tk', R o → Fr h₀ L h' m → News h₀ L h' ((D, o) :: news) → AllNeA D news → Q (.ref D) { s with heap := h', toks := tk' }) :
    wpAny (model PySem.Challenge.rw_nt0118_01.row.prog w) (ktrTop dp un gd cn cs L a ccd cl outer) (call (.ref f) vs) Q E s :=
  CallTo.use1 C B F X N T hk hd hu fun D o h' tk' h F' N' ne => ret D o h' tk' h F' N' (AllNeA.of ne)

theorem two_ways {d : Int} (h0 : 0 ≤ d) (h1 : d < 2) : d = 0 ∨ d = 1 := by omega
def PoolBack (h₀ : Heap) (L : Addr) (m : Str → Option Value) (news : List (Addr × Obj)) (s : Shared) (v : Value) (s' : Shared) : Prop :=
  ∃ D o h' tk', v = .ref D ∧ s' = { s with heap := h', toks := tk' } ∧ SrcO o ∧ Fr h₀ L h' m ∧ News h₀ L h' ((D, o) :: news) ∧ (∀ q ∈ news, q.1 < D)
theorem pool_cut {M : Model} {A : Around} {E : Value → Shared → Prop} {s : Shared} {h₀ : Heap} {L : Addr} {m : Str → Option Value} {news : List (Addr × Obj)} {cm : Sem Value} {Q : Value → Shared → Prop} (_F : Fr h₀ L s.heap m) (_N : News h₀ L s.heap news)
    (ha : wpAny M A cm (PoolBack h₀ L m news s) E s) (h : ∀ D o h' tk', SrcO o → Fr h₀ L h' m → News h₀ L h' ((D, o) :: news) → (∀ q ∈ news, q.1 < D) → Q (.ref D) { s with heap := h', toks := tk' }) : wpAny M A cm Q E s :=
  wpAny_mono ha (fun v s' ⟨D, o, h', tk', e1, e2, x, F, N, l⟩ => by subst e1; subst e2; exact h D o h' tk' x F N l) fun _ _ e => e

def OffA (I C D : Addr) : List (Addr × Obj) → Prop
  | [] => True
  | p :: r => NeA p.1 I ∧ NeA p.1 C ∧ NeA p.1 D ∧ OffA I C D r
theorem OffA.of {I C D : Addr} : ∀ {l : List (Addr × Obj)}, LCg.Off3 I C D l → OffA I C D l
  | [], _ => trivial
  | _ :: _, h => ⟨h.1.1, h.1.2.1, h.1.2.2, OffA.of h.2⟩
def Off1A (D : Addr) : List (Addr × Obj) → Prop
  | [] => True
  | p :: r => NeA p.1 D ∧ Off1A D r
theorem Off1A.of {D : Addr} : ∀ {l : List (Addr × Obj)}, LCg.Off1 D l → Off1A D l
  | [], _ => trivial
  | _ :: _, h => ⟨h.1, Off1A.of h.2⟩
theorem NeA.of {a b : Nat} (h : @Ne Nat a b) : NeA a b := h

/-- chosen and the aggregate, by the ranks -/
theorem sg_lt {a b : Nat} (h : a < b) : sg a b = -1 := by unfold sg; rw [if_pos h]
theorem sg_gt {a b : Nat} (h : b < a) : sg a b = 1 := by unfold sg; rw [if_neg (by omega), if_pos h]
theorem sg_eq {a b : Nat} (h : a = b) : sg a b = 0 := sg_zero.mpr h
theorem sg_cases (a b : Nat) : (a < b ∧ sg a b = -1) ∨ (a = b ∧ sg a b = 0) ∨ (b < a ∧ sg a b = 1) := by
  rcases Nat.lt_trichotomy a b with h | h | h
  · exact .inl ⟨h, sg_lt h⟩
  · exact .inr (.inl ⟨h, sg_eq h⟩)
  · exact .inr (.inr ⟨h, sg_gt h⟩)
theorem pick_nil {s : Int} {c b : Nat} : pick s c b [] = b := rfl
theorem bet_nil {s : Int} {c b : Nat} : bet s c b [] = b := rfl
theorem pick_max_yes {c b v : Nat} {r : List Nat} (h : rk c b < rk c v) : pick 1 c b (v :: r) = pick 1 c v r := pick_yes (.inl (sg_gt h))
theorem pick_max_no {c b v : Nat} {r : List Nat} (h : rk c v ≤ rk c b) : pick 1 c b (v :: r) = pick 1 c b r := pick_no (by rcases sg_cases (rk c v) (rk c b) with ⟨_, e⟩ | ⟨_, e⟩ | ⟨h', _⟩ <;> omega)
theorem pick_min_yes {c b v : Nat} {r : List Nat} (h : rk c v ≤ rk c b) : pick (-1) c b (v :: r) = pick (-1) c v r := pick_yes (by rcases sg_cases (rk c v) (rk c b) with ⟨_, e⟩ | ⟨_, e⟩ | ⟨h', _⟩ <;> omega)
theorem pick_min_no {c b v : Nat} {r : List Nat} (h : rk c b < rk c v) : pick (-1) c b (v :: r) = pick (-1) c b r := pick_no (by rw [sg_gt h]; omega)
theorem bet_min_yes {c b v : Nat} {r : List Nat} (h : rk c v < rk c b) : bet (-1) c b (v :: r) = bet (-1) c v r := bet_yes (sg_lt h)
theorem bet_min_no {c b v : Nat} {r : List Nat} (h : rk c b ≤ rk c v) : bet (-1) c b (v :: r) = bet (-1) c b r := bet_no (by rcases sg_cases (rk c v) (rk c b) with ⟨h', e⟩ | ⟨_, e⟩ | ⟨_, e⟩ <;> omega)
theorem bet_max (c : Nat) : ∀ (r : List Nat) (b : Nat), bet 1 c b r = pick 1 c b r
  | [], _ => rfl
  | v :: r, b => by
    by_cases h : rk c b < rk c v
    · rw [pick_max_yes h, bet_yes (sg_gt h)]; exact bet_max c r v
    · rw [pick_max_no (by omega), bet_no (by rcases sg_cases (rk c v) (rk c b) with ⟨h', e⟩ | ⟨_, e⟩ | ⟨_, e⟩ <;> omega)]; exact bet_max c r b
theorem pick_lt {s : Int} {c n : Nat} : ∀ (r : List Nat) (b : Nat), b < n → (∀ v ∈ r, v < n) → pick s c b r < n
  | [], _, h, _ => h
  | v :: r, b, h, hr => by
    show pick s c (if _ then v else b) r < n
    split
    · exact pick_lt r v (hr v (.head _)) fun x hx => hr x (.tail _ hx)
    · exact pick_lt r b h fun x hx => hr x (.tail _ hx)
theorem bet_lt {s : Int} {c n : Nat} : ∀ (r : List Nat) (b : Nat), b < n → (∀ v ∈ r, v < n) → bet s c b r < n
  | [], _, h, _ => h
  | v :: r, b, h, hr => by
    show bet s c (if _ then v else b) r < n
    split
    · exact bet_lt r v (hr v (.head _)) fun x hx => hr x (.tail _ hx)
    · exact bet_lt r b h fun x hx => hr x (.tail _ hx)

/-- what the sort makes of two, of three -/
theorem run2 (r : Nat → Nat) : (runT (fun a b => decide (r a < r b)) (kas_sort 2)).toList = [0, 1] ∧ r 0 ≤ r 1 ∨ (runT (fun a b => decide (r a < r b)) (kas_sort 2)).toList = [1, 0] ∧ r 1 ≤ r 0 := by
  by_cases h : r 1 < r 0
  · right
    refine ⟨?_, by omega⟩
    rw [runT_congr (n := 2) (g := fun a b => decide (1 - a < 1 - b)) (fun i hi j hj => ?_) _ ok_sort2]
    · decide +kernel
    · rw [decide_eq_decide]
      rcases (by omega : i = 0 ∨ i = 1) with rfl | rfl <;> rcases (by omega : j = 0 ∨ j = 1) with rfl | rfl <;> omega
  · left
    refine ⟨?_, by omega⟩
    by_cases h2 : r 0 < r 1
    · rw [runT_congr (n := 2) (g := fun a b => decide (a < b)) (fun i hi j hj => ?_) _ ok_sort2]
      · decide +kernel
      · rw [decide_eq_decide]
        rcases (by omega : i = 0 ∨ i = 1) with rfl | rfl <;> rcases (by omega : j = 0 ∨ j = 1) with rfl | rfl <;> omega
    · rw [runT_congr (n := 2) (g := fun a b => decide (0 < 0)) (fun i hi j hj => ?_) _ ok_sort2]
      · decide +kernel
      · rw [decide_eq_decide]
        rcases (by omega : i = 0 ∨ i = 1) with rfl | rfl <;> rcases (by omega : j = 0 ∨ j = 1) with rfl | rfl <;> omega
def q3 (a b c : Nat) (i : Nat) : Nat := match i with | 0 => a | 1 => b | _ => c
/-- the sort of three ranks below three -/
theorem run3n : ∀ a, a < 3 → ∀ b, b < 3 → ∀ c, c < 3 → ((runT (fun i j => decide (q3 a b c i < q3 a b c j)) (kas_sort 3)).size == 3 &&
    (let p := runT (fun i j => decide (q3 a b c i < q3 a b c j)) (kas_sort 3);
     decide (p.getD 0 9 < 3) && decide (p.getD 1 9 < 3) && decide (p.getD 2 9 < 3) && decide (q3 a b c (p.getD 0 9) ≤ q3 a b c 0) && decide (q3 a b c (p.getD 0 9) ≤ q3 a b c 1) && decide (q3 a b c (p.getD 0 9) ≤ q3 a b c 2) &&
     decide (q3 a b c 0 ≤ q3 a b c (p.getD 2 9)) && decide (q3 a b c 1 ≤ q3 a b c (p.getD 2 9)) && decide (q3 a b c 2 ≤ q3 a b c (p.getD 2 9)))) = true := by decide +kernel

theorem run3 (r : Nat → Nat) : ∃ x y z, (runT (fun a b => decide (r a < r b)) (kas_sort 3)).toList = [x, y, z] ∧ x < 3 ∧ y < 3 ∧ z < 3 ∧ (r x ≤ r 0 ∧ r x ≤ r 1 ∧ r x ≤ r 2) ∧ (r 0 ≤ r z ∧ r 1 ≤ r z ∧ r 2 ≤ r z) := by
  obtain ⟨a, ha⟩ : ∃ a, a = (if r 1 < r 0 then 1 else 0) + (if r 2 < r 0 then 1 else 0) := ⟨_, rfl⟩
  obtain ⟨b, hb⟩ : ∃ b, b = (if r 0 < r 1 then 1 else 0) + (if r 2 < r 1 then 1 else 0) := ⟨_, rfl⟩
  obtain ⟨c, hc⟩ : ∃ c, c = (if r 0 < r 2 then 1 else 0) + (if r 1 < r 2 then 1 else 0) := ⟨_, rfl⟩
  have e01 : r 0 < r 1 ↔ a < b := by rw [ha, hb]; (repeat' split) <;> omega
  have e10 : r 1 < r 0 ↔ b < a := by rw [ha, hb]; (repeat' split) <;> omega
  have e02 : r 0 < r 2 ↔ a < c := by rw [ha, hc]; (repeat' split) <;> omega
  have e20 : r 2 < r 0 ↔ c < a := by rw [ha, hc]; (repeat' split) <;> omega
  have e12 : r 1 < r 2 ↔ b < c := by rw [hb, hc]; (repeat' split) <;> omega
  have e21 : r 2 < r 1 ↔ c < b := by rw [hb, hc]; (repeat' split) <;> omega
  have a3 : a < 3 := by rw [ha]; (repeat' split) <;> omega
  have b3 : b < 3 := by rw [hb]; (repeat' split) <;> omega
  have c3 : c < 3 := by rw [hc]; (repeat' split) <;> omega
  have key : ∀ i, i < 3 → ∀ j, j < 3 → (r i < r j ↔ q3 a b c i < q3 a b c j) := by
    intro i hi j hj
    rcases (by omega : i = 0 ∨ i = 1 ∨ i = 2) with rfl | rfl | rfl <;> rcases (by omega : j = 0 ∨ j = 1 ∨ j = 2) with rfl | rfl | rfl <;>
      first | exact e01 | exact e10 | exact e02 | exact e20 | exact e12 | exact e21 | exact ⟨fun h => absurd h (Nat.lt_irrefl _), fun h => absurd h (Nat.lt_irrefl _)⟩
  have le : ∀ i, i < 3 → ∀ j, j < 3 → q3 a b c i ≤ q3 a b c j → r i ≤ r j := fun i hi j hj h => by
    have := key j hj i hi
    omega
  rw [runT_congr (n := 3) (g := fun i j => decide (q3 a b c i < q3 a b c j)) (fun i hi j hj => by rw [decide_eq_decide]; exact key i hi j hj) _ ok_sort3]
  have R := run3n a a3 b b3 c c3
  revert R
  generalize runT (fun i j => decide (q3 a b c i < q3 a b c j)) (kas_sort 3) = p
  intro R
  obtain ⟨l⟩ := p
  simp only [Bool.and_eq_true, beq_iff_eq, decide_eq_true_eq, List.size_toArray] at R
  match l, R with
  | [x, y, z], R =>
    have R2 := R.2
    have g0 : (#[x, y, z] : Array Nat).getD 0 9 = x := rfl
    have g1 : (#[x, y, z] : Array Nat).getD 1 9 = y := rfl
    have g2 : (#[x, y, z] : Array Nat).getD 2 9 = z := rfl
    rw [g0, g1, g2] at R2
    obtain ⟨⟨⟨⟨⟨⟨⟨⟨hx, hy⟩, hz⟩, h1⟩, h2⟩, h3⟩, h4⟩, h5⟩, h6⟩ := R2
    exact ⟨x, y, z, rfl, hx, hy, hz, ⟨le x hx 0 (by decide) h1, le x hx 1 (by decide) h2, le x hx 2 (by decide) h3⟩, le 0 (by decide) z hz h4, le 1 (by decide) z hz h5, le 2 (by decide) z hz h6⟩

/-- the least and the greatest of some, by their ranks -/
structure Ext (c j0 j1 : Nat) (is : List Nat) : Prop where
  lo : ∀ i ∈ is, rk c j0 ≤ rk c i
  hi : ∀ i ∈ is, rk c i ≤ rk c j1
  at0 : ∃ i ∈ is, rk c j0 = rk c i
  at1 : ∃ i ∈ is, rk c j1 = rk c i

section
variable {prog : Program} {w : World} {A : Around} {E : Value → Shared → Prop} {s : Shared} {h₀ : Heap} {L l : Addr} {m : Str → Option Value} {news : List (Addr × Obj)} {Q : Value → Shared → Prop} {c i1 i2 i3 : Nat} {d1 d2 d3 : Addr} {o1 o2 o3 : Obj}
theorem mem_of {α : Type} {l l' : List α} {x : α} (h : x ∈ l) (hs : ∀ q ∈ l, q ∈ l') : x ∈ l' := hs x h
theorem sorted2L (hc : c < 4) (F : Fr h₀ L s.heap m) (N : News h₀ L s.heap news) (hl : s.heap.IsList l [.ref d1, .ref d2].toArray) (m1 : (d1, o1) ∈ news) (m2 : (d2, o2) ∈ news) (p1 : Pl c i1 o1) (p2 : Pl c i2 o2) (b1 : i1 < 13) (b2 : i2 < 13)
    (h : ∀ D e h' e0 x0 j0 e1 x1 j1, Fr h₀ L h' m → News h₀ L h' ((D, listOf [.ref e0, .ref e1].toArray e) :: news) → (∀ q ∈ news, q.1 < D) → (e0, x0) ∈ [(d1, o1), (d2, o2)] → (e1, x1) ∈ [(d1, o1), (d2, o2)] → Pl c j0 x0 → Pl c j1 x1 → j0 < 13 → j1 < 13 →
      Ext c j0 j1 [i1, i2] → Q (.ref D) { s with heap := h' }) :
    wpAny (model prog w) A (call (.builtin "sorted") [.ref l]) Q E s := by
  have hP : Pls c news [d1, d2] [i1, i2] := .cons m1 p1 b1 (.cons m2 p2 b2 .nil)
  rcases run2 (fun a => rk c ([i1, i2].getD a 0)) with ⟨e, hr⟩ | ⟨e, hr⟩
  · have hr' : rk c i1 ≤ rk c i2 := hr
    refine sorted_pl (n := 2) (ds := [d1, d2]) (out := [.ref d1, .ref d2]) (fun a => rk c ([i1, i2].getD a 0)) hc F N hl hP rfl (by decide) (by decide) ok_sort2 (fun _ _ _ _ => Iff.rfl) (by rw [e]; rfl) fun D k h' F' N' lt => ?_
    refine h D k h' d1 o1 i1 d2 o2 i2 F' N' lt (by simp) (by simp) p1 p2 b1 b2 ⟨?_, ?_, ⟨i1, by simp, rfl⟩, ⟨i2, by simp, rfl⟩⟩
    · intro i hi; simp only [List.mem_cons, List.not_mem_nil, or_false] at hi; rcases hi with rfl | rfl <;> omega
    · intro i hi; simp only [List.mem_cons, List.not_mem_nil, or_false] at hi; rcases hi with rfl | rfl <;> omega
  · have hr' : rk c i2 ≤ rk c i1 := hr
    refine sorted_pl (n := 2) (ds := [d1, d2]) (out := [.ref d2, .ref d1]) (fun a => rk c ([i1, i2].getD a 0)) hc F N hl hP rfl (by decide) (by decide) ok_sort2 (fun _ _ _ _ => Iff.rfl) (by rw [e]; rfl) fun D k h' F' N' lt => ?_
    refine h D k h' d2 o2 i2 d1 o1 i1 F' N' lt (by simp) (by simp) p2 p1 b2 b1 ⟨?_, ?_, ⟨i2, by simp, rfl⟩, ⟨i1, by simp, rfl⟩⟩
    · intro i hi; simp only [List.mem_cons, List.not_mem_nil, or_false] at hi; rcases hi with rfl | rfl <;> omega
    · intro i hi; simp only [List.mem_cons, List.not_mem_nil, or_false] at hi; rcases hi with rfl | rfl <;> omega
theorem pick3 {c x : Nat} {d1 d2 d3 : Addr} {o1 o2 o3 : Obj} {i1 i2 i3 : Nat} (hx : x < 3) (p1 : Pl c i1 o1) (p2 : Pl c i2 o2) (p3 : Pl c i3 o3) (b1 : i1 < 13) (b2 : i2 < 13) (b3 : i3 < 13) :
    ∃ d o i, ([d1, d2, d3].map Value.ref).getD x Value.none = .ref d ∧ (d, o) ∈ [(d1, o1), (d2, o2), (d3, o3)] ∧ Pl c i o ∧ i < 13 ∧ i ∈ [i1, i2, i3] ∧ [i1, i2, i3].getD x 0 = i := by
  rcases (by omega : x = 0 ∨ x = 1 ∨ x = 2) with rfl | rfl | rfl
  · exact ⟨d1, o1, i1, rfl, by simp, p1, b1, by simp, rfl⟩
  · exact ⟨d2, o2, i2, rfl, by simp, p2, b2, by simp, rfl⟩
  · exact ⟨d3, o3, i3, rfl, by simp, p3, b3, by simp, rfl⟩
theorem sorted3L (hc : c < 4) (F : Fr h₀ L s.heap m) (N : News h₀ L s.heap news) (hl : s.heap.IsList l [.ref d1, .ref d2, .ref d3].toArray) (m1 : (d1, o1) ∈ news) (m2 : (d2, o2) ∈ news) (m3 : (d3, o3) ∈ news) (p1 : Pl c i1 o1) (p2 : Pl c i2 o2) (p3 : Pl c i3 o3) (b1 : i1 < 13) (b2 : i2 < 13) (b3 : i3 < 13)
    (h : ∀ D e h' e0 x0 j0 em e1 x1 j1, Fr h₀ L h' m → News h₀ L h' ((D, listOf [.ref e0, .ref em, .ref e1].toArray e) :: news) → (∀ q ∈ news, q.1 < D) → (e0, x0) ∈ [(d1, o1), (d2, o2), (d3, o3)] → (e1, x1) ∈ [(d1, o1), (d2, o2), (d3, o3)] → Pl c j0 x0 → Pl c j1 x1 → j0 < 13 → j1 < 13 →
      Ext c j0 j1 [i1, i2, i3] → Q (.ref D) { s with heap := h' }) :
    wpAny (model prog w) A (call (.builtin "sorted") [.ref l]) Q E s := by
  have hP : Pls c news [d1, d2, d3] [i1, i2, i3] := .cons m1 p1 b1 (.cons m2 p2 b2 (.cons m3 p3 b3 .nil))
  obtain ⟨x, y, z, e, hx, hy, hz, ⟨l0, l1, l2⟩, g0, g1, g2⟩ := run3 (fun a => rk c ([i1, i2, i3].getD a 0))
  obtain ⟨dx, ox, ix, vx, mx, px, bx, nx, ex⟩ := pick3 (d1 := d1) (d2 := d2) (d3 := d3) hx p1 p2 p3 b1 b2 b3
  obtain ⟨dy, oy, iy, vy, my, py, bY, ny, ey⟩ := pick3 (d1 := d1) (d2 := d2) (d3 := d3) hy p1 p2 p3 b1 b2 b3
  obtain ⟨dz, oz, iz, vz, mz, pz, bz, nz, ez⟩ := pick3 (d1 := d1) (d2 := d2) (d3 := d3) hz p1 p2 p3 b1 b2 b3
  simp only [ex] at l0 l1 l2
  simp only [ez] at g0 g1 g2
  have l0' : rk c ix ≤ rk c i1 := l0
  have l1' : rk c ix ≤ rk c i2 := l1
  have l2' : rk c ix ≤ rk c i3 := l2
  have g0' : rk c i1 ≤ rk c iz := g0
  have g1' : rk c i2 ≤ rk c iz := g1
  have g2' : rk c i3 ≤ rk c iz := g2
  refine sorted_pl (n := 3) (ds := [d1, d2, d3]) (out := [.ref dx, .ref dy, .ref dz]) (fun a => rk c ([i1, i2, i3].getD a 0)) hc F N hl hP rfl (by decide) (by decide) ok_sort3 (fun _ _ _ _ => Iff.rfl) ?_ fun D k h' F' N' lt => ?_
  · rw [e]
    simp only [List.map_cons (f := fun i => (List.map Value.ref [d1, d2, d3]).getD i Value.none), List.map_nil]
    rw [vx, vy, vz]
  · refine h D k h' dx ox ix dy dz oz iz F' N' lt mx mz px pz bx bz ⟨?_, ?_, ⟨ix, nx, rfl⟩, ⟨iz, nz, rfl⟩⟩
    · intro i hi; simp only [List.mem_cons, List.not_mem_nil, or_false] at hi; rcases hi with rfl | rfl | rfl <;> assumption
    · intro i hi; simp only [List.mem_cons, List.not_mem_nil, or_false] at hi; rcases hi with rfl | rfl | rfl <;> assumption
theorem eq_plN {o o' : Obj} {b : Addr} {i j : Nat} (N : News h₀ L s.heap news) (m1 : (l, o) ∈ news) (m2 : (b, o') ∈ news) (p1 : Pl c i o) (p2 : Pl c j o') (hc : c < 4) (hi : i < 13) (hj : j < 13) (hu : A.units < cLine)
    (h : Q (.bool (decide (rk c i = rk c j))) s) : wpAny (model prog w) A (compareOp .Eq (.ref l) (.ref b)) Q E s := eq_pl hc hi hj (N _ m1).1 (N _ m2).1 p1 p2 hu h
end

/-- a list that a statement makes, told by a word of its items -/
def ListBack (h₀ : Heap) (L : Addr) (m : Str → Option Value) (y : Str) (news : List (Addr × Obj)) (s : Shared) (P : List Value → Prop) (fl : Flow) (s' : Shared) : Prop :=
  fl = .next ∧ ∃ D ys h' tk', s' = { s with heap := h', toks := tk' } ∧ Fr h₀ L h' (fun z => if z = y then some (.ref D) else m z) ∧ News h₀ L h' ((D, LCg.lst ys) :: news) ∧ Off1A D news ∧ P ys
def LeastP (c i1 : Nat) (r : List Nat) (ys : List Value) : Prop := (∃ t, ys[0]? = some (valAt (bet (-1) c i1 r) t)) ∧ ∃ t, ys[ys.length - 1]? = some (valAt (pick (-1) c i1 r) t)
def GreatP (c i1 : Nat) (r : List Nat) (ys : List Value) : Prop := ∃ t, ys[0]? = some (valAt (pick 1 c i1 r) t)
theorem Ext.two {c j0 j1 i1 i2 : Nat} (X : Ext c j0 j1 [i1, i2]) : (rk c j0 ≤ rk c i1 ∧ rk c j0 ≤ rk c i2) ∧ (rk c i1 ≤ rk c j1 ∧ rk c i2 ≤ rk c j1) ∧ (rk c j0 = rk c i1 ∨ rk c j0 = rk c i2) ∧ (rk c j1 = rk c i1 ∨ rk c j1 = rk c i2) := by
  refine ⟨⟨X.lo _ (by simp), X.lo _ (by simp)⟩, ⟨X.hi _ (by simp), X.hi _ (by simp)⟩, ?_, ?_⟩
  · obtain ⟨i, hi, e⟩ := X.at0; simp only [List.mem_cons, List.not_mem_nil, or_false] at hi; rcases hi with rfl | rfl <;> simp [e]
  · obtain ⟨i, hi, e⟩ := X.at1; simp only [List.mem_cons, List.not_mem_nil, or_false] at hi; rcases hi with rfl | rfl <;> simp [e]
theorem Ext.three {c j0 j1 i1 i2 i3 : Nat} (X : Ext c j0 j1 [i1, i2, i3]) : (rk c j0 ≤ rk c i1 ∧ rk c j0 ≤ rk c i2 ∧ rk c j0 ≤ rk c i3) ∧ (rk c i1 ≤ rk c j1 ∧ rk c i2 ≤ rk c j1 ∧ rk c i3 ≤ rk c j1) ∧ (rk c j0 = rk c i1 ∨ rk c j0 = rk c i2 ∨ rk c j0 = rk c i3) ∧ (rk c j1 = rk c i1 ∨ rk c j1 = rk c i2 ∨ rk c j1 = rk c i3) := by
  refine ⟨⟨X.lo _ (by simp), X.lo _ (by simp), X.lo _ (by simp)⟩, ⟨X.hi _ (by simp), X.hi _ (by simp), X.hi _ (by simp)⟩, ?_, ?_⟩
  · obtain ⟨i, hi, e⟩ := X.at0; simp only [List.mem_cons, List.not_mem_nil, or_false] at hi; rcases hi with rfl | rfl | rfl <;> simp [e]
  · obtain ⟨i, hi, e⟩ := X.at1; simp only [List.mem_cons, List.not_mem_nil, or_false] at hi; rcases hi with rfl | rfl | rfl <;> simp [e]
section
variable {prog : Program} {w : World} {A : Around} {E : Value → Shared → Prop} {s : Shared} {h₀ : Heap} {L l : Addr} {m : Str → Option Value} {news : List (Addr × Obj)} {c i1 j0 j1 : Nat} {r : List Nat}
theorem list_cut {M : Model} {cm : Sem Flow} {Q : Flow → Shared → Prop} (y : Str) {P : List Value → Prop} (_F : Fr h₀ L s.heap m) (_N : News h₀ L s.heap news) (ha : wpAny M A cm (ListBack h₀ L m y news s P) E s)
    (h : ∀ D ys h' tk', Fr h₀ L h' (fun z => if z = y then some (.ref D) else m z) → News h₀ L h' ((D, LCg.lst ys) :: news) → Off1A D news → P ys → Q .next { s with heap := h', toks := tk' }) : wpAny M A cm Q E s :=
  wpAny_mono ha (fun fl s' ⟨e0, D, ys, h', tk', e, F, N, o, p⟩ => by subst e0; subst e; exact h D ys h' tk' F N o p) fun _ _ e => e
theorem least_cut {M : Model} {cm : Sem Flow} {Q : Flow → Shared → Prop} (F : Fr h₀ L s.heap m) (N : News h₀ L s.heap news) (_X : Ext c j0 j1 (i1 :: r)) (ha : wpAny M A cm (ListBack h₀ L m (Str.ofString "least") news s (LeastP c i1 r)) E s)
    (h : ∀ D ys h' tk', Fr h₀ L h' (fun z => if z = Str.ofString "least" then some (.ref D) else m z) → News h₀ L h' ((D, LCg.lst ys) :: news) → Off1A D news → LeastP c i1 r ys → Q .next { s with heap := h', toks := tk' }) : wpAny M A cm Q E s := list_cut _ F N ha h
theorem great_cut {M : Model} {cm : Sem Flow} {Q : Flow → Shared → Prop} (F : Fr h₀ L s.heap m) (N : News h₀ L s.heap news) (_X : Ext c j0 j1 (i1 :: r)) (ha : wpAny M A cm (ListBack h₀ L m (Str.ofString "greatest") news s (GreatP c i1 r)) E s)
    (h : ∀ D ys h' tk', Fr h₀ L h' (fun z => if z = Str.ofString "greatest" then some (.ref D) else m z) → News h₀ L h' ((D, LCg.lst ys) :: news) → Off1A D news → GreatP c i1 r ys → Q .next { s with heap := h', toks := tk' }) : wpAny M A cm Q E s := list_cut _ F N ha h
variable {value slice : PySem.Expr} {ys : List Value} {u : Tok} {Q : Value → Shared → Prop}
theorem item_great (N : News h₀ L s.heap news) (hm : (l, LCg.lst ys) ∈ news) (hP : GreatP c i1 r ys) (h : ∀ t, Q (valAt (pick 1 c i1 r) t) s)
    (hs : subscripted slice false (.ref l) (.int 0 u) = operate [.ref l, .int 0 u] (getItem (.ref l) (.int 0 u)) := by with_unfolding_all rfl) : wpAny (model prog w) A (subscriptTail value slice (.ref l) (.int 0 u)) Q E s := by
  obtain ⟨t, e⟩ := hP
  exact lst_item N hm (by decide) (by decide) e (h t) hs
theorem item_least0 (N : News h₀ L s.heap news) (hm : (l, LCg.lst ys) ∈ news) (hP : LeastP c i1 r ys) (h : ∀ t, Q (valAt (bet (-1) c i1 r) t) s)
    (hs : subscripted slice false (.ref l) (.int 0 u) = operate [.ref l, .int 0 u] (getItem (.ref l) (.int 0 u)) := by with_unfolding_all rfl) : wpAny (model prog w) A (subscriptTail value slice (.ref l) (.int 0 u)) Q E s := by
  obtain ⟨⟨t, e⟩, _⟩ := hP
  exact lst_item N hm (by decide) (by decide) e (h t) hs
theorem item_least1 (N : News h₀ L s.heap news) (hm : (l, LCg.lst ys) ∈ news) (hP : LeastP c i1 r ys) (h : ∀ t, Q (valAt (pick (-1) c i1 r) t) s)
    (hs : subscripted slice false (.ref l) (.int (-1) u) = operate [.ref l, .int (-1) u] (getItem (.ref l) (.int (-1) u)) := by with_unfolding_all rfl) : wpAny (model prog w) A (subscriptTail value slice (.ref l) (.int (-1) u)) Q E s := by
  obtain ⟨_, t, e⟩ := hP
  have hL : s.heap.IsList l ys.toArray := ⟨_, (N _ hm).1, rfl, _, rfl⟩
  have hlen : 0 < ys.length := by
    rcases ys with _ | ⟨y, ys⟩
    · simp at e
    · simp
  refine tail_any hL.typeIs slot_list_getitem.lookup (wpAny_getItem_list_neg hL (by decide) (by rw [List.size_toArray]; omega) (by decide) ?_ (h t)) hs
  rw [show ((-1 : Int) + (ys.toArray.size : Int)).toNat = ys.length - 1 by rw [List.size_toArray]; omega]
  simpa using e
theorem sorted2N {k d1 d2 : Nat} {o1 o2 : Obj} {i1 i2 : Nat} (F : Fr h₀ L s.heap m) (N : News h₀ L s.heap news) (hm : (l, ({ cls := .type "list", data := .seq [.ref d1, .ref d2].toArray k } : Obj)) ∈ news) (m1 : (d1, o1) ∈ news) (m2 : (d2, o2) ∈ news) (p1 : Pl c i1 o1) (p2 : Pl c i2 o2) (hc : c < 4) (b1 : i1 < 13) (b2 : i2 < 13)
    (h : ∀ D e h' e0 x0 j0 e1 x1 j1, Fr h₀ L h' m → News h₀ L h' ((D, listOf [.ref e0, .ref e1].toArray e) :: news) → (∀ q ∈ news, q.1 < D) → (e0, x0) ∈ [(d1, o1), (d2, o2)] → (e1, x1) ∈ [(d1, o1), (d2, o2)] → Pl c j0 x0 → Pl c j1 x1 → j0 < 13 → j1 < 13 →
      Ext c j0 j1 [i1, i2] → Q (.ref D) { s with heap := h' }) :
    wpAny (model prog w) A (call (.builtin "sorted") [.ref l]) Q E s := sorted2L hc F N ⟨_, (N _ hm).1, rfl, _, rfl⟩ m1 m2 p1 p2 b1 b2 h
theorem sorted3N {k d1 d2 d3 : Nat} {o1 o2 o3 : Obj} {i1 i2 i3 : Nat} (F : Fr h₀ L s.heap m) (N : News h₀ L s.heap news) (hm : (l, ({ cls := .type "list", data := .seq [.ref d1, .ref d2, .ref d3].toArray k } : Obj)) ∈ news) (m1 : (d1, o1) ∈ news) (m2 : (d2, o2) ∈ news) (m3 : (d3, o3) ∈ news) (p1 : Pl c i1 o1) (p2 : Pl c i2 o2) (p3 : Pl c i3 o3) (hc : c < 4) (b1 : i1 < 13) (b2 : i2 < 13) (b3 : i3 < 13)
    (h : ∀ D e h' e0 x0 j0 em e1 x1 j1, Fr h₀ L h' m → News h₀ L h' ((D, listOf [.ref e0, .ref em, .ref e1].toArray e) :: news) → (∀ q ∈ news, q.1 < D) → (e0, x0) ∈ [(d1, o1), (d2, o2), (d3, o3)] → (e1, x1) ∈ [(d1, o1), (d2, o2), (d3, o3)] → Pl c j0 x0 → Pl c j1 x1 → j0 < 13 → j1 < 13 →
      Ext c j0 j1 [i1, i2, i3] → Q (.ref D) { s with heap := h' }) :
    wpAny (model prog w) A (call (.builtin "sorted") [.ref l]) Q E s := sorted3L hc F N ⟨_, (N _ hm).1, rfl, _, rfl⟩ m1 m2 m3 p1 p2 p3 b1 b2 b3 h
theorem ne_same {x : Str} {t u : Tok} (h : Q (.bool false) s) : wpAny (model prog w) A (compareOp .NotEq (.str x t) (.str x u)) Q E s := PyProof.Rows.ne_str (by rw [bne_self_eq_false]; exact h)
theorem eq_same {x : Str} {t u : Tok} (h : Q (.bool true) s) : wpAny (model prog w) A (compareOp .Eq (.str x t) (.str x u)) Q E s := PyProof.Rows.eq_str (by rw [beq_self_eq_true]; exact h)
end
end Mine
open PySem PySem.W PySem.Calls PyProof.Rows
set_option maxRecDepth 100000
set_option maxHeartbeats 0
namespace Mine
theorem words_W13b : True := by
  k_with_none
  (k_with "mine bets" => ((repeat (first | rw [bet_min_yes (by omega)] | rw [bet_min_no (by omega)] | rw [pick_min_yes (by omega)] | rw [pick_min_no (by omega)] | rw [pick_max_yes (by omega)] | rw [pick_max_no (by omega)])); rfl))
  trivial

theorem lp2tt {c j0 j1 i1 i2 : Nat} {t1 t2 : Tok} (X : Ext c j0 j1 [i1, i2]) (h1 : rk c i1 = rk c j0) (h2 : rk c i2 = rk c j0) : LeastP c i1 [i2] [valAt i1 t1, valAt i2 t2] := by
  have hx := Ext.two X
  refine ⟨⟨_, congrArg some (val_eq ?_)⟩, ⟨_, congrArg some (val_eq ?_)⟩⟩ <;> walk_at "mine bets"
theorem lp2tf {c j0 j1 i1 i2 : Nat} {t1 : Tok} (X : Ext c j0 j1 [i1, i2]) (h1 : rk c i1 = rk c j0) (h2 : ¬ rk c i2 = rk c j0) : LeastP c i1 [i2] [valAt i1 t1] := by
  have hx := Ext.two X
  refine ⟨⟨_, congrArg some (val_eq ?_)⟩, ⟨_, congrArg some (val_eq ?_)⟩⟩ <;> walk_at "mine bets"
theorem lp2ft {c j0 j1 i1 i2 : Nat} {t2 : Tok} (X : Ext c j0 j1 [i1, i2]) (h1 : ¬ rk c i1 = rk c j0) (h2 : rk c i2 = rk c j0) : LeastP c i1 [i2] [valAt i2 t2] := by
  have hx := Ext.two X
  refine ⟨⟨_, congrArg some (val_eq ?_)⟩, ⟨_, congrArg some (val_eq ?_)⟩⟩ <;> walk_at "mine bets"
theorem lp2ff {c j0 j1 i1 i2 : Nat} (X : Ext c j0 j1 [i1, i2]) (h1 : ¬ rk c i1 = rk c j0) (h2 : ¬ rk c i2 = rk c j0) : LeastP c i1 [i2] [] := by
  have hx := Ext.two X
  exfalso; omega
theorem gp2tt {c j0 j1 i1 i2 : Nat} {t1 t2 : Tok} (X : Ext c j0 j1 [i1, i2]) (h1 : rk c i1 = rk c j1) (h2 : rk c i2 = rk c j1) : GreatP c i1 [i2] [valAt i1 t1, valAt i2 t2] := by
  have hx := Ext.two X
  refine ⟨_, congrArg some (val_eq ?_)⟩; walk_at "mine bets"
theorem gp2tf {c j0 j1 i1 i2 : Nat} {t1 : Tok} (X : Ext c j0 j1 [i1, i2]) (h1 : rk c i1 = rk c j1) (h2 : ¬ rk c i2 = rk c j1) : GreatP c i1 [i2] [valAt i1 t1] := by
  have hx := Ext.two X
  refine ⟨_, congrArg some (val_eq ?_)⟩; walk_at "mine bets"
theorem gp2ft {c j0 j1 i1 i2 : Nat} {t2 : Tok} (X : Ext c j0 j1 [i1, i2]) (h1 : ¬ rk c i1 = rk c j1) (h2 : rk c i2 = rk c j1) : GreatP c i1 [i2] [valAt i2 t2] := by
  have hx := Ext.two X
  refine ⟨_, congrArg some (val_eq ?_)⟩; walk_at "mine bets"
theorem gp2ff {c j0 j1 i1 i2 : Nat} (X : Ext c j0 j1 [i1, i2]) (h1 : ¬ rk c i1 = rk c j1) (h2 : ¬ rk c i2 = rk c j1) : GreatP c i1 [i2] [] := by
  have hx := Ext.two X
  exfalso; omega
theorem lp3ttt {c j0 j1 i1 i2 i3 : Nat} {t1 t2 t3 : Tok} (X : Ext c j0 j1 [i1, i2, i3]) (h1 : rk c i1 = rk c j0) (h2 : rk c i2 = rk c j0) (h3 : rk c i3 = rk c j0) : LeastP c i1 [i2, i3] [valAt i1 t1, valAt i2 t2, valAt i3 t3] := by
  have hx := Ext.three X
  refine ⟨⟨_, congrArg some (val_eq ?_)⟩, ⟨_, congrArg some (val_eq ?_)⟩⟩ <;> walk_at "mine bets"
theorem lp3ttf {c j0 j1 i1 i2 i3 : Nat} {t1 t2 : Tok} (X : Ext c j0 j1 [i1, i2, i3]) (h1 : rk c i1 = rk c j0) (h2 : rk c i2 = rk c j0) (h3 : ¬ rk c i3 = rk c j0) : LeastP c i1 [i2, i3] [valAt i1 t1, valAt i2 t2] := by
  have hx := Ext.three X
  refine ⟨⟨_, congrArg some (val_eq ?_)⟩, ⟨_, congrArg some (val_eq ?_)⟩⟩ <;> walk_at "mine bets"
theorem lp3tft {c j0 j1 i1 i2 i3 : Nat} {t1 t3 : Tok} (X : Ext c j0 j1 [i1, i2, i3]) (h1 : rk c i1 = rk c j0) (h2 : ¬ rk c i2 = rk c j0) (h3 : rk c i3 = rk c j0) : LeastP c i1 [i2, i3] [valAt i1 t1, valAt i3 t3] := by
  have hx := Ext.three X
  refine ⟨⟨_, congrArg some (val_eq ?_)⟩, ⟨_, congrArg some (val_eq ?_)⟩⟩ <;> walk_at "mine bets"
theorem lp3tff {c j0 j1 i1 i2 i3 : Nat} {t1 : Tok} (X : Ext c j0 j1 [i1, i2, i3]) (h1 : rk c i1 = rk c j0) (h2 : ¬ rk c i2 = rk c j0) (h3 : ¬ rk c i3 = rk c j0) : LeastP c i1 [i2, i3] [valAt i1 t1] := by
  have hx := Ext.three X
  refine ⟨⟨_, congrArg some (val_eq ?_)⟩, ⟨_, congrArg some (val_eq ?_)⟩⟩ <;> walk_at "mine bets"
theorem lp3ftt {c j0 j1 i1 i2 i3 : Nat} {t2 t3 : Tok} (X : Ext c j0 j1 [i1, i2, i3]) (h1 : ¬ rk c i1 = rk c j0) (h2 : rk c i2 = rk c j0) (h3 : rk c i3 = rk c j0) : LeastP c i1 [i2, i3] [valAt i2 t2, valAt i3 t3] := by
  have hx := Ext.three X
  refine ⟨⟨_, congrArg some (val_eq ?_)⟩, ⟨_, congrArg some (val_eq ?_)⟩⟩ <;> walk_at "mine bets"
theorem lp3ftf {c j0 j1 i1 i2 i3 : Nat} {t2 : Tok} (X : Ext c j0 j1 [i1, i2, i3]) (h1 : ¬ rk c i1 = rk c j0) (h2 : rk c i2 = rk c j0) (h3 : ¬ rk c i3 = rk c j0) : LeastP c i1 [i2, i3] [valAt i2 t2] := by
  have hx := Ext.three X
  refine ⟨⟨_, congrArg some (val_eq ?_)⟩, ⟨_, congrArg some (val_eq ?_)⟩⟩ <;> walk_at "mine bets"
theorem lp3fft {c j0 j1 i1 i2 i3 : Nat} {t3 : Tok} (X : Ext c j0 j1 [i1, i2, i3]) (h1 : ¬ rk c i1 = rk c j0) (h2 : ¬ rk c i2 = rk c j0) (h3 : rk c i3 = rk c j0) : LeastP c i1 [i2, i3] [valAt i3 t3] := by
  have hx := Ext.three X
  rcases Nat.lt_trichotomy (rk c i1) (rk c i2) with h9 | h9 | h9 <;> (refine ⟨⟨_, congrArg some (val_eq ?_)⟩, ⟨_, congrArg some (val_eq ?_)⟩⟩ <;> walk_at "mine bets")
theorem lp3fff {c j0 j1 i1 i2 i3 : Nat} (X : Ext c j0 j1 [i1, i2, i3]) (h1 : ¬ rk c i1 = rk c j0) (h2 : ¬ rk c i2 = rk c j0) (h3 : ¬ rk c i3 = rk c j0) : LeastP c i1 [i2, i3] [] := by
  have hx := Ext.three X
  exfalso; omega
theorem gp3ttt {c j0 j1 i1 i2 i3 : Nat} {t1 t2 t3 : Tok} (X : Ext c j0 j1 [i1, i2, i3]) (h1 : rk c i1 = rk c j1) (h2 : rk c i2 = rk c j1) (h3 : rk c i3 = rk c j1) : GreatP c i1 [i2, i3] [valAt i1 t1, valAt i2 t2, valAt i3 t3] := by
  have hx := Ext.three X
  refine ⟨_, congrArg some (val_eq ?_)⟩; walk_at "mine bets"
theorem gp3ttf {c j0 j1 i1 i2 i3 : Nat} {t1 t2 : Tok} (X : Ext c j0 j1 [i1, i2, i3]) (h1 : rk c i1 = rk c j1) (h2 : rk c i2 = rk c j1) (h3 : ¬ rk c i3 = rk c j1) : GreatP c i1 [i2, i3] [valAt i1 t1, valAt i2 t2] := by
  have hx := Ext.three X
  refine ⟨_, congrArg some (val_eq ?_)⟩; walk_at "mine bets"
theorem gp3tft {c j0 j1 i1 i2 i3 : Nat} {t1 t3 : Tok} (X : Ext c j0 j1 [i1, i2, i3]) (h1 : rk c i1 = rk c j1) (h2 : ¬ rk c i2 = rk c j1) (h3 : rk c i3 = rk c j1) : GreatP c i1 [i2, i3] [valAt i1 t1, valAt i3 t3] := by
  have hx := Ext.three X
  refine ⟨_, congrArg some (val_eq ?_)⟩; walk_at "mine bets"
theorem gp3tff {c j0 j1 i1 i2 i3 : Nat} {t1 : Tok} (X : Ext c j0 j1 [i1, i2, i3]) (h1 : rk c i1 = rk c j1) (h2 : ¬ rk c i2 = rk c j1) (h3 : ¬ rk c i3 = rk c j1) : GreatP c i1 [i2, i3] [valAt i1 t1] := by
  have hx := Ext.three X
  refine ⟨_, congrArg some (val_eq ?_)⟩; walk_at "mine bets"
theorem gp3ftt {c j0 j1 i1 i2 i3 : Nat} {t2 t3 : Tok} (X : Ext c j0 j1 [i1, i2, i3]) (h1 : ¬ rk c i1 = rk c j1) (h2 : rk c i2 = rk c j1) (h3 : rk c i3 = rk c j1) : GreatP c i1 [i2, i3] [valAt i2 t2, valAt i3 t3] := by
  have hx := Ext.three X
  refine ⟨_, congrArg some (val_eq ?_)⟩; walk_at "mine bets"
theorem gp3ftf {c j0 j1 i1 i2 i3 : Nat} {t2 : Tok} (X : Ext c j0 j1 [i1, i2, i3]) (h1 : ¬ rk c i1 = rk c j1) (h2 : rk c i2 = rk c j1) (h3 : ¬ rk c i3 = rk c j1) : GreatP c i1 [i2, i3] [valAt i2 t2] := by
  have hx := Ext.three X
  refine ⟨_, congrArg some (val_eq ?_)⟩; walk_at "mine bets"
theorem gp3fft {c j0 j1 i1 i2 i3 : Nat} {t3 : Tok} (X : Ext c j0 j1 [i1, i2, i3]) (h1 : ¬ rk c i1 = rk c j1) (h2 : ¬ rk c i2 = rk c j1) (h3 : rk c i3 = rk c j1) : GreatP c i1 [i2, i3] [valAt i3 t3] := by
  have hx := Ext.three X
  rcases Nat.lt_trichotomy (rk c i1) (rk c i2) with h9 | h9 | h9 <;> (refine ⟨_, congrArg some (val_eq ?_)⟩; walk_at "mine bets")
theorem gp3fff {c j0 j1 i1 i2 i3 : Nat} (X : Ext c j0 j1 [i1, i2, i3]) (h1 : ¬ rk c i1 = rk c j1) (h2 : ¬ rk c i2 = rk c j1) (h3 : ¬ rk c i3 = rk c j1) : GreatP c i1 [i2, i3] [] := by
  have hx := Ext.three X
  exfalso; omega
end Mine
open PySem PySem.W PySem.Calls PyProof.Rows
set_option maxRecDepth 100000
set_option maxHeartbeats 0
namespace Mine
section
variable {prog : Program} {w : World} {A : Around} {E : Value → Shared → Prop} {s : Shared} {h₀ : Heap} {L : Addr} {m : Str → Option Value} {env : Env} {news : List (Addr × Obj)} {c j : Nat}
def TurnQ (h₀ : Heap) (L : Addr) (m : Str → Option Value) (s : Shared) (news : List (Addr × Obj)) (b ok : Bool) (s' : Shared) : Prop :=
  ok = b ∧ ∃ h' tk', s' = { s with heap := h', toks := tk' } ∧ Fr h₀ L h' m ∧ News h₀ L h' news
/-- what one turn of a filtering comprehension tells -/
def TurnP (prog : Program) (w : World) (A : Around) (h₀ : Heap) (L : Addr) (m : Str → Option Value) (env : Env) (ct : PySem.Expr) (x : Str) (scope : Scope) (cl : List (Str × Addr)) (s : Shared) (news : List (Addr × Obj)) (c j : Nat) : Prop :=
  ∀ k t I oI C oC D m₂ h tk ys (E' : Value → Shared → Prop), k < 13 → LCg.NsObj oC m₂ → m₂ x = some (valAt k t) → Fr h₀ L h m → News h₀ L h ((I, oI) :: (C, oC) :: (D, LCg.lst ys) :: news) → OffA I C D news → (NeA I C ∧ NeA I D ∧ NeA C D) →
    wpAny (model prog w) A (isTrue ct (compEnvC scope cl C env) (eval ct (compEnvC scope cl C env))) (TurnQ h₀ L m s ((I, oI) :: (C, oC) :: (D, LCg.lst ys) :: news) (decide (rk c k = rk c j))) E' { s with heap := h, toks := tk }
theorem filt_turns {ct : PySem.Expr} {x : Str} {px : Pos} {scope : Scope} {cl : List (Str × Addr)} {S : List (Addr × Obj) → Prop} {Fin : List Value → List (Addr × Obj) → Prop} {its : Array Value} (vals : List (Nat × Tok))
    (hits : its.toList = vals.map (fun p => valAt p.1 p.2)) (hb : ∀ p ∈ vals, p.1 < 13) (hS : S news)
    (hk : ∀ C, (compEnvC scope cl C env).scope.kind = .function) (hl : ∀ C, (compEnvC scope cl C env).kindOf x = some .local) (hd : (x == ("__debug__" : Str)) = false)
    (turn : TurnP prog w A h₀ L m env ct x scope cl s news c j)
    (fin : Fin ((vals.filter fun p => decide (rk c p.1 = rk c j)).map fun p => valAt p.1 p.2) news) :
    LCt.CompRestT prog w A h₀ L m env ct (.Name x px) x scope cl s S (fun i v => its[i]? = some v) Fin its.size 0 [] news := by
  have key : ∀ k i ys, i + k = vals.length → Fin (ys ++ ((vals.drop i).filter fun p => decide (rk c p.1 = rk c j)).map fun p => valAt p.1 p.2) news →
      LCt.CompRestT prog w A h₀ L m env ct (.Name x px) x scope cl s S (fun i v => its[i]? = some v) Fin k i ys news := by
    intro k
    induction k with
    | zero =>
      intro i ys hi hf
      rw [Nat.add_zero] at hi
      rw [hi, List.drop_length] at hf
      simp only [List.filter_nil, List.map_nil, List.append_nil] at hf
      exact hf
    | succ k ih =>
      intro i ys hi hf
      refine LCt.CompRestT.succ ?_
      intro v I oI C oC D m₂ h tk E' hv hC hx F N off ne
      have hlt : i < vals.length := by omega
      have hv' : v = valAt (vals[i]).1 (vals[i]).2 := by
        rw [← Array.getElem?_toList, hits, List.getElem?_map, List.getElem?_eq_getElem hlt] at hv
        exact (Option.some.inj hv).symm
      rw [List.drop_eq_getElem_cons hlt] at hf
      have hbk : (vals[i]).1 < 13 := hb _ (List.getElem_mem hlt)
      rw [hv'] at hx
      refine wpAny_mono (turn _ _ I oI C oC D m₂ h tk ys E' hbk hC hx F N (OffA.of off) ⟨NeA.of ne.1, NeA.of ne.2.1, NeA.of ne.2.2⟩) (fun ok s' hq => ?_) fun _ _ e => e
      obtain ⟨hok, h', tk', rfl, F', N'⟩ := hq
      by_cases hq : rk c (vals[i]).1 = rk c j
      · rw [decide_eq_true hq] at hok
        subst hok
        rw [if_pos rfl]
        rw [List.filter_cons_of_pos (by exact decide_eq_true hq), List.map_cons] at hf
        refine LCgL.ld_own N' (List.mem_cons_of_mem _ (List.mem_cons_self)) hC hx ?_ (hk C) (hl C) hd
        refine ⟨h', tk', news, rfl, F', N', off, hS, ih (i + 1) (ys ++ [valAt (vals[i]).1 (vals[i]).2]) (by omega) ?_⟩
        rw [List.append_assoc]
        exact hf
      · rw [decide_eq_false hq] at hok
        subst hok
        rw [if_neg (by decide)]
        rw [List.filter_cons_of_neg (by rw [decide_eq_false hq]; decide)] at hf
        exact ⟨h', tk', news, rfl, F', N', off, hS, ih (i + 1) ys (by omega) hf⟩
  have hsz : its.size = vals.length := by rw [← Array.length_toList, hits, List.length_map]
  rw [hsz]
  exact key _ 0 [] (Nat.zero_add _) (by simpa using fin)
theorem filt2 {ct : PySem.Expr} {x : Str} {px : Pos} {scope : Scope} {cl : List (Str × Addr)} {S : List (Addr × Obj) → Prop} {Fin : List Value → List (Addr × Obj) → Prop} {i1 i2 : Nat} {t1 t2 : Tok} (b1 : i1 < 13) (b2 : i2 < 13) (hS : S news)
    (hk : ∀ C, (compEnvC scope cl C env).scope.kind = .function) (hl : ∀ C, (compEnvC scope cl C env).kindOf x = some .local) (hd : (x == ("__debug__" : Str)) = false)
    (turn : TurnP prog w A h₀ L m env ct x scope cl s news c j)
    (fin : Fin (([(i1, t1), (i2, t2)].filter fun p => decide (rk c p.1 = rk c j)).map fun p => valAt p.1 p.2) news) :
    LCt.CompRestT prog w A h₀ L m env ct (.Name x px) x scope cl s S (fun i v => ([valAt i1 t1, valAt i2 t2].toArray)[i]? = some v) Fin ([valAt i1 t1, valAt i2 t2].toArray).size 0 [] news :=
  filt_turns [(i1, t1), (i2, t2)] rfl (fun p hp => by simp only [List.mem_cons, List.not_mem_nil, or_false] at hp; rcases hp with rfl | rfl <;> assumption) hS hk hl hd turn fin
theorem filt3 {ct : PySem.Expr} {x : Str} {px : Pos} {scope : Scope} {cl : List (Str × Addr)} {S : List (Addr × Obj) → Prop} {Fin : List Value → List (Addr × Obj) → Prop} {i1 i2 i3 : Nat} {t1 t2 t3 : Tok} (b1 : i1 < 13) (b2 : i2 < 13) (b3 : i3 < 13) (hS : S news)
    (hk : ∀ C, (compEnvC scope cl C env).scope.kind = .function) (hl : ∀ C, (compEnvC scope cl C env).kindOf x = some .local) (hd : (x == ("__debug__" : Str)) = false)
    (turn : TurnP prog w A h₀ L m env ct x scope cl s news c j)
    (fin : Fin (([(i1, t1), (i2, t2), (i3, t3)].filter fun p => decide (rk c p.1 = rk c j)).map fun p => valAt p.1 p.2) news) :
    LCt.CompRestT prog w A h₀ L m env ct (.Name x px) x scope cl s S (fun i v => ([valAt i1 t1, valAt i2 t2, valAt i3 t3].toArray)[i]? = some v) Fin ([valAt i1 t1, valAt i2 t2, valAt i3 t3].toArray).size 0 [] news :=
  filt_turns [(i1, t1), (i2, t2), (i3, t3)] rfl (fun p hp => by simp only [List.mem_cons, List.not_mem_nil, or_false] at hp; rcases hp with rfl | rfl | rfl <;> assumption) hS hk hl hd turn fin
theorem back_fin {g : Heap} {y : Str} {P : List Value → Prop} {ys : List Value} (hP : P ys) : LCg.FinA h₀ L m { s with heap := g } y (ListBack h₀ L m y news s P) ys news :=
  fun D h tk F N off => ⟨rfl, D, ys, h, tk, rfl, F, N, Off1A.of off, hP⟩
end
theorem least2 {c j0 j1 i1 i2 : Nat} {t1 t2 : Tok} (X : Ext c j0 j1 [i1, i2]) : LeastP c i1 [i2] (([(i1, t1), (i2, t2)].filter fun p => decide (rk c p.1 = rk c j0)).map fun p => valAt p.1 p.2) := by
  by_cases h1 : rk c i1 = rk c j0 <;> by_cases h2 : rk c i2 = rk c j0 <;> simp only [List.filter, h1, h2, decide_true, decide_false, List.map_cons, List.map_nil]
  · exact lp2tt X h1 h2
  · exact lp2tf X h1 h2
  · exact lp2ft X h1 h2
  · exact lp2ff X h1 h2
theorem great2 {c j0 j1 i1 i2 : Nat} {t1 t2 : Tok} (X : Ext c j0 j1 [i1, i2]) : GreatP c i1 [i2] (([(i1, t1), (i2, t2)].filter fun p => decide (rk c p.1 = rk c j1)).map fun p => valAt p.1 p.2) := by
  by_cases h1 : rk c i1 = rk c j1 <;> by_cases h2 : rk c i2 = rk c j1 <;> simp only [List.filter, h1, h2, decide_true, decide_false, List.map_cons, List.map_nil]
  · exact gp2tt X h1 h2
  · exact gp2tf X h1 h2
  · exact gp2ft X h1 h2
  · exact gp2ff X h1 h2
theorem least3 {c j0 j1 i1 i2 i3 : Nat} {t1 t2 t3 : Tok} (X : Ext c j0 j1 [i1, i2, i3]) : LeastP c i1 [i2, i3] (([(i1, t1), (i2, t2), (i3, t3)].filter fun p => decide (rk c p.1 = rk c j0)).map fun p => valAt p.1 p.2) := by
  by_cases h1 : rk c i1 = rk c j0 <;> by_cases h2 : rk c i2 = rk c j0 <;> by_cases h3 : rk c i3 = rk c j0 <;> simp only [List.filter, h1, h2, h3, decide_true, decide_false, List.map_cons, List.map_nil]
  · exact lp3ttt X h1 h2 h3
  · exact lp3ttf X h1 h2 h3
  · exact lp3tft X h1 h2 h3
  · exact lp3tff X h1 h2 h3
  · exact lp3ftt X h1 h2 h3
  · exact lp3ftf X h1 h2 h3
  · exact lp3fft X h1 h2 h3
  · exact lp3fff X h1 h2 h3
theorem great3 {c j0 j1 i1 i2 i3 : Nat} {t1 t2 t3 : Tok} (X : Ext c j0 j1 [i1, i2, i3]) : GreatP c i1 [i2, i3] (([(i1, t1), (i2, t2), (i3, t3)].filter fun p => decide (rk c p.1 = rk c j1)).map fun p => valAt p.1 p.2) := by
  by_cases h1 : rk c i1 = rk c j1 <;> by_cases h2 : rk c i2 = rk c j1 <;> by_cases h3 : rk c i3 = rk c j1 <;> simp only [List.filter, h1, h2, h3, decide_true, decide_false, List.map_cons, List.map_nil]
  · exact gp3ttt X h1 h2 h3
  · exact gp3ttf X h1 h2 h3
  · exact gp3tft X h1 h2 h3
  · exact gp3tff X h1 h2 h3
  · exact gp3ftt X h1 h2 h3
  · exact gp3ftf X h1 h2 h3
  · exact gp3fft X h1 h2 h3
  · exact gp3fff X h1 h2 h3
end Mine
open PySem PySem.W PySem.Calls PyProof.Rows
set_option maxRecDepth 100000
set_option maxHeartbeats 0
namespace Mine
/-- two values, or three -/
abbrev IT := List (Nat × Tok)
def vts (r : IT) : List Value := r.map fun p => valAt p.1 p.2
abbrev idx (r : IT) : List Nat := r.map Prod.fst
abbrev vals (i1 : Nat) (t1 : Tok) (i2 : Nat) (t2 : Tok) (r : IT) : List Value := valAt i1 t1 :: valAt i2 t2 :: vts r
theorem few {r : IT} (h : r.length ≤ 1) : r = [] ∨ ∃ i t, r = [(i, t)] := by
  match r, h with
  | [], _ => exact .inl rfl
  | [(i, t)], _ => exact .inr ⟨i, t, rfl⟩
theorem vsize {i1 i2 : Nat} {t1 t2 : Tok} {r : IT} (h : r.length ≤ 1) : (vals i1 t1 i2 t2 r).toArray.size ≤ sizeLine := by
  refine Nat.le_trans (m := 3) ?_ (by decide)
  rw [List.size_toArray]
  show (vts r).length + 1 + 1 ≤ 3
  rw [vts, List.length_map]
  omega
section
variable {w : World} {p : Program} {loose : List Str} {mean : ExcName → Option Value} {mg mb : Str → Option Value}
theorem cfx (c i1 i2 : Nat) (r : IT) (hr : r.length ≤ 1) (hc : c < 4) (h1 : i1 < 13) (h2 : i2 < 13) (h3 : ∀ p ∈ r, p.1 < 13) (l : Addr) (n : Nat) (t1 t2 ts tc : Tok) :
    CallTo w p loose mean mg mb 346 [.str "max" ts, .ref l, .str (colAt c) tc, .none] 5 [(l, lstO (vals i1 t1 i2 t2 r) n)] (fun v nw => (∃ t, v = valAt (pick (1) c i1 (i2 :: idx r)) t) ∧ ∀ q ∈ [(l, lstO (vals i1 t1 i2 t2 r) n)], q ∈ nw) := by
  rcases few hr with rfl | ⟨i3, t3, rfl⟩
  · exact cf2x c i1 i2 hc h1 h2 l n t1 t2 ts tc
  · exact cf3x c i1 i2 i3 hc h1 h2 (h3 _ (.head _)) l n t1 t2 t3 ts tc
theorem cfn (c i1 i2 : Nat) (r : IT) (hr : r.length ≤ 1) (hc : c < 4) (h1 : i1 < 13) (h2 : i2 < 13) (h3 : ∀ p ∈ r, p.1 < 13) (l : Addr) (n : Nat) (t1 t2 ts tc : Tok) :
    CallTo w p loose mean mg mb 346 [.str "Min" ts, .ref l, .str (colAt c) tc, .none] 5 [(l, lstO (vals i1 t1 i2 t2 r) n)] (fun v nw => (∃ t, v = valAt (pick (-1) c i1 (i2 :: idx r)) t) ∧ ∀ q ∈ [(l, lstO (vals i1 t1 i2 t2 r) n)], q ∈ nw) := by
  rcases few hr with rfl | ⟨i3, t3, rfl⟩
  · exact cf2n c i1 i2 hc h1 h2 l n t1 t2 ts tc
  · exact cf3n c i1 i2 i3 hc h1 h2 (h3 _ (.head _)) l n t1 t2 t3 ts tc
theorem gax (c i1 i2 : Nat) (r : IT) (hr : r.length ≤ 1) (hc : c < 4) (h1 : i1 < 13) (h2 : i2 < 13) (h3 : ∀ p ∈ r, p.1 < 13) (l : Addr) (n : Nat) (t1 t2 ts tc : Tok) :
    CallTo w p loose mean mg mb 435 [.str "max" ts, .ref l, .str (colAt c) tc] 7 [(l, lstO (vals i1 t1 i2 t2 r) n)] (fun v nw => (∃ t, v = valAt (bet (1) c i1 (i2 :: idx r)) t) ∧ ∀ q ∈ [(l, lstO (vals i1 t1 i2 t2 r) n)], q ∈ nw) := by
  rcases few hr with rfl | ⟨i3, t3, rfl⟩
  · exact ga2x c i1 i2 hc h1 h2 l n t1 t2 ts tc
  · exact ga3x c i1 i2 i3 hc h1 h2 (h3 _ (.head _)) l n t1 t2 t3 ts tc
theorem gan (c i1 i2 : Nat) (r : IT) (hr : r.length ≤ 1) (hc : c < 4) (h1 : i1 < 13) (h2 : i2 < 13) (h3 : ∀ p ∈ r, p.1 < 13) (l : Addr) (n : Nat) (t1 t2 ts tc : Tok) :
    CallTo w p loose mean mg mb 435 [.str "min" ts, .ref l, .str (colAt c) tc] 7 [(l, lstO (vals i1 t1 i2 t2 r) n)] (fun v nw => (∃ t, v = valAt (bet (-1) c i1 (i2 :: idx r)) t) ∧ ∀ q ∈ [(l, lstO (vals i1 t1 i2 t2 r) n)], q ∈ nw) := by
  rcases few hr with rfl | ⟨i3, t3, rfl⟩
  · exact ga2n c i1 i2 hc h1 h2 l n t1 t2 ts tc
  · exact ga3n c i1 i2 i3 hc h1 h2 (h3 _ (.head _)) l n t1 t2 t3 ts tc
end
section
variable {prog : Program} {w : World} {A : Around} {E : Value → Shared → Prop} {s : Shared} {h₀ : Heap} {L l : Addr} {m : Str → Option Value} {news rest all : List (Addr × Obj)} {c j i1 i2 : Nat} {t1 t2 : Tok} {r : IT}
/-- the statement of the values -/
def ValsBack (h₀ : Heap) (L : Addr) (m : Str → Option Value) (rest : List (Addr × Obj)) (s : Shared) (fl : Flow) (s' : Shared) : Prop :=
  fl = .next ∧ ∃ D i1 t1 i2 t2 r h' tk', s' = { s with heap := h', toks := tk' } ∧ Fr h₀ L h' (fun z => if z = Str.ofString "values" then some (.ref D) else m z) ∧ News h₀ L h' ((D, LCg.lst (vals i1 t1 i2 t2 r)) :: rest) ∧ Off1A D rest ∧ i1 < 13 ∧ i2 < 13 ∧ (∀ p ∈ r, p.1 < 13) ∧ r.length ≤ 1
theorem vb2 {D : Addr} {h' : Heap} {tk' : Nat} (F : Fr h₀ L h' (fun z => if z = Str.ofString "values" then some (.ref D) else m z)) (N : News h₀ L h' ((D, LCg.lst [valAt i1 t1, valAt i2 t2]) :: rest)) (o : Off1A D rest) (b1 : i1 < 13) (b2 : i2 < 13) :
    ValsBack h₀ L m rest s .next { s with heap := h', toks := tk' } := ⟨rfl, D, i1, t1, i2, t2, [], h', tk', rfl, F, N, o, b1, b2, (fun _ h => nomatch h), by decide⟩
theorem vb3 {i3 : Nat} {t3 : Tok} {D : Addr} {h' : Heap} {tk' : Nat} (F : Fr h₀ L h' (fun z => if z = Str.ofString "values" then some (.ref D) else m z)) (N : News h₀ L h' ((D, LCg.lst [valAt i1 t1, valAt i2 t2, valAt i3 t3]) :: rest)) (o : Off1A D rest) (b1 : i1 < 13) (b2 : i2 < 13) (b3 : i3 < 13) :
    ValsBack h₀ L m rest s .next { s with heap := h', toks := tk' } := ⟨rfl, D, i1, t1, i2, t2, [(i3, t3)], h', tk', rfl, F, N, o, b1, b2, (fun p h => by simp only [List.mem_cons, List.not_mem_nil, or_false] at h; rw [h]; exact b3), Nat.le_refl 1⟩
theorem vals_cut {M : Model} {cm : Sem Flow} {Q : Flow → Shared → Prop} {a b : Addr × Obj} (_F : Fr h₀ L s.heap m) (_N : News h₀ L s.heap (a :: b :: rest)) (ha : wpAny M A cm (ValsBack h₀ L m rest s) E s)
    (h : ∀ D i1 t1 i2 t2 r h' tk', Fr h₀ L h' (fun z => if z = Str.ofString "values" then some (.ref D) else m z) → News h₀ L h' ((D, LCg.lst (vals i1 t1 i2 t2 r)) :: rest) → Off1A D rest → i1 < 13 → i2 < 13 → (∀ p ∈ r, p.1 < 13) → r.length ≤ 1 → Q .next { s with heap := h', toks := tk' }) : wpAny M A cm Q E s :=
  wpAny_mono ha (fun fl s' ⟨e0, D, i1, t1, i2, t2, r, h', tk', e, F, N, o, b1, b2, b3, hr⟩ => by subst e0; subst e; exact h D i1 t1 i2 t2 r h' tk' F N o b1 b2 b3 hr) fun _ _ e => e
/-- the sorted places -/
abbrev LO (its : List Value) (k : Nat) : Obj := { cls := .type "list", data := .seq its.toArray k }
structure Ends (c j0 j1 : Nat) (e0 e1 : Addr) (x0 x1 : Obj) (its : List Value) : Prop where
  at0 : its[0]? = some (.ref e0)
  at1 : its[its.length - 1]? = some (.ref e1)
  pos : 0 < its.length
  p0 : Pl c j0 x0
  p1 : Pl c j1 x1
def PlacesBack (h₀ : Heap) (L : Addr) (m : Str → Option Value) (rest : List (Addr × Obj)) (s : Shared) (c : Nat) (is : List Nat) (v : Value) (s' : Shared) : Prop :=
  ∃ D e0 x0 j0 e1 x1 j1 its k h' tk', v = .ref D ∧ s' = { s with heap := h', toks := tk' } ∧ Fr h₀ L h' m ∧ News h₀ L h' ((D, LO its k) :: (e0, x0) :: (e1, x1) :: rest) ∧ (Off1A D rest ∧ Off1A e0 rest ∧ Off1A e1 rest) ∧ Ends c j0 j1 e0 e1 x0 x1 its ∧ j0 < 13 ∧ j1 < 13 ∧ Ext c j0 j1 is
theorem off2 {e0 d1 d2 : Addr} {x0 o1 o2 : Obj} (h0 : (e0, x0) ∈ [(d1, o1), (d2, o2)]) (a1 : Off1A d1 rest) (a2 : Off1A d2 rest) : Off1A e0 rest := by
  simp only [List.mem_cons, List.not_mem_nil, or_false, Prod.mk.injEq] at h0
  rcases h0 with ⟨rfl, _⟩ | ⟨rfl, _⟩ <;> assumption
theorem off3 {e0 d1 d2 d3 : Addr} {x0 o1 o2 o3 : Obj} (h0 : (e0, x0) ∈ [(d1, o1), (d2, o2), (d3, o3)]) (a1 : Off1A d1 rest) (a2 : Off1A d2 rest) (a3 : Off1A d3 rest) : Off1A e0 rest := by
  simp only [List.mem_cons, List.not_mem_nil, or_false, Prod.mk.injEq] at h0
  rcases h0 with ⟨rfl, _⟩ | ⟨rfl, _⟩ | ⟨rfl, _⟩ <;> assumption
theorem pb2 {D d1 d2 e0 e1 : Addr} {o1 o2 x0 x1 : Obj} {j0 j1 k : Nat} {is : List Nat} {h' : Heap} {tk' : Nat} (F : Fr h₀ L h' m) (N : News h₀ L h' all) (hD : (D, W.listOf [.ref e0, .ref e1].toArray k) ∈ all) (h0 : (e0, x0) ∈ [(d1, o1), (d2, o2)]) (h1 : (e1, x1) ∈ [(d1, o1), (d2, o2)]) (hs : ∀ q ∈ [(d1, o1), (d2, o2)], q ∈ all) (hr : ∀ q ∈ rest, q ∈ all) (o : Off1A D rest) (a1 : Off1A d1 rest) (a2 : Off1A d2 rest)
    (p0 : Pl c j0 x0) (p1 : Pl c j1 x1) (b0 : j0 < 13) (b1 : j1 < 13) (X : Ext c j0 j1 is) : PlacesBack h₀ L m rest s c is (.ref D) { s with heap := h', toks := tk' } :=
  ⟨D, e0, x0, j0, e1, x1, j1, [.ref e0, .ref e1], k, h', tk', rfl, rfl, F, fun q hq => by
    rcases List.mem_cons.mp hq with rfl | hq
    · exact N _ hD
    rcases List.mem_cons.mp hq with rfl | hq
    · exact N _ (hs _ h0)
    rcases List.mem_cons.mp hq with rfl | hq
    · exact N _ (hs _ h1)
    · exact N _ (hr _ hq), ⟨o, off2 h0 a1 a2, off2 h1 a1 a2⟩, ⟨rfl, rfl, Nat.succ_pos _, p0, p1⟩, b0, b1, X⟩
theorem pb3 {D d1 d2 d3 e0 em e1 : Addr} {o1 o2 o3 x0 x1 : Obj} {j0 j1 k : Nat} {is : List Nat} {h' : Heap} {tk' : Nat} (F : Fr h₀ L h' m) (N : News h₀ L h' all) (hD : (D, W.listOf [.ref e0, .ref em, .ref e1].toArray k) ∈ all) (h0 : (e0, x0) ∈ [(d1, o1), (d2, o2), (d3, o3)]) (h1 : (e1, x1) ∈ [(d1, o1), (d2, o2), (d3, o3)]) (hs : ∀ q ∈ [(d1, o1), (d2, o2), (d3, o3)], q ∈ all) (hr : ∀ q ∈ rest, q ∈ all) (o : Off1A D rest) (a1 : Off1A d1 rest) (a2 : Off1A d2 rest) (a3 : Off1A d3 rest)
    (p0 : Pl c j0 x0) (p1 : Pl c j1 x1) (b0 : j0 < 13) (b1 : j1 < 13) (X : Ext c j0 j1 is) : PlacesBack h₀ L m rest s c is (.ref D) { s with heap := h', toks := tk' } :=
  ⟨D, e0, x0, j0, e1, x1, j1, [.ref e0, .ref em, .ref e1], k, h', tk', rfl, rfl, F, fun q hq => by
    rcases List.mem_cons.mp hq with rfl | hq
    · exact N _ hD
    rcases List.mem_cons.mp hq with rfl | hq
    · exact N _ (hs _ h0)
    rcases List.mem_cons.mp hq with rfl | hq
    · exact N _ (hs _ h1)
    · exact N _ (hr _ hq), ⟨o, off3 h0 a1 a2 a3, off3 h1 a1 a2 a3⟩, ⟨rfl, rfl, Nat.succ_pos _, p0, p1⟩, b0, b1, X⟩
theorem places_cut {M : Model} {cm : Sem Value} {Q : Value → Shared → Prop} {Dv : Addr} (F : Fr h₀ L s.heap m) (N : News h₀ L s.heap ((Dv, LCg.lst (vals i1 t1 i2 t2 r)) :: rest)) (hr : r.length ≤ 1) (hc : c < 4) (b3 : ∀ p ∈ r, p.1 < 13)
    (ha2 : News h₀ L s.heap ((Dv, LCg.lst [valAt i1 t1, valAt i2 t2]) :: rest) → wpAny M A cm (PlacesBack h₀ L m ((Dv, LCg.lst [valAt i1 t1, valAt i2 t2]) :: rest) s c [i1, i2]) E s)
    (ha3 : ∀ i3 t3, i3 < 13 → News h₀ L s.heap ((Dv, LCg.lst [valAt i1 t1, valAt i2 t2, valAt i3 t3]) :: rest) → wpAny M A cm (PlacesBack h₀ L m ((Dv, LCg.lst [valAt i1 t1, valAt i2 t2, valAt i3 t3]) :: rest) s c [i1, i2, i3]) E s)
    (h : ∀ D e0 x0 j0 e1 x1 j1 its k h' tk', Fr h₀ L h' m → News h₀ L h' ((D, LO its k) :: (e0, x0) :: (e1, x1) :: (Dv, LCg.lst (vals i1 t1 i2 t2 r)) :: rest) → (NeA Dv D ∧ Off1A D rest) ∧ (NeA Dv e0 ∧ Off1A e0 rest) ∧ (NeA Dv e1 ∧ Off1A e1 rest) → Ends c j0 j1 e0 e1 x0 x1 its → j0 < 13 → j1 < 13 → Ext c j0 j1 (i1 :: i2 :: idx r) → Q (.ref D) { s with heap := h', toks := tk' }) : wpAny M A cm Q E s := by
  rcases few hr with rfl | ⟨i3, t3, rfl⟩
  · exact wpAny_mono (ha2 N) (fun v s' ⟨D, e0, x0, j0, e1, x1, j1, its, k, h', tk', e, e', F, N, o, en, b0, b1, X⟩ => by subst e; subst e'; exact h D e0 x0 j0 e1 x1 j1 its k h' tk' F N o en b0 b1 X) fun _ _ e => e
  · exact wpAny_mono (ha3 i3 t3 (b3 _ (.head _)) N) (fun v s' ⟨D, e0, x0, j0, e1, x1, j1, its, k, h', tk', e, e', F, N, o, en, b0, b1, X⟩ => by subst e; subst e'; exact h D e0 x0 j0 e1 x1 j1 its k h' tk' F N o en b0 b1 X) fun _ _ e => e
variable {e0 e1 : Addr} {x0 x1 : Obj} {its : List Value} {j0 j1 k : Nat} {value slice : PySem.Expr} {u : Tok} {Q : Value → Shared → Prop}
theorem item_p0 (N : News h₀ L s.heap news) (hm : (l, LO its k) ∈ news) (he : Ends c j0 j1 e0 e1 x0 x1 its) (h : Q (.ref e0) s)
    (hs : subscripted slice false (.ref l) (.int 0 u) = operate [.ref l, .int 0 u] (getItem (.ref l) (.int 0 u)) := by with_unfolding_all rfl) : wpAny (model prog w) A (subscriptTail value slice (.ref l) (.int 0 u)) Q E s :=
  lst_item N hm (by decide) (by decide) he.at0 h hs
theorem item_p1 (N : News h₀ L s.heap news) (hm : (l, LO its k) ∈ news) (he : Ends c j0 j1 e0 e1 x0 x1 its) (h : Q (.ref e1) s)
    (hs : subscripted slice false (.ref l) (.int (-1) u) = operate [.ref l, .int (-1) u] (getItem (.ref l) (.int (-1) u)) := by with_unfolding_all rfl) : wpAny (model prog w) A (subscriptTail value slice (.ref l) (.int (-1) u)) Q E s := by
  have hL : s.heap.IsList l its.toArray := ⟨_, (N _ hm).1, rfl, _, rfl⟩
  have hp := he.pos
  refine tail_any hL.typeIs slot_list_getitem.lookup (wpAny_getItem_list_neg hL (by decide) (by rw [List.size_toArray]; omega) (by decide) ?_ h) hs
  rw [show ((-1 : Int) + (its.toArray.size : Int)).toNat = its.length - 1 by rw [List.size_toArray]; omega]
  simpa using he.at1
theorem item_v0 (N : News h₀ L s.heap news) (hm : (l, LCg.lst (vals i1 t1 i2 t2 r)) ∈ news) (h : Q (valAt i1 t1) s)
    (hs : subscripted slice false (.ref l) (.int 0 u) = operate [.ref l, .int 0 u] (getItem (.ref l) (.int 0 u)) := by with_unfolding_all rfl) : wpAny (model prog w) A (subscriptTail value slice (.ref l) (.int 0 u)) Q E s :=
  lst_item N hm (by decide) (by decide) rfl h hs
theorem item_v1 (N : News h₀ L s.heap news) (hm : (l, LCg.lst (vals i1 t1 i2 t2 r)) ∈ news) (h : Q (valAt i2 t2) s)
    (hs : subscripted slice false (.ref l) (.int 1 u) = operate [.ref l, .int 1 u] (getItem (.ref l) (.int 1 u)) := by with_unfolding_all rfl) : wpAny (model prog w) A (subscriptTail value slice (.ref l) (.int 1 u)) Q E s :=
  lst_item N hm (by decide) (by decide) rfl h hs
theorem list_v {news : List (Addr × Obj)} {s : Shared} {h₀ : Heap} {L l : Addr} {i1 i2 : Nat} {t1 t2 : Tok} {r : IT} (N : News h₀ L s.heap news) (hm : (l, LCg.lst (vals i1 t1 i2 t2 r)) ∈ news) : s.heap.IsList l (vals i1 t1 i2 t2 r).toArray := ⟨_, (N _ hm).1, rfl, _, rfl⟩
theorem pick_two {a b : Value} {r : List Value} : kms_pick (a :: b :: r).toArray.toList none (some 2) = [a, b] := by
  show ((a :: b :: r).drop (kms_lo none (a :: b :: r).length)).take (kms_hi (some 2) (a :: b :: r).length - kms_lo none (a :: b :: r).length) = [a, b]
  have h0 : kms_lo none (a :: b :: r).length = 0 := by unfold kms_lo; simp
  have h1 : kms_hi (some 2) (a :: b :: r).length = 2 := by
    unfold kms_hi
    simp only [Option.getD_some, List.length_cons]
    split <;> omega
  rw [h0, h1]
  rfl
theorem filtN {env : Env} {ct : PySem.Expr} {x : Str} {px : Pos} {scope : Scope} {cl : List (Str × Addr)} {S : List (Addr × Obj) → Prop} {Fin : List Value → List (Addr × Obj) → Prop} (b1 : i1 < 13) (b2 : i2 < 13) (b3 : ∀ p ∈ r, p.1 < 13) (hS : S news)
    (hk : ∀ C, (compEnvC scope cl C env).scope.kind = .function) (hl : ∀ C, (compEnvC scope cl C env).kindOf x = some .local) (hd : (x == ("__debug__" : Str)) = false)
    (turn : TurnP prog w A h₀ L m env ct x scope cl s news c j)
    (fin : Fin ((((i1, t1) :: (i2, t2) :: r).filter fun p => decide (rk c p.1 = rk c j)).map fun p => valAt p.1 p.2) news) :
    LCt.CompRestT prog w A h₀ L m env ct (.Name x px) x scope cl s S (fun i v => ((vals i1 t1 i2 t2 r).toArray)[i]? = some v) Fin ((vals i1 t1 i2 t2 r).toArray).size 0 [] news :=
  filt_turns ((i1, t1) :: (i2, t2) :: r) rfl (fun p hp => by
    rcases List.mem_cons.mp hp with rfl | hp
    · exact b1
    rcases List.mem_cons.mp hp with rfl | hp
    · exact b2
    · exact b3 p hp) hS hk hl hd turn fin
end
theorem leastN {c j0 j1 i1 i2 : Nat} {t1 t2 : Tok} {r : IT} (hr : r.length ≤ 1) (X : Ext c j0 j1 (i1 :: i2 :: idx r)) : LeastP c i1 (i2 :: idx r) ((((i1, t1) :: (i2, t2) :: r).filter fun p => decide (rk c p.1 = rk c j0)).map fun p => valAt p.1 p.2) := by
  rcases few hr with rfl | ⟨i3, t3, rfl⟩
  · exact least2 X
  · exact least3 X
theorem greatN {c j0 j1 i1 i2 : Nat} {t1 t2 : Tok} {r : IT} (hr : r.length ≤ 1) (X : Ext c j0 j1 (i1 :: i2 :: idx r)) : GreatP c i1 (i2 :: idx r) ((((i1, t1) :: (i2, t2) :: r).filter fun p => decide (rk c p.1 = rk c j1)).map fun p => valAt p.1 p.2) := by
  rcases few hr with rfl | ⟨i3, t3, rfl⟩
  · exact great2 X
  · exact great3 X
theorem idx_lt {r : IT} {i2 : Nat} (h2 : i2 < 13) (h : ∀ p ∈ r, p.1 < 13) : ∀ i ∈ i2 :: idx r, i < 13 := by
  intro i hi
  rcases List.mem_cons.mp hi with rfl | hi
  · exact h2
  · obtain ⟨p, hp, rfl⟩ := List.mem_map.mp hi
    exact h p hp
end Mine
open PySem PySem.W PySem.Calls PyProof.Rows
set_option maxRecDepth 100000
set_option maxHeartbeats 0
namespace Mine
theorem use1A {w : World} {p : Program} {loose : List Str} {mean : ExcName → Option Value} {mg mb : Str → Option Value} {f : Addr} {vs : List Value} {d : Nat} {news : List (Addr × Obj)} {R : Obj → Prop} {dp un : Nat} {gd : Option (List Code)} {cn : Str} {cs : Scope} {a : Addr} {ccd : Value} {cl : List (Str × Addr)} {outer : List Env} {A₀ : Around} {base h₀ : Heap} {L : Addr} {m : Str → Option Value} {s : Shared} {Q E : Value → Shared → Prop} {S : Prop}
    (C : S → CallTo w p loose mean mg mb f vs d [] (fun v nw => ∃ D o, v = .ref D ∧ R o ∧ (D, o) ∈ nw)) (ret : ∀ D o h' tk', R o → Fr h₀ L h' m → News h₀ L h' ((D, o) :: news) → AllNeA D news → Q (.ref D) { s with heap := h', toks := tk' })
    (B : Below A₀ base outer h₀ := by k_asm) (F : Fr h₀ L s.heap m := by k_asm) (X : (Mine.K w.params).In h₀ := by k_asm) (N : News h₀ L s.heap news := by k_asm) (T : Top p loose mean mg mb h₀ := by k_asm) (hk : cs.kind = .function := by first | exact rfl | assumption) (hd : dp + d < recursionLimit := by ktr_room) (hu : un + 8 * d < cLine := by ktr_units) (c : S := by (repeat' apply And.intro) <;> first | assumption | (split <;> assumption) | omega | decide) :
    wpAny (model PySem.Challenge.rw_nt0118_01.row.prog w) (ktrTop dp un gd cn cs L a ccd cl outer) (call (.ref f) vs) Q E s := CallTo.use1N (C c) B F X N T hk hd hu ret
section
variable {w : World} {p : Program} {loose : List Str} {mean : ExcName → Option Value} {mg mb : Str → Option Value}
theorem cfxA (c i1 i2 : Nat) (r : IT) (l : Addr) (n : Nat) (t1 t2 ts tc : Tok) (H : r.length ≤ 1 ∧ c < 4 ∧ i1 < 13 ∧ i2 < 13 ∧ ∀ p ∈ r, p.1 < 13) :
    CallTo w p loose mean mg mb 346 [.str "max" ts, .ref l, .str (colAt c) tc, .none] 5 [(l, lstO (vals i1 t1 i2 t2 r) n)] (fun v nw => (∃ t, v = valAt (pick (1) c i1 (i2 :: idx r)) t) ∧ ∀ q ∈ [(l, lstO (vals i1 t1 i2 t2 r) n)], q ∈ nw) :=
  cfx c i1 i2 r H.1 H.2.1 H.2.2.1 H.2.2.2.1 H.2.2.2.2 l n t1 t2 ts tc
theorem cfnA (c i1 i2 : Nat) (r : IT) (l : Addr) (n : Nat) (t1 t2 ts tc : Tok) (H : r.length ≤ 1 ∧ c < 4 ∧ i1 < 13 ∧ i2 < 13 ∧ ∀ p ∈ r, p.1 < 13) :
    CallTo w p loose mean mg mb 346 [.str "Min" ts, .ref l, .str (colAt c) tc, .none] 5 [(l, lstO (vals i1 t1 i2 t2 r) n)] (fun v nw => (∃ t, v = valAt (pick (-1) c i1 (i2 :: idx r)) t) ∧ ∀ q ∈ [(l, lstO (vals i1 t1 i2 t2 r) n)], q ∈ nw) :=
  cfn c i1 i2 r H.1 H.2.1 H.2.2.1 H.2.2.2.1 H.2.2.2.2 l n t1 t2 ts tc
theorem gaxA (c i1 i2 : Nat) (r : IT) (l : Addr) (n : Nat) (t1 t2 ts tc : Tok) (H : r.length ≤ 1 ∧ c < 4 ∧ i1 < 13 ∧ i2 < 13 ∧ ∀ p ∈ r, p.1 < 13) :
    CallTo w p loose mean mg mb 435 [.str "max" ts, .ref l, .str (colAt c) tc] 7 [(l, lstO (vals i1 t1 i2 t2 r) n)] (fun v nw => (∃ t, v = valAt (pick 1 c i1 (i2 :: idx r)) t) ∧ ∀ q ∈ [(l, lstO (vals i1 t1 i2 t2 r) n)], q ∈ nw) := by
  rw [← bet_max]; exact gax c i1 i2 r H.1 H.2.1 H.2.2.1 H.2.2.2.1 H.2.2.2.2 l n t1 t2 ts tc
theorem ganA (c i1 i2 : Nat) (r : IT) (l : Addr) (n : Nat) (t1 t2 ts tc : Tok) (H : r.length ≤ 1 ∧ c < 4 ∧ i1 < 13 ∧ i2 < 13 ∧ ∀ p ∈ r, p.1 < 13) :
    CallTo w p loose mean mg mb 435 [.str "min" ts, .ref l, .str (colAt c) tc] 7 [(l, lstO (vals i1 t1 i2 t2 r) n)] (fun v nw => (∃ t, v = valAt (bet (-1) c i1 (i2 :: idx r)) t) ∧ ∀ q ∈ [(l, lstO (vals i1 t1 i2 t2 r) n)], q ∈ nw) := 
  gan c i1 i2 r H.1 H.2.1 H.2.2.1 H.2.2.2.1 H.2.2.2.2 l n t1 t2 ts tc
theorem nulA (c i1 i2 : Nat) (l : Addr) (n : Nat) (t1 t2 ts tc : Tok) (H : c < 4 ∧ i1 < 13 ∧ i2 < 13) :
    CallTo w p loose mean mg mb 346 [.str "nullif" ts, .ref l, .str (colAt c) tc, .none] 5 [(l, lstO [valAt i1 t1, valAt i2 t2] n)] (fun v nw => (∃ t, v = if rk c i1 = rk c i2 then .none else valAt i1 t) ∧ ∀ q ∈ [(l, lstO [valAt i1 t1, valAt i2 t2] n)], q ∈ nw) :=
  nullif2 c i1 i2 H.1 H.2.1 H.2.2 l n t1 t2 ts tc
theorem placeA (c i : Nat) (t u : Tok) (H : c < 4 ∧ i < 13) : CallTo w p loose mean mg mb 428 [valAt i t, .str (colAt c) u] 1 [] (fun v nw => ∃ D o, v = .ref D ∧ Pl c i o ∧ (D, o) ∈ nw) := place_all c i H.1 H.2 t u
theorem takeA (top a b : Int) (src : Addr) (n : Nat) (ta tb tt : Tok) (H : 0 < top ∧ top ≤ 13 ∧ 0 ≤ a ∧ 0 ≤ b ∧ b < 2147483647) :
    CallTo w p loose mean mg mb 409 [.ref src, .int top tt] 1 [(src, { cls := .type "list", data := .seq #[.int a ta, .int b tb] n })]
      (fun v nw => ∃ o', ((∃ d t, v = .int d t ∧ 0 ≤ d ∧ d < top) ∧ SrcO o') ∧ (src, o') ∈ nw ∧ ∀ q ∈ [(src, ({ cls := .type "list", data := .seq #[.int a ta, .int b tb] n } : Obj))], q.1 ≠ src → q ∈ nw) :=
  take_any top a b H.1 H.2.1 H.2.2.1 H.2.2.2.1 H.2.2.2.2 src n ta tb tt
theorem valueA (a b : Int) (src : Addr) (n : Nat) (ta tb : Tok) (H : 0 ≤ a ∧ 0 ≤ b ∧ b < 2147483647) :
    CallTo w p loose mean mg mb 423 [.ref src] 3 [(src, { cls := .type "list", data := .seq #[.int a ta, .int b tb] n })]
      (fun v nw => ∃ o', ((∃ i t, v = valAt i t ∧ i < 13) ∧ SrcO o') ∧ (src, o') ∈ nw ∧ ∀ q ∈ [(src, ({ cls := .type "list", data := .seq #[.int a ta, .int b tb] n } : Obj))], q.1 ≠ src → q ∈ nw) :=
  value_any a b H.1 H.2.1 H.2.2 src n ta tb
end
end Mine
open PySem PySem.W PySem.Calls PyProof.Rows
set_option maxRecDepth 100000
set_option maxHeartbeats 0
namespace Mine
section
variable {prog : Program} {w : World} {A : Around} {E : Value → Shared → Prop} {s : Shared} {h₀ : Heap} {L l d1 d2 d3 : Addr} {m : Str → Option Value} {news rest all : List (Addr × Obj)} {c j i1 i2 i3 j0 j1 k : Nat} {t1 t2 : Tok} {r : IT} {o1 o2 o3 x0 x1 : Obj} {e0 e1 : Addr} {its : List Value} {value slice : PySem.Expr} {u : Tok} {Q : Value → Shared → Prop} {ys : List Value}
theorem sorted2A {k d1 d2 : Nat} {o1 o2 : Obj} {i1 i2 : Nat} (F : Fr h₀ L s.heap m := by k_asm) (N : News h₀ L s.heap news := by k_asm) (hm : (l, ({ cls := .type "list", data := .seq [.ref d1, .ref d2].toArray k } : Obj)) ∈ news := by k_mem) (m1 : (d1, o1) ∈ news := by k_mem) (m2 : (d2, o2) ∈ news := by k_mem) (p1 : Pl c i1 o1 := by assumption) (p2 : Pl c i2 o2 := by assumption) (hc : c < 4 := by assumption) (b1 : i1 < 13 := by assumption) (b2 : i2 < 13 := by assumption) (h : ∀ D e h' e0 x0 j0 e1 x1 j1, Fr h₀ L h' m → News h₀ L h' ((D, listOf [.ref e0, .ref e1].toArray e) :: news) → (∀ q ∈ news, q.1 < D) → (e0, x0) ∈ [(d1, o1), (d2, o2)] → (e1, x1) ∈ [(d1, o1), (d2, o2)] → Pl c j0 x0 → Pl c j1 x1 → j0 < 13 → j1 < 13 →
      Ext c j0 j1 [i1, i2] → Q (.ref D) { s with heap := h' }) :
    wpAny (model prog w) A (call (.builtin "sorted") [.ref l]) Q E s := sorted2N (F := F) (N := N) (hm := hm) (m1 := m1) (m2 := m2) (p1 := p1) (p2 := p2) (hc := hc) (b1 := b1) (b2 := b2) (h := h)
theorem sorted3A {k d1 d2 d3 : Nat} {o1 o2 o3 : Obj} {i1 i2 i3 : Nat} (F : Fr h₀ L s.heap m := by k_asm) (N : News h₀ L s.heap news := by k_asm) (hm : (l, ({ cls := .type "list", data := .seq [.ref d1, .ref d2, .ref d3].toArray k } : Obj)) ∈ news := by k_mem) (m1 : (d1, o1) ∈ news := by k_mem) (m2 : (d2, o2) ∈ news := by k_mem) (m3 : (d3, o3) ∈ news := by k_mem) (p1 : Pl c i1 o1 := by assumption) (p2 : Pl c i2 o2 := by assumption) (p3 : Pl c i3 o3 := by assumption) (hc : c < 4 := by assumption) (b1 : i1 < 13 := by assumption) (b2 : i2 < 13 := by assumption) (b3 : i3 < 13 := by assumption) (h : ∀ D e h' e0 x0 j0 em e1 x1 j1, Fr h₀ L h' m → News h₀ L h' ((D, listOf [.ref e0, .ref em, .ref e1].toArray e) :: news) → (∀ q ∈ news, q.1 < D) → (e0, x0) ∈ [(d1, o1), (d2, o2), (d3, o3)] → (e1, x1) ∈ [(d1, o1), (d2, o2), (d3, o3)] → Pl c j0 x0 → Pl c j1 x1 → j0 < 13 → j1 < 13 →
      Ext c j0 j1 [i1, i2, i3] → Q (.ref D) { s with heap := h' }) :
    wpAny (model prog w) A (call (.builtin "sorted") [.ref l]) Q E s := sorted3N (F := F) (N := N) (hm := hm) (m1 := m1) (m2 := m2) (m3 := m3) (p1 := p1) (p2 := p2) (p3 := p3) (hc := hc) (b1 := b1) (b2 := b2) (b3 := b3) (h := h)
theorem valsA {M : Model} {cm : Sem Flow} {Q : Flow → Shared → Prop} {a b : Addr × Obj} (F : Fr h₀ L s.heap m := by k_asm) (N : News h₀ L s.heap (a :: b :: rest) := by k_asm) (ha : wpAny M A cm (ValsBack h₀ L m rest s) E s) (h : ∀ D i1 t1 i2 t2 r h' tk', Fr h₀ L h' (fun z => if z = Str.ofString "values" then some (.ref D) else m z) → News h₀ L h' ((D, LCg.lst (vals i1 t1 i2 t2 r)) :: rest) → Off1A D rest → i1 < 13 → i2 < 13 → (∀ p ∈ r, p.1 < 13) → r.length ≤ 1 → Q .next { s with heap := h', toks := tk' }) :
    wpAny M A cm Q E s := vals_cut (_F := F) (_N := N) (ha := ha) (h := h)
theorem placesA {M : Model} {cm : Sem Value} {Q : Value → Shared → Prop} {Dv : Addr} (F : Fr h₀ L s.heap m := by k_asm) (N : News h₀ L s.heap ((Dv, LCg.lst (vals i1 t1 i2 t2 r)) :: rest) := by k_asm) (hr : r.length ≤ 1 := by assumption) (hc : c < 4 := by assumption) (b3 : ∀ p ∈ r, p.1 < 13 := by assumption) (ha2 : News h₀ L s.heap ((Dv, LCg.lst [valAt i1 t1, valAt i2 t2]) :: rest) → wpAny M A cm (PlacesBack h₀ L m ((Dv, LCg.lst [valAt i1 t1, valAt i2 t2]) :: rest) s c [i1, i2]) E s) (ha3 : ∀ i3 t3, i3 < 13 → News h₀ L s.heap ((Dv, LCg.lst [valAt i1 t1, valAt i2 t2, valAt i3 t3]) :: rest) → wpAny M A cm (PlacesBack h₀ L m ((Dv, LCg.lst [valAt i1 t1, valAt i2 t2, valAt i3 t3]) :: rest) s c [i1, i2, i3]) E s) (h : ∀ D e0 x0 j0 e1 x1 j1 its k h' tk', Fr h₀ L h' m → News h₀ L h' ((D, LO its k) :: (e0, x0) :: (e1, x1) :: (Dv, LCg.lst (vals i1 t1 i2 t2 r)) :: rest) → (NeA Dv D ∧ Off1A D rest) ∧ (NeA Dv e0 ∧ Off1A e0 rest) ∧ (NeA Dv e1 ∧ Off1A e1 rest) → Ends c j0 j1 e0 e1 x0 x1 its → j0 < 13 → j1 < 13 → Ext c j0 j1 (i1 :: i2 :: idx r) → Q (.ref D) { s with heap := h', toks := tk' }) :
    wpAny M A cm Q E s := places_cut (F := F) (N := N) (hr := hr) (hc := hc) (b3 := b3) (ha2 := ha2) (ha3 := ha3) (h := h)
theorem p0A (N : News h₀ L s.heap news := by k_asm) (hm : (l, LO its k) ∈ news := by k_mem) (he : Ends c j0 j1 e0 e1 x0 x1 its := by assumption) (h : Q (.ref e0) s) (hs : subscripted slice false (.ref l) (.int 0 u) = operate [.ref l, .int 0 u] (getItem (.ref l) (.int 0 u)) := by with_unfolding_all rfl) :
    wpAny (model prog w) A (subscriptTail value slice (.ref l) (.int 0 u)) Q E s := item_p0 (N := N) (hm := hm) (he := he) (h := h) (hs := hs)
theorem p1A (N : News h₀ L s.heap news := by k_asm) (hm : (l, LO its k) ∈ news := by k_mem) (he : Ends c j0 j1 e0 e1 x0 x1 its := by assumption) (h : Q (.ref e1) s) (hs : subscripted slice false (.ref l) (.int (-1) u) = operate [.ref l, .int (-1) u] (getItem (.ref l) (.int (-1) u)) := by with_unfolding_all rfl) :
    wpAny (model prog w) A (subscriptTail value slice (.ref l) (.int (-1) u)) Q E s := item_p1 (N := N) (hm := hm) (he := he) (h := h) (hs := hs)
theorem v0A (N : News h₀ L s.heap news := by k_asm) (hm : (l, LCg.lst (vals i1 t1 i2 t2 r)) ∈ news := by k_mem) (h : Q (valAt i1 t1) s) (hs : subscripted slice false (.ref l) (.int 0 u) = operate [.ref l, .int 0 u] (getItem (.ref l) (.int 0 u)) := by with_unfolding_all rfl) :
    wpAny (model prog w) A (subscriptTail value slice (.ref l) (.int 0 u)) Q E s := item_v0 (N := N) (hm := hm) (h := h) (hs := hs)
theorem v1A (N : News h₀ L s.heap news := by k_asm) (hm : (l, LCg.lst (vals i1 t1 i2 t2 r)) ∈ news := by k_mem) (h : Q (valAt i2 t2) s) (hs : subscripted slice false (.ref l) (.int 1 u) = operate [.ref l, .int 1 u] (getItem (.ref l) (.int 1 u)) := by with_unfolding_all rfl) :
    wpAny (model prog w) A (subscriptTail value slice (.ref l) (.int 1 u)) Q E s := item_v1 (N := N) (hm := hm) (h := h) (hs := hs)
theorem filtA {env : Env} {ct : PySem.Expr} {x : Str} {px : Pos} {scope : Scope} {cl : List (Str × Addr)} {S : List (Addr × Obj) → Prop} {Fin : List Value → List (Addr × Obj) → Prop} (b1 : i1 < 13 := by assumption) (b2 : i2 < 13 := by assumption) (b3 : ∀ p ∈ r, p.1 < 13 := by assumption) (hS : S news := by lcg_src) (hk : ∀ C, (compEnvC scope cl C env).scope.kind = .function := by exact fun _ => rfl) (hl : ∀ C, (compEnvC scope cl C env).kindOf x = some .local := by exact fun _ => rfl) (hd : (x == ("__debug__" : Str)) = false := by decide) (turn : TurnP prog w A h₀ L m env ct x scope cl s news c j) (fin : Fin ((((i1, t1) :: (i2, t2) :: r).filter fun p => decide (rk c p.1 = rk c j)).map fun p => valAt p.1 p.2) news) :
    LCt.CompRestT prog w A h₀ L m env ct (.Name x px) x scope cl s S (fun i v => ((vals i1 t1 i2 t2 r).toArray)[i]? = some v) Fin ((vals i1 t1 i2 t2 r).toArray).size 0 [] news := filtN (b1 := b1) (b2 := b2) (b3 := b3) (hS := hS) (hk := hk) (hl := hl) (hd := hd) (turn := turn) (fin := fin)
end
section
variable {prog : Program} {w : World} {A : Around} {E : Value → Shared → Prop} {s : Shared} {h₀ : Heap} {L l : Addr} {m : Str → Option Value} {news : List (Addr × Obj)} {c i1 j0 j1 : Nat} {r : List Nat} {value slice : PySem.Expr} {ys : List Value} {u : Tok}
theorem leastA {M : Model} {cm : Sem Flow} {Q : Flow → Shared → Prop} (F : Fr h₀ L s.heap m := by k_asm) (N : News h₀ L s.heap news := by k_asm) (X : Ext c j0 j1 (i1 :: r) := by assumption) (ha : wpAny M A cm (ListBack h₀ L m (Str.ofString "least") news s (LeastP c i1 r)) E s) (h : ∀ D ys h' tk', Fr h₀ L h' (fun z => if z = Str.ofString "least" then some (.ref D) else m z) → News h₀ L h' ((D, LCg.lst ys) :: news) → Off1A D news → LeastP c i1 r ys → Q .next { s with heap := h', toks := tk' }) :
    wpAny M A cm Q E s := least_cut (F := F) (N := N) (_X := X) (ha := ha) (h := h)
theorem greatA {M : Model} {cm : Sem Flow} {Q : Flow → Shared → Prop} (F : Fr h₀ L s.heap m := by k_asm) (N : News h₀ L s.heap news := by k_asm) (X : Ext c j0 j1 (i1 :: r) := by assumption) (ha : wpAny M A cm (ListBack h₀ L m (Str.ofString "greatest") news s (GreatP c i1 r)) E s) (h : ∀ D ys h' tk', Fr h₀ L h' (fun z => if z = Str.ofString "greatest" then some (.ref D) else m z) → News h₀ L h' ((D, LCg.lst ys) :: news) → Off1A D news → GreatP c i1 r ys → Q .next { s with heap := h', toks := tk' }) :
    wpAny M A cm Q E s := great_cut (F := F) (N := N) (_X := X) (ha := ha) (h := h)
variable {Q : Value → Shared → Prop}
theorem itG (N : News h₀ L s.heap news := by k_asm) (hm : (l, LCg.lst ys) ∈ news := by k_mem) (hP : GreatP c i1 r ys := by assumption) (h : ∀ t, Q (valAt (pick 1 c i1 r) t) s) (hs : subscripted slice false (.ref l) (.int 0 u) = operate [.ref l, .int 0 u] (getItem (.ref l) (.int 0 u)) := by with_unfolding_all rfl) :
    wpAny (model prog w) A (subscriptTail value slice (.ref l) (.int 0 u)) Q E s := item_great (N := N) (hm := hm) (hP := hP) (h := h) (hs := hs)
theorem itL (N : News h₀ L s.heap news := by k_asm) (hm : (l, LCg.lst ys) ∈ news := by k_mem) (hP : LeastP c i1 r ys := by assumption) (h : ∀ t, Q (valAt (bet (-1) c i1 r) t) s) (hs : subscripted slice false (.ref l) (.int 0 u) = operate [.ref l, .int 0 u] (getItem (.ref l) (.int 0 u)) := by with_unfolding_all rfl) :
    wpAny (model prog w) A (subscriptTail value slice (.ref l) (.int 0 u)) Q E s := item_least0 (N := N) (hm := hm) (hP := hP) (h := h) (hs := hs)
theorem itM (N : News h₀ L s.heap news := by k_asm) (hm : (l, LCg.lst ys) ∈ news := by k_mem) (hP : LeastP c i1 r ys := by assumption) (h : ∀ t, Q (valAt (pick (-1) c i1 r) t) s) (hs : subscripted slice false (.ref l) (.int (-1) u) = operate [.ref l, .int (-1) u] (getItem (.ref l) (.int (-1) u)) := by with_unfolding_all rfl) :
    wpAny (model prog w) A (subscriptTail value slice (.ref l) (.int (-1) u)) Q E s := item_least1 (N := N) (hm := hm) (hP := hP) (h := h) (hs := hs)
end
theorem dec_two {p : Prop} [Decidable p] {s : Shared} {Q : Value → Shared → Prop} (h1 : p → Q (.bool true) s) (h2 : ¬ p → Q (.bool false) s) : Q (.bool (decide p)) s := by
  by_cases h : p
  · rw [decide_eq_true h]; exact h1 h
  · rw [decide_eq_false h]; exact h2 h
theorem eq_plD {prog : Program} {w : World} {A : Around} {E : Value → Shared → Prop} {s : Shared} {h₀ : Heap} {L l : Addr} {news : List (Addr × Obj)} {Q : Value → Shared → Prop} {c : Nat} {o o' : Obj} {b : Addr} {i j : Nat} (N : News h₀ L s.heap news) (m1 : (l, o) ∈ news) (m2 : (b, o') ∈ news) (p1 : Pl c i o) (p2 : Pl c j o') (hc : c < 4) (hi : i < 13) (hj : j < 13) (hu : A.units < cLine)
    (h1 : rk c i = rk c j → Q (.bool true) s) (h2 : ¬ rk c i = rk c j → Q (.bool false) s) : wpAny (model prog w) A (compareOp .Eq (.ref l) (.ref b)) Q E s := eq_plN N m1 m2 p1 p2 hc hi hj hu (dec_two h1 h2)
theorem repr_twoN {prog : Program} {w : World} {A : Around} {E : Value → Shared → Prop} {s : Shared} {h₀ : Heap} {L a : Addr} {m : Str → Option Value} {news : List (Addr × Obj)} {i j n : Nat} {t u : Tok} {Q : Value → Shared → Prop} (F : Fr h₀ L s.heap m) (N : News h₀ L s.heap news)
    (hm : (a, ({ cls := .type "list", data := .seq #[valAt i t, valAt j u] n } : Obj)) ∈ news) (hi : i < 13) (hj : j < 13) (hg : A.guards = some []) (hu : A.units + 4 < cLine)
    (h : ∀ h' u tk, Fr h₀ L h' m → News h₀ L h' news → Q (.str (listText [rpAt i, rpAt j]) u) { s with heap := h', toks := tk }) :
    wpAny (model prog w) A (call (.builtin "repr") [.ref a]) Q E s := repr_two hi hj F N (N _ hm).1 hg hu h
theorem pool_nn {c : Int} {p : Prop} [Decidable p] : 0 ≤ (if -1 - c > c then -1 - c else c) * (if p then 1 else 0) := by
  by_cases h : p
  · rw [if_pos h, Int.mul_one]; split <;> omega
  · rw [if_neg h, Int.mul_zero]; exact Int.le_refl _
theorem mod_nn {a : Int} : 0 ≤ a.fmod 2147483647 := Int.fmod_nonneg_of_pos _ (by decide)
theorem mod_lt {a : Int} : a.fmod 2147483647 < 2147483647 := Int.fmod_lt_of_pos _ (by decide)
theorem eqA {prog : Program} {w : World} {A : Around} {E : Value → Shared → Prop} {s : Shared} {h₀ : Heap} {L l : Addr} {news : List (Addr × Obj)} {Q : Value → Shared → Prop} {c : Nat} {o o' : Obj} {b : Addr} {i j : Nat} (N : News h₀ L s.heap news := by k_asm) (m1 : (l, o) ∈ news := by k_mem) (m2 : (b, o') ∈ news := by k_mem) (p1 : Pl c i o := by assumption) (p2 : Pl c j o' := by assumption) (hc : c < 4 := by assumption) (hi : i < 13 := by assumption) (hj : j < 13 := by assumption) (hu : A.units < cLine := by k_units) (h1 : rk c i = rk c j → Q (.bool true) s) (h2 : ¬ rk c i = rk c j → Q (.bool false) s) :
    wpAny (model prog w) A (compareOp .Eq (.ref l) (.ref b)) Q E s := eq_plD (N := N) (m1 := m1) (m2 := m2) (p1 := p1) (p2 := p2) (hc := hc) (hi := hi) (hj := hj) (hu := hu) (h1 := h1) (h2 := h2)
end Mine
open PySem PySem.W PySem.Calls PyProof.Rows
set_option maxRecDepth 100000
set_option maxHeartbeats 0
namespace Mine
theorem lts3 {a b c l : Nat} {x y z : Obj} (h : a < l ∧ b < l ∧ c < l) : ∀ q ∈ [(a, x), (b, y), (c, z)], q.1 < l := by
  intro q hq
  simp only [List.mem_cons, List.not_mem_nil, or_false] at hq
  rcases hq with rfl | rfl | rfl
  · exact h.1
  · exact h.2.1
  · exact h.2.2
local macro_rules | `(tactic| k_ne) => `(tactic| first | exact NeA.out (by with_reducible assumption) | exact Ne.symm (NeA.out (by with_reducible assumption)))
theorem words_main : True := by
  k_with_none
  (k_with "mine got" => (intro v' h' tk' hv' F' N'; obtain ⟨t', hv'⟩ := hv'; (try first | rw [if_pos (by assumption)] at hv' | rw [if_neg (by assumption)] at hv'); subst hv'; (try k_sweep); (try dsimp only)))
  (k_with "my call ref" => (k_here; (with_reducible show wpAny _ _ (call (Value.ref 409) _) _ _ _); k_dflt ((refine' useUA (takeA _ _ _ _ _ _ _ _) ?_); intro v' o' h' tk' hv' F' N'; obtain ⟨⟨d', t', hv', hd1', hd2'⟩, a', b', ta', tb', n', ho', ha', hb', hb2'⟩ := hv'; subst hv'; subst ho'; (try dsimp only at N'); (try k_sweep); (try dsimp only))))
  (k_with "my call ref" => (k_here; (with_reducible show wpAny _ _ (call (Value.ref 409) [_, Value.int 2 _]) _ _ _); k_dflt ((refine' useUA (takeA _ _ _ _ _ _ _ _) ?_); intro v' o' h' tk' hv' F' N'; obtain ⟨⟨d', t', hv', hd1', hd2'⟩, a', b', ta', tb', n', ho', ha', hb', hb2'⟩ := hv'; subst hv'; subst ho'; (try dsimp only at N'); (try k_sweep); (try dsimp only); rcases two_ways hd1' hd2' with hdd' | hdd' <;> subst hdd')))
  (k_with "my call ref" => (k_here; (with_reducible show wpAny _ _ (call (Value.ref 423) _) _ _ _); k_dflt ((refine' useUA (valueA _ _ _ _ _ _) ?_); intro v' o' h' tk' hv' F' N'; obtain ⟨⟨i', t', hv', hi'⟩, a', b', ta', tb', n', ho', ha', hb', hb2'⟩ := hv'; subst hv'; subst ho'; (try dsimp only at N'); (try k_sweep); (try dsimp only))))
  (k_with "my subscriptTail Name Call ref int" => (k_here; k_dflt (first | ((refine' menu_val (by k_asm) (by k_mem) (by assumption) (by assumption) ?_); intro i' t' hi') | ((refine' menu_col (by k_asm) (by k_mem) (by assumption) (by assumption) ?_); intro i' t' hi'))))
  (k_with "mine pool" => (refine ⟨_, _, _, _, rfl, rfl, ?_, by k_asm, by k_asm, ?_⟩; exact ⟨_, _, _, _, _, rfl, pool_nn, mod_nn, mod_lt⟩; exact lts3 (by assumption)))
  (k_with "my call ref" => (k_here; (with_reducible show wpAny _ _ (call (Value.ref 402) _) _ _ _); k_dflt ((refine' pool_cut (by k_asm) (by k_asm) ?ka_pool ?_); (case ka_pool => (refine wpAny_call ?_; k_enter; (try k_fold); k_steps; all_goals (walk_at "mine pool"))); (intro D' o' h' tk' ho' F' N' l1'; (try k_lt l1'); obtain ⟨a', b', ta', tb', n', ho', ha', hb', hb2'⟩ := ho'; subst ho'; (try k_sweep); (try dsimp only)))))
  (k_with "my CompSrc" => (k_here; k_dflt (first | (refine LCg.CompSrc.ledger (by rfl) (by k_asm) (by k_asm) (by k_mem) (by first | size_fits | exact Nat.le_of_ble_eq_true rfl) ?_; intro g'; lcg_lit) | (refine LCg.CompSrc.base (by rfl) (by k_asm) (by k_asm) (by assumption) (by first | size_fits | exact Nat.le_of_ble_eq_true rfl) ?_; intro g'; lcg_lit) | (refine LCg.CompSrc.range (by rfl) (by k_asm) (by k_asm) (by assumption) (by first | decide | rfl) (by first | rfl | decide) (by first | size_fits | exact Nat.le_of_ble_eq_true rfl) ?_; intro g'; lcg_lit))))
  (k_with "my CompRest" => (with_unfolding_all first | (refine LCg.CompRest.succ ?_; intro v' I' oI' C' oC' D' m' h' tk' E' hv' hC' hx' F' N' off' ne'; (first | lcg_open hv' | (obtain ⟨t9', hv9'⟩ := hv'; subst hv9')); (replace off' := OffA.of off'); (try simp only [OffA] at off'); (repeat (obtain ⟨hnx', off'⟩ := off')); (try clear off'); obtain ⟨n1', n2', n3'⟩ := ne'; (replace n1' := NeA.of n1'); (replace n2' := NeA.of n2'); (replace n3' := NeA.of n3')) | refine LCg.CompRest.zero ?_))
  (k_with "mine fin" => (intro D' h' tk' F' N' o1'; (replace o1' := Off1A.of o1'); (try simp only [Off1A] at o1'); (repeat (obtain ⟨hnx', o1'⟩ := o1')); (try clear o1'); (try simp only [List.nil_append, List.cons_append] at N'); (try dsimp only)))
  (k_with "my FinE" => ((unfold LCg.FinE); walk_at "mine fin"))
  (k_with "my FinA" => ((unfold LCg.FinA); walk_at "mine fin"))
  (k_with "my call ref" => (k_here; (with_reducible show wpAny _ _ (call (Value.ref 428) _) _ _ _); k_dflt ((refine' use1A (placeA _ _ _ _) ?_); intro D' o' h' tk' hp' F' N' hne'; (try simp only [AllNeA] at hne'); (repeat (obtain ⟨hnx', hne'⟩ := hne')); (try clear hne'); (try k_sweep); (try dsimp only))))
  (k_with "my call builtin:sorted" => (k_here; k_dflt (first | ((refine' sorted2A (h := ?_)); intro D' k' h' e0' x0' j0' e1' x1' j1' F' N' l1' he0' he1' hp0' hp1' hj0' hj1' hX'; (try k_lt l1'); (try k_sweep)) | ((refine' sorted3A (h := ?_)); intro D' k' h' e0' x0' j0' em' e1' x1' j1' F' N' l1' he0' he1' hp0' hp1' hj0' hj1' hX'; (try k_lt l1'); (try k_sweep)))))
  (k_with "my compareOp Eq ref ref" => (k_here; k_dflt (refine' eqA (h1 := fun hpp' => ?_) (h2 := fun hpp' => ?_))))
  (k_with "mine turns" => (unfold TurnP; intro k' t' I' oI' C' oC' D' m' h' tk' ys' E' hk' hC' hx' F' N' off' ne'; (try simp only [OffA] at off'); (repeat (obtain ⟨hnx', off'⟩ := off')); (try clear off'); obtain ⟨n1', n2', n3'⟩ := ne'; k_steps; all_goals (walk_at "mine turn")))
  (k_with "mine turn" => ((unfold TurnQ); (try dsimp only); k_dflt (refine ⟨?_, _, _, rfl, by k_asm, cb_drop (by k_asm) (by lcg_sub)⟩); first | exact (decide_eq_true (by with_reducible assumption)).symm | exact (decide_eq_false (by with_reducible assumption)).symm))
  (k_with "mine src" => (k_dflt (refine LCt.Assign_ListComp_T (F₀ := by k_asm) (by rfl) (by with_unfolding_all rfl) (by with_unfolding_all rfl) (by decide) (by rfl) (by decide) (by rfl) (by rfl) (by rfl) ?_); k_dflt lct_toSrc))
  (k_with "mine lt13" => first | assumption | exact pick_lt _ _ (by assumption) (by walk_at "mine all13") | exact bet_lt _ _ (by assumption) (by walk_at "mine all13"))
  (k_with "mine all13" => (exact idx_lt (by assumption) (by assumption)))
  (k_with "mine off1" => ((simp only [Off1A]); (repeat' apply And.intro); all_goals first | exact True.intro | exact NeA.of (by k_ne)))
  (k_with "my CompSrcT" => (k_here; k_dflt (refine LCt.CompSrcT.ledger (by rfl) (by k_asm) (by k_asm) (by k_mem) (vsize (by assumption)) ?_); intro g'))
  (k_with "mine cut" => (intro D' ys' h' tk' F' N' o1' hP'; (try simp only [Off1A] at o1'); (repeat (obtain ⟨hnx', o1'⟩ := o1')); (try clear o1'); (try k_sweep); (try dsimp only)))
  (k_with "mine comp least" => (walk_at "mine src"; (k_dflt (refine' filtA (turn := ?_) (fin := back_fin (leastN (by assumption) (by assumption))))); k_dflt (walk_at "mine turns")))
  (k_with "mine comp great" => (walk_at "mine src"; (k_dflt (refine' filtA (turn := ?_) (fin := back_fin (greatN (by assumption) (by assumption))))); k_dflt (walk_at "mine turns")))
  (k_with "my exec Assign cons ListComp" => (k_here; (with_reducible show wpAny _ _ (exec (Stmt.Assign [PySem.Expr.Name (Str.ofString "least") _] _ _) _) _ _ _); k_dflt (refine' leastA (ha := ?ha_l) (h := ?_)); (case ha_l => walk_at "mine comp least"); k_dflt (walk_at "mine cut")))
  (k_with "my exec Assign cons ListComp" => (k_here; (with_reducible show wpAny _ _ (exec (Stmt.Assign [PySem.Expr.Name (Str.ofString "greatest") _] _ _) _) _ _ _); k_dflt (refine' greatA (ha := ?ha_g) (h := ?_)); (case ha_g => walk_at "mine comp great"); k_dflt (walk_at "mine cut")))
  (k_with "mine vback" => ((try dsimp only); k_dflt (first | (refine vb3 (by k_asm) (cb_drop (by k_asm) (by lcg_sub)) ?_ (by assumption) (by assumption) (by assumption) <;> walk_at "mine off1") | (refine vb2 (by k_asm) (cb_drop (by k_asm) (by lcg_sub)) ?_ (by assumption) (by assumption) <;> walk_at "mine off1"))))
  (k_with "my exec Assign cons ListComp" => (k_here; (with_reducible show wpAny _ _ (exec (Stmt.Assign [PySem.Expr.Name (Str.ofString "values") _] _ _) _) _ _ _); (fail_if_success (with_reducible show wpAny _ _ _ (ValsBack _ _ _ _ _) _ _)); k_dflt ((refine' valsA (ha := ?ha_v) (h := ?_)); (case ha_v => (k_steps; all_goals (walk_at "mine vback"))); (intro D' i1' t1' i2' t2' r' h' tk' F' N' o1' hb1' hb2' hb3' hr'; (try simp only [Off1A] at o1'); (repeat (obtain ⟨hnx', o1'⟩ := o1')); (try clear o1'); (try k_sweep); (try dsimp only)))))
  (k_with "mine pback" => ((try dsimp only); k_dflt (first | (refine pb3 (by k_asm) (by k_asm) (by k_mem) (by assumption) (by assumption) (by lcg_sub) (by lcg_sub) ?_ ?_ ?_ ?_ (by assumption) (by assumption) (by assumption) (by assumption) (by assumption) <;> walk_at "mine off1") | (refine pb2 (by k_asm) (by k_asm) (by k_mem) (by assumption) (by assumption) (by lcg_sub) (by lcg_sub) ?_ ?_ ?_ (by assumption) (by assumption) (by assumption) (by assumption) (by assumption) <;> walk_at "mine off1"))))
  (k_with "my eval Call" => (k_here; (with_reducible show wpAny _ _ (eval (PySem.Expr.Call (PySem.Expr.Name (Str.ofString "sorted") _) _ _ _) _) _ _ _); (fail_if_success (with_reducible show wpAny _ _ _ (PlacesBack _ _ _ _ _ _ _) _ _)); k_dflt ((refine' placesA (ha2 := ?ha2) (ha3 := ?ha3) (h := ?_)); (case ha2 => (intro N'; k_steps; all_goals (walk_at "mine pback"))); (case ha3 => (intro i3' t3' hb3' N'; k_steps; all_goals (walk_at "mine pback"))); (intro D' e0' x0' j0' e1' x1' j1' its' k' h' tk' F' N' o1' en' hj0' hj1' hX'; (have hp0' := en'.p0); (have hp1' := en'.p1); (try simp only [Off1A] at o1'); (obtain ⟨⟨hny', oa'⟩, ⟨hny', ob'⟩, ⟨hny', oc'⟩⟩ := o1'); (repeat (obtain ⟨hnx', oa'⟩ := oa')); (repeat (obtain ⟨hnx', ob'⟩ := ob')); (repeat (obtain ⟨hnx', oc'⟩ := oc')); (try clear oa'); (try clear ob'); (try clear oc'); (try k_sweep); (try dsimp only)))))
  (k_with "my subscriptTail Name Constant ref int" => (k_here; (with_reducible show wpAny _ _ (subscriptTail (PySem.Expr.Name (Str.ofString "greatest") _) _ _ _) _ _ _); k_dflt (refine' itG (h := ?_)); intro t'))
  (k_with "my subscriptTail Name Constant ref int" => (k_here; (with_reducible show wpAny _ _ (subscriptTail (PySem.Expr.Name (Str.ofString "least") _) _ _ _) _ _ _); k_dflt (refine' itL (h := ?_)); intro t'))
  (k_with "my subscriptTail Name UnaryOp ref int" => (k_here; (with_reducible show wpAny _ _ (subscriptTail (PySem.Expr.Name (Str.ofString "least") _) _ _ _) _ _ _); k_dflt (refine' itM (h := ?_)); intro t'))
  (k_with "my subscriptTail Name Constant ref int" => (k_here; (with_reducible show wpAny _ _ (subscriptTail (PySem.Expr.Name (Str.ofString "places") _) _ _ _) _ _ _); k_dflt (refine' p0A (h := ?_))))
  (k_with "my subscriptTail Name UnaryOp ref int" => (k_here; (with_reducible show wpAny _ _ (subscriptTail (PySem.Expr.Name (Str.ofString "places") _) _ _ _) _ _ _); k_dflt (refine' p1A (h := ?_))))
  (k_with "my subscriptTail Name Constant ref int" => (k_here; (with_reducible show wpAny _ _ (subscriptTail (PySem.Expr.Name (Str.ofString "values") _) _ _ (Value.int 0 _)) _ _ _); k_dflt (refine' v0A (h := ?_))))
  (k_with "my subscriptTail Name Constant ref int" => (k_here; (with_reducible show wpAny _ _ (subscriptTail (PySem.Expr.Name (Str.ofString "values") _) _ _ (Value.int 1 _)) _ _ _); k_dflt (refine' v1A (h := ?_))))
  (k_with "my subscriptTail Name Slice ref ref" => (k_here; (with_reducible show wpAny _ _ (subscriptTail _ (PySem.Expr.Slice _ _ none _) (Value.ref _) (Value.ref _)) _ _ _); k_dflt (refine' kms_slice_lit (by k_asm) (by k_asm) (list_v (by k_asm) (by k_mem)) (by kmk_part) (by kmk_part) pick_two ?_ (by with_unfolding_all rfl) (by kmk_pure) (vsize (by assumption))); intro D' h' F' N' l1; (try k_lt l1); (try k_sweep)))
  (k_with "my call builtin:repr" => (k_here; k_dflt (first | (refine' repr_val (by walk_at "mine lt13") ?_) | ((refine' repr_twoN (by k_asm) (by k_asm) (by k_mem) (by walk_at "mine lt13") (by walk_at "mine lt13") (by rfl) (by k_units) ?_); intro h' u' tk' F' N'; (try k_sweep); (try dsimp only)))))
  (k_with "my compareOp NotEq str str" => (k_here; k_dflt (refine ne_same ?_)))
  (k_with "my compareOp Eq str str" => (k_here; k_dflt (refine eq_same ?_)))
  (k_with "my call ref" => (k_here; (with_reducible show wpAny _ _ (call (Value.ref 346) (Value.str (Str.ofString "max") _ :: _)) _ _ _); k_dflt ((refine' useSA (cfxA _ _ _ _ _ _ _ _ _ _) ?_); walk_at "mine got")))
  (k_with "my call ref" => (k_here; (with_reducible show wpAny _ _ (call (Value.ref 346) (Value.str (Str.ofString "Min") _ :: _)) _ _ _); k_dflt ((refine' useSA (cfnA _ _ _ _ _ _ _ _ _ _) ?_); walk_at "mine got")))
  (k_with "my call ref" => (k_here; (with_reducible show wpAny _ _ (call (Value.ref 435) (Value.str (Str.ofString "max") _ :: _)) _ _ _); k_dflt ((refine' useSA (gaxA _ _ _ _ _ _ _ _ _ _) ?_); walk_at "mine got")))
  (k_with "my call ref" => (k_here; (with_reducible show wpAny _ _ (call (Value.ref 435) (Value.str (Str.ofString "min") _ :: _)) _ _ _); k_dflt ((refine' useSA (ganA _ _ _ _ _ _ _ _ _ _) ?_); walk_at "mine got")))
  (k_with "my call ref" => (k_here; (with_reducible show wpAny _ _ (call (Value.ref 346) (Value.str (Str.ofString "nullif") _ :: _)) _ _ _); k_dflt ((refine' useSA (nulA _ _ _ _ _ _ _ _ _) ?_); walk_at "mine got")))
  trivial
local macro_rules | `(tactic| walk_at "call ref") => `(tactic| k_extra "my call ref")
local macro_rules | `(tactic| walk_at "subscriptTail Name Call ref int") => `(tactic| k_extra "my subscriptTail Name Call ref int")
local macro_rules | `(tactic| walk_at "CompSrc") => `(tactic| k_extra "my CompSrc")
local macro_rules | `(tactic| walk_at "CompRest") => `(tactic| k_extra "my CompRest")
local macro_rules | `(tactic| walk_at "FinE") => `(tactic| k_extra "my FinE")
local macro_rules | `(tactic| walk_at "FinA") => `(tactic| k_extra "my FinA")
local macro_rules | `(tactic| walk_at "call builtin:sorted") => `(tactic| k_extra "my call builtin:sorted")
local macro_rules | `(tactic| walk_at "compareOp Eq ref ref") => `(tactic| k_extra "my compareOp Eq ref ref")
local macro_rules | `(tactic| walk_at "CompSrcT") => `(tactic| k_extra "my CompSrcT")
local macro_rules | `(tactic| walk_at "exec Assign cons ListComp") => `(tactic| k_extra "my exec Assign cons ListComp")
local macro_rules | `(tactic| walk_at "eval Call") => `(tactic| k_extra "my eval Call")
local macro_rules | `(tactic| walk_at "subscriptTail Name Constant ref int") => `(tactic| k_extra "my subscriptTail Name Constant ref int")
local macro_rules | `(tactic| walk_at "subscriptTail Name UnaryOp ref int") => `(tactic| k_extra "my subscriptTail Name UnaryOp ref int")
local macro_rules | `(tactic| walk_at "subscriptTail Name Slice ref ref") => `(tactic| k_extra "my subscriptTail Name Slice ref ref")
local macro_rules | `(tactic| walk_at "call builtin:repr") => `(tactic| k_extra "my call builtin:repr")
local macro_rules | `(tactic| walk_at "compareOp NotEq str str") => `(tactic| k_extra "my compareOp NotEq str str")
local macro_rules | `(tactic| walk_at "compareOp Eq str str") => `(tactic| k_extra "my compareOp Eq str str")
theorem main0 : PySem.Challenge.rw_nt0118_01.Holds := hd2 rfl rfl rfl (by
  unfold Mine.H
  k_fill
  intro w s₀ s₁ mg mb G Y fa o pm cd doc dV kV ho hd hcd hD hmg hg args vals as hpre hlay hrd hwl hlo
  have KX := kIn_of Y
  have X := (Ground.X G).1
  have V := (Ground.X G).2
  refine Ground.open G ?_
  intro T B D TE TW
  try (refine guard_noD D (by decide +kernel) ?_; clear D)
  obtain ⟨_, _, M⟩ := bmod_of_top T
  have TA := at_of_top T
  try (obtain ⟨_, _, he, B0⟩ := based_of_top T rfl hmg ho hd; have he' : cd = _ := he; subst he'; clear he)
  clear hmg
  wrow_args hpre hlay hrd hwl hlo
  all_goals (
    first | refine callC_kw (enter_call ?_) | refine enter_call ?_ | refine callC_kw (enter_callW ?_) | refine enter_callW ?_ | w_how
    w_top on
    try refine codeAny_mono ?_ (fun _ _ g => GoodW.toG g)
    have K0 := below_caller (Top.heap T)
    w_call any ho hd hcd hD T F
    clear hd TA
    k_drop)
  all_goals try k_fold
  k_steps)
end Mine
theorem PySem.Challenge.cw_nt0118_01_holds : PySem.Challenge.rw_nt0118_01.Holds :=
  Mine.main0
