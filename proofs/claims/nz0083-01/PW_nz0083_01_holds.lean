import PyProof.Rows.All
import Wide.All
import OpenK.AllK
import Wide.FinOn
import PySem.Challenge.RW_nz0083_01
open PySem PySem.W PyProof.Rows
set_option Elab.async false
set_option linter.unusedVariables false
set_option maxRecDepth 100000
set_option maxHeartbeats 8000000
namespace Mine
/-! the head, as one check: the text's own parts that the walk asks for, written out -/
def dent (P : Params) (n : String) (t : Nat) (v : Value) : DictEntry := { hash := PyData.keyHash P (Str.ofString n), key := .str (Str.ofString n) t, val := v }
def cobj (n : String) (t : Nat) (r : Array Value) : Obj := { cls := .type "code", data := .fields (#[.str (Str.ofString n) t, .str (Str.ofString n) (t + 1)] ++ r) }
def fobj (m : String) (t cd : Nat) : Stmt → Obj
  | .FunctionDef name args body _ _ _ scope _ _ _ => { cls := .type "function", data := .func { name := name, qualname := name, params := args, body := .stmts body, scope := scope, globals := 3, closure := [], defaults := .none, kwdefaults := .none, pyModule := .str (Str.ofString m) t, code := .ref cd } }
  | _ => { cls := .none }
def stAt (i : Nat) : Stmt := PySem.Challenge.pw_nz0083_01.main.body.getD i (.Pass default)
def kept : Stmt → Bool
  | .Assign .. => false
  | _ => true
def hd.view_39 : Program := { PySem.Challenge.pw_nz0083_01 with main := { PySem.Challenge.pw_nz0083_01.main with body := PySem.Challenge.pw_nz0083_01.main.body.filter kept } }
noncomputable def hd.heap_39 : Params → Frag := fun P =>
  (nat_lit 2, { cls := .none, data := .dict #[dent P "type.__subclasses__.Exception.0" 205 (.int 24 0), dent P "type.__subclasses__.Exception.n" 206 (.int 1 0)] 2 }) ::
  (nat_lit 15, { cls := .type "tuple", data := .seq #[.type "Exception"] }) ::
  (nat_lit 22, { cls := .type "tuple", data := .seq #[] }) ::
  (nat_lit 23, { cls := .type "dict", data := .dict #[dent P "__module__" 196 (.str (Str.ofString "gmp.limbs") 187), dent P "__firstlineno__" 200 (.int 2 199), dent P "__static_attributes__" 201 (.ref 22), dent P "__weakref__" 203 (.ref 25), dent P "__doc__" 204 .none] 3 }) ::
  (nat_lit 24, { cls := .type "type", data := .cls { name := Str.ofString "GmpError", bases := [.type "Exception"], mro := [.ref 24, .type "Exception", .type "BaseException", .type "object"], ns := 23, qualname := Str.ofString "GmpError", subclasses := [.ref 37, .ref 49] }, slots := #[some (.ref 15), none, some (.str (Str.ofString "GmpError") 189), some (.str (Str.ofString "GmpError") 197), some (.builtin "Exception.__new__"), some (.bool true)] }) ::
  (nat_lit 25, { cls := .type "getset_descriptor", data := .fields #[.str (Str.ofString "__weakref__") 202, .ref 24, .builtin "ExceptionGroup.__weakref__", .none] }) ::
  (nat_lit 28, { cls := .type "tuple", data := .seq #[.ref 24] }) ::
  (nat_lit 35, { cls := .type "tuple", data := .seq #[] }) ::
  (nat_lit 36, { cls := .type "dict", data := .dict #[dent P "__module__" 216 (.str (Str.ofString "gmp.limbs") 187), dent P "__firstlineno__" 220 (.int 4 219), dent P "__static_attributes__" 221 (.ref 35), dent P "__doc__" 222 .none] 2 }) ::
  (nat_lit 37, { cls := .type "type", data := .cls { name := Str.ofString "DivisionByZero", bases := [.ref 24], mro := [.ref 37, .ref 24, .type "Exception", .type "BaseException", .type "object"], ns := 36, qualname := Str.ofString "DivisionByZero" }, slots := #[some (.ref 28), none, some (.str (Str.ofString "DivisionByZero") 209), some (.str (Str.ofString "DivisionByZero") 217), some (.builtin "Exception.__new__"), some (.bool true)] }) ::
  (nat_lit 40, { cls := .type "tuple", data := .seq #[.ref 24] }) ::
  (nat_lit 47, { cls := .type "tuple", data := .seq #[] }) ::
  (nat_lit 48, { cls := .type "dict", data := .dict #[dent P "__module__" 232 (.str (Str.ofString "gmp.limbs") 187), dent P "__firstlineno__" 236 (.int 6 235), dent P "__static_attributes__" 237 (.ref 47), dent P "__doc__" 238 .none] 2 }) ::
  (nat_lit 49, { cls := .type "type", data := .cls { name := Str.ofString "OutOfRange", bases := [.ref 24], mro := [.ref 49, .ref 24, .type "Exception", .type "BaseException", .type "object"], ns := 48, qualname := Str.ofString "OutOfRange" }, slots := #[some (.ref 40), none, some (.str (Str.ofString "OutOfRange") 225), some (.str (Str.ofString "OutOfRange") 233), some (.builtin "Exception.__new__"), some (.bool true)] }) ::
  (nat_lit 3, { cls := .type "dict", data := .dict (List.toArray (dent P "__name__" 165 (.str (Str.ofString "law_nz0083_01") 476) :: dent P "__doc__" 166 (.none) :: dent P "__package__" 167 (.none) :: dent P "__loader__" 168 (.builtin "__main__.__loader__#opaque") :: dent P "__spec__" 169 (.none) :: dent P "__annotations__" 170 (.ref 6) :: dent P "__builtins__" 171 (.ref 4) :: dent P "__file__" 173 (.str (Str.ofString "/claim/cut.py") 172) :: dent P "__cached__" 174 (.none) :: dent P "GmpError" 208 (.ref 24) :: dent P "DivisionByZero" 224 (.ref 37) :: dent P "OutOfRange" 240 (.ref 49) :: dent P "normal" 248 (.ref 58) :: dent P "nat_of" 258 (.ref 65) :: dent P "compare" 267 (.ref 72) :: dent P "add" 280 (.ref 79) :: dent P "mul_limb" 293 (.ref 86) :: dent P "divrem_limb" 305 (.ref 93) :: dent P "plain_of" 317 (.ref 100) :: dent P "check_base" 324 (.ref 107) :: dent P "digit_off" 336 (.ref 114) :: dent P "digits_plain" 348 (.ref 121) :: dent P "base_powers" 360 (.ref 128) :: dent P "with_noughts" 368 (.ref 135) :: dent P "digits_by_powers" 386 (.ref 142) :: dent P "to_digits" 399 (.ref 149) :: dent P "times_base" 409 (.ref 156) :: dent P "number_plain" 421 (.ref 163) :: dent P "number_by_powers" 437 (.ref 170) :: dent P "from_digits" 450 (.ref 177) :: dent P "folded" 465 (.ref 184) :: dent P "mod_ones" 475 (.ref 191) :: dent P "_law_box" 483 (.ref 196) :: dent P "_law_take" 491 (.ref 203) :: dent P "_law_limbs" 500 (.ref 210) :: dent P "_law_number" 510 (.ref 217) :: dent P "_law_mul" 519 (.ref 224) :: dent P "_law_divrem" 530 (.ref 231) :: dent P "_law_grouped" 544 (.ref 238) :: dent P "_law_drawn" 554 (.ref 245) :: dent P "_law_rests_right" 564 (.ref 252) :: dent P "_law_ones_right" 575 (.ref 259) :: dent P "law" 596 (.ref 266) :: [])) 43 }) ::
  (nat_lit 57, cobj "normal" 241 #[.str (Str.ofString "/claim/cut.py") 243, .int 8 0, .int 1 0, .int 0 0, .int 0 0, .int 3 0, .ref 52, .bool true, .int 181 0, .ref 53, .none, .ref 54, .ref 55, .ref 56, .int 246 0, .int 8 0, .str (Str.ofString "/claim/cut.py") 247]) ::
  (nat_lit 58, fobj "gmp.limbs" 187 57 (stAt 4)) ::
  (nat_lit 64, cobj "nat_of" 249 #[.str (Str.ofString "/claim/cut.py") 251, .int 13 0, .int 2 0, .int 0 0, .int 0 0, .int 3 0, .ref 59, .bool true, .int 181 0, .ref 60, .none, .ref 61, .ref 62, .ref 63, .int 256 0, .int 13 0, .str (Str.ofString "/claim/cut.py") 257]) ::
  (nat_lit 65, fobj "gmp.limbs" 187 64 (stAt 5)) ::
  (nat_lit 71, cobj "compare" 259 #[.str (Str.ofString "/claim/cut.py") 261, .int 21 0, .int 2 0, .int 0 0, .int 0 0, .int 3 0, .ref 66, .bool true, .int 181 0, .ref 67, .none, .ref 68, .ref 69, .ref 70, .int 265 0, .int 21 0, .str (Str.ofString "/claim/cut.py") 266]) ::
  (nat_lit 72, fobj "gmp.limbs" 187 71 (stAt 6)) ::
  (nat_lit 78, cobj "add" 268 #[.str (Str.ofString "/claim/cut.py") 270, .int 28 0, .int 3 0, .int 0 0, .int 0 0, .int 3 0, .ref 73, .bool true, .int 181 0, .ref 74, .none, .ref 75, .ref 76, .ref 77, .int 278 0, .int 28 0, .str (Str.ofString "/claim/cut.py") 279]) ::
  (nat_lit 79, fobj "gmp.limbs" 187 78 (stAt 7)) ::
  (nat_lit 85, cobj "mul_limb" 281 #[.str (Str.ofString "/claim/cut.py") 283, .int 43 0, .int 3 0, .int 0 0, .int 0 0, .int 3 0, .ref 80, .bool true, .int 181 0, .ref 81, .none, .ref 82, .ref 83, .ref 84, .int 291 0, .int 43 0, .str (Str.ofString "/claim/cut.py") 292]) ::
  (nat_lit 86, fobj "gmp.limbs" 187 85 (stAt 8)) ::
  (nat_lit 92, cobj "divrem_limb" 294 #[.str (Str.ofString "/claim/cut.py") 296, .int 54 0, .int 3 0, .int 0 0, .int 0 0, .int 3 0, .ref 87, .bool true, .int 181 0, .ref 88, .none, .ref 89, .ref 90, .ref 91, .int 303 0, .int 54 0, .str (Str.ofString "/claim/cut.py") 304]) ::
  (nat_lit 93, fobj "gmp.limbs" 187 92 (stAt 9)) ::
  (nat_lit 99, cobj "plain_of" 308 #[.str (Str.ofString "/claim/cut.py") 310, .int 64 0, .int 2 0, .int 0 0, .int 0 0, .int 3 0, .ref 94, .bool true, .int 181 0, .ref 95, .none, .ref 96, .ref 97, .ref 98, .int 315 0, .int 64 0, .str (Str.ofString "/claim/cut.py") 316]) ::
  (nat_lit 100, fobj "gmp.radix" 306 99 (stAt 11)) ::
  (nat_lit 106, cobj "check_base" 318 #[.str (Str.ofString "/claim/cut.py") 320, .int 69 0, .int 1 0, .int 0 0, .int 0 0, .int 3 0, .ref 101, .bool true, .int 181 0, .ref 102, .none, .ref 103, .ref 104, .ref 105, .int 322 0, .int 69 0, .str (Str.ofString "/claim/cut.py") 323]) ::
  (nat_lit 107, fobj "gmp.radix" 306 106 (stAt 12)) ::
  (nat_lit 113, cobj "digit_off" 325 #[.str (Str.ofString "/claim/cut.py") 327, .int 72 0, .int 4 0, .int 0 0, .int 0 0, .int 3 0, .ref 108, .bool true, .int 181 0, .ref 109, .none, .ref 110, .ref 111, .ref 112, .int 334 0, .int 72 0, .str (Str.ofString "/claim/cut.py") 335]) ::
  (nat_lit 114, fobj "gmp.radix" 306 113 (stAt 13)) ::
  (nat_lit 120, cobj "digits_plain" 337 #[.str (Str.ofString "/claim/cut.py") 339, .int 77 0, .int 4 0, .int 0 0, .int 0 0, .int 3 0, .ref 115, .bool true, .int 181 0, .ref 116, .none, .ref 117, .ref 118, .ref 119, .int 346 0, .int 77 0, .str (Str.ofString "/claim/cut.py") 347]) ::
  (nat_lit 121, fobj "gmp.radix" 306 120 (stAt 14)) ::
  (nat_lit 127, cobj "base_powers" 349 #[.str (Str.ofString "/claim/cut.py") 351, .int 84 0, .int 4 0, .int 0 0, .int 0 0, .int 3 0, .ref 122, .bool true, .int 181 0, .ref 123, .none, .ref 124, .ref 125, .ref 126, .int 358 0, .int 84 0, .str (Str.ofString "/claim/cut.py") 359]) ::
  (nat_lit 128, fobj "gmp.radix" 306 127 (stAt 15)) ::
  (nat_lit 134, cobj "with_noughts" 361 #[.str (Str.ofString "/claim/cut.py") 363, .int 90 0, .int 2 0, .int 0 0, .int 0 0, .int 3 0, .ref 129, .bool true, .int 181 0, .ref 130, .none, .ref 131, .ref 132, .ref 133, .int 366 0, .int 90 0, .str (Str.ofString "/claim/cut.py") 367]) ::
  (nat_lit 135, fobj "gmp.radix" 306 134 (stAt 16)) ::
  (nat_lit 141, cobj "digits_by_powers" 369 #[.str (Str.ofString "/claim/cut.py") 371, .int 92 0, .int 6 0, .int 0 0, .int 0 0, .int 3 0, .ref 136, .bool true, .int 181 0, .ref 137, .none, .ref 138, .ref 139, .ref 140, .int 384 0, .int 92 0, .str (Str.ofString "/claim/cut.py") 385]) ::
  (nat_lit 142, fobj "gmp.radix" 306 141 (stAt 17)) ::
  (nat_lit 148, cobj "to_digits" 387 #[.str (Str.ofString "/claim/cut.py") 389, .int 101 0, .int 6 0, .int 0 0, .int 0 0, .int 3 0, .ref 143, .bool true, .int 181 0, .ref 144, .none, .ref 145, .ref 146, .ref 147, .int 397 0, .int 101 0, .str (Str.ofString "/claim/cut.py") 398]) ::
  (nat_lit 149, fobj "gmp.radix" 306 148 (stAt 18)) ::
  (nat_lit 155, cobj "times_base" 400 #[.str (Str.ofString "/claim/cut.py") 402, .int 105 0, .int 4 0, .int 0 0, .int 0 0, .int 3 0, .ref 150, .bool true, .int 181 0, .ref 151, .none, .ref 152, .ref 153, .ref 154, .int 407 0, .int 105 0, .str (Str.ofString "/claim/cut.py") 408]) ::
  (nat_lit 156, fobj "gmp.radix" 306 155 (stAt 19)) ::
  (nat_lit 162, cobj "number_plain" 410 #[.str (Str.ofString "/claim/cut.py") 412, .int 107 0, .int 4 0, .int 0 0, .int 0 0, .int 3 0, .ref 157, .bool true, .int 181 0, .ref 158, .none, .ref 159, .ref 160, .ref 161, .int 419 0, .int 107 0, .str (Str.ofString "/claim/cut.py") 420]) ::
  (nat_lit 163, fobj "gmp.radix" 306 162 (stAt 20)) ::
  (nat_lit 169, cobj "number_by_powers" 422 #[.str (Str.ofString "/claim/cut.py") 424, .int 112 0, .int 6 0, .int 0 0, .int 0 0, .int 3 0, .ref 164, .bool true, .int 181 0, .ref 165, .none, .ref 166, .ref 167, .ref 168, .int 435 0, .int 112 0, .str (Str.ofString "/claim/cut.py") 436]) ::
  (nat_lit 170, fobj "gmp.radix" 306 169 (stAt 21)) ::
  (nat_lit 176, cobj "from_digits" 438 #[.str (Str.ofString "/claim/cut.py") 440, .int 122 0, .int 5 0, .int 0 0, .int 0 0, .int 3 0, .ref 171, .bool true, .int 181 0, .ref 172, .none, .ref 173, .ref 174, .ref 175, .int 448 0, .int 122 0, .str (Str.ofString "/claim/cut.py") 449]) ::
  (nat_lit 177, fobj "gmp.radix" 306 176 (stAt 22)) ::
  (nat_lit 183, cobj "folded" 453 #[.str (Str.ofString "/claim/cut.py") 455, .int 134 0, .int 4 0, .int 0 0, .int 0 0, .int 3 0, .ref 178, .bool true, .int 181 0, .ref 179, .none, .ref 180, .ref 181, .ref 182, .int 463 0, .int 134 0, .str (Str.ofString "/claim/cut.py") 464]) ::
  (nat_lit 184, fobj "gmp.hensel" 451 183 (stAt 24)) ::
  (nat_lit 190, cobj "mod_ones" 466 #[.str (Str.ofString "/claim/cut.py") 468, .int 140 0, .int 3 0, .int 0 0, .int 0 0, .int 3 0, .ref 185, .bool true, .int 181 0, .ref 186, .none, .ref 187, .ref 188, .ref 189, .int 473 0, .int 140 0, .str (Str.ofString "/claim/cut.py") 474]) ::
  (nat_lit 191, fobj "gmp.hensel" 451 190 (stAt 25)) ::
  (nat_lit 195, cobj "_law_box" 478 #[.str (Str.ofString "/claim/cut.py") 480, .int 146 0, .int 1 0, .int 0 0, .int 0 0, .int 3 0, .ref 192, .bool true, .int 181 0, .ref 193, .none, .none, .none, .ref 194, .int 481 0, .int 146 0, .str (Str.ofString "/claim/cut.py") 482]) ::
  (nat_lit 196, fobj "law_nz0083_01" 476 195 (stAt 27)) ::
  (nat_lit 202, cobj "_law_take" 484 #[.str (Str.ofString "/claim/cut.py") 486, .int 151 0, .int 2 0, .int 0 0, .int 0 0, .int 3 0, .ref 197, .bool true, .int 181 0, .ref 198, .none, .ref 199, .ref 200, .ref 201, .int 489 0, .int 151 0, .str (Str.ofString "/claim/cut.py") 490]) ::
  (nat_lit 203, fobj "law_nz0083_01" 476 202 (stAt 28)) ::
  (nat_lit 209, cobj "_law_limbs" 492 #[.str (Str.ofString "/claim/cut.py") 494, .int 156 0, .int 2 0, .int 0 0, .int 0 0, .int 3 0, .ref 204, .bool true, .int 181 0, .ref 205, .none, .ref 206, .ref 207, .ref 208, .int 498 0, .int 156 0, .str (Str.ofString "/claim/cut.py") 499]) ::
  (nat_lit 210, fobj "law_nz0083_01" 476 209 (stAt 29)) ::
  (nat_lit 216, cobj "_law_number" 501 #[.str (Str.ofString "/claim/cut.py") 503, .int 162 0, .int 2 0, .int 0 0, .int 0 0, .int 3 0, .ref 211, .bool true, .int 181 0, .ref 212, .none, .ref 213, .ref 214, .ref 215, .int 508 0, .int 162 0, .str (Str.ofString "/claim/cut.py") 509]) ::
  (nat_lit 217, fobj "law_nz0083_01" 476 216 (stAt 30)) ::
  (nat_lit 223, cobj "_law_mul" 511 #[.str (Str.ofString "/claim/cut.py") 513, .int 167 0, .int 3 0, .int 0 0, .int 0 0, .int 3 0, .ref 218, .bool true, .int 181 0, .ref 219, .none, .ref 220, .ref 221, .ref 222, .int 517 0, .int 167 0, .str (Str.ofString "/claim/cut.py") 518]) ::
  (nat_lit 224, fobj "law_nz0083_01" 476 223 (stAt 31)) ::
  (nat_lit 230, cobj "_law_divrem" 520 #[.str (Str.ofString "/claim/cut.py") 522, .int 169 0, .int 3 0, .int 0 0, .int 0 0, .int 3 0, .ref 225, .bool true, .int 181 0, .ref 226, .none, .ref 227, .ref 228, .ref 229, .int 528 0, .int 169 0, .str (Str.ofString "/claim/cut.py") 529]) ::
  (nat_lit 231, fobj "law_nz0083_01" 476 230 (stAt 32)) ::
  (nat_lit 237, cobj "_law_grouped" 531 #[.str (Str.ofString "/claim/cut.py") 533, .int 172 0, .int 3 0, .int 0 0, .int 0 0, .int 3 0, .ref 232, .bool true, .int 181 0, .ref 233, .none, .ref 234, .ref 235, .ref 236, .int 542 0, .int 172 0, .str (Str.ofString "/claim/cut.py") 543]) ::
  (nat_lit 238, fobj "law_nz0083_01" 476 237 (stAt 33)) ::
  (nat_lit 244, cobj "_law_drawn" 545 #[.str (Str.ofString "/claim/cut.py") 547, .int 180 0, .int 2 0, .int 0 0, .int 0 0, .int 3 0, .ref 239, .bool true, .int 181 0, .ref 240, .none, .ref 241, .ref 242, .ref 243, .int 552 0, .int 180 0, .str (Str.ofString "/claim/cut.py") 553]) ::
  (nat_lit 245, fobj "law_nz0083_01" 476 244 (stAt 34)) ::
  (nat_lit 251, cobj "_law_rests_right" 555 #[.str (Str.ofString "/claim/cut.py") 557, .int 185 0, .int 3 0, .int 0 0, .int 0 0, .int 3 0, .ref 246, .bool true, .int 181 0, .ref 247, .none, .ref 248, .ref 249, .ref 250, .int 562 0, .int 185 0, .str (Str.ofString "/claim/cut.py") 563]) ::
  (nat_lit 252, fobj "law_nz0083_01" 476 251 (stAt 35)) ::
  (nat_lit 258, cobj "_law_ones_right" 565 #[.str (Str.ofString "/claim/cut.py") 567, .int 188 0, .int 3 0, .int 0 0, .int 0 0, .int 3 0, .ref 253, .bool true, .int 181 0, .ref 254, .none, .ref 255, .ref 256, .ref 257, .int 573 0, .int 188 0, .str (Str.ofString "/claim/cut.py") 574]) ::
  (nat_lit 259, fobj "law_nz0083_01" 476 258 (stAt 36)) :: []
def hd.at_39 : List Nat := 2 :: 15 :: 22 :: 23 :: 24 :: 25 :: 28 :: 35 :: 36 :: 37 :: 40 :: 47 :: 48 :: 49 :: 3 :: 57 :: 58 :: 64 :: 65 :: 71 :: 72 :: 78 :: 79 :: 85 :: 86 :: 92 :: 93 :: 99 :: 100 :: 106 :: 107 :: 113 :: 114 :: 120 :: 121 :: 127 :: 128 :: 134 :: 135 :: 141 :: 142 :: 148 :: 149 :: 155 :: 156 :: 162 :: 163 :: 169 :: 170 :: 176 :: 177 :: 183 :: 184 :: 190 :: 191 :: 195 :: 196 :: 202 :: 203 :: 209 :: 210 :: 216 :: 217 :: 223 :: 224 :: 230 :: 231 :: 237 :: 238 :: 244 :: 245 :: 251 :: 252 :: 258 :: 259 :: []
namespace hd
/-! the head cut into small checks: the top's whole ledger, written once, and its states as cuts of it -/
def dnt (P : Params) (s : Str) (t : Nat) (v : Value) : DictEntry := { hash := PyData.keyHash P s, key := .str s t, val := v }
def f0 : Stmt → Obj
  | .FunctionDef name args body _ _ _ scope _ _ _ => { cls := .none, data := .func { name := name, qualname := name, params := args, body := .stmts body, scope := scope, globals := 0, closure := [], defaults := .none, kwdefaults := .none, pyModule := .none, code := .none } }
  | _ => { cls := .none }
noncomputable def obsPart0 (P : Params) (d2 d3 d12 d24 : Obj) (rest : List Obj) : List Obj :=
  { cls := Value.type "dict", data := Data.dict #[dnt P ⟨#[95, 95, 110, 97, 109, 101, 95, 95]⟩ 1 (Value.str (Str.ofString "builtins") 160), dnt P ⟨#[95, 95, 100, 111, 99, 95, 95]⟩ 2 (Value.builtin "builtins.__doc__:str#opaque"), dnt P ⟨#[95, 95, 112, 97, 99, 107, 97, 103, 101, 95, 95]⟩ 3 (Value.builtin "builtins.__package__:str#opaque"), dnt P ⟨#[95, 95, 108, 111, 97, 100, 101, 114, 95, 95]⟩ 4 (Value.builtin "builtins.__loader__:shared#opaque"), dnt P ⟨#[95, 95, 115, 112, 101, 99, 95, 95]⟩ 5 (Value.builtin "builtins.__spec__#opaque"), dnt P ⟨#[95, 95, 98, 117, 105, 108, 100, 95, 99, 108, 97, 115, 115, 95, 95]⟩ 6 (Value.builtin "__build_class__"), dnt P ⟨#[95, 95, 105, 109, 112, 111, 114, 116, 95, 95]⟩ 7 (Value.builtin "__import__"), dnt P ⟨#[97, 98, 115]⟩ 8 (Value.builtin "abs"), dnt P ⟨#[97, 108, 108]⟩ 9 (Value.builtin "all"), dnt P ⟨#[97, 110, 121]⟩ 10 (Value.builtin "any"), dnt P ⟨#[97, 115, 99, 105, 105]⟩ 11 (Value.builtin "ascii"), dnt P ⟨#[98, 105, 110]⟩ 12 (Value.builtin "bin"), dnt P ⟨#[98, 114, 101, 97, 107, 112, 111, 105, 110, 116]⟩ 13 (Value.builtin "breakpoint"), dnt P ⟨#[99, 97, 108, 108, 97, 98, 108, 101]⟩ 14 (Value.builtin "callable"), dnt P ⟨#[99, 104, 114]⟩ 15 (Value.builtin "chr"), dnt P ⟨#[99, 111, 109, 112, 105, 108, 101]⟩ 16 (Value.builtin "compile"), dnt P ⟨#[100, 101, 108, 97, 116, 116, 114]⟩ 17 (Value.builtin "delattr"), dnt P ⟨#[100, 105, 114]⟩ 18 (Value.builtin "dir"), dnt P ⟨#[100, 105, 118, 109, 111, 100]⟩ 19 (Value.builtin "divmod"), dnt P ⟨#[101, 118, 97, 108]⟩ 20 (Value.builtin "eval"), dnt P ⟨#[101, 120, 101, 99]⟩ 21 (Value.builtin "exec"), dnt P ⟨#[102, 111, 114, 109, 97, 116]⟩ 22 (Value.builtin "format"), dnt P ⟨#[103, 101, 116, 97, 116, 116, 114]⟩ 23 (Value.builtin "getattr"), dnt P ⟨#[103, 108, 111, 98, 97, 108, 115]⟩ 24 (Value.builtin "globals"), dnt P ⟨#[104, 97, 115, 97, 116, 116, 114]⟩ 25 (Value.builtin "hasattr"), dnt P ⟨#[104, 97, 115, 104]⟩ 26 (Value.builtin "hash"), dnt P ⟨#[104, 101, 120]⟩ 27 (Value.builtin "hex"), dnt P ⟨#[105, 100]⟩ 28 (Value.builtin "id"), dnt P ⟨#[105, 110, 112, 117, 116]⟩ 29 (Value.builtin "input"), dnt P ⟨#[105, 115, 105, 110, 115, 116, 97, 110, 99, 101]⟩ 30 (Value.builtin "isinstance"), dnt P ⟨#[105, 115, 115, 117, 98, 99, 108, 97, 115, 115]⟩ 31 (Value.builtin "issubclass"), dnt P ⟨#[105, 116, 101, 114]⟩ 32 (Value.builtin "iter"), dnt P ⟨#[97, 105, 116, 101, 114]⟩ 33 (Value.builtin "aiter"), dnt P ⟨#[108, 101, 110]⟩ 34 (Value.builtin "len"), dnt P ⟨#[108, 111, 99, 97, 108, 115]⟩ 35 (Value.builtin "locals"), dnt P ⟨#[109, 97, 120]⟩ 36 (Value.builtin "max"), dnt P ⟨#[109, 105, 110]⟩ 37 (Value.builtin "min"), dnt P ⟨#[110, 101, 120, 116]⟩ 38 (Value.builtin "next"), dnt P ⟨#[97, 110, 101, 120, 116]⟩ 39 (Value.builtin "anext"), dnt P ⟨#[111, 99, 116]⟩ 40 (Value.builtin "oct"), dnt P ⟨#[111, 114, 100]⟩ 41 (Value.builtin "ord"), dnt P ⟨#[112, 111, 119]⟩ 42 (Value.builtin "pow"), dnt P ⟨#[112, 114, 105, 110, 116]⟩ 43 (Value.builtin "print"), dnt P ⟨#[114, 101, 112, 114]⟩ 44 (Value.builtin "repr"), dnt P ⟨#[114, 111, 117, 110, 100]⟩ 45 (Value.builtin "round"), dnt P ⟨#[115, 101, 116, 97, 116, 116, 114]⟩ 46 (Value.builtin "setattr"), dnt P ⟨#[115, 111, 114, 116, 101, 100]⟩ 47 (Value.builtin "sorted"), dnt P ⟨#[115, 117, 109]⟩ 48 (Value.builtin "sum"), dnt P ⟨#[118, 97, 114, 115]⟩ 49 (Value.builtin "vars"), dnt P ⟨#[78, 111, 110, 101]⟩ 50 (Value.none), dnt P ⟨#[69, 108, 108, 105, 112, 115, 105, 115]⟩ 51 (Value.ellipsis), dnt P ⟨#[78, 111, 116, 73, 109, 112, 108, 101, 109, 101, 110, 116, 101, 100]⟩ 52 (Value.notImplemented), dnt P ⟨#[70, 97, 108, 115, 101]⟩ 53 (Value.bool false), dnt P ⟨#[84, 114, 117, 101]⟩ 54 (Value.bool true), dnt P ⟨#[98, 111, 111, 108]⟩ 55 (Value.type "bool"), dnt P ⟨#[109, 101, 109, 111, 114, 121, 118, 105, 101, 119]⟩ 56 (Value.type "memoryview"), dnt P ⟨#[98, 121, 116, 101, 97, 114, 114, 97, 121]⟩ 57 (Value.type "bytearray"), dnt P ⟨#[98, 121, 116, 101, 115]⟩ 58 (Value.type "bytes"), dnt P ⟨#[99, 108, 97, 115, 115, 109, 101, 116, 104, 111, 100]⟩ 59 (Value.type "classmethod"), dnt P ⟨#[99, 111, 109, 112, 108, 101, 120]⟩ 60 (Value.type "complex"), dnt P ⟨#[100, 105, 99, 116]⟩ 61 (Value.type "dict"), dnt P ⟨#[101, 110, 117, 109, 101, 114, 97, 116, 101]⟩ 62 (Value.type "enumerate"), dnt P ⟨#[102, 105, 108, 116, 101, 114]⟩ 63 (Value.type "filter"), dnt P ⟨#[102, 108, 111, 97, 116]⟩ 64 (Value.type "float"), dnt P ⟨#[102, 114, 111, 122, 101, 110, 115, 101, 116]⟩ 65 (Value.type "frozenset"), dnt P ⟨#[112, 114, 111, 112, 101, 114, 116, 121]⟩ 66 (Value.type "property"), dnt P ⟨#[105, 110, 116]⟩ 67 (Value.type "int"), dnt P ⟨#[108, 105, 115, 116]⟩ 68 (Value.type "list"), dnt P ⟨#[109, 97, 112]⟩ 69 (Value.type "map"), dnt P ⟨#[111, 98, 106, 101, 99, 116]⟩ 70 (Value.type "object"), dnt P ⟨#[114, 97, 110, 103, 101]⟩ 71 (Value.type "range"), dnt P ⟨#[114, 101, 118, 101, 114, 115, 101, 100]⟩ 72 (Value.type "reversed"), dnt P ⟨#[115, 101, 116]⟩ 73 (Value.type "set"), dnt P ⟨#[115, 108, 105, 99, 101]⟩ 74 (Value.type "slice"), dnt P ⟨#[115, 116, 97, 116, 105, 99, 109, 101, 116, 104, 111, 100]⟩ 75 (Value.type "staticmethod"), dnt P ⟨#[115, 116, 114]⟩ 76 (Value.type "str"), dnt P ⟨#[115, 117, 112, 101, 114]⟩ 77 (Value.type "super"), dnt P ⟨#[116, 117, 112, 108, 101]⟩ 78 (Value.type "tuple"), dnt P ⟨#[116, 121, 112, 101]⟩ 79 (Value.type "type"), dnt P ⟨#[122, 105, 112]⟩ 80 (Value.type "zip"), dnt P ⟨#[95, 95, 100, 101, 98, 117, 103, 95, 95]⟩ 81 (Value.bool true), dnt P ⟨#[66, 97, 115, 101, 69, 120, 99, 101, 112, 116, 105, 111, 110]⟩ 82 (Value.type "BaseException"), dnt P ⟨#[66, 97, 115, 101, 69, 120, 99, 101, 112, 116, 105, 111, 110, 71, 114, 111, 117, 112]⟩ 83 (Value.type "BaseExceptionGroup"), dnt P ⟨#[69, 120, 99, 101, 112, 116, 105, 111, 110]⟩ 84 (Value.type "Exception"), dnt P ⟨#[71, 101, 110, 101, 114, 97, 116, 111, 114, 69, 120, 105, 116]⟩ 85 (Value.type "GeneratorExit"), dnt P ⟨#[75, 101, 121, 98, 111, 97, 114, 100, 73, 110, 116, 101, 114, 114, 117, 112, 116]⟩ 86 (Value.type "KeyboardInterrupt"), dnt P ⟨#[83, 121, 115, 116, 101, 109, 69, 120, 105, 116]⟩ 87 (Value.type "SystemExit"), dnt P ⟨#[65, 114, 105, 116, 104, 109, 101, 116, 105, 99, 69, 114, 114, 111, 114]⟩ 88 (Value.type "ArithmeticError"), dnt P ⟨#[65, 115, 115, 101, 114, 116, 105, 111, 110, 69, 114, 114, 111, 114]⟩ 89 (Value.type "AssertionError"), dnt P ⟨#[65, 116, 116, 114, 105, 98, 117, 116, 101, 69, 114, 114, 111, 114]⟩ 90 (Value.type "AttributeError"), dnt P ⟨#[66, 117, 102, 102, 101, 114, 69, 114, 114, 111, 114]⟩ 91 (Value.type "BufferError"), dnt P ⟨#[69, 79, 70, 69, 114, 114, 111, 114]⟩ 92 (Value.type "EOFError"), dnt P ⟨#[73, 109, 112, 111, 114, 116, 69, 114, 114, 111, 114]⟩ 93 (Value.type "ImportError"), dnt P ⟨#[76, 111, 111, 107, 117, 112, 69, 114, 114, 111, 114]⟩ 94 (Value.type "LookupError"), dnt P ⟨#[77, 101, 109, 111, 114, 121, 69, 114, 114, 111, 114]⟩ 95 (Value.type "MemoryError"), dnt P ⟨#[78, 97, 109, 101, 69, 114, 114, 111, 114]⟩ 96 (Value.type "NameError"), dnt P ⟨#[79, 83, 69, 114, 114, 111, 114]⟩ 97 (Value.type "OSError"), dnt P ⟨#[82, 101, 102, 101, 114, 101, 110, 99, 101, 69, 114, 114, 111, 114]⟩ 98 (Value.type "ReferenceError"), dnt P ⟨#[82, 117, 110, 116, 105, 109, 101, 69, 114, 114, 111, 114]⟩ 99 (Value.type "RuntimeError"), dnt P ⟨#[83, 116, 111, 112, 65, 115, 121, 110, 99, 73, 116, 101, 114, 97, 116, 105, 111, 110]⟩ 100 (Value.type "StopAsyncIteration"), dnt P ⟨#[83, 116, 111, 112, 73, 116, 101, 114, 97, 116, 105, 111, 110]⟩ 101 (Value.type "StopIteration"), dnt P ⟨#[83, 121, 110, 116, 97, 120, 69, 114, 114, 111, 114]⟩ 102 (Value.type "SyntaxError"), dnt P ⟨#[83, 121, 115, 116, 101, 109, 69, 114, 114, 111, 114]⟩ 103 (Value.type "SystemError"), dnt P ⟨#[84, 121, 112, 101, 69, 114, 114, 111, 114]⟩ 104 (Value.type "TypeError"), dnt P ⟨#[86, 97, 108, 117, 101, 69, 114, 114, 111, 114]⟩ 105 (Value.type "ValueError"), dnt P ⟨#[87, 97, 114, 110, 105, 110, 103]⟩ 106 (Value.type "Warning"), dnt P ⟨#[70, 108, 111, 97, 116, 105, 110, 103, 80, 111, 105, 110, 116, 69, 114, 114, 111, 114]⟩ 107 (Value.type "FloatingPointError"), dnt P ⟨#[79, 118, 101, 114, 102, 108, 111, 119, 69, 114, 114, 111, 114]⟩ 108 (Value.type "OverflowError"), dnt P ⟨#[90, 101, 114, 111, 68, 105, 118, 105, 115, 105, 111, 110, 69, 114, 114, 111, 114]⟩ 109 (Value.type "ZeroDivisionError"), dnt P ⟨#[66, 121, 116, 101, 115, 87, 97, 114, 110, 105, 110, 103]⟩ 110 (Value.type "BytesWarning"), dnt P ⟨#[68, 101, 112, 114, 101, 99, 97, 116, 105, 111, 110, 87, 97, 114, 110, 105, 110, 103]⟩ 111 (Value.type "DeprecationWarning"), dnt P ⟨#[69, 110, 99, 111, 100, 105, 110, 103, 87, 97, 114, 110, 105, 110, 103]⟩ 112 (Value.type "EncodingWarning"), dnt P ⟨#[70, 117, 116, 117, 114, 101, 87, 97, 114, 110, 105, 110, 103]⟩ 113 (Value.type "FutureWarning"), dnt P ⟨#[73, 109, 112, 111, 114, 116, 87, 97, 114, 110, 105, 110, 103]⟩ 114 (Value.type "ImportWarning"), dnt P ⟨#[80, 101, 110, 100, 105, 110, 103, 68, 101, 112, 114, 101, 99, 97, 116, 105, 111, 110, 87, 97, 114, 110, 105, 110, 103]⟩ 115 (Value.type "PendingDeprecationWarning"), dnt P ⟨#[82, 101, 115, 111, 117, 114, 99, 101, 87, 97, 114, 110, 105, 110, 103]⟩ 116 (Value.type "ResourceWarning"), dnt P ⟨#[82, 117, 110, 116, 105, 109, 101, 87, 97, 114, 110, 105, 110, 103]⟩ 117 (Value.type "RuntimeWarning"), dnt P ⟨#[83, 121, 110, 116, 97, 120, 87, 97, 114, 110, 105, 110, 103]⟩ 118 (Value.type "SyntaxWarning"), dnt P ⟨#[85, 110, 105, 99, 111, 100, 101, 87, 97, 114, 110, 105, 110, 103]⟩ 119 (Value.type "UnicodeWarning"), dnt P ⟨#[85, 115, 101, 114, 87, 97, 114, 110, 105, 110, 103]⟩ 120 (Value.type "UserWarning"), dnt P ⟨#[66, 108, 111, 99, 107, 105, 110, 103, 73, 79, 69, 114, 114, 111, 114]⟩ 121 (Value.type "BlockingIOError"), dnt P ⟨#[67, 104, 105, 108, 100, 80, 114, 111, 99, 101, 115, 115, 69, 114, 114, 111, 114]⟩ 122 (Value.type "ChildProcessError"), dnt P ⟨#[67, 111, 110, 110, 101, 99, 116, 105, 111, 110, 69, 114, 114, 111, 114]⟩ 123 (Value.type "ConnectionError"), dnt P ⟨#[70, 105, 108, 101, 69, 120, 105, 115, 116, 115, 69, 114, 114, 111, 114]⟩ 124 (Value.type "FileExistsError"), dnt P ⟨#[70, 105, 108, 101, 78, 111, 116, 70, 111, 117, 110, 100, 69, 114, 114, 111, 114]⟩ 125 (Value.type "FileNotFoundError"), dnt P ⟨#[73, 110, 116, 101, 114, 114, 117, 112, 116, 101, 100, 69, 114, 114, 111, 114]⟩ 126 (Value.type "InterruptedError"), dnt P ⟨#[73, 115, 65, 68, 105, 114, 101, 99, 116, 111, 114, 121, 69, 114, 114, 111, 114]⟩ 127 (Value.type "IsADirectoryError"), dnt P ⟨#[78, 111, 116, 65, 68, 105, 114, 101, 99, 116, 111, 114, 121, 69, 114, 114, 111, 114]⟩ 128 (Value.type "NotADirectoryError"), dnt P ⟨#[80, 101, 114, 109, 105, 115, 115, 105, 111, 110, 69, 114, 114, 111, 114]⟩ 129 (Value.type "PermissionError"), dnt P ⟨#[80, 114, 111, 99, 101, 115, 115, 76, 111, 111, 107, 117, 112, 69, 114, 114, 111, 114]⟩ 130 (Value.type "ProcessLookupError"), dnt P ⟨#[84, 105, 109, 101, 111, 117, 116, 69, 114, 114, 111, 114]⟩ 131 (Value.type "TimeoutError"), dnt P ⟨#[73, 110, 100, 101, 110, 116, 97, 116, 105, 111, 110, 69, 114, 114, 111, 114]⟩ 132 (Value.type "IndentationError"), dnt P ⟨#[95, 73, 110, 99, 111, 109, 112, 108, 101, 116, 101, 73, 110, 112, 117, 116, 69, 114, 114, 111, 114]⟩ 133 (Value.type "_IncompleteInputError"), dnt P ⟨#[73, 110, 100, 101, 120, 69, 114, 114, 111, 114]⟩ 134 (Value.type "IndexError"), dnt P ⟨#[75, 101, 121, 69, 114, 114, 111, 114]⟩ 135 (Value.type "KeyError"), dnt P ⟨#[77, 111, 100, 117, 108, 101, 78, 111, 116, 70, 111, 117, 110, 100, 69, 114, 114, 111, 114]⟩ 136 (Value.type "ModuleNotFoundError"), dnt P ⟨#[78, 111, 116, 73, 109, 112, 108, 101, 109, 101, 110, 116, 101, 100, 69, 114, 114, 111, 114]⟩ 137 (Value.type "NotImplementedError"), dnt P ⟨#[80, 121, 116, 104, 111, 110, 70, 105, 110, 97, 108, 105, 122, 97, 116, 105, 111, 110, 69, 114, 114, 111, 114]⟩ 138 (Value.type "PythonFinalizationError"), dnt P ⟨#[82, 101, 99, 117, 114, 115, 105, 111, 110, 69, 114, 114, 111, 114]⟩ 139 (Value.type "RecursionError"), dnt P ⟨#[85, 110, 98, 111, 117, 110, 100, 76, 111, 99, 97, 108, 69, 114, 114, 111, 114]⟩ 140 (Value.type "UnboundLocalError"), dnt P ⟨#[85, 110, 105, 99, 111, 100, 101, 69, 114, 114, 111, 114]⟩ 141 (Value.type "UnicodeError"), dnt P ⟨#[66, 114, 111, 107, 101, 110, 80, 105, 112, 101, 69, 114, 114, 111, 114]⟩ 142 (Value.type "BrokenPipeError"), dnt P ⟨#[67, 111, 110, 110, 101, 99, 116, 105, 111, 110, 65, 98, 111, 114, 116, 101, 100, 69, 114, 114, 111, 114]⟩ 143 (Value.type "ConnectionAbortedError"), dnt P ⟨#[67, 111, 110, 110, 101, 99, 116, 105, 111, 110, 82, 101, 102, 117, 115, 101, 100, 69, 114, 114, 111, 114]⟩ 144 (Value.type "ConnectionRefusedError"), dnt P ⟨#[67, 111, 110, 110, 101, 99, 116, 105, 111, 110, 82, 101, 115, 101, 116, 69, 114, 114, 111, 114]⟩ 145 (Value.type "ConnectionResetError"), dnt P ⟨#[84, 97, 98, 69, 114, 114, 111, 114]⟩ 146 (Value.type "TabError"), dnt P ⟨#[85, 110, 105, 99, 111, 100, 101, 68, 101, 99, 111, 100, 101, 69, 114, 114, 111, 114]⟩ 147 (Value.type "UnicodeDecodeError"), dnt P ⟨#[85, 110, 105, 99, 111, 100, 101, 69, 110, 99, 111, 100, 101, 69, 114, 114, 111, 114]⟩ 148 (Value.type "UnicodeEncodeError"), dnt P ⟨#[85, 110, 105, 99, 111, 100, 101, 84, 114, 97, 110, 115, 108, 97, 116, 101, 69, 114, 114, 111, 114]⟩ 149 (Value.type "UnicodeTranslateError"), dnt P ⟨#[69, 120, 99, 101, 112, 116, 105, 111, 110, 71, 114, 111, 117, 112]⟩ 150 (Value.type "ExceptionGroup"), dnt P ⟨#[69, 110, 118, 105, 114, 111, 110, 109, 101, 110, 116, 69, 114, 114, 111, 114]⟩ 151 (Value.type "OSError"), dnt P ⟨#[73, 79, 69, 114, 114, 111, 114]⟩ 152 (Value.type "OSError"), dnt P ⟨#[111, 112, 101, 110]⟩ 153 (Value.builtin "open"), dnt P ⟨#[113, 117, 105, 116]⟩ 154 (Value.builtin "builtins.quit#opaque"), dnt P ⟨#[101, 120, 105, 116]⟩ 155 (Value.builtin "builtins.exit#opaque"), dnt P ⟨#[99, 111, 112, 121, 114, 105, 103, 104, 116]⟩ 156 (Value.builtin "builtins.copyright#opaque"), dnt P ⟨#[99, 114, 101, 100, 105, 116, 115]⟩ 157 (Value.builtin "builtins.credits#opaque"), dnt P ⟨#[108, 105, 99, 101, 110, 115, 101]⟩ 158 (Value.builtin "builtins.license#opaque"), dnt P ⟨#[104, 101, 108, 112]⟩ 159 (Value.builtin "builtins.help#opaque")] 159 } ::
  { cls := Value.type "dict", data := Data.dict #[dent P "builtins" 162 (Value.ref 4), dent P "__main__" 163 (Value.ref 5)] 2 } ::
  d2 ::
  d3 ::
  { cls := Value.type "module", dict := some 0 } ::
  { cls := Value.type "module", dict := some 3 } ::
  { cls := Value.type "dict", data := Data.dict #[] } ::
  { cls := Value.type "tuple", data := Data.seq #[] } ::
  { cls := Value.none, data := Data.fields #[] } ::
  { cls := Value.type "code", data := Data.fields #[Value.str (Str.ofString "<module>") 176, Value.str (Str.ofString "<module>") 177, Value.str (Str.ofString "/claim/cut.py") 178, Value.int 1 0, Value.int 0 0, Value.int 0 0, Value.int 0 0, Value.int 0 0, Value.ref 7, Value.bool false, Value.int 175 0, Value.ref 8, Value.none, Value.none, Value.none, Value.none, Value.int 179 0, Value.int 1 0, Value.str (Str.ofString "/claim/cut.py") 180] } ::
  { cls := Value.type "frame", slots := #[some (Value.ref 9), some (Value.ref 3), some (Value.ref 3), none, some (Value.str (Str.ofString "__main__") 164), none, some (Value.ref 0)] } ::
  { cls := Value.type "tuple", data := Data.seq #[] } ::
  d12 ::
  { cls := Value.type "code", data := Data.fields #[Value.str (Str.ofString "<module>") 182, Value.str (Str.ofString "<module>") 183, Value.str (Str.ofString "/claim/cut.py") 184, Value.int 1 0, Value.int 0 0, Value.int 0 0, Value.int 0 0, Value.int 0 0, Value.ref 11, Value.bool false, Value.int 181 0, Value.ref 12, Value.none, Value.none, Value.none, Value.none, Value.int 185 0, Value.int 1 0, Value.str (Str.ofString "/claim/cut.py") 186] } ::
  { cls := Value.type "frame", slots := #[some (Value.ref 13), some (Value.ref 3), some (Value.ref 3), none, some (Value.str (Str.ofString "__main__") 164), none, some (Value.ref 0)] } ::
  { cls := Value.type "tuple", data := Data.seq #[Value.type "Exception"] } ::
  { cls := Value.type "builtin_function_or_method", data := Data.fields #[Value.builtin "type.__prepare__", Value.type "type"] } ::
  { cls := Value.type "dict", data := Data.dict #[dent P "__module__" 196 (Value.str (Str.ofString "gmp.limbs") 187), dent P "__qualname__" 198 (Value.str (Str.ofString "GmpError") 197), dent P "__firstlineno__" 200 (Value.int 2 199), dent P "__static_attributes__" 201 (Value.ref 22)] 4 } ::
  { cls := Value.type "tuple", data := Data.seq #[] } ::
  { cls := Value.none, data := Data.fields #[] } ::
  { cls := Value.type "code", data := Data.fields #[Value.str (Str.ofString "GmpError") 191, Value.str (Str.ofString "GmpError") 192, Value.str (Str.ofString "/claim/cut.py") 193, Value.int 2 0, Value.int 0 0, Value.int 0 0, Value.int 0 0, Value.int 0 0, Value.ref 18, Value.bool false, Value.int 181 0, Value.ref 19, Value.none, Value.none, Value.none, Value.none, Value.int 194 0, Value.int 2 0, Value.str (Str.ofString "/claim/cut.py") 195] } ::
  { cls := Value.type "frame", slots := #[some (Value.ref 20), some (Value.ref 3), some (Value.ref 17), none, some (Value.str (Str.ofString "gmp.limbs") 187), none, some (Value.ref 0)] } ::
  { cls := Value.type "tuple", data := Data.seq #[] } ::
  { cls := Value.type "dict", data := Data.dict #[dent P "__module__" 196 (Value.str (Str.ofString "gmp.limbs") 187), dent P "__firstlineno__" 200 (Value.int 2 199), dent P "__static_attributes__" 201 (Value.ref 22), dent P "__weakref__" 203 (Value.ref 25), dent P "__doc__" 204 (Value.none)] 3 } ::
  d24 ::
  { cls := Value.type "getset_descriptor", data := Data.fields #[Value.str (Str.ofString "__weakref__") 202, Value.ref 24, Value.builtin "ExceptionGroup.__weakref__", Value.none] } ::
  { cls := Value.type "super", data := Data.fields #[Value.ref 24, Value.ref 24, Value.ref 24] } ::
  { cls := Value.type "builtin_function_or_method", data := Data.fields #[Value.builtin "object.__init_subclass__", Value.ref 24] } ::
  { cls := Value.type "tuple", data := Data.seq #[Value.ref 24] } ::
  { cls := Value.type "builtin_function_or_method", data := Data.fields #[Value.builtin "type.__prepare__", Value.type "type"] } ::
  { cls := Value.type "dict", data := Data.dict #[dent P "__module__" 216 (Value.str (Str.ofString "gmp.limbs") 187), dent P "__qualname__" 218 (Value.str (Str.ofString "DivisionByZero") 217), dent P "__firstlineno__" 220 (Value.int 4 219), dent P "__static_attributes__" 221 (Value.ref 35)] 4 } ::
  { cls := Value.type "tuple", data := Data.seq #[] } ::
  { cls := Value.none, data := Data.fields #[] } ::
  { cls := Value.type "code", data := Data.fields #[Value.str (Str.ofString "DivisionByZero") 211, Value.str (Str.ofString "DivisionByZero") 212, Value.str (Str.ofString "/claim/cut.py") 213, Value.int 4 0, Value.int 0 0, Value.int 0 0, Value.int 0 0, Value.int 0 0, Value.ref 31, Value.bool false, Value.int 181 0, Value.ref 32, Value.none, Value.none, Value.none, Value.none, Value.int 214 0, Value.int 4 0, Value.str (Str.ofString "/claim/cut.py") 215] } ::
  { cls := Value.type "frame", slots := #[some (Value.ref 33), some (Value.ref 3), some (Value.ref 30), none, some (Value.str (Str.ofString "gmp.limbs") 187), none, some (Value.ref 0)] } ::
  { cls := Value.type "tuple", data := Data.seq #[] } ::
  { cls := Value.type "dict", data := Data.dict #[dent P "__module__" 216 (Value.str (Str.ofString "gmp.limbs") 187), dent P "__firstlineno__" 220 (Value.int 4 219), dent P "__static_attributes__" 221 (Value.ref 35), dent P "__doc__" 222 (Value.none)] 2 } ::
  { cls := Value.type "type", data := Data.cls { name := Str.ofString "DivisionByZero", bases := [Value.ref 24], mro := [Value.ref 37, Value.ref 24, Value.type "Exception", Value.type "BaseException", Value.type "object"], ns := 36, qualname := Str.ofString "DivisionByZero" }, slots := #[some (Value.ref 28), none, some (Value.str (Str.ofString "DivisionByZero") 209), some (Value.str (Str.ofString "DivisionByZero") 217), some (Value.builtin "Exception.__new__"), some (Value.bool true)] } ::
  { cls := Value.type "super", data := Data.fields #[Value.ref 37, Value.ref 37, Value.ref 37] } ::
  { cls := Value.type "builtin_function_or_method", data := Data.fields #[Value.builtin "object.__init_subclass__", Value.ref 37] } :: rest
noncomputable def obsPart1 (P : Params) (d2 d3 d12 d24 : Obj) (rest : List Obj) : List Obj :=
  { cls := Value.type "tuple", data := Data.seq #[Value.ref 24] } ::
  { cls := Value.type "builtin_function_or_method", data := Data.fields #[Value.builtin "type.__prepare__", Value.type "type"] } ::
  { cls := Value.type "dict", data := Data.dict #[dent P "__module__" 232 (Value.str (Str.ofString "gmp.limbs") 187), dent P "__qualname__" 234 (Value.str (Str.ofString "OutOfRange") 233), dent P "__firstlineno__" 236 (Value.int 6 235), dent P "__static_attributes__" 237 (Value.ref 47)] 4 } ::
  { cls := Value.type "tuple", data := Data.seq #[] } ::
  { cls := Value.none, data := Data.fields #[] } ::
  { cls := Value.type "code", data := Data.fields #[Value.str (Str.ofString "OutOfRange") 227, Value.str (Str.ofString "OutOfRange") 228, Value.str (Str.ofString "/claim/cut.py") 229, Value.int 6 0, Value.int 0 0, Value.int 0 0, Value.int 0 0, Value.int 0 0, Value.ref 43, Value.bool false, Value.int 181 0, Value.ref 44, Value.none, Value.none, Value.none, Value.none, Value.int 230 0, Value.int 6 0, Value.str (Str.ofString "/claim/cut.py") 231] } ::
  { cls := Value.type "frame", slots := #[some (Value.ref 45), some (Value.ref 3), some (Value.ref 42), none, some (Value.str (Str.ofString "gmp.limbs") 187), none, some (Value.ref 0)] } ::
  { cls := Value.type "tuple", data := Data.seq #[] } ::
  { cls := Value.type "dict", data := Data.dict #[dent P "__module__" 232 (Value.str (Str.ofString "gmp.limbs") 187), dent P "__firstlineno__" 236 (Value.int 6 235), dent P "__static_attributes__" 237 (Value.ref 47), dent P "__doc__" 238 (Value.none)] 2 } ::
  { cls := Value.type "type", data := Data.cls { name := Str.ofString "OutOfRange", bases := [Value.ref 24], mro := [Value.ref 49, Value.ref 24, Value.type "Exception", Value.type "BaseException", Value.type "object"], ns := 48, qualname := Str.ofString "OutOfRange" }, slots := #[some (Value.ref 40), none, some (Value.str (Str.ofString "OutOfRange") 225), some (Value.str (Str.ofString "OutOfRange") 233), some (Value.builtin "Exception.__new__"), some (Value.bool true)] } ::
  { cls := Value.type "super", data := Data.fields #[Value.ref 49, Value.ref 49, Value.ref 49] } ::
  { cls := Value.type "builtin_function_or_method", data := Data.fields #[Value.builtin "object.__init_subclass__", Value.ref 49] } ::
  { cls := Value.type "tuple", data := Data.seq #[] } ::
  { cls := Value.none, data := Data.fields #[] } ::
  { cls := Value.type "tuple", data := Data.seq #[Value.str (Str.ofString "a") 244, Value.str (Str.ofString "end") 245] } ::
  { cls := Value.type "tuple", data := Data.seq #[] } ::
  (f0 (stAt 4)) ::
  { cls := Value.type "code", data := Data.fields #[Value.str (Str.ofString "normal") 241, Value.str (Str.ofString "normal") 242, Value.str (Str.ofString "/claim/cut.py") 243, Value.int 8 0, Value.int 1 0, Value.int 0 0, Value.int 0 0, Value.int 3 0, Value.ref 52, Value.bool true, Value.int 181 0, Value.ref 53, Value.none, Value.ref 54, Value.ref 55, Value.ref 56, Value.int 246 0, Value.int 8 0, Value.str (Str.ofString "/claim/cut.py") 247] } ::
  (fobj "gmp.limbs" 187 57 (stAt 4)) ::
  { cls := Value.type "tuple", data := Data.seq #[] } ::
  { cls := Value.none, data := Data.fields #[] } ::
  { cls := Value.type "tuple", data := Data.seq #[Value.str (Str.ofString "number") 252, Value.str (Str.ofString "w") 253, Value.str (Str.ofString "found") 254, Value.str (Str.ofString "mask") 255] } ::
  { cls := Value.type "tuple", data := Data.seq #[] } ::
  (f0 (stAt 5)) ::
  { cls := Value.type "code", data := Data.fields #[Value.str (Str.ofString "nat_of") 249, Value.str (Str.ofString "nat_of") 250, Value.str (Str.ofString "/claim/cut.py") 251, Value.int 13 0, Value.int 2 0, Value.int 0 0, Value.int 0 0, Value.int 3 0, Value.ref 59, Value.bool true, Value.int 181 0, Value.ref 60, Value.none, Value.ref 61, Value.ref 62, Value.ref 63, Value.int 256 0, Value.int 13 0, Value.str (Str.ofString "/claim/cut.py") 257] } ::
  (fobj "gmp.limbs" 187 64 (stAt 5)) ::
  { cls := Value.type "tuple", data := Data.seq #[] } ::
  { cls := Value.none, data := Data.fields #[] } ::
  { cls := Value.type "tuple", data := Data.seq #[Value.str (Str.ofString "a") 262, Value.str (Str.ofString "b") 263, Value.str (Str.ofString "at") 264] } ::
  { cls := Value.type "tuple", data := Data.seq #[] } ::
  (f0 (stAt 6)) ::
  { cls := Value.type "code", data := Data.fields #[Value.str (Str.ofString "compare") 259, Value.str (Str.ofString "compare") 260, Value.str (Str.ofString "/claim/cut.py") 261, Value.int 21 0, Value.int 2 0, Value.int 0 0, Value.int 0 0, Value.int 3 0, Value.ref 66, Value.bool true, Value.int 181 0, Value.ref 67, Value.none, Value.ref 68, Value.ref 69, Value.ref 70, Value.int 265 0, Value.int 21 0, Value.str (Str.ofString "/claim/cut.py") 266] } ::
  (fobj "gmp.limbs" 187 71 (stAt 6)) ::
  { cls := Value.type "tuple", data := Data.seq #[] } ::
  { cls := Value.none, data := Data.fields #[] } ::
  { cls := Value.type "tuple", data := Data.seq #[Value.str (Str.ofString "a") 271, Value.str (Str.ofString "b") 272, Value.str (Str.ofString "w") 273, Value.str (Str.ofString "found") 274, Value.str (Str.ofString "carry") 275, Value.str (Str.ofString "mask") 276, Value.str (Str.ofString "at") 277] } ::
  { cls := Value.type "tuple", data := Data.seq #[] } ::
  (f0 (stAt 7)) ::
  { cls := Value.type "code", data := Data.fields #[Value.str (Str.ofString "add") 268, Value.str (Str.ofString "add") 269, Value.str (Str.ofString "/claim/cut.py") 270, Value.int 28 0, Value.int 3 0, Value.int 0 0, Value.int 0 0, Value.int 3 0, Value.ref 73, Value.bool true, Value.int 181 0, Value.ref 74, Value.none, Value.ref 75, Value.ref 76, Value.ref 77, Value.int 278 0, Value.int 28 0, Value.str (Str.ofString "/claim/cut.py") 279] } ::
  (fobj "gmp.limbs" 187 78 (stAt 7)) :: rest
noncomputable def obsPart2 (P : Params) (d2 d3 d12 d24 : Obj) (rest : List Obj) : List Obj :=
  { cls := Value.type "tuple", data := Data.seq #[] } ::
  { cls := Value.none, data := Data.fields #[] } ::
  { cls := Value.type "tuple", data := Data.seq #[Value.str (Str.ofString "a") 284, Value.str (Str.ofString "limb") 285, Value.str (Str.ofString "w") 286, Value.str (Str.ofString "found") 287, Value.str (Str.ofString "carry") 288, Value.str (Str.ofString "mask") 289, Value.str (Str.ofString "one") 290] } ::
  { cls := Value.type "tuple", data := Data.seq #[] } ::
  (f0 (stAt 8)) ::
  { cls := Value.type "code", data := Data.fields #[Value.str (Str.ofString "mul_limb") 281, Value.str (Str.ofString "mul_limb") 282, Value.str (Str.ofString "/claim/cut.py") 283, Value.int 43 0, Value.int 3 0, Value.int 0 0, Value.int 0 0, Value.int 3 0, Value.ref 80, Value.bool true, Value.int 181 0, Value.ref 81, Value.none, Value.ref 82, Value.ref 83, Value.ref 84, Value.int 291 0, Value.int 43 0, Value.str (Str.ofString "/claim/cut.py") 292] } ::
  (fobj "gmp.limbs" 187 85 (stAt 8)) ::
  { cls := Value.type "tuple", data := Data.seq #[] } ::
  { cls := Value.none, data := Data.fields #[] } ::
  { cls := Value.type "tuple", data := Data.seq #[Value.str (Str.ofString "a") 297, Value.str (Str.ofString "limb") 298, Value.str (Str.ofString "w") 299, Value.str (Str.ofString "found") 300, Value.str (Str.ofString "rest") 301, Value.str (Str.ofString "at") 302] } ::
  { cls := Value.type "tuple", data := Data.seq #[] } ::
  (f0 (stAt 9)) ::
  { cls := Value.type "code", data := Data.fields #[Value.str (Str.ofString "divrem_limb") 294, Value.str (Str.ofString "divrem_limb") 295, Value.str (Str.ofString "/claim/cut.py") 296, Value.int 54 0, Value.int 3 0, Value.int 0 0, Value.int 0 0, Value.int 3 0, Value.ref 87, Value.bool true, Value.int 181 0, Value.ref 88, Value.none, Value.ref 89, Value.ref 90, Value.ref 91, Value.int 303 0, Value.int 54 0, Value.str (Str.ofString "/claim/cut.py") 304] } ::
  (fobj "gmp.limbs" 187 92 (stAt 9)) ::
  { cls := Value.type "tuple", data := Data.seq #[] } ::
  { cls := Value.none, data := Data.fields #[] } ::
  { cls := Value.type "tuple", data := Data.seq #[Value.str (Str.ofString "a") 311, Value.str (Str.ofString "w") 312, Value.str (Str.ofString "found") 313, Value.str (Str.ofString "limb") 314] } ::
  { cls := Value.type "tuple", data := Data.seq #[] } ::
  (f0 (stAt 11)) ::
  { cls := Value.type "code", data := Data.fields #[Value.str (Str.ofString "plain_of") 308, Value.str (Str.ofString "plain_of") 309, Value.str (Str.ofString "/claim/cut.py") 310, Value.int 64 0, Value.int 2 0, Value.int 0 0, Value.int 0 0, Value.int 3 0, Value.ref 94, Value.bool true, Value.int 181 0, Value.ref 95, Value.none, Value.ref 96, Value.ref 97, Value.ref 98, Value.int 315 0, Value.int 64 0, Value.str (Str.ofString "/claim/cut.py") 316] } ::
  (fobj "gmp.radix" 306 99 (stAt 11)) ::
  { cls := Value.type "tuple", data := Data.seq #[] } ::
  { cls := Value.none, data := Data.fields #[] } ::
  { cls := Value.type "tuple", data := Data.seq #[Value.str (Str.ofString "base") 321] } ::
  { cls := Value.type "tuple", data := Data.seq #[] } ::
  (f0 (stAt 12)) ::
  { cls := Value.type "code", data := Data.fields #[Value.str (Str.ofString "check_base") 318, Value.str (Str.ofString "check_base") 319, Value.str (Str.ofString "/claim/cut.py") 320, Value.int 69 0, Value.int 1 0, Value.int 0 0, Value.int 0 0, Value.int 3 0, Value.ref 101, Value.bool true, Value.int 181 0, Value.ref 102, Value.none, Value.ref 103, Value.ref 104, Value.ref 105, Value.int 322 0, Value.int 69 0, Value.str (Str.ofString "/claim/cut.py") 323] } ::
  (fobj "gmp.radix" 306 106 (stAt 12)) ::
  { cls := Value.type "tuple", data := Data.seq #[] } ::
  { cls := Value.none, data := Data.fields #[] } ::
  { cls := Value.type "tuple", data := Data.seq #[Value.str (Str.ofString "a") 328, Value.str (Str.ofString "base") 329, Value.str (Str.ofString "w") 330, Value.str (Str.ofString "divrem") 331, Value.str (Str.ofString "quotient") 332, Value.str (Str.ofString "rest") 333] } ::
  { cls := Value.type "tuple", data := Data.seq #[] } ::
  (f0 (stAt 13)) ::
  { cls := Value.type "code", data := Data.fields #[Value.str (Str.ofString "digit_off") 325, Value.str (Str.ofString "digit_off") 326, Value.str (Str.ofString "/claim/cut.py") 327, Value.int 72 0, Value.int 4 0, Value.int 0 0, Value.int 0 0, Value.int 3 0, Value.ref 108, Value.bool true, Value.int 181 0, Value.ref 109, Value.none, Value.ref 110, Value.ref 111, Value.ref 112, Value.int 334 0, Value.int 72 0, Value.str (Str.ofString "/claim/cut.py") 335] } ::
  (fobj "gmp.radix" 306 113 (stAt 13)) ::
  { cls := Value.type "tuple", data := Data.seq #[] } ::
  { cls := Value.none, data := Data.fields #[] } ::
  { cls := Value.type "tuple", data := Data.seq #[Value.str (Str.ofString "a") 340, Value.str (Str.ofString "base") 341, Value.str (Str.ofString "w") 342, Value.str (Str.ofString "divrem") 343, Value.str (Str.ofString "found") 344, Value.str (Str.ofString "digit") 345] } ::
  { cls := Value.type "tuple", data := Data.seq #[] } ::
  (f0 (stAt 14)) :: rest
noncomputable def obsPart3 (P : Params) (d2 d3 d12 d24 : Obj) (rest : List Obj) : List Obj :=
  { cls := Value.type "code", data := Data.fields #[Value.str (Str.ofString "digits_plain") 337, Value.str (Str.ofString "digits_plain") 338, Value.str (Str.ofString "/claim/cut.py") 339, Value.int 77 0, Value.int 4 0, Value.int 0 0, Value.int 0 0, Value.int 3 0, Value.ref 115, Value.bool true, Value.int 181 0, Value.ref 116, Value.none, Value.ref 117, Value.ref 118, Value.ref 119, Value.int 346 0, Value.int 77 0, Value.str (Str.ofString "/claim/cut.py") 347] } ::
  (fobj "gmp.radix" 306 120 (stAt 14)) ::
  { cls := Value.type "tuple", data := Data.seq #[] } ::
  { cls := Value.none, data := Data.fields #[] } ::
  { cls := Value.type "tuple", data := Data.seq #[Value.str (Str.ofString "a") 352, Value.str (Str.ofString "base") 353, Value.str (Str.ofString "w") 354, Value.str (Str.ofString "mul") 355, Value.str (Str.ofString "found") 356, Value.str (Str.ofString "power") 357] } ::
  { cls := Value.type "tuple", data := Data.seq #[] } ::
  (f0 (stAt 15)) ::
  { cls := Value.type "code", data := Data.fields #[Value.str (Str.ofString "base_powers") 349, Value.str (Str.ofString "base_powers") 350, Value.str (Str.ofString "/claim/cut.py") 351, Value.int 84 0, Value.int 4 0, Value.int 0 0, Value.int 0 0, Value.int 3 0, Value.ref 122, Value.bool true, Value.int 181 0, Value.ref 123, Value.none, Value.ref 124, Value.ref 125, Value.ref 126, Value.int 358 0, Value.int 84 0, Value.str (Str.ofString "/claim/cut.py") 359] } ::
  (fobj "gmp.radix" 306 127 (stAt 15)) ::
  { cls := Value.type "tuple", data := Data.seq #[] } ::
  { cls := Value.none, data := Data.fields #[] } ::
  { cls := Value.type "tuple", data := Data.seq #[Value.str (Str.ofString "digits") 364, Value.str (Str.ofString "many") 365] } ::
  { cls := Value.type "tuple", data := Data.seq #[] } ::
  (f0 (stAt 16)) ::
  { cls := Value.type "code", data := Data.fields #[Value.str (Str.ofString "with_noughts") 361, Value.str (Str.ofString "with_noughts") 362, Value.str (Str.ofString "/claim/cut.py") 363, Value.int 90 0, Value.int 2 0, Value.int 0 0, Value.int 0 0, Value.int 3 0, Value.ref 129, Value.bool true, Value.int 181 0, Value.ref 130, Value.none, Value.ref 131, Value.ref 132, Value.ref 133, Value.int 366 0, Value.int 90 0, Value.str (Str.ofString "/claim/cut.py") 367] } ::
  (fobj "gmp.radix" 306 134 (stAt 16)) ::
  { cls := Value.type "tuple", data := Data.seq #[] } ::
  { cls := Value.none, data := Data.fields #[] } ::
  { cls := Value.type "tuple", data := Data.seq #[Value.str (Str.ofString "a") 372, Value.str (Str.ofString "powers") 373, Value.str (Str.ofString "base") 374, Value.str (Str.ofString "w") 375, Value.str (Str.ofString "least") 376, Value.str (Str.ofString "divrem") 377, Value.str (Str.ofString "power") 378, Value.str (Str.ofString "lesser") 379, Value.str (Str.ofString "many") 380, Value.str (Str.ofString "high") 381, Value.str (Str.ofString "low") 382, Value.str (Str.ofString "ahead") 383] } ::
  { cls := Value.type "tuple", data := Data.seq #[] } ::
  (f0 (stAt 17)) ::
  { cls := Value.type "code", data := Data.fields #[Value.str (Str.ofString "digits_by_powers") 369, Value.str (Str.ofString "digits_by_powers") 370, Value.str (Str.ofString "/claim/cut.py") 371, Value.int 92 0, Value.int 6 0, Value.int 0 0, Value.int 0 0, Value.int 3 0, Value.ref 136, Value.bool true, Value.int 181 0, Value.ref 137, Value.none, Value.ref 138, Value.ref 139, Value.ref 140, Value.int 384 0, Value.int 92 0, Value.str (Str.ofString "/claim/cut.py") 385] } ::
  (fobj "gmp.radix" 306 141 (stAt 17)) ::
  { cls := Value.type "tuple", data := Data.seq #[] } ::
  { cls := Value.none, data := Data.fields #[] } ::
  { cls := Value.type "tuple", data := Data.seq #[Value.str (Str.ofString "a") 390, Value.str (Str.ofString "base") 391, Value.str (Str.ofString "w") 392, Value.str (Str.ofString "least") 393, Value.str (Str.ofString "divrem") 394, Value.str (Str.ofString "mul") 395, Value.str (Str.ofString "powers") 396] } ::
  { cls := Value.type "tuple", data := Data.seq #[] } ::
  (f0 (stAt 18)) ::
  { cls := Value.type "code", data := Data.fields #[Value.str (Str.ofString "to_digits") 387, Value.str (Str.ofString "to_digits") 388, Value.str (Str.ofString "/claim/cut.py") 389, Value.int 101 0, Value.int 6 0, Value.int 0 0, Value.int 0 0, Value.int 3 0, Value.ref 143, Value.bool true, Value.int 181 0, Value.ref 144, Value.none, Value.ref 145, Value.ref 146, Value.ref 147, Value.int 397 0, Value.int 101 0, Value.str (Str.ofString "/claim/cut.py") 398] } ::
  (fobj "gmp.radix" 306 148 (stAt 18)) ::
  { cls := Value.type "tuple", data := Data.seq #[] } ::
  { cls := Value.none, data := Data.fields #[] } ::
  { cls := Value.type "tuple", data := Data.seq #[Value.str (Str.ofString "a") 403, Value.str (Str.ofString "base") 404, Value.str (Str.ofString "w") 405, Value.str (Str.ofString "mul") 406] } ::
  { cls := Value.type "tuple", data := Data.seq #[] } ::
  (f0 (stAt 19)) ::
  { cls := Value.type "code", data := Data.fields #[Value.str (Str.ofString "times_base") 400, Value.str (Str.ofString "times_base") 401, Value.str (Str.ofString "/claim/cut.py") 402, Value.int 105 0, Value.int 4 0, Value.int 0 0, Value.int 0 0, Value.int 3 0, Value.ref 150, Value.bool true, Value.int 181 0, Value.ref 151, Value.none, Value.ref 152, Value.ref 153, Value.ref 154, Value.int 407 0, Value.int 105 0, Value.str (Str.ofString "/claim/cut.py") 408] } ::
  (fobj "gmp.radix" 306 155 (stAt 19)) ::
  { cls := Value.type "tuple", data := Data.seq #[] } ::
  { cls := Value.none, data := Data.fields #[] } ::
  { cls := Value.type "tuple", data := Data.seq #[Value.str (Str.ofString "digits") 413, Value.str (Str.ofString "base") 414, Value.str (Str.ofString "w") 415, Value.str (Str.ofString "mul") 416, Value.str (Str.ofString "found") 417, Value.str (Str.ofString "digit") 418] } :: rest
noncomputable def obsPart4 (P : Params) (d2 d3 d12 d24 : Obj) (rest : List Obj) : List Obj :=
  { cls := Value.type "tuple", data := Data.seq #[] } ::
  (f0 (stAt 20)) ::
  { cls := Value.type "code", data := Data.fields #[Value.str (Str.ofString "number_plain") 410, Value.str (Str.ofString "number_plain") 411, Value.str (Str.ofString "/claim/cut.py") 412, Value.int 107 0, Value.int 4 0, Value.int 0 0, Value.int 0 0, Value.int 3 0, Value.ref 157, Value.bool true, Value.int 181 0, Value.ref 158, Value.none, Value.ref 159, Value.ref 160, Value.ref 161, Value.int 419 0, Value.int 107 0, Value.str (Str.ofString "/claim/cut.py") 420] } ::
  (fobj "gmp.radix" 306 162 (stAt 20)) ::
  { cls := Value.type "tuple", data := Data.seq #[] } ::
  { cls := Value.none, data := Data.fields #[] } ::
  { cls := Value.type "tuple", data := Data.seq #[Value.str (Str.ofString "digits") 425, Value.str (Str.ofString "powers") 426, Value.str (Str.ofString "base") 427, Value.str (Str.ofString "w") 428, Value.str (Str.ofString "least") 429, Value.str (Str.ofString "mul") 430, Value.str (Str.ofString "at") 431, Value.str (Str.ofString "many") 432, Value.str (Str.ofString "high") 433, Value.str (Str.ofString "low") 434] } ::
  { cls := Value.type "tuple", data := Data.seq #[] } ::
  (f0 (stAt 21)) ::
  { cls := Value.type "code", data := Data.fields #[Value.str (Str.ofString "number_by_powers") 422, Value.str (Str.ofString "number_by_powers") 423, Value.str (Str.ofString "/claim/cut.py") 424, Value.int 112 0, Value.int 6 0, Value.int 0 0, Value.int 0 0, Value.int 3 0, Value.ref 164, Value.bool true, Value.int 181 0, Value.ref 165, Value.none, Value.ref 166, Value.ref 167, Value.ref 168, Value.int 435 0, Value.int 112 0, Value.str (Str.ofString "/claim/cut.py") 436] } ::
  (fobj "gmp.radix" 306 169 (stAt 21)) ::
  { cls := Value.type "tuple", data := Data.seq #[] } ::
  { cls := Value.none, data := Data.fields #[] } ::
  { cls := Value.type "tuple", data := Data.seq #[Value.str (Str.ofString "digits") 441, Value.str (Str.ofString "base") 442, Value.str (Str.ofString "w") 443, Value.str (Str.ofString "least") 444, Value.str (Str.ofString "mul") 445, Value.str (Str.ofString "digit") 446, Value.str (Str.ofString "powers") 447] } ::
  { cls := Value.type "tuple", data := Data.seq #[] } ::
  (f0 (stAt 22)) ::
  { cls := Value.type "code", data := Data.fields #[Value.str (Str.ofString "from_digits") 438, Value.str (Str.ofString "from_digits") 439, Value.str (Str.ofString "/claim/cut.py") 440, Value.int 122 0, Value.int 5 0, Value.int 0 0, Value.int 0 0, Value.int 3 0, Value.ref 171, Value.bool true, Value.int 181 0, Value.ref 172, Value.none, Value.ref 173, Value.ref 174, Value.ref 175, Value.int 448 0, Value.int 122 0, Value.str (Str.ofString "/claim/cut.py") 449] } ::
  (fobj "gmp.radix" 306 176 (stAt 22)) ::
  { cls := Value.type "tuple", data := Data.seq #[] } ::
  { cls := Value.none, data := Data.fields #[] } ::
  { cls := Value.type "tuple", data := Data.seq #[Value.str (Str.ofString "a") 456, Value.str (Str.ofString "factor") 457, Value.str (Str.ofString "modulus") 458, Value.str (Str.ofString "w") 459, Value.str (Str.ofString "found") 460, Value.str (Str.ofString "weight") 461, Value.str (Str.ofString "limb") 462] } ::
  { cls := Value.type "tuple", data := Data.seq #[] } ::
  (f0 (stAt 24)) ::
  { cls := Value.type "code", data := Data.fields #[Value.str (Str.ofString "folded") 453, Value.str (Str.ofString "folded") 454, Value.str (Str.ofString "/claim/cut.py") 455, Value.int 134 0, Value.int 4 0, Value.int 0 0, Value.int 0 0, Value.int 3 0, Value.ref 178, Value.bool true, Value.int 181 0, Value.ref 179, Value.none, Value.ref 180, Value.ref 181, Value.ref 182, Value.int 463 0, Value.int 134 0, Value.str (Str.ofString "/claim/cut.py") 464] } ::
  (fobj "gmp.hensel" 451 183 (stAt 24)) ::
  { cls := Value.type "tuple", data := Data.seq #[] } ::
  { cls := Value.none, data := Data.fields #[] } ::
  { cls := Value.type "tuple", data := Data.seq #[Value.str (Str.ofString "a") 469, Value.str (Str.ofString "n") 470, Value.str (Str.ofString "w") 471, Value.str (Str.ofString "modulus") 472] } ::
  { cls := Value.type "tuple", data := Data.seq #[] } ::
  (f0 (stAt 25)) ::
  { cls := Value.type "code", data := Data.fields #[Value.str (Str.ofString "mod_ones") 466, Value.str (Str.ofString "mod_ones") 467, Value.str (Str.ofString "/claim/cut.py") 468, Value.int 140 0, Value.int 3 0, Value.int 0 0, Value.int 0 0, Value.int 3 0, Value.ref 185, Value.bool true, Value.int 181 0, Value.ref 186, Value.none, Value.ref 187, Value.ref 188, Value.ref 189, Value.int 473 0, Value.int 140 0, Value.str (Str.ofString "/claim/cut.py") 474] } ::
  (fobj "gmp.hensel" 451 190 (stAt 25)) ::
  { cls := Value.type "tuple", data := Data.seq #[] } ::
  { cls := Value.none, data := Data.fields #[] } ::
  (f0 (stAt 27)) ::
  { cls := Value.type "code", data := Data.fields #[Value.str (Str.ofString "_law_box") 478, Value.str (Str.ofString "_law_box") 479, Value.str (Str.ofString "/claim/cut.py") 480, Value.int 146 0, Value.int 1 0, Value.int 0 0, Value.int 0 0, Value.int 3 0, Value.ref 192, Value.bool true, Value.int 181 0, Value.ref 193, Value.none, Value.none, Value.none, Value.ref 194, Value.int 481 0, Value.int 146 0, Value.str (Str.ofString "/claim/cut.py") 482] } ::
  (fobj "law_nz0083_01" 476 195 (stAt 27)) ::
  { cls := Value.type "tuple", data := Data.seq #[] } ::
  { cls := Value.none, data := Data.fields #[] } ::
  { cls := Value.type "tuple", data := Data.seq #[Value.str (Str.ofString "box") 487, Value.str (Str.ofString "many") 488] } :: rest
noncomputable def obsPart5 (P : Params) (d2 d3 d12 d24 : Obj) (rest : List Obj) : List Obj :=
  { cls := Value.type "tuple", data := Data.seq #[] } ::
  (f0 (stAt 28)) ::
  { cls := Value.type "code", data := Data.fields #[Value.str (Str.ofString "_law_take") 484, Value.str (Str.ofString "_law_take") 485, Value.str (Str.ofString "/claim/cut.py") 486, Value.int 151 0, Value.int 2 0, Value.int 0 0, Value.int 0 0, Value.int 3 0, Value.ref 197, Value.bool true, Value.int 181 0, Value.ref 198, Value.none, Value.ref 199, Value.ref 200, Value.ref 201, Value.int 489 0, Value.int 151 0, Value.str (Str.ofString "/claim/cut.py") 490] } ::
  (fobj "law_nz0083_01" 476 202 (stAt 28)) ::
  { cls := Value.type "tuple", data := Data.seq #[] } ::
  { cls := Value.none, data := Data.fields #[] } ::
  { cls := Value.type "tuple", data := Data.seq #[Value.str (Str.ofString "n") 495, Value.str (Str.ofString "w") 496, Value.str (Str.ofString "found") 497] } ::
  { cls := Value.type "tuple", data := Data.seq #[] } ::
  (f0 (stAt 29)) ::
  { cls := Value.type "code", data := Data.fields #[Value.str (Str.ofString "_law_limbs") 492, Value.str (Str.ofString "_law_limbs") 493, Value.str (Str.ofString "/claim/cut.py") 494, Value.int 156 0, Value.int 2 0, Value.int 0 0, Value.int 0 0, Value.int 3 0, Value.ref 204, Value.bool true, Value.int 181 0, Value.ref 205, Value.none, Value.ref 206, Value.ref 207, Value.ref 208, Value.int 498 0, Value.int 156 0, Value.str (Str.ofString "/claim/cut.py") 499] } ::
  (fobj "law_nz0083_01" 476 209 (stAt 29)) ::
  { cls := Value.type "tuple", data := Data.seq #[] } ::
  { cls := Value.none, data := Data.fields #[] } ::
  { cls := Value.type "tuple", data := Data.seq #[Value.str (Str.ofString "a") 504, Value.str (Str.ofString "w") 505, Value.str (Str.ofString "found") 506, Value.str (Str.ofString "limb") 507] } ::
  { cls := Value.type "tuple", data := Data.seq #[] } ::
  (f0 (stAt 30)) ::
  { cls := Value.type "code", data := Data.fields #[Value.str (Str.ofString "_law_number") 501, Value.str (Str.ofString "_law_number") 502, Value.str (Str.ofString "/claim/cut.py") 503, Value.int 162 0, Value.int 2 0, Value.int 0 0, Value.int 0 0, Value.int 3 0, Value.ref 211, Value.bool true, Value.int 181 0, Value.ref 212, Value.none, Value.ref 213, Value.ref 214, Value.ref 215, Value.int 508 0, Value.int 162 0, Value.str (Str.ofString "/claim/cut.py") 509] } ::
  (fobj "law_nz0083_01" 476 216 (stAt 30)) ::
  { cls := Value.type "tuple", data := Data.seq #[] } ::
  { cls := Value.none, data := Data.fields #[] } ::
  { cls := Value.type "tuple", data := Data.seq #[Value.str (Str.ofString "a") 514, Value.str (Str.ofString "b") 515, Value.str (Str.ofString "w") 516] } ::
  { cls := Value.type "tuple", data := Data.seq #[] } ::
  (f0 (stAt 31)) ::
  { cls := Value.type "code", data := Data.fields #[Value.str (Str.ofString "_law_mul") 511, Value.str (Str.ofString "_law_mul") 512, Value.str (Str.ofString "/claim/cut.py") 513, Value.int 167 0, Value.int 3 0, Value.int 0 0, Value.int 0 0, Value.int 3 0, Value.ref 218, Value.bool true, Value.int 181 0, Value.ref 219, Value.none, Value.ref 220, Value.ref 221, Value.ref 222, Value.int 517 0, Value.int 167 0, Value.str (Str.ofString "/claim/cut.py") 518] } ::
  (fobj "law_nz0083_01" 476 223 (stAt 31)) ::
  { cls := Value.type "tuple", data := Data.seq #[] } ::
  { cls := Value.none, data := Data.fields #[] } ::
  { cls := Value.type "tuple", data := Data.seq #[Value.str (Str.ofString "a") 523, Value.str (Str.ofString "b") 524, Value.str (Str.ofString "w") 525, Value.str (Str.ofString "one") 526, Value.str (Str.ofString "other") 527] } ::
  { cls := Value.type "tuple", data := Data.seq #[] } ::
  (f0 (stAt 32)) ::
  { cls := Value.type "code", data := Data.fields #[Value.str (Str.ofString "_law_divrem") 520, Value.str (Str.ofString "_law_divrem") 521, Value.str (Str.ofString "/claim/cut.py") 522, Value.int 169 0, Value.int 3 0, Value.int 0 0, Value.int 0 0, Value.int 3 0, Value.ref 225, Value.bool true, Value.int 181 0, Value.ref 226, Value.none, Value.ref 227, Value.ref 228, Value.ref 229, Value.int 528 0, Value.int 169 0, Value.str (Str.ofString "/claim/cut.py") 529] } ::
  (fobj "law_nz0083_01" 476 230 (stAt 32)) ::
  { cls := Value.type "tuple", data := Data.seq #[] } ::
  { cls := Value.none, data := Data.fields #[] } ::
  { cls := Value.type "tuple", data := Data.seq #[Value.str (Str.ofString "row") 534, Value.str (Str.ofString "size") 535, Value.str (Str.ofString "base") 536, Value.str (Str.ofString "whole") 537, Value.str (Str.ofString "found") 538, Value.str (Str.ofString "at") 539, Value.str (Str.ofString "worth") 540, Value.str (Str.ofString "digit") 541] } ::
  { cls := Value.type "tuple", data := Data.seq #[] } ::
  (f0 (stAt 33)) ::
  { cls := Value.type "code", data := Data.fields #[Value.str (Str.ofString "_law_grouped") 531, Value.str (Str.ofString "_law_grouped") 532, Value.str (Str.ofString "/claim/cut.py") 533, Value.int 172 0, Value.int 3 0, Value.int 0 0, Value.int 0 0, Value.int 3 0, Value.ref 232, Value.bool true, Value.int 181 0, Value.ref 233, Value.none, Value.ref 234, Value.ref 235, Value.ref 236, Value.int 542 0, Value.int 172 0, Value.str (Str.ofString "/claim/cut.py") 543] } ::
  (fobj "law_nz0083_01" 476 237 (stAt 33)) ::
  { cls := Value.type "tuple", data := Data.seq #[] } :: rest
noncomputable def obsPart6 (P : Params) (d2 d3 d12 d24 : Obj) (rest : List Obj) : List Obj :=
  { cls := Value.none, data := Data.fields #[] } ::
  { cls := Value.type "tuple", data := Data.seq #[Value.str (Str.ofString "box") 548, Value.str (Str.ofString "w") 549, Value.str (Str.ofString "found") 550, Value.str (Str.ofString "turn") 551] } ::
  { cls := Value.type "tuple", data := Data.seq #[] } ::
  (f0 (stAt 34)) ::
  { cls := Value.type "code", data := Data.fields #[Value.str (Str.ofString "_law_drawn") 545, Value.str (Str.ofString "_law_drawn") 546, Value.str (Str.ofString "/claim/cut.py") 547, Value.int 180 0, Value.int 2 0, Value.int 0 0, Value.int 0 0, Value.int 3 0, Value.ref 239, Value.bool true, Value.int 181 0, Value.ref 240, Value.none, Value.ref 241, Value.ref 242, Value.ref 243, Value.int 552 0, Value.int 180 0, Value.str (Str.ofString "/claim/cut.py") 553] } ::
  (fobj "law_nz0083_01" 476 244 (stAt 34)) ::
  { cls := Value.type "tuple", data := Data.seq #[] } ::
  { cls := Value.none, data := Data.fields #[] } ::
  { cls := Value.type "tuple", data := Data.seq #[Value.str (Str.ofString "n") 558, Value.str (Str.ofString "row") 559, Value.str (Str.ofString "base") 560, Value.str (Str.ofString "turned") 561] } ::
  { cls := Value.type "tuple", data := Data.seq #[] } ::
  (f0 (stAt 35)) ::
  { cls := Value.type "code", data := Data.fields #[Value.str (Str.ofString "_law_rests_right") 555, Value.str (Str.ofString "_law_rests_right") 556, Value.str (Str.ofString "/claim/cut.py") 557, Value.int 185 0, Value.int 3 0, Value.int 0 0, Value.int 0 0, Value.int 3 0, Value.ref 246, Value.bool true, Value.int 181 0, Value.ref 247, Value.none, Value.ref 248, Value.ref 249, Value.ref 250, Value.int 562 0, Value.int 185 0, Value.str (Str.ofString "/claim/cut.py") 563] } ::
  (fobj "law_nz0083_01" 476 251 (stAt 35)) ::
  { cls := Value.type "tuple", data := Data.seq #[] } ::
  { cls := Value.none, data := Data.fields #[] } ::
  { cls := Value.type "tuple", data := Data.seq #[Value.str (Str.ofString "n") 568, Value.str (Str.ofString "few") 569, Value.str (Str.ofString "w") 570, Value.str (Str.ofString "total") 571, Value.str (Str.ofString "rest") 572] } ::
  { cls := Value.type "tuple", data := Data.seq #[] } ::
  (f0 (stAt 36)) ::
  { cls := Value.type "code", data := Data.fields #[Value.str (Str.ofString "_law_ones_right") 565, Value.str (Str.ofString "_law_ones_right") 566, Value.str (Str.ofString "/claim/cut.py") 567, Value.int 188 0, Value.int 3 0, Value.int 0 0, Value.int 0 0, Value.int 3 0, Value.ref 253, Value.bool true, Value.int 181 0, Value.ref 254, Value.none, Value.ref 255, Value.ref 256, Value.ref 257, Value.int 573 0, Value.int 188 0, Value.str (Str.ofString "/claim/cut.py") 574] } ::
  (fobj "law_nz0083_01" 476 258 (stAt 36)) ::
  { cls := Value.type "tuple", data := Data.seq #[] } ::
  { cls := Value.none, data := Data.fields #[] } ::
  { cls := Value.type "tuple", data := Data.seq #[Value.str (Str.ofString "script") 579, Value.str (Str.ofString "box") 580, Value.str (Str.ofString "w") 581, Value.str (Str.ofString "base") 582, Value.str (Str.ofString "size") 583, Value.str (Str.ofString "n") 584, Value.str (Str.ofString "other") 585, Value.str (Str.ofString "a") 586, Value.str (Str.ofString "least") 587, Value.str (Str.ofString "row") 588, Value.str (Str.ofString "many") 589, Value.str (Str.ofString "mate") 590, Value.str (Str.ofString "wide") 591, Value.str (Str.ofString "one") 592, Value.str (Str.ofString "two") 593] } ::
  { cls := Value.type "tuple", data := Data.seq #[] } ::
  (f0 (stAt 37)) ::
  { cls := Value.type "code", data := Data.fields #[Value.str (Str.ofString "law") 576, Value.str (Str.ofString "law") 577, Value.str (Str.ofString "/claim/cut.py") 578, Value.int 193 0, Value.int 1 0, Value.int 0 0, Value.int 0 0, Value.int 3 0, Value.ref 260, Value.bool true, Value.int 181 0, Value.ref 261, Value.none, Value.ref 262, Value.ref 263, Value.ref 264, Value.int 594 0, Value.int 193 0, Value.str (Str.ofString "/claim/cut.py") 595] } ::
  (fobj "law_nz0083_01" 476 265 (stAt 37)) :: rest
noncomputable def obs (P : Params) (d2 d3 d12 d24 : Obj) : List Obj := (obsPart0 P d2 d3 d12 d24 (obsPart1 P d2 d3 d12 d24 (obsPart2 P d2 d3 d12 d24 (obsPart3 P d2 d3 d12 d24 (obsPart4 P d2 d3 d12 d24 (obsPart5 P d2 d3 d12 d24 (obsPart6 P d2 d3 d12 d24 [])))))))
noncomputable def glEnts (P : Params) (v : Value) : List DictEntry :=
  dent P "__name__" 165 v ::
  dent P "__doc__" 166 (Value.none) ::
  dent P "__package__" 167 (Value.none) ::
  dent P "__loader__" 168 (Value.builtin "__main__.__loader__#opaque") ::
  dent P "__spec__" 169 (Value.none) ::
  dent P "__annotations__" 170 (Value.ref 6) ::
  dent P "__builtins__" 171 (Value.ref 4) ::
  dent P "__file__" 173 (Value.str (Str.ofString "/claim/cut.py") 172) ::
  dent P "__cached__" 174 (Value.none) ::
  dent P "GmpError" 208 (Value.ref 24) ::
  dent P "DivisionByZero" 224 (Value.ref 37) ::
  dent P "OutOfRange" 240 (Value.ref 49) ::
  dent P "normal" 248 (Value.ref 58) ::
  dent P "nat_of" 258 (Value.ref 65) ::
  dent P "compare" 267 (Value.ref 72) ::
  dent P "add" 280 (Value.ref 79) ::
  dent P "mul_limb" 293 (Value.ref 86) ::
  dent P "divrem_limb" 305 (Value.ref 93) ::
  dent P "plain_of" 317 (Value.ref 100) ::
  dent P "check_base" 324 (Value.ref 107) ::
  dent P "digit_off" 336 (Value.ref 114) ::
  dent P "digits_plain" 348 (Value.ref 121) ::
  dent P "base_powers" 360 (Value.ref 128) ::
  dent P "with_noughts" 368 (Value.ref 135) ::
  dent P "digits_by_powers" 386 (Value.ref 142) ::
  dent P "to_digits" 399 (Value.ref 149) ::
  dent P "times_base" 409 (Value.ref 156) ::
  dent P "number_plain" 421 (Value.ref 163) ::
  dent P "number_by_powers" 437 (Value.ref 170) ::
  dent P "from_digits" 450 (Value.ref 177) ::
  dent P "folded" 465 (Value.ref 184) ::
  dent P "mod_ones" 475 (Value.ref 191) ::
  dent P "_law_box" 483 (Value.ref 196) ::
  dent P "_law_take" 491 (Value.ref 203) ::
  dent P "_law_limbs" 500 (Value.ref 210) ::
  dent P "_law_number" 510 (Value.ref 217) ::
  dent P "_law_mul" 519 (Value.ref 224) ::
  dent P "_law_divrem" 530 (Value.ref 231) ::
  dent P "_law_grouped" 544 (Value.ref 238) ::
  dent P "_law_drawn" 554 (Value.ref 245) ::
  dent P "_law_rests_right" 564 (Value.ref 252) ::
  dent P "_law_ones_right" 575 (Value.ref 259) ::
  dent P "law" 596 (Value.ref 266) :: []
noncomputable def gl (P : Params) (v : Value) (n : Nat) : Obj := { cls := .type "dict", data := .dict ⟨(glEnts P v).take n⟩ n }
def linesAt : List Value :=
  Value.int 2 0 :: Value.int 0 0 :: Value.ref 20 :: Value.int 4 0 :: Value.int 0 0 :: Value.ref 33 :: Value.int 6 0 :: Value.int 0 0 :: Value.ref 45 :: Value.int 8 0 :: Value.int 0 0 :: Value.ref 57 :: Value.int 13 0 :: Value.int 0 0 :: Value.ref 64 :: Value.int 21 0 :: Value.int 0 0 :: Value.ref 71 :: Value.int 28 0 :: Value.int 0 0 :: Value.ref 78 :: Value.int 43 0 :: Value.int 0 0 :: Value.ref 85 :: Value.int 54 0 :: Value.int 0 0 :: Value.ref 92 :: Value.int 64 0 :: Value.int 0 0 :: Value.ref 99 :: Value.int 69 0 :: Value.int 0 0 :: Value.ref 106 :: Value.int 72 0 :: Value.int 0 0 :: Value.ref 113 :: Value.int 77 0 :: Value.int 0 0 :: Value.ref 120 :: Value.int 84 0 :: Value.int 0 0 :: Value.ref 127 :: Value.int 90 0 :: Value.int 0 0 :: Value.ref 134 :: Value.int 92 0 :: Value.int 0 0 :: Value.ref 141 :: Value.int 101 0 :: Value.int 0 0 :: Value.ref 148 :: Value.int 105 0 :: Value.int 0 0 :: Value.ref 155 :: Value.int 107 0 :: Value.int 0 0 :: Value.ref 162 :: Value.int 112 0 :: Value.int 0 0 :: Value.ref 169 :: Value.int 122 0 :: Value.int 0 0 :: Value.ref 176 :: Value.int 134 0 :: Value.int 0 0 :: Value.ref 183 :: Value.int 140 0 :: Value.int 0 0 :: Value.ref 190 :: Value.int 146 0 :: Value.int 0 0 :: Value.ref 195 :: Value.int 151 0 :: Value.int 0 0 :: Value.ref 202 :: Value.int 156 0 :: Value.int 0 0 :: Value.ref 209 :: Value.int 162 0 :: Value.int 0 0 :: Value.ref 216 :: Value.int 167 0 :: Value.int 0 0 :: Value.ref 223 :: Value.int 169 0 :: Value.int 0 0 :: Value.ref 230 :: Value.int 172 0 :: Value.int 0 0 :: Value.ref 237 :: Value.int 180 0 :: Value.int 0 0 :: Value.ref 244 :: Value.int 185 0 :: Value.int 0 0 :: Value.ref 251 :: Value.int 188 0 :: Value.int 0 0 :: Value.ref 258 :: Value.int 193 0 :: Value.int 0 0 :: Value.ref 265 :: []
def c12 (n : Nat) : Obj := { cls := .none, data := .fields ⟨linesAt.take n⟩ }
noncomputable def d2full (P : Params) : Obj := { cls := Value.none, data := Data.dict #[dent P "type.__subclasses__.Exception.0" 205 (Value.int 24 0), dent P "type.__subclasses__.Exception.n" 206 (Value.int 1 0)] 2 }
def d2none : Obj := { cls := .none, data := .dict #[] }
def gmp (subs : List Value) : Obj := { cls := Value.type "type", data := Data.cls { name := Str.ofString "GmpError", bases := [Value.type "Exception"], mro := [Value.ref 24, Value.type "Exception", Value.type "BaseException", Value.type "object"], ns := 23, qualname := Str.ofString "GmpError", subclasses := subs }, slots := #[some (Value.ref 15), none, some (Value.str (Str.ofString "GmpError") 189), some (Value.str (Str.ofString "GmpError") 197), some (Value.builtin "Exception.__new__"), some (Value.bool true)] }
noncomputable def hp (P : Params) (m : Nat) (v : Value) (n k : Nat) (d2 : Obj) (subs : List Value) : Heap := { objs := ⟨(obs P d2 (gl P v n) (c12 k) (gmp subs)).take m⟩ }
abbrev PG0 : Program := PySem.Challenge.rw_nz0083_01.row.prog
def bd : List Stmt := behindTheImports PG0
def env0 : Env := { scope := PG0.main.scope, locals := 3, globals := 3, cells := [], code := .ref 13, frame := some 14 }
abbrev cd0 : Code := .body bd env0
abbrev B0 : List Frame := [topFrame ⟨0, 0, 0, 0⟩]
abbrev ann0 : Option Value := some (.ref 6)
theorem drop_cut {α : Type} (L : List α) (i k j : Nat) (e : i + k = j) : L.drop i = (L.drop i).take k ++ L.drop j := by
  rw [← e, ← List.drop_drop, List.take_append_drop]
theorem seg_cut {w : World} {n N i k j : Nat} {s s' r : Shared} {pos p' : Pos} (h : segRun treeTable PG0 w 11 ann0 1 n s (piecesOf ((bd.drop i).take k) env0 cd0 pos B0) = some (.next, s', cd0, p'))
    (e : i + k = j) (g : topRun treeTable PG0 w 11 ann0 N s' (restOf (bd.drop j) env0 cd0 p' B0) = some r) : topRun treeTable PG0 w 11 ann0 (n + N) s (restOf (bd.drop i) env0 cd0 pos B0) = some r := by
  rw [drop_cut bd i k j e]; exact piece_app h g
noncomputable def h0 : Params → Heap := fun P => (hp P 11 (Value.str (Str.ofString "__main__") 164) 9 0 d2none [])
noncomputable def h1 : Params → Heap := fun P => (hp P 15 (Value.str (Str.ofString "__main__") 164) 9 0 d2none [])
noncomputable def h6 : Params → Heap := fun P => (hp P 52 (Value.str (Str.ofString "gmp.limbs") 187) 12 9 (d2full P) [Value.ref 37, Value.ref 49])
noncomputable def h12 : Params → Heap := fun P => (hp P 94 (Value.str (Str.ofString "gmp.limbs") 187) 18 27 (d2full P) [Value.ref 37, Value.ref 49])
noncomputable def h18 : Params → Heap := fun P => (hp P 129 (Value.str (Str.ofString "gmp.radix") 306) 23 42 (d2full P) [Value.ref 37, Value.ref 49])
noncomputable def h24 : Params → Heap := fun P => (hp P 171 (Value.str (Str.ofString "gmp.radix") 306) 29 60 (d2full P) [Value.ref 37, Value.ref 49])
noncomputable def h30 : Params → Heap := fun P => (hp P 197 (Value.str (Str.ofString "law_nz0083_01") 476) 33 72 (d2full P) [Value.ref 37, Value.ref 49])
noncomputable def h36 : Params → Heap := fun P => (hp P 239 (Value.str (Str.ofString "law_nz0083_01") 476) 39 90 (d2full P) [Value.ref 37, Value.ref 49])
noncomputable def h40 : Params → Heap := fun P => (hp P 267 (Value.str (Str.ofString "law_nz0083_01") 476) 43 102 (d2full P) [Value.ref 37, Value.ref 49])
theorem open0 : ∀ w : World, (fencedOpening treeTable PG0 w 3502).map (fun s => (s.heap, s.gens, s.drawn, s.toks)) = some (h0 w.params, #[], {}, 181) := fun w => by kernel_rfl
theorem size0 : ∀ w : World, ((h0 w.params).isNs mainGlobals && (#[] : Array GenState).size == 0, (h0 w.params).objs.size, (h0 w.params).nsMap mainGlobals "__annotations__") = (true, 11, ann0) := fun w => by kernel_rfl
theorem pre0 : ∀ (w : World) (os : OsState), topGo treeTable PG0 w 11 ann0 12 ⟨h0 w.params, #[], {}, 181, os⟩ (topStub PG0) = some (⟨h1 w.params, #[], {}, 187, os⟩, ⟨denote treeTable cd0, cd0, ⟨0, 0, 0, 0⟩, B0⟩) := fun w os => by kernel_rfl
theorem block0 : ∀ (w : World) (os : OsState), segRun treeTable PG0 w 11 ann0 1 1 ⟨h1 w.params, #[], {}, 187, os⟩ (blockOf bd env0 cd0 ⟨0, 0, 0, 0⟩ B0) = some (.next, ⟨h1 w.params, #[], {}, 187, os⟩, cd0, ⟨0, 0, 0, 0⟩) := fun w os => by kernel_rfl
theorem seg0 : ∀ (w : World) (os : OsState), segRun treeTable PG0 w 11 ann0 1 632 ⟨h1 w.params, #[], {}, 187, os⟩ (piecesOf ((bd.drop 0).take 4) env0 cd0 ⟨0, 0, 0, 0⟩ B0) = some (.next, ⟨h6 w.params, #[], {}, 241, os⟩, cd0, ⟨6, 0, 7, 8⟩) := fun w os => by kernel_rfl
theorem seg1 : ∀ (w : World) (os : OsState), segRun treeTable PG0 w 11 ann0 1 198 ⟨h6 w.params, #[], {}, 241, os⟩ (piecesOf ((bd.drop 4).take 6) env0 cd0 ⟨6, 0, 7, 8⟩ B0) = some (.next, ⟨h12 w.params, #[], {}, 306, os⟩, cd0, ⟨54, 0, 62, 32⟩) := fun w os => by kernel_rfl
theorem seg2 : ∀ (w : World) (os : OsState), segRun treeTable PG0 w 11 ann0 1 173 ⟨h12 w.params, #[], {}, 306, os⟩ (piecesOf ((bd.drop 10).take 6) env0 cd0 ⟨54, 0, 62, 32⟩ B0) = some (.next, ⟨h18 w.params, #[], {}, 361, os⟩, cd0, ⟨84, 0, 89, 16⟩) := fun w os => by kernel_rfl
theorem seg3 : ∀ (w : World) (os : OsState), segRun treeTable PG0 w 11 ann0 1 210 ⟨h18 w.params, #[], {}, 361, os⟩ (piecesOf ((bd.drop 16).take 6) env0 cd0 ⟨84, 0, 89, 16⟩ B0) = some (.next, ⟨h24 w.params, #[], {}, 438, os⟩, cd0, ⟨112, 0, 121, 48⟩) := fun w os => by kernel_rfl
theorem seg4 : ∀ (w : World) (os : OsState), segRun treeTable PG0 w 11 ann0 1 147 ⟨h24 w.params, #[], {}, 438, os⟩ (piecesOf ((bd.drop 22).take 6) env0 cd0 ⟨112, 0, 121, 48⟩ B0) = some (.next, ⟨h30 w.params, #[], {}, 484, os⟩, cd0, ⟨146, 0, 150, 55⟩) := fun w os => by kernel_rfl
theorem seg5 : ∀ (w : World) (os : OsState), segRun treeTable PG0 w 11 ann0 1 194 ⟨h30 w.params, #[], {}, 484, os⟩ (piecesOf ((bd.drop 28).take 6) env0 cd0 ⟨146, 0, 150, 55⟩ B0) = some (.next, ⟨h36 w.params, #[], {}, 545, os⟩, cd0, ⟨172, 0, 179, 16⟩) := fun w os => by kernel_rfl
theorem seg6 : ∀ (w : World) (os : OsState), segRun treeTable PG0 w 11 ann0 1 141 ⟨h36 w.params, #[], {}, 545, os⟩ (piecesOf ((bd.drop 34).take 4) env0 cd0 ⟨172, 0, 179, 16⟩ B0) = some (.next, ⟨h40 w.params, #[], {}, 597, os⟩, cd0, ⟨193, 0, 213, 90⟩) := fun w os => by kernel_rfl
theorem fin0 : ∀ (w : World) (os : OsState), topRun treeTable PG0 w 11 ann0 2 ⟨h40 w.params, #[], {}, 597, os⟩ (restOf (bd.drop 38) env0 cd0 ⟨193, 0, 213, 90⟩ B0) = some ⟨h40 w.params, #[], {}, 597, os⟩ := fun w os => by kernel_rfl
theorem run0 : ∀ (w : World) (os : OsState), topRun treeTable PG0 w 11 ann0 (12 + (1 + (632 + (198 + (173 + (210 + (147 + (194 + (141 + 2))))))))) ⟨h0 w.params, #[], {}, 181, os⟩ (topStub PG0) = some ⟨h40 w.params, #[], {}, 597, os⟩ := fun w os =>
  go_top (pre0 w os) (piece_block (block0 w os) (seg_cut (i := 0) (seg0 w os) rfl (seg_cut (i := 4) (seg1 w os) rfl (seg_cut (i := 10) (seg2 w os) rfl (seg_cut (i := 16) (seg3 w os) rfl (seg_cut (i := 22) (seg4 w os) rfl (seg_cut (i := 28) (seg5 w os) rfl (seg_cut (i := 34) (seg6 w os) rfl (fin0 w os)))))))))
end hd
noncomputable abbrev hook : Hook := kHook hd.heap_39 hd.at_39 (fun _ => by kernel_rfl)
abbrev hd.Xt0 : Shared → Bool := fun s => xlAt hd.view_39 [] s && recOk PySem.Challenge.rw_nz0083_01.row.records s
theorem lookA : ∀ (w : World) (os : OsState), (staticsOk (importedModules hd.PG0.main.body) (hd.h0 w.params) (hd.h40 w.params) && namesBound hd.PG0 (hd.h40 w.params) && gensDone ⟨hd.h40 w.params, #[], {}, 597, os⟩ && laidKept (hd.h0 w.params) (hd.h40 w.params)) = true := fun w os => by kernel_rfl
theorem lookB : ∀ (w : World) (os : OsState), openSeen hd.view_39 [] (importedModules hd.PG0.main.body) hd.Xt0 true ⟨hd.h40 w.params, #[], {}, 597, os⟩ = openGood hd.view_39 [] := fun w os => by kernel_rfl
theorem lookC : ∀ (w : World) (os : OsState), hook.obs ⟨hd.h40 w.params, #[], {}, 597, os⟩ = hook.val w := fun w os => by kernel_rfl
theorem hd.left : LeftO PySem.Challenge.rw_nz0083_01.row.prog hd.view_39 [] (fun s => xlAt hd.view_39 [] s && recOk PySem.Challenge.rw_nz0083_01.row.records s) hook.obs hook.val 3502 :=
  LeftO.of_pieces (H₀ := hd.h0) (H₁ := hd.h40) (gs₀ := #[]) (gs₁ := #[]) (d₀ := {}) (d₁ := {}) (k₀ := 181) (k₁ := 597) (m₀ := 11) (ann := hd.ann0) hd.open0 hd.size0 hd.run0 rfl
    (fun w => funext fun os => Prod.ext (lookA w os) (Prod.ext (lookB w os) (lookC w os)))
theorem rowsaid : PySem.Challenge.rw_nz0083_01.row.wellSaid = true := by
  unfold OpenRow.wellSaid OpenRow.partSaid looksOpen
  repeat' (with_reducible refine look_both ?_ ?_)
  all_goals decide +kernel
theorem said0 : PySem.Challenge.rw_nz0083_01.wellSaid = true := by
  unfold OpenLaw.wellSaid
  repeat' (with_reducible refine look_both ?_ ?_)
  exact rowsaid
  all_goals decide +kernel
section

/-! Plain laws of rows of limbs: no program in sight. -/

theorem pow_pos' {B : Int} (h : 0 < B) (n : Nat) : 0 < B ^ n := Int.pow_pos h
theorem pow_succ' (B : Int) (n : Nat) : B ^ (n + 1) = B * B ^ n := by rw [Int.pow_succ, Int.mul_comm]
theorem pow_le_pow {B : Int} (h : 1 ≤ B) {m n : Nat} (hmn : m ≤ n) : B ^ m ≤ B ^ n := by
  obtain ⟨k, rfl⟩ := Nat.exists_eq_add_of_le hmn
  induction k with
  | zero => simp
  | succ k ih =>
    have ih' := ih (by omega)
    have hp : 0 < B ^ (m + k) := pow_pos' (by omega) _
    have : B ^ (m + (k + 1)) = B * B ^ (m + k) := by rw [← pow_succ']; congr 1
    rw [this]
    have : 1 * B ^ (m + k) ≤ B * B ^ (m + k) := Int.mul_le_mul_of_nonneg_right h (Int.le_of_lt hp)
    omega

theorem getD_get {ns : List Int} {i : Nat} (h : i < ns.length) (d : Int) : ns.getD i d = ns[i] := by
  rw [List.getD_eq_getElem?_getD, List.getElem?_eq_getElem h]; rfl

/-- worth of a row, the least place first -/
def val (B : Int) : List Int → Int
  | [] => 0
  | x :: r => x + B * val B r
@[simp] theorem val_nil (B : Int) : val B [] = 0 := rfl
@[simp] theorem val_cons (B x : Int) (r : List Int) : val B (x :: r) = x + B * val B r := rfl
theorem val_append (B : Int) : ∀ a b : List Int, val B (a ++ b) = val B a + B ^ a.length * val B b
  | [], b => by simp
  | x :: r, b => by
    rw [List.cons_append, val_cons, val_cons, val_append B r b, List.length_cons, pow_succ', Int.mul_add, Int.mul_assoc, Int.add_assoc]
theorem val_snoc (B : Int) (a : List Int) (x : Int) : val B (a ++ [x]) = val B a + B ^ a.length * x := by
  rw [val_append]; simp
theorem val_replicate (B : Int) (k : Nat) : val B (List.replicate k 0) = 0 := by
  induction k with
  | zero => rfl
  | succ k ih => rw [List.replicate_succ, val_cons, ih]; simp

def Good (B : Int) (ns : List Int) : Prop := ∀ x ∈ ns, 0 ≤ x ∧ x < B
theorem Good.nil {B : Int} : Good B [] := fun _ h => nomatch h
theorem Good.cons {B x : Int} {r : List Int} (h : 0 ≤ x ∧ x < B) (g : Good B r) : Good B (x :: r) := fun y hy => by
  rcases List.mem_cons.mp hy with rfl | hy
  · exact h
  · exact g y hy
theorem Good.append {B : Int} {a b : List Int} (h : Good B a) (g : Good B b) : Good B (a ++ b) := fun y hy =>
  (List.mem_append.mp hy).elim (h y) (g y)
theorem Good.snoc {B x : Int} {a : List Int} (h : Good B a) (g : 0 ≤ x ∧ x < B) : Good B (a ++ [x]) := h.append (.cons g .nil)
theorem Good.head {B x : Int} {r : List Int} (h : Good B (x :: r)) : 0 ≤ x ∧ x < B := h x (.head _)
theorem Good.tail {B x : Int} {r : List Int} (h : Good B (x :: r)) : Good B r := fun y hy => h y (.tail _ hy)
theorem Good.sub {B : Int} {a b : List Int} (h : Good B b) (s : ∀ x ∈ a, x ∈ b) : Good B a := fun x hx => h x (s x hx)
theorem Good.take {B : Int} {a : List Int} (h : Good B a) (k : Nat) : Good B (a.take k) := h.sub fun _ => List.mem_of_mem_take
theorem Good.drop {B : Int} {a : List Int} (h : Good B a) (k : Nat) : Good B (a.drop k) := h.sub fun _ => List.mem_of_mem_drop
theorem Good.reverse {B : Int} {a : List Int} (h : Good B a) : Good B a.reverse := h.sub fun _ => List.mem_reverse.mp
theorem Good.of_reverse {B : Int} {a : List Int} (h : Good B a.reverse) : Good B a := h.sub fun _ => List.mem_reverse.mpr
theorem Good.replicate {B : Int} (h : 0 < B) (k : Nat) : Good B (List.replicate k 0) := fun x hx => by
  rw [(List.mem_replicate.mp hx).2]; exact ⟨Int.le_refl _, h⟩

theorem Good.nonneg {B : Int} (hB : 0 ≤ B) : ∀ {ns : List Int}, Good B ns → 0 ≤ val B ns
  | [], _ => Int.le_refl _
  | x :: r, h => by
    have h1 := h.head
    have h2 := Int.mul_nonneg hB (Good.nonneg hB h.tail)
    rw [val_cons]; omega
theorem Good.lt {B : Int} (hB : 0 < B) : ∀ {ns : List Int}, Good B ns → val B ns < B ^ ns.length
  | [], _ => by simp
  | x :: r, h => by
    have h1 := h.head
    have h2 := Good.lt hB h.tail
    rw [val_cons, List.length_cons, pow_succ']
    have h3 : B * (val B r + 1) ≤ B * B ^ r.length := Int.mul_le_mul_of_nonneg_left (by omega) (Int.le_of_lt hB)
    rw [Int.mul_add, Int.mul_one] at h3
    omega

/-- no nought at the end -/
def Nrm (ns : List Int) : Prop := ns.getLast? ≠ some 0
theorem Nrm.nil : Nrm [] := by simp [Nrm]
theorem nrm_snoc {a : List Int} {x : Int} : Nrm (a ++ [x]) ↔ x ≠ 0 := by simp [Nrm]
theorem Nrm.tail {x : Int} {r : List Int} (h : Nrm (x :: r)) : Nrm r := by
  cases r with
  | nil => exact Nrm.nil
  | cons y t => simpa [Nrm] using h
theorem Nrm.ge {B : Int} (hB : 0 < B) {ns : List Int} (g : Good B ns) (h : Nrm ns) (hne : ns ≠ []) : B ^ (ns.length - 1) ≤ val B ns := by
  obtain ⟨a, x, rfl⟩ : ∃ a x, ns = a ++ [x] := ⟨ns.dropLast, ns.getLast hne, (List.dropLast_concat_getLast hne).symm⟩
  have hx := nrm_snoc.mp h
  have hg := g x (by simp)
  have ha : Good B a := g.sub fun y hy => by simp [hy]
  have h0 := ha.nonneg (Int.le_of_lt hB)
  rw [val_snoc]
  have hp := pow_pos' hB a.length
  have h1 : B ^ a.length * 1 ≤ B ^ a.length * x := Int.mul_le_mul_of_nonneg_left (by omega) (Int.le_of_lt hp)
  have e : (a ++ [x]).length - 1 = a.length := by simp
  rw [e]; omega

/-- the row of limbs of a number -/
structure Lim (B n : Int) (ns : List Int) : Prop where
  good : Good B ns
  nrm : Nrm ns
  worth : val B ns = n
theorem Lim.nil (B : Int) : Lim B 0 [] := ⟨.nil, .nil, rfl⟩
theorem Lim.nonneg {B n : Int} {ns : List Int} (hB : 0 < B) (h : Lim B n ns) : 0 ≤ n := h.worth ▸ h.good.nonneg (Int.le_of_lt hB)
theorem Lim.eq_nil {B n : Int} {ns : List Int} (hB : 0 < B) (h : Lim B n ns) (h0 : n ≤ 0) : ns = [] := by
  by_cases hne : ns = []
  · exact hne
  · have h1 := h.nrm.ge hB h.good hne
    have h2 := pow_pos' hB (ns.length - 1)
    rw [h.worth] at h1; omega
theorem Lim.pos {B n : Int} {ns : List Int} (hB : 0 < B) (h : Lim B n ns) (hne : ns ≠ []) : 0 < n := by
  have h1 := h.nrm.ge hB h.good hne
  have h2 := pow_pos' hB (ns.length - 1)
  rw [h.worth] at h1; omega
theorem Lim.len_le {B n : Int} {ns : List Int} (hB : 1 < B) (h : Lim B n ns) {k : Nat} (hk : n < B ^ k) : ns.length ≤ k := by
  by_cases hne : ns = []
  · simp [hne]
  · have h1 := h.nrm.ge (by omega) h.good hne
    rw [h.worth] at h1
    apply Classical.byContradiction
    intro hc
    have h2 : B ^ k ≤ B ^ (ns.length - 1) := pow_le_pow (by omega) (by omega)
    omega
theorem low_unique {B x y p q : Int} (hx : 0 ≤ x ∧ x < B) (hy : 0 ≤ y ∧ y < B) (h : x + B * p = y + B * q) : x = y ∧ p = q := by
  have hB : 0 < B := by omega
  have e1 : (x + B * p) / B = p := by
    rw [Int.add_mul_ediv_left _ _ (by omega), Int.ediv_eq_zero_of_lt hx.1 hx.2]; omega
  have e2 : (y + B * q) / B = q := by
    rw [Int.add_mul_ediv_left _ _ (by omega), Int.ediv_eq_zero_of_lt hy.1 hy.2]; omega
  have hpq : p = q := by rw [← e1, ← e2, h]
  subst hpq
  exact ⟨by omega, rfl⟩
theorem lim_unique {B : Int} (hB : 0 < B) : ∀ {a b : List Int}, Good B a → Good B b → Nrm a → Nrm b → val B a = val B b → a = b
  | [], b, _, gb, _, nb, h => ((⟨gb, nb, h.symm⟩ : Lim B 0 b).eq_nil hB (Int.le_refl _)).symm
  | x :: r, [], ga, _, na, _, h => (⟨ga, na, h⟩ : Lim B 0 (x :: r)).eq_nil hB (Int.le_refl _)
  | x :: r, y :: t, ga, gb, na, nb, h => by
    obtain ⟨rfl, h2⟩ := low_unique ga.head gb.head h
    rw [lim_unique hB ga.tail gb.tail na.tail nb.tail h2]
theorem Lim.unique {B n : Int} {a b : List Int} (hB : 0 < B) (h : Lim B n a) (k : Lim B n b) : a = b :=
  lim_unique hB h.good k.good h.nrm k.nrm (h.worth.trans k.worth.symm)

/-- one limb more on top -/
theorem Lim.snoc {B n x : Int} {a : List Int} (g : Good B a) (hx : 0 < x ∧ x < B) (h : val B a + B ^ a.length * x = n) : Lim B n (a ++ [x]) :=
  ⟨g.snoc ⟨by omega, hx.2⟩, nrm_snoc.mpr (by omega), by rw [val_snoc, h]⟩

/-! taking a number apart from below: what the loops of nat_of, _law_limbs, digits_plain keep -/
structure Split (B n : Int) (found : List Int) (rest : Int) : Prop where
  good : Good B found
  sum : val B found + B ^ found.length * rest = n
  rest0 : 0 ≤ rest
  nrm : rest = 0 → Nrm found
theorem Split.start {B n : Int} (h : 0 ≤ n) : Split B n [] n := ⟨.nil, by simp, h, fun _ => .nil⟩
theorem Split.step {B n rest : Int} {found : List Int} (hB : 1 < B) (S : Split B n found rest) (hr : 0 < rest) : Split B n (found ++ [rest % B]) (rest / B) := by
  have h1 := Int.emod_nonneg rest (show B ≠ 0 by omega)
  have h2 := Int.emod_lt_of_pos rest (show 0 < B by omega)
  have h3 := Int.mul_ediv_add_emod rest B
  refine ⟨S.good.snoc ⟨h1, h2⟩, ?_, Int.ediv_nonneg (by omega) (by omega), fun h0 => nrm_snoc.mpr ?_⟩
  · rw [val_snoc, List.length_append, List.length_singleton, Int.pow_succ, Int.add_assoc, Int.mul_assoc, ← Int.mul_add]
    rw [show rest % B + B * (rest / B) = rest by omega]
    exact S.sum
  · rw [h0, Int.mul_zero, Int.zero_add] at h3
    omega
theorem Split.done {B n rest : Int} {found : List Int} (S : Split B n found rest) (h : rest ≤ 0) : Lim B n found := by
  have h0 : rest = 0 := by have := S.rest0; omega
  refine ⟨S.good, S.nrm h0, ?_⟩
  have := S.sum
  rw [h0, Int.mul_zero, Int.add_zero] at this
  exact this

/-! widths and carries -/
theorem wid_pow {wd : Int} (h : 2 ≤ wd) (h9 : wd ≤ 9) : 4 ≤ (2 : Int) ^ wd.toNat ∧ (2 : Int) ^ wd.toNat ≤ 512 := by
  have h1 : (2 : Int) ^ 2 ≤ 2 ^ wd.toNat := pow_le_pow (by decide) (by omega)
  have h2 : (2 : Int) ^ wd.toNat ≤ 2 ^ 9 := pow_le_pow (by decide) (by omega)
  exact ⟨h1, h2⟩
theorem fdiv_pos {a b : Int} (h : 0 ≤ b) : a.fdiv b = a / b := Int.fdiv_eq_ediv_of_nonneg _ h
theorem fmod_pos {a b : Int} (h : 0 ≤ b) : a.fmod b = a % b := Int.fmod_eq_emod_of_nonneg _ h
theorem Good.at {B : Int} {ns : List Int} (g : Good B ns) {i : Nat} {k : Int} (h : ns[i]? = some k) : 0 ≤ k ∧ k < B := g k (List.mem_of_getElem? h)
theorem lt_of_at {ns : List Int} {i : Nat} {k : Int} (h : ns[i]? = some k) : i < ns.length := (List.getElem?_eq_some_iff.mp h).1
theorem take_at {ns : List Int} {i : Nat} {k : Int} (h : ns[i]? = some k) : ns.take (i + 1) = ns.take i ++ [k] := by rw [List.take_add_one, h]; rfl
theorem len_take_at {ns : List Int} {i : Nat} {k : Int} (h : ns[i]? = some k) : (ns.take i).length = i := by
  have := lt_of_at h
  rw [List.length_take]; omega
theorem val_take_at {B : Int} {ns : List Int} {i : Nat} {k : Int} (h : ns[i]? = some k) : val B (ns.take (i + 1)) = val B (ns.take i) + B ^ i * k := by
  rw [take_at h, val_snoc, len_take_at h]
/-- one limb of a sum goes out, the carry goes on -/
theorem carry_val {B t : Int} (a : List Int) : val B (a ++ [t % B]) + B ^ (a ++ [t % B]).length * (t / B) = val B a + B ^ a.length * t := by
  have h3 := Int.mul_ediv_add_emod t B
  rw [val_snoc, List.length_append, List.length_singleton, Int.pow_succ, Int.add_assoc, Int.mul_assoc, ← Int.mul_add, show t % B + B * (t / B) = t by omega]
theorem carry_good {B t : Int} {a : List Int} (hB : 0 < B) (g : Good B a) : Good B (a ++ [t % B]) :=
  g.snoc ⟨Int.emod_nonneg _ (by omega), Int.emod_lt_of_pos _ hB⟩
/-- what mul_limb's loop keeps -/
theorem mul_step {B k limb cy : Int} {ns fs : List Int} {i : Nat} (hB : 1 < B) (g : Good B ns) (h : ns[i]? = some k) (gf : Good B fs) (hf : fs.length = i) (h0 : 0 ≤ limb) (h1 : limb < B) (c0 : 0 ≤ cy) (c1 : cy < B)
    (hv : val B fs + B ^ i * cy = val B (ns.take i) * limb) :
    0 ≤ (cy + k * limb) / B ∧ (cy + k * limb) / B < B ∧ Good B (fs ++ [(cy + k * limb) % B]) ∧ (fs ++ [(cy + k * limb) % B]).length = i + 1 ∧
      val B (fs ++ [(cy + k * limb) % B]) + B ^ (i + 1) * ((cy + k * limb) / B) = val B (ns.take (i + 1)) * limb := by
  have hk := g.at h
  have hkl := Int.mul_nonneg hk.1 h0
  have hle : k * limb ≤ (B - 1) * (B - 1) := Int.mul_le_mul (by omega) (by omega) h0 (by omega)
  have hlen : (fs ++ [(cy + k * limb) % B]).length = i + 1 := by simp [hf]
  refine ⟨Int.ediv_nonneg (by omega) (by omega), ?_, carry_good (by omega) gf, hlen, ?_⟩
  · refine Int.ediv_lt_of_lt_mul (by omega) ?_
    have e : (B - 1) * (B - 1) = B * B - 2 * B + 1 := by rw [Int.sub_mul, Int.mul_sub]; omega
    omega
  · have := carry_val (B := B) (t := cy + k * limb) fs
    rw [hlen] at this
    rw [this, val_take_at h, Int.add_mul, ← hv, hf, Int.mul_add, Int.mul_assoc]; omega
theorem mul_done {B limb cy : Int} {ns fs : List Int} (hB : 1 < B) (gf : Good B fs) (hf : fs.length = ns.length) (c0 : 0 ≤ cy) (c1 : cy < B) (hv : val B fs + B ^ ns.length * cy = val B (ns.take ns.length) * limb) :
    (0 < cy → Good B (fs ++ [cy]) ∧ val B (fs ++ [cy]) = val B ns * limb ∧ (fs ++ [cy]).length ≤ ns.length + 1 ∧ (Nrm (fs ++ [cy]) ∨ (fs ++ [cy]).length ≤ ns.length)) ∧
    (¬ 0 < cy → Good B fs ∧ val B fs = val B ns * limb ∧ fs.length ≤ ns.length + 1 ∧ (Nrm fs ∨ fs.length ≤ ns.length)) := by
  rw [List.take_length] at hv
  refine ⟨fun h => ⟨gf.snoc ⟨c0, c1⟩, by rw [val_snoc, hf, hv], by simp [hf], .inl (nrm_snoc.mpr (by omega))⟩, fun h => ⟨gf, ?_, by omega, .inr (by omega)⟩⟩
  rw [← hv, show cy = 0 by omega]; simp

theorem pow_lt_cancel {B : Int} (hB : 1 < B) {m n : Nat} (h : B ^ m < B ^ n) : m < n := by
  apply Classical.byContradiction
  intro hc
  have := pow_le_pow (show 1 ≤ B by omega) (show n ≤ m by omega)
  omega
theorem Split.len {B n rest : Int} {found : List Int} (hB : 1 < B) (S : Split B n found rest) (hr : 0 < rest) {K : Nat} (hK : n < B ^ K) : found.length < K := by
  refine pow_lt_cancel hB (Int.lt_of_le_of_lt ?_ hK)
  have h0 := S.good.nonneg (by omega)
  have h1 := S.sum
  have hp := pow_pos' (show 0 < B by omega) found.length
  have h2 : B ^ found.length * 1 ≤ B ^ found.length * rest := Int.mul_le_mul_of_nonneg_left (by omega) (Int.le_of_lt hp)
  omega
theorem ediv_less {n B : Int} (hB : 1 < B) (hn : 0 < n) : 0 ≤ n / B ∧ n / B < n := by
  have h3 := Int.mul_ediv_add_emod n B
  have h1 := Int.emod_nonneg n (show B ≠ 0 by omega)
  have h0 : 0 ≤ n / B := Int.ediv_nonneg (by omega) (by omega)
  refine ⟨h0, ?_⟩
  have h2 : 2 * (n / B) ≤ B * (n / B) := Int.mul_le_mul_of_nonneg_right (by omega) h0
  omega

/-! a number out of its limbs, from above -/
theorem num_step {B k : Int} {rs : List Int} {i : Nat} (h : rs[i]? = some k) : val B (rs.take i).reverse * B + k = val B (rs.take (i + 1)).reverse := by
  rw [take_at h, List.reverse_append, List.reverse_singleton, List.singleton_append, val_cons, Int.mul_comm]; omega
theorem num_bound {B : Int} {rs : List Int} (hB : 0 < B) (g : Good B rs) (i : Nat) : 0 ≤ val B (rs.take i).reverse ∧ val B (rs.take i).reverse < B ^ rs.length := by
  have g' := (g.take i).reverse
  refine ⟨g'.nonneg (by omega), Int.lt_of_lt_of_le (g'.lt hB) (pow_le_pow (by omega) ?_)⟩
  rw [List.length_reverse, List.length_take]; omega

/-! numbers compared by their limbs -/
def cmpZ (x y : Int) : Int := if x < y then -1 else if y < x then 1 else 0
theorem cmpZ_lt {x y : Int} (h : x < y) : cmpZ x y = -1 := if_pos h
theorem cmpZ_gt {x y : Int} (h : y < x) : cmpZ x y = 1 := by unfold cmpZ; rw [if_neg (by omega), if_pos h]
theorem cmpZ_eq {x y : Int} (h : x = y) : cmpZ x y = 0 := by unfold cmpZ; rw [if_neg (by omega), if_neg (by omega)]
theorem cmp_len {B : Int} (hB : 1 < B) {a b : List Int} (ga : Good B a) (gb : Good B b) (nb : Nrm b) (h : a.length < b.length) : val B a < val B b := by
  have hne : b ≠ [] := by rintro rfl; simp at h
  have h1 := nb.ge (by omega) gb hne
  have h2 := ga.lt (show 0 < B by omega)
  have h3 : B ^ a.length ≤ B ^ (b.length - 1) := pow_le_pow (by omega) (by omega)
  omega
theorem cut_at {B : Int} {a : List Int} {j : Nat} (h : j < a.length) : val B a = val B (a.take j) + B ^ j * (a[j] + B * val B (a.drop (j + 1))) := by
  have e : a = a.take j ++ (a[j] :: a.drop (j + 1)) := by rw [← List.drop_eq_getElem_cons h, List.take_append_drop]
  have hl : (a.take j).length = j := by rw [List.length_take]; omega
  calc val B a = val B (a.take j ++ (a[j] :: a.drop (j + 1))) := by rw [← e]
    _ = _ := by rw [val_append, hl, val_cons]
theorem cmp_at {B : Int} (hB : 1 < B) {a b : List Int} (ga : Good B a) (gb : Good B b) {j : Nat} (ha : j < a.length) (hb : j < b.length) (hd : a.drop (j + 1) = b.drop (j + 1)) (h : a[j] < b[j]) : val B a < val B b := by
  rw [cut_at ha, cut_at hb, hd]
  have h1 := (ga.take j).lt (show 0 < B by omega)
  have h2 := (gb.take j).nonneg (show 0 ≤ B by omega)
  have hl : (a.take j).length = j := by rw [List.length_take]; omega
  rw [hl] at h1
  have hp := pow_pos' (show 0 < B by omega) j
  rw [Int.mul_add, Int.mul_add]
  have h3 : B ^ j * (a[j] + 1) ≤ B ^ j * b[j] := Int.mul_le_mul_of_nonneg_left (by omega) (Int.le_of_lt hp)
  rw [Int.mul_add, Int.mul_one] at h3
  omega
theorem drop_step {a b : List Int} {n i : Nat} (ha : a.length = n) (hb : b.length = n) (hi : i < n) (hd : a.drop (n - i) = b.drop (n - i)) {p : Nat} (hp : p = n - 1 - i) (h : a.getD p 0 = b.getD p 0) : a.drop (n - (i + 1)) = b.drop (n - (i + 1)) := by
  subst hp
  have h1 : n - 1 - i < a.length := by omega
  have h2 : n - 1 - i < b.length := by omega
  rw [getD_get h1, getD_get h2] at h
  rw [show n - (i + 1) = n - 1 - i by omega, List.drop_eq_getElem_cons h1, List.drop_eq_getElem_cons h2, h, show n - 1 - i + 1 = n - i by omega, hd]
theorem cmp_here {B : Int} (hB : 1 < B) {a b : List Int} (ga : Good B a) (gb : Good B b) {n i p : Nat} (ha : a.length = n) (hb : b.length = n) (hi : i < n) (hd : a.drop (n - i) = b.drop (n - i)) (hp : p = n - 1 - i) (h : a.getD p 0 < b.getD p 0) : val B a < val B b := by
  subst hp
  have h1 : n - 1 - i < a.length := by omega
  have h2 : n - 1 - i < b.length := by omega
  rw [getD_get h1, getD_get h2] at h
  exact cmp_at hB ga gb h1 h2 (by rw [show n - 1 - i + 1 = n - i by omega, hd]) h

/-! sums limb by limb -/
structure Car (B X : Int) (fs : List Int) (n : Nat) (cy : Int) : Prop where
  good : Good B fs
  len : fs.length = n
  c0 : 0 ≤ cy
  c1 : cy ≤ 1
  sum : val B fs + B ^ n * cy = X
theorem Car.start (B : Int) : Car B 0 [] 0 0 := ⟨.nil, rfl, by decide, by decide, by simp⟩
theorem Car.step {B X d : Int} {fs : List Int} {n : Nat} {cy : Int} (hB : 1 < B) (C : Car B X fs n cy) (h0 : 0 ≤ d) (h1 : d ≤ 2 * B - 2) : Car B (X + B ^ n * d) (fs ++ [(cy + d) % B]) (n + 1) ((cy + d) / B) := by
  have hc0 := C.c0
  have hc1 := C.c1
  have hl : (fs ++ [(cy + d) % B]).length = n + 1 := by simp [C.len]
  refine ⟨carry_good (by omega) C.good, hl, Int.ediv_nonneg (by omega) (by omega), ?_, ?_⟩
  · have : (cy + d) / B < 2 := Int.ediv_lt_of_lt_mul (by omega) (by omega)
    omega
  · have := carry_val (B := B) (t := cy + d) fs
    rw [hl, C.len] at this
    rw [this, ← C.sum, Int.mul_add]; omega
theorem Car.done {B X : Int} {fs : List Int} {n : Nat} {cy : Int} (hB : 1 < B) (C : Car B X fs n cy) :
    (0 < cy → Good B (fs ++ [cy]) ∧ val B (fs ++ [cy]) = X ∧ (fs ++ [cy]).length ≤ n + 1 ∧ (Nrm (fs ++ [cy]) ∨ (fs ++ [cy]).length ≤ n)) ∧ (¬ 0 < cy → Good B fs ∧ val B fs = X ∧ fs.length ≤ n + 1 ∧ (Nrm fs ∨ fs.length ≤ n)) := by
  have hc0 := C.c0
  have hc1 := C.c1
  refine ⟨fun h => ⟨C.good.snoc ⟨hc0, by omega⟩, by rw [val_snoc, C.len, C.sum], by simp [C.len], .inl (nrm_snoc.mpr (by omega))⟩, fun h => ⟨C.good, ?_, by have := C.len; omega, .inr (by have := C.len; omega)⟩⟩
  rw [← C.sum, show cy = 0 by omega]; simp
theorem val_take_getD {B : Int} {ns : List Int} {i : Nat} (h : i < ns.length) : val B (ns.take (i + 1)) = val B (ns.take i) + B ^ i * ns.getD i 0 :=
  val_take_at (by rw [getD_get h]; exact List.getElem?_eq_getElem h)
theorem Good.getD {B : Int} {ns : List Int} (g : Good B ns) {i : Nat} (h : i < ns.length) : 0 ≤ ns.getD i 0 ∧ ns.getD i 0 < B := by
  rw [getD_get h]; exact g _ (List.getElem_mem h)
theorem add_step1 {B : Int} {a b fs : List Int} {i p : Nat} {cy : Int} (hB : 1 < B) (ga : Good B a) (gb : Good B b) (hp : p = i) (ha : i < a.length) (hb : i < b.length) (C : Car B (val B (a.take i) + val B (b.take i)) fs i cy) :
    Car B (val B (a.take (i + 1)) + val B (b.take (i + 1))) (fs ++ [(cy + (a.getD p 0 + b.getD p 0)) % B]) (i + 1) ((cy + (a.getD p 0 + b.getD p 0)) / B) := by
  subst hp
  have h1 := ga.getD ha
  have h2 := gb.getD hb
  have C' := C.step (d := a.getD p 0 + b.getD p 0) hB (by omega) (by omega)
  rw [val_take_getD ha, val_take_getD hb]
  rw [Int.mul_add] at C'
  rw [show val B (a.take p) + B ^ p * a.getD p 0 + (val B (b.take p) + B ^ p * b.getD p 0) = val B (a.take p) + val B (b.take p) + (B ^ p * a.getD p 0 + B ^ p * b.getD p 0) by omega]
  exact C'
theorem add_step2 {B Y : Int} {a fs : List Int} {j p : Nat} {cy : Int} (hB : 1 < B) (ga : Good B a) (hp : p = j) (ha : j < a.length) (C : Car B (val B (a.take j) + Y) fs j cy) :
    Car B (val B (a.take (j + 1)) + Y) (fs ++ [(cy + a.getD p 0) % B]) (j + 1) ((cy + a.getD p 0) / B) := by
  subst hp
  have h1 := ga.getD ha
  have C' := C.step (d := a.getD p 0) hB (by omega) (by omega)
  rw [val_take_getD ha]
  rw [show val B (a.take p) + B ^ p * a.getD p 0 + Y = val B (a.take p) + Y + B ^ p * a.getD p 0 by omega]
  exact C'

/-! one limb divides a row, from above -/
theorem flat_rep (k : Nat) : (List.replicate k [(0 : Int)]).flatten = List.replicate k 0 := by
  induction k with
  | zero => rfl
  | succ k ih => rw [List.replicate_succ, List.flatten_cons, ih, List.replicate_succ]; rfl
structure Div1 (B limb : Int) (a fs : List Int) (i : Nat) (rest : Int) : Prop where
  len : fs.length = a.length
  quot : val B (fs.drop (a.length - i)) = val B (a.drop (a.length - i)) / limb
  rest : rest = val B (a.drop (a.length - i)) % limb
  good : Good B (fs.drop (a.length - i))
theorem Div1.start {B limb : Int} {a fs : List Int} (h : fs.length = a.length) : Div1 B limb a fs 0 0 := by
  refine ⟨h, ?_, ?_, ?_⟩
  · rw [Nat.sub_zero, List.drop_length, ← h, List.drop_length]; simp
  · rw [Nat.sub_zero, List.drop_length]; simp
  · rw [Nat.sub_zero, ← h, List.drop_length]; exact .nil
theorem div_digit {B limb V r q x : Int} (hl : 0 < limb) (hl1 : limb ≤ B) (hx : 0 ≤ x ∧ x < B) (hq : q = V / limb) (hr : r = V % limb) :
    (0 ≤ (r * B + x) / limb ∧ (r * B + x) / limb < B) ∧ (x + B * V) / limb = (r * B + x) / limb + B * q ∧ (x + B * V) % limb = (r * B + x) % limb := by
  have h3 := Int.mul_ediv_add_emod V limb
  have h1 := Int.emod_nonneg V (show limb ≠ 0 by omega)
  have h2 := Int.emod_lt_of_pos V hl
  have e : x + B * V = (r * B + x) + limb * (B * q) := by
    rw [hr, hq]
    have : B * V = B * (limb * (V / limb) + V % limb) := by rw [h3]
    rw [this, Int.mul_add, Int.mul_comm (V % limb) B, ← Int.mul_assoc, Int.mul_comm B limb, Int.mul_assoc]; omega
  have hr0 : 0 ≤ r * B := Int.mul_nonneg (by omega) (by omega)
  have hr1 : (r + 1) * B ≤ limb * B := Int.mul_le_mul_of_nonneg_right (by omega) (by omega)
  rw [Int.add_mul, Int.one_mul] at hr1
  refine ⟨⟨Int.ediv_nonneg (by omega) (by omega), Int.ediv_lt_of_lt_mul hl (by rw [Int.mul_comm B limb]; omega)⟩, ?_, ?_⟩
  · rw [e, Int.add_mul_ediv_left _ _ (by omega)]
  · rw [e, Int.add_mul_emod_self_left]
theorem Div1.step {B limb : Int} {a fs : List Int} {i p : Nat} {r : Int} (hl : 0 < limb) (hl1 : limb ≤ B) (ga : Good B a) (D : Div1 B limb a fs i r) (hi : i < a.length) (hp : p = a.length - 1 - i) :
    Div1 B limb a (fs.set p ((r * B + a.getD p 0) / limb)) (i + 1) ((r * B + a.getD p 0) % limb) := by
  have hpa : p < a.length := by omega
  have hx := ga.getD hpa
  have e1 : a.length - (i + 1) = p := by omega
  have e2 : p + 1 = a.length - i := by omega
  have hd : a.drop p = a.getD p 0 :: a.drop (a.length - i) := by rw [List.drop_eq_getElem_cons hpa, getD_get hpa, e2]
  have K := div_digit hl hl1 hx D.quot D.rest
  have hpf : p < (fs.set p ((r * B + a.getD p 0) / limb)).length := by rw [List.length_set, D.len]; exact hpa
  have hf : (fs.set p ((r * B + a.getD p 0) / limb)).drop p = (r * B + a.getD p 0) / limb :: fs.drop (a.length - i) := by
    rw [List.drop_eq_getElem_cons hpf, List.getElem_set_self, List.drop_set_of_lt (by omega), e2]
  refine ⟨by rw [List.length_set, D.len], ?_, ?_, ?_⟩
  · rw [e1, hf, hd, val_cons, val_cons, K.2.1]
  · rw [e1, hd, val_cons, K.2.2]
  · rw [e1, hf]; exact .cons K.1 D.good
theorem Div1.done {B limb : Int} {a fs : List Int} {r : Int} (D : Div1 B limb a fs a.length r) : Good B fs ∧ val B fs = val B a / limb ∧ r = val B a % limb := by
  have h1 := D.good; have h2 := D.quot; have h3 := D.rest
  rw [Nat.sub_self, List.drop_zero] at h1 h2
  rw [Nat.sub_self, List.drop_zero] at h3
  rw [List.drop_zero] at h2
  exact ⟨h1, h2, h3⟩
/-- noughts behind fall -/
theorem lim_of_nrm {B : Int} {fs r : List Int} (g : Good B fs) (h : Nrm r ∧ ∃ k, fs = r ++ List.replicate k 0) : Lim B (val B fs) r := by
  obtain ⟨hn, k, rfl⟩ := h
  exact ⟨g.sub fun x hx => by simp [hx], hn, by rw [val_append, val_replicate]; simp⟩
theorem Div1.rest_lt {B limb : Int} {a fs : List Int} {i : Nat} {r : Int} (D : Div1 B limb a fs i r) (hl : 0 < limb) : 0 ≤ r ∧ r < limb := by
  rw [D.rest]; exact ⟨Int.emod_nonneg _ (by omega), Int.emod_lt_of_pos _ hl⟩
theorem pow_ge4 {B : Int} (h : 4 ≤ B) {k m : Nat} (hkm : k ≤ m) : (4 : Int) ^ k ≤ B ^ m := by
  refine Int.le_trans ?_ (pow_le_pow (by omega) hkm)
  induction k with
  | zero => simp
  | succ k ih => rw [Int.pow_succ, Int.pow_succ]; exact Int.mul_le_mul (ih (by omega)) h (by decide) (Int.le_of_lt (pow_pos' (by omega) _))

/-! powers by squares -/
theorem cmpZ_le {x y : Int} : cmpZ x y ≤ 0 ↔ x ≤ y := by
  unfold cmpZ
  split
  · constructor <;> intro <;> omega
  · split
    · constructor <;> intro <;> omega
    · constructor <;> intro <;> omega
theorem cmpZ_neg {x y : Int} : cmpZ x y < 0 ↔ x < y := by
  unfold cmpZ
  split
  · constructor <;> intro <;> omega
  · split
    · constructor <;> intro <;> omega
    · constructor <;> intro <;> omega
theorem sq_step (b : Int) (k : Nat) : b ^ (2 ^ k) * b ^ (2 ^ k) = b ^ (2 ^ (k + 1)) := by
  rw [← Int.pow_add, Nat.pow_succ, Nat.mul_two]
theorem sq_ge (b : Int) (hb : 2 ≤ b) (n : Nat) (hn : 1 ≤ n) : 2 ≤ b ^ n := by
  have := pow_le_pow (show 1 ≤ b by omega) hn
  rw [Int.pow_one] at this; omega
theorem sq_less {p : Int} (h : 2 ≤ p) : p < p * p := by
  have : 2 * p ≤ p * p := Int.mul_le_mul_of_nonneg_right h (by omega)
  omega
theorem two_pow_le_pow {b : Int} (hb : 2 ≤ b) (n : Nat) : (2 : Int) ^ n ≤ b ^ n := by
  induction n with
  | zero => simp
  | succ n ih => rw [Int.pow_succ, Int.pow_succ]; exact Int.mul_le_mul ih hb (by decide) (Int.le_of_lt (pow_pos' (by omega) _))
theorem sq_count {b x : Int} {k m : Nat} (hb : 2 ≤ b) (h : b ^ (2 ^ k) ≤ x) (hx : x < b ^ m) (hm : m < 2048) : k ≤ 10 := by
  apply Classical.byContradiction
  intro hc
  have h1 : b ^ 2048 ≤ b ^ (2 ^ k) := pow_le_pow (by omega) (by
    have : (2 : Nat) ^ 11 ≤ 2 ^ k := Nat.pow_le_pow_right (by decide) (by omega)
    exact this)
  have h2 : b ^ m ≤ b ^ 2048 := pow_le_pow (by omega) (by omega)
  omega
theorem mul_lt_sq {x y M : Int} (hx : 0 ≤ x) (hx1 : x < M) (hy : 0 ≤ y) (hy1 : y < M) : x * y < M * M :=
  Int.lt_of_le_of_lt (Int.mul_le_mul_of_nonneg_left (Int.le_of_lt hy1) hx) (Int.mul_lt_mul_of_pos_right hx1 (by omega))
/-- the row that a word speaks of -/
abbrev rowOf {B n : Int} {ns : List Int} (_ : Lim B n ns) : List Int := ns

/-! digits above and digits below -/
theorem Nrm.append {a b : List Int} (hb : b ≠ []) (h : Nrm b) : Nrm (a ++ b) := by
  obtain ⟨c, x, rfl⟩ : ∃ c x, b = c ++ [x] := ⟨b.dropLast, b.getLast hb, (List.dropLast_concat_getLast hb).symm⟩
  rw [← List.append_assoc]
  exact nrm_snoc.mpr (nrm_snoc.mp h)
theorem digits_join {b hi lo : Int} {A C : List Int} {m : Nat} (hb : 1 < b) (hA : Lim b hi A.reverse) (hC : Lim b lo C.reverse) (hlo : lo < b ^ m) (h0 : 0 < hi) :
    Lim b (lo + b ^ m * hi) (A ++ (List.replicate (m - C.length) 0 ++ C)).reverse := by
  have hl : C.length ≤ m := by have := hC.len_le hb hlo; rwa [List.length_reverse] at this
  have hne : A.reverse ≠ [] := by rintro h; rw [h] at hA; have := hA.worth; simp at this; omega
  rw [List.reverse_append, List.reverse_append, List.reverse_replicate]
  refine ⟨(hC.good.append (Good.replicate (by omega) _)).append hA.good, ?_, ?_⟩
  · exact Nrm.append hne hA.nrm
  · rw [val_append, val_append, val_replicate, hC.worth, hA.worth, List.length_append, List.length_reverse, List.length_replicate]
    rw [show C.length + (m - C.length) = m by omega]; simp
theorem div_join (x P : Int) : x % P + P * (x / P) = x := Int.emod_add_mul_ediv x P
theorem div_lt_sq {x P : Int} (hP : 0 < P) (h : x < P * P) : x / P < P := Int.ediv_lt_of_lt_mul hP h
theorem two_pow_le (k : Nat) (h : k ≤ 11) : (2 : Int) ^ k ≤ 2048 := pow_le_pow (B := 2) (by decide) h
theorem two_pow_toNat (k : Nat) : ((2 : Int) ^ k).toNat = 2 ^ k := by
  have : ((2 ^ k : Nat) : Int) = (2 : Int) ^ k := Int.natCast_pow 2 k
  rw [← this]; rfl

/-! what mul_limb and add hand back bears no nought at its end -/
theorem nrm_of_ge {B : Int} {r : List Int} {n : Nat} (hB : 1 < B) (g : Good B r) (h : Nrm r ∨ r.length ≤ n) (hv : n = 0 ∨ B ^ (n - 1) ≤ val B r) : Nrm r := by
  rcases h with h | h
  · exact h
  · by_cases hr : r = []
    · rw [hr]; exact Nrm.nil
    · have hpos := List.length_pos_iff.mpr hr
      obtain ⟨c, x, rfl⟩ : ∃ c x, r = c ++ [x] := ⟨r.dropLast, r.getLast hr, (List.dropLast_concat_getLast hr).symm⟩
      refine nrm_snoc.mpr ?_
      rintro rfl
      have gc : Good B c := g.sub fun y hy => by simp [hy]
      have h1 := gc.lt (show 0 < B by omega)
      have h2 : B ^ c.length ≤ B ^ (n - 1) := pow_le_pow (by omega) (by simp at h; omega)
      rw [val_snoc] at hv
      simp at hv h
      omega
theorem Lim.ge {B n : Int} {ns : List Int} (hB : 1 < B) (h : Lim B n ns) : ns.length = 0 ∨ B ^ (ns.length - 1) ≤ n := by
  by_cases hne : ns = []
  · left; rw [hne]; rfl
  · right; have := h.nrm.ge (by omega) h.good hne; rwa [h.worth] at this
theorem lim_mul {B x limb : Int} {ns r : List Int} (hB : 1 < B) (h : Lim B x ns) (hl : 0 < limb) (hr : Good B r ∧ val B r = val B ns * limb ∧ r.length ≤ ns.length + 1 ∧ (Nrm r ∨ r.length ≤ ns.length)) : Lim B (x * limb) r := by
  obtain ⟨g, hv, _, hn⟩ := hr
  rw [h.worth] at hv
  refine ⟨g, nrm_of_ge hB g hn ?_, hv⟩
  rcases h.ge hB with h0 | h1
  · exact .inl h0
  · right
    have hx := h.nonneg (by omega)
    have : x * 1 ≤ x * limb := Int.mul_le_mul_of_nonneg_left (by omega) hx
    omega
theorem lim_add {B x y : Int} {a b r : List Int} (hB : 1 < B) (ha : Lim B x a) (hb : Lim B y b) (hr : Good B r ∧ val B r = val B a + val B b ∧ r.length ≤ max a.length b.length + 1 ∧ (Nrm r ∨ r.length ≤ max a.length b.length)) : Lim B (x + y) r := by
  obtain ⟨g, hv, _, hn⟩ := hr
  rw [ha.worth, hb.worth] at hv
  refine ⟨g, nrm_of_ge hB g hn ?_, hv⟩
  have hx := ha.nonneg (by omega)
  have hy := hb.nonneg (by omega)
  rcases Nat.le_total a.length b.length with hab | hab
  · rw [Nat.max_eq_right hab]
    rcases hb.ge hB with h0 | h1
    · exact .inl h0
    · right; omega
  · rw [Nat.max_eq_left hab]
    rcases ha.ge hB with h0 | h1
    · exact .inl h0
    · right; omega

theorem pow_mono_base {a b : Int} (h0 : 0 ≤ a) (h : a ≤ b) (n : Nat) : a ^ n ≤ b ^ n := by
  induction n with
  | zero => simp
  | succ n ih => rw [Int.pow_succ, Int.pow_succ]; exact Int.mul_le_mul ih h h0 (Int.pow_nonneg (by omega))
theorem base_bound {B base : Int} (hB : 4 ≤ B) (h0 : 2 ≤ base) (h1 : base ≤ 16) {n : Nat} (hn : n ≤ 95) : base ^ n < B ^ 200 := by
  have e1 : base ^ n ≤ 16 ^ n := pow_mono_base (by omega) h1 n
  have e2 : (16 : Int) ^ n = 4 ^ (2 * n) := by rw [Int.pow_mul]; rfl
  have e3 : (4 : Int) ^ (2 * n) ≤ B ^ (2 * n) := pow_ge4 hB (Nat.le_refl _)
  have e4 : B ^ (2 * n) < B ^ 200 := by
    have e5 : B ^ (2 * n + 1) ≤ B ^ 200 := pow_le_pow (by omega) (by omega)
    have e6 := pow_pos' (show 0 < B by omega) (2 * n)
    have e7 : B ^ (2 * n + 1) = B * B ^ (2 * n) := pow_succ' B (2 * n)
    have e8 : 2 * B ^ (2 * n) ≤ B * B ^ (2 * n) := Int.mul_le_mul_of_nonneg_right (by omega) (Int.le_of_lt e6)
    omega
  omega

theorem digits_cut {b : Int} {ds : List Int} {m k : Nat} (h : ds.length - m = k) (hm : m ≤ ds.length) : val b (ds.take m).reverse * b ^ k + val b (ds.drop m).reverse = val b ds.reverse := by
  have e : ds.reverse = (ds.drop m).reverse ++ (ds.take m).reverse := by rw [← List.reverse_append, List.take_append_drop]
  rw [e, val_append, List.length_reverse, List.length_drop, h, Int.mul_comm]; omega

theorem two_lt_count {k len : Nat} (h1 : 1 ≤ k) (h : (2 : Int) * 2 ^ ((k : Int) - 1).toNat < (len : Int)) (hl : len ≤ 90) : 2 ^ k < len ∧ k ≤ 6 := by
  have e : ((k : Int) - 1).toNat = k - 1 := by omega
  have e2 : (2 : Int) * 2 ^ (k - 1) = ((2 ^ k : Nat) : Int) := by
    rw [← pow_succ', show k - 1 + 1 = k by omega]; exact (Int.natCast_pow 2 k).symm
  rw [e, e2] at h
  have h' : 2 ^ k < len := by omega
  refine ⟨h', ?_⟩
  apply Classical.byContradiction
  intro hc
  have : 2 ^ 7 ≤ 2 ^ k := Nat.pow_le_pow_right (by decide) (by omega)
  omega

/-! rests by rows of ones -/
theorem pow_emod (a M : Int) (n : Nat) : a ^ n % M = (a % M) ^ n % M := by
  induction n with
  | zero => simp
  | succ n ih => rw [Int.pow_succ, Int.pow_succ, Int.mul_emod, ih, Int.mul_emod ((a % M) ^ n), Int.emod_emod]
theorem fold_step {B M F k found weight : Int} {ns : List Int} {i : Nat} (hF : F % M = B % M) (h : ns[i]? = some k) (hf : found = val B (ns.take i) % M) (hw : weight = B ^ i % M) :
    (found + k % M * weight) % M = val B (ns.take (i + 1)) % M ∧ weight * F % M = B ^ (i + 1) % M := by
  constructor
  · rw [val_take_at h, hf, hw, Int.add_emod, Int.add_emod (val B (ns.take i)) (B ^ i * k), Int.emod_emod]
    congr 2
    rw [Int.mul_comm (B ^ i) k, Int.mul_emod k (B ^ i)]
  · rw [hw, Int.pow_succ, Int.mul_emod, Int.emod_emod, hF, ← Int.mul_emod]
theorem ones_factor {w n : Nat} (hn : 1 ≤ n) : (2 : Int) ^ (w % n) % (2 ^ n - 1) = 2 ^ w % (2 ^ n - 1) := by
  have e : w = n * (w / n) + w % n := (Nat.div_add_mod w n).symm
  have h0 : ∀ P : Int, P % (P - 1) = 1 % (P - 1) := fun P => by
    have h := Int.add_mul_emod_self_left 1 (P - 1) 1
    rw [show 1 + (P - 1) * 1 = P by omega] at h
    exact h
  have h1 := h0 ((2 : Int) ^ n)
  have h2 : ((2 : Int) ^ (n * (w / n))) % (2 ^ n - 1) = 1 % (2 ^ n - 1) := by
    rw [Int.pow_mul, pow_emod, h1, ← pow_emod, Int.one_pow]
  conv => rhs; rw [e, Int.pow_add, Int.mul_emod, h2, ← Int.mul_emod, Int.one_mul]

theorem draw_step {B x y : Int} {i : Nat} (hB : 0 < B) (h0 : 0 ≤ x) (h1 : x < B ^ i) (hy : 0 ≤ y) (hy1 : y < B) : 0 ≤ x * B + y ∧ x * B + y < B ^ (i + 1) := by
  have h2 := Int.mul_nonneg h0 (Int.le_of_lt hB)
  have h3 : (x + 1) * B ≤ B ^ i * B := Int.mul_le_mul_of_nonneg_right (by omega) (Int.le_of_lt hB)
  rw [Int.add_mul, Int.one_mul, show B ^ i * B = B ^ (i + 1) from (Int.pow_succ B i).symm] at h3
  omega
theorem menu_ok {B a : Int} (hB : 1 < B) (h0 : 0 ≤ a) (h1 : a < 1 * B) : ∀ j : Nat, 0 ≤ [a, 0, 1 * B - 1].getD j 0 ∧ [a, 0, 1 * B - 1].getD j 0 < B
  | 0 => ⟨h0, by simpa using h1⟩
  | 1 => ⟨Int.le_refl _, by show (0 : Int) < B; omega⟩
  | 2 => ⟨by show (0 : Int) ≤ 1 * B - 1; omega, by show 1 * B - 1 < B; omega⟩
  | (n + 3) => ⟨Int.le_refl _, by show (0 : Int) < B; omega⟩

end
section

open PySem.Calls

abbrev PG : PySem.Program := PySem.Challenge.rw_nz0083_01.row.prog

/-- everything that lies in the one heap lies in the other as it was -/
def Keeps (h h' : Heap) : Prop := ∀ b o, h.get? b = some o → h'.get? b = some o
theorem Keeps.refl (h : Heap) : Keeps h h := fun _ _ e => e
theorem Keeps.trans {a b c : Heap} (h : Keeps a b) (k : Keeps b c) : Keeps a c := fun x o e => k x o (h x o e)

/-- the program's own objects lie in the heap -/
structure Wd (w : World) (h : Heap) : Prop where
  X : (hd.heap_39 w.params).In h
  T : ∃ mean mg mb, Top hd.view_39 (looseW hd.view_39 []) mean mg mb h
theorem Wd.keeps {w : World} {h h' : Heap} (W : Wd w h) (k : Keeps h h') : Wd w h' :=
  ⟨W.X.keeps k, let ⟨a, b, c, T⟩ := W.T; ⟨a, b, c, T.keeps k⟩⟩

/-- room for d more frames -/
structure Room (A : Around) (d : Nat) : Prop where
  handled : A.handled = none
  depth : A.depth + d < 900
  units : A.units + 4 * d < 9000
theorem Room.deeper {A : Around} {d : Nat} (R : Room A (d + 1)) (env : Env) : Room (A.deeper env) d :=
  ⟨R.handled, by have := R.depth; show A.depth + 1 + d < 900; omega, by have := R.units; show A.units + 3 + 4 * d < 9000; omega⟩
theorem Room.le {A : Around} {d e : Nat} (R : Room A d) (h : e ≤ d) : Room A e :=
  ⟨R.handled, by have := R.depth; omega, by have := R.units; omega⟩

section
variable {prog : Program} {w : World} {A : Around} {s : Shared} {K : Frag} {E : Value → Shared → Prop} {Q : Value → Shared → Prop}
theorem enter {name qual : Str} {params : Arguments} {body : List Stmt} {scope : Scope} {dV kV doc pm cdv ct oc : Value} {an od : Option Addr} {osl : Array (Option Value)} {f : Addr} {args : List Value} {binds : List (Str × Value)}
    (X : K.In s.heap) (hlim : s.heap.NoLimit)
    (ho : K.lookup f = some ⟨oc, od, .func (fnOf name qual params body scope dV kV doc pm an cdv ct), osl⟩) (hcd : codeIn K cdv qual = true) (hroom : A.depth < recursionLimit)
    (hbind : BindsTo s (fnOf name qual params body scope dV kV doc pm an cdv ct) ⟨args, []⟩ binds) (hloc : ∀ y ∈ binds, scope.names.lookup y.1 = some .local)
    (hco : scope.isCoroutine = false) (hgen : scope.isGenerator = false) (hk : scope.kind = .function)
    (hcell : ∀ x ∈ scope.names, x.2 ≠ .cell)
    (h : ∀ L h₁ tk, Fr s.heap L h₁ (fun y => binds.reverse.lookup y) → News s.heap L h₁ [] →
      wpAny (model prog w) (A.deeper (envOf qual scope L f cdv)) (execs body (envOf qual scope L f cdv))
        (fun fl s' => Q (match fl with | .ret v => v | _ => .none) s') (fun _ _ => False) { s with heap := h₁, toks := tk }) :
    wpAny (model prog w) A (call (.ref f) args) Q E s := by
  refine wpAny_call (codeAny_call_def (fd := fnOf name qual params body scope dV kV doc pm an cdv ct) (body := body) (binds := binds) hroom (X _ _ ho) rfl hlim (codeRec_of X hcd) rfl hbind hcell hloc (fun h₁ hns hk₁ => ?_) hco hgen hk)
  exact wpAny_mono (h _ h₁ _ ⟨hns, hk₁, Nat.le_refl _⟩ News.nil) (fun _ _ x => x) (fun _ _ x => x.elim)
end

end
section

open PySem.Calls PySem.Spec

/-- the frame says so -/
def Says (m : Str → Option Value) (ps : List (Str × Value)) : Prop := ∀ p ∈ ps, m p.1 = some p.2
theorem hk0 {m : Str → Option Value} : Says m [] := fun _ h => nomatch h
theorem hk1 {m : Str → Option Value} {n : Str} {v : Value} {l : List (Str × Value)} (h : m n = some v) (r : Says m l) : Says m ((n, v) :: l) := fun p hp => by
  rcases List.mem_cons.mp hp with rfl | hp
  · exact h
  · exact r p hp
/-- the ledger has them -/
def Has (news led : List (Addr × Obj)) : Prop := ∀ p ∈ led, p ∈ news
theorem hn0 {news : List (Addr × Obj)} : Has news [] := fun _ h => nomatch h
theorem hn1 {news : List (Addr × Obj)} {q : Addr × Obj} {l : List (Addr × Obj)} (h : q ∈ news) (r : Has news l) : Has news (q :: l) := fun p hp => by
  rcases List.mem_cons.mp hp with rfl | hp
  · exact h
  · exact r p hp
theorem Has.news {g h : Heap} {L : Addr} {news led : List (Addr × Obj)} (H : Has news led) (N : News g L h news) : News g L h led := fun p hp => N p (H p hp)
def TNext {σ : Type} (g : Heap) (L : Addr) (s : Shared) (ps : σ → List (Str × Value)) (Led : σ → List (Addr × Obj)) (P : σ → Prop) (own : List (Addr × Obj)) (s₂ : Shared) : Prop :=
  ∃ c' h' tk' m' news', s₂ = { s with heap := h', toks := tk' } ∧ Fr g L h' m' ∧ News g L h' news' ∧ Has news' (Led c') ∧ Has news' own ∧ OwnOff own ((Led c').map (·.1)) ∧ Says m' (ps c') ∧ P c'
def TEnd {σ : Type} (g : Heap) (L : Addr) (s : Shared) (Q : Flow → Shared → Prop) (ps : σ → List (Str × Value)) (Led : σ → List (Addr × Obj)) (P : σ → Prop) (own : List (Addr × Obj)) (f : Flow) (s₂ : Shared) : Prop :=
  match f with
  | .ret v => Q (.ret v) s₂
  | .brk => Q .next s₂
  | _ => TNext g L s ps Led P own s₂

theorem kstB_self {m : Str → Option Value} {ps : List (Str × Value)} (h : Says m ps) : kstB m ps = m := by
  funext y
  exact kstB_eq h fun _ => rfl

section
variable {prog : Program} {w : World} {A : Around} {E : Value → Shared → Prop} {s : Shared} {env : Env} {g : Heap} {x : Str} {body : List Stmt} {Q : Flow → Shared → Prop}

theorem forW {σ : Type} {I : Addr} {fp : List Addr} {n : Nat} {P' : Nat → Value → Prop} {St : Nat → Heap → Prop} {m₀ : Str → Option Value} (ps : σ → List (Str × Value)) (Led : σ → List (Addr × Obj)) (P : Nat → σ → Prop) (c₀ : σ)
    (W : Walks prog w A I fp [I] n P' St) (hI : I ∈ fp) (hlive : ∀ i h, St i h → ∀ b ∈ fp, ∃ o, h.get? b = some o) (hLf : env.locals ∉ fp) (hwr : g.get? I = none) (hst : St 0 s.heap)
    (F : Fr g env.locals s.heap m₀) (N : News g env.locals s.heap (Led c₀)) (hoff : ∀ p ∈ Led c₀, p.1 ∉ fp)
    (hk : Says m₀ (ps c₀)) (hp : P 0 c₀)
    (turn : ∀ i v c u h tk own, i < n → P' i v → P i c → OwnOff own ((Led c).map (·.1)) → Fr g env.locals h (fun y => if y = x then some v else kstB u (ps c) y) → News g env.locals h (Led c ++ own) →
      wpAny (model prog w) A (execs body env) (TEnd g env.locals { s with heap := h, toks := tk } Q ps Led (P (i + 1)) own) E { s with heap := h, toks := tk })
    (done : ∀ c u h tk, P n c → Fr g env.locals h (kstB u (ps c)) → News g env.locals h (Led c) → Q .next { s with heap := h, toks := tk }) :
    LoopAtV prog w A g env x body Q E (.ref I) s := by
  let J : Nat → (Str → Option Value) → List (Addr × Obj) → Prop := fun i m nx => ∃ c, nx = Led c ∧ (∀ p ∈ Led c, p.1 ∉ fp) ∧ (∀ p ∈ ps c, m p.1 = some p.2) ∧ P i c
  refine ⟨I, fp, [I], n, P', St, m₀, Led c₀, J, rfl, W, hLf, (fun b hb => by rw [List.mem_singleton.mp hb]; exact hwr), (fun p hp hq => hoff p hp (by rw [List.mem_singleton.mp hq]; exact hI)), hst, F, N, ⟨c₀, rfl, hoff, hk, hp⟩, ?_, ?_⟩
  · rintro i v m₁ nx s₁ own ⟨hh', tk', rfl⟩ hin hP ⟨c, rfl, hoffc, hkc, hpc⟩ _ hown howng hall hst₁ F₁ N₁
    have hsep : OwnOff own ((Led c).map (·.1)) := by
      intro p hp b hb e
      obtain ⟨q, hq, rfl⟩ := List.mem_map.mp hb
      exact hoffc q hq (e ▸ hown p hp)
    have N₂ : News g env.locals hh' (Led c ++ own) := fun p hp => N₁ p ((List.mem_append.mp hp).elim (fun h => List.mem_append.mpr (.inr h)) fun h => List.mem_append.mpr (.inl h))
    have F₂ : Fr g env.locals hh' (fun y => if y = x then some v else kstB m₁ (ps c) y) := by rw [kstB_self hkc]; exact F₁
    refine wpAny_mono (turn i v c m₁ hh' tk' own hin hP hpc hsep F₂ N₂) (fun f s₂ p => ?_) fun _ _ e => e
    have fin : TNext g env.locals { s with heap := hh', toks := tk' } ps Led (P (i + 1)) own s₂ → LoopStepU g env.locals [I] own (J (i + 1)) { s with heap := hh', toks := tk' } .next s₂ := by
      rintro ⟨c', h', tk, m', news', e, F', N', hn, ho, ha, hks, hm⟩
      have hoff' : ∀ p ∈ Led c', p.1 ∉ fp := by
        intro p hp hq
        have hg := (N' p (hn p hp)).2.2
        obtain ⟨o, ho'⟩ := hlive _ _ hst₁ _ hq
        exact ha _ (hall _ hq hg o ho') _ (List.mem_map.mpr ⟨p, hp, rfl⟩) rfl
      exact ⟨rfl, h', tk, m', Led c', e, F', fun p hp => N' p ((List.mem_append.mp hp).elim (ho p) (hn p)), fun p hp hq => hoff' p hp (by rw [List.mem_singleton.mp hq]; exact hI), c', rfl, hoff', hks, hm⟩
    cases f with
    | ret v => exact .ret p
    | brk => exact .brk p
    | next => exact .next (fin p)
    | cont => exact .cont (fin p)
  · rintro h' tk m' news' F' N' _ ⟨c, rfl, _, hkc, hpc⟩
    refine done c m' h' tk hpc ?_ N'
    rw [kstB_self hkc]; exact F'

theorem forL {σ : Type} {l : Addr} {vs : List Value} {ns : List Int} {m₀ : Str → Option Value} (ps : σ → List (Str × Value)) (Led : σ → List (Addr × Obj)) (P : Nat → σ → Prop) (c₀ : σ)
    (hh : A.handled = none) (hl : s.heap.IsList l vs.toArray) (hlL : l ≠ env.locals) (hi : IntsAre vs ns) (F : Fr g env.locals s.heap m₀) (N : News g env.locals s.heap (Led c₀)) (hoff : ∀ p ∈ Led c₀, p.1 ≠ l)
    (hk : Says m₀ (ps c₀)) (hp : P 0 c₀)
    (turn : ∀ i k t c u h tk own, ns[i]? = some k → P i c → OwnOff own ((Led c).map (·.1)) → Fr g env.locals h (fun y => if y = x then some (.int k t) else kstB u (ps c) y) → News g env.locals h (Led c ++ own) →
      wpAny (model prog w) A (execs body env) (TEnd g env.locals { s with heap := h, toks := tk } Q ps Led (P (i + 1)) own) E { s with heap := h, toks := tk })
    (done : ∀ c u h tk, P ns.length c → Fr g env.locals h (kstB u (ps c)) → News g env.locals h (Led c) → Q .next { s with heap := h, toks := tk }) :
    wpAny (model prog w) A (pyIter (.ref l)) (fun it s₂ => LoopAtV prog w A g env x body Q E it s₂) E s := by
  obtain ⟨ol, hol, _⟩ := id hl
  have hne : l ≠ s.heap.objs.size := Nat.ne_of_lt (Heap.lt_size hol)
  refine wpAny_pyIter_list hl ?_
  have W := Walks.list (prog := prog) (w := w) hh s.heap.objs.size l hne vs.toArray
  have hlen : vs.toArray.size = ns.length := by simp [hi.length]
  rw [hlen] at W
  have hLI : env.locals ≠ s.heap.objs.size := Nat.ne_of_lt F.ns.lt
  refine forW ps Led P c₀ W (.head _) ?_ ?_ (next_is_new F) ⟨⟨_, Heap.get?_push_size _ rfl, rfl, rfl⟩, hl.at fun o e => Heap.get?_push_of_some _ e⟩ (F.push _) (fun p hp => ⟨Heap.get?_push_of_some _ (N p hp).1, (N p hp).2⟩) ?_ hk hp ?_ done
  · rintro i h ⟨⟨o, ho, _⟩, ⟨o', ho', _⟩⟩ b hb
    rcases List.mem_cons.mp hb with rfl | hb
    · exact ⟨_, ho⟩
    · rw [List.mem_singleton.mp hb]; exact ⟨_, ho'⟩
  · intro hm
    rcases List.mem_cons.mp hm with e | hm
    · exact hLI e
    · exact hlL (List.mem_singleton.mp hm).symm
  · intro p hp hm
    rcases List.mem_cons.mp hm with e | hm
    · exact Nat.ne_of_lt (Heap.lt_size (N p hp).1) e
    · exact hoff p hp (List.mem_singleton.mp hm)
  · intro i v c u h tk own hin hP hpc hsep F₁ N₁
    have hlt' : i < ns.length := hin
    obtain ⟨t, hx⟩ := hi.get i ns[i] (by simp [hlt'])
    have hv : v = .int ns[i] t := by
      have hP' : vs[i]? = some v := by simpa using hP
      rw [hx] at hP'; exact (Option.some.inj hP').symm
    subst hv
    exact turn i ns[i] t c u h tk own (by simp [hlt']) hpc hsep F₁ N₁

theorem forB {σ : Type} {l : Addr} {vs : List Value} {ns : List Int} {m₀ : Str → Option Value} (ps : σ → List (Str × Value)) (Led : σ → List (Addr × Obj)) (P : Nat → σ → Prop) (c₀ : σ)
    (hh : A.handled = none) (hl : g.IsList l vs.toArray) (hi : IntsAre vs ns) (F : Fr g env.locals s.heap m₀) {news : List (Addr × Obj)} (N : News g env.locals s.heap news) (hN : Has news (Led c₀))
    (hk : Says m₀ (ps c₀)) (hp : P 0 c₀)
    (turn : ∀ i k t c u h tk own, ns[i]? = some k → P i c → OwnOff own ((Led c).map (·.1)) → Fr g env.locals h (fun y => if y = x then some (.int k t) else kstB u (ps c) y) → News g env.locals h (Led c ++ own) →
      wpAny (model prog w) A (execs body env) (TEnd g env.locals { s with heap := h, toks := tk } Q ps Led (P (i + 1)) own) E { s with heap := h, toks := tk })
    (done : ∀ c u h tk, P ns.length c → Fr g env.locals h (kstB u (ps c)) → News g env.locals h (Led c) → Q .next { s with heap := h, toks := tk }) :
    wpAny (model prog w) A (pyIter (.ref l)) (fun it s₂ => LoopAtV prog w A g env x body Q E it s₂) E s := by
  obtain ⟨ol, hol, _⟩ := id hl
  refine forL ps Led P c₀ hh (hl.at fun o e => F.keep l o e) ?_ hi F (hN.news N) ?_ hk hp turn done
  · exact Nat.ne_of_lt (Nat.lt_of_lt_of_le (Heap.lt_size hol) F.above)
  · rintro p hp rfl
    have := (N p (hN p hp)).2.2
    rw [hol] at this; cases this

theorem forM {σ : Type} {l : Addr} {vs : List Value} {ns : List Int} {nn : Nat} {m₀ : Str → Option Value} {news : List (Addr × Obj)} (ps : σ → List (Str × Value)) (Led : σ → List (Addr × Obj)) (P : Nat → σ → Prop) (c₀ : σ)
    (hh : A.handled = none) (hi : IntsAre vs ns) (F : Fr g env.locals s.heap m₀) (N : News g env.locals s.heap news) (hl : (l, listOf vs.toArray nn) ∈ news) (hn : Has news (Led c₀)) (hoff : ∀ p ∈ Led c₀, p.1 ≠ l)
    (hk : Says m₀ (ps c₀)) (hp : P 0 c₀)
    (turn : ∀ i k t c u h tk own, ns[i]? = some k → P i c → OwnOff own ((Led c).map (·.1)) → Fr g env.locals h (fun y => if y = x then some (.int k t) else kstB u (ps c) y) → News g env.locals h (Led c ++ own) →
      wpAny (model prog w) A (execs body env) (TEnd g env.locals { s with heap := h, toks := tk } Q ps Led (P (i + 1)) own) E { s with heap := h, toks := tk })
    (done : ∀ c u h tk, P ns.length c → Fr g env.locals h (kstB u (ps c)) → News g env.locals h (Led c) → Q .next { s with heap := h, toks := tk }) :
    wpAny (model prog w) A (pyIter (.ref l)) (fun it s₂ => LoopAtV prog w A g env x body Q E it s₂) E s :=
  forL ps Led P c₀ hh ⟨_, (N _ hl).1, rfl, nn, rfl⟩ (N _ hl).2.1 hi F (fun p hp => N p (hn p hp)) hoff hk hp turn done

theorem forR {σ : Type} {r : Addr} {a b d : Int} {t₀ u₀ v₀ : Tok} {n : Nat} {m₀ : Str → Option Value} {news : List (Addr × Obj)} (ps : σ → List (Str × Value)) (Led : σ → List (Addr × Obj)) (P : Nat → σ → Prop) (c₀ : σ)
    (hh : A.handled = none) (hr : IsRange s.heap r a b d t₀ u₀ v₀) (hsmall : Builtin.Range.small a b d = true) (hn : Builtin.Range.rangeSize a b d = (n : Int)) (F : Fr g env.locals s.heap m₀) (N : News g env.locals s.heap news) (hN : Has news (Led c₀))
    (hk : Says m₀ (ps c₀)) (hp : P 0 c₀)
    (turn : ∀ i t c u h tk own, i < n → P i c → OwnOff own ((Led c).map (·.1)) → Fr g env.locals h (fun y => if y = x then some (.int (a + (i : Int) * d) t) else kstB u (ps c) y) → News g env.locals h (Led c ++ own) →
      wpAny (model prog w) A (execs body env) (TEnd g env.locals { s with heap := h, toks := tk } Q ps Led (P (i + 1)) own) E { s with heap := h, toks := tk })
    (done : ∀ c u h tk, P n c → Fr g env.locals h (kstB u (ps c)) → News g env.locals h (Led c) → Q .next { s with heap := h, toks := tk }) :
    wpAny (model prog w) A (pyIter (.ref r)) (fun it s₂ => LoopAtV prog w A g env x body Q E it s₂) E s := by
  refine wpAny_pyIter_range hr hsmall ?_
  have W := Walks.range (prog := prog) (w := w) hh s.heap.objs.size a d n
  refine forW ps Led P c₀ W (.head _) ?_ ?_ (next_is_new F) (by show IsRangeIter _ _ _ _ _; rw [hn]; simpa using Heap.get?_push_size _ rfl) (F.push _) (fun p hp => ⟨Heap.get?_push_of_some _ (N p (hN p hp)).1, (N p (hN p hp)).2⟩) ?_ hk hp ?_ done
  · intro i h hst b hb
    rw [List.mem_singleton.mp hb]; exact ⟨_, hst⟩
  · intro hm
    exact absurd F.ns.lt ((List.mem_singleton.mp hm) ▸ Nat.lt_irrefl _)
  · intro p hp hm
    exact Nat.ne_of_lt (Heap.lt_size (N p (hN p hp)).1) (List.mem_singleton.mp hm)
  · rintro i v c u h tk own hin ⟨t, rfl⟩ hpc hsep F₁ N₁
    exact turn i t c u h tk own hin hpc hsep F₁ N₁
end

/-- a while: the measure falls -/
def WEnd {σ : Type} (g : Heap) (L : Addr) (s : Shared) (Q : Flow → Shared → Prop) (ps : σ → List (Str × Value)) (Led : σ → List (Addr × Obj)) (P : σ → Prop) (μ : σ → Nat) (c : σ) (f : Flow) (s₂ : Shared) : Prop :=
  match f with
  | .ret v => Q (.ret v) s₂
  | .brk => Q .next s₂
  | _ => ∃ c' h' tk' m' news', s₂ = { s with heap := h', toks := tk' } ∧ Fr g L h' m' ∧ News g L h' news' ∧ Has news' (Led c') ∧ Says m' (ps c') ∧ P c' ∧ μ c' < μ c
section
variable {prog : Program} {w : World} {A : Around} {E : Value → Shared → Prop} {s : Shared} {env : Env} {g : Heap} {L : Addr} {test : PySem.Expr} {body : List Stmt} {pos : Pos} {Q : Flow → Shared → Prop}
theorem whileW {σ : Type} {m₀ : Str → Option Value} {news : List (Addr × Obj)} (ps : σ → List (Str × Value)) (Led : σ → List (Addr × Obj)) (P : σ → Prop) (μ : σ → Nat) (c₀ : σ)
    (F : Fr g L s.heap m₀) (N : News g L s.heap news) (hN : Has news (Led c₀)) (hk : Says m₀ (ps c₀)) (hp : P c₀)
    (turn : ∀ c u h tk, P c → Fr g L h (kstB u (ps c)) → News g L h (Led c) →
      wpAny (model prog w) A (isTrue test env (eval test env)) (fun b s₂ =>
        if b = true then wpAny (model prog w) A (execs body env) (WEnd g L s Q ps Led P μ c) E s₂ else Q .next s₂) E { s with heap := h, toks := tk })
    (hE : PassesOwn (model prog w) A env E) :
    wpAny (model prog w) A (exec (.While test body [] pos) env) Q E s := by
  refine While_inv2 (fun n m nx => ∃ c : σ, nx = Led c ∧ μ c = n ∧ (∀ p ∈ ps c, m p.1 = some p.2) ∧ P c) F (fun p hp => N p (hN p hp)) ⟨c₀, rfl, rfl, hk, hp⟩ ?_ hE
  rintro n m₁ nx h tk F₁ N₁ ⟨c, rfl, rfl, hkc, hpc⟩
  have F₂ : Fr g L h (kstB m₁ (ps c)) := by rw [kstB_self hkc]; exact F₁
  refine wpAny_mono (turn c m₁ h tk hpc F₂ N₁) (fun b s₂ p => ?_) fun _ _ x => x
  cases b with
  | false => simpa using p
  | true =>
    simp only [if_true] at p ⊢
    refine wpAny_mono p (fun f s₃ q => ?_) fun _ _ x => x
    cases f with
    | ret v => exact q
    | brk => exact q
    | next =>
      obtain ⟨c', h', tk', m', news', rfl, F', N', hn, hk9, hp9, hm9⟩ := q
      exact ⟨h', tk', m', Led c', μ c', rfl, F', fun p hp => N' p (hn p hp), hm9, c', rfl, rfl, hk9, hp9⟩
    | cont =>
      obtain ⟨c', h', tk', m', news', rfl, F', N', hn, hk9, hp9, hm9⟩ := q
      exact ⟨h', tk', m', Led c', μ c', rfl, F', fun p hp => N' p (hn p hp), hm9, c', rfl, rfl, hk9, hp9⟩
end

def Stop (P : Prop) : Prop := P
theorem stop {P : Prop} (h : Stop P) : P := h
theorem unstop {P : Prop} (h : P) : Stop P := h

/-- a list comes back: new, of ints that fulfil a word; all else stays -/
def RetR (Q : Value → Shared → Prop) (s : Shared) (Rel : List Int → Prop) : Prop :=
  ∀ r vs n ns h' tk', Keeps s.heap h' → s.heap.get? r = none → h'.get? r = some (listOf (List.toArray vs) n) → IntsAre vs ns → Rel ns → Q (.ref r) { s with heap := h', toks := tk' }
/-- an int comes back -/
def RetI (Q : Value → Shared → Prop) (s : Shared) (z : Int) : Prop :=
  ∀ t h' tk', Keeps s.heap h' → Q (.int z t) { s with heap := h', toks := tk' }

/-- one name of a frame's loop says -/
theorem TEnd.next {σ : Type} {g : Heap} {L : Addr} {s : Shared} {Q : Flow → Shared → Prop} {ps : σ → List (Str × Value)} {Led : σ → List (Addr × Obj)} {P : σ → Prop} {own : List (Addr × Obj)} (c' : σ) {h' : Heap} {tk' : Nat} {m' : Str → Option Value} {news' : List (Addr × Obj)}
    (F : Fr g L h' m') (N : News g L h' news') (hn : Has news' (Led c')) (ho : Has news' own) (ha : OwnOff own ((Led c').map (·.1))) (hk : Says m' (ps c')) (hp : P c') : TEnd g L s Q ps Led P own .next { s with heap := h', toks := tk' } :=
  ⟨c', h', tk', m', news', rfl, F, N, hn, ho, ha, hk, hp⟩
theorem WEnd.next {σ : Type} {g : Heap} {L : Addr} {s : Shared} {Q : Flow → Shared → Prop} {ps : σ → List (Str × Value)} {Led : σ → List (Addr × Obj)} {P : σ → Prop} {μ : σ → Nat} {c : σ} (c' : σ) {h' : Heap} {tk' : Nat} {m' : Str → Option Value} {news' : List (Addr × Obj)}
    (F : Fr g L h' m') (N : News g L h' news') (hn : Has news' (Led c')) (hk : Says m' (ps c')) (hp : P c') (hm : μ c' < μ c) : WEnd g L s Q ps Led P μ c .next { s with heap := h', toks := tk' } :=
  ⟨c', h', tk', m', news', rfl, F, N, hn, hk, hp, hm⟩
theorem off0 {own : List (Addr × Obj)} : OwnOff own [] := fun _ _ _ h => nomatch h
theorem off1 {own : List (Addr × Obj)} {a : Addr} {l : List Addr} (h : ∀ p ∈ own, p.1 ≠ a) (r : OwnOff own l) : OwnOff own (a :: l) := fun p hp b hb => by
  rcases List.mem_cons.mp hb with rfl | hb
  · exact h p hp
  · exact r p hp b hb
theorem has_tail {a : Addr × Obj} {l l' : List (Addr × Obj)} (h : Has l l') : Has (a :: l) l' := fun p hp => .tail _ (h p hp)
theorem has_refl {l : List (Addr × Obj)} : Has l l := fun _ hp => hp

section
variable {Q : Value → Shared → Prop} {s : Shared} {g : Heap} {L : Addr} {m : Str → Option Value} {news : List (Addr × Obj)}
theorem Fr.after {h h' : Heap} (F : Fr g L h m) (k : Keeps h h') : Fr g L h' m :=
  ⟨F.ns.at' fun o e => k _ o e, fun b o e => k b o (F.keep b o e), F.above⟩
theorem News.after {h h' : Heap} (N : News g L h news) (k : Keeps h h') : News g L h' news :=
  fun p hp => ⟨k _ _ (N p hp).1, (N p hp).2⟩
theorem News.fresh1 {h h' : Heap} {r : Addr} {o : Obj} (F : Fr g L h m) (N : News g L h news) (k : Keeps h h') (hf : h.get? r = none) (hg : h'.get? r = some o) : News g L h' ((r, o) :: news) := fun p hp => by
  rcases List.mem_cons.mp hp with rfl | hp
  · refine ⟨hg, ?_, ?_⟩
    · rintro rfl
      obtain ⟨oL, _, _, hL, _⟩ := F.ns
      rw [hL] at hf; cases hf
    · cases q : g.get? r with
      | none => rfl
      | some o' => rw [F.keep _ _ q] at hf; cases hf
  · exact News.after N k p hp
theorem News.apart {h : Heap} {r : Addr} (N : News g L h news) (hf : h.get? r = none) : ∀ p ∈ news, p.1 ≠ r := fun p hp e => by
  have := (N p hp).1
  rw [e, hf] at this; cases this

/-- a call within a frame: the frame stands, the ledger has one more -/
theorem RetR.framed {Rel : List Int → Prop} (F : Fr g L s.heap m) (N : News g L s.heap news)
    (k : ∀ r vs n ns h' tk', Fr g L h' m → News g L h' ((r, listOf (List.toArray vs) n) :: news) → (∀ p ∈ news, p.1 ≠ r) → IntsAre vs ns → Rel ns → Q (.ref r) { s with heap := h', toks := tk' }) : RetR Q s Rel :=
  fun r vs n ns h' tk' hk hf hg hi hr => k r vs n ns h' tk' (Fr.after F hk) (News.fresh1 F N hk hf hg) (News.apart N hf) hi hr
theorem RetI.framed {z : Int} (F : Fr g L s.heap m) (N : News g L s.heap news)
    (k : ∀ t h' tk', Fr g L h' m → News g L h' news → Q (.int z t) { s with heap := h', toks := tk' }) : RetI Q s z :=
  fun t h' tk' hk => k t h' tk' (Fr.after F hk) (News.after N hk)
/-- a def's end -/
theorem RetR.out {Rel : List Int → Prop} {r : Addr} {vs : List Value} {n : Nat} {ns : List Int} {h' : Heap} {tk' : Nat} (ret : RetR Q s Rel) (F : Fr s.heap L h' m) (N : News s.heap L h' news) (hm : (r, listOf (List.toArray vs) n) ∈ news) (hi : IntsAre vs ns) (hr : Rel ns) :
    Q (.ref r) { s with heap := h', toks := tk' } := ret r vs n ns h' tk' F.keep (N.fresh hm) (N.get hm) hi hr
theorem RetI.out {z y : Int} {t : Tok} {h' : Heap} {tk' : Nat} (ret : RetI Q s z) (F : Fr s.heap L h' m) (e : y = z) : Q (.int y t) { s with heap := h', toks := tk' } := e ▸ ret t h' tk' F.keep
end
theorem lst_of {h : Heap} {l : Addr} {vs : List Value} {n : Nat} (e : h.get? l = some (listOf (List.toArray vs) n)) : h.IsList l vs.toArray := ⟨_, e, rfl, n, rfl⟩
theorem Wd.fr {w : World} {g h : Heap} {L : Addr} {m : Str → Option Value} (W : Wd w g) (F : Fr g L h m) : Wd w h := W.keeps F.keep
theorem bit_mask (x : Int) (k : Nat) : Builtin.bitAnd x (1 * 2 ^ k - 1) = x % 2 ^ k := by rw [Int.one_mul]; exact kbt_mask x k
theorem bits_of {x B : Int} {k : Nat} (h0 : 0 ≤ x) (hB0 : 0 ≤ B) (hB : B ≤ 512) (hk : k ≤ 1000) (h : x < B ^ k) : Builtin.Int.intBits x ≤ 1048576 := by
  have h1 : B ^ k ≤ (512 : Int) ^ k := by
    clear h hk
    induction k with
    | zero => simp
    | succ k ih =>
      rw [Int.pow_succ, Int.pow_succ]
      exact Int.mul_le_mul ih hB hB0 (Int.le_of_lt (Int.pow_pos (by decide)))
  have h2 : (512 : Int) ^ k = ((2 ^ (9 * k) : Nat) : Int) := by
    rw [Nat.pow_mul]; exact (Int.natCast_pow 512 k).symm
  have h3 : x.natAbs < 2 ^ (9 * k) := by
    have : (x.natAbs : Int) = x := Int.natAbs_of_nonneg h0
    omega
  exact Nat.le_trans (intBits_le_iff.mpr h3) (by omega)
theorem log_of {x B : Int} {k : Nat} (h0 : 0 ≤ x) (hB0 : 0 ≤ B) (hB : B ≤ 512) (hk : k ≤ 999) (h : x < B ^ k) : x.natAbs.log2 < 9000 := by
  have h1 : B ^ k ≤ (512 : Int) ^ k := by
    clear h hk
    induction k with
    | zero => simp
    | succ k ih =>
      rw [Int.pow_succ, Int.pow_succ]
      exact Int.mul_le_mul ih hB hB0 (Int.le_of_lt (Int.pow_pos (by decide)))
  have h2 : (512 : Int) ^ k = ((2 ^ (9 * k) : Nat) : Int) := by
    rw [Nat.pow_mul]; exact (Int.natCast_pow 512 k).symm
  have h3 : x.natAbs < 2 ^ (9 * k) := by
    have : (x.natAbs : Int) = x := Int.natAbs_of_nonneg h0
    omega
  by_cases hz : x.natAbs = 0
  · rw [hz]; decide
  · have := (Nat.log2_lt hz).mpr h3
    omega
theorem room_in {dp un : Nat} {fr : Option (List Env)} {gd : Option (List Code)} {env : Env} {d : Nat} (h1 : dp + (d + 1) < 900) (h2 : un + 4 * (d + 1) < 9000) : Room (Around.deeper { handled := none, depth := dp, frames := fr, guards := gd, units := un } env) d :=
  Room.deeper (A := { handled := none, depth := dp, frames := fr, guards := gd, units := un }) ⟨rfl, h1, h2⟩ env

abbrev tupOf (vs : List Value) : Obj := { cls := .type "tuple", data := .seq vs.toArray }
/-- a pair of lists comes back -/
def RetLL (Q : Value → Shared → Prop) (s : Shared) (R1 R2 : List Int → Prop) : Prop :=
  ∀ T q v1 n1 k1 r v2 n2 k2 h' tk', Keeps s.heap h' → s.heap.get? T = none → s.heap.get? q = none → s.heap.get? r = none → h'.get? T = some (tupOf [.ref q, .ref r]) → h'.get? q = some (listOf (List.toArray v1) n1) → h'.get? r = some (listOf (List.toArray v2) n2) →
    IntsAre v1 k1 → IntsAre v2 k2 → R1 k1 → R2 k2 → Q (.ref T) { s with heap := h', toks := tk' }
/-- a list and an int come back -/
def RetLI (Q : Value → Shared → Prop) (s : Shared) (R1 : List Int → Prop) (z : Int) : Prop :=
  ∀ T q v1 n1 k1 t h' tk', Keeps s.heap h' → s.heap.get? T = none → s.heap.get? q = none → h'.get? T = some (tupOf [.ref q, .int z t]) → h'.get? q = some (listOf (List.toArray v1) n1) →
    IntsAre v1 k1 → R1 k1 → Q (.ref T) { s with heap := h', toks := tk' }
section
variable {Q : Value → Shared → Prop} {s : Shared} {g : Heap} {L : Addr} {m : Str → Option Value} {news : List (Addr × Obj)}
theorem RetLL.framed {R1 R2 : List Int → Prop} (F : Fr g L s.heap m) (N : News g L s.heap news)
    (k : ∀ T q v1 n1 k1 r v2 n2 k2 h' tk', Fr g L h' m → News g L h' ((T, tupOf [.ref q, .ref r]) :: (q, listOf (List.toArray v1) n1) :: (r, listOf (List.toArray v2) n2) :: news) → (∀ p ∈ news, p.1 ≠ T) → (∀ p ∈ news, p.1 ≠ q) → (∀ p ∈ news, p.1 ≠ r) →
      IntsAre v1 k1 → IntsAre v2 k2 → R1 k1 → R2 k2 → Q (.ref T) { s with heap := h', toks := tk' }) : RetLL Q s R1 R2 :=
  fun T q v1 n1 k1 r v2 n2 k2 h' tk' hk hT hq hr gT gq gr i1 i2 r1 r2 => k T q v1 n1 k1 r v2 n2 k2 h' tk' (Fr.after F hk)
    (fun p hp => by
      rcases List.mem_cons.mp hp with rfl | hp
      · exact News.fresh1 F N hk hT gT _ (.head _)
      rcases List.mem_cons.mp hp with rfl | hp
      · exact News.fresh1 F N hk hq gq _ (.head _)
      · exact News.fresh1 F N hk hr gr p hp) (News.apart N hT) (News.apart N hq) (News.apart N hr) i1 i2 r1 r2
theorem RetLI.framed {R1 : List Int → Prop} {z : Int} (F : Fr g L s.heap m) (N : News g L s.heap news)
    (k : ∀ T q v1 n1 k1 t h' tk', Fr g L h' m → News g L h' ((T, tupOf [.ref q, .int z t]) :: (q, listOf (List.toArray v1) n1) :: news) → (∀ p ∈ news, p.1 ≠ T) → (∀ p ∈ news, p.1 ≠ q) →
      IntsAre v1 k1 → R1 k1 → Q (.ref T) { s with heap := h', toks := tk' }) : RetLI Q s R1 z :=
  fun T q v1 n1 k1 t h' tk' hk hT hq gT gq i1 r1 => k T q v1 n1 k1 t h' tk' (Fr.after F hk)
    (fun p hp => by
      rcases List.mem_cons.mp hp with rfl | hp
      · exact News.fresh1 F N hk hT gT _ (.head _)
      · exact News.fresh1 F N hk hq gq p hp) (News.apart N hT) (News.apart N hq) i1 r1
theorem RetLL.out {R1 R2 : List Int → Prop} {T q r : Addr} {v1 v2 : List Value} {n1 n2 : Nat} {k1 k2 : List Int} {h' : Heap} {tk' : Nat} (ret : RetLL Q s R1 R2) (F : Fr s.heap L h' m) (N : News s.heap L h' news) (hT : (T, tupOf [.ref q, .ref r]) ∈ news)
    (hq : (q, listOf (List.toArray v1) n1) ∈ news) (hr : (r, listOf (List.toArray v2) n2) ∈ news) (i1 : IntsAre v1 k1) (i2 : IntsAre v2 k2) (r1 : R1 k1) (r2 : R2 k2) : Q (.ref T) { s with heap := h', toks := tk' } :=
  ret T q v1 n1 k1 r v2 n2 k2 h' tk' F.keep (N.fresh hT) (N.fresh hq) (N.fresh hr) (N.get hT) (N.get hq) (N.get hr) i1 i2 r1 r2
theorem RetLI.out {R1 : List Int → Prop} {z y : Int} {t : Tok} {T q : Addr} {v1 : List Value} {n1 : Nat} {k1 : List Int} {h' : Heap} {tk' : Nat} (ret : RetLI Q s R1 z) (F : Fr s.heap L h' m) (N : News s.heap L h' news) (hT : (T, tupOf [.ref q, .int y t]) ∈ news)
    (hq : (q, listOf (List.toArray v1) n1) ∈ news) (i1 : IntsAre v1 k1) (r1 : R1 k1) (e : y = z) : Q (.ref T) { s with heap := h', toks := tk' } := by
  subst e
  exact ret T q v1 n1 k1 t h' tk' F.keep (N.fresh hT) (N.fresh hq) (N.get hT) (N.get hq) i1 r1
end
theorem nat_and_low (m b k : Nat) (h : b < 2 ^ k) : (m * 2 ^ k) &&& b = 0 := by
  apply Nat.eq_of_testBit_eq
  intro j
  rw [Nat.testBit_and, Nat.zero_testBit]
  by_cases hj : k ≤ j
  · have : b.testBit j = false := Nat.testBit_lt_two_pow (Nat.lt_of_lt_of_le h (Nat.pow_le_pow_right (by decide) hj))
    rw [this, Bool.and_false]
  · have : (m * 2 ^ k).testBit j = false := by
      rw [Nat.testBit_mul_two_pow]; simp; omega
    rw [this, Bool.false_and]
theorem bit_or {r a : Int} {k : Nat} (hr : 0 ≤ r) (h0 : 0 ≤ a) (h1 : a < 2 ^ k) : Builtin.bitOr (r * 2 ^ k) a = r * 2 ^ k + a := by
  have hp := kbt_pos k
  have hrk := Int.mul_nonneg hr (Int.le_of_lt hp)
  have hc := kbt_cast k
  rw [bitOr_and, bitAnd_pp hrk h0]
  have e : (r * 2 ^ k).toNat = r.toNat * 2 ^ k := by
    have : ((r.toNat * 2 ^ k : Nat) : Int) = r * 2 ^ k := by rw [Int.natCast_mul, Int.toNat_of_nonneg hr, hc]
    omega
  rw [e, nat_and_low _ _ _ (by omega)]
  omega
/-- a list that lies in the base or on the ledger's part -/
def At (g : Heap) (ex : List (Addr × Obj)) (l : Addr) (vs : List Value) : Prop := g.IsList l vs.toArray ∨ ∃ n, (l, listOf vs.toArray n) ∈ ex
theorem At.get {g h : Heap} {L : Addr} {m : Str → Option Value} {news ex : List (Addr × Obj)} {l : Addr} {vs : List Value} (a : At g ex l vs) (F : Fr g L h m) (N : News g L h news) (hx : ∀ p ∈ ex, p ∈ news) : h.IsList l vs.toArray := by
  rcases a with a | ⟨n, a⟩
  · exact a.at fun o e => F.keep _ o e
  · exact lst_of (N _ (hx _ a)).1
def AllNe (r : Addr) : List (Addr × Obj) → Prop
  | [] => True
  | p :: t => @Ne Nat p.1 r ∧ AllNe r t
theorem allNe_of {r : Addr} : ∀ {l : List (Addr × Obj)}, (∀ p ∈ l, p.1 ≠ r) → AllNe r l
  | [], _ => trivial
  | p :: _, h => ⟨h p (.head _), allNe_of fun q hq => h q (.tail _ hq)⟩
theorem allNe_all {r : Addr} : ∀ {l : List (Addr × Obj)}, AllNe r l → ∀ p ∈ l, p.1 ≠ r
  | [], _, _, h => nomatch h
  | _ :: _, h, _, .head _ => h.1
  | _ :: _, h, _, .tail _ hq => allNe_all h.2 _ hq
theorem pow_512 {B x : Int} {k : Nat} (hB0 : 0 ≤ B) (hB : B ≤ 512) (h : x < B ^ k) {b : Int} (hb : 2 ≤ b) : x < b ^ (9 * k) := by
  have h1 : B ^ k ≤ (512 : Int) ^ k := by
    clear h
    induction k with
    | zero => simp
    | succ k ih =>
      rw [Int.pow_succ, Int.pow_succ]
      exact Int.mul_le_mul ih hB hB0 (Int.le_of_lt (Int.pow_pos (by decide)))
  have h2 : (512 : Int) ^ k = 2 ^ (9 * k) := by rw [Int.pow_mul]; rfl
  have h3 : (2 : Int) ^ (9 * k) ≤ b ^ (9 * k) := by
    generalize 9 * k = n
    induction n with
    | zero => simp
    | succ n ih => rw [Int.pow_succ, Int.pow_succ]; exact Int.mul_le_mul ih hb (by decide) (Int.le_of_lt (Int.pow_pos (by omega)))
  omega
theorem one_ne {a l : Addr} {o : Obj} (h : @Ne Nat a l) : ∀ p ∈ [(a, o)], p.1 ≠ l := fun p hp => by
  rw [List.mem_singleton.mp hp]; exact h
/-- nothing comes back -/
def RetN (Q : Value → Shared → Prop) (s : Shared) : Prop := ∀ h' tk', Keeps s.heap h' → Q .none { s with heap := h', toks := tk' }
theorem RetN.framed {Q : Value → Shared → Prop} {s : Shared} {g : Heap} {L : Addr} {m : Str → Option Value} {news : List (Addr × Obj)} (F : Fr g L s.heap m) (N : News g L s.heap news)
    (k : ∀ h' tk', Fr g L h' m → News g L h' news → Q .none { s with heap := h', toks := tk' }) : RetN Q s := fun h' tk' hk => k h' tk' (Fr.after F hk) (News.after N hk)
theorem RetN.out {Q : Value → Shared → Prop} {s : Shared} {L : Addr} {m : Str → Option Value} {h' : Heap} {tk' : Nat} (ret : RetN Q s) (F : Fr s.heap L h' m) : Q .none { s with heap := h', toks := tk' } := ret h' tk' F.keep

/-- the rows of a base's powers with the exponents 1, 2, 4 .. -/
def PowIn (ex : List (Addr × Obj)) (B base : Int) (vs : List Value) : Prop :=
  ∀ k v, vs[k]? = some v → ∃ a ws n ns, v = .ref a ∧ (a, listOf (List.toArray ws) n) ∈ ex ∧ IntsAre ws ns ∧ Lim B (base ^ (2 ^ k)) ns ∧ base ^ (2 ^ k) < B ^ 200
def PowH (h : Heap) (B base : Int) (vs : List Value) : Prop :=
  ∀ k v, vs[k]? = some v → ∃ a ws ns, v = .ref a ∧ h.IsList a (List.toArray ws) ∧ IntsAre ws ns ∧ Lim B (base ^ (2 ^ k)) ns ∧ base ^ (2 ^ k) < B ^ 200
theorem PowIn.nil {ex : List (Addr × Obj)} {B base : Int} : PowIn ex B base [] := fun _ _ h => by simp at h
theorem PowIn.mono {ex ex' : List (Addr × Obj)} {B base : Int} {vs : List Value} (h : PowIn ex B base vs) (hs : ∀ p ∈ ex, p ∈ ex') : PowIn ex' B base vs := fun k v e =>
  let ⟨a, ws, n, ns, e1, e2, r⟩ := h k v e
  ⟨a, ws, n, ns, e1, hs _ e2, r⟩
theorem PowIn.snoc {ex : List (Addr × Obj)} {B base : Int} {vs : List Value} {a : Addr} {ws : List Value} {n : Nat} {ns : List Int} (h : PowIn ex B base vs) (hm : (a, listOf (List.toArray ws) n) ∈ ex) (hi : IntsAre ws ns) (hl : Lim B (base ^ (2 ^ vs.length)) ns) (hb : base ^ (2 ^ vs.length) < B ^ 200) :
    PowIn ex B base (vs ++ [.ref a]) := fun k v e => by
  rcases Nat.lt_trichotomy k vs.length with hk | hk | hk
  · rw [List.getElem?_append_left hk] at e; exact h k v e
  · subst hk
    rw [List.getElem?_append_right (Nat.le_refl _), Nat.sub_self] at e
    have e' : Value.ref a = v := by simpa using e
    exact ⟨a, ws, n, ns, e'.symm, hm, hi, hl, hb⟩
  · rw [List.getElem?_eq_none (by simp; omega)] at e; cases e
theorem PowIn.at {g h : Heap} {L : Addr} {ex news : List (Addr × Obj)} {B base : Int} {vs : List Value} (p : PowIn ex B base vs) (N : News g L h news) (hs : ∀ p ∈ ex, p ∈ news) : PowH h B base vs := fun k v e =>
  let ⟨a, ws, n, ns, e1, e2, r⟩ := p k v e
  ⟨a, ws, ns, e1, lst_of (N _ (hs _ e2)).1, r⟩
theorem PowH.keeps {h h' : Heap} {B base : Int} {vs : List Value} (p : PowH h B base vs) (k : Keeps h h') : PowH h' B base vs := fun j v e =>
  let ⟨a, ws, ns, e1, e2, r⟩ := p j v e
  ⟨a, ws, ns, e1, e2.at fun o e => k _ o e, r⟩
theorem PowH.init {h : Heap} {B base : Int} {vs : List Value} (p : PowH h B base vs) : PowH h B base vs.dropLast := fun j v e => p j v (by
  have hj : j < vs.dropLast.length := (List.getElem?_eq_some_iff.mp e).1
  rw [List.length_dropLast] at hj
  rw [List.getElem?_dropLast, if_pos hj] at e
  exact e)
theorem PowH.nil {h : Heap} {B base : Int} : PowH h B base [] := fun _ _ e => by simp at e
/-- powers come back -/
def RetP (Q : Value → Shared → Prop) (s : Shared) (B base n : Int) : Prop :=
  ∀ r vs k ex h' tk', Keeps s.heap h' → s.heap.get? r = none → h'.get? r = some (listOf (List.toArray vs) k) → (∀ p ∈ ex, h'.get? p.1 = some p.2 ∧ s.heap.get? p.1 = none) → PowIn ex B base vs → n < base ^ (2 ^ vs.length) → vs.length ≤ 12 → Q (.ref r) { s with heap := h', toks := tk' }
theorem RetP.framed {Q : Value → Shared → Prop} {s : Shared} {g : Heap} {L : Addr} {m : Str → Option Value} {news : List (Addr × Obj)} {B base n : Int} (F : Fr g L s.heap m) (N : News g L s.heap news)
    (k : ∀ r vs k ex h' tk', Fr g L h' m → News g L h' ((r, listOf (List.toArray vs) k) :: (ex ++ news)) → PowIn ex B base vs → n < base ^ (2 ^ vs.length) → vs.length ≤ 12 → Q (.ref r) { s with heap := h', toks := tk' }) : RetP Q s B base n :=
  fun r vs kk ex h' tk' hk hf hg hex hp hn hl => k r vs kk ex h' tk' (Fr.after F hk) (fun p hp => by
    rcases List.mem_cons.mp hp with rfl | hp
    · exact News.fresh1 F N hk hf hg _ (.head _)
    rcases List.mem_append.mp hp with hp | hp
    · exact News.fresh1 F N hk (hex p hp).2 (hex p hp).1 _ (.head _)
    · exact News.after N hk p hp) hp hn hl
theorem RetP.out {Q : Value → Shared → Prop} {s : Shared} {L : Addr} {m : Str → Option Value} {news ex : List (Addr × Obj)} {B base n : Int} {r : Addr} {vs : List Value} {k : Nat} {h' : Heap} {tk' : Nat} (ret : RetP Q s B base n) (F : Fr s.heap L h' m) (N : News s.heap L h' news)
    (hm : (r, listOf (List.toArray vs) k) ∈ news) (hs : ∀ p ∈ ex, p ∈ news) (hp : PowIn ex B base vs) (hn : n < base ^ (2 ^ vs.length)) (hl : vs.length ≤ 12) : Q (.ref r) { s with heap := h', toks := tk' } :=
  ret r vs k ex h' tk' F.keep (N.fresh hm) (N.get hm) (fun p hp => ⟨(N _ (hs p hp)).1, (N _ (hs p hp)).2.2⟩) hp hn hl
theorem ne_cons {a l : Addr} {o : Obj} {ex : List (Addr × Obj)} (h : @Ne Nat a l) (r : ∀ p ∈ ex, p.1 ≠ l) : ∀ p ∈ (a, o) :: ex, p.1 ≠ l := fun p hp => by
  rcases List.mem_cons.mp hp with rfl | hp
  · exact h
  · exact r p hp

section
variable {prog : Program} {w : World} {A : Around} {E : Value → Shared → Prop} {s : Shared} {g h₀ : Heap} {L : Addr} {m : Str → Option Value} {news : List (Addr × Obj)} {value slice : PySem.Expr} {Q : Value → Shared → Prop} {l : Addr} {vs : List Value} {B base : Int}
theorem len_pow (hl : s.heap.IsList l vs.toArray) (_p : PowH g B base vs) (hz : vs.length ≤ 1000) (h : Q (.int (vs.length : Int) (s.toks + 1)) { s with toks := s.toks + 1 + 1 }) : wpAny (model prog w) A (call (.builtin "len") [.ref l]) Q E s := by
  refine Calls.call_len_list hl (by rw [List.size_toArray]; omega) ?_
  rw [List.size_toArray]; exact h
theorem item_last_pow {u : Tok} (hl : s.heap.IsList l vs.toArray) (p : PowH g B base vs) (h0 : 0 < vs.length)
    (h : ∀ a ws ns, g.IsList a (List.toArray ws) → IntsAre ws ns → Lim B (base ^ (2 ^ (vs.length - 1))) ns → base ^ (2 ^ (vs.length - 1)) < B ^ 200 → Q (.ref a) s)
    (hs : subscripted slice false (.ref l) (.int (-1) u) = operate [.ref l, .int (-1) u] (getItem (.ref l) (.int (-1) u))) (hg : ∀ r, letTemporaryGo value (.ref l) r = pure ()) :
    wpAny (model prog w) A (subscriptTail value slice (.ref l) (.int (-1) u)) Q E s := by
  have hi : vs.length - 1 < vs.length := by omega
  obtain ⟨a, ws, ns, e1, r1, r2, r3, r4⟩ := p (vs.length - 1) vs[vs.length - 1] (List.getElem?_eq_getElem hi)
  refine subscriptTail_builtin hl.typeIs slot_list_getitem.lookup (wpAny_getItem_list_neg hl (by decide) (by rw [List.size_toArray]; omega) (by decide) (x := .ref a) ?_ (h a ws ns r1 r2 r3 r4)) hs hg
  rw [List.size_toArray, show ((-1 : Int) + (vs.length : Int)).toNat = vs.length - 1 by omega, List.getElem?_toArray, List.getElem?_eq_getElem hi, e1]
theorem item_at_pow {u : Tok} {k : Int} (hl : s.heap.IsList l vs.toArray) (p : PowH g B base vs) (h0 : 0 ≤ k) (h1 : k < vs.length) (hz : vs.length ≤ 1000)
    (h : ∀ a ws ns, g.IsList a (List.toArray ws) → IntsAre ws ns → Lim B (base ^ (2 ^ k.toNat)) ns → base ^ (2 ^ k.toNat) < B ^ 200 → Q (.ref a) s)
    (hs : subscripted slice false (.ref l) (.int k u) = operate [.ref l, .int k u] (getItem (.ref l) (.int k u))) (hg : ∀ r, letTemporaryGo value (.ref l) r = pure ()) :
    wpAny (model prog w) A (subscriptTail value slice (.ref l) (.int k u)) Q E s := by
  have hi : k.toNat < vs.length := by omega
  obtain ⟨a, ws, ns, e1, r1, r2, r3, r4⟩ := p k.toNat vs[k.toNat] (List.getElem?_eq_getElem hi)
  refine subscriptTail_builtin hl.typeIs slot_list_getitem.lookup (wpAny_getItem_list hl h0 (by omega) (x := .ref a) ?_ (h a ws ns r1 r2 r3 r4)) hs hg
  rw [List.getElem?_toArray, List.getElem?_eq_getElem hi, e1]
theorem pick_init (vs : List Value) : kms_pick vs none (some (-1)) = vs.dropLast := by
  unfold kms_pick kms_lo kms_hi
  simp [List.dropLast_eq_take]
theorem slice_init_pow {vl vu : Value} (F : Fr h₀ L s.heap m) (N : News h₀ L s.heap news) (hl : s.heap.IsList l vs.toArray) (p : PowH g B base vs) (hz : vs.length ≤ 1000) (pl : IsPart vl none) (pu : IsPart vu (some (-1)))
    (h : ∀ D h', Fr h₀ L h' m → News h₀ L h' ((D, listOf (List.toArray vs.dropLast) 0) :: news) → (∀ p ∈ news, p.1 < D) → PowH g B base vs.dropLast → vs.dropLast.length = vs.length - 1 → Q (.ref D) { s with heap := h' })
    (hs : subscripted slice false (.ref l) (.ref s.heap.objs.size) = operate [.ref s.heap.objs.size, .ref l] (getItem (.ref l) (.ref s.heap.objs.size))) (ht : ∀ r, letTemporaryGo value (.ref l) r = pure ()) :
    wpAny (model prog w) A (subscriptTail value slice (.ref l) (.ref s.heap.objs.size)) Q E { s with heap := s.heap.push { cls := .type "slice", data := .fields #[vl, vu, .none] } } :=
  kms_slice_lit F N hl pl pu (pick_init vs) (fun D h' F' N' l1 => h D h' F' N' l1 p.init (List.length_dropLast ..)) hs ht (by rw [List.size_toArray, sizeLine_eq]; omega)
end
theorem ne_of_all {a : Addr} {o : Obj} {l : List (Addr × Obj)} {r : Addr} (h : ∀ p ∈ l, p.1 ≠ r) (m : (a, o) ∈ l) : a ≠ r := h (a, o) m

/-! slices of rows of ints, the state written out (so that it is met at once) -/
section
variable {prog : Program} {w : World} {A : Around} {E : Value → Shared → Prop} {h₀ hp : Heap} {gens : Array GenState} {dr : Drawn} {tk : Nat} {L : Addr} {m : Str → Option Value} {news : List (Addr × Obj)} {value slice : PySem.Expr} {Q : Value → Shared → Prop} {l : Addr} {vs : List Value} {ns : List Int}
theorem sl_upto {os} {y : Int} {ty : Tok} (F : Fr h₀ L hp m) (N : News h₀ L hp news) (hl : hp.IsList l vs.toArray) (hi : IntsAre vs ns) (hy : 0 ≤ y) (hz : ns.length ≤ 100000)
    (h : ∀ D ws h', Fr h₀ L h' m → News h₀ L h' ((D, listOf (List.toArray ws) 0) :: news) → (∀ p ∈ news, p.1 < D) → IntsAre ws (ns.take y.toNat) → Q (.ref D) ⟨h', gens, dr, tk, os⟩)
    (hs : subscripted slice false (.ref l) (.ref hp.objs.size) = operate [.ref hp.objs.size, .ref l] (getItem (.ref l) (.ref hp.objs.size))) (ht : ∀ r, letTemporaryGo value (.ref l) r = pure ()) :
    wpAny (model prog w) A (subscriptTail value slice (.ref l) (.ref hp.objs.size)) Q E ⟨hp.push { cls := .type "slice", data := .fields #[.none, .int y ty, .none] }, gens, dr, tk, os⟩ :=
  kmk_slice_ints (s := ⟨hp, gens, dr, tk, os⟩) F N hl .none (.int _ _) hi (kmk_upto hi hy) rfl (fun D ws h' F' N' l1 hi' _ _ => h D ws h' F' N' l1 hi') hs ht (by rw [List.size_toArray, hi.length, sizeLine_eq]; omega)
theorem sl_from {os} {x : Int} {tx : Tok} (F : Fr h₀ L hp m) (N : News h₀ L hp news) (hl : hp.IsList l vs.toArray) (hi : IntsAre vs ns) (hx : 0 ≤ x) (hz : ns.length ≤ 100000)
    (h : ∀ D ws h', Fr h₀ L h' m → News h₀ L h' ((D, listOf (List.toArray ws) 0) :: news) → (∀ p ∈ news, p.1 < D) → IntsAre ws (ns.drop x.toNat) → Q (.ref D) ⟨h', gens, dr, tk, os⟩)
    (hs : subscripted slice false (.ref l) (.ref hp.objs.size) = operate [.ref hp.objs.size, .ref l] (getItem (.ref l) (.ref hp.objs.size))) (ht : ∀ r, letTemporaryGo value (.ref l) r = pure ()) :
    wpAny (model prog w) A (subscriptTail value slice (.ref l) (.ref hp.objs.size)) Q E ⟨hp.push { cls := .type "slice", data := .fields #[.int x tx, .none, .none] }, gens, dr, tk, os⟩ :=
  kmk_slice_ints (s := ⟨hp, gens, dr, tk, os⟩) F N hl (.int _ _) .none hi (kmk_from hi hx) rfl (fun D ws h' F' N' l1 hi' _ _ => h D ws h' F' N' l1 hi') hs ht (by rw [List.size_toArray, hi.length, sizeLine_eq]; omega)
theorem sl_run {os} {x y : Int} {tx ty : Tok} (F : Fr h₀ L hp m) (N : News h₀ L hp news) (hl : hp.IsList l vs.toArray) (hi : IntsAre vs ns) (hx : 0 ≤ x) (hy : 0 ≤ y) (hz : ns.length ≤ 100000)
    (h : ∀ D ws h', Fr h₀ L h' m → News h₀ L h' ((D, listOf (List.toArray ws) 0) :: news) → (∀ p ∈ news, p.1 < D) → IntsAre ws ((ns.drop x.toNat).take (min y.toNat ns.length - x.toNat)) → Q (.ref D) ⟨h', gens, dr, tk, os⟩)
    (hs : subscripted slice false (.ref l) (.ref hp.objs.size) = operate [.ref hp.objs.size, .ref l] (getItem (.ref l) (.ref hp.objs.size))) (ht : ∀ r, letTemporaryGo value (.ref l) r = pure ()) :
    wpAny (model prog w) A (subscriptTail value slice (.ref l) (.ref hp.objs.size)) Q E ⟨hp.push { cls := .type "slice", data := .fields #[.int x tx, .int y ty, .none] }, gens, dr, tk, os⟩ :=
  kmk_slice_ints (s := ⟨hp, gens, dr, tk, os⟩) F N hl (.int _ _) (.int _ _) hi (kmk_run hi hx hy) rfl (fun D ws h' F' N' l1 hi' _ _ => h D ws h' F' N' l1 hi') hs ht (by rw [List.size_toArray, hi.length, sizeLine_eq]; omega)
theorem sl_rev {os} {u : Tok} {ops : List Value} (F : Fr h₀ L hp m) (N : News h₀ L hp news) (hl : hp.IsList l vs.toArray) (hi : IntsAre vs ns) (hz : ns.length ≤ 100000)
    (h : ∀ D ws h', Fr h₀ L h' m → News h₀ L h' ((D, listOf (List.toArray ws) 0) :: news) → (∀ p ∈ news, p.1 < D) → IntsAre ws ns.reverse → Q (.ref D) ⟨h', gens, dr, tk, os⟩)
    (hs : subscripted slice false (.ref l) (.ref hp.objs.size) = operate ops (getItem (.ref l) (.ref hp.objs.size))) (ht : ∀ r, letTemporaryGo value (.ref l) r = pure ()) :
    wpAny (model prog w) A (subscriptTail value slice (.ref l) (.ref hp.objs.size)) Q E ⟨hp.push { cls := .type "slice", data := .fields #[.none, .none, .int (-1) u] }, gens, dr, tk, os⟩ :=
  krv_ints (s := ⟨hp, gens, dr, tk, os⟩) F N hl (.int _ _) hi (fun D ws h' F' N' l1 hi' _ => h D ws h' F' N' l1 hi') hs ht (by rw [List.size_toArray, hi.length, sizeLine_eq]; omega)
theorem sl_init {os} {B base : Int} {g : Heap} {u : Tok} (F : Fr h₀ L hp m) (N : News h₀ L hp news) (hl : hp.IsList l vs.toArray) (p : PowH g B base vs) (hz : vs.length ≤ 1000)
    (h : ∀ D h', Fr h₀ L h' m → News h₀ L h' ((D, listOf (List.toArray vs.dropLast) 0) :: news) → (∀ p ∈ news, p.1 < D) → PowH g B base vs.dropLast → vs.dropLast.length = vs.length - 1 → Q (.ref D) ⟨h', gens, dr, tk, os⟩)
    (hs : subscripted slice false (.ref l) (.ref hp.objs.size) = operate [.ref hp.objs.size, .ref l] (getItem (.ref l) (.ref hp.objs.size))) (ht : ∀ r, letTemporaryGo value (.ref l) r = pure ()) :
    wpAny (model prog w) A (subscriptTail value slice (.ref l) (.ref hp.objs.size)) Q E ⟨hp.push { cls := .type "slice", data := .fields #[.none, .int (-1) u, .none] }, gens, dr, tk, os⟩ :=
  slice_init_pow (s := ⟨hp, gens, dr, tk, os⟩) F N hl p hz .none (.int _ _) h hs ht
end
theorem PowH.single {h : Heap} {B base : Int} {a : Addr} {ws : List Value} {n : Nat} {ns : List Int} {ex : List (Addr × Obj)} (hm : (a, listOf (List.toArray ws) n) ∈ ex) (hi : IntsAre ws ns) (hl : Lim B base ns) (hb : base < B ^ 200) : PowIn ex B base [.ref a] :=
  PowIn.snoc PowIn.nil hm hi (by simpa [Int.pow_one] using hl) (by simpa [Int.pow_one] using hb)

/-! the law's box: a list of what is left of the script, and a number that is stirred -/
def BoxO (c : Addr) (ob oc : Obj) : Prop := ∃ n1 t st v2 n2 cs, ob = listOf (List.toArray [.ref c, .int st t]) n1 ∧ oc = listOf (List.toArray v2) n2 ∧ IntsAre v2 cs ∧ (∀ x ∈ cs, 0 ≤ x) ∧ cs.length ≤ 40 ∧ 0 ≤ st ∧ st < 1000003
def KeepsBut (b c : Addr) (h h' : Heap) : Prop := ∀ x o, x ≠ b → x ≠ c → h.get? x = some o → h'.get? x = some o
/-- a new box -/
def RetBox (Q : Value → Shared → Prop) (s : Shared) : Prop :=
  ∀ b c ob oc h' tk', Keeps s.heap h' → s.heap.get? b = none → s.heap.get? c = none → @Ne Nat b c → h'.get? b = some ob → h'.get? c = some oc → BoxO c ob oc → Q (.ref b) { s with heap := h', toks := tk' }
/-- an int below many; the box is turned, all else stays -/
def RetTake (Q : Value → Shared → Prop) (s : Shared) (b c : Addr) (many : Int) : Prop :=
  ∀ r t ob oc h' tk', KeepsBut b c s.heap h' → h'.get? b = some ob → h'.get? c = some oc → BoxO c ob oc → 0 ≤ r → r < many → Q (.int r t) { s with heap := h', toks := tk' }
section
variable {Q : Value → Shared → Prop} {s : Shared} {g : Heap} {L : Addr} {m : Str → Option Value} {news rest : List (Addr × Obj)} {b c : Addr} {ob oc : Obj} {many : Int}
theorem RetBox.framed (F : Fr g L s.heap m) (N : News g L s.heap news)
    (k : ∀ b c ob oc h' tk', Fr g L h' m → News g L h' ((b, ob) :: (c, oc) :: news) → (∀ p ∈ news, p.1 ≠ b) → (∀ p ∈ news, p.1 ≠ c) → @Ne Nat b c → BoxO c ob oc → Q (.ref b) { s with heap := h', toks := tk' }) : RetBox Q s :=
  fun b c ob oc h' tk' hk hb hc hne gb gc hB => k b c ob oc h' tk' (Fr.after F hk) (fun p hp => by
    rcases List.mem_cons.mp hp with rfl | hp
    · exact News.fresh1 F N hk hb gb _ (.head _)
    · exact News.fresh1 F N hk hc gc p hp) (News.apart N hb) (News.apart N hc) hne hB
theorem RetBox.out {h' : Heap} {tk' : Nat} (ret : RetBox Q s) (F : Fr s.heap L h' m) (N : News s.heap L h' news) (hb : (b, ob) ∈ news) (hc : (c, oc) ∈ news) (hne : @Ne Nat b c) (hB : BoxO c ob oc) : Q (.ref b) { s with heap := h', toks := tk' } :=
  ret b c ob oc h' tk' F.keep (N.fresh hb) (N.fresh hc) hne (N.get hb) (N.get hc) hB
/-- what the box's own frame takes for its base: the heap without the box -/
theorem box_frame {h : Heap} (F : Fr s.heap L h m) (hb : s.heap.get? b = some ob) (hc : s.heap.get? c = some oc) : Fr (hideAll s.heap [b, c]) L h m ∧ News (hideAll s.heap [b, c]) L h [(b, ob), (c, oc)] := by
  have ha := F.above
  refine ⟨⟨F.ns, fun x o e => F.keep x o (of_hideAll _ e), by rw [hideAll_size]; exact ha⟩, fun p hp => ?_⟩
  rcases List.mem_cons.mp hp with rfl | hp
  · exact ⟨F.keep _ _ hb, Nat.ne_of_lt (Nat.lt_of_lt_of_le (Heap.lt_size hb) ha), hideAll_none _ (.head _)⟩
  · rw [List.mem_singleton.mp hp]
    exact ⟨F.keep _ _ hc, Nat.ne_of_lt (Nat.lt_of_lt_of_le (Heap.lt_size hc) ha), hideAll_none _ (.tail _ (.head _))⟩
theorem keepsBut_of {h' : Heap} (F : Fr (hideAll s.heap [b, c]) L h' m) : KeepsBut b c s.heap h' := fun x o h1 h2 e => F.keep x o (hideAll_get _ e (by simp [h1, h2]))
theorem RetTake.framed (F : Fr g L s.heap m) (N : News g L s.heap ((b, ob) :: (c, oc) :: rest)) (hr : ∀ p ∈ rest, p.1 ≠ b ∧ p.1 ≠ c)
    (k : ∀ r t ob oc h' tk', Fr g L h' m → News g L h' ((b, ob) :: (c, oc) :: rest) → BoxO c ob oc → 0 ≤ r → r < many → Q (.int r t) { s with heap := h', toks := tk' }) : RetTake Q s b c many :=
  fun r t ob' oc' h' tk' hk gb gc hB h0 h1 => by
    have Nb := N _ (.head _)
    have Nc := N _ (.tail _ (.head _))
    refine k r t ob' oc' h' tk' ⟨F.ns.at' fun o e => hk _ o (Ne.symm Nb.2.1) (Ne.symm Nc.2.1) e, fun x o e => hk x o ?_ ?_ (F.keep x o e), F.above⟩ (fun p hp => ?_) hB h0 h1
    · rintro rfl; rw [Nb.2.2] at e; cases e
    · rintro rfl; rw [Nc.2.2] at e; cases e
    · rcases List.mem_cons.mp hp with rfl | hp
      · exact ⟨gb, Nb.2⟩
      rcases List.mem_cons.mp hp with rfl | hp
      · exact ⟨gc, Nc.2⟩
      · have P := N p (.tail _ (.tail _ hp))
        exact ⟨hk _ _ (hr p hp).1 (hr p hp).2 P.1, P.2⟩
theorem RetTake.out {h' : Heap} {tk' : Nat} {r : Int} {t : Tok} {hb' : Heap} (ret : RetTake Q s b c many) (F : Fr (hideAll s.heap [b, c]) L h' m) (N : News hb' L h' news) (hb : (b, ob) ∈ news) (hc : (c, oc) ∈ news) (hB : BoxO c ob oc) (h0 : 0 ≤ r) (h1 : r < many) : Q (.int r t) { s with heap := h', toks := tk' } :=
  ret r t ob oc h' tk' (keepsBut_of F) (N.get hb) (N.get hc) hB h0 h1
theorem Wd.hide {w : World} {h : Heap} (W : Wd w g) (F : Fr g L h m) (N : News g L h ((b, ob) :: (c, oc) :: rest)) : Wd w (hideAll h [b, c]) :=
  W.keeps fun x o e => hideAll_get _ (F.keep x o e) (by
    intro hx
    rcases List.mem_cons.mp hx with rfl | hx
    · have := (N _ (.head _)).2.2; rw [e] at this; cases this
    · rw [List.mem_singleton.mp hx] at e
      have := (N _ (.tail _ (.head _))).2.2; rw [e] at this; cases this)
theorem Wd.unhide {w : World} {h : Heap} {as : List Addr} (W : Wd w (hideAll h as)) : Wd w h := W.keeps fun _ _ e => of_hideAll _ e
end
theorem abs_nonneg (l : List Int) : ∀ x ∈ l.map (fun k => if k < 0 then -k else k), 0 ≤ x := fun x hx => by
  obtain ⟨k, _, rfl⟩ := List.mem_map.mp hx
  split <;> omega
theorem pop0 {prog : Program} {w : World} {A : Around} {E : Value → Shared → Prop} {s : Shared} {h₀ : Heap} {L D : Addr} {m : Str → Option Value} {news news' : List (Addr × Obj)} {n : Nat} {u : Tok} {q : List Value} {y : Value} {Q : Value → Shared → Prop} (F : Fr h₀ L s.heap m) (N : News h₀ L s.heap news)
    (U : Upd D (listOf (List.toArray (y :: q)) n) (listOf (List.toArray q) (n + 1)) news news') (hz : q.length ≤ 10000) (h : ∀ h', Fr h₀ L h' m → News h₀ L h' news' → Q y { s with heap := h' }) : wpAny (model prog w) A (call (.builtin "list.pop") [.ref D, .int 0 u]) Q E s :=
  kl_popAt (p := []) (q := q) (y := y) (k := 0) F N rfl (by rw [List.size_toArray]; simp [seqIndex?]) rfl U (by show (y :: q).length ≤ _; rw [List.length_cons, sizeLine_eq]; omega) h
theorem RetTake.framed1 {Q : Value → Shared → Prop} {s : Shared} {g : Heap} {L : Addr} {m : Str → Option Value} {rest : List (Addr × Obj)} {b c d : Addr} {ob oc od : Obj} {many : Int} (F : Fr g L s.heap m) (N : News g L s.heap ((d, od) :: (b, ob) :: (c, oc) :: rest)) (hd : @Ne Nat d b ∧ @Ne Nat d c) (hr : ∀ p ∈ rest, p.1 ≠ b ∧ p.1 ≠ c)
    (k : ∀ r t ob oc h' tk', Fr g L h' m → News g L h' ((b, ob) :: (c, oc) :: (d, od) :: rest) → BoxO c ob oc → 0 ≤ r → r < many → Q (.int r t) { s with heap := h', toks := tk' }) : RetTake Q s b c many :=
  RetTake.framed F (rest := (d, od) :: rest) (fun p hp => N p (by
    rcases List.mem_cons.mp hp with rfl | hp
    · exact .tail _ (.head _)
    rcases List.mem_cons.mp hp with rfl | hp
    · exact .tail _ (.tail _ (.head _))
    rcases List.mem_cons.mp hp with rfl | hp
    · exact .head _
    · exact .tail _ (.tail _ (.tail _ hp)))) (fun p hp => by
    rcases List.mem_cons.mp hp with rfl | hp
    · exact hd
    · exact hr p hp) k
theorem Wd.hide1 {w : World} {g h : Heap} {L : Addr} {m : Str → Option Value} {rest : List (Addr × Obj)} {b c : Addr} {ob oc : Obj} {x : Addr × Obj} (W : Wd w g) (F : Fr g L h m) (N : News g L h (x :: (b, ob) :: (c, oc) :: rest)) : Wd w (hideAll h [b, c]) :=
  Wd.hide W F (rest := rest) fun p hp => N p (.tail _ hp)
theorem apart_nil {b c : Addr} : ∀ p ∈ ([] : List (Addr × Obj)), p.1 ≠ b ∧ p.1 ≠ c := fun _ h => nomatch h

end
section

/-! ranges by steps -/
theorem small_step {b c : Int} (h0 : 0 ≤ b) (hb : b ≤ 100000) (hc : 1 ≤ c) (hc1 : c ≤ 1000) : Builtin.Range.small 0 b c = true := by
  unfold Builtin.Range.small
  rw [rangeSize_pos hc h0]
  have h1 : 0 ≤ (b + c - 1) / c := Int.ediv_nonneg (by omega) (by omega)
  have h2 : (b + c - 1) / c ≤ b + c - 1 := Int.ediv_le_self _ (by omega)
  simp only [Builtin.Range.rangeFitsLong, Bool.and_eq_true, Bool.or_eq_true, decide_eq_true_eq, beq_iff_eq, show c > 0 by omega, if_true]
  omega
theorem rangeSize_whole {m : Nat} {c b : Int} (hc : 1 ≤ c) (h : b = (m : Int) * c) : Builtin.Range.rangeSize 0 b c = (m : Int) := by
  have hm : 0 ≤ (m : Int) * c := Int.mul_nonneg (by omega) (by omega)
  rw [h, rangeSize_pos hc hm, show (m : Int) * c + c - 1 = (c - 1) + (m : Int) * c by omega, Int.add_mul_ediv_right _ _ (by omega), Int.ediv_eq_zero_of_lt (by omega) (by omega), Int.zero_add]

/-! groups of digits -/
theorem pad_count {len : Nat} {size : Int} (h : 1 ≤ size) : ∃ m : Nat, ((-(len : Int)) % size).toNat + len = m * size.toNat ∧ ((-(len : Int)) % size).toNat < size.toNat := by
  have h0 := Int.emod_nonneg (-(len : Int)) (show size ≠ 0 by omega)
  have h1 := Int.emod_lt_of_pos (-(len : Int)) (show 0 < size by omega)
  have h3 := Int.mul_ediv_add_emod (-(len : Int)) size
  have h4 : 0 ≤ -((-(len : Int)) / size) := by
    have : (-(len : Int)) / size ≤ 0 / size := Int.ediv_le_ediv (by omega) (by omega)
    rw [Int.zero_ediv] at this; omega
  refine ⟨(-((-(len : Int)) / size)).toNat, ?_, by omega⟩
  have e : (((-((-(len : Int)) / size)).toNat * size.toNat : Nat) : Int) = -((-(len : Int)) / size) * size := by
    rw [Int.natCast_mul, Int.toNat_of_nonneg h4, Int.toNat_of_nonneg (by omega)]
  rw [Int.neg_mul, Int.mul_comm] at e
  omega
structure Grp (b : Int) (k : Nat) (wh fs : List Int) (i : Nat) : Prop where
  good : Good (b ^ k) fs
  len : fs.length = i
  worth : val (b ^ k) fs.reverse = val b (wh.take (i * k)).reverse
theorem Grp.start (b : Int) (k : Nat) (wh : List Int) : Grp b k wh [] 0 := ⟨.nil, rfl, by simp⟩
theorem chunk_len {wh : List Int} {k m i : Nat} (hl : wh.length = m * k) (hi : i < m) : ((wh.drop (i * k)).take k).length = k := by
  rw [List.length_take, List.length_drop, hl]
  have : (i + 1) * k ≤ m * k := Nat.mul_le_mul_right k hi
  rw [Nat.add_mul, Nat.one_mul] at this
  omega
theorem Grp.step {b : Int} {k m i : Nat} {wh fs : List Int} (hb : 1 < b) (G : Grp b k wh fs i) (hg : Good b wh) (hl : wh.length = m * k) (hi : i < m) :
    Grp b k wh (fs ++ [val b ((wh.drop (i * k)).take k).reverse]) (i + 1) := by
  have hc := chunk_len hl hi
  have hgc := ((hg.drop (i * k)).take k).reverse
  have h0 := hgc.nonneg (show 0 ≤ b by omega)
  have h1 := hgc.lt (show 0 < b by omega)
  rw [List.length_reverse, hc] at h1
  refine ⟨G.good.snoc ⟨h0, h1⟩, by simp [G.len], ?_⟩
  have e : wh.take ((i + 1) * k) = wh.take (i * k) ++ (wh.drop (i * k)).take k := by
    rw [Nat.add_mul, Nat.one_mul, List.take_add]
  rw [e, List.reverse_append, List.reverse_append, List.reverse_singleton, List.singleton_append, val_cons, val_append, G.worth, List.length_reverse, hc]
theorem Grp.done {b x : Int} {k m p : Nat} {ns fs : List Int} (hb : 1 < b) (hk : 0 < k) (G : Grp b k (List.replicate p 0 ++ ns) fs m) (hl : p + ns.length = m * k) (hp : p < k) (h : Lim b x ns.reverse) : Lim (b ^ k) x fs.reverse := by
  have hw := G.worth
  rw [List.take_of_length_le (by rw [List.length_append, List.length_replicate]; omega), List.reverse_append, List.reverse_replicate, val_append, val_replicate, Int.mul_zero, Int.add_zero, h.worth] at hw
  have hbk : 1 < b ^ k := by
    have := pow_le_pow (show 1 ≤ b by omega) (show 1 ≤ k from hk)
    rw [Int.pow_one] at this; omega
  refine ⟨G.good.reverse, nrm_of_ge hbk G.good.reverse (n := m) (.inr (by rw [List.length_reverse, G.len]; exact Nat.le_refl _)) ?_, hw⟩
  by_cases hm : m = 0
  · exact .inl hm
  right
  rw [hw]
  have hne : ns.reverse ≠ [] := by
    intro e
    have : ns.length = 0 := by simpa using congrArg List.length e
    have h2 : 1 * k ≤ m * k := Nat.mul_le_mul_right k (by omega)
    omega
  have hge := h.nrm.ge (by omega) h.good hne
  rw [h.worth, List.length_reverse] at hge
  have hx : (m - 1) * k ≤ ns.length - 1 := by
    have e : m * k = (m - 1) * k + k := by
      rw [← Nat.succ_mul]; congr 1; omega
    omega
  have : (b ^ k) ^ (m - 1) ≤ b ^ (ns.length - 1) := by
    rw [← Int.pow_mul, Nat.mul_comm]; exact pow_le_pow (by omega) hx
  omega

end
section

open PySem.Spec
/-! every second one -/
def evens {α : Type} : List α → List α
  | [] => []
  | [x] => [x]
  | x :: _ :: r => x :: evens r
theorem evens_cons {α : Type} (x : α) (r : List α) : evens (x :: r) = x :: evens r.tail := by
  cases r <;> rfl
theorem pick2 {α : Type} : ∀ (k : Nat) (xs : List α), xs.length ≤ 2 * k → (List.range k).filterMap (fun j => xs[2 * j]?) = evens xs
  | 0, xs, h => by
    have : xs = [] := List.length_eq_zero_iff.mp (by omega)
    subst this; rfl
  | k + 1, [], h => by
    rw [List.filterMap_eq_nil_iff.mpr (by simp)]; rfl
  | k + 1, [x], h => by
    have e : (List.range (k + 1)).filterMap (fun j => [x][2 * j]?) = x :: (List.range k).filterMap (fun j => ([] : List α)[2 * j]?) := by
      rw [List.range_succ_eq_map, List.filterMap_cons, List.filterMap_map]
      rfl
    rw [e, List.filterMap_eq_nil_iff.mpr (by simp)]; rfl
  | k + 1, x :: y :: r, h => by
    have ih := pick2 k r (by simp at h; omega)
    have e : (List.range (k + 1)).filterMap (fun j => (x :: y :: r)[2 * j]?) = x :: (List.range k).filterMap (fun j => r[2 * j]?) := by
      rw [List.range_succ_eq_map, List.filterMap_cons, List.filterMap_map]
      rfl
    rw [e, ih]; rfl
theorem evens_ints : ∀ {vs : List Value} {ns : List Int}, IntsAre vs ns → IntsAre (evens vs) (evens ns)
  | [], [], _ => .nil
  | [_], [_], h => h
  | _ :: _ :: _, _ :: _ :: _, .cons x t (.cons _ _ h) => .cons x t (evens_ints h)
theorem slice_step2 {items : Array Value} {lo : Option Int} {a : Nat} (h : sliceBounds lo none (some 2) items.size = ((a : Int), (items.size : Int), 2)) : (slicePick items lo none (some 2)).toList = evens (items.toList.drop a) := by
  unfold slicePick
  rw [h]
  show (sliceRange (a : Int) (items.size : Int) 2).filterMap (items[·]?) = _
  unfold sliceRange
  simp only [show (2 : Int) > 0 by decide, if_true]
  rw [List.filterMap_map]
  have hs : items.size = items.toList.length := (Array.length_toList).symm
  have key : ∀ k : Nat, (items.toList.drop a).length ≤ 2 * k → (List.range k).filterMap ((fun i : Nat => items[i]?) ∘ fun k : Nat => ((a : Int) + 2 * (k : Int)).toNat) = evens (items.toList.drop a) := by
    intro k hk
    rw [← pick2 k _ hk]
    congr 1
    funext j
    show items[((a : Int) + 2 * (j : Int)).toNat]? = _
    rw [show ((a : Int) + 2 * (j : Int)).toNat = a + 2 * j by omega, List.getElem?_drop, Array.getElem?_toList]
  refine key _ ?_
  rw [List.length_drop, ← hs]
  split <;> omega
theorem bounds2 (n : Nat) : sliceBounds none none (some 2) n = (((0 : Nat) : Int), (n : Int), 2) := by
  simp [sliceBounds]
theorem bounds12 (n : Nat) : sliceBounds (some 1) none (some 2) n = (((min 1 n : Nat) : Int), (n : Int), 2) := by
  simp only [sliceBounds, Option.getD_some, show (2 : Int) > 0 by decide, if_true, show ¬ (1 : Int) < 0 by decide, if_false]
  congr 1
  omega
theorem step2_all {vs : List Value} {ns : List Int} (hi : IntsAre vs ns) : IntsAre (slicePick vs.toArray none none (some 2)).toList (evens ns) := by
  rw [slice_step2 (bounds2 _)]; exact evens_ints hi
theorem step2_one {vs : List Value} {ns : List Int} (hi : IntsAre vs ns) : IntsAre (slicePick vs.toArray (some 1) none (some 2)).toList (evens ns.tail) := by
  rw [slice_step2 (bounds12 _)]
  cases hi with
  | nil => exact .nil
  | cons x t h =>
    rw [show min 1 (List.toArray (Value.int x t :: _)).size = 1 by simp]
    exact evens_ints h
/-! rests by one less and one more than the base -/
theorem sum_rest (b : Int) : ∀ rv : List Int, ∃ k, val b rv = rv.sum + (b - 1) * k
  | [] => ⟨0, by simp⟩
  | x :: r => by
    obtain ⟨k, h⟩ := sum_rest b r
    refine ⟨val b r + k, ?_⟩
    rw [val_cons, List.sum_cons, Int.mul_add, Int.sub_mul, Int.one_mul]
    omega
theorem alt_rest (b : Int) : ∀ rv : List Int, ∃ k, val b rv = (evens rv).sum - (evens rv.tail).sum + (b + 1) * k
  | [] => ⟨0, by simp [evens]⟩
  | x :: r => by
    obtain ⟨k, h⟩ := alt_rest b r
    refine ⟨val b r - k, ?_⟩
    rw [val_cons, evens_cons, List.sum_cons, List.tail_cons, Int.mul_sub, Int.add_mul, Int.one_mul]
    omega
theorem sum_mod {b n : Int} {row : List Int} (h : val b row.reverse = n) : row.sum % (b - 1) = n % (b - 1) := by
  obtain ⟨k, e⟩ := sum_rest b row.reverse
  rw [← h, e, List.sum_reverse, Int.add_mul_emod_self_left]
theorem alt_mod {b n : Int} {row : List Int} (h : val b row.reverse = n) : ((evens row.reverse).sum - (evens row.reverse.tail).sum) % (b + 1) = n % (b + 1) := by
  obtain ⟨k, e⟩ := alt_rest b row.reverse
  rw [← h, e, Int.add_mul_emod_self_left]

end
section

open PySem.Calls PySem.Spec
/-- True comes back -/
def RetT (Q : Value → Shared → Prop) (s : Shared) : Prop := ∀ h' tk', Keeps s.heap h' → Q (.bool true) { s with heap := h', toks := tk' }
theorem RetT.framed {Q : Value → Shared → Prop} {s : Shared} {g : Heap} {L : Addr} {m : Str → Option Value} {news : List (Addr × Obj)} (F : Fr g L s.heap m) (N : News g L s.heap news)
    (k : ∀ h' tk', Fr g L h' m → News g L h' news → Q (.bool true) { s with heap := h', toks := tk' }) : RetT Q s := fun h' tk' hk => k h' tk' (Fr.after F hk) (News.after N hk)
theorem RetT.out {Q : Value → Shared → Prop} {s : Shared} {L : Addr} {m : Str → Option Value} {h' : Heap} {tk' : Nat} {b : Bool} (ret : RetT Q s) (F : Fr s.heap L h' m) (e : b = true) : Q (.bool b) { s with heap := h', toks := tk' } := e ▸ ret h' tk' F.keep
section
variable {prog : Program} {w : World} {A : Around} {E : Value → Shared → Prop} {h₀ hp : Heap} {gens : Array GenState} {dr : Drawn} {tk : Nat} {L : Addr} {m : Str → Option Value} {news : List (Addr × Obj)} {value slice : PySem.Expr} {Q : Value → Shared → Prop} {l : Addr} {vs : List Value} {ns : List Int}
theorem sl_two {os} {u : Tok} {ops : List Value} (F : Fr h₀ L hp m) (N : News h₀ L hp news) (hl : hp.IsList l vs.toArray) (hi : IntsAre vs ns) (hz : ns.length ≤ 100000)
    (h : ∀ D ws h', Fr h₀ L h' m → News h₀ L h' ((D, listOf (List.toArray ws) 0) :: news) → (∀ p ∈ news, p.1 < D) → IntsAre ws (evens ns) → Q (.ref D) ⟨h', gens, dr, tk, os⟩)
    (hs : subscripted slice false (.ref l) (.ref hp.objs.size) = operate ops (getItem (.ref l) (.ref hp.objs.size))) (ht : ∀ r, letTemporaryGo value (.ref l) r = pure ()) :
    wpAny (model prog w) A (subscriptTail value slice (.ref l) (.ref hp.objs.size)) Q E ⟨hp.push { cls := .type "slice", data := .fields #[.none, .none, .int 2 u] }, gens, dr, tk, os⟩ :=
  kmk_slice3_lit (s := ⟨hp, gens, dr, tk, os⟩) F N hl .none .none (.int _ _) (by decide) rfl (fun D h' F' N' l1 => h D _ h' F' N' l1 (step2_all hi)) hs ht (by rw [List.size_toArray, hi.length, sizeLine_eq]; omega)
theorem sl_one_two {os} {u v : Tok} {ops : List Value} (F : Fr h₀ L hp m) (N : News h₀ L hp news) (hl : hp.IsList l vs.toArray) (hi : IntsAre vs ns) (hz : ns.length ≤ 100000)
    (h : ∀ D ws h', Fr h₀ L h' m → News h₀ L h' ((D, listOf (List.toArray ws) 0) :: news) → (∀ p ∈ news, p.1 < D) → IntsAre ws (evens ns.tail) → Q (.ref D) ⟨h', gens, dr, tk, os⟩)
    (hs : subscripted slice false (.ref l) (.ref hp.objs.size) = operate ops (getItem (.ref l) (.ref hp.objs.size))) (ht : ∀ r, letTemporaryGo value (.ref l) r = pure ()) :
    wpAny (model prog w) A (subscriptTail value slice (.ref l) (.ref hp.objs.size)) Q E ⟨hp.push { cls := .type "slice", data := .fields #[.int 1 v, .none, .int 2 u] }, gens, dr, tk, os⟩ :=
  kmk_slice3_lit (s := ⟨hp, gens, dr, tk, os⟩) F N hl (.int _ _) .none (.int _ _) (by decide) rfl (fun D h' F' N' l1 => h D _ h' F' N' l1 (step2_one hi)) hs ht (by rw [List.size_toArray, hi.length, sizeLine_eq]; omega)
end

end
section

open PySem.Calls PySem.Spec
/-! rows of ints compared by < and > -/
def lexLt : List Int → List Int → Bool
  | x :: r, y :: t => if x = y then lexLt r t else decide (x < y)
  | _, _ => false
section
open PySem.AutoSeq1 (wpAny_loadPart')
open PySem.MeetsSeq PySem.MeetsSeq3
theorem lt_loop (l b : Addr) (vs us : List Value) (ns ms : List Int) (hi : IntsAre vs ns) (hi' : IntsAre us ms) (hlen : ns.length = ms.length) (n n2 : Nat) (d d2 : Option Addr) (sl sl2 : Array (Option Value)) (k : Nat) :
    ∀ i : Nat, ns.length - i = k → Meets (Builtin.«list.__eq__.loop» ⟨[.ref l, .ref b, rawInt i, rawInt 0], []⟩)
      (fun _ R s => s.heap.get? l = some { cls := .type "list", dict := d, data := .seq vs.toArray n, slots := sl } ∧ s.heap.get? b = some { cls := .type "list", dict := d2, data := .seq us.toArray n2, slots := sl2 } ∧
        R (.ok (.ret (.bool (lexLt (ns.drop i) (ms.drop i))))) s) := by
  have hvl := hi.length
  have hul := hi'.length
  induction k with
  | zero =>
    intro i hk prog w A R s h
    obtain ⟨hp, g, d, tk, os⟩ := s; obtain ⟨hl, hb, h⟩ := h
    wp_walk using wpAny_loadPart' hl, wpAny_loadPart' hb
    have hi1 : vs.toArray[((i : Nat) : Int).toNat]? = none := by simp; omega
    have hi2 : us.toArray[((i : Nat) : Int).toNat]? = none := by simp; omega
    have hd : ns.drop i = [] := by simp; omega
    rw [hd] at h
    rw [hi1, hi2]
    wp_walk using wpAny_loadPart' hl, wpAny_loadPart' hb
    show R (.ok (.ret (.bool (decide (vs.toArray.size < us.toArray.size))))) _
    rw [show decide (vs.toArray.size < us.toArray.size) = false by simp; omega]
    exact h
  | succ k ih =>
    intro i hk prog w A R s h
    obtain ⟨hp, g, d, tk, os⟩ := s; obtain ⟨hl, hb, h⟩ := h
    wp_walk using wpAny_loadPart' hl, wpAny_loadPart' hb
    have hlt : i < ns.length := by omega
    have hlt2 : i < ms.length := by omega
    obtain ⟨t, e1⟩ := hi.get i ns[i] (by simp [hlt])
    obtain ⟨u, e2⟩ := hi'.get i ms[i] (by simp [hlt2])
    have hi1 : vs.toArray[((i : Nat) : Int).toNat]? = some (.int ns[i] t) := by simpa using e1
    have hi2 : us.toArray[((i : Nat) : Int).toNat]? = some (.int ms[i] u) := by simpa using e2
    have hc : ((i : Int) + 1) = ((i + 1 : Nat) : Int) := by push_cast; rfl
    rw [List.drop_eq_getElem_cons hlt, List.drop_eq_getElem_cons hlt2] at h
    rw [hi1, hi2]
    refine wpAny_bind (EqGives.int _ _ _ _ prog w _ _ _ _ ?_)
    by_cases hx : ns[i] = ms[i]
    · rw [show (ns[i] == ms[i]) = true by simp [hx]]
      rw [lexLt, if_pos hx] at h
      wp_walk
      rw [hc]
      exact ⟨plainId_quiet plain_eq_loop _, codeAny_builtin entry_eq_loop (by
        rw [Around.under_plainId plain_eq_loop _]
        exact ih (i + 1) (by omega) prog w A R _ ⟨hl, hb, h⟩)⟩
    · rw [show (ns[i] == ms[i]) = false by simp [hx]]
      rw [lexLt, if_neg hx] at h
      wp_walk using wpAny_loadPart' hl, wpAny_loadPart' hb
      rw [hi1, hi2]
      show wpAny _ _ (do ret (← richCompare .Lt _ _)) _ _ _
      refine wpAny_bind (wpAny_lt_int ?_)
      wp_walk
      exact h
theorem gt_loop (l b : Addr) (vs us : List Value) (ns ms : List Int) (hi : IntsAre vs ns) (hi' : IntsAre us ms) (hlen : ns.length = ms.length) (n n2 : Nat) (d d2 : Option Addr) (sl sl2 : Array (Option Value)) (k : Nat) :
    ∀ i : Nat, ns.length - i = k → Meets (Builtin.«list.__eq__.loop» ⟨[.ref l, .ref b, rawInt i, rawInt 4], []⟩)
      (fun _ R s => s.heap.get? l = some { cls := .type "list", dict := d, data := .seq vs.toArray n, slots := sl } ∧ s.heap.get? b = some { cls := .type "list", dict := d2, data := .seq us.toArray n2, slots := sl2 } ∧
        R (.ok (.ret (.bool (lexLt (ms.drop i) (ns.drop i))))) s) := by
  have hvl := hi.length
  have hul := hi'.length
  induction k with
  | zero =>
    intro i hk prog w A R s h
    obtain ⟨hp, g, d, tk, os⟩ := s; obtain ⟨hl, hb, h⟩ := h
    wp_walk using wpAny_loadPart' hl, wpAny_loadPart' hb
    have hi1 : vs.toArray[((i : Nat) : Int).toNat]? = none := by simp; omega
    have hi2 : us.toArray[((i : Nat) : Int).toNat]? = none := by simp; omega
    have hd : ms.drop i = [] := by simp; omega
    rw [hd] at h
    rw [hi1, hi2]
    wp_walk using wpAny_loadPart' hl, wpAny_loadPart' hb
    show R (.ok (.ret (.bool (decide (vs.toArray.size > us.toArray.size))))) _
    rw [show decide (vs.toArray.size > us.toArray.size) = false by simp; omega]
    exact h
  | succ k ih =>
    intro i hk prog w A R s h
    obtain ⟨hp, g, d, tk, os⟩ := s; obtain ⟨hl, hb, h⟩ := h
    wp_walk using wpAny_loadPart' hl, wpAny_loadPart' hb
    have hlt : i < ns.length := by omega
    have hlt2 : i < ms.length := by omega
    obtain ⟨t, e1⟩ := hi.get i ns[i] (by simp [hlt])
    obtain ⟨u, e2⟩ := hi'.get i ms[i] (by simp [hlt2])
    have hi1 : vs.toArray[((i : Nat) : Int).toNat]? = some (.int ns[i] t) := by simpa using e1
    have hi2 : us.toArray[((i : Nat) : Int).toNat]? = some (.int ms[i] u) := by simpa using e2
    have hc : ((i : Int) + 1) = ((i + 1 : Nat) : Int) := by push_cast; rfl
    rw [List.drop_eq_getElem_cons hlt, List.drop_eq_getElem_cons hlt2] at h
    rw [hi1, hi2]
    refine wpAny_bind (EqGives.int _ _ _ _ prog w _ _ _ _ ?_)
    by_cases hx : ns[i] = ms[i]
    · rw [show (ns[i] == ms[i]) = true by simp [hx]]
      rw [lexLt, if_pos hx.symm] at h
      wp_walk
      rw [hc]
      exact ⟨plainId_quiet plain_eq_loop _, codeAny_builtin entry_eq_loop (by
        rw [Around.under_plainId plain_eq_loop _]
        exact ih (i + 1) (by omega) prog w A R _ ⟨hl, hb, h⟩)⟩
    · rw [show (ns[i] == ms[i]) = false by simp [hx]]
      rw [lexLt, if_neg (Ne.symm hx)] at h
      wp_walk using wpAny_loadPart' hl, wpAny_loadPart' hb
      rw [hi1, hi2]
      show wpAny _ _ (do ret (← richCompare .Gt _ _)) _ _ _
      refine wpAny_bind (gt_int ?_)
      wp_walk
      exact h
theorem list_lt (l b : Addr) (vs us : List Value) (ns ms : List Int) (hi : IntsAre vs ns) (hi' : IntsAre us ms) (hlen : ns.length = ms.length) (n n2 : Nat) (d d2 : Option Addr) (sl sl2 : Array (Option Value)) :
    Meets (Builtin.«list.__lt__» ⟨[.ref l, .ref b], []⟩)
      (fun _ R s => s.heap.get? l = some { cls := .type "list", dict := d, data := .seq vs.toArray n, slots := sl } ∧ s.heap.get? b = some { cls := .type "list", dict := d2, data := .seq us.toArray n2, slots := sl2 } ∧
        R (.ok (.ret (.bool (lexLt ns ms)))) s) := by
  intro prog w A R s h
  obtain ⟨hp, g, dr, tk, os⟩ := s; obtain ⟨hl, hb, h⟩ := h
  have f3 := AutoSeq1.sub_list_list
  wp_walk using wpAny_loadPart' hl, wpAny_loadPart' hb
  exact ⟨plainId_quiet plain_eq_loop _, codeAny_builtin entry_eq_loop (by
    rw [Around.under_plainId plain_eq_loop _]
    exact lt_loop l b vs us ns ms hi hi' hlen n n2 d d2 sl sl2 _ 0 rfl prog w A R _ ⟨hl, hb, by simpa using h⟩)⟩
theorem list_gt (l b : Addr) (vs us : List Value) (ns ms : List Int) (hi : IntsAre vs ns) (hi' : IntsAre us ms) (hlen : ns.length = ms.length) (n n2 : Nat) (d d2 : Option Addr) (sl sl2 : Array (Option Value)) :
    Meets (Builtin.«list.__gt__» ⟨[.ref l, .ref b], []⟩)
      (fun _ R s => s.heap.get? l = some { cls := .type "list", dict := d, data := .seq vs.toArray n, slots := sl } ∧ s.heap.get? b = some { cls := .type "list", dict := d2, data := .seq us.toArray n2, slots := sl2 } ∧
        R (.ok (.ret (.bool (lexLt ms ns)))) s) := by
  intro prog w A R s h
  obtain ⟨hp, g, dr, tk, os⟩ := s; obtain ⟨hl, hb, h⟩ := h
  have f3 := AutoSeq1.sub_list_list
  wp_walk using wpAny_loadPart' hl, wpAny_loadPart' hb
  exact ⟨plainId_quiet plain_eq_loop _, codeAny_builtin entry_eq_loop (by
    rw [Around.under_plainId plain_eq_loop _]
    exact gt_loop l b vs us ns ms hi hi' hlen n n2 d d2 sl sl2 _ 0 rfl prog w A R _ ⟨hl, hb, by simpa using h⟩)⟩
theorem lt_ints {prog : Program} {w : World} {A : Around} {E : Value → Shared → Prop} {s : Shared} {a b : Addr} {vs us : List Value} {ns ms : List Int} {Q : Value → Shared → Prop} (hl : s.heap.IsList a vs.toArray) (hi : IntsAre vs ns) (hl' : s.heap.IsList b us.toArray) (hi' : IntsAre us ms) (hlen : ns.length = ms.length) (hu : A.units < cLine)
    (h : Q (.bool (lexLt ns ms)) s) : wpAny (model prog w) A (compareOp .Lt (.ref a) (.ref b)) Q E s := by
  obtain ⟨⟨cls, dd, data, sl⟩, ho, hc, n, hd⟩ := id hl
  obtain ⟨⟨cls2, dd2, data2, sl2⟩, ho2, hc2, n2, hd2⟩ := id hl'
  simp only at hc hd hc2 hd2
  subst hc hd hc2 hd2
  exact richCompare_meets_room (op := .Lt) ⟨_, ho, rfl⟩ ⟨_, ho2, rfl⟩ F.slot_list_lt F.entry_list_lt (F.args_list_lt_2 _ _) (list_lt a b vs us ns ms hi hi' hlen n n2 dd dd2 sl sl2)
    ⟨ho, ho2, show Value.bool (lexLt ns ms) ≠ Value.notImplemented ∧ Q (.bool (lexLt ns ms)) s from ⟨(fun x => nomatch x), h⟩⟩ hu
theorem gt_ints {prog : Program} {w : World} {A : Around} {E : Value → Shared → Prop} {s : Shared} {a b : Addr} {vs us : List Value} {ns ms : List Int} {Q : Value → Shared → Prop} (hl : s.heap.IsList a vs.toArray) (hi : IntsAre vs ns) (hl' : s.heap.IsList b us.toArray) (hi' : IntsAre us ms) (hlen : ns.length = ms.length) (hu : A.units < cLine)
    (h : Q (.bool (lexLt ms ns)) s) : wpAny (model prog w) A (compareOp .Gt (.ref a) (.ref b)) Q E s := by
  obtain ⟨⟨cls, dd, data, sl⟩, ho, hc, n, hd⟩ := id hl
  obtain ⟨⟨cls2, dd2, data2, sl2⟩, ho2, hc2, n2, hd2⟩ := id hl'
  simp only at hc hd hc2 hd2
  subst hc hd hc2 hd2
  exact richCompare_meets_room (op := .Gt) ⟨_, ho, rfl⟩ ⟨_, ho2, rfl⟩ F.slot_list_gt F.entry_list_gt (F.args_list_gt_2 _ _) (list_gt a b vs us ns ms hi hi' hlen n n2 dd dd2 sl sl2)
    ⟨ho, ho2, show Value.bool (lexLt ms ns) ≠ Value.notImplemented ∧ Q (.bool (lexLt ms ns)) s from ⟨(fun x => nomatch x), h⟩⟩ hu
end

end
section

/-! what the law's own lines ask -/
theorem drawn_lt {wd n : Int} (hw : 2 ≤ wd) (hw9 : wd ≤ 9) (h : n < (2 ^ wd.toNat) ^ 6) {b : Int} (hb : 2 ≤ b) : n < b ^ 54 := by
  have h1 : ((2 : Int) ^ wd.toNat) ^ 6 ≤ 2 ^ 54 := by
    rw [← Int.pow_mul]; exact pow_le_pow (by decide) (by omega)
  have h2 := two_pow_le_pow hb 54
  omega
theorem row_len {b n : Int} {row : List Int} (hb : 2 ≤ b) (h : Lim b n row.reverse) (hn : n < b ^ 54) : row.length ≤ 54 := by
  have := h.len_le (by omega) hn
  rwa [List.length_reverse] at this
theorem noughts_good {b : Int} {row : List Int} (hb : 2 ≤ b) (h : Good b row) (k : Nat) : Good b (row ++ List.replicate k 0) := h.append (Good.replicate (by omega) k)
theorem noughts_val {b n : Int} {row : List Int} (h : Lim b n row.reverse) (k : Nat) : val b (row ++ List.replicate k 0).reverse = n * b ^ k := by
  rw [List.reverse_append, List.reverse_replicate, val_append, val_replicate, List.length_replicate, h.worth, Int.zero_add, Int.mul_comm]
theorem quot_val {b n : Int} {row : List Int} {k m : Nat} (hb : 2 ≤ b) (h : Lim b n row.reverse) (hk : k = row.length - m) : val b (row.take k).reverse = n / b ^ m := by
  have hg := h.good.of_reverse
  have hlo := (hg.drop k).reverse
  have h0 := hlo.nonneg (show 0 ≤ b by omega)
  have h1 := hlo.lt (show 0 < b by omega)
  rw [List.length_reverse, List.length_drop] at h1
  have hm : b ^ (row.length - k) ≤ b ^ m := pow_le_pow (by omega) (by omega)
  have hc := digits_cut (b := b) (ds := row) (m := k) (k := row.length - k) rfl (by omega)
  rw [h.worth] at hc
  by_cases hle : m ≤ row.length
  · rw [show row.length - k = m by omega] at hc h1
    rw [← hc, Int.add_comm, Int.mul_comm, Int.add_mul_ediv_left _ _ (Int.ne_of_gt (pow_pos' (by omega) m)), Int.ediv_eq_zero_of_lt h0 h1, Int.zero_add]
  · rw [show k = 0 by omega] at hc h0 h1 hm ⊢
    simp only [List.take_zero, List.reverse_nil, val_nil, Int.zero_mul, Int.zero_add, List.drop_zero, Nat.sub_zero] at *
    rw [Int.ediv_eq_zero_of_lt (by omega) (by omega)]
theorem bound_200 {B b : Int} {ns : List Int} (hB : 4 ≤ B) (h0 : 2 ≤ b) (h1 : b ≤ 16) (hl : ns.length ≤ 90) (hg : Good b ns) : val b ns.reverse < B ^ 200 := by
  have := hg.reverse.lt (show 0 < b by omega)
  rw [List.length_reverse] at this
  have := base_bound hB h0 h1 (show ns.length ≤ 95 by omega)
  omega
theorem lex_val {B : Int} (hB : 1 < B) : ∀ {a b : List Int}, a.length = b.length → Good B a → Good B b → lexLt a b = decide (val B a.reverse < val B b.reverse)
  | [], [], _, _, _ => by simp [lexLt]
  | x :: r, y :: t, hl, ha, hb => by
    have hl' : r.length = t.length := by simpa using hl
    have hx := ha.head
    have hy := hb.head
    have ih := lex_val hB hl' ha.tail hb.tail
    rw [List.reverse_cons, List.reverse_cons, val_snoc, val_snoc, List.length_reverse, List.length_reverse, hl']
    have hr0 := ha.tail.reverse.nonneg (show 0 ≤ B by omega)
    have ht0 := hb.tail.reverse.nonneg (show 0 ≤ B by omega)
    have hr1 := ha.tail.reverse.lt (show 0 < B by omega)
    have ht1 := hb.tail.reverse.lt (show 0 < B by omega)
    rw [List.length_reverse, hl'] at hr1
    rw [List.length_reverse] at ht1
    have hp := pow_pos' (show 0 < B by omega) t.length
    rw [lexLt]
    by_cases h : x = y
    · rw [if_pos h, ih, h]
      congr 1
      exact propext ⟨fun q => by omega, fun q => by omega⟩
    · rw [if_neg h]
      congr 1
      rcases Int.lt_or_gt_of_ne h with q | q
      · have : B ^ t.length * (x + 1) ≤ B ^ t.length * y := Int.mul_le_mul_of_nonneg_left (by omega) (Int.le_of_lt hp)
        rw [Int.mul_add, Int.mul_one] at this
        exact propext ⟨fun _ => by omega, fun _ => q⟩
      · have : B ^ t.length * (y + 1) ≤ B ^ t.length * x := Int.mul_le_mul_of_nonneg_left (by omega) (Int.le_of_lt hp)
        rw [Int.mul_add, Int.mul_one] at this
        exact propext ⟨fun q' => by omega, fun q' => by omega⟩
theorem padded {b n : Int} {row : List Int} (hb : 2 ≤ b) (h : Lim b n row.reverse) (k : Nat) : Good b (List.replicate k 0 ++ row) ∧ val b (List.replicate k 0 ++ row).reverse = n := by
  refine ⟨(Good.replicate (by omega) k).append h.good.of_reverse, ?_⟩
  rw [List.reverse_append, List.reverse_replicate, val_append, val_replicate, Int.mul_zero, Int.add_zero, h.worth]
theorem rows_less {b x y : Int} {r t : List Int} {j k : Nat} (hb : 2 ≤ b) (h : Lim b x r.reverse) (h' : Lim b y t.reverse) (hl : j + r.length = k + t.length) :
    lexLt (List.replicate j 0 ++ r) (List.replicate k 0 ++ t) = decide (x < y) := by
  have p := padded hb h j
  have q := padded hb h' k
  rw [lex_val (show 1 < b by omega) (by simpa using hl) p.1 q.1, p.2, q.2]
theorem cmp_less {x y : Int} : cmpZ x y = (if decide (y < x) = true then 1 else 0) - (if decide (x < y) = true then 1 else 0) := by
  unfold cmpZ
  by_cases h : x < y
  · have : ¬ y < x := by omega
    simp [h, this]
  · by_cases h2 : y < x <;> simp [h, h2]
theorem thousand {r : List Int} (h : Lim 10 1000 r.reverse) : r = [1, 0, 0, 0] := by
  have k : Lim (10 : Int) 1000 [0, 0, 0, 1] := ⟨by intro x hx; simp at hx; omega, by simp [Nrm], by simp⟩
  have := Lim.unique (by decide) h k
  have e := congrArg List.reverse this
  simpa using e
theorem same_rows {b n : Int} {r t : List Int} (hb : 1 < b) (h : Lim b n r.reverse) (k : Lim b n t.reverse) : r = t := by
  have := congrArg List.reverse (Lim.unique (show 0 < b by omega) h k)
  simpa using this

end
section
open PySem.Calls PySem.Spec
theorem fill : PySem.Challenge.rw_nz0083_01 = PySem.Challenge.rw_nz0083_01 ∧ hd.heap_39 = hd.heap_39 := by
  k_fill
  exact ⟨rfl, rfl⟩
local macro_rules | `(tactic| walk_at "pyIter ref") => `(tactic| refine stop ?_)
local macro_rules | `(tactic| walk_at "exec While Compare cons nil") => `(tactic| refine stop ?_)
local macro_rules | `(tactic| walk_at "exec While BoolOp cons nil") => `(tactic| refine stop ?_)
local macro_rules | `(tactic| walk_at "my steps") => `(tactic| repeat' (first | (k_unfold; (try dsimp only)) | walk1 | (dsimp only; walk1) | fail "no step"))
local macro_rules | `(tactic| walk_at "binaryOp LShift int int") => `(tactic| ((with_reducible refine lshift_int ?kbn ?kbs ?_); (case kbn => omega); (case kbs => exact kbm_shl (m := 1048576) (by assumption) (by omega) (by decide))))
local macro_rules | `(tactic| walk_at "my for") => `(tactic| (k_here; (rename Fr _ _ _ _ => lF'); (with_unfolding_all refine' For_invVF lF' ?k1 ?k2 ?_; (case k1 => exact rfl); (case k2 => exact rfl); k_whole)))
local macro_rules | `(tactic| walk_at "exec For Name Name cons nil") => `(tactic| walk_at "my for")
local macro_rules | `(tactic| walk_at "exec For Name Call cons nil") => `(tactic| walk_at "my for")
local macro_rules | `(tactic| walk_at "exec For Name Subscript cons nil") => `(tactic| walk_at "my for")
local macro_rules | `(tactic| walk_at "binaryOp Mult int int") => `(tactic| (with_reducible refine mul_int ?_ (IntMulOk.of_bits (by assumption) (by assumption))))
local macro_rules | `(tactic| walk_at "binaryOp FloorDiv int int") => `(tactic| (with_reducible refine floordiv_int (by first | assumption | omega) ?_ (Or.inl (PyProof.noPylong_of_log2 (by assumption)))))
local macro_rules | `(tactic| walk_at "call builtin:list.reverse") => `(tactic| (k_here; (with_reducible show wpAny _ _ (call (Value.builtin _) [Value.ref _]) _ _ _); k_dflt (refine' kl_reverse ?F ?N rfl ?U ?z ?_; (case F => k_asm); (case N => k_asm); (case U => k_upd); (case z => ((simp only [sizeLine_eq]); omega))); intro h9 F9 N9; k_sweep))
local macro_rules | `(tactic| k_all) => `(tactic| assumption)
local macro_rules | `(tactic| walk_at "call builtin:len") => `(tactic| (k_here; (with_reducible show wpAny _ _ (call (Value.builtin _) [Value.ref _]) _ _ _); (with_unfolding_all refine' len_pow ?k1 ?k2 ?k3 ?_; (case k1 => is_list); (case k2 => assumption); (case k3 => omega); k_whole)))
local macro_rules | `(tactic| walk_at "subscriptTail Name UnaryOp ref int") => `(tactic| ((with_reducible show wpAny _ _ (subscriptTail _ _ (Value.ref _) (Value.int _ _)) _ _ _); (with_unfolding_all refine' item_last_pow ?k1 ?k2 ?k3 ?_ ?k4 ?k5; (case k1 => is_list); (case k2 => assumption); (case k3 => omega); (case k4 => with_unfolding_all rfl); (case k5 => kmk_pure)); (intro a8 ws8 ns8 hg8 hi8 hL8 hb8)))
local macro_rules | `(tactic| walk_at "subscriptTail Name Name ref int") => `(tactic| ((with_reducible show wpAny _ _ (subscriptTail _ _ (Value.ref _) (Value.int _ _)) _ _ _); (with_unfolding_all refine' item_at_pow ?k1 ?k2 ?k3 ?k4 ?k6 ?_ ?k5 ?k7; (case k1 => is_list); (case k2 => assumption); (case k3 => omega); (case k4 => omega); (case k6 => omega); (case k5 => with_unfolding_all rfl); (case k7 => kmk_pure)); (intro a8 ws8 ns8 hg8 hi8 hL8 hb8)))
local macro_rules | `(tactic| k_ne) => `(tactic| (refine Ne.symm ?_; exact ne_of_all (by assumption) (by k_memK)))
local macro_rules | `(tactic| walk_at "subscriptTail Name Slice ref ref") => `(tactic| (k_here; (with_reducible show wpAny _ _ (subscriptTail _ (PySem.Expr.Slice none none (some _) _) (Value.ref _) (Value.ref _)) _ _ _); k_dflt (refine' sl_rev ?F ?N ?l ?i ?z ?_ ?s ?t; (case F => k_asm); (case N => k_asm); (case l => kmk_list); (case i => assumption); (case z => omega); (case s => with_unfolding_all rfl); (case t => kmk_pure)); intro D' ws' h' F' N' l1 hI'; (try k_lt l1); (try k_sweep)))
local macro_rules | `(tactic| walk_at "subscriptTail Name Slice ref ref") => `(tactic| (k_here; (with_reducible show wpAny _ _ (subscriptTail _ (PySem.Expr.Slice (some _) (some _) none _) (Value.ref _) (Value.ref _)) _ _ _); k_dflt (refine' sl_run ?F ?N ?l ?i ?a ?b ?z ?_ ?s ?t; (case F => k_asm); (case N => k_asm); (case l => kmk_list); (case i => assumption); (case a => omega); (case b => omega); (case z => omega); (case s => with_unfolding_all rfl); (case t => kmk_pure)); intro D' ws' h' F' N' l1 hI'; (try k_lt l1); (try k_sweep)))
local macro_rules | `(tactic| walk_at "subscriptTail Name Slice ref ref") => `(tactic| (k_here; (with_reducible show wpAny _ _ (subscriptTail _ (PySem.Expr.Slice (some _) none none _) (Value.ref _) (Value.ref _)) _ _ _); k_dflt (refine' sl_from ?F ?N ?l ?i ?a ?z ?_ ?s ?t; (case F => k_asm); (case N => k_asm); (case l => kmk_list); (case i => assumption); (case a => omega); (case z => omega); (case s => with_unfolding_all rfl); (case t => kmk_pure)); intro D' ws' h' F' N' l1 hI'; (try k_lt l1); (try k_sweep)))
local macro_rules | `(tactic| walk_at "subscriptTail Name Slice ref ref") => `(tactic| (k_here; (with_reducible show wpAny _ _ (subscriptTail _ (PySem.Expr.Slice none (some _) none _) (Value.ref _) (Value.ref _)) _ _ _); k_dflt (refine' sl_upto ?F ?N ?l ?i ?a ?z ?_ ?s ?t; (case F => k_asm); (case N => k_asm); (case l => kmk_list); (case i => assumption); (case a => omega); (case z => omega); (case s => with_unfolding_all rfl); (case t => kmk_pure)); intro D' ws' h' F' N' l1 hI'; (try k_lt l1); (try k_sweep)))
local macro_rules | `(tactic| walk_at "subscriptTail Name Slice ref ref") => `(tactic| (k_here; (with_reducible show wpAny _ _ (subscriptTail _ (PySem.Expr.Slice none (some _) none _) (Value.ref _) (Value.ref _)) _ _ _); k_dflt (refine' sl_init ?F ?N ?l ?i ?z ?_ ?s ?t; (case F => k_asm); (case N => k_asm); (case l => kmk_list); (case i => assumption); (case z => omega); (case s => with_unfolding_all rfl); (case t => kmk_pure)); intro D' h' F' N' l1 hP8 hl8; (try k_lt l1); (try k_sweep)))
section
section
theorem nrm_step {ns : List Int} {e : Int} {k : Nat} (hp : 0 < e) (h : e ≤ ns.length) (hk : ns.drop e.toNat = List.replicate k 0) (hz : ns.getD (e - 1).toNat 0 = 0) :
    0 ≤ e - 1 ∧ e - 1 ≤ ns.length ∧ ∃ k, ns.drop (e - 1).toNat = List.replicate k 0 := by
  refine ⟨by omega, by omega, k + 1, ?_⟩
  have hl : (e - 1).toNat < ns.length := by omega
  rw [List.drop_eq_getElem_cons hl, show (e - 1).toNat + 1 = e.toNat by omega, hk, List.replicate_succ]
  congr 1
  exact (getD_get hl 0).symm.trans hz
theorem nrm_done {ns : List Int} {e : Int} {k : Nat} (h0 : 0 ≤ e) (h : e ≤ ns.length) (hk : ns.drop e.toNat = List.replicate k 0) (hz : 0 < e → ns.getD (e - 1).toNat 0 ≠ 0) :
    Nrm (ns.take e.toNat) ∧ ∃ k, ns = ns.take e.toNat ++ List.replicate k 0 := by
  refine ⟨?_, k, by rw [← hk, List.take_append_drop]⟩
  by_cases hp : 0 < e
  · have hl : (e - 1).toNat < ns.length := by omega
    have he : e.toNat = (e - 1).toNat + 1 := by omega
    rw [he, List.take_add_one, List.getElem?_eq_getElem hl]
    refine nrm_snoc.mpr ?_
    exact fun h => hz hp ((getD_get hl 0).trans h)
  · rw [show e.toNat = 0 by omega]
    exact Nrm.nil
/-- noughts at the end fall -/
theorem c_normal {w : World} {A : Around} {s : Shared} {Q E} {l : Addr} {vs : List Value} {ns : List Int}
    (W : Wd w s.heap) (R : Room A 1) (hl : s.heap.IsList l vs.toArray) (hi : IntsAre vs ns) (hlen : ns.length < 1000)
    (ret : RetR Q s fun r => Nrm r ∧ ∃ k, ns = r ++ List.replicate k 0) :
    wpAny (model PG w) A (call (.ref 58) [.ref l]) Q E s := by
  have X := W.X
  obtain ⟨mean, mg, mb, T⟩ := W.T
  obtain ⟨hhA, hdA, huA⟩ := R
  obtain ⟨ha, dp, fr, gd, un⟩ := A
  dsimp only at hhA hdA huA
  subst hhA
  refine enter (binds := [(Str.ofString "a", .ref l)]) X T.nolimit (by k_is) (by k_is) (by show dp < 1000; omega) (BindsTo.of_eq rfl) (locs rfl) rfl rfl rfl (by decide) ?_
  intro L h₁ tk F N
  walk_at "my steps"
  refine unstop ?_
  rename Fr _ _ _ _ => F'
  rename News _ _ _ _ => N'
  refine whileW (σ := Int × Tok) (fun c => [(Str.ofString "end", .int c.1 c.2), (Str.ofString "a", .ref l)]) (fun c => []) (fun c => 0 ≤ c.1 ∧ c.1 ≤ ns.length ∧ ∃ k, ns.drop c.1.toNat = List.replicate k 0) (fun c => c.1.toNat) ⟨(ns.length : Int), _⟩
    F' N' hn0 (hk1 rfl <| hk1 rfl hk0) ?_ ?_ ?_
  · exact ⟨by dsimp only; omega, by dsimp only; omega, 0, by simp⟩
  · rintro ⟨e, t⟩ u h tk' ⟨he0, he1, k, hk⟩ F N
    dsimp only at F N he0 he1 hk
    walk_at "my steps"
    · rename ns.getD _ _ = 0 => hz
      rename 0 < e => hp
      exact WEnd.next ⟨_, _⟩ (by assumption) (by assumption) hn0 (hk1 rfl <| hk1 rfl hk0) (nrm_step hp he1 hk hz) (by dsimp only; omega)
    · rename ns.getD _ _ ≠ 0 => hz
      exact ret.out (by assumption) (by assumption) (by k_memK) (by assumption) (nrm_done he0 he1 hk fun _ => hz)
    · rename ¬ 0 < e => hz
      exact ret.out (by assumption) (by assumption) (by k_memK) (by assumption) (nrm_done he0 he1 hk fun h => absurd h hz)
  · passes_own
end
end
local macro_rules | `(tactic| walk_at "call ref") => `(tactic| ((with_reducible show wpAny _ _ (call (Value.ref 58) _) _ _ _); (rename Fr _ _ _ _ => lF'); (rename News _ _ _ _ => lN'); refine' c_normal (Wd.fr (by assumption) lF') (room_in (by omega) (by omega)) ?l ?i ?n (RetR.framed lF' lN' ?_); (case l => is_list); (case i => assumption); (case n => omega); (intro r9 vs9 n9 ns9 h9 tk9 F9 N9 hne9 hi9 hr9); k_sweep))
section
namespace C065
structure St where
  l : Addr
  vs : List Value
  fs : List Int
  n : Nat
  num : Int
  tn : Tok
  tm : Tok
end C065
section
theorem c_nat_of {w : World} {A : Around} {s : Shared} {Q E} {number wd : Int} {t1 t2 : Tok} {K : Nat}
    (W : Wd w s.heap) (R : Room A 1) (hw : 2 ≤ wd) (hw9 : wd ≤ 9) (h0 : 0 ≤ number) (hK : number < (2 ^ wd.toNat) ^ K) (hK5 : K ≤ 500)
    (ret : RetR Q s (Lim (2 ^ wd.toNat) number)) :
    wpAny (model PG w) A (call (.ref 65) [.int number t1, .int wd t2]) Q E s := by
  have hB := wid_pow hw hw9
  have X := W.X
  obtain ⟨mean, mg, mb, T⟩ := W.T
  obtain ⟨hhA, hdA, huA⟩ := R
  obtain ⟨ha, dp, fr, gd, un⟩ := A
  dsimp only at hhA hdA huA
  subst hhA
  refine enter (binds := [(Str.ofString "number", .int number t1), (Str.ofString "w", .int wd t2)]) X T.nolimit (by k_is) (by k_is) (by show dp < 1000; omega) (BindsTo.of_eq rfl) (locs rfl) rfl rfl rfl (by decide) ?_
  intro L h₁ tk F N
  walk_at "my steps"
  refine unstop ?_
  rename Fr _ _ _ _ => F'
  rename News _ _ _ _ => N'
  refine whileW (σ := C065.St) (fun c => [(Str.ofString "found", .ref c.l), (Str.ofString "number", .int c.num c.tn), (Str.ofString "mask", .int (1 * 2 ^ wd.toNat - 1) c.tm), (Str.ofString "w", .int wd t2)])
    (fun c => [(c.l, PySem.W.listOf c.vs.toArray c.n)])
    (fun c => IntsAre c.vs c.fs ∧ Split (2 ^ wd.toNat) number c.fs c.num) (fun c => c.num.toNat)
    ⟨_, [], [], 0, number, _, _⟩ F' N' (hn1 (by k_memK) hn0) (hk1 rfl <| hk1 rfl <| hk1 rfl <| hk1 rfl hk0) ?_ ?_ ?_
  · exact ⟨.nil, Split.start h0⟩
  · rintro ⟨l', fvs, fs, fn, num, tn, tm⟩ u h tk' ⟨hfi, S⟩ F N
    dsimp only at F N hfi S
    have hln := fun hr => S.len (by omega) hr hK
    by_cases hr : 0 < num
    · have hlen := hln hr
      clear hln
      have S' := S.step (by omega) hr
      have hm := ediv_less (B := 2 ^ wd.toNat) (by omega) hr
      have hn0 := S.rest0
      walk_at "my steps"
      rename Fr _ _ _ _ => F'
      rename News _ _ _ _ => N'
      simp only [List.push_toArray, bit_mask] at N'
      rw [fdiv_pos (by omega)] at F'
      exact WEnd.next ⟨l', _, _, _, _, _, _⟩ F' N' (hn1 (by k_memK) Mine.hn0) (hk1 rfl <| hk1 rfl <| hk1 rfl <| hk1 rfl hk0) ⟨hfi.append (.cons _ _ .nil), S'⟩ (by dsimp only; omega)
    · clear hln
      walk_at "my steps"
      exact ret.out (by assumption) (by assumption) (by k_memK) hfi (S.done (by omega))
  · passes_own
end
end
local macro_rules | `(tactic| walk_at "call ref") => `(tactic| ((with_reducible show wpAny _ _ (call (Value.ref 65) _) _ _ _); (rename Fr _ _ _ _ => lF'); (rename News _ _ _ _ => lN'); refine' c_nat_of (Wd.fr (by assumption) lF') (room_in (by omega) (by omega)) (by assumption) (by assumption) ?a ?k ?m (RetR.framed lF' lN' ?_); (case a => first | assumption | omega); (case k => assumption); (case m => first | assumption | decide); (intro r9 vs9 n9 ns9 h9 tk9 F9 N9 hne9 hi9 hr9); k_sweep))
section
section
theorem c_compare {w : World} {A : Around} {s : Shared} {Q E} {l1 l2 : Addr} {vs1 vs2 : List Value} {ns1 ns2 : List Int} {B : Int}
    (W : Wd w s.heap) (R : Room A 1) (hB : 1 < B) (hl1 : s.heap.IsList l1 vs1.toArray) (hi1 : IntsAre vs1 ns1) (hlen1 : ns1.length ≤ 1000) (hg1 : Good B ns1) (hn1 : Nrm ns1)
    (hl2 : s.heap.IsList l2 vs2.toArray) (hi2 : IntsAre vs2 ns2) (hlen2 : ns2.length ≤ 1000) (hg2 : Good B ns2) (hn2 : Nrm ns2)
    (ret : RetI Q s (cmpZ (val B ns1) (val B ns2))) :
    wpAny (model PG w) A (call (.ref 72) [.ref l1, .ref l2]) Q E s := by
  have X := W.X
  obtain ⟨mean, mg, mb, T⟩ := W.T
  obtain ⟨hhA, hdA, huA⟩ := R
  obtain ⟨ha, dp, fr, gd, un⟩ := A
  dsimp only at hhA hdA huA
  subst hhA
  refine enter (binds := [(Str.ofString "a", .ref l1), (Str.ofString "b", .ref l2)]) X T.nolimit (by k_is) (by k_is) (by show dp < 1000; omega) (BindsTo.of_eq rfl) (locs rfl) rfl rfl rfl (by decide) ?_
  intro L h₁ tk F N
  walk_at "my steps"
  · rename (ns1.length : Int) < ns2.length => hlt
    exact ret.out (by assumption) (cmpZ_lt (cmp_len hB hg1 hg2 hn2 (by omega))).symm
  · rename ¬ (ns1.length : Int) < ns2.length => hlt
    rename (ns1.length : Int) ≠ ns2.length => hne
    exact ret.out (by assumption) (cmpZ_gt (cmp_len hB hg2 hg1 hn1 (by omega))).symm
  refine unstop ?_
  rename Fr _ _ _ _ => F'
  rename News _ _ _ _ => N'
  rename (ns1.length : Int) = ns2.length => he
  have he' : ns2.length = ns1.length := by omega
  refine forR (σ := Unit) (fun c => [(Str.ofString "a", .ref l1), (Str.ofString "b", .ref l2)]) (fun c => [])
    (fun i c => ns1.drop (ns1.length - i) = ns2.drop (ns1.length - i)) (n := ns1.length) () rfl (by assumption) (small_down (by omega) (by omega) (by omega) (by omega)) (by rw [rangeSize_downNat]; omega) F' N' hn0 (hk1 rfl <| hk1 rfl hk0) ?_ ?_ ?_
  · rw [Nat.sub_zero, List.drop_length, ← he', List.drop_length]
  · rintro i t ⟨⟩ u h tk' own hi hd hoff F N
    simp only [List.nil_append] at N
    have hp : ((ns1.length : Int) - 1 + (i : Int) * -1).toNat = ns1.length - 1 - i := by omega
    walk_at "my steps"
    · rename ns1.getD _ _ < ns2.getD _ _ => hlt
      exact ret.out F (cmpZ_lt (cmp_here hB hg1 hg2 rfl he' hi hd hp hlt)).symm
    · rename ¬ ns1.getD _ _ < ns2.getD _ _ => hlt
      rename ns1.getD _ _ ≠ ns2.getD _ _ => hne
      exact ret.out F (cmpZ_gt (cmp_here hB hg2 hg1 he' rfl hi hd.symm hp (by omega))).symm
    · rename ns1.getD _ _ = ns2.getD _ _ => heq
      exact TEnd.next () (by assumption) (by assumption) hn0 has_refl (by exact hoff) (hk1 rfl <| hk1 rfl hk0) (drop_step rfl he' hi hd hp heq)
  · rintro ⟨⟩ u h tk' hd F N
    dsimp only
    walk_at "my steps"
    rw [Nat.sub_self, List.drop_zero, List.drop_zero] at hd
    exact ret.out (by assumption) (cmpZ_eq (by rw [hd])).symm
theorem c_compare' {w : World} {A : Around} {s : Shared} {Q E} {l1 l2 : Addr} {vs1 vs2 : List Value} {ns1 ns2 : List Int} {wd x y : Int}
    (W : Wd w s.heap) (R : Room A 1) (hw : 2 ≤ wd) (hw9 : wd ≤ 9) (hl1 : s.heap.IsList l1 vs1.toArray) (hi1 : IntsAre vs1 ns1) (h1 : Lim (2 ^ wd.toNat) x ns1) (hx : x < (2 ^ wd.toNat) ^ 200)
    (hl2 : s.heap.IsList l2 vs2.toArray) (hi2 : IntsAre vs2 ns2) (h2 : Lim (2 ^ wd.toNat) y ns2) (hy : y < (2 ^ wd.toNat) ^ 200)
    (ret : RetI Q s (cmpZ x y)) : wpAny (model PG w) A (call (.ref 72) [.ref l1, .ref l2]) Q E s := by
  have hB := wid_pow hw hw9
  refine c_compare W R (B := 2 ^ wd.toNat) (by omega) hl1 hi1 (Nat.le_trans (h1.len_le (by omega) hx) (by decide)) h1.good h1.nrm hl2 hi2 (Nat.le_trans (h2.len_le (by omega) hy) (by decide)) h2.good h2.nrm ?_
  rw [h1.worth, h2.worth]; exact ret
end
end
local macro_rules | `(tactic| walk_at "call ref") => `(tactic| ((with_reducible show wpAny _ _ (call (Value.ref 72) _) _ _ _); (rename Fr _ _ _ _ => lF'); (rename News _ _ _ _ => lN'); refine' c_compare' (Wd.fr (by assumption) lF') (room_in (by omega) (by omega)) ?h2 ?h9 ?l ?i ?g ?x ?l2 ?i2 ?g2 ?x2 (RetI.framed lF' lN' ?_); (case l => is_list); (case i => assumption); (case l2 => is_list); (case i2 => assumption); (case g => assumption); (case g2 => assumption); (case x => assumption); (case x2 => assumption); (case h2 => assumption); (case h9 => assumption); (intro t9 h9 tk9 F9 N9); k_sweep))
section
namespace C079
structure St where
  l : Addr
  t : Tok
  cy : Int
  tm : Tok
  vs : List Value
  fs : List Int
  n : Nat
end C079
section
theorem c_add {w : World} {A : Around} {s : Shared} {Q E} {l1 l2 : Addr} {vs1 vs2 : List Value} {ns1 ns2 : List Int} {wd : Int} {t : Tok}
    (W : Wd w s.heap) (R : Room A 1) (hw : 2 ≤ wd) (hw9 : wd ≤ 9) (hl1 : s.heap.IsList l1 vs1.toArray) (hi1 : IntsAre vs1 ns1) (hlen1 : ns1.length ≤ 1000) (hg1 : Good (2 ^ wd.toNat) ns1)
    (hl2 : s.heap.IsList l2 vs2.toArray) (hi2 : IntsAre vs2 ns2) (hlen2 : ns2.length ≤ 1000) (hg2 : Good (2 ^ wd.toNat) ns2)
    (ret : RetR Q s fun r => Good (2 ^ wd.toNat) r ∧ val (2 ^ wd.toNat) r = val (2 ^ wd.toNat) ns1 + val (2 ^ wd.toNat) ns2 ∧ r.length ≤ max ns1.length ns2.length + 1 ∧ (Nrm r ∨ r.length ≤ max ns1.length ns2.length)) :
    wpAny (model PG w) A (call (.ref 79) [.ref l1, .ref l2, .int wd t]) Q E s := by
  have hB := wid_pow hw hw9
  have X := W.X
  obtain ⟨mean, mg, mb, T⟩ := W.T
  obtain ⟨hhA, hdA, huA⟩ := R
  obtain ⟨ha, dp, fr, gd, un⟩ := A
  dsimp only at hhA hdA huA
  subst hhA
  refine enter (binds := [(Str.ofString "a", .ref l1), (Str.ofString "b", .ref l2), (Str.ofString "w", .int wd t)]) X T.nolimit (by k_is) (by k_is) (by show dp < 1000; omega) (BindsTo.of_eq rfl) (locs rfl) rfl rfl rfl (by decide) ?_
  intro L h₁ tk F N
  walk_at "my steps"
  · refine unstop ?_
    rename Fr _ _ _ _ => F'
    rename News _ _ _ _ => N'
    rename (ns1.length : Int) < ns2.length => hle
    refine forR (σ := C079.St) (fun c => [(Str.ofString "found", .ref c.l), (Str.ofString "carry", .int c.cy c.t), (Str.ofString "mask", .int (1 * 2 ^ wd.toNat - 1) c.tm), (Str.ofString "a", .ref l2), (Str.ofString "b", .ref l1), (Str.ofString "w", .int wd t)]) (fun c => [(c.l, PySem.W.listOf c.vs.toArray c.n)])
      (fun i c => IntsAre c.vs c.fs ∧ Car (2 ^ wd.toNat) (val (2 ^ wd.toNat) (ns2.take i) + val (2 ^ wd.toNat) (ns1.take i)) c.fs i c.cy) (n := ns1.length)
      ⟨_, _, 0, _, [], [], 0⟩ rfl (by assumption) (small_one (by omega) (by omega) (by omega) (by omega)) (by rw [rangeSize_one]; split <;> omega) F' N' (hn1 (by k_memK) hn0) (hk1 rfl <| hk1 rfl <| hk1 rfl <| hk1 rfl <| hk1 rfl <| hk1 rfl hk0) ?_ ?_ ?_
    · exact ⟨.nil, Car.start _⟩
    · rintro i t ⟨l', t3, cy, tm, fvs, fs, fn⟩ u h tk' own hi ⟨hfi, C⟩ hoff F N
      dsimp only at F N hfi C
      have hp : (0 + (i : Int) * 1).toNat = i := by omega
      have hpa : i < ns2.length := by omega
      have hfl := C.len
      have C' := add_step1 (by omega) hg2 hg1 hp hpa hi C
      simp only [List.cons_append, List.nil_append] at N
      walk_at "my steps"
      rename Fr _ _ _ _ => F'
      rename News _ _ _ _ => N'
      simp only [List.push_toArray, bit_mask] at N'
      rw [fdiv_pos (by omega)] at F'
      exact TEnd.next ⟨l', _, _, _, _, _, _⟩ F' N' (hn1 (by k_memK) hn0) (has_tail has_refl) (by exact hoff) (hk1 rfl <| hk1 rfl <| hk1 rfl <| hk1 rfl <| hk1 rfl <| hk1 rfl hk0) ⟨hfi.append (.cons _ _ .nil), C'⟩
    · rintro ⟨l', t3, cy, tm, fvs, fs, fn⟩ u h tk' ⟨hfi, C⟩ F N
      dsimp only at F N hfi C
      rw [List.take_length] at C
      dsimp only
      walk_at "my steps"
      refine unstop ?_
      rename Fr _ _ _ _ => F'
      rename News _ _ _ _ => N'
      refine forR (σ := C079.St) (fun c => [(Str.ofString "found", .ref c.l), (Str.ofString "carry", .int c.cy c.t), (Str.ofString "mask", .int (1 * 2 ^ wd.toNat - 1) c.tm), (Str.ofString "a", .ref l2), (Str.ofString "b", .ref l1), (Str.ofString "w", .int wd t)]) (fun c => [(c.l, PySem.W.listOf c.vs.toArray c.n)])
        (fun i c => IntsAre c.vs c.fs ∧ Car (2 ^ wd.toNat) (val (2 ^ wd.toNat) (ns2.take (ns1.length + i)) + val (2 ^ wd.toNat) ns1) c.fs (ns1.length + i) c.cy) (n := ns2.length - ns1.length)
        ⟨l', _, cy, _, fvs, fs, fn⟩ rfl (by assumption) (small_one (by omega) (by omega) (by omega) (by omega)) (by rw [rangeSize_one]; split <;> omega) F' N' (hn1 (by k_memK) hn0) (hk1 rfl <| hk1 rfl <| hk1 rfl <| hk1 rfl <| hk1 rfl <| hk1 rfl hk0) ?_ ?_ ?_
      · exact ⟨hfi, C⟩
      · rintro i t ⟨l', t3, cy, tm, fvs, fs, fn⟩ u h tk' own hi ⟨hfi, C⟩ hoff F N
        dsimp only at F N hfi C
        have hp : ((ns1.length : Int) + (i : Int) * 1).toNat = ns1.length + i := by omega
        have hpa : ns1.length + i < ns2.length := by omega
        have hfl := C.len
        have C' := add_step2 (by omega) hg2 hp hpa C
        simp only [List.cons_append, List.nil_append] at N
        walk_at "my steps"
        rename Fr _ _ _ _ => F'
        rename News _ _ _ _ => N'
        simp only [List.push_toArray, bit_mask] at N'
        rw [fdiv_pos (by omega)] at F'
        exact TEnd.next ⟨l', _, _, _, _, _, _⟩ F' N' (hn1 (by k_memK) hn0) (has_tail has_refl) (by exact hoff) (hk1 rfl <| hk1 rfl <| hk1 rfl <| hk1 rfl <| hk1 rfl <| hk1 rfl hk0) ⟨hfi.append (.cons _ _ .nil), C'⟩
      · rintro ⟨l', t3, cy, tm, fvs, fs, fn⟩ u h tk' ⟨hfi, C⟩ F N
        dsimp only at F N hfi C
        rw [show ns1.length + (ns2.length - ns1.length) = ns2.length by omega, List.take_length] at C
        have dn := C.done (by omega)
        have hfl := C.len
        dsimp only
        walk_at "my steps"
        · rename Fr _ _ _ _ => F'
          rename News _ _ _ _ => N'
          simp only [List.push_toArray] at N'
          have dn' := dn.1 (by assumption)
          exact ret.out F' N' (by k_memK) (hfi.append (.cons _ _ .nil)) ⟨dn'.1, dn'.2.1.trans (by omega), by omega, dn'.2.2.2.imp id fun h => by omega⟩
        · have dn' := dn.2 (by assumption)
          exact ret.out (by assumption) (by assumption) (by k_memK) hfi ⟨dn'.1, dn'.2.1.trans (by omega), by omega, dn'.2.2.2.imp id fun h => by omega⟩
  · refine unstop ?_
    rename Fr _ _ _ _ => F'
    rename News _ _ _ _ => N'
    rename ¬ (ns1.length : Int) < ns2.length => hle
    refine forR (σ := C079.St) (fun c => [(Str.ofString "found", .ref c.l), (Str.ofString "carry", .int c.cy c.t), (Str.ofString "mask", .int (1 * 2 ^ wd.toNat - 1) c.tm), (Str.ofString "a", .ref l1), (Str.ofString "b", .ref l2), (Str.ofString "w", .int wd t)]) (fun c => [(c.l, PySem.W.listOf c.vs.toArray c.n)])
      (fun i c => IntsAre c.vs c.fs ∧ Car (2 ^ wd.toNat) (val (2 ^ wd.toNat) (ns1.take i) + val (2 ^ wd.toNat) (ns2.take i)) c.fs i c.cy) (n := ns2.length)
      ⟨_, _, 0, _, [], [], 0⟩ rfl (by assumption) (small_one (by omega) (by omega) (by omega) (by omega)) (by rw [rangeSize_one]; split <;> omega) F' N' (hn1 (by k_memK) hn0) (hk1 rfl <| hk1 rfl <| hk1 rfl <| hk1 rfl <| hk1 rfl <| hk1 rfl hk0) ?_ ?_ ?_
    · exact ⟨.nil, Car.start _⟩
    · rintro i t ⟨l', t3, cy, tm, fvs, fs, fn⟩ u h tk' own hi ⟨hfi, C⟩ hoff F N
      dsimp only at F N hfi C
      have hp : (0 + (i : Int) * 1).toNat = i := by omega
      have hpa : i < ns1.length := by omega
      have hfl := C.len
      have C' := add_step1 (by omega) hg1 hg2 hp hpa hi C
      simp only [List.cons_append, List.nil_append] at N
      walk_at "my steps"
      rename Fr _ _ _ _ => F'
      rename News _ _ _ _ => N'
      simp only [List.push_toArray, bit_mask] at N'
      rw [fdiv_pos (by omega)] at F'
      exact TEnd.next ⟨l', _, _, _, _, _, _⟩ F' N' (hn1 (by k_memK) hn0) (has_tail has_refl) (by exact hoff) (hk1 rfl <| hk1 rfl <| hk1 rfl <| hk1 rfl <| hk1 rfl <| hk1 rfl hk0) ⟨hfi.append (.cons _ _ .nil), C'⟩
    · rintro ⟨l', t3, cy, tm, fvs, fs, fn⟩ u h tk' ⟨hfi, C⟩ F N
      dsimp only at F N hfi C
      rw [List.take_length] at C
      dsimp only
      walk_at "my steps"
      refine unstop ?_
      rename Fr _ _ _ _ => F'
      rename News _ _ _ _ => N'
      refine forR (σ := C079.St) (fun c => [(Str.ofString "found", .ref c.l), (Str.ofString "carry", .int c.cy c.t), (Str.ofString "mask", .int (1 * 2 ^ wd.toNat - 1) c.tm), (Str.ofString "a", .ref l1), (Str.ofString "b", .ref l2), (Str.ofString "w", .int wd t)]) (fun c => [(c.l, PySem.W.listOf c.vs.toArray c.n)])
        (fun i c => IntsAre c.vs c.fs ∧ Car (2 ^ wd.toNat) (val (2 ^ wd.toNat) (ns1.take (ns2.length + i)) + val (2 ^ wd.toNat) ns2) c.fs (ns2.length + i) c.cy) (n := ns1.length - ns2.length)
        ⟨l', _, cy, _, fvs, fs, fn⟩ rfl (by assumption) (small_one (by omega) (by omega) (by omega) (by omega)) (by rw [rangeSize_one]; split <;> omega) F' N' (hn1 (by k_memK) hn0) (hk1 rfl <| hk1 rfl <| hk1 rfl <| hk1 rfl <| hk1 rfl <| hk1 rfl hk0) ?_ ?_ ?_
      · exact ⟨hfi, C⟩
      · rintro i t ⟨l', t3, cy, tm, fvs, fs, fn⟩ u h tk' own hi ⟨hfi, C⟩ hoff F N
        dsimp only at F N hfi C
        have hp : ((ns2.length : Int) + (i : Int) * 1).toNat = ns2.length + i := by omega
        have hpa : ns2.length + i < ns1.length := by omega
        have hfl := C.len
        have C' := add_step2 (by omega) hg1 hp hpa C
        simp only [List.cons_append, List.nil_append] at N
        walk_at "my steps"
        rename Fr _ _ _ _ => F'
        rename News _ _ _ _ => N'
        simp only [List.push_toArray, bit_mask] at N'
        rw [fdiv_pos (by omega)] at F'
        exact TEnd.next ⟨l', _, _, _, _, _, _⟩ F' N' (hn1 (by k_memK) hn0) (has_tail has_refl) (by exact hoff) (hk1 rfl <| hk1 rfl <| hk1 rfl <| hk1 rfl <| hk1 rfl <| hk1 rfl hk0) ⟨hfi.append (.cons _ _ .nil), C'⟩
      · rintro ⟨l', t3, cy, tm, fvs, fs, fn⟩ u h tk' ⟨hfi, C⟩ F N
        dsimp only at F N hfi C
        rw [show ns2.length + (ns1.length - ns2.length) = ns1.length by omega, List.take_length] at C
        have dn := C.done (by omega)
        have hfl := C.len
        dsimp only
        walk_at "my steps"
        · rename Fr _ _ _ _ => F'
          rename News _ _ _ _ => N'
          simp only [List.push_toArray] at N'
          have dn' := dn.1 (by assumption)
          exact ret.out F' N' (by k_memK) (hfi.append (.cons _ _ .nil)) ⟨dn'.1, dn'.2.1.trans (by omega), by omega, dn'.2.2.2.imp id fun h => by omega⟩
        · have dn' := dn.2 (by assumption)
          exact ret.out (by assumption) (by assumption) (by k_memK) hfi ⟨dn'.1, dn'.2.1.trans (by omega), by omega, dn'.2.2.2.imp id fun h => by omega⟩
theorem c_add' {w : World} {A : Around} {s : Shared} {Q E} {l1 l2 : Addr} {vs1 vs2 : List Value} {ns1 ns2 : List Int} {wd x y : Int} {t : Tok}
    (W : Wd w s.heap) (R : Room A 1) (hw : 2 ≤ wd) (hw9 : wd ≤ 9) (hl1 : s.heap.IsList l1 vs1.toArray) (hi1 : IntsAre vs1 ns1) (h1 : Lim (2 ^ wd.toNat) x ns1) (hx : x < (2 ^ wd.toNat) ^ 200)
    (hl2 : s.heap.IsList l2 vs2.toArray) (hi2 : IntsAre vs2 ns2) (h2 : Lim (2 ^ wd.toNat) y ns2) (hy : y < (2 ^ wd.toNat) ^ 200)
    (ret : RetR Q s (Lim (2 ^ wd.toNat) (x + y))) : wpAny (model PG w) A (call (.ref 79) [.ref l1, .ref l2, .int wd t]) Q E s := by
  have hB := wid_pow hw hw9
  exact c_add W R hw hw9 hl1 hi1 (Nat.le_trans (h1.len_le (by omega) hx) (by decide)) h1.good hl2 hi2 (Nat.le_trans (h2.len_le (by omega) hy) (by decide)) h2.good fun r vs n ns' h' tk' a b c d e => ret r vs n ns' h' tk' a b c d (lim_add (by omega) h1 h2 e)
end
end
local macro_rules | `(tactic| walk_at "call ref") => `(tactic| ((with_reducible show wpAny _ _ (call (Value.ref 79) _) _ _ _); (rename Fr _ _ _ _ => lF'); (rename News _ _ _ _ => lN'); refine' c_add' (Wd.fr (by assumption) lF') (room_in (by omega) (by omega)) (by assumption) (by assumption) ?l ?i ?g ?x ?l2 ?i2 ?g2 ?x2 (RetR.framed lF' lN' ?_); (case l => is_list); (case i => assumption); (case l2 => is_list); (case i2 => assumption); (case g => assumption); (case g2 => assumption); (case x => assumption); (case x2 => assumption); (intro r9 vs9 n9 ns9 h9 tk9 F9 N9 hne9 hi9 hr9); k_sweep))
section
namespace C086
structure St where
  l : Addr
  t : Tok
  cy : Int
  tm : Tok
  vs : List Value
  fs : List Int
  n : Nat
end C086
section
theorem c_mul_limb {w : World} {A : Around} {s : Shared} {Q E} {l : Addr} {vs : List Value} {ns : List Int} {limb wd : Int} {t1 t2 : Tok}
    (W : Wd w s.heap) (R : Room A 1) (hw : 2 ≤ wd) (hw9 : wd ≤ 9) (hl : s.heap.IsList l vs.toArray) (hi : IntsAre vs ns) (hlen : ns.length < 1000)
    (hg : Good (2 ^ wd.toNat) ns) (h0 : 0 ≤ limb) (h1 : limb < 2 ^ wd.toNat)
    (ret : RetR Q s fun r => Good (2 ^ wd.toNat) r ∧ val (2 ^ wd.toNat) r = val (2 ^ wd.toNat) ns * limb ∧ r.length ≤ ns.length + 1 ∧ (Nrm r ∨ r.length ≤ ns.length)) :
    wpAny (model PG w) A (call (.ref 86) [.ref l, .int limb t1, .int wd t2]) Q E s := by
  have hB := wid_pow hw hw9
  have X := W.X
  obtain ⟨mean, mg, mb, T⟩ := W.T
  obtain ⟨hhA, hdA, huA⟩ := R
  obtain ⟨ha, dp, fr, gd, un⟩ := A
  dsimp only at hhA hdA huA
  subst hhA
  refine enter (binds := [(Str.ofString "a", .ref l), (Str.ofString "limb", .int limb t1), (Str.ofString "w", .int wd t2)]) X T.nolimit (by k_is) (by k_is) (by show dp < 1000; omega) (BindsTo.of_eq rfl) (locs rfl) rfl rfl rfl (by decide) ?_
  intro L h₁ tk F N
  walk_at "my steps"
  · refine ret.out (by assumption) (by assumption) (by k_memK) .nil ?_
    rename limb = 0 => hz
    exact ⟨.nil, by simp [hz], by simp, .inl .nil⟩
  refine unstop ?_
  rename Fr _ _ _ _ => F'
  rename News _ _ _ _ => N'
  refine forB (σ := C086.St) (fun c => [(Str.ofString "found", .ref c.l), (Str.ofString "carry", .int c.cy c.t), (Str.ofString "mask", .int (1 * 2 ^ wd.toNat - 1) c.tm), (Str.ofString "limb", .int limb t1), (Str.ofString "w", .int wd t2)])
    (fun c => [(c.l, PySem.W.listOf c.vs.toArray c.n)])
    (fun i c => 0 ≤ c.cy ∧ c.cy < 2 ^ wd.toNat ∧ IntsAre c.vs c.fs ∧ Good (2 ^ wd.toNat) c.fs ∧ c.fs.length = i ∧ val (2 ^ wd.toNat) c.fs + (2 ^ wd.toNat) ^ i * c.cy = val (2 ^ wd.toNat) (ns.take i) * limb)
    ⟨_, _, 0, _, [], [], 0⟩ rfl hl (by assumption) F' N' (hn1 (by k_memK) hn0) (hk1 rfl <| hk1 rfl <| hk1 rfl <| hk1 rfl <| hk1 rfl hk0) ?_ ?_ ?_
  · exact ⟨Int.le_refl _, by dsimp only; omega, .nil, .nil, rfl, by simp⟩
  · rintro i k t ⟨l', t3, cy, tm, fvs, fs, fn⟩ u h tk' own hk ⟨hc0, hc1, hfi, gf, hfl, hv⟩ hoff F N
    dsimp only at F N hc0 hc1 hfi hfl hv gf
    have hk' := hg.at hk
    have hkl := lt_of_at hk
    have st := mul_step (by omega) hg hk gf hfl h0 h1 hc0 hc1 hv
    simp only [List.cons_append, List.nil_append] at N
    walk_at "my steps"
    rename Fr _ _ _ _ => F'
    rename News _ _ _ _ => N'
    simp only [List.push_toArray, bit_mask] at N'
    rw [fdiv_pos (by omega)] at F'
    exact TEnd.next ⟨l', _, _, _, _, _, _⟩ F' N' (hn1 (by k_memK) hn0) (has_tail has_refl) (by exact hoff) (hk1 rfl <| hk1 rfl <| hk1 rfl <| hk1 rfl <| hk1 rfl hk0)
      ⟨st.1, st.2.1, hfi.append (.cons _ _ .nil), st.2.2.1, st.2.2.2.1, st.2.2.2.2⟩
  · rintro ⟨l', t3, cy, tm, fvs, fs, fn⟩ u h tk' ⟨hc0, hc1, hfi, gf, hfl, hv⟩ F N
    dsimp only at F N hc0 hc1 hfi hfl hv gf
    have dn := mul_done (by omega) gf hfl hc0 hc1 hv
    dsimp only
    walk_at "my steps"
    · rename Fr _ _ _ _ => F'
      rename News _ _ _ _ => N'
      simp only [List.push_toArray] at N'
      exact ret.out F' N' (by k_memK) (hfi.append (.cons _ _ .nil)) (dn.1 (by assumption))
    · exact ret.out (by assumption) (by assumption) (by k_memK) hfi (dn.2 (by assumption))
theorem c_mul_limb' {w : World} {A : Around} {s : Shared} {Q E} {l : Addr} {vs : List Value} {ns : List Int} {limb wd x : Int} {t1 t2 : Tok}
    (W : Wd w s.heap) (R : Room A 1) (hw : 2 ≤ wd) (hw9 : wd ≤ 9) (hl : s.heap.IsList l vs.toArray) (hi : IntsAre vs ns) (h : Lim (2 ^ wd.toNat) x ns) (hx : x < (2 ^ wd.toNat) ^ 200)
    (h0 : 0 < limb) (h1 : limb < 2 ^ wd.toNat) (ret : RetR Q s (Lim (2 ^ wd.toNat) (x * limb))) :
    wpAny (model PG w) A (call (.ref 86) [.ref l, .int limb t1, .int wd t2]) Q E s := by
  have hB := wid_pow hw hw9
  exact c_mul_limb W R hw hw9 hl hi (Nat.lt_of_le_of_lt (h.len_le (by omega) hx) (by decide)) h.good (Int.le_of_lt h0) h1 fun r vs n ns' h' tk' a b c d e => ret r vs n ns' h' tk' a b c d (lim_mul (by omega) h h0 e)
end
end
local macro_rules | `(tactic| walk_at "call ref") => `(tactic| ((with_reducible show wpAny _ _ (call (Value.ref 86) _) _ _ _); (rename Fr _ _ _ _ => lF'); (rename News _ _ _ _ => lN'); refine' c_mul_limb' (Wd.fr (by assumption) lF') (room_in (by omega) (by omega)) (by assumption) (by assumption) ?l ?i ?g ?x ?a ?b (RetR.framed lF' lN' ?_); (case l => is_list); (case i => assumption); (case g => assumption); (case x => assumption); (case a => omega); (case b => omega); (intro r9 vs9 n9 ns9 h9 tk9 F9 N9 hne9 hi9 hr9); k_sweep))
section
namespace C093
structure St where
  l : Addr
  vs : List Value
  fs : List Int
  n : Nat
  rest : Int
  t : Tok
end C093
section
theorem c_divrem_limb {w : World} {A : Around} {s : Shared} {Q E} {l1 : Addr} {vs1 : List Value} {ns1 : List Int} {limb wd : Int} {t1 t : Tok}
    (W : Wd w s.heap) (R : Room A 2) (hw : 2 ≤ wd) (hw9 : wd ≤ 9) (hl1 : s.heap.IsList l1 vs1.toArray) (hi1 : IntsAre vs1 ns1) (hlen1 : ns1.length < 1000) (hg1 : Good (2 ^ wd.toNat) ns1)
    (h0 : 0 < limb) (h1 : limb < 2 ^ wd.toNat)
    (ret : RetLI Q s (Lim (2 ^ wd.toNat) (val (2 ^ wd.toNat) ns1 / limb)) (val (2 ^ wd.toNat) ns1 % limb)) :
    wpAny (model PG w) A (call (.ref 93) [.ref l1, .int limb t1, .int wd t]) Q E s := by
  have hB := wid_pow hw hw9
  have X := W.X
  obtain ⟨mean, mg, mb, T⟩ := W.T
  obtain ⟨hhA, hdA, huA⟩ := R
  obtain ⟨ha, dp, fr, gd, un⟩ := A
  dsimp only at hhA hdA huA
  subst hhA
  refine enter (binds := [(Str.ofString "a", .ref l1), (Str.ofString "limb", .int limb t1), (Str.ofString "w", .int wd t)]) X T.nolimit (by k_is) (by k_is) (by show dp < 1000; omega) (BindsTo.of_eq rfl) (locs rfl) rfl rfl rfl (by decide) ?_
  intro L h₁ tk F N
  walk_at "my steps"
  refine unstop ?_
  rename Fr _ _ _ _ => F'
  rename News _ _ _ _ => N'
  rename IntsAre (List.flatten _) _ => hz
  rw [Int.toNat_natCast, flat_rep] at hz
  refine forR (σ := C093.St) (fun c => [(Str.ofString "found", .ref c.l), (Str.ofString "rest", .int c.rest c.t), (Str.ofString "a", .ref l1), (Str.ofString "limb", .int limb t1), (Str.ofString "w", .int wd t)]) (fun c => [(c.l, PySem.W.listOf c.vs.toArray c.n)])
    (fun i c => IntsAre c.vs c.fs ∧ Div1 (2 ^ wd.toNat) limb ns1 c.fs i c.rest) (n := ns1.length) ⟨_, _, List.replicate ns1.length 0, _, 0, _⟩ rfl (by assumption) (small_down (by omega) (by omega) (by omega) (by omega)) (by rw [rangeSize_downNat]; omega) F' N' (hn1 (by k_memK) hn0) (hk1 rfl <| hk1 rfl <| hk1 rfl <| hk1 rfl <| hk1 rfl hk0) ?_ ?_ ?_
  · exact ⟨hz, Div1.start (by simp)⟩
  · rintro i t ⟨l', fvs, fs, fn, rest, t3⟩ u h tk' own hi ⟨hfi, D⟩ hoff F N
    dsimp only at F N hfi D
    simp only [List.cons_append, List.nil_append] at N
    have hp : ((ns1.length : Int) - 1 + (i : Int) * -1).toNat = ns1.length - 1 - i := by omega
    have hlen := D.len
    have hrl := D.rest_lt h0
    have hbits := bits_of (k := 1) hrl.1 (by omega) hB.2 (by decide) (by rw [Int.pow_one]; omega)
    have hx := hg1.getD (show ns1.length - 1 - i < ns1.length by omega)
    have hor := bit_or (k := wd.toNat) hrl.1 hx.1 hx.2
    rw [← hp] at hor
    have D' := D.step h0 (by omega) hg1 hi hp
    walk_at "my steps"
    rename Fr _ _ _ _ => F'
    rename News _ _ _ _ => N'
    simp only [hor, fdiv_pos (Int.le_of_lt h0), fmod_pos (Int.le_of_lt h0)] at F' N'
    exact TEnd.next ⟨l', _, _, _, _, _⟩ F' N' (hn1 (by k_memK) hn0) (has_tail has_refl) (by exact hoff) (hk1 rfl <| hk1 rfl <| hk1 rfl <| hk1 rfl <| hk1 rfl hk0) ⟨ints_set hfi _, D'⟩
  · rintro ⟨l', fvs, fs, fn, rest, t3⟩ u h tk' ⟨hfi, D⟩ F N
    dsimp only at F N hfi D
    have hlen := D.len
    obtain ⟨gf, hv, hr⟩ := D.done
    dsimp only
    walk_at "my steps"
    have hq := lim_of_nrm gf (by assumption)
    rw [hv] at hq
    exact ret.out (by assumption) (by assumption) (by k_memK) (by k_memK) (by assumption) hq hr
theorem c_divrem_limb' {w : World} {A : Around} {s : Shared} {Q E} {l1 : Addr} {vs1 : List Value} {ns1 : List Int} {limb wd x : Int} {t1 t : Tok}
    (W : Wd w s.heap) (R : Room A 2) (hw : 2 ≤ wd) (hw9 : wd ≤ 9) (hl1 : s.heap.IsList l1 vs1.toArray) (hi1 : IntsAre vs1 ns1) (h : Lim (2 ^ wd.toNat) x ns1) (hx : x < (2 ^ wd.toNat) ^ 200)
    (h0 : 0 < limb) (h1 : limb < 2 ^ wd.toNat) (ret : RetLI Q s (Lim (2 ^ wd.toNat) (x / limb)) (x % limb)) :
    wpAny (model PG w) A (call (.ref 93) [.ref l1, .int limb t1, .int wd t]) Q E s := by
  have hB := wid_pow hw hw9
  refine c_divrem_limb W R hw hw9 hl1 hi1 (Nat.lt_of_le_of_lt (h.len_le (by omega) hx) (by decide)) h.good h0 h1 ?_
  rw [h.worth]; exact ret
end
end
local macro_rules | `(tactic| walk_at "call ref") => `(tactic| ((with_reducible show wpAny _ _ (call (Value.ref 93) _) _ _ _); (rename Fr _ _ _ _ => lF'); (rename News _ _ _ _ => lN'); refine' c_divrem_limb' (Wd.fr (by assumption) lF') (room_in (by omega) (by omega)) (by assumption) (by assumption) ?l ?i ?g ?x ?a ?b (RetLI.framed lF' lN' ?_); (case l => is_list); (case i => assumption); (case g => assumption); (case x => assumption); (case a => omega); (case b => omega); (intro T9 q9 v9 n9 k9 t9 h9 tk9 F9 N9 hT9 hq9 i9 r9); k_sweep))
section
namespace C100
structure St where
  x : Int
  t : Tok
end C100
section
theorem c_plain_of {w : World} {A : Around} {s : Shared} {Q E} {l : Addr} {vs : List Value} {ns : List Int} {wd : Int} {t2 : Tok}
    (W : Wd w s.heap) (R : Room A 1) (hw : 2 ≤ wd) (hw9 : wd ≤ 9) (hl : s.heap.IsList l vs.toArray) (hi : IntsAre vs ns) (hlen : ns.length ≤ 1000)
    (hg : Good (2 ^ wd.toNat) ns) (ret : RetI Q s (val (2 ^ wd.toNat) ns)) :
    wpAny (model PG w) A (call (.ref 100) [.ref l, .int wd t2]) Q E s := by
  have hB := wid_pow hw hw9
  have X := W.X
  obtain ⟨mean, mg, mb, T⟩ := W.T
  obtain ⟨hhA, hdA, huA⟩ := R
  obtain ⟨ha, dp, fr, gd, un⟩ := A
  dsimp only at hhA hdA huA
  subst hhA
  refine enter (binds := [(Str.ofString "a", .ref l), (Str.ofString "w", .int wd t2)]) X T.nolimit (by k_is) (by k_is) (by show dp < 1000; omega) (BindsTo.of_eq rfl) (locs rfl) rfl rfl rfl (by decide) ?_
  intro L h₁ tk F N
  walk_at "my steps"
  refine unstop ?_
  rename Fr _ _ _ _ => F'
  rename News _ _ _ _ => N'
  refine forM (σ := C100.St) (fun c => [(Str.ofString "found", .int c.x c.t), (Str.ofString "w", .int wd t2)]) (fun c => [])
    (fun i c => c.x = val (2 ^ wd.toNat) (ns.reverse.take i).reverse) ⟨0, _⟩ rfl (by assumption) F' N' (.head _) hn0 (fun _ h => nomatch h) (hk1 rfl <| hk1 rfl hk0) ?_ ?_ ?_
  · simp
  · rintro i k t ⟨x, t3⟩ u h tk' own hk hx hoff F N
    dsimp only at F N hx
    have hb := num_bound (by omega) hg.reverse i
    rw [← hx, List.length_reverse] at hb
    have hbits := bits_of hb.1 (by omega) hB.2 hlen hb.2
    have hst := num_step (B := 2 ^ wd.toNat) hk
    rw [← hx] at hst
    simp only [List.nil_append] at N
    walk_at "my steps"
    rename Fr _ _ _ _ => F'
    rename News _ _ _ _ => N'
    exact TEnd.next ⟨_, _⟩ F' N' hn0 has_refl (by exact hoff) (hk1 rfl <| hk1 rfl hk0) hst
  · rintro ⟨x, t3⟩ u h tk' hx F N
    dsimp only at F N hx
    rw [List.take_length, List.reverse_reverse] at hx
    dsimp only
    walk_at "my steps"
    exact ret.out (by assumption) hx
theorem c_plain_of' {w : World} {A : Around} {s : Shared} {Q E} {l : Addr} {vs : List Value} {ns : List Int} {wd x : Int} {t2 : Tok}
    (W : Wd w s.heap) (R : Room A 1) (hw : 2 ≤ wd) (hw9 : wd ≤ 9) (hl : s.heap.IsList l vs.toArray) (hi : IntsAre vs ns) (h : Lim (2 ^ wd.toNat) x ns) (hx : x < (2 ^ wd.toNat) ^ 200)
    (ret : RetI Q s x) : wpAny (model PG w) A (call (.ref 100) [.ref l, .int wd t2]) Q E s := by
  have hB := wid_pow hw hw9
  exact c_plain_of W R hw hw9 hl hi (Nat.le_trans (h.len_le (by omega) hx) (by decide)) h.good (h.worth.symm ▸ ret)
end
end
local macro_rules | `(tactic| walk_at "call ref") => `(tactic| ((with_reducible show wpAny _ _ (call (Value.ref 100) _) _ _ _); (rename Fr _ _ _ _ => lF'); (rename News _ _ _ _ => lN'); refine' c_plain_of' (Wd.fr (by assumption) lF') (room_in (by omega) (by omega)) (by assumption) (by assumption) ?l ?i ?g ?x (RetI.framed lF' lN' ?_); (case l => is_list); (case i => assumption); (case g => assumption); (case x => assumption); (intro t9 h9 tk9 F9 N9); k_sweep))
section
section
theorem c_check_base {w : World} {A : Around} {s : Shared} {Q E} {base : Int} {t1 : Tok}
    (W : Wd w s.heap) (R : Room A 1) (h0 : 2 ≤ base) (ret : RetN Q s) :
    wpAny (model PG w) A (call (.ref 107) [.int base t1]) Q E s := by
  have X := W.X
  obtain ⟨mean, mg, mb, T⟩ := W.T
  obtain ⟨hhA, hdA, huA⟩ := R
  obtain ⟨ha, dp, fr, gd, un⟩ := A
  dsimp only at hhA hdA huA
  subst hhA
  refine enter (binds := [(Str.ofString "base", .int base t1)]) X T.nolimit (by k_is) (by k_is) (by show dp < 1000; omega) (BindsTo.of_eq rfl) (locs rfl) rfl rfl rfl (by decide) ?_
  intro L h₁ tk F N
  walk_at "my steps"
  exact ret.out (by assumption)
end
end
local macro_rules | `(tactic| walk_at "call ref") => `(tactic| ((with_reducible show wpAny _ _ (call (Value.ref 107) _) _ _ _); (rename Fr _ _ _ _ => lF'); (rename News _ _ _ _ => lN'); refine' c_check_base (Wd.fr (by assumption) lF') (room_in (by omega) (by omega)) ?a (RetN.framed lF' lN' ?_); (case a => omega); (intro h9 tk9 F9 N9); k_sweep))
section
namespace C210
structure St where
  l : Addr
  vs : List Value
  fs : List Int
  n : Nat
  num : Int
  tn : Tok
end C210
section
theorem c_law_limbs {w : World} {A : Around} {s : Shared} {Q E} {number wd : Int} {t1 t2 : Tok} {K : Nat}
    (W : Wd w s.heap) (R : Room A 1) (hw : 2 ≤ wd) (hw9 : wd ≤ 9) (h0 : 0 ≤ number) (hK : number < (2 ^ wd.toNat) ^ K) (hK5 : K ≤ 500)
    (ret : RetR Q s (Lim (2 ^ wd.toNat) number)) :
    wpAny (model PG w) A (call (.ref 210) [.int number t1, .int wd t2]) Q E s := by
  have hB := wid_pow hw hw9
  have X := W.X
  obtain ⟨mean, mg, mb, T⟩ := W.T
  obtain ⟨hhA, hdA, huA⟩ := R
  obtain ⟨ha, dp, fr, gd, un⟩ := A
  dsimp only at hhA hdA huA
  subst hhA
  refine enter (binds := [(Str.ofString "n", .int number t1), (Str.ofString "w", .int wd t2)]) X T.nolimit (by k_is) (by k_is) (by show dp < 1000; omega) (BindsTo.of_eq rfl) (locs rfl) rfl rfl rfl (by decide) ?_
  intro L h₁ tk F N
  walk_at "my steps"
  refine unstop ?_
  rename Fr _ _ _ _ => F'
  rename News _ _ _ _ => N'
  refine whileW (σ := C210.St) (fun c => [(Str.ofString "found", .ref c.l), (Str.ofString "n", .int c.num c.tn), (Str.ofString "w", .int wd t2)])
    (fun c => [(c.l, PySem.W.listOf c.vs.toArray c.n)])
    (fun c => IntsAre c.vs c.fs ∧ Split (2 ^ wd.toNat) number c.fs c.num) (fun c => c.num.toNat)
    ⟨_, [], [], 0, number, _⟩ F' N' (hn1 (by k_memK) hn0) (hk1 rfl <| hk1 rfl <| hk1 rfl hk0) ?_ ?_ ?_
  · exact ⟨.nil, Split.start h0⟩
  · rintro ⟨l', fvs, fs, fn, num, tn⟩ u h tk' ⟨hfi, S⟩ F N
    dsimp only at F N hfi S
    have hln := fun hr => S.len (by omega) hr hK
    by_cases hr : 0 < num
    · have hlen := hln hr
      clear hln
      have S' := S.step (by omega) hr
      have hm := ediv_less (B := 2 ^ wd.toNat) (by omega) hr
      have hn0 := S.rest0
      walk_at "my steps"
      rename Fr _ _ _ _ => F'
      rename News _ _ _ _ => N'
      simp only [List.push_toArray, Int.one_mul, fmod_pos (show (0:Int) ≤ 2 ^ wd.toNat by omega)] at N'
      rw [fdiv_pos (by omega)] at F'
      exact WEnd.next ⟨l', _, _, _, _, _⟩ F' N' (hn1 (by k_memK) Mine.hn0) (hk1 rfl <| hk1 rfl <| hk1 rfl hk0) ⟨hfi.append (.cons _ _ .nil), S'⟩ (by dsimp only; omega)
    · clear hln
      walk_at "my steps"
      exact ret.out (by assumption) (by assumption) (by k_memK) hfi (S.done (by omega))
  · passes_own
end
end
local macro_rules | `(tactic| walk_at "call ref") => `(tactic| ((with_reducible show wpAny _ _ (call (Value.ref 210) _) _ _ _); (rename Fr _ _ _ _ => lF'); (rename News _ _ _ _ => lN'); refine' c_law_limbs (Wd.fr (by assumption) lF') (room_in (by omega) (by omega)) (by assumption) (by assumption) ?a ?k ?m (RetR.framed lF' lN' ?_); (case a => first | assumption | omega); (case k => assumption); (case m => first | assumption | decide); (intro r9 vs9 n9 ns9 h9 tk9 F9 N9 hne9 hi9 hr9); k_sweep))
section
namespace C217
structure St where
  x : Int
  t : Tok
end C217
section
theorem c_law_number {w : World} {A : Around} {s : Shared} {Q E} {l : Addr} {vs : List Value} {ns : List Int} {wd : Int} {t2 : Tok}
    (W : Wd w s.heap) (R : Room A 1) (hw : 2 ≤ wd) (hw9 : wd ≤ 9) (hl : s.heap.IsList l vs.toArray) (hi : IntsAre vs ns) (hlen : ns.length ≤ 1000)
    (hg : Good (2 ^ wd.toNat) ns) (ret : RetI Q s (val (2 ^ wd.toNat) ns)) :
    wpAny (model PG w) A (call (.ref 217) [.ref l, .int wd t2]) Q E s := by
  have hB := wid_pow hw hw9
  have X := W.X
  obtain ⟨mean, mg, mb, T⟩ := W.T
  obtain ⟨hhA, hdA, huA⟩ := R
  obtain ⟨ha, dp, fr, gd, un⟩ := A
  dsimp only at hhA hdA huA
  subst hhA
  refine enter (binds := [(Str.ofString "a", .ref l), (Str.ofString "w", .int wd t2)]) X T.nolimit (by k_is) (by k_is) (by show dp < 1000; omega) (BindsTo.of_eq rfl) (locs rfl) rfl rfl rfl (by decide) ?_
  intro L h₁ tk F N
  walk_at "my steps"
  refine unstop ?_
  rename Fr _ _ _ _ => F'
  rename News _ _ _ _ => N'
  refine forM (σ := C217.St) (fun c => [(Str.ofString "found", .int c.x c.t), (Str.ofString "w", .int wd t2)]) (fun c => [])
    (fun i c => c.x = val (2 ^ wd.toNat) (ns.reverse.take i).reverse) ⟨0, _⟩ rfl (by assumption) F' N' (.head _) hn0 (fun _ h => nomatch h) (hk1 rfl <| hk1 rfl hk0) ?_ ?_ ?_
  · simp
  · rintro i k t ⟨x, t3⟩ u h tk' own hk hx hoff F N
    dsimp only at F N hx
    have hb := num_bound (by omega) hg.reverse i
    rw [← hx, List.length_reverse] at hb
    have hbits := bits_of hb.1 (by omega) hB.2 hlen hb.2
    have hst := num_step (B := 2 ^ wd.toNat) hk
    rw [← hx] at hst
    simp only [List.nil_append] at N
    walk_at "my steps"
    rename Fr _ _ _ _ => F'
    rename News _ _ _ _ => N'
    exact TEnd.next ⟨_, _⟩ F' N' hn0 has_refl (by exact hoff) (hk1 rfl <| hk1 rfl hk0) hst
  · rintro ⟨x, t3⟩ u h tk' hx F N
    dsimp only at F N hx
    rw [List.take_length, List.reverse_reverse] at hx
    dsimp only
    walk_at "my steps"
    exact ret.out (by assumption) hx
theorem c_law_number' {w : World} {A : Around} {s : Shared} {Q E} {l : Addr} {vs : List Value} {ns : List Int} {wd x : Int} {t2 : Tok}
    (W : Wd w s.heap) (R : Room A 1) (hw : 2 ≤ wd) (hw9 : wd ≤ 9) (hl : s.heap.IsList l vs.toArray) (hi : IntsAre vs ns) (h : Lim (2 ^ wd.toNat) x ns) (hx : x < (2 ^ wd.toNat) ^ 200)
    (ret : RetI Q s x) : wpAny (model PG w) A (call (.ref 217) [.ref l, .int wd t2]) Q E s := by
  have hB := wid_pow hw hw9
  exact c_law_number W R hw hw9 hl hi (Nat.le_trans (h.len_le (by omega) hx) (by decide)) h.good (h.worth.symm ▸ ret)
end
end
local macro_rules | `(tactic| walk_at "call ref") => `(tactic| ((with_reducible show wpAny _ _ (call (Value.ref 217) _) _ _ _); (rename Fr _ _ _ _ => lF'); (rename News _ _ _ _ => lN'); refine' c_law_number' (Wd.fr (by assumption) lF') (room_in (by omega) (by omega)) (by assumption) (by assumption) ?l ?i ?g ?x (RetI.framed lF' lN' ?_); (case l => is_list); (case i => assumption); (case g => assumption); (case x => assumption); (intro t9 h9 tk9 F9 N9); k_sweep))
section
section
local macro_rules | `(tactic| walk_at "call ref") => `(tactic| ((with_reducible show wpAny _ _ (call (Value.ref 217) _) _ _ _); (rename Fr _ _ _ _ => lF'); (rename News _ _ _ _ => lN'); refine' c_law_number (Wd.fr (by assumption) lF') (room_in (by omega) (by omega)) (by assumption) (by assumption) ?l ?i ?n ?g (RetI.framed lF' lN' ?_); (case l => is_list); (case i => assumption); (case n => assumption); (case g => assumption); (intro t9 h9 tk9 F9 N9); k_sweep))
theorem c_law_divrem {w : World} {A : Around} {s : Shared} {Q E} {l1 l2 : Addr} {vs1 vs2 : List Value} {ns1 ns2 : List Int} {wd : Int} {t : Tok}
    (W : Wd w s.heap) (R : Room A 2) (hw : 2 ≤ wd) (hw9 : wd ≤ 9) (hl1 : s.heap.IsList l1 vs1.toArray) (hi1 : IntsAre vs1 ns1) (hlen1 : ns1.length ≤ 450) (hg1 : Good (2 ^ wd.toNat) ns1)
    (hl2 : s.heap.IsList l2 vs2.toArray) (hi2 : IntsAre vs2 ns2) (hlen2 : ns2.length ≤ 450) (hg2 : Good (2 ^ wd.toNat) ns2)
    (h0 : 0 < val (2 ^ wd.toNat) ns2)
    (ret : RetLL Q s (Lim (2 ^ wd.toNat) (val (2 ^ wd.toNat) ns1 / val (2 ^ wd.toNat) ns2)) (Lim (2 ^ wd.toNat) (val (2 ^ wd.toNat) ns1 % val (2 ^ wd.toNat) ns2))) :
    wpAny (model PG w) A (call (.ref 231) [.ref l1, .ref l2, .int wd t]) Q E s := by
  have hB := wid_pow hw hw9
  have hn1 := hg1.nonneg (by omega)
  have hx1 := hg1.lt (by omega)
  have hx2 := hg2.lt (by omega)
  have hlog := log_of (Int.le_of_lt h0) (by omega) hB.2 (by omega) hx2
  have hne : val (2 ^ wd.toNat) ns2 ≠ 0 := by omega
  have hq0 : 0 ≤ (val (2 ^ wd.toNat) ns1).fdiv (val (2 ^ wd.toNat) ns2) := by rw [fdiv_pos (by omega)]; exact Int.ediv_nonneg hn1 (by omega)
  have hr0 : 0 ≤ (val (2 ^ wd.toNat) ns1).fmod (val (2 ^ wd.toNat) ns2) := by rw [fmod_pos (by omega)]; exact Int.emod_nonneg _ hne
  have hqK : (val (2 ^ wd.toNat) ns1).fdiv (val (2 ^ wd.toNat) ns2) < (2 ^ wd.toNat) ^ ns1.length := by
    rw [fdiv_pos (by omega)]; exact Int.lt_of_le_of_lt (Int.ediv_le_self _ hn1) hx1
  have hrK : (val (2 ^ wd.toNat) ns1).fmod (val (2 ^ wd.toNat) ns2) < (2 ^ wd.toNat) ^ ns2.length := by
    rw [fmod_pos (by omega)]; exact Int.lt_trans (Int.emod_lt_of_pos _ h0) hx2
  have hlen1' : ns1.length ≤ 1000 := by omega
  have hlen2' : ns2.length ≤ 1000 := by omega
  have hlen1'' : ns1.length ≤ 500 := by omega
  have hlen2'' : ns2.length ≤ 500 := by omega
  have X := W.X
  obtain ⟨mean, mg, mb, T⟩ := W.T
  obtain ⟨hhA, hdA, huA⟩ := R
  obtain ⟨ha, dp, fr, gd, un⟩ := A
  dsimp only at hhA hdA huA
  subst hhA
  refine enter (binds := [(Str.ofString "a", .ref l1), (Str.ofString "b", .ref l2), (Str.ofString "w", .int wd t)]) X T.nolimit (by k_is) (by k_is) (by show dp < 1000; omega) (BindsTo.of_eq rfl) (locs rfl) rfl rfl rfl (by decide) ?_
  intro L h₁ tk F N
  walk_at "my steps"
  rename Lim _ (Int.fdiv _ _) _ => hq
  rename Lim _ (Int.fmod _ _) _ => hr
  rw [fdiv_pos (by omega)] at hq
  rw [fmod_pos (by omega)] at hr
  exact ret.out (by assumption) (by assumption) (by k_memK) (by k_memK) (by k_memK) (by assumption) (by assumption) hq hr
theorem c_law_divrem' {w : World} {A : Around} {s : Shared} {Q E} {l1 l2 : Addr} {vs1 vs2 : List Value} {ns1 ns2 : List Int} {wd x y : Int} {t : Tok}
    (W : Wd w s.heap) (R : Room A 2) (hw : 2 ≤ wd) (hw9 : wd ≤ 9) (hl1 : s.heap.IsList l1 vs1.toArray) (hi1 : IntsAre vs1 ns1) (h1 : Lim (2 ^ wd.toNat) x ns1) (hx : x < (2 ^ wd.toNat) ^ 200)
    (hl2 : s.heap.IsList l2 vs2.toArray) (hi2 : IntsAre vs2 ns2) (h2 : Lim (2 ^ wd.toNat) y ns2) (hy : y < (2 ^ wd.toNat) ^ 200) (hy0 : 0 < y)
    (ret : RetLL Q s (Lim (2 ^ wd.toNat) (x / y)) (Lim (2 ^ wd.toNat) (x % y))) : wpAny (model PG w) A (call (.ref 231) [.ref l1, .ref l2, .int wd t]) Q E s := by
  have hB := wid_pow hw hw9
  refine c_law_divrem W R hw hw9 hl1 hi1 (Nat.le_trans (h1.len_le (by omega) hx) (by decide)) h1.good hl2 hi2 (Nat.le_trans (h2.len_le (by omega) hy) (by decide)) h2.good ?_ ?_
  · rw [h2.worth]; exact hy0
  · rw [h1.worth, h2.worth]; exact ret
end
end
local macro_rules | `(tactic| walk_at "call ref") => `(tactic| ((with_reducible show wpAny _ _ (call (Value.ref 231) _) _ _ _); (rename Fr _ _ _ _ => lF'); (rename News _ _ _ _ => lN'); refine' c_law_divrem' (Wd.fr (by assumption) lF') (room_in (by omega) (by omega)) (by assumption) (by assumption) ?l ?i ?g ?x ?l2 ?i2 ?g2 ?x2 ?p (RetLL.framed lF' lN' ?_); (case l => is_list); (case i => assumption); (case l2 => is_list); (case i2 => assumption); (case g => assumption); (case g2 => assumption); (case x => assumption); (case x2 => assumption); (case p => first | assumption | omega); (intro T9 q9 v9 n9 k9 r9 v8 n8 k8 h9 tk9 F9 N9 hT9 hq9 hr7 i9 i8 r9 r8); k_sweep))
local macro_rules | `(tactic| walk_at "no such key") => `(tactic| fail "none")
section
section
theorem c_digit_off {w : World} {A : Around} {s : Shared} {Q E} {l1 : Addr} {vs1 : List Value} {ns1 : List Int} {base wd x : Int} {t1 t : Tok}
    (W : Wd w s.heap) (R : Room A 4) (hw : 2 ≤ wd) (hw9 : wd ≤ 9) (hl1 : s.heap.IsList l1 vs1.toArray) (hi1 : IntsAre vs1 ns1) (h : Lim (2 ^ wd.toNat) x ns1) (hx : x < (2 ^ wd.toNat) ^ 200)
    (h0 : 2 ≤ base) (h1 : base ≤ 4000) (ret : RetLI Q s (Lim (2 ^ wd.toNat) (x / base)) (x % base)) :
    wpAny (model PG w) A (call (.ref 114) [.ref l1, .int base t1, .int wd t, .ref 231]) Q E s := by
  have hB := wid_pow hw hw9
  have hb6 : base < (2 ^ wd.toNat) ^ 6 := Int.lt_of_lt_of_le (by omega) (pow_ge4 hB.1 (Nat.le_refl 6))
  have hb200 : base < (2 ^ wd.toNat) ^ 200 := Int.lt_of_lt_of_le hb6 (pow_le_pow (by omega) (by decide))
  have hr200 : x % base < (2 ^ wd.toNat) ^ 200 := Int.lt_trans (Int.emod_lt_of_pos _ (by omega)) hb200
  have X := W.X
  obtain ⟨mean, mg, mb, T⟩ := W.T
  obtain ⟨hhA, hdA, huA⟩ := R
  obtain ⟨ha, dp, fr, gd, un⟩ := A
  dsimp only at hhA hdA huA
  subst hhA
  refine enter (binds := [(Str.ofString "a", .ref l1), (Str.ofString "base", .int base t1), (Str.ofString "w", .int wd t), (Str.ofString "divrem", .ref 231)]) X T.nolimit (by k_is) (by k_is) (by show dp < 1000; omega) (BindsTo.of_eq rfl) (locs rfl) rfl rfl rfl (by decide) ?_
  intro L h₁ tk F N
  walk_at "my steps"
  · exact ret.out (by assumption) (by assumption) (by k_memK) (by k_memK) (by assumption) (by assumption) rfl
  · exact ret.out (by assumption) (by assumption) (by k_memK) (by k_memK) (by assumption) (by assumption) rfl
end
end
local macro_rules | `(tactic| walk_at "call ref") => `(tactic| ((with_reducible show wpAny _ _ (call (Value.ref 114) _) _ _ _); (rename Fr _ _ _ _ => lF'); (rename News _ _ _ _ => lN'); refine' c_digit_off (Wd.fr (by assumption) lF') (room_in (by omega) (by omega)) (by assumption) (by assumption) ?l ?i ?g ?x ?a ?b (RetLI.framed lF' lN' ?_); (case l => is_list); (case i => assumption); (case g => assumption); (case x => assumption); (case a => omega); (case b => omega); (intro T9 q9 v9 n9 k9 t9 h9 tk9 F9 N9 hT9 hq9 i9 r9); k_sweep))
section
namespace C121
structure St where
  l : Addr
  vs : List Value
  fs : List Int
  n : Nat
  la : Addr
  va : List Value
  na : List Int
  ex : List (Addr × Obj)
  x : Int
end C121
section
theorem c_digits_plain {w : World} {A : Around} {s : Shared} {Q E} {l1 : Addr} {vs1 : List Value} {ns1 : List Int} {base wd x0 : Int} {t1 t : Tok}
    (W : Wd w s.heap) (R : Room A 5) (hw : 2 ≤ wd) (hw9 : wd ≤ 9) (hl1 : s.heap.IsList l1 vs1.toArray) (hi1 : IntsAre vs1 ns1) (h : Lim (2 ^ wd.toNat) x0 ns1) (hx : x0 < (2 ^ wd.toNat) ^ 200)
    (h0 : 2 ≤ base) (h1 : base ≤ 4000) (ret : RetR Q s fun r => Lim base x0 r.reverse) :
    wpAny (model PG w) A (call (.ref 121) [.ref l1, .int base t1, .int wd t, .ref 231]) Q E s := by
  have hB := wid_pow hw hw9
  have hx0 := h.nonneg (by omega)
  have hK := pow_512 (by omega) hB.2 hx h0
  have X := W.X
  obtain ⟨mean, mg, mb, T⟩ := W.T
  obtain ⟨hhA, hdA, huA⟩ := R
  obtain ⟨ha, dp, fr, gd, un⟩ := A
  dsimp only at hhA hdA huA
  subst hhA
  refine enter (binds := [(Str.ofString "a", .ref l1), (Str.ofString "base", .int base t1), (Str.ofString "w", .int wd t), (Str.ofString "divrem", .ref 231)]) X T.nolimit (by k_is) (by k_is) (by show dp < 1000; omega) (BindsTo.of_eq rfl) (locs rfl) rfl rfl rfl (by decide) ?_
  intro L h₁ tk F N
  walk_at "my steps"
  refine unstop ?_
  rename Fr _ _ _ _ => F'
  rename News _ _ _ _ => N'
  refine whileW (σ := C121.St) (fun c => [(Str.ofString "found", .ref c.l), (Str.ofString "a", .ref c.la), (Str.ofString "base", .int base t1), (Str.ofString "w", .int wd t), (Str.ofString "divrem", .ref 231)])
    (fun c => (c.l, PySem.W.listOf c.vs.toArray c.n) :: c.ex)
    (fun c => IntsAre c.vs c.fs ∧ At s.heap c.ex c.la c.va ∧ IntsAre c.va c.na ∧ Lim (2 ^ wd.toNat) c.x c.na ∧ c.x ≤ x0 ∧ (∀ p ∈ c.ex, p.1 ≠ c.l) ∧ Split base x0 c.fs c.x) (fun c => c.x.toNat)
    ⟨_, [], [], 0, l1, vs1, ns1, [], x0⟩ F' N' (hn1 (by k_memK) hn0) (hk1 rfl <| hk1 rfl <| hk1 rfl <| hk1 rfl <| hk1 rfl hk0) ?_ ?_ ?_
  · exact ⟨.nil, .inl hl1, hi1, h, Int.le_refl _, fun _ h => (nomatch h), Split.start hx0⟩
  · rintro ⟨l', fvs, fs, fn, la, va, na, ex, x⟩ u h tk' ⟨hfi, hat, hia, hla, hxx, hex, S⟩ F N
    dsimp only at F N hfi hat hia hla hxx hex S
    have hcur : h.IsList la va.toArray := hat.get F N fun p hp => .tail _ hp
    have hx200 : x < (2 ^ wd.toNat) ^ 200 := Int.lt_of_le_of_lt hxx hx
    have hlen : na.length ≤ 200 := hla.len_le (by omega) hx200
    have hfl := hfi.length
    by_cases hr : 0 < x
    · have hne : 0 < na.length := List.length_pos_iff.mpr (by rintro rfl; have := hla.worth; simp at this; omega)
      have hsl := S.len (by omega) hr hK
      have S' := S.step (by omega) hr
      have hm := ediv_less (B := base) (by omega) hr
      walk_at "my steps"
      rename Fr _ _ _ _ => F'
      rename News _ _ _ _ => N'
      simp only [List.push_toArray] at N'
      rename Lim _ (x / base) _ => hq
      exact WEnd.next ⟨l', _, _, _, _, _, _, [(_, PySem.W.listOf _ _)], _⟩ F' N' (hn1 (by k_memK) <| hn1 (by k_memK) hn0) (hk1 rfl <| hk1 rfl <| hk1 rfl <| hk1 rfl <| hk1 rfl hk0)
        ⟨hfi.append (.cons _ _ .nil), .inr ⟨_, .head _⟩, by assumption, hq, by dsimp only; omega, one_ne (by k_ne), S'⟩ (by dsimp only; omega)
    · have hnil := hla.eq_nil (by omega) (by omega)
      have hdn := S.done (by omega)
      have hne : na.length = 0 := by rw [hnil]; rfl
      have hfz : fs.length ≤ 1800 := hdn.len_le (by omega) hK
      walk_at "my steps"
      rename Fr _ _ _ _ => F'
      rename News _ _ _ _ => N'
      simp only [List.toList_toArray] at N'
      exact ret.out F' N' (by k_memK) hfi.reverse (by rw [List.reverse_reverse]; exact hdn)
  · passes_own
end
end
local macro_rules | `(tactic| walk_at "call ref") => `(tactic| ((with_reducible show wpAny _ _ (call (Value.ref 121) _) _ _ _); (rename Fr _ _ _ _ => lF'); (rename News _ _ _ _ => lN'); refine' c_digits_plain (Wd.fr (by assumption) lF') (room_in (by omega) (by omega)) (by assumption) (by assumption) ?l ?i ?g ?x ?a ?b (RetR.framed lF' lN' ?_); (case l => is_list); (case i => assumption); (case g => assumption); (case x => assumption); (case a => omega); (case b => omega); (intro r9 vs9 n9 ns9 h9 tk9 F9 N9 hne9 hi9 hr9); k_sweep))
section
section
local macro_rules | `(tactic| walk_at "call ref") => `(tactic| ((with_reducible show wpAny _ _ (call (Value.ref 217) _) _ _ _); (rename Fr _ _ _ _ => lF'); (rename News _ _ _ _ => lN'); refine' c_law_number (Wd.fr (by assumption) lF') (room_in (by omega) (by omega)) (by assumption) (by assumption) ?l ?i ?n ?g (RetI.framed lF' lN' ?_); (case l => is_list); (case i => assumption); (case n => assumption); (case g => assumption); (intro t9 h9 tk9 F9 N9); k_sweep))
theorem c_law_mul {w : World} {A : Around} {s : Shared} {Q E} {l1 l2 : Addr} {vs1 vs2 : List Value} {ns1 ns2 : List Int} {wd : Int} {t : Tok} {K : Nat}
    (W : Wd w s.heap) (R : Room A 2) (hw : 2 ≤ wd) (hw9 : wd ≤ 9) (hl1 : s.heap.IsList l1 vs1.toArray) (hi1 : IntsAre vs1 ns1) (hlen1 : ns1.length ≤ 900) (hg1 : Good (2 ^ wd.toNat) ns1)
    (hl2 : s.heap.IsList l2 vs2.toArray) (hi2 : IntsAre vs2 ns2) (hlen2 : ns2.length ≤ 900) (hg2 : Good (2 ^ wd.toNat) ns2)
    (hK : val (2 ^ wd.toNat) ns1 * val (2 ^ wd.toNat) ns2 < (2 ^ wd.toNat) ^ K) (hK5 : K ≤ 500)
    (ret : RetR Q s (Lim (2 ^ wd.toNat) (val (2 ^ wd.toNat) ns1 * val (2 ^ wd.toNat) ns2))) :
    wpAny (model PG w) A (call (.ref 224) [.ref l1, .ref l2, .int wd t]) Q E s := by
  have hB := wid_pow hw hw9
  have hn1 := hg1.nonneg (by omega)
  have hn2 := hg2.nonneg (by omega)
  have hb1 := bits_of hn1 (by omega) hB.2 (by omega) (hg1.lt (by omega))
  have hb2 := bits_of hn2 (by omega) hB.2 (by omega) (hg2.lt (by omega))
  have hnn := Int.mul_nonneg hn1 hn2
  have hlen1' : ns1.length ≤ 1000 := by omega
  have hlen2' : ns2.length ≤ 1000 := by omega
  have X := W.X
  obtain ⟨mean, mg, mb, T⟩ := W.T
  obtain ⟨hhA, hdA, huA⟩ := R
  obtain ⟨ha, dp, fr, gd, un⟩ := A
  dsimp only at hhA hdA huA
  subst hhA
  refine enter (binds := [(Str.ofString "a", .ref l1), (Str.ofString "b", .ref l2), (Str.ofString "w", .int wd t)]) X T.nolimit (by k_is) (by k_is) (by show dp < 1000; omega) (BindsTo.of_eq rfl) (locs rfl) rfl rfl rfl (by decide) ?_
  intro L h₁ tk F N
  walk_at "my steps"
  exact ret.out (by assumption) (by assumption) (by k_memK) (by assumption) (by assumption)
theorem c_law_mul' {w : World} {A : Around} {s : Shared} {Q E} {l1 l2 : Addr} {vs1 vs2 : List Value} {ns1 ns2 : List Int} {wd x y : Int} {t : Tok}
    (W : Wd w s.heap) (R : Room A 2) (hw : 2 ≤ wd) (hw9 : wd ≤ 9) (hl1 : s.heap.IsList l1 vs1.toArray) (hi1 : IntsAre vs1 ns1) (h1 : Lim (2 ^ wd.toNat) x ns1) (hx : x < (2 ^ wd.toNat) ^ 200)
    (hl2 : s.heap.IsList l2 vs2.toArray) (hi2 : IntsAre vs2 ns2) (h2 : Lim (2 ^ wd.toNat) y ns2) (hy : y < (2 ^ wd.toNat) ^ 200)
    (ret : RetR Q s (Lim (2 ^ wd.toNat) (x * y))) : wpAny (model PG w) A (call (.ref 224) [.ref l1, .ref l2, .int wd t]) Q E s := by
  have hB := wid_pow hw hw9
  have hx0 := h1.nonneg (by omega)
  have hy0 := h2.nonneg (by omega)
  have hp := pow_pos' (show 0 < (2 : Int) ^ wd.toNat by omega) 200
  refine c_law_mul (K := 400) W R hw hw9 hl1 hi1 (Nat.le_trans (h1.len_le (by omega) hx) (by decide)) h1.good hl2 hi2 (Nat.le_trans (h2.len_le (by omega) hy) (by decide)) h2.good ?_ (by decide) ?_
  · rw [h1.worth, h2.worth, show (400 : Nat) = 200 + 200 by rfl, Int.pow_add]
    exact Int.lt_of_le_of_lt (Int.mul_le_mul_of_nonneg_left (Int.le_of_lt hy) hx0) (Int.mul_lt_mul_of_pos_right hx hp)
  · rw [h1.worth, h2.worth]; exact ret
end
end
local macro_rules | `(tactic| walk_at "call ref") => `(tactic| ((with_reducible show wpAny _ _ (call (Value.ref 224) _) _ _ _); (rename Fr _ _ _ _ => lF'); (rename News _ _ _ _ => lN'); refine' c_law_mul' (Wd.fr (by assumption) lF') (room_in (by omega) (by omega)) (by assumption) (by assumption) ?l ?i ?g ?x ?l2 ?i2 ?g2 ?x2 (RetR.framed lF' lN' ?_); (case l => is_list); (case i => assumption); (case l2 => is_list); (case i2 => assumption); (case g => assumption); (case g2 => assumption); (case x => assumption); (case x2 => assumption); (intro r9 vs9 n9 ns9 h9 tk9 F9 N9 hne9 hi9 hr9); k_sweep))
local macro_rules | `(tactic| walk_at "no such key") => `(tactic| fail "none")
section
namespace C128
structure St where
  l : Addr
  vs : List Value
  n : Nat
  ex : List (Addr × Obj)
  lp : Addr
  vp : List Value
  pn : Nat
  np : List Int
end C128
section
theorem c_base_powers {w : World} {A : Around} {s : Shared} {Q E} {l1 : Addr} {vs1 : List Value} {ns1 : List Int} {base wd x0 : Int} {t1 t : Tok}
    (W : Wd w s.heap) (R : Room A 4) (hw : 2 ≤ wd) (hw9 : wd ≤ 9) (hl1 : s.heap.IsList l1 vs1.toArray) (hi1 : IntsAre vs1 ns1) (h : Lim (2 ^ wd.toNat) x0 ns1) (hx : x0 < (2 ^ wd.toNat) ^ 100)
    (h0 : 2 ≤ base) (h1 : base ≤ 4000) (ret : RetP Q s (2 ^ wd.toNat) base x0) :
    wpAny (model PG w) A (call (.ref 128) [.ref l1, .int base t1, .int wd t, .ref 224]) Q E s := by
  have hB := wid_pow hw hw9
  have hx200 : x0 < (2 ^ wd.toNat) ^ 200 := Int.lt_of_lt_of_le hx (pow_le_pow (by omega) (by decide))
  have hb6 : base < (2 ^ wd.toNat) ^ 6 := Int.lt_of_lt_of_le (by omega) (pow_ge4 hB.1 (Nat.le_refl 6))
  have hb200 : base < (2 ^ wd.toNat) ^ 200 := Int.lt_of_lt_of_le hb6 (pow_le_pow (by omega) (by decide))
  have hbK := pow_512 (by omega) hB.2 hx200 h0
  have X := W.X
  obtain ⟨mean, mg, mb, T⟩ := W.T
  obtain ⟨hhA, hdA, huA⟩ := R
  obtain ⟨ha, dp, fr, gd, un⟩ := A
  dsimp only at hhA hdA huA
  subst hhA
  refine enter (binds := [(Str.ofString "a", .ref l1), (Str.ofString "base", .int base t1), (Str.ofString "w", .int wd t), (Str.ofString "mul", .ref 224)]) X T.nolimit (by k_is) (by k_is) (by show dp < 1000; omega) (BindsTo.of_eq rfl) (locs rfl) rfl rfl rfl (by decide) ?_
  intro L h₁ tk F N
  walk_at "my steps"
  refine unstop ?_
  rename Fr _ _ _ _ => F'
  rename News _ _ _ _ => N'
  rename Lim _ base _ => hL0
  refine whileW (σ := C128.St) (fun c => [(Str.ofString "found", .ref c.l), (Str.ofString "power", .ref c.lp), (Str.ofString "a", .ref l1), (Str.ofString "w", .int wd t), (Str.ofString "mul", .ref 224)])
    (fun c => (c.l, PySem.W.listOf c.vs.toArray c.n) :: (c.lp, PySem.W.listOf c.vp.toArray c.pn) :: c.ex)
    (fun c => IntsAre c.vp c.np ∧ Lim (2 ^ wd.toNat) (base ^ (2 ^ c.vs.length)) c.np ∧ base ^ (2 ^ c.vs.length) < (2 ^ wd.toNat) ^ 200 ∧ PowIn c.ex (2 ^ wd.toNat) base c.vs ∧ @Ne Nat c.lp c.l ∧ (∀ p ∈ c.ex, p.1 ≠ c.l) ∧ c.vs.length ≤ 11)
    (fun c => (x0 + 1 - base ^ (2 ^ c.vs.length)).toNat)
    ⟨_, [], 0, [], _, _, _, rowOf hL0⟩ F' N' (hn1 (by k_memK) <| hn1 (by k_memK) hn0) (hk1 rfl <| hk1 rfl <| hk1 rfl <| hk1 rfl <| hk1 rfl hk0) ?_ ?_ ?_
  · exact ⟨by assumption, by simpa [Int.pow_one] using hL0, by simpa [Int.pow_one] using hb200, PowIn.nil, by dsimp only; k_ne, fun _ h => (nomatch h), Nat.zero_le _⟩
  · rintro ⟨l', fvs, fn, ex, lp, vp, pn, np⟩ u h tk' ⟨hip, hL, hp200, hP, hne, hex, hlen⟩ F N
    dsimp only at F N hip hL hp200 hP hne hex hlen
    have hp2 := sq_ge base h0 (2 ^ fvs.length) (Nat.one_le_two_pow)
    have hsz : fvs.length ≤ 12 := by omega
    walk_at "my steps"
    · rename cmpZ _ _ ≤ 0 => hc
      have hle := cmpZ_le.mp hc
      have hcnt := sq_count h0 hle hbK (by decide)
      have hp100 : base ^ (2 ^ fvs.length) < (2 ^ wd.toNat) ^ 100 := by omega
      rename Fr _ _ _ _ => F'
      rename News _ _ _ _ => N'
      rename Lim _ (_ * _) _ => hq
      have hpp := mul_lt_sq (by omega) hp100 (by omega) hp100
      rw [sq_step] at hq hpp
      rw [← Int.pow_add] at hpp
      have hms := sq_less hp2
      rw [sq_step] at hms
      simp only [List.push_toArray] at N'
      have hlen' : (fvs ++ [Value.ref lp]).length = fvs.length + 1 := by simp
      exact WEnd.next ⟨l', _, _, (lp, PySem.W.listOf _ _) :: ex, _, _, _, rowOf hq⟩ F' N' (hn1 (by k_memK) <| hn1 (by k_memK) <| hn1 (by k_memK) fun p hp => .tail _ (.tail _ (.tail _ hp))) (hk1 rfl <| hk1 rfl <| hk1 rfl <| hk1 rfl <| hk1 rfl hk0)
        ⟨by assumption, by rw [hlen']; exact hq, by rw [hlen']; exact hpp, (hP.mono fun p hp => .tail _ hp).snoc (.head _) hip hL hp200, (by k_ne), ne_cons hne hex, by rw [hlen']; omega⟩
        (by show (x0 + 1 - base ^ 2 ^ (fvs ++ [Value.ref lp]).length).toNat < (x0 + 1 - base ^ 2 ^ fvs.length).toNat; rw [hlen']; omega)
    · rename ¬ cmpZ _ _ ≤ 0 => hc
      have hlt : x0 < base ^ (2 ^ fvs.length) := by
        have := mt cmpZ_le.mpr hc
        omega
      exact ret.out (by assumption) (by assumption) (by k_memK) (fun p hp => .tail _ (.tail _ hp)) hP hlt hsz
  · passes_own
end
end
local macro_rules | `(tactic| walk_at "call ref") => `(tactic| ((with_reducible show wpAny _ _ (call (Value.ref 128) _) _ _ _); (rename Fr _ _ _ _ => lF'); (rename News _ _ _ _ => lN'); refine' c_base_powers (Wd.fr (by assumption) lF') (room_in (by omega) (by omega)) (by assumption) (by assumption) ?l ?i ?g ?x ?a ?b (RetP.framed lF' lN' ?_); (case l => is_list); (case i => assumption); (case g => assumption); (case x => assumption); (case a => omega); (case b => omega); (intro r9 vs9 k9 ex9 h9 tk9 F9 N9 hp9 hn9 hl9); k_sweep))
section
section
theorem c_with_noughts {w : World} {A : Around} {s : Shared} {Q E} {l1 : Addr} {vs1 : List Value} {ns1 : List Int} {many : Int} {t1 : Tok}
    (W : Wd w s.heap) (R : Room A 1) (hl1 : s.heap.IsList l1 vs1.toArray) (hi1 : IntsAre vs1 ns1) (hlen : ns1.length ≤ 5000) (h0 : 0 ≤ many) (h1 : many ≤ 5000)
    (ret : RetR Q s fun r => r = List.replicate (many - ns1.length).toNat 0 ++ ns1) :
    wpAny (model PG w) A (call (.ref 135) [.ref l1, .int many t1]) Q E s := by
  have X := W.X
  obtain ⟨mean, mg, mb, T⟩ := W.T
  obtain ⟨hhA, hdA, huA⟩ := R
  obtain ⟨ha, dp, fr, gd, un⟩ := A
  dsimp only at hhA hdA huA
  subst hhA
  refine enter (binds := [(Str.ofString "digits", .ref l1), (Str.ofString "many", .int many t1)]) X T.nolimit (by k_is) (by k_is) (by show dp < 1000; omega) (BindsTo.of_eq rfl) (locs rfl) rfl rfl rfl (by decide) ?_
  intro L h₁ tk F N
  walk_at "my steps"
  exact ret.out (by assumption) (by assumption) (by k_memK) (by assumption) (by rw [flat_rep])
end
end
local macro_rules | `(tactic| walk_at "call ref") => `(tactic| ((with_reducible show wpAny _ _ (call (Value.ref 135) _) _ _ _); (rename Fr _ _ _ _ => lF'); (rename News _ _ _ _ => lN'); refine' c_with_noughts (Wd.fr (by assumption) lF') (room_in (by omega) (by omega)) ?l ?i ?n ?a ?b (RetR.framed lF' lN' ?_); (case l => is_list); (case i => assumption); (case n => omega); (case a => omega); (case b => omega); (intro r9 vs9 n9 ns9 h9 tk9 F9 N9 hne9 hi9 hr9); k_sweep))
section
section
structure DBP (n : Nat) : Prop where
  run : ∀ {w : World} {A : Around} {s : Shared} {Q E} {l1 lp : Addr} {vs1 vs : List Value} {ns1 : List Int} {base wd least x : Int} {t1 t t3 : Tok},
    Wd w s.heap → Room A (n + 6) → 2 ≤ wd → wd ≤ 9 → s.heap.IsList l1 vs1.toArray → IntsAre vs1 ns1 → Lim (2 ^ wd.toNat) x ns1 → x < (2 ^ wd.toNat) ^ 200 →
    s.heap.IsList lp vs.toArray → PowH s.heap (2 ^ wd.toNat) base vs → vs.length = n → vs.length ≤ 12 → (0 < vs.length → x < base ^ (2 ^ vs.length)) → 2 ≤ base → base ≤ 4000 → RetR Q s (fun r => Lim base x r.reverse) →
    wpAny (model PG w) A (call (.ref 142) [.ref l1, .ref lp, .int base t1, .int wd t, .int least t3, .ref 231]) Q E s
local macro_rules | `(tactic| walk_at "call ref") => `(tactic| ((with_reducible show wpAny _ _ (call (Value.ref 142) _) _ _ _); refine stop ?_))
local macro_rules | `(tactic| walk_at "call ref") => `(tactic| ((with_reducible show wpAny _ _ (call (Value.ref 135) _) _ _ _); refine stop ?_))
local macro_rules | `(tactic| walk_at "noughts call") => `(tactic| ((rename Fr _ _ _ _ => lF'); (rename News _ _ _ _ => lN'); refine' c_with_noughts (Wd.fr (by assumption) lF') (room_in (by omega) (by omega)) ?l ?i ?n ?a ?b (RetR.framed lF' lN' ?_); (case l => is_list); (case i => assumption); (case n => omega); (case a => omega); (case b => omega); (intro r9 vs9 n9 ns9 h9 tk9 F9 N9 hne9 hi9 hr9); k_sweep))
local macro_rules | `(tactic| walk_at "rec call") => `(tactic| ((rename Fr _ _ _ _ => lF'); (rename News _ _ _ _ => lN'); (rename DBP _ => lI'); refine' DBP.run lI' (Wd.fr (by assumption) lF') (room_in (by omega) (by omega)) (by assumption) (by assumption) ?l ?i ?g ?x ?l2 ?p ?n ?z ?b ?c ?d (RetR.framed lF' lN' ?_); (case l => is_list); (case i => assumption); (case l2 => is_list); (case g => assumption); (case x => assumption); (case p => exact PowH.keeps (by assumption) (Fr.keep lF')); (case n => omega); (case z => omega); (case b => first | assumption | exact fun h9 => by assumption); (case c => omega); (case d => omega); (intro r9 vs9 n9 ns9 h9 tk9 F9 N9 hne9 hi9 hr9); k_sweep))
theorem dbp_step (n : Nat) (ih : ∀ m, m < n → DBP m) : DBP n := by
  constructor
  intro w A s Q E l1 lp vs1 vs ns1 base wd least x t1 t t3 W R hw hw9 hl1 hi1 h hx hlp hP hn hz hxb h0 h1 ret
  have hB := wid_pow hw hw9
  have hlen1 : ns1.length ≤ 200 := h.len_le (by omega) hx
  have hx0 := h.nonneg (by omega)
  have X := W.X
  obtain ⟨mean, mg, mb, T⟩ := W.T
  obtain ⟨hhA, hdA, huA⟩ := R
  obtain ⟨ha, dp, fr, gd, un⟩ := A
  dsimp only at hhA hdA huA
  subst hhA
  refine enter (binds := [(Str.ofString "a", .ref l1), (Str.ofString "powers", .ref lp), (Str.ofString "base", .int base t1), (Str.ofString "w", .int wd t), (Str.ofString "least", .int least t3), (Str.ofString "divrem", .ref 231)]) X T.nolimit (by k_is) (by k_is) (by show dp < 1000; omega) (BindsTo.of_eq rfl) (locs rfl) rfl rfl rfl (by decide) ?_
  intro L h₁ tk F N
  by_cases hv : 0 < vs.length
  · have hI := ih (n - 1) (by omega)
    have hxb' := hxb hv
    have hpp := sq_step base (vs.length - 1)
    rw [show vs.length - 1 + 1 = vs.length by omega] at hpp
    have hP0 := pow_pos' (show 0 < base by omega) (2 ^ (vs.length - 1))
    have hmany := two_pow_le (vs.length - 1) (by omega)
    have hmany0 := pow_pos' (show (0 : Int) < 2 by decide) (vs.length - 1)
    have htn : ((vs.length : Int) - 1).toNat = vs.length - 1 := by omega
    rw [← htn] at hmany hmany0
    have hq200 : x / base ^ 2 ^ (vs.length - 1) < (2 ^ wd.toNat) ^ 200 := Int.lt_of_le_of_lt (Int.ediv_le_self _ hx0) hx
    have hq := div_lt_sq hP0 (hpp.symm ▸ hxb')
    have hr := Int.emod_lt_of_pos x hP0
    clear ih hxb
    walk_at "my steps"
    · exact ret.out (by assumption) (by assumption) (by k_memK) (by assumption) (by assumption)
    · exact ret.out (by assumption) (by assumption) (by k_memK) (by assumption) (by assumption)
    · rename cmpZ _ _ < 0 => hc
      rename List.length (List.dropLast _) = _ => hdl
      have hb1 : 0 < vs.dropLast.length → x < base ^ 2 ^ vs.dropLast.length := fun _ => by rw [hdl]; exact cmpZ_neg.mp hc
      refine unstop ?_
      walk_at "rec call"
      walk_at "my steps"
      exact ret.out (by assumption) (by assumption) (by k_memK) (by assumption) (by assumption)
    · rename ¬ cmpZ _ _ < 0 => hc
      rename List.length (List.dropLast _) = _ => hdl
      have hge : base ^ 2 ^ (vs.length - 1) ≤ x := by
        have := mt cmpZ_neg.mpr hc
        omega
      have hq0 : 0 < x / base ^ 2 ^ (vs.length - 1) := by
        have h3 := div_join x (base ^ 2 ^ (vs.length - 1))
        have h2 := Int.ediv_nonneg hx0 (Int.le_of_lt hP0)
        rcases Int.lt_or_eq_of_le h2 with h2 | h2
        · exact h2
        · rw [← h2] at h3; simp at h3; omega
      have hr200 : x % base ^ 2 ^ (vs.length - 1) < (2 ^ wd.toNat) ^ 200 := Int.lt_trans hr (by assumption)
      have hb1 : 0 < vs.dropLast.length → x / base ^ 2 ^ (vs.length - 1) < base ^ 2 ^ vs.dropLast.length := fun _ => by rw [hdl]; exact hq
      have hb2 : 0 < vs.dropLast.length → x % base ^ 2 ^ (vs.length - 1) < base ^ 2 ^ vs.dropLast.length := fun _ => by rw [hdl]; exact hr
      refine unstop ?_
      walk_at "rec call"
      walk_at "my steps"
      refine unstop ?_
      walk_at "rec call"
      walk_at "my steps"
      rename Lim base (_ % _) (List.reverse _) => hlo
      rename Lim base (_ / _) (List.reverse _) => hhi
      have hll := hlo.len_le (by omega) hr
      rw [List.length_reverse] at hll
      have hml : 2 ^ (vs.length - 1) ≤ 2 ^ 11 := Nat.pow_le_pow_right (by decide) (by omega)
      refine unstop ?_
      walk_at "noughts call"
      have hhl := hhi.len_le (by omega) hq
      rw [List.length_reverse] at hhl
      rename _ = List.replicate _ 0 ++ _ => hns
      have hm2 : ((1 : Int) * 2 ^ ((vs.length : Int) - 1).toNat) = ((2 ^ (vs.length - 1) : Nat) : Int) := by
        rw [Int.one_mul, htn]; exact (Int.natCast_pow 2 _).symm
      rw [hm2] at hns
      have hnl := congrArg List.length hns
      rw [List.length_append, List.length_replicate] at hnl
      clear hmany hmany0 hm2
      walk_at "my steps"
      rename Fr _ _ _ _ => F'
      rename News _ _ _ _ => N'
      refine ret.out F' N' (by k_memK) (by assumption) ?_
      have hj := digits_join (by omega) hhi hlo hr hq0
      rw [div_join] at hj
      rw [hns, Int.toNat_sub]
      exact hj
  · clear ih
    obtain rfl : vs = [] := List.length_eq_zero_iff.mp (by omega)
    walk_at "my steps"
    · exact ret.out (by assumption) (by assumption) (by k_memK) (by assumption) (by assumption)
    · exact ret.out (by assumption) (by assumption) (by k_memK) (by assumption) (by assumption)
theorem dbp (n : Nat) : DBP n := by
  have all : ∀ k n, n < k → DBP n := by
    intro k
    induction k with
    | zero => intro n h; exact absurd h (Nat.not_lt_zero _)
    | succ k ih => exact fun n h => dbp_step n fun m hm => ih m (by omega)
  exact all (n + 1) n (Nat.lt_succ_self n)
end
end
local macro_rules | `(tactic| walk_at "call ref") => `(tactic| ((with_reducible show wpAny _ _ (call (Value.ref 142) _) _ _ _); (rename Fr _ _ _ _ => lF'); (rename News _ _ _ _ => lN'); refine' DBP.run (dbp _) (Wd.fr (by assumption) lF') ?r (by assumption) (by assumption) ?l ?i ?g ?x ?l2 ?p rfl ?z ?b ?c ?d (RetR.framed lF' lN' ?_); (case l => is_list); (case i => assumption); (case l2 => is_list); (case r => exact room_in (by first | omega | (simp only [List.length_nil]; omega)) (by first | omega | (simp only [List.length_nil]; omega))); (case g => assumption); (case x => assumption); (case p => first | exact PowH.nil | exact PowH.keeps (by assumption) (Fr.keep lF') | exact PowIn.at (by assumption) lN' (fun p hp => .tail _ (List.mem_append_left _ hp))); (case z => first | omega | exact Nat.zero_le _); (case b => first | assumption | exact fun h9 => by assumption | exact fun h9 => absurd h9 (Nat.lt_irrefl 0)); (case c => omega); (case d => omega); (intro r9 vs9 n9 ns9 h9 tk9 F9 N9 hne9 hi9 hr9); k_sweep))
section
section
theorem c_to_digits {w : World} {A : Around} {s : Shared} {Q E} {l1 : Addr} {vs1 : List Value} {ns1 : List Int} {base wd least x : Int} {t1 t t3 : Tok}
    (W : Wd w s.heap) (R : Room A 20) (hw : 2 ≤ wd) (hw9 : wd ≤ 9) (hl1 : s.heap.IsList l1 vs1.toArray) (hi1 : IntsAre vs1 ns1) (h : Lim (2 ^ wd.toNat) x ns1) (hx : x < (2 ^ wd.toNat) ^ 100)
    (h0 : 2 ≤ base) (h1 : base ≤ 4000) (ret : RetR Q s fun r => Lim base x r.reverse) :
    wpAny (model PG w) A (call (.ref 149) [.ref l1, .int base t1, .int wd t, .int least t3, .ref 231, .ref 224]) Q E s := by
  have hB := wid_pow hw hw9
  have hx200 : x < (2 ^ wd.toNat) ^ 200 := Int.lt_of_lt_of_le hx (pow_le_pow (by omega) (by decide))
  have hlen1 : ns1.length ≤ 200 := h.len_le (by omega) hx200
  have X := W.X
  obtain ⟨mean, mg, mb, T⟩ := W.T
  obtain ⟨hhA, hdA, huA⟩ := R
  obtain ⟨ha, dp, fr, gd, un⟩ := A
  dsimp only at hhA hdA huA
  subst hhA
  refine enter (binds := [(Str.ofString "a", .ref l1), (Str.ofString "base", .int base t1), (Str.ofString "w", .int wd t), (Str.ofString "least", .int least t3), (Str.ofString "divrem", .ref 231), (Str.ofString "mul", .ref 224)]) X T.nolimit (by k_is) (by k_is) (by show dp < 1000; omega) (BindsTo.of_eq rfl) (locs rfl) rfl rfl rfl (by decide) ?_
  intro L h₁ tk F N
  walk_at "my steps"
  all_goals exact ret.out (by assumption) (by assumption) (by k_memK) (by assumption) (by assumption)
end
end
local macro_rules | `(tactic| walk_at "no such key") => `(tactic| fail "none")
section
section
theorem c_times_base {w : World} {A : Around} {s : Shared} {Q E} {l1 : Addr} {vs1 : List Value} {ns1 : List Int} {base wd x : Int} {t1 t : Tok}
    (W : Wd w s.heap) (R : Room A 4) (hw : 2 ≤ wd) (hw9 : wd ≤ 9) (hl1 : s.heap.IsList l1 vs1.toArray) (hi1 : IntsAre vs1 ns1) (h : Lim (2 ^ wd.toNat) x ns1) (hx : x < (2 ^ wd.toNat) ^ 200)
    (h0 : 2 ≤ base) (h1 : base ≤ 4000) (ret : RetR Q s (Lim (2 ^ wd.toNat) (x * base))) :
    wpAny (model PG w) A (call (.ref 156) [.ref l1, .int base t1, .int wd t, .ref 224]) Q E s := by
  have hB := wid_pow hw hw9
  have hb6 : base < (2 ^ wd.toNat) ^ 6 := Int.lt_of_lt_of_le (by omega) (pow_ge4 hB.1 (Nat.le_refl 6))
  have hb200 : base < (2 ^ wd.toNat) ^ 200 := Int.lt_of_lt_of_le hb6 (pow_le_pow (by omega) (by decide))
  have X := W.X
  obtain ⟨mean, mg, mb, T⟩ := W.T
  obtain ⟨hhA, hdA, huA⟩ := R
  obtain ⟨ha, dp, fr, gd, un⟩ := A
  dsimp only at hhA hdA huA
  subst hhA
  refine enter (binds := [(Str.ofString "a", .ref l1), (Str.ofString "base", .int base t1), (Str.ofString "w", .int wd t), (Str.ofString "mul", .ref 224)]) X T.nolimit (by k_is) (by k_is) (by show dp < 1000; omega) (BindsTo.of_eq rfl) (locs rfl) rfl rfl rfl (by decide) ?_
  intro L h₁ tk F N
  walk_at "my steps"
  all_goals exact ret.out (by assumption) (by assumption) (by k_memK) (by assumption) (by assumption)
end
end
local macro_rules | `(tactic| walk_at "call ref") => `(tactic| ((with_reducible show wpAny _ _ (call (Value.ref 156) _) _ _ _); (rename Fr _ _ _ _ => lF'); (rename News _ _ _ _ => lN'); refine' c_times_base (Wd.fr (by assumption) lF') (room_in (by omega) (by omega)) (by assumption) (by assumption) ?l ?i ?g ?x ?a ?b (RetR.framed lF' lN' ?_); (case l => is_list); (case i => assumption); (case g => assumption); (case x => assumption); (case a => omega); (case b => omega); (intro r9 vs9 n9 ns9 h9 tk9 F9 N9 hne9 hi9 hr9); k_sweep))
section
namespace C163
structure St where
  l : Addr
  vs : List Value
  n : Nat
  fs : List Int
end C163
section
theorem c_number_plain {w : World} {A : Around} {s : Shared} {Q E} {l1 : Addr} {vs1 : List Value} {ns1 : List Int} {base wd : Int} {t1 t : Tok}
    (W : Wd w s.heap) (R : Room A 5) (hw : 2 ≤ wd) (hw9 : wd ≤ 9) (hl1 : s.heap.IsList l1 vs1.toArray) (hi1 : IntsAre vs1 ns1) (hg : Good base ns1) (hlen : ns1.length ≤ 90)
    (h0 : 2 ≤ base) (h1 : base ≤ 16) (ret : RetR Q s (Lim (2 ^ wd.toNat) (val base ns1.reverse))) :
    wpAny (model PG w) A (call (.ref 163) [.ref l1, .int base t1, .int wd t, .ref 224]) Q E s := by
  have hB := wid_pow hw hw9
  have X := W.X
  obtain ⟨mean, mg, mb, T⟩ := W.T
  obtain ⟨hhA, hdA, huA⟩ := R
  obtain ⟨ha, dp, fr, gd, un⟩ := A
  dsimp only at hhA hdA huA
  subst hhA
  refine enter (binds := [(Str.ofString "digits", .ref l1), (Str.ofString "base", .int base t1), (Str.ofString "w", .int wd t), (Str.ofString "mul", .ref 224)]) X T.nolimit (by k_is) (by k_is) (by show dp < 1000; omega) (BindsTo.of_eq rfl) (locs rfl) rfl rfl rfl (by decide) ?_
  intro L h₁ tk F N
  walk_at "my steps"
  refine unstop ?_
  rename Fr _ _ _ _ => F'
  rename News _ _ _ _ => N'
  refine forB (σ := C163.St) (fun c => [(Str.ofString "found", .ref c.l), (Str.ofString "base", .int base t1), (Str.ofString "w", .int wd t), (Str.ofString "mul", .ref 224)])
    (fun c => [(c.l, PySem.W.listOf c.vs.toArray c.n)])
    (fun i c => IntsAre c.vs c.fs ∧ Lim (2 ^ wd.toNat) (val base (ns1.take i).reverse) c.fs)
    ⟨_, [], 0, []⟩ rfl hl1 (by assumption) F' N' (hn1 (by k_memK) hn0) (hk1 rfl <| hk1 rfl <| hk1 rfl <| hk1 rfl hk0) ?_ ?_ ?_
  · exact ⟨.nil, Lim.nil _⟩
  · rintro i k t ⟨l', fvs, fn, fs⟩ u h tk' own hk ⟨hfi, hL⟩ hoff F N
    dsimp only at F N hfi hL
    have hkg := hg.at hk
    have hki := lt_of_at hk
    have hb1 := num_bound (by omega) hg i
    have hst := num_step (B := base) hk
    have hb2 := num_bound (by omega) hg (i + 1)
    have hbb := base_bound hB.1 h0 h1 (show ns1.length ≤ 95 by omega)
    have hx200 : val base (ns1.take i).reverse < (2 ^ wd.toNat) ^ 200 := by omega
    have hxb200 : val base (ns1.take i).reverse * base < (2 ^ wd.toNat) ^ 200 := by omega
    have hk200 : k < (2 ^ wd.toNat) ^ 200 := Int.lt_of_lt_of_le (show k < 4 ^ 2 by omega) (Int.le_trans (pow_ge4 hB.1 (Nat.le_refl 2)) (pow_le_pow (by omega) (by decide)))
    have hk0 := hkg.1
    simp only [List.cons_append, List.nil_append] at N
    walk_at "my steps"
    rename (∀ p ∈ _, Prod.fst p ≠ _) => hap
    rename Fr _ _ _ _ => F'
    rename News _ _ _ _ => N'
    rename Lim _ (_ + k) _ => hq
    rw [hst] at hq
    exact TEnd.next ⟨_, _, _, _⟩ F' N' (hn1 (by k_memK) hn0) (fun p hp => by simp [hp]) (off1 (fun p hp => hap p (by simp [hp])) off0) (hk1 rfl <| hk1 rfl <| hk1 rfl <| hk1 rfl Mine.hk0)
      ⟨by assumption, hq⟩
  · rintro ⟨l', fvs, fn, fs⟩ u h tk' ⟨hfi, hL⟩ F N
    dsimp only at F N hfi hL
    rw [List.take_length] at hL
    dsimp only
    walk_at "my steps"
    exact ret.out (by assumption) (by assumption) (by k_memK) hfi hL
end
end
local macro_rules | `(tactic| walk_at "call ref") => `(tactic| ((with_reducible show wpAny _ _ (call (Value.ref 163) _) _ _ _); (rename Fr _ _ _ _ => lF'); (rename News _ _ _ _ => lN'); refine' c_number_plain (Wd.fr (by assumption) lF') (room_in (by omega) (by omega)) (by assumption) (by assumption) ?l ?i ?g ?n ?a ?b (RetR.framed lF' lN' ?_); (case l => is_list); (case i => assumption); (case g => assumption); (case n => omega); (case a => omega); (case b => omega); (intro r9 vs9 n9 ns9 h9 tk9 F9 N9 hne9 hi9 hr9); k_sweep))
section
section
structure NBP (n : Nat) : Prop where
  run : ∀ {w : World} {A : Around} {s : Shared} {Q E} {l1 lp : Addr} {vs1 vs : List Value} {ns1 : List Int} {base wd least : Int} {t1 t t3 : Tok},
    Wd w s.heap → Room A (n + 7) → 2 ≤ wd → wd ≤ 9 → s.heap.IsList l1 vs1.toArray → IntsAre vs1 ns1 → Good base ns1 → ns1.length = n → ns1.length ≤ 90 →
    s.heap.IsList lp vs.toArray → PowH s.heap (2 ^ wd.toNat) base vs → vs.length ≤ 12 → 2 ≤ base → base ≤ 16 → RetR Q s (Lim (2 ^ wd.toNat) (val base ns1.reverse)) →
    wpAny (model PG w) A (call (.ref 170) [.ref l1, .ref lp, .int base t1, .int wd t, .int least t3, .ref 224]) Q E s
local macro_rules | `(tactic| walk_at "call ref") => `(tactic| ((with_reducible show wpAny _ _ (call (Value.ref 170) _) _ _ _); refine stop ?_))
local macro_rules | `(tactic| walk_at "rec call") => `(tactic| ((rename Fr _ _ _ _ => lF'); (rename News _ _ _ _ => lN'); refine' NBP.run ?h (Wd.fr (by assumption) lF') ?r (by assumption) (by assumption) ?l ?i ?g rfl ?n ?l2 ?p ?z ?c ?d (RetR.framed lF' lN' ?_); (case l => is_list); (case i => assumption); (case l2 => is_list); (case r => exact room_in (by omega) (by omega)); (case h => assumption); (case g => assumption); (case n => omega); (case p => exact PowH.keeps (by assumption) (Fr.keep lF')); (case z => omega); (case c => omega); (case d => omega); (intro r9 vs9 n9 ns9 h9 tk9 F9 N9 hne9 hi9 hr9); k_sweep))
namespace C170
structure St where
  at_ : Int
  t : Tok
end C170
theorem nbp_step (n : Nat) (ih : ∀ m, m < n → NBP m) : NBP n := by
  constructor
  intro w A s Q E l1 lp vs1 vs ns1 base wd least t1 t t3 W R hw hw9 hl1 hi1 hg hn hlen hlp hP hz h0 h1 ret
  have hB := wid_pow hw hw9
  have X := W.X
  obtain ⟨mean, mg, mb, T⟩ := W.T
  obtain ⟨hhA, hdA, huA⟩ := R
  obtain ⟨ha, dp, fr, gd, un⟩ := A
  dsimp only at hhA hdA huA
  subst hhA
  refine enter (binds := [(Str.ofString "digits", .ref l1), (Str.ofString "powers", .ref lp), (Str.ofString "base", .int base t1), (Str.ofString "w", .int wd t), (Str.ofString "least", .int least t3), (Str.ofString "mul", .ref 224)]) X T.nolimit (by k_is) (by k_is) (by show dp < 1000; omega) (BindsTo.of_eq rfl) (locs rfl) rfl rfl rfl (by decide) ?_
  intro L h₁ tk F N
  walk_at "my steps"
  refine unstop ?_
  rename Fr _ _ _ _ => F'
  rename News _ _ _ _ => N'
  refine whileW (σ := C170.St) (fun c => [(Str.ofString "at", .int c.at_ c.t), (Str.ofString "digits", .ref l1), (Str.ofString "powers", .ref lp), (Str.ofString "base", .int base t1), (Str.ofString "w", .int wd t), (Str.ofString "least", .int least t3), (Str.ofString "mul", .ref 224)])
    (fun c => []) (fun c => -1 ≤ c.at_ ∧ c.at_ < vs.length) (fun c => (c.at_ + 1).toNat) ⟨(vs.length : Int) - 1, _⟩
    F' N' hn0 (hk1 rfl <| hk1 rfl <| hk1 rfl <| hk1 rfl <| hk1 rfl <| hk1 rfl <| hk1 rfl hk0) ?_ ?_ ?_
  · exact ⟨by dsimp only; omega, by dsimp only; omega⟩
  · rintro ⟨a, ta⟩ u h tk' ⟨ha0, ha1⟩ F N
    dsimp only at F N ha0 ha1
    by_cases hneg : a < 0
    · clear ih
      walk_at "my steps"
      all_goals exact ret.out (by assumption) (by assumption) (by k_memK) (by assumption) (by assumption)
    · walk_at "my steps"
      · exact WEnd.next ⟨_, _⟩ (by assumption) (by assumption) hn0 (hk1 rfl <| hk1 rfl <| hk1 rfl <| hk1 rfl <| hk1 rfl <| hk1 rfl <| hk1 rfl hk0) ⟨by dsimp only; omega, by dsimp only; omega⟩ (by dsimp only; omega)
      · exact ret.out (by assumption) (by assumption) (by k_memK) (by assumption) (by assumption)
      · rename ¬ (ns1.length : Int) ≤ 1 * 2 ^ a.toNat => hlt
        have hpw : (2 : Int) ^ a.toNat = ((2 ^ a.toNat : Nat) : Int) := (Int.natCast_pow 2 _).symm
        have hp1 : 0 < 2 ^ a.toNat := Nat.two_pow_pos _
        generalize hm : ((ns1.length : Int) - 1 * 2 ^ a.toNat).toNat = m at *
        have hm1 : m + 2 ^ a.toNat = ns1.length := by omega
        have hl1' : (ns1.take m).length = m := by rw [List.length_take]; omega
        have hl2' : (ns1.drop m).length = 2 ^ a.toNat := by rw [List.length_drop]; omega
        have hI1 : NBP (ns1.take m).length := ih _ (by omega)
        have hI2 : NBP (ns1.drop m).length := ih _ (by omega)
        have hg1 := hg.take m
        have hg2 := hg.drop m
        have hcut := digits_cut (b := base) (ds := ns1) (m := m) (k := 2 ^ a.toNat) (by omega) (by omega)
        have hv1 := hg1.reverse.nonneg (by omega)
        have hv2 := hg2.reverse.nonneg (by omega)
        have hvv := hg.reverse.lt (by omega)
        rw [List.length_reverse] at hvv
        have hbb := base_bound hB.1 h0 h1 (show ns1.length ≤ 95 by omega)
        have hpb := pow_pos' (show 0 < base by omega) (2 ^ a.toNat)
        have hle : val base (ns1.take m).reverse * 1 ≤ val base (ns1.take m).reverse * base ^ 2 ^ a.toNat := Int.mul_le_mul_of_nonneg_left (by omega) hv1
        have hx1 : val base (ns1.take m).reverse * base ^ 2 ^ a.toNat < (2 ^ wd.toNat) ^ 200 := by omega
        have hx2 : val base (ns1.take m).reverse < (2 ^ wd.toNat) ^ 200 := by omega
        have hx3 : val base (ns1.drop m).reverse < (2 ^ wd.toNat) ^ 200 := by omega
        clear ih
        refine unstop ?_
        walk_at "rec call"
        walk_at "my steps"
        refine unstop ?_
        rename IntsAre _ (List.drop _ _) => hid
        rw [hm] at hid
        walk_at "rec call"
        walk_at "my steps"
        rename Lim _ (_ * _ + _) _ => hq
        rw [hcut] at hq
        exact ret.out (by assumption) (by assumption) (by k_memK) (by assumption) hq
  · passes_own
theorem nbp (n : Nat) : NBP n := by
  have all : ∀ k n, n < k → NBP n := by
    intro k
    induction k with
    | zero => intro n h; exact absurd h (Nat.not_lt_zero _)
    | succ k ih => exact fun n h => nbp_step n fun m hm => ih m (by omega)
  exact all (n + 1) n (Nat.lt_succ_self n)
end
end
local macro_rules | `(tactic| walk_at "call ref") => `(tactic| ((with_reducible show wpAny _ _ (call (Value.ref 170) _) _ _ _); (rename Fr _ _ _ _ => lF'); (rename News _ _ _ _ => lN'); refine' NBP.run (nbp _) (Wd.fr (by assumption) lF') ?r (by assumption) (by assumption) ?l ?i ?g rfl ?n ?l2 ?p ?z ?c ?d (RetR.framed lF' lN' ?_); (case l => is_list); (case i => assumption); (case l2 => is_list); (case r => exact room_in (by omega) (by omega)); (case g => assumption); (case n => omega); (case p => first | exact PowH.nil | exact PowH.keeps (by assumption) (Fr.keep lF') | exact PowIn.at (by assumption) lN' (fun p hp => .tail _ hp)); (case z => first | omega | exact Nat.zero_le _); (case c => omega); (case d => omega); (intro r9 vs9 n9 ns9 h9 tk9 F9 N9 hne9 hi9 hr9); k_sweep))
section
namespace C177
structure St where
  l : Addr
  vs : List Value
  n : Nat
  ex : List (Addr × Obj)
end C177
section
theorem c_from_digits {w : World} {A : Around} {s : Shared} {Q E} {l1 : Addr} {vs1 : List Value} {ns1 : List Int} {base wd least : Int} {t1 t t3 : Tok}
    (W : Wd w s.heap) (R : Room A 110) (hw : 2 ≤ wd) (hw9 : wd ≤ 9) (hl1 : s.heap.IsList l1 vs1.toArray) (hi1 : IntsAre vs1 ns1) (hg : Good base ns1) (hlen : ns1.length ≤ 90)
    (h0 : 2 ≤ base) (h1 : base ≤ 16) (ret : RetR Q s (Lim (2 ^ wd.toNat) (val base ns1.reverse))) :
    wpAny (model PG w) A (call (.ref 177) [.ref l1, .int base t1, .int wd t, .int least t3, .ref 224]) Q E s := by
  have hB := wid_pow hw hw9
  have hb200 : base < (2 ^ wd.toNat) ^ 200 := by
    have := base_bound hB.1 h0 h1 (show 1 ≤ 95 by decide)
    rwa [Int.pow_one] at this
  have X := W.X
  obtain ⟨mean, mg, mb, T⟩ := W.T
  obtain ⟨hhA, hdA, huA⟩ := R
  obtain ⟨ha, dp, fr, gd, un⟩ := A
  dsimp only at hhA hdA huA
  subst hhA
  refine enter (binds := [(Str.ofString "digits", .ref l1), (Str.ofString "base", .int base t1), (Str.ofString "w", .int wd t), (Str.ofString "least", .int least t3), (Str.ofString "mul", .ref 224)]) X T.nolimit (by k_is) (by k_is) (by show dp < 1000; omega) (BindsTo.of_eq rfl) (locs rfl) rfl rfl rfl (by decide) ?_
  intro L h₁ tk F N
  walk_at "my steps"
  refine unstop ?_
  rename Fr _ _ _ _ => F'
  rename News _ _ _ _ => N'
  refine forB (σ := Unit) (fun c => [(Str.ofString "digits", .ref l1), (Str.ofString "base", .int base t1), (Str.ofString "w", .int wd t), (Str.ofString "least", .int least t3), (Str.ofString "mul", .ref 224)])
    (fun c => []) (fun i c => True) () rfl hl1 (by assumption) F' N' hn0 (hk1 rfl <| hk1 rfl <| hk1 rfl <| hk1 rfl <| hk1 rfl hk0) trivial ?_ ?_
  · rintro i k t ⟨⟩ u h tk' own hk _ hoff F N
    have hkg := hg.at hk
    have hk0' := hkg.1
    have hk1' := hkg.2
    simp only [List.nil_append] at N
    walk_at "my steps"
    exact TEnd.next () (by assumption) (by assumption) hn0 has_refl (by exact hoff) (hk1 rfl <| hk1 rfl <| hk1 rfl <| hk1 rfl <| hk1 rfl hk0) trivial
  · rintro ⟨⟩ u h tk' _ F N
    dsimp only
    walk_at "my steps"
    · refine unstop ?_
      rename Fr _ _ _ _ => F'
      rename News _ _ _ _ => N'
      rename Lim _ base _ => hL0
      refine whileW (σ := C177.St) (fun c => [(Str.ofString "powers", .ref c.l), (Str.ofString "digits", .ref l1), (Str.ofString "base", .int base t1), (Str.ofString "w", .int wd t), (Str.ofString "least", .int least t3), (Str.ofString "mul", .ref 224)])
        (fun c => (c.l, PySem.W.listOf c.vs.toArray c.n) :: c.ex)
        (fun c => PowIn c.ex (2 ^ wd.toNat) base c.vs ∧ 1 ≤ c.vs.length ∧ c.vs.length ≤ 8 ∧ (∀ p ∈ c.ex, p.1 ≠ c.l)) (fun c => 100 - c.vs.length)
        ⟨_, _, _, [(_, PySem.W.listOf _ _)]⟩ F' N' (hn1 (by k_memK) <| hn1 (by k_memK) hn0) (hk1 rfl <| hk1 rfl <| hk1 rfl <| hk1 rfl <| hk1 rfl <| hk1 rfl hk0) ?_ ?_ ?_
      · exact ⟨PowH.single (h := s.heap) (.head _) (by assumption) hL0 hb200, Nat.le_refl 1, by dsimp only [List.length]; omega, one_ne (by k_ne)⟩
      · rintro ⟨l', fvs, fn, ex⟩ u h tk' ⟨hP, hv1, hv8, hex⟩ F N
        dsimp only at F N hP hv1 hv8 hex
        have hPH := hP.at N fun p hp => .tail _ hp
        have hpp := sq_step base (fvs.length - 1)
        rw [show fvs.length - 1 + 1 = fvs.length by omega] at hpp
        by_cases hc : (2 : Int) * 2 ^ ((fvs.length : Int) - 1).toNat < (ns1.length : Int)
        · have hcnt := two_lt_count hv1 hc hlen
          have hbb : base ^ 2 ^ fvs.length < (2 ^ wd.toNat) ^ 200 := base_bound hB.1 h0 h1 (by omega)
          walk_at "my steps"
          rename Fr _ _ _ _ => F'
          rename News _ _ _ _ => N'
          rename Lim _ (_ * _) _ => hq
          rw [hpp] at hq
          simp only [List.push_toArray] at N'
          have hlen' : ∀ v : Value, (fvs ++ [v]).length = fvs.length + 1 := fun v => by simp
          exact WEnd.next ⟨l', _, _, (_, PySem.W.listOf _ _) :: ex⟩ F' N' (hn1 (by k_memK) <| hn1 (by k_memK) fun p hp => .tail _ (.tail _ hp)) (hk1 rfl <| hk1 rfl <| hk1 rfl <| hk1 rfl <| hk1 rfl <| hk1 rfl hk0)
            ⟨(hP.mono fun p hp => .tail _ hp).snoc (.head _) (by assumption) hq hbb, by rw [hlen']; omega, by rw [hlen']; omega, ne_cons (by k_ne) hex⟩ (by dsimp only; rw [hlen']; omega)
        · walk_at "my steps"
          exact ret.out (by assumption) (by assumption) (by k_memK) (by assumption) (by assumption)
      · passes_own
    · exact ret.out (by assumption) (by assumption) (by k_memK) (by assumption) (by assumption)
end
end
local macro_rules | `(tactic| walk_at "no such key") => `(tactic| fail "none")
section
namespace C184
structure St where
  x : Int
  tx : Tok
  y : Int
  ty : Tok
end C184
section
theorem c_folded {w : World} {A : Around} {s : Shared} {Q E} {l1 : Addr} {vs1 : List Value} {ns1 : List Int} {B M fac wd : Int} {t1 t2 t : Tok}
    (W : Wd w s.heap) (R : Room A 1) (hl1 : s.heap.IsList l1 vs1.toArray) (hi1 : IntsAre vs1 ns1) (hg : Good B ns1) (hlen : ns1.length ≤ 1000)
    (hM : 1 < M) (hM5 : M ≤ 512) (hF0 : 0 ≤ fac) (hF1 : fac < M) (hF : fac % M = B % M)
    (ret : RetI Q s (val B ns1 % M)) :
    wpAny (model PG w) A (call (.ref 184) [.ref l1, .int fac t1, .int M t2, .int wd t]) Q E s := by
  have X := W.X
  obtain ⟨mean, mg, mb, T⟩ := W.T
  obtain ⟨hhA, hdA, huA⟩ := R
  obtain ⟨ha, dp, fr, gd, un⟩ := A
  dsimp only at hhA hdA huA
  subst hhA
  refine enter (binds := [(Str.ofString "a", .ref l1), (Str.ofString "factor", .int fac t1), (Str.ofString "modulus", .int M t2), (Str.ofString "w", .int wd t)]) X T.nolimit (by k_is) (by k_is) (by show dp < 1000; omega) (BindsTo.of_eq rfl) (locs rfl) rfl rfl rfl (by decide) ?_
  intro L h₁ tk F N
  walk_at "my steps"
  refine unstop ?_
  rename Fr _ _ _ _ => F'
  rename News _ _ _ _ => N'
  refine forB (σ := C184.St) (fun c => [(Str.ofString "found", .int c.x c.tx), (Str.ofString "weight", .int c.y c.ty), (Str.ofString "factor", .int fac t1), (Str.ofString "modulus", .int M t2)]) (fun c => [])
    (fun i c => c.x = val B (ns1.take i) % M ∧ c.y = B ^ i % M) ⟨0, _, 1, _⟩ rfl hl1 (by assumption) F' N' hn0 (hk1 rfl <| hk1 rfl <| hk1 rfl <| hk1 rfl hk0) ?_ ?_ ?_
  · exact ⟨by simp, by dsimp only; rw [Int.pow_zero]; exact (Int.emod_eq_of_lt (by decide) hM).symm⟩
  · rintro i k t ⟨x, tx, y, ty⟩ u h tk' own hk ⟨hx, hy⟩ hoff F N
    dsimp only at F N hx hy
    have hM0 : M ≠ 0 := by omega
    have hx0 := Int.emod_nonneg (val B (ns1.take i)) hM0
    have hx1 := Int.emod_lt_of_pos (val B (ns1.take i)) (show 0 < M by omega)
    have hy0 := Int.emod_nonneg (B ^ i) hM0
    have hy1 := Int.emod_lt_of_pos (B ^ i) (show 0 < M by omega)
    have hk0 := Int.emod_nonneg k hM0
    have hk1' := Int.emod_lt_of_pos k (show 0 < M by omega)
    have st := fold_step hF hk hx hy
    rw [← hx] at hx0 hx1
    rw [← hy] at hy0 hy1
    have hbk : Builtin.Int.intBits (k.fmod M) ≤ 1048576 := by
      rw [fmod_pos (by omega)]; exact bits_of (B := 512) (k := 1) hk0 (by decide) (by decide) (by decide) (by rw [Int.pow_one]; omega)
    have hby : Builtin.Int.intBits y ≤ 1048576 := bits_of (B := 512) (k := 1) hy0 (by decide) (by decide) (by decide) (by rw [Int.pow_one]; omega)
    have hbF : Builtin.Int.intBits fac ≤ 1048576 := bits_of (B := 512) (k := 1) hF0 (by decide) (by decide) (by decide) (by rw [Int.pow_one]; omega)
    simp only [List.nil_append] at N
    walk_at "my steps"
    rename Fr _ _ _ _ => F'
    rename News _ _ _ _ => N'
    simp only [fmod_pos (show 0 ≤ M by omega)] at F'
    exact TEnd.next ⟨_, _, _, _⟩ F' N' hn0 has_refl (by exact hoff) (hk1 rfl <| hk1 rfl <| hk1 rfl <| hk1 rfl Mine.hk0) st
  · rintro ⟨x, tx, y, ty⟩ u h tk' ⟨hx, hy⟩ F N
    dsimp only at F N hx hy
    rw [List.take_length] at hx
    dsimp only
    walk_at "my steps"
    exact ret.out (by assumption) hx
end
end
local macro_rules | `(tactic| walk_at "call ref") => `(tactic| ((with_reducible show wpAny _ _ (call (Value.ref 184) _) _ _ _); (rename Fr _ _ _ _ => lF'); (rename News _ _ _ _ => lN'); refine' c_folded (Wd.fr (by assumption) lF') (room_in (by omega) (by omega)) ?l ?i ?g ?n ?a ?b ?c ?d ?e (RetI.framed lF' lN' ?_); (case l => is_list); (case i => assumption); (case g => assumption); (case n => omega); (case a => assumption); (case b => assumption); (case c => assumption); (case d => assumption); (case e => assumption); (intro t9 h9 tk9 F9 N9); k_sweep))
section
section
theorem c_mod_ones {w : World} {A : Around} {s : Shared} {Q E} {l1 : Addr} {vs1 : List Value} {ns1 : List Int} {n wd x : Int} {t1 t : Tok}
    (W : Wd w s.heap) (R : Room A 2) (hw : 2 ≤ wd) (hw9 : wd ≤ 9) (hl1 : s.heap.IsList l1 vs1.toArray) (hi1 : IntsAre vs1 ns1) (h : Lim (2 ^ wd.toNat) x ns1) (hx : x < (2 ^ wd.toNat) ^ 200)
    (h1 : 1 ≤ n) (hn : n ≤ wd) (ret : RetI Q s (x % (2 ^ n.toNat - 1))) :
    wpAny (model PG w) A (call (.ref 191) [.ref l1, .int n t1, .int wd t]) Q E s := by
  have hB := wid_pow hw hw9
  have hlen : ns1.length ≤ 200 := h.len_le (by omega) hx
  have hg := h.good
  have hp2 : (2 : Int) ^ n.toNat ≤ 2 ^ 9 := pow_le_pow (by decide) (by omega)
  have hp1 : (2 : Int) ^ 1 ≤ 2 ^ n.toNat := pow_le_pow (by decide) (by omega)
  rw [show (2 : Int) ^ 9 = 512 by decide] at hp2
  rw [show (2 : Int) ^ 1 = 2 by decide] at hp1
  have X := W.X
  obtain ⟨mean, mg, mb, T⟩ := W.T
  obtain ⟨hhA, hdA, huA⟩ := R
  obtain ⟨ha, dp, fr, gd, un⟩ := A
  dsimp only at hhA hdA huA
  subst hhA
  refine enter (binds := [(Str.ofString "a", .ref l1), (Str.ofString "n", .int n t1), (Str.ofString "w", .int wd t)]) X T.nolimit (by k_is) (by k_is) (by show dp < 1000; omega) (BindsTo.of_eq rfl) (locs rfl) rfl rfl rfl (by decide) ?_
  intro L h₁ tk F N
  by_cases hn1 : n = 1
  · subst hn1
    walk_at "my steps"
    exact ret.out (by assumption) (by simp)
  · have hq2 : (2 : Int) ^ 2 ≤ 2 ^ n.toNat := pow_le_pow (by decide) (by omega)
    rw [show (2 : Int) ^ 2 = 4 by decide] at hq2
    have hf0 : 0 ≤ wd.fmod n := by rw [fmod_pos (by omega)]; exact Int.emod_nonneg _ (by omega)
    have hf1 : wd.fmod n ≤ 8 := by rw [fmod_pos (by omega)]; have := Int.emod_lt_of_pos wd (show 0 < n by omega); omega
    have hM1 : 1 < (1 : Int) * 2 ^ n.toNat - 1 := by omega
    have hM5 : (1 : Int) * 2 ^ n.toNat - 1 ≤ 512 := by omega
    have hF0 : 0 ≤ ((1 : Int) * 2 ^ (wd.fmod n).toNat).fmod (1 * 2 ^ n.toNat - 1) := by rw [fmod_pos (by omega)]; exact Int.emod_nonneg _ (by omega)
    have hF1 : ((1 : Int) * 2 ^ (wd.fmod n).toNat).fmod (1 * 2 ^ n.toNat - 1) < 1 * 2 ^ n.toNat - 1 := by rw [fmod_pos (by omega)]; exact Int.emod_lt_of_pos _ (by omega)
    have hF : ((1 : Int) * 2 ^ (wd.fmod n).toNat).fmod (1 * 2 ^ n.toNat - 1) % (1 * 2 ^ n.toNat - 1) = 2 ^ wd.toNat % (1 * 2 ^ n.toNat - 1) := by
      rw [fmod_pos (by omega), Int.emod_emod, Int.one_mul, Int.one_mul, fmod_pos (by omega)]
      have e : (wd % n).toNat = wd.toNat % n.toNat := by
        have h1 : wd = (wd.toNat : Int) := by omega
        have h2 : n = (n.toNat : Int) := by omega
        conv => lhs; rw [h1, h2, ← Int.natCast_emod]
        rfl
      rw [e]
      exact ones_factor (by omega)
    walk_at "my steps"
    · exfalso; omega
    · refine ret.out (by assumption) ?_
      rw [h.worth, Int.one_mul]
end
end
local macro_rules | `(tactic| walk_at "call ref") => `(tactic| ((with_reducible show wpAny _ _ (call (Value.ref 191) _) _ _ _); (rename Fr _ _ _ _ => lF'); (rename News _ _ _ _ => lN'); refine' c_mod_ones (Wd.fr (by assumption) lF') (room_in (by omega) (by omega)) (by assumption) (by assumption) ?l ?i ?g ?x ?a ?b (RetI.framed lF' lN' ?_); (case l => is_list); (case i => assumption); (case g => assumption); (case x => assumption); (case a => omega); (case b => omega); (intro t9 h9 tk9 F9 N9); k_sweep))
section
namespace C196
structure St where
  x : Int
  tx : Tok
end C196
section
theorem c_law_box {w : World} {A : Around} {s : Shared} {Q : Value → Shared → Prop} {E} {l1 : Addr} {vs1 : List Value} {ns1 : List Int}
    (W : Wd w s.heap) (R : Room A 2) (hl1 : s.heap.IsList l1 vs1.toArray) (hi1 : IntsAre vs1 ns1) (hlen : ns1.length ≤ 63)
    (ret : RetBox Q s) :
    wpAny (model PG w) A (call (.ref 196) [.ref l1]) Q E s := by
  have X := W.X
  obtain ⟨mean, mg, mb, T⟩ := W.T
  obtain ⟨hhA, hdA, huA⟩ := R
  obtain ⟨ha, dp, fr, gd, un⟩ := A
  dsimp only at hhA hdA huA
  subst hhA
  refine enter (binds := [(Str.ofString "script", .ref l1)]) X T.nolimit (by k_is) (by k_is) (by show dp < 1000; omega) (BindsTo.of_eq rfl) (locs rfl) rfl rfl rfl (by decide) ?_
  intro L h₁ tk F N
  walk_at "my steps"
  refine unstop ?_
  rename Fr _ _ _ _ => F'
  rename News _ _ _ _ => N'
  refine forM (σ := C196.St) (fun c => [(Str.ofString "stirred", .int c.x c.tx), (Str.ofString "script", .ref l1)]) (fun c => [])
    (fun i c => 0 ≤ c.x ∧ c.x < 1000003) ⟨79, _⟩ rfl (by assumption) F' N' (.head _) hn0 (fun _ h => nomatch h) (hk1 rfl <| hk1 rfl hk0) ?_ ?_ ?_
  · exact ⟨by dsimp only; omega, by dsimp only; omega⟩
  · rintro i k t ⟨x, t3⟩ u h tk' own hk ⟨hx0, hx1⟩ hoff F N
    dsimp only at F N hx0 hx1
    simp only [List.nil_append] at N
    walk_at "my steps"
    rename Fr _ _ _ _ => F'
    rename News _ _ _ _ => N'
    rw [fmod_pos (by decide)] at F'
    exact TEnd.next ⟨(x * 67 + if k < 0 then -k else k) % 1000003, _⟩ F' N' hn0 has_refl (by exact hoff) (hk1 rfl <| hk1 rfl hk0) ⟨Int.emod_nonneg _ (by decide), Int.emod_lt_of_pos _ (by decide)⟩
  · rintro ⟨x, t3⟩ u h tk' ⟨hx0, hx1⟩ F N
    dsimp only at F N hx0 hx1
    dsimp only
    walk_at "my steps"
    rename Fr _ _ _ _ => F'
    rename News _ _ _ _ => N'
    rename IntsAre _ (List.map _ _) => hys
    rename _ < _ ∧ _ < _ => hlt
    refine ret.out (by assumption) N' (.head _) (.tail _ (.head _)) (by omega) ⟨_, _, _, _, _, _, rfl, rfl, hys, abs_nonneg _, ?_, hx0, hx1⟩
    rw [List.length_map, List.length_take]
    exact Nat.min_le_left _ _
end
end
section
section
local macro_rules | `(tactic| walk_at "call builtin:list.pop") => `(tactic| (k_here; (with_reducible show wpAny _ _ (call (Value.builtin _) [Value.ref _, Value.int 0 _]) _ _ _); k_dflt (refine' pop0 ?F ?N ?U ?z ?_; (case F => k_asm); (case N => k_asm); (case U => k_upd); (case z => omega)); intro h9 F9 N9; (try k_sweep)))
theorem c_law_take {w : World} {A : Around} {s : Shared} {Q : Value → Shared → Prop} {E} {b c : Addr} {ob oc : Obj} {many : Int} {t1 : Tok}
    (W : Wd w (hideAll s.heap [b, c])) (R : Room A 1) (hb : s.heap.get? b = some ob) (hc : s.heap.get? c = some oc) (hne : @Ne Nat b c) (hB : BoxO c ob oc) (h0 : 0 < many) (h1 : many ≤ 100000)
    (ret : RetTake Q s b c many) :
    wpAny (model PG w) A (call (.ref 203) [.ref b, .int many t1]) Q E s := by
  obtain ⟨n1, t, st, v2, n2, cs, rfl, rfl, hi, hn, hl, hs0, hs1⟩ := hB
  have X₀ := W.unhide.X
  obtain ⟨mean₀, mg₀, mb₀, T₀⟩ := W.unhide.T
  obtain ⟨hhA, hdA, huA⟩ := R
  obtain ⟨ha, dp, fr, gd, un⟩ := A
  dsimp only at hhA hdA huA
  subst hhA
  refine enter (binds := [(Str.ofString "box", .ref b), (Str.ofString "many", .int many t1)]) X₀ T₀.nolimit (by k_is) (by k_is) (by show dp < 1000; omega) (BindsTo.of_eq rfl) (locs rfl) rfl rfl rfl (by decide) ?_
  intro L h₁ tk F₀ N₀
  obtain ⟨F, N⟩ := box_frame F₀ hb hc
  clear F₀ N₀ X₀ T₀
  have X := W.X
  obtain ⟨mean, mg, mb, T⟩ := W.T
  cases hi with
  | nil =>
    walk_at "my steps"
    rename Fr _ _ _ _ => F'
    rename News _ _ _ _ => N'
    rw [fmod_pos (by decide)] at N'
    have h3 := Int.emod_nonneg (st * 4159 + 12391) (show (1000003 : Int) ≠ 0 by decide)
    have h4 := Int.emod_lt_of_pos (st * 4159 + 12391) (show (0 : Int) < 1000003 by decide)
    refine ret.out F' N' (.head _) (.tail _ (.head _)) ⟨_, _, _, [], _, [], rfl, rfl, .nil, hn, by decide, h3, h4⟩ ?_ ?_
    · rw [fmod_pos (by omega)]; exact Int.emod_nonneg _ (by omega)
    · rw [fmod_pos (by omega)]; exact Int.emod_lt_of_pos _ h0
  | cons x tx hi' =>
    simp only [List.length_cons] at hl
    have hlv := hi'.length
    walk_at "my steps"
    rename Fr _ _ _ _ => F'
    rename News _ _ _ _ => N'
    refine ret.out F' N' (.head _) (.tail _ (.head _)) ⟨_, _, _, _, _, _, rfl, rfl, hi', fun y hy => hn y (.tail _ hy), by omega, hs0, hs1⟩ ?_ ?_
    · rw [fmod_pos (by omega)]; exact Int.emod_nonneg _ (by omega)
    · rw [fmod_pos (by omega)]; exact Int.emod_lt_of_pos _ h0
end
end
local macro_rules | `(tactic| walk_at "call ref") => `(tactic| ((with_reducible show wpAny _ _ (call (Value.ref 203) _) _ _ _); (rename Fr _ _ _ _ => lF'); (rename News _ _ _ _ => lN'); (rename BoxO _ _ _ => lB'); (have lb' := News.get lN' (List.Mem.tail _ (List.Mem.head _))); (have lc' := News.get lN' (List.Mem.tail _ (List.Mem.tail _ (List.Mem.head _)))); refine' c_law_take (Wd.hide1 (by assumption) lF' lN') (room_in (by omega) (by omega)) lb' lc' (by first | assumption | omega) lB' (by omega) (by omega) (RetTake.framed1 lF' lN' ⟨by omega, by omega⟩ (by first | exact apart_nil | assumption) ?_); (intro r9 t9 ob9 oc9 h9 tk9 F9 N9 hB9 hr9 hs9); (clear lB' lb' lc'); k_sweep))
local macro_rules | `(tactic| walk_at "call ref") => `(tactic| ((with_reducible show wpAny _ _ (call (Value.ref 203) _) _ _ _); (rename Fr _ _ _ _ => lF'); (rename News _ _ _ _ => lN'); (rename BoxO _ _ _ => lB'); (have lb' := News.get lN' (List.Mem.head _)); (have lc' := News.get lN' (List.Mem.tail _ (List.Mem.head _))); refine' c_law_take (Wd.hide (by assumption) lF' lN') (room_in (by omega) (by omega)) lb' lc' (by first | assumption | omega) lB' (by omega) (by omega) (RetTake.framed lF' lN' (by first | exact apart_nil | assumption) ?_); (intro r9 t9 ob9 oc9 h9 tk9 F9 N9 hB9 hr9 hs9); (clear lB' lb' lc'); k_sweep))
section
namespace C238
structure St where
  l : Addr
  vs : List Value
  fs : List Int
  n : Nat
  lw : Addr
  vw : List Value
structure Sw where
  x : Int
  t : Tok
end C238
section
theorem c_grouped {w : World} {A : Around} {s : Shared} {Q : Value → Shared → Prop} {E} {l1 : Addr} {vs1 : List Value} {ns1 : List Int} {size base x : Int} {t1 t2 : Tok}
    (W : Wd w s.heap) (R : Room A 2) (hl1 : s.heap.IsList l1 vs1.toArray) (hi1 : IntsAre vs1 ns1) (hL : Lim base x ns1.reverse) (hlen : ns1.length ≤ 90) (hs1 : 1 ≤ size) (hs3 : size ≤ 3) (h0 : 2 ≤ base) (h1 : base ≤ 16)
    (ret : RetR Q s fun r => Lim (base ^ size.toNat) x r.reverse) :
    wpAny (model PG w) A (call (.ref 238) [.ref l1, .int size t1, .int base t2]) Q E s := by
  have hfm : (-(ns1.length : Int)).fmod size = (-(ns1.length : Int)) % size := fmod_pos (by omega)
  have hp0 := Int.emod_nonneg (-(ns1.length : Int)) (show size ≠ 0 by omega)
  have hp1 := Int.emod_lt_of_pos (-(ns1.length : Int)) (show 0 < size by omega)
  obtain ⟨mm, hm, hpk⟩ := pad_count (len := ns1.length) hs1
  rw [← hfm] at hp0 hp1 hm hpk
  clear hfm
  have X := W.X
  obtain ⟨mean, mg, mb, T⟩ := W.T
  obtain ⟨hhA, hdA, huA⟩ := R
  obtain ⟨ha, dp, fr, gd, un⟩ := A
  dsimp only at hhA hdA huA
  subst hhA
  refine enter (binds := [(Str.ofString "row", .ref l1), (Str.ofString "size", .int size t1), (Str.ofString "base", .int base t2)]) X T.nolimit (by k_is) (by k_is) (by show dp < 1000; omega) (BindsTo.of_eq rfl) (locs rfl) rfl rfl rfl (by decide) ?_
  intro L h₁ tk F N
  walk_at "my steps"
  refine unstop ?_
  rename Fr _ _ _ _ => F'
  rename News _ _ _ _ => N'
  rename IntsAre _ (_ ++ ns1) => hwh
  rename IsRange _ _ _ _ _ _ _ _ => hrng
  generalize ((-(ns1.length : Int)).fmod size).toNat = p at *
  rw [flat_rep] at hwh hrng
  have hgw : Good base (List.replicate p 0 ++ ns1) := (Good.replicate (by omega) p).append hL.good.of_reverse
  have hwl : (List.replicate p (0 : Int) ++ ns1).length = mm * size.toNat := by rw [List.length_append, List.length_replicate, hm]
  have hrl : (((List.replicate p (0 : Int)).length + ns1.length : Nat) : Int) = (mm : Int) * size := by
    rw [← List.length_append, hwl, Int.natCast_mul, Int.toNat_of_nonneg (by omega)]
  have hml : (mm : Int) * size ≤ 100 := by rw [← hrl, List.length_replicate]; omega
  have hml0 : 0 ≤ (mm : Int) * size := Int.mul_nonneg (by omega) (by omega)
  refine forR (σ := C238.St) (fun c => [(Str.ofString "whole", .ref c.lw), (Str.ofString "found", .ref c.l), (Str.ofString "size", .int size t1), (Str.ofString "base", .int base t2)])
    (fun c => [(c.l, PySem.W.listOf c.vs.toArray c.n), (c.lw, PySem.W.listOf c.vw.toArray 0)])
    (fun i c => IntsAre c.vs c.fs ∧ IntsAre c.vw (List.replicate p 0 ++ ns1) ∧ @Ne Nat c.lw c.l ∧ Grp base size.toNat (List.replicate p 0 ++ ns1) c.fs i) (n := mm)
    ⟨_, [], [], 0, _, _⟩ rfl hrng (by rw [hrl]; exact small_step hml0 (by omega) hs1 (by omega)) (rangeSize_whole hs1 hrl) F' N' (hn1 (by k_memK) <| hn1 (by k_memK) hn0) (hk1 rfl <| hk1 rfl <| hk1 rfl <| hk1 rfl hk0) ?_ ?_ ?_
  · exact ⟨.nil, hwh, by dsimp only; omega, Grp.start ..⟩
  · rintro i t ⟨l', fvs, fs, fn, lw, vw⟩ u h tk' own hi ⟨hfi, hwi, hne, G⟩ hoff F N
    dsimp only at F N hfi hwi hne G
    have G' := G.step (by omega) hgw hwl hi
    have hcl := chunk_len hwl hi
    have him : (i : Int) * size + size ≤ (mm : Int) * size := by
      have : ((i : Int) + 1) * size ≤ (mm : Int) * size := Int.mul_le_mul_of_nonneg_right (by omega) (by omega)
      rwa [Int.add_mul, Int.one_mul] at this
    have hi0 : 0 ≤ (i : Int) * size := Int.mul_nonneg (by omega) (by omega)
    simp only [List.cons_append, List.nil_append] at N
    generalize hwhd : List.replicate p 0 ++ ns1 = wh at *
    have hwh90 : wh.length ≤ 100 := by
      have : ((mm * size.toNat : Nat) : Int) = (mm : Int) * size := by rw [Int.natCast_mul, Int.toNat_of_nonneg (by omega)]
      omega
    walk_at "my steps"
    refine unstop ?_
    rename Fr _ _ _ _ => F'
    rename News _ _ _ _ => N'
    rename IntsAre _ (List.take _ _) => hch
    rename (_ ∧ _ ∧ AllLt _ own) => hlt
    rw [show (0 + (i : Int) * size).toNat = i * size.toNat by
        have : ((i * size.toNat : Nat) : Int) = (i : Int) * size := by rw [Int.natCast_mul, Int.toNat_of_nonneg (by omega)]
        omega,
      show min (0 + (i : Int) * size + size).toNat wh.length - i * size.toNat = size.toNat by
        have h1 : ((i * size.toNat : Nat) : Int) = (i : Int) * size := by rw [Int.natCast_mul, Int.toNat_of_nonneg (by omega)]
        have h2 : ((mm * size.toNat : Nat) : Int) = (mm : Int) * size := by rw [Int.natCast_mul, Int.toNat_of_nonneg (by omega)]
        omega] at hch
    have hgc := (hgw.drop (i * size.toNat)).take size.toNat
    generalize hchd : List.take size.toNat (List.drop (i * size.toNat) wh) = ch at *
    refine forM (σ := C238.Sw) (fun c => [(Str.ofString "worth", .int c.x c.t), (Str.ofString "whole", .ref lw), (Str.ofString "found", .ref l'), (Str.ofString "size", .int size t1), (Str.ofString "base", .int base t2)])
      (fun c => (l', PySem.W.listOf fvs.toArray fn) :: (lw, PySem.W.listOf vw.toArray 0) :: own)
      (fun j c => c.x = val base (ch.take j).reverse) ⟨0, _⟩ rfl hch F' N' (.head _) (fun q hq => .tail _ hq) (ne_cons (by omega) (ne_cons (by omega) fun q hq => Nat.ne_of_lt (kst_ltOf hlt.2.2 q hq))) (hk1 rfl <| hk1 rfl <| hk1 rfl <| hk1 rfl <| hk1 rfl hk0) ?_ ?_ ?_
    · simp
    · rintro j k t5 ⟨y, ty⟩ u5 h5 tk5 own5 hk hy hoff5 F5 N5
      dsimp only at F5 N5 hy
      have hb := num_bound (by omega) hgc j
      rw [← hy, hcl] at hb
      have hst := num_step (B := base) hk
      rw [← hy] at hst
      have hbits := bits_of hb.1 (by omega) (show base ≤ 512 by omega) (show size.toNat ≤ 1000 by omega) hb.2
      have hbb : Builtin.Int.intBits base ≤ 1048576 := bits_of (B := 512) (k := 1) (by omega) (by decide) (by decide) (by decide) (by rw [Int.pow_one]; omega)
      simp only [List.cons_append] at N5
      walk_at "my steps"
      rename Fr _ _ _ _ => F'
      rename News _ _ _ _ => N'
      exact TEnd.next ⟨_, _⟩ F' N' (hn1 (by k_memK) <| hn1 (by k_memK) fun q hq => by simp [hq]) (fun q hq => by simp [hq]) (by exact hoff5) (hk1 rfl <| hk1 rfl <| hk1 rfl <| hk1 rfl <| hk1 rfl hk0) hst
    · have hfl := G.len
      have hfv := hfi.length
      have hmm : mm ≤ 100 := by
        have : (mm : Int) * 1 ≤ (mm : Int) * size := Int.mul_le_mul_of_nonneg_left hs1 (by omega)
        omega
      have hfs : fs.length ≤ 100 := by omega
      rintro ⟨y, ty⟩ u5 h5 tk5 hy F5 N5
      dsimp only at F5 N5 hy
      rw [List.take_length] at hy
      dsimp only
      walk_at "my steps"
      rename Fr _ _ _ _ => F'
      rename News _ _ _ _ => N'
      simp only [List.push_toArray] at N'
      exact TEnd.next ⟨l', _, _, _, lw, vw⟩ F' N' (hn1 (by k_memK) <| hn1 (by k_memK) hn0) (fun q hq => by simp [hq]) (by exact hoff) (hk1 rfl <| hk1 rfl <| hk1 rfl <| hk1 rfl hk0) ⟨hfi.append (.cons _ _ .nil), hwi, hne, hy ▸ G'⟩
  · rintro ⟨l', fvs, fs, fn, lw, vw⟩ u h tk' ⟨hfi, hwi, hne, G⟩ F N
    dsimp only at F N hfi hwi hne G
    dsimp only
    walk_at "my steps"
    exact ret.out (by assumption) (by assumption) (by k_memK) hfi (G.done (by omega) (by omega) hm hpk hL)
end
end
local macro_rules | `(tactic| walk_at "call ref") => `(tactic| ((with_reducible show wpAny _ _ (call (Value.ref 238) _) _ _ _); (rename Fr _ _ _ _ => lF'); (rename News _ _ _ _ => lN'); refine' c_grouped (Wd.fr (by assumption) lF') (room_in (by omega) (by omega)) ?l ?i ?g ?n ?a ?b ?c ?d (RetR.framed lF' lN' ?_); (case l => is_list); (case i => assumption); (case g => assumption); (case n => omega); (case a => omega); (case b => omega); (case c => omega); (case d => omega); (intro r9 vs9 n9 ns9 h9 tk9 F9 N9 hne9 hi9 hr9); k_sweep))
section
namespace C245
structure St where
  x : Int
  t : Tok
  ob : Obj
  oc : Obj
end C245
section
theorem c_law_drawn {w : World} {A : Around} {s : Shared} {Q : Value → Shared → Prop} {E} {b c : Addr} {ob oc : Obj} {wd : Int} {t1 : Tok}
    (W : Wd w (hideAll s.heap [b, c])) (R : Room A 2) (hw : 2 ≤ wd) (hw9 : wd ≤ 9) (hb : s.heap.get? b = some ob) (hc : s.heap.get? c = some oc) (hne : @Ne Nat b c) (hBx : BoxO c ob oc)
    (ret : RetTake Q s b c ((2 ^ wd.toNat) ^ 6)) :
    wpAny (model PG w) A (call (.ref 245) [.ref b, .int wd t1]) Q E s := by
  have hB := wid_pow hw hw9
  have X₀ := W.unhide.X
  obtain ⟨mean₀, mg₀, mb₀, T₀⟩ := W.unhide.T
  obtain ⟨hhA, hdA, huA⟩ := R
  obtain ⟨ha, dp, fr, gd, un⟩ := A
  dsimp only at hhA hdA huA
  subst hhA
  refine enter (binds := [(Str.ofString "box", .ref b), (Str.ofString "w", .int wd t1)]) X₀ T₀.nolimit (by k_is) (by k_is) (by show dp < 1000; omega) (BindsTo.of_eq rfl) (locs rfl) rfl rfl rfl (by decide) ?_
  intro L h₁ tk F₀ N₀
  obtain ⟨F, N⟩ := box_frame F₀ hb hc
  clear F₀ N₀ X₀ T₀
  have X := W.X
  obtain ⟨mean, mg, mb, T⟩ := W.T
  walk_at "my steps"
  refine unstop ?_
  rename Fr _ _ _ _ => F'
  rename News _ _ _ _ => N'
  rename BoxO _ _ _ => hB0
  refine forR (σ := C245.St) (fun c => [(Str.ofString "found", .int c.x c.t), (Str.ofString "box", .ref b), (Str.ofString "w", .int wd t1)]) (fun k => [(b, k.ob), (c, k.oc)])
    (fun i k => BoxO c k.ob k.oc ∧ 0 ≤ k.x ∧ k.x < (2 ^ wd.toNat) ^ i) ⟨0, _, _, _⟩ rfl (by assumption) (small_one (by omega) (by omega) (by omega) (by omega)) (rangeSize_nat _ _) F' N' (hn1 (by k_memK) <| hn1 (by k_memK) hn0) (hk1 rfl <| hk1 rfl <| hk1 rfl hk0) ?_ ?_ ?_
  · exact ⟨hB0, Int.le_refl _, by simp⟩
  · rintro i t ⟨x, t3, ob1, oc1⟩ u h tk' own hi ⟨hB1, hx0, hx1⟩ hoff F N
    dsimp only at F N hB1 hx0 hx1
    have hi6 : i < 6 := by omega
    have hbits := bits_of hx0 (by omega) hB.2 (show i ≤ 1000 by omega) hx1
    have hown : ∀ p ∈ own, p.1 ≠ b ∧ p.1 ≠ c := fun p hp => ⟨hoff p hp _ (.head _), hoff p hp _ (.tail _ (.head _))⟩
    simp only [List.cons_append, List.nil_append] at N
    walk_at "my steps"
    rename Fr _ _ _ _ => F'
    rename News _ _ _ _ => N'
    rename BoxO _ _ _ => hB2
    rename _ < 1 * 2 ^ wd.toNat => hm1
    have hm := fun h0 j => draw_step (B := 2 ^ wd.toNat) (by omega) hx0 hx1 (menu_ok (by omega) h0 hm1 j).1 (menu_ok (by omega) h0 hm1 j).2
    exact TEnd.next ⟨_, _, _, _⟩ F' N' (hn1 (by k_memK) <| hn1 (by k_memK) hn0) (fun p hp => .tail _ (.tail _ (.tail _ hp))) (by exact hoff) (hk1 rfl <| hk1 rfl <| hk1 rfl hk0) ⟨hB2, hm (by assumption) _⟩
  · rintro ⟨x, t3, ob1, oc1⟩ u h tk' ⟨hB1, hx0, hx1⟩ F N
    dsimp only at F N hB1 hx0 hx1
    dsimp only
    walk_at "my steps"
    refine ret.out F N (.head _) (.tail _ (.head _)) hB1 hx0 (Int.lt_of_lt_of_le hx1 (pow_le_pow (by omega) ?_))
    omega
end
end
local macro_rules | `(tactic| walk_at "call ref") => `(tactic| ((with_reducible show wpAny _ _ (call (Value.ref 245) _) _ _ _); (rename Fr _ _ _ _ => lF'); (rename News _ _ _ _ => lN'); (rename BoxO _ _ _ => lB'); (have lb' := News.get lN' (List.Mem.head _)); (have lc' := News.get lN' (List.Mem.tail _ (List.Mem.head _))); refine' c_law_drawn (Wd.hide (by assumption) lF' lN') (room_in (by omega) (by omega)) (by assumption) (by assumption) lb' lc' (by first | assumption | omega) lB'  (RetTake.framed lF' lN' (by first | exact apart_nil | assumption) ?_); (intro r9 t9 ob9 oc9 h9 tk9 F9 N9 hB9 hr9 hs9); (clear lB' lb' lc'); k_sweep))
section
section
local macro_rules | `(tactic| walk_at "subscriptTail Name Slice ref ref") => `(tactic| (k_here; (with_reducible show wpAny _ _ (subscriptTail _ (PySem.Expr.Slice none none (some _) _) (Value.ref _) (Value.ref _)) _ _ _); k_dflt (refine' sl_two ?F ?N ?l ?i ?z ?_ ?s ?t; (case F => k_asm); (case N => k_asm); (case l => kmk_list); (case i => assumption); (case z => simp only [List.length_reverse]; omega); (case s => with_unfolding_all rfl); (case t => kmk_pure)); intro D' ws' h' F' N' l1 hI'; (try k_lt l1); (try k_sweep)))
local macro_rules | `(tactic| walk_at "subscriptTail Name Slice ref ref") => `(tactic| (k_here; (with_reducible show wpAny _ _ (subscriptTail _ (PySem.Expr.Slice (some _) none (some _) _) (Value.ref _) (Value.ref _)) _ _ _); k_dflt (refine' sl_one_two ?F ?N ?l ?i ?z ?_ ?s ?t; (case F => k_asm); (case N => k_asm); (case l => kmk_list); (case i => assumption); (case z => simp only [List.length_reverse]; omega); (case s => with_unfolding_all rfl); (case t => kmk_pure)); intro D' ws' h' F' N' l1 hI'; (try k_lt l1); (try k_sweep)))
theorem c_rests_right {w : World} {A : Around} {s : Shared} {Q : Value → Shared → Prop} {E} {l1 : Addr} {vs1 : List Value} {ns1 : List Int} {n base : Int} {t1 t2 : Tok}
    (W : Wd w s.heap) (R : Room A 2) (hl1 : s.heap.IsList l1 vs1.toArray) (hi1 : IntsAre vs1 ns1) (hL : Lim base n ns1.reverse) (hlen : ns1.length ≤ 90) (h0 : 2 ≤ base) (h1 : base ≤ 16)
    (ret : RetT Q s) :
    wpAny (model PG w) A (call (.ref 252) [.int n t1, .ref l1, .int base t2]) Q E s := by
  have hsm := sum_mod hL.worth
  have ham := alt_mod hL.worth
  have X := W.X
  obtain ⟨mean, mg, mb, T⟩ := W.T
  obtain ⟨hhA, hdA, huA⟩ := R
  obtain ⟨ha, dp, fr, gd, un⟩ := A
  dsimp only at hhA hdA huA
  subst hhA
  refine enter (binds := [(Str.ofString "n", .int n t1), (Str.ofString "row", .ref l1), (Str.ofString "base", .int base t2)]) X T.nolimit (by k_is) (by k_is) (by show dp < 1000; omega) (BindsTo.of_eq rfl) (locs rfl) rfl rfl rfl (by decide) ?_
  intro L h₁ tk F N
  walk_at "my steps"
  · refine ret.out (by assumption) ?_
    rw [fmod_pos (by omega), fmod_pos (by omega), ham]
    exact beq_self_eq_true _
  · refine ret.out (by assumption) ?_
    rw [fmod_pos (by omega), fmod_pos (by omega), hsm]
    exact beq_self_eq_true _
end
end
local macro_rules | `(tactic| walk_at "call ref") => `(tactic| ((with_reducible show wpAny _ _ (call (Value.ref 252) _) _ _ _); (rename Fr _ _ _ _ => lF'); (rename News _ _ _ _ => lN'); refine' c_rests_right (Wd.fr (by assumption) lF') (room_in (by omega) (by omega)) ?l ?i ?g ?n ?c ?d (RetT.framed lF' lN' ?_); (case l => is_list); (case i => assumption); (case g => assumption); (case n => omega); (case c => omega); (case d => omega); (intro h9 tk9 F9 N9); k_sweep))
section
namespace C259
structure St where
  tot : Int
  tt : Tok
  r : Int
  tr : Tok
end C259
section
theorem ones_step {P n tot r : Int} (hP : 2 ≤ P) (h : (tot + r) % (P - 1) = n % (P - 1)) (h0 : 0 ≤ tot) (h1 : tot + r ≤ n) (hr : 0 < r) :
    (tot + r % P + r / P) % (P - 1) = n % (P - 1) ∧ 0 ≤ tot + r % P ∧ tot + r % P + r / P ≤ n ∧ 0 ≤ r / P := by
  have h3 := Int.mul_ediv_add_emod r P
  have h4 := Int.emod_nonneg r (show P ≠ 0 by omega)
  have h5 : 0 ≤ r / P := Int.ediv_nonneg (by omega) (by omega)
  have h6 : (P - 1) * (r / P) = P * (r / P) - r / P := by rw [Int.sub_mul, Int.one_mul]
  have h7 : 0 ≤ (P - 1) * (r / P) := Int.mul_nonneg (by omega) h5
  refine ⟨?_, by omega, by omega, h5⟩
  rw [← h, show tot + r = (tot + r % P + r / P) + (P - 1) * (r / P) by omega, Int.add_mul_emod_self_left]
theorem c_ones_right {w : World} {A : Around} {s : Shared} {Q : Value → Shared → Prop} {E} {n few wd : Int} {t1 t2 t3 : Tok}
    (W : Wd w s.heap) (R : Room A 4) (hw : 2 ≤ wd) (hw9 : wd ≤ 9) (h0 : 0 ≤ n) (hn : n < (2 ^ wd.toNat) ^ 100) (hf : 1 ≤ few) (hf1 : few ≤ wd)
    (ret : RetT Q s) :
    wpAny (model PG w) A (call (.ref 259) [.int n t1, .int few t2, .int wd t3]) Q E s := by
  have hB := wid_pow hw hw9
  have hn200 : n < (2 ^ wd.toNat) ^ 200 := Int.lt_of_lt_of_le hn (pow_le_pow (by omega) (by decide))
  have hp2 : (2 : Int) ^ few.toNat ≤ 2 ^ 9 := pow_le_pow (by decide) (by omega)
  have hp1 : (2 : Int) ^ 1 ≤ 2 ^ few.toNat := pow_le_pow (by decide) (by omega)
  rw [show (2 : Int) ^ 9 = 512 by decide] at hp2
  rw [show (2 : Int) ^ 1 = 2 by decide] at hp1
  have X := W.X
  obtain ⟨mean, mg, mb, T⟩ := W.T
  obtain ⟨hhA, hdA, huA⟩ := R
  obtain ⟨ha, dp, fr, gd, un⟩ := A
  dsimp only at hhA hdA huA
  subst hhA
  refine enter (binds := [(Str.ofString "n", .int n t1), (Str.ofString "few", .int few t2), (Str.ofString "w", .int wd t3)]) X T.nolimit (by k_is) (by k_is) (by show dp < 1000; omega) (BindsTo.of_eq rfl) (locs rfl) rfl rfl rfl (by decide) ?_
  intro L h₁ tk F N
  walk_at "my steps"
  refine unstop ?_
  rename Fr _ _ _ _ => F'
  rename News _ _ _ _ => N'
  refine whileW (σ := C259.St) (fun c => [(Str.ofString "total", .int c.tot c.tt), (Str.ofString "rest", .int c.r c.tr), (Str.ofString "n", .int n t1), (Str.ofString "few", .int few t2), (Str.ofString "w", .int wd t3)])
    (fun c => []) (fun c => (c.tot + c.r) % (2 ^ few.toNat - 1) = n % (2 ^ few.toNat - 1) ∧ 0 ≤ c.tot ∧ c.tot + c.r ≤ n ∧ 0 ≤ c.r) (fun c => c.r.toNat) ⟨0, _, n, _⟩
    F' N' hn0 (hk1 rfl <| hk1 rfl <| hk1 rfl <| hk1 rfl <| hk1 rfl hk0) ?_ ?_ ?_
  · exact ⟨by simp, Int.le_refl _, by simp, h0⟩
  · rintro ⟨tot, tt, r, tr⟩ u h tk' ⟨hm, ht0, htn, hr0⟩ F N
    dsimp only at F N hm ht0 htn hr0
    by_cases hr : 0 < r
    · have st := ones_step (by omega) hm ht0 htn hr
      have hl := ediv_less (B := 2 ^ few.toNat) (by omega) hr
      walk_at "my steps"
      rename Fr _ _ _ _ => F'
      rename News _ _ _ _ => N'
      simp only [Int.one_mul, fmod_pos (show (0:Int) ≤ 2 ^ few.toNat by omega), fdiv_pos (show (0:Int) ≤ 2 ^ few.toNat by omega)] at F'
      exact WEnd.next ⟨_, _, _, _⟩ F' N' hn0 (hk1 rfl <| hk1 rfl <| hk1 rfl <| hk1 rfl <| hk1 rfl hk0) st (by dsimp only; omega)
    · obtain rfl : r = 0 := by omega
      walk_at "my steps"
      refine ret.out (by assumption) ?_
      rw [Int.one_mul, fmod_pos (by omega), ← hm, Int.add_zero]
      exact beq_self_eq_true _
  · passes_own
end
end
local macro_rules | `(tactic| walk_at "call ref") => `(tactic| ((with_reducible show wpAny _ _ (call (Value.ref 259) _) _ _ _); (rename Fr _ _ _ _ => lF'); (rename News _ _ _ _ => lN'); refine' c_ones_right (Wd.fr (by assumption) lF') (room_in (by omega) (by omega)) (by assumption) (by assumption) ?a ?x ?b ?c (RetT.framed lF' lN' ?_); (case a => first | assumption | omega); (case x => assumption); (case b => omega); (case c => omega); (intro h9 tk9 F9 N9); k_sweep))
section
theorem News.drop1 {g h : Heap} {L : Addr} {x : Addr × Obj} {l : List (Addr × Obj)} (N : News g L h (x :: l)) : News g L h l := fun p hp => N p (.tail _ hp)
theorem News.pick3 {g h : Heap} {L : Addr} {x y z : Addr × Obj} {l : List (Addr × Obj)} (N : News g L h l) (hx : x ∈ l) (hy : y ∈ l) (hz : z ∈ l) : News g L h [x, y, z] := fun p hp => by
  rcases List.mem_cons.mp hp with rfl | hp
  · exact N _ hx
  rcases List.mem_cons.mp hp with rfl | hp
  · exact N _ hy
  · rw [List.mem_singleton.mp hp]; exact N _ hz
theorem News.pick4 {g h : Heap} {L : Addr} {x y z v : Addr × Obj} {l : List (Addr × Obj)} (N : News g L h l) (hx : x ∈ l) (hy : y ∈ l) (hz : z ∈ l) (hv : v ∈ l) : News g L h [x, y, z, v] := fun p hp => by
  rcases List.mem_cons.mp hp with rfl | hp
  · exact N _ hx
  · exact News.pick3 N hy hz hv p hp
theorem off_one {b c la : Addr} {oa : Obj} (h1 : @Ne Nat la b) (h2 : @Ne Nat la c) : ∀ p ∈ [(la, oa)], p.1 ≠ b ∧ p.1 ≠ c := fun p hp => by
  rw [List.mem_singleton.mp hp]; exact ⟨h1, h2⟩
theorem off_two {b c la lr : Addr} {oa or : Obj} (h1 : @Ne Nat la b) (h2 : @Ne Nat la c) (h3 : @Ne Nat lr b) (h4 : @Ne Nat lr c) : ∀ p ∈ [(la, oa), (lr, or)], p.1 ≠ b ∧ p.1 ≠ c := fun p hp => by
  rcases List.mem_cons.mp hp with rfl | hp
  · exact ⟨h1, h2⟩
  · exact off_one h3 h4 p hp
theorem pack8 {r : Int} (h0 : 0 ≤ r) (h : r < 8) : ∃ x, 2 + r = x ∧ 2 ≤ x ∧ x ≤ 9 := ⟨_, rfl, by omega, by omega⟩
theorem pack11 {r : Int} (h0 : 0 ≤ r) (h : r < 11) : ∃ x, 2 + r = x ∧ 2 ≤ x ∧ x ≤ 12 := ⟨_, rfl, by omega, by omega⟩
theorem pack3 {r : Int} (h0 : 0 ≤ r) (h : r < 3) : ∃ x, 1 + r = x ∧ 1 ≤ x ∧ x ≤ 3 := ⟨_, rfl, by omega, by omega⟩
local macro_rules | `(tactic| walk_at "call ref") => `(tactic| (refine stop ?_))
local macro_rules | `(tactic| walk_at "binaryOp Pow int int") => `(tactic| (with_reducible refine pow_int_small (by omega) (by omega) (by omega) ?_))
local macro_rules | `(tactic| walk_at "compareOp Lt ref ref") => `(tactic| (refine stop ?_))
local macro_rules | `(tactic| walk_at "compareOp Gt ref ref") => `(tactic| (refine stop ?_))
theorem ne_same {prog : Program} {w : World} {A : Around} {E : Value → Shared → Prop} {s : Shared} {a : Int} {t u : Tok} {Q : Value → Shared → Prop} (h : Q (.bool false) s) : wpAny (model prog w) A (compareOp .NotEq (.int a t) (.int a u)) Q E s :=
  PyProof.Rows.ne_int (by rw [show (a != a) = false by simp]; exact h)
local macro_rules | `(tactic| walk_at "compareOp NotEq int int") => `(tactic| (with_reducible refine ne_same ?_))
theorem cmp_b2i {x y : Int} : cmpZ x y = b2i (decide (y < x)) - b2i (decide (x < y)) := cmp_less
theorem at_k {l : List (Addr × Obj)} (k : Nat) {x : Addr × Obj} (h : l[k]? = some x) : x ∈ l := List.mem_of_getElem? h
local macro_rules | `(tactic| walk_at "call ref") => `(tactic| ((with_reducible show wpAny _ _ (call (Value.ref 196) _) _ _ _); (rename Fr _ _ _ _ => lF'); (rename News _ _ _ _ => lN'); refine' c_law_box (Wd.fr (by assumption) lF') (room_in (by omega) (by omega)) ?l ?i ?n (RetBox.framed lF' lN' ?_); (case l => is_list); (case i => assumption); (case n => omega); (intro b9 c9 ob9 oc9 h9 tk9 F9 N9 hb9 hc9 hne9 hB9); k_sweep))
local macro_rules | `(tactic| walk_at "call ref") => `(tactic| ((with_reducible show wpAny _ _ (call (Value.ref 203) _) _ _ _); (rename Fr _ _ _ _ => lF'); (rename News _ _ _ _ => lN'); (rename BoxO _ _ _ => lB'); (have lb' := News.get lN' (List.Mem.tail _ (List.Mem.head _))); (have lc' := News.get lN' (List.Mem.tail _ (List.Mem.tail _ (List.Mem.head _)))); refine' c_law_take (Wd.hide1 (by assumption) lF' lN') (room_in (by omega) (by omega)) lb' lc' (by first | assumption | omega) lB' (by omega) (by omega) (RetTake.framed1 lF' lN' ⟨by omega, by omega⟩ (by first | exact apart_nil | assumption) ?_); (intro r9 t9 ob9 oc9 h9 tk9 F9 N9 hB9 hr9 hs9); (clear lB' lb' lc'); k_sweep))
local macro_rules | `(tactic| walk_at "call ref") => `(tactic| ((with_reducible show wpAny _ _ (call (Value.ref 203) _) _ _ _); (rename Fr _ _ _ _ => lF'); (rename News _ _ _ _ => lN'); (rename BoxO _ _ _ => lB'); (have lb' := News.get lN' (List.Mem.head _)); (have lc' := News.get lN' (List.Mem.tail _ (List.Mem.head _))); refine' c_law_take (Wd.hide (by assumption) lF' lN') (room_in (by omega) (by omega)) lb' lc' (by first | assumption | omega) lB' (by omega) (by omega) (RetTake.framed lF' lN' (by first | exact apart_nil | assumption) ?_); (intro r9 t9 ob9 oc9 h9 tk9 F9 N9 hB9 hr9 hs9); (clear lB' lb' lc'); k_sweep))
theorem main : PySem.Challenge.rw_nz0083_01.Holds := by
  refine holds_law said0 fun _ => ?_
  refine holds_open (q := hd.view_39) (loose := []) (XP := XL hd.view_39 []) (YP := hook.says) (N := 3502) hd.left (Hook.of hook) (Hook.keeps hook) (fun s e => xl_of s (Bool.and_eq_true_iff.mp e).1) XL.keeps (by rfl) (by rfl) (by rfl) (fun s e => recFacts_of (Bool.and_eq_true_iff.mp e).2) (by rfl) rowsaid (by decide +kernel) ⟨rfl, rfl, rfl, rfl, rfl, by decide +kernel⟩ ?hw ?hc
  case hw => w_witness2
  case hc =>
  k_go0
  rename Top _ _ _ _ _ _ => T0
  rename Frag.In _ _ => KX0
  rename Fr _ _ _ _ => F0
  rename News _ _ _ _ => N0
  rename ¬ _ < _ => hcond
  rename IntsAre _ _ => hi0
  rename Heap.IsList _ _ _ => hl0
  have W : Wd _ _ := ⟨KX0, _, _, _, T0⟩
  obtain ⟨dp, fr, gd, un, hA, hd1, hu1⟩ : ∃ dp fr gd un, callerA = { handled := none, depth := dp, frames := fr, guards := gd, units := un } ∧ dp + 200 < 900 ∧ un + 4 * 200 < 9000 := ⟨_, _, _, _, rfl, by decide, by decide⟩
  rw [hA]
  walk_at "my steps"
  refine unstop ?_
  rename Fr _ _ _ _ => F'
  rename News _ _ _ _ => N'
  rename _ < (8 : Int) => q8
  rename _ < (11 : Int) => q11
  rename _ < (3 : Int) => q3
  obtain ⟨wd, ew, hw, hw9⟩ := pack8 (by assumption) q8
  obtain ⟨base, eb, hb2, hb12⟩ := pack11 (by assumption) q11
  obtain ⟨size, es, hs1, hs3⟩ := pack3 (by assumption) q3
  simp only [ew, eb, es] at F' ⊢
  have hB := wid_pow hw hw9
  have N1 := News.drop1 N'
  clear N' ew eb es q8 q11 q3
  refine c_law_drawn (Wd.hide W F' N1) (room_in (by omega) (by omega)) hw hw9 (N1.get (.head _)) (N1.get (.tail _ (.head _))) (by assumption) (by assumption) (RetTake.framed F' N1 apart_nil ?_)
  intro n tn ob1 oc1 h1 tk1 F1 N2 hB1 hn0 hn6
  clear F' N1
  walk_at "my steps"
  refine unstop ?_
  rename Fr _ _ _ _ => F'
  rename News _ _ _ _ => N'
  refine c_law_drawn (Wd.hide W F' N') (room_in (by omega) (by omega)) hw hw9 (N'.get (.head _)) (N'.get (.tail _ (.head _))) (by assumption) (by assumption) (RetTake.framed F' N' apart_nil ?_)
  intro other to ob2 oc2 h2 tk2 F2 N3 hB2 ho0 ho6
  clear F' N'
  walk_at "my steps"
  refine unstop ?_
  rename Fr _ _ _ _ => F'
  rename News _ _ _ _ => N'
  refine c_law_limbs (K := 6) (Wd.fr W F') (room_in (by omega) (by omega)) hw hw9 hn0 hn6 (by decide) (RetR.framed F' N' ?_)
  intro la va ka ns h3 tk3 F3 N4 hla hia hLa
  have hla1 := Ne.symm (hla _ (.tail _ (.head _)))
  have hla2 := Ne.symm (hla _ (.tail _ (.tail _ (.head _))))
  clear F' N' hla
  walk_at "my steps"
  refine unstop ?_
  rename Fr _ _ _ _ => F'
  rename News _ _ _ _ => N'
  have N5 := News.pick3 N' (.tail _ (.tail _ (.head _))) (.tail _ (.tail _ (.tail _ (.head _)))) (.head _)
  clear N'
  refine c_law_take (Wd.hide W F' N5) (room_in (by omega) (by omega)) (N5.get (.head _)) (N5.get (.tail _ (.head _))) (by assumption) (by assumption) (by decide) (by decide) (RetTake.framed F' N5 (off_one hla1 hla2) ?_)
  intro r4 tr4 ob3 oc3 h4 tk4 F4 N6 hB3 hr40 hr41
  clear F' N5
  walk_at "my steps"
  refine unstop ?_
  rename Fr _ _ _ _ => F'
  rename News _ _ _ _ => N'
  have hn100 : n < (2 ^ wd.toNat) ^ 100 := Int.lt_of_lt_of_le hn6 (pow_le_pow (by omega) (by decide))
  have hn200 : n < (2 ^ wd.toNat) ^ 200 := Int.lt_of_lt_of_le hn6 (pow_le_pow (by omega) (by decide))
  have hn54 := drawn_lt hw hw9 hn6 hb2
  refine c_to_digits (Wd.fr W F') (room_in (by omega) (by omega)) hw hw9 (lst_of (N'.get (by k_memK))) hia hLa hn100 hb2 (by omega) (RetR.framed F' N' ?_)
  intro lr vr kr row h5 tk5 F5 N6 hlr hir hLr
  have hrow := row_len hb2 hLr hn54
  have hgr := hLr.good.of_reverse
  have hlr1 := Ne.symm (hlr _ (.tail _ (.head _)))
  have hlr2 := Ne.symm (hlr _ (.tail _ (.tail _ (.head _))))
  clear F' N' hlr
  walk_at "my steps"
  refine unstop ?_
  rename Fr _ _ _ _ => F'
  rename News _ _ _ _ => N'
  have hbs2 := sq_ge base hb2 size.toNat (by omega)
  have hbs4 : base ^ size.toNat ≤ 4000 := by
    have e1 : base ^ size.toNat ≤ base ^ 3 := pow_le_pow (by omega) (by omega)
    have e2 : base ^ 3 ≤ 12 ^ 3 := pow_mono_base (by omega) hb12 3
    omega
  refine c_to_digits (Wd.fr W F') (room_in (by omega) (by omega)) hw hw9 (lst_of (N'.get (by k_memK))) hia hLa hn100 hbs2 hbs4 (RetR.framed F' N' ?_)
  intro lg vg kg gr h6 tk6 F6 N7 hlg hig hLg
  clear F' N' hlg
  walk_at "my steps"
  refine unstop ?_
  rename Fr _ _ _ _ => F'
  rename News _ _ _ _ => N'
  refine c_grouped (Wd.fr W F') (room_in (by omega) (by omega)) (lst_of (N'.get (by k_memK))) hir hLr (by omega) hs1 hs3 hb2 (by omega) (RetR.framed F' N' ?_)
  intro lh vh kh hr h7 tk7 F7 N8 hlh hih hLh
  obtain rfl := same_rows (by omega) hLg hLh
  clear F' N' hlh
  walk_at "my steps"
  refine unstop ?_
  rename Fr _ _ _ _ => F'
  rename News _ _ _ _ => N'
  have N9 := News.pick4 N' (.tail _ (.tail _ (.tail _ (.tail _ (.head _))))) (.tail _ (.tail _ (.tail _ (.tail _ (.tail _ (.head _)))))) (.tail _ (.tail _ (.tail _ (.tail _ (.tail _ (.tail _ (.head _))))))) (.tail _ (.tail _ (.head _)))
  clear N'
  refine c_law_take (Wd.hide W F' N9) (room_in (by omega) (by omega)) (N9.get (.head _)) (N9.get (.tail _ (.head _))) (by assumption) (by assumption) (by decide) (by decide) (RetTake.framed F' N9 (off_two hla1 hla2 hlr1 hlr2) ?_)
  intro many tm ob4 oc4 h8 tk8 F8 N10 hB4 hm0 hm4
  clear F' N9
  have hpm0 := pow_pos' (show 0 < base by omega) many.toNat
  have hpmne : base ^ many.toNat ≠ 0 := Int.ne_of_gt hpm0
  have hpm4 : base ^ many.toNat ≤ 1728 := by
    have e1 : base ^ many.toNat ≤ base ^ 3 := pow_le_pow (by omega) (by omega)
    have e2 : base ^ 3 ≤ 12 ^ 3 := pow_mono_base (by omega) hb12 3
    omega
  have hbn : Builtin.Int.intBits n ≤ 1048576 := bits_of hn0 (by omega) hB.2 (by decide) hn6
  have hbm : Builtin.Int.intBits (base ^ many.toNat) ≤ 1048576 := bits_of (B := 512) (k := 2) (by omega) (by decide) (by decide) (by decide) (by omega)
  have hlog : (base ^ many.toNat).natAbs.log2 < 9000 := log_of (B := 512) (k := 2) (by omega) (by decide) (by decide) (by decide) (by omega)
  have hgz := noughts_good hb2 hgr many.toNat
  have hlz90 : (row ++ List.replicate many.toNat (0 : Int)).length ≤ 90 := by rw [List.length_append, List.length_replicate]; omega
  have hz200 := bound_200 hB.1 hb2 (by omega) hlz90 hgz
  rw [noughts_val hLr] at hz200
  walk_at "my steps"
  refine unstop ?_
  rename Fr _ _ _ _ => F'
  rename News _ _ _ _ => N'
  rename IntsAre _ (row ++ _) => hiz
  rw [flat_rep] at hiz
  refine c_from_digits (Wd.fr W F') (room_in (by omega) (by omega)) hw hw9 (by is_list) hiz hgz hlz90 hb2 (by omega) (RetR.framed F' N' ?_)
  intro lz vz kz nz h9 tk9 F9 N11 hlz hiz2 hLz
  rw [noughts_val hLr] at hLz
  clear F' N' hlz
  walk_at "my steps"
  refine unstop ?_
  rename Fr _ _ _ _ => F'
  rename News _ _ _ _ => N'
  refine c_law_number' (Wd.fr W F') (room_in (by omega) (by omega)) hw hw9 (lst_of (N'.get (by k_memK))) hiz2 hLz hz200 (RetI.framed F' N' ?_)
  intro tz h10 tk10 F10 N12
  clear F' N'
  walk_at "my steps"
  refine unstop ?_
  rename Fr _ _ _ _ => F'
  rename News _ _ _ _ => N'
  rename IntsAre _ (List.take _ row) => hiq
  have hgq := hgr.take (if (0 : Int) > ↑row.length - many then 0 else ↑row.length - many).toNat
  have hvq := quot_val (k := (if (0 : Int) > ↑row.length - many then 0 else ↑row.length - many).toNat) (m := many.toNat) hb2 hLr (by split <;> omega)
  have hlq90 : (List.take (if (0 : Int) > ↑row.length - many then 0 else ↑row.length - many).toNat row).length ≤ 90 := by rw [List.length_take]; omega
  have hq200 := bound_200 hB.1 hb2 (by omega) hlq90 hgq
  refine c_from_digits (Wd.fr W F') (room_in (by omega) (by omega)) hw hw9 (by is_list) hiq hgq hlq90 hb2 (by omega) (RetR.framed F' N' ?_)
  intro lq vq kq nq h11 tk11 F11 N13 hlq hiq2 hLq
  rw [hvq, ← fdiv_pos (Int.le_of_lt hpm0)] at hLq hq200
  clear F' N' hlq
  walk_at "my steps"
  refine unstop ?_
  rename Fr _ _ _ _ => F'
  rename News _ _ _ _ => N'
  refine c_law_number' (Wd.fr W F') (room_in (by omega) (by omega)) hw hw9 (lst_of (N'.get (by k_memK))) hiq2 hLq hq200 (RetI.framed F' N' ?_)
  intro tq h12 tk12 F12 N14
  clear F' N'
  walk_at "my steps"
  refine unstop ?_
  rename Fr _ _ _ _ => F'
  rename News _ _ _ _ => N'
  have N15 := News.pick4 N' (at_k 6 rfl) (at_k 7 rfl) (at_k 8 rfl) (at_k 9 rfl)
  clear N'
  refine c_rests_right (Wd.fr W F') (room_in (by omega) (by omega)) (lst_of (N15.get (at_k 3 rfl))) hir hLr (by omega) hb2 (by omega) (RetT.framed F' N15 ?_)
  intro h13 tk13 F13 N16
  clear F' N15
  walk_at "my steps"
  refine unstop ?_
  rename Fr _ _ _ _ => F'
  rename News _ _ _ _ => N'
  refine c_law_take (Wd.hide W F' N') (room_in (by omega) (by omega)) (N'.get (.head _)) (N'.get (.tail _ (.head _))) (by assumption) (by assumption) (by omega) (by omega) (RetTake.framed F' N' (off_two hla1 hla2 hlr1 hlr2) ?_)
  intro few tf ob5 oc5 h14 tk14 F14 N17 hB5 hf0 hf1
  clear F' N'
  walk_at "my steps"
  refine unstop ?_
  rename Fr _ _ _ _ => F'
  rename News _ _ _ _ => N'
  refine c_ones_right (Wd.fr W F') (room_in (by omega) (by omega)) hw hw9 hn0 hn100 (by omega) (by omega) (RetT.framed F' N' ?_)
  intro h15 tk15 F15 N18
  clear F' N'
  walk_at "my steps"
  refine unstop ?_
  rename Fr _ _ _ _ => F'
  rename News _ _ _ _ => N'
  refine c_law_limbs (K := 6) (Wd.fr W F') (room_in (by omega) (by omega)) hw hw9 ho0 ho6 (by decide) (RetR.framed F' N' ?_)
  intro lo vo ko no h16 tk16 F16 N19 hlo hio hLo
  clear F' N' hlo
  have ho100 : other < (2 ^ wd.toNat) ^ 100 := Int.lt_of_lt_of_le ho6 (pow_le_pow (by omega) (by decide))
  have ho200 : other < (2 ^ wd.toNat) ^ 200 := Int.lt_of_lt_of_le ho6 (pow_le_pow (by omega) (by decide))
  have ho54 := drawn_lt hw hw9 ho6 hb2
  walk_at "my steps"
  refine unstop ?_
  rename Fr _ _ _ _ => F'
  rename News _ _ _ _ => N'
  refine c_to_digits (Wd.fr W F') (room_in (by omega) (by omega)) hw hw9 (lst_of (N'.get (by k_memK))) hio hLo ho100 hb2 (by omega) (RetR.framed F' N' ?_)
  intro lm vm km mate h17 tk17 F17 N20 hlm him hLm
  clear F' N' hlm
  have hmate := row_len hb2 hLm ho54
  walk_at "my steps"
  refine unstop ?_
  rename Fr _ _ _ _ => F'
  rename News _ _ _ _ => N'
  rename IntsAre _ (_ ++ row) => h1i
  rename IntsAre _ (_ ++ mate) => h2i
  rw [flat_rep] at h1i h2i
  have hlt := rows_less (j := ((if (mate.length : Int) > row.length then (mate.length : Int) else row.length) - row.length).toNat) (k := ((if (mate.length : Int) > row.length then (mate.length : Int) else row.length) - mate.length).toNat) hb2 hLr hLm (by split <;> omega)
  have hgt := rows_less (j := ((if (mate.length : Int) > row.length then (mate.length : Int) else row.length) - mate.length).toNat) (k := ((if (mate.length : Int) > row.length then (mate.length : Int) else row.length) - row.length).toNat) hb2 hLm hLr (by split <;> omega)
  have hlen12 : (List.replicate ((if (mate.length : Int) > row.length then (mate.length : Int) else row.length) - row.length).toNat 0 ++ row).length = (List.replicate ((if (mate.length : Int) > row.length then (mate.length : Int) else row.length) - mate.length).toNat 0 ++ mate).length := by
    rw [List.length_append, List.length_append, List.length_replicate, List.length_replicate]
    split <;> omega
  refine c_law_limbs (K := 6) (Wd.fr W F') (room_in (by omega) (by omega)) hw hw9 ho0 ho6 (by decide) (RetR.framed F' N' ?_)
  intro lp vp kp np h18 tk18 F18 N21 hlp hip hLp
  clear F' N' hlp
  walk_at "my steps"
  refine unstop ?_
  rename Fr _ _ _ _ => F'
  rename News _ _ _ _ => N'
  refine c_compare' (Wd.fr W F') (room_in (by omega) (by omega)) hw hw9 (lst_of (N'.get (by k_memK))) hia hLa hn200 (lst_of (N'.get (by k_memK))) hip hLp ho200 (RetI.framed F' N' ?_)
  intro tc h19 tk19 F19 N22
  clear F' N'
  rw [cmp_b2i]
  walk_at "my steps"
  refine unstop ?_
  rename Fr _ _ _ _ => F'
  rename News _ _ _ _ => N'
  refine gt_ints (by is_list) h1i (by is_list) h2i hlen12 (by units_room) ?_
  rw [hgt]
  walk_at "my steps"
  refine unstop ?_
  rename Fr _ _ _ _ => F'
  rename News _ _ _ _ => N'
  refine lt_ints (by is_list) h1i (by is_list) h2i hlen12 (by units_room) ?_
  rw [hlt]
  walk_at "my steps"
  refine unstop ?_
  rename Fr _ _ _ _ => F'
  rename News _ _ _ _ => N'
  refine c_law_limbs (K := 6) (Wd.fr W F') (room_in (by omega) (by omega)) (by decide) (by decide) (by decide) (by decide) (by decide) (RetR.framed F' N' ?_)
  intro lt vt kt nt h20 tk20 F20 N23 hlt hit hLt
  clear F' N' hlt
  walk_at "my steps"
  refine unstop ?_
  rename Fr _ _ _ _ => F'
  rename News _ _ _ _ => N'
  refine c_to_digits (Wd.fr W F') (room_in (by omega) (by omega)) (by decide) (by decide) (lst_of (N'.get (by k_memK))) hit hLt (by decide) (by decide) (by decide) (RetR.framed F' N' ?_)
  intro lu vu ku nu h21 tk21 F21 N24 hlu hiu hLu
  obtain rfl := thousand hLu
  clear F' N' hlu
  walk_at "my steps"
  k_steps
end
end
end Mine
theorem PySem.Challenge.cw_nz0083_01_holds : PySem.Challenge.rw_nz0083_01.Holds :=
  Mine.main
