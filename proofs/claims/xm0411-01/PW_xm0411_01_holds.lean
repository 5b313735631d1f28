import PyProof.Rows.All
import Wide.All
import OpenK.AllK
import Wide.FinOn
import Lean
import PySem.Challenge.RW_xm0411_01
set_option Elab.async false
section
open PySem PySem.W PyProof.Rows
namespace Mine
/-- the def that stands at place i of the text's top, as the object that the run lays for it -/
def fnO (i : Nat) (pm : Value) (cd : Addr) : Obj := match PySem.Challenge.pw_xm0411_01.main.body[i]? with
  | some (.FunctionDef name args body _ _ _ scope _ _ _) => { cls := .type "function", data := .func (fnOf name name args body scope .none .none .none pm none (.ref cd) .none) }
  | _ => default
/-- the part of the heap that the walk looks into: written by a small program out of the kit's own run -/
def KK (P : Params) : Frag :=
    (nat_lit 2, { cls := Value.none, data := Data.dict #[{ hash := PyData.keyHash P (Str.ofString "type.__subclasses__.Exception.0"), key := Value.str (Str.ofString "type.__subclasses__.Exception.0") 205, val := Value.int 24 0 }, { hash := PyData.keyHash P (Str.ofString "type.__subclasses__.Exception.n"), key := Value.str (Str.ofString "type.__subclasses__.Exception.n") 206, val := Value.int 1 0 }] 2 }) ::
    (nat_lit 3, { cls := Value.type "dict", data := Data.dict (List.toArray (({ hash := PyData.keyHash P (Str.ofString "__name__"), key := Value.str (Str.ofString "__name__") 165, val := Value.str (Str.ofString "law_xm0411_01") 575 } : DictEntry) :: ({ hash := PyData.keyHash P (Str.ofString "__doc__"), key := Value.str (Str.ofString "__doc__") 166, val := Value.none } : DictEntry) :: ({ hash := PyData.keyHash P (Str.ofString "__package__"), key := Value.str (Str.ofString "__package__") 167, val := Value.none } : DictEntry) :: ({ hash := PyData.keyHash P (Str.ofString "__loader__"), key := Value.str (Str.ofString "__loader__") 168, val := Value.builtin "__main__.__loader__#opaque" } : DictEntry) :: ({ hash := PyData.keyHash P (Str.ofString "__spec__"), key := Value.str (Str.ofString "__spec__") 169, val := Value.none } : DictEntry) :: ({ hash := PyData.keyHash P (Str.ofString "__annotations__"), key := Value.str (Str.ofString "__annotations__") 170, val := Value.ref 6 } : DictEntry) :: ({ hash := PyData.keyHash P (Str.ofString "__builtins__"), key := Value.str (Str.ofString "__builtins__") 171, val := Value.ref 4 } : DictEntry) :: ({ hash := PyData.keyHash P (Str.ofString "__file__"), key := Value.str (Str.ofString "__file__") 173, val := Value.str (Str.ofString "/claim/cut.py") 172 } : DictEntry) :: ({ hash := PyData.keyHash P (Str.ofString "__cached__"), key := Value.str (Str.ofString "__cached__") 174, val := Value.none } : DictEntry) :: ({ hash := PyData.keyHash P (Str.ofString "GmpError"), key := Value.str (Str.ofString "GmpError") 208, val := Value.ref 24 } : DictEntry) :: ({ hash := PyData.keyHash P (Str.ofString "DivisionByZero"), key := Value.str (Str.ofString "DivisionByZero") 224, val := Value.ref 37 } : DictEntry) :: ({ hash := PyData.keyHash P (Str.ofString "OutOfRange"), key := Value.str (Str.ofString "OutOfRange") 240, val := Value.ref 49 } : DictEntry) :: ({ hash := PyData.keyHash P (Str.ofString "normal"), key := Value.str (Str.ofString "normal") 248, val := Value.ref 58 } : DictEntry) :: ({ hash := PyData.keyHash P (Str.ofString "nat_of"), key := Value.str (Str.ofString "nat_of") 258, val := Value.ref 65 } : DictEntry) :: ({ hash := PyData.keyHash P (Str.ofString "compare"), key := Value.str (Str.ofString "compare") 267, val := Value.ref 72 } : DictEntry) :: ({ hash := PyData.keyHash P (Str.ofString "divrem_limb"), key := Value.str (Str.ofString "divrem_limb") 279, val := Value.ref 79 } : DictEntry) :: ({ hash := PyData.keyHash P (Str.ofString "shift_left"), key := Value.str (Str.ofString "shift_left") 294, val := Value.ref 86 } : DictEntry) :: ({ hash := PyData.keyHash P (Str.ofString "shift_right"), key := Value.str (Str.ofString "shift_right") 309, val := Value.ref 93 } : DictEntry) :: ({ hash := PyData.keyHash P (Str.ofString "bits"), key := Value.str (Str.ofString "bits") 317, val := Value.ref 100 } : DictEntry) :: ({ hash := PyData.keyHash P (Str.ofString "sieve"), key := Value.str (Str.ofString "sieve") 330, val := Value.ref 107 } : DictEntry) :: ({ hash := PyData.keyHash P (Str.ofString "need_count"), key := Value.str (Str.ofString "need_count") 337, val := Value.ref 114 } : DictEntry) :: ({ hash := PyData.keyHash P (Str.ofString "power_of_count"), key := Value.str (Str.ofString "power_of_count") 349, val := Value.ref 121 } : DictEntry) :: ({ hash := PyData.keyHash P (Str.ofString "product_of_powers"), key := Value.str (Str.ofString "product_of_powers") 359, val := Value.ref 128 } : DictEntry) :: ({ hash := PyData.keyHash P (Str.ofString "factorial_exponent"), key := Value.str (Str.ofString "factorial_exponent") 368, val := Value.ref 135 } : DictEntry) :: ({ hash := PyData.keyHash P (Str.ofString "binomial"), key := Value.str (Str.ofString "binomial") 381, val := Value.ref 142 } : DictEntry) :: ({ hash := PyData.keyHash P (Str.ofString "plain_of"), key := Value.str (Str.ofString "plain_of") 393, val := Value.ref 149 } : DictEntry) :: ({ hash := PyData.keyHash P (Str.ofString "check_base"), key := Value.str (Str.ofString "check_base") 400, val := Value.ref 156 } : DictEntry) :: ({ hash := PyData.keyHash P (Str.ofString "digit_off"), key := Value.str (Str.ofString "digit_off") 412, val := Value.ref 163 } : DictEntry) :: ({ hash := PyData.keyHash P (Str.ofString "digits_plain"), key := Value.str (Str.ofString "digits_plain") 424, val := Value.ref 170 } : DictEntry) :: ({ hash := PyData.keyHash P (Str.ofString "base_powers"), key := Value.str (Str.ofString "base_powers") 436, val := Value.ref 177 } : DictEntry) :: ({ hash := PyData.keyHash P (Str.ofString "with_noughts"), key := Value.str (Str.ofString "with_noughts") 444, val := Value.ref 184 } : DictEntry) :: ({ hash := PyData.keyHash P (Str.ofString "digits_by_powers"), key := Value.str (Str.ofString "digits_by_powers") 462, val := Value.ref 191 } : DictEntry) :: ({ hash := PyData.keyHash P (Str.ofString "to_digits"), key := Value.str (Str.ofString "to_digits") 475, val := Value.ref 198 } : DictEntry) :: ({ hash := PyData.keyHash P (Str.ofString "mul_school"), key := Value.str (Str.ofString "mul_school") 493, val := Value.ref 205 } : DictEntry) :: ({ hash := PyData.keyHash P (Str.ofString "divrem_small"), key := Value.str (Str.ofString "divrem_small") 504, val := Value.ref 212 } : DictEntry) :: ({ hash := PyData.keyHash P (Str.ofString "guessed_limb"), key := Value.str (Str.ofString "guessed_limb") 518, val := Value.ref 219 } : DictEntry) :: ({ hash := PyData.keyHash P (Str.ofString "take_away"), key := Value.str (Str.ofString "take_away") 534, val := Value.ref 226 } : DictEntry) :: ({ hash := PyData.keyHash P (Str.ofString "put_back"), key := Value.str (Str.ofString "put_back") 548, val := Value.ref 233 } : DictEntry) :: ({ hash := PyData.keyHash P (Str.ofString "divide_rows"), key := Value.str (Str.ofString "divide_rows") 561, val := Value.ref 240 } : DictEntry) :: ({ hash := PyData.keyHash P (Str.ofString "divrem_school"), key := Value.str (Str.ofString "divrem_school") 574, val := Value.ref 247 } : DictEntry) :: ({ hash := PyData.keyHash P (Str.ofString "_law_summed"), key := Value.str (Str.ofString "_law_summed") 584, val := Value.ref 254 } : DictEntry) :: ({ hash := PyData.keyHash P (Str.ofString "_law_limbs"), key := Value.str (Str.ofString "_law_limbs") 593, val := Value.ref 261 } : DictEntry) :: ({ hash := PyData.keyHash P (Str.ofString "_law_worth"), key := Value.str (Str.ofString "_law_worth") 603, val := Value.ref 268 } : DictEntry) :: ({ hash := PyData.keyHash P (Str.ofString "_law_row"), key := Value.str (Str.ofString "_law_row") 609, val := Value.ref 273 } : DictEntry) :: ({ hash := PyData.keyHash P (Str.ofString "_law_carries"), key := Value.str (Str.ofString "_law_carries") 620, val := Value.ref 280 } : DictEntry) :: ({ hash := PyData.keyHash P (Str.ofString "_law_told"), key := Value.str (Str.ofString "_law_told") 629, val := Value.ref 287 } : DictEntry) :: ({ hash := PyData.keyHash P (Str.ofString "law"), key := Value.str (Str.ofString "law") 635, val := Value.ref 292 } : DictEntry) :: [])) 47 }) ::
    (nat_lit 57, { cls := Value.type "code", data := Data.fields #[Value.str (Str.ofString "normal") 241, Value.str (Str.ofString "normal") 242, Value.str (Str.ofString "/claim/cut.py") 243, Value.int 8 0, Value.int 1 0, Value.int 0 0, Value.int 0 0, Value.int 3 0, Value.ref 52, Value.bool true, Value.int 181 0, Value.ref 53, Value.none, Value.ref 54, Value.ref 55, Value.ref 56, Value.int 246 0, Value.int 8 0, Value.str (Str.ofString "/claim/cut.py") 247] }) ::
    (nat_lit 58, fnO 4 (Value.str (Str.ofString "gmp.limbs") 187) 57) ::
    (nat_lit 64, { cls := Value.type "code", data := Data.fields #[Value.str (Str.ofString "nat_of") 249, Value.str (Str.ofString "nat_of") 250, Value.str (Str.ofString "/claim/cut.py") 251, Value.int 13 0, Value.int 2 0, Value.int 0 0, Value.int 0 0, Value.int 3 0, Value.ref 59, Value.bool true, Value.int 181 0, Value.ref 60, Value.none, Value.ref 61, Value.ref 62, Value.ref 63, Value.int 256 0, Value.int 13 0, Value.str (Str.ofString "/claim/cut.py") 257] }) ::
    (nat_lit 65, fnO 5 (Value.str (Str.ofString "gmp.limbs") 187) 64) ::
    (nat_lit 78, { cls := Value.type "code", data := Data.fields #[Value.str (Str.ofString "divrem_limb") 268, Value.str (Str.ofString "divrem_limb") 269, Value.str (Str.ofString "/claim/cut.py") 270, Value.int 28 0, Value.int 3 0, Value.int 0 0, Value.int 0 0, Value.int 3 0, Value.ref 73, Value.bool true, Value.int 181 0, Value.ref 74, Value.none, Value.ref 75, Value.ref 76, Value.ref 77, Value.int 277 0, Value.int 28 0, Value.str (Str.ofString "/claim/cut.py") 278] }) ::
    (nat_lit 79, fnO 7 (Value.str (Str.ofString "gmp.limbs") 187) 78) ::
    (nat_lit 106, { cls := Value.type "code", data := Data.fields #[Value.str (Str.ofString "sieve") 320, Value.str (Str.ofString "sieve") 321, Value.str (Str.ofString "/claim/cut.py") 322, Value.int 59 0, Value.int 1 0, Value.int 0 0, Value.int 0 0, Value.int 3 0, Value.ref 101, Value.bool true, Value.int 181 0, Value.ref 102, Value.none, Value.ref 103, Value.ref 104, Value.ref 105, Value.int 328 0, Value.int 59 0, Value.str (Str.ofString "/claim/cut.py") 329] }) ::
    (nat_lit 107, fnO 12 (Value.str (Str.ofString "gmp.counts") 318) 106) ::
    (nat_lit 113, { cls := Value.type "code", data := Data.fields #[Value.str (Str.ofString "need_count") 331, Value.str (Str.ofString "need_count") 332, Value.str (Str.ofString "/claim/cut.py") 333, Value.int 68 0, Value.int 1 0, Value.int 0 0, Value.int 0 0, Value.int 3 0, Value.ref 108, Value.bool true, Value.int 181 0, Value.ref 109, Value.none, Value.ref 110, Value.ref 111, Value.ref 112, Value.int 335 0, Value.int 68 0, Value.str (Str.ofString "/claim/cut.py") 336] }) ::
    (nat_lit 114, fnO 13 (Value.str (Str.ofString "gmp.counts") 318) 113) ::
    (nat_lit 120, { cls := Value.type "code", data := Data.fields #[Value.str (Str.ofString "power_of_count") 338, Value.str (Str.ofString "power_of_count") 339, Value.str (Str.ofString "/claim/cut.py") 340, Value.int 71 0, Value.int 4 0, Value.int 0 0, Value.int 0 0, Value.int 3 0, Value.ref 115, Value.bool true, Value.int 181 0, Value.ref 116, Value.none, Value.ref 117, Value.ref 118, Value.ref 119, Value.int 347 0, Value.int 71 0, Value.str (Str.ofString "/claim/cut.py") 348] }) ::
    (nat_lit 121, fnO 14 (Value.str (Str.ofString "gmp.counts") 318) 120) ::
    (nat_lit 127, { cls := Value.type "code", data := Data.fields #[Value.str (Str.ofString "product_of_powers") 350, Value.str (Str.ofString "product_of_powers") 351, Value.str (Str.ofString "/claim/cut.py") 352, Value.int 80 0, Value.int 3 0, Value.int 0 0, Value.int 0 0, Value.int 3 0, Value.ref 122, Value.bool true, Value.int 181 0, Value.ref 123, Value.none, Value.ref 124, Value.ref 125, Value.ref 126, Value.int 357 0, Value.int 80 0, Value.str (Str.ofString "/claim/cut.py") 358] }) ::
    (nat_lit 128, fnO 15 (Value.str (Str.ofString "gmp.counts") 318) 127) ::
    (nat_lit 134, { cls := Value.type "code", data := Data.fields #[Value.str (Str.ofString "factorial_exponent") 360, Value.str (Str.ofString "factorial_exponent") 361, Value.str (Str.ofString "/claim/cut.py") 362, Value.int 87 0, Value.int 2 0, Value.int 0 0, Value.int 0 0, Value.int 3 0, Value.ref 129, Value.bool true, Value.int 181 0, Value.ref 130, Value.none, Value.ref 131, Value.ref 132, Value.ref 133, Value.int 366 0, Value.int 87 0, Value.str (Str.ofString "/claim/cut.py") 367] }) ::
    (nat_lit 135, fnO 16 (Value.str (Str.ofString "gmp.counts") 318) 134) ::
    (nat_lit 141, { cls := Value.type "code", data := Data.fields #[Value.str (Str.ofString "binomial") 369, Value.str (Str.ofString "binomial") 370, Value.str (Str.ofString "/claim/cut.py") 371, Value.int 93 0, Value.int 4 0, Value.int 0 0, Value.int 0 0, Value.int 3 0, Value.ref 136, Value.bool true, Value.int 181 0, Value.ref 137, Value.none, Value.ref 138, Value.ref 139, Value.ref 140, Value.int 379 0, Value.int 93 0, Value.str (Str.ofString "/claim/cut.py") 380] }) ::
    (nat_lit 142, fnO 17 (Value.str (Str.ofString "gmp.counts") 318) 141) ::
    (nat_lit 155, { cls := Value.type "code", data := Data.fields #[Value.str (Str.ofString "check_base") 394, Value.str (Str.ofString "check_base") 395, Value.str (Str.ofString "/claim/cut.py") 396, Value.int 110 0, Value.int 1 0, Value.int 0 0, Value.int 0 0, Value.int 3 0, Value.ref 150, Value.bool true, Value.int 181 0, Value.ref 151, Value.none, Value.ref 152, Value.ref 153, Value.ref 154, Value.int 398 0, Value.int 110 0, Value.str (Str.ofString "/claim/cut.py") 399] }) ::
    (nat_lit 156, fnO 20 (Value.str (Str.ofString "gmp.radix") 382) 155) ::
    (nat_lit 162, { cls := Value.type "code", data := Data.fields #[Value.str (Str.ofString "digit_off") 401, Value.str (Str.ofString "digit_off") 402, Value.str (Str.ofString "/claim/cut.py") 403, Value.int 113 0, Value.int 4 0, Value.int 0 0, Value.int 0 0, Value.int 3 0, Value.ref 157, Value.bool true, Value.int 181 0, Value.ref 158, Value.none, Value.ref 159, Value.ref 160, Value.ref 161, Value.int 410 0, Value.int 113 0, Value.str (Str.ofString "/claim/cut.py") 411] }) ::
    (nat_lit 163, fnO 21 (Value.str (Str.ofString "gmp.radix") 382) 162) ::
    (nat_lit 169, { cls := Value.type "code", data := Data.fields #[Value.str (Str.ofString "digits_plain") 413, Value.str (Str.ofString "digits_plain") 414, Value.str (Str.ofString "/claim/cut.py") 415, Value.int 118 0, Value.int 4 0, Value.int 0 0, Value.int 0 0, Value.int 3 0, Value.ref 164, Value.bool true, Value.int 181 0, Value.ref 165, Value.none, Value.ref 166, Value.ref 167, Value.ref 168, Value.int 422 0, Value.int 118 0, Value.str (Str.ofString "/claim/cut.py") 423] }) ::
    (nat_lit 170, fnO 22 (Value.str (Str.ofString "gmp.radix") 382) 169) ::
    (nat_lit 190, { cls := Value.type "code", data := Data.fields #[Value.str (Str.ofString "digits_by_powers") 445, Value.str (Str.ofString "digits_by_powers") 446, Value.str (Str.ofString "/claim/cut.py") 447, Value.int 133 0, Value.int 6 0, Value.int 0 0, Value.int 0 0, Value.int 3 0, Value.ref 185, Value.bool true, Value.int 181 0, Value.ref 186, Value.none, Value.ref 187, Value.ref 188, Value.ref 189, Value.int 460 0, Value.int 133 0, Value.str (Str.ofString "/claim/cut.py") 461] }) ::
    (nat_lit 191, fnO 25 (Value.str (Str.ofString "gmp.radix") 382) 190) ::
    (nat_lit 197, { cls := Value.type "code", data := Data.fields #[Value.str (Str.ofString "to_digits") 463, Value.str (Str.ofString "to_digits") 464, Value.str (Str.ofString "/claim/cut.py") 465, Value.int 142 0, Value.int 6 0, Value.int 0 0, Value.int 0 0, Value.int 3 0, Value.ref 192, Value.bool true, Value.int 181 0, Value.ref 193, Value.none, Value.ref 194, Value.ref 195, Value.ref 196, Value.int 473 0, Value.int 142 0, Value.str (Str.ofString "/claim/cut.py") 474] }) ::
    (nat_lit 198, fnO 26 (Value.str (Str.ofString "gmp.radix") 382) 197) ::
    (nat_lit 204, { cls := Value.type "code", data := Data.fields #[Value.str (Str.ofString "mul_school") 478, Value.str (Str.ofString "mul_school") 479, Value.str (Str.ofString "/claim/cut.py") 480, Value.int 147 0, Value.int 3 0, Value.int 0 0, Value.int 0 0, Value.int 3 0, Value.ref 199, Value.bool true, Value.int 181 0, Value.ref 200, Value.none, Value.ref 201, Value.ref 202, Value.ref 203, Value.int 491 0, Value.int 147 0, Value.str (Str.ofString "/claim/cut.py") 492] }) ::
    (nat_lit 205, fnO 28 (Value.str (Str.ofString "gmp.school") 476) 204) ::
    (nat_lit 253, { cls := Value.type "code", data := Data.fields #[Value.str (Str.ofString "_law_summed") 577, Value.str (Str.ofString "_law_summed") 578, Value.str (Str.ofString "/claim/cut.py") 579, Value.int 208 0, Value.int 2 0, Value.int 0 0, Value.int 0 0, Value.int 3 0, Value.ref 248, Value.bool true, Value.int 181 0, Value.ref 249, Value.none, Value.ref 250, Value.ref 251, Value.ref 252, Value.int 582 0, Value.int 208 0, Value.str (Str.ofString "/claim/cut.py") 583] }) ::
    (nat_lit 254, fnO 36 (Value.str (Str.ofString "law_xm0411_01") 575) 253) ::
    (nat_lit 260, { cls := Value.type "code", data := Data.fields #[Value.str (Str.ofString "_law_limbs") 585, Value.str (Str.ofString "_law_limbs") 586, Value.str (Str.ofString "/claim/cut.py") 587, Value.int 213 0, Value.int 2 0, Value.int 0 0, Value.int 0 0, Value.int 3 0, Value.ref 255, Value.bool true, Value.int 181 0, Value.ref 256, Value.none, Value.ref 257, Value.ref 258, Value.ref 259, Value.int 591 0, Value.int 213 0, Value.str (Str.ofString "/claim/cut.py") 592] }) ::
    (nat_lit 261, fnO 37 (Value.str (Str.ofString "law_xm0411_01") 575) 260) ::
    (nat_lit 267, { cls := Value.type "code", data := Data.fields #[Value.str (Str.ofString "_law_worth") 594, Value.str (Str.ofString "_law_worth") 595, Value.str (Str.ofString "/claim/cut.py") 596, Value.int 219 0, Value.int 2 0, Value.int 0 0, Value.int 0 0, Value.int 3 0, Value.ref 262, Value.bool true, Value.int 181 0, Value.ref 263, Value.none, Value.ref 264, Value.ref 265, Value.ref 266, Value.int 601 0, Value.int 219 0, Value.str (Str.ofString "/claim/cut.py") 602] }) ::
    (nat_lit 268, fnO 38 (Value.str (Str.ofString "law_xm0411_01") 575) 267) ::
    (nat_lit 272, { cls := Value.type "code", data := Data.fields #[Value.str (Str.ofString "_law_row") 604, Value.str (Str.ofString "_law_row") 605, Value.str (Str.ofString "/claim/cut.py") 606, Value.int 224 0, Value.int 1 0, Value.int 0 0, Value.int 0 0, Value.int 3 0, Value.ref 269, Value.bool true, Value.int 181 0, Value.ref 270, Value.none, Value.none, Value.none, Value.ref 271, Value.int 607 0, Value.int 224 0, Value.str (Str.ofString "/claim/cut.py") 608] }) ::
    (nat_lit 273, fnO 39 (Value.str (Str.ofString "law_xm0411_01") 575) 272) ::
    (nat_lit 279, { cls := Value.type "code", data := Data.fields #[Value.str (Str.ofString "_law_carries") 610, Value.str (Str.ofString "_law_carries") 611, Value.str (Str.ofString "/claim/cut.py") 612, Value.int 229 0, Value.int 3 0, Value.int 0 0, Value.int 0 0, Value.int 3 0, Value.ref 274, Value.bool true, Value.int 181 0, Value.ref 275, Value.none, Value.ref 276, Value.ref 277, Value.ref 278, Value.int 618 0, Value.int 229 0, Value.str (Str.ofString "/claim/cut.py") 619] }) ::
    (nat_lit 280, fnO 40 (Value.str (Str.ofString "law_xm0411_01") 575) 279) ::
    (nat_lit 286, { cls := Value.type "code", data := Data.fields #[Value.str (Str.ofString "_law_told") 621, Value.str (Str.ofString "_law_told") 622, Value.str (Str.ofString "/claim/cut.py") 623, Value.int 235 0, Value.int 3 0, Value.int 0 0, Value.int 0 0, Value.int 3 0, Value.ref 281, Value.bool true, Value.int 181 0, Value.ref 282, Value.none, Value.ref 283, Value.ref 284, Value.ref 285, Value.int 627 0, Value.int 235 0, Value.str (Str.ofString "/claim/cut.py") 628] }) ::
    (nat_lit 287, fnO 41 (Value.str (Str.ofString "law_xm0411_01") 575) 286) :: []
def KA : List Addr := [2, 3, 57, 58, 64, 65, 78, 79, 106, 107, 113, 114, 120, 121, 127, 128, 134, 135, 141, 142, 155, 156, 162, 163, 169, 170, 190, 191, 197, 198, 204, 205, 253, 254, 260, 261, 267, 268, 272, 273, 279, 280, 286, 287]
def view : Program := { PySem.Challenge.pw_xm0411_01 with main := { PySem.Challenge.pw_xm0411_01.main with body := PySem.Challenge.pw_xm0411_01.main.body.filter fun st => match st with | .Assign .. => false | _ => true } }
end Mine
end
section
namespace Mine
def limbsF (k : Nat) : Nat → Nat → List Int
  | 0, _ => []
  | f + 1, V => if V = 0 then [] else ((V % 2 ^ k : Nat) : Int) :: limbsF k f (V / 2 ^ k)
def limbs (k V : Nat) : List Int := limbsF k V V
theorem limbsF_fuel {k : Nat} (hk : 0 < k) : ∀ (f g V : Nat), V ≤ f → V ≤ g → limbsF k f V = limbsF k g V
  | 0, 0, _, _, _ => rfl
  | 0, g + 1, V, h, _ => by
    have : V = 0 := by omega
    subst this; simp [limbsF]
  | f + 1, 0, V, _, h => by
    have : V = 0 := by omega
    subst this; simp [limbsF]
  | f + 1, g + 1, V, h1, h2 => by
    unfold limbsF
    by_cases h : V = 0
    · simp [h]
    · have h3 : V / 2 ^ k < V := Nat.div_lt_self (by omega) (Nat.one_lt_two_pow (by omega))
      rw [if_neg h, if_neg h, limbsF_fuel hk f g _ (by omega) (by omega)]
def worth (k : Nat) : List Int → Int
  | [] => 0
  | x :: xs => x + 2 ^ k * worth k xs
def Limbs (k : Nat) (xs : List Int) : Prop := ∀ x ∈ xs, 0 ≤ x ∧ x < 2 ^ k
def norm (xs : List Int) : List Int := (xs.reverse.dropWhile (· == 0)).reverse
theorem limbs_zero {k : Nat} : limbs k 0 = [] := rfl
theorem limbs_pos {k V : Nat} (hk : 0 < k) (h : 0 < V) : limbs k V = ((V % 2 ^ k : Nat) : Int) :: limbs k (V / 2 ^ k) := by
  obtain ⟨f, rfl⟩ : ∃ f, V = f + 1 := ⟨V - 1, by omega⟩
  have h3 : (f + 1) / 2 ^ k < f + 1 := Nat.div_lt_self (by omega) (Nat.one_lt_two_pow (by omega))
  show limbsF k (f + 1) (f + 1) = _
  unfold limbsF
  rw [if_neg (by omega), limbsF_fuel hk f _ _ (by omega) (Nat.le_refl _)]
  rfl
theorem limbs_len {k V : Nat} (hk : 0 < k) : (limbs k V).length ≤ V := by
  induction V using Nat.strongRecOn with
  | ind V ih =>
    by_cases h : V = 0
    · subst h; rw [limbs_zero]; exact Nat.le_refl _
    · rw [limbs_pos hk (by omega), List.length_cons]
      have h2 : V / 2 ^ k < V := Nat.div_lt_self (by omega) (Nat.one_lt_two_pow (by omega))
      have := ih _ h2
      omega
theorem worth_limbs {k V : Nat} (hk : 0 < k) : worth k (limbs k V) = V := by
  induction V using Nat.strongRecOn with
  | ind V ih =>
    by_cases h : V = 0
    · subst h; rw [limbs_zero]; rfl
    · rw [limbs_pos hk (by omega), worth]
      have h2 : V / 2 ^ k < V := Nat.div_lt_self (by omega) (Nat.one_lt_two_pow (by omega))
      rw [ih _ h2]
      exact_mod_cast Nat.mod_add_div V (2 ^ k)
theorem limbs_limbs {k V : Nat} (hk : 0 < k) : Limbs k (limbs k V) := by
  induction V using Nat.strongRecOn with
  | ind V ih =>
    by_cases h : V = 0
    · subst h; rw [limbs_zero]; exact fun _ h => nomatch h
    · rw [limbs_pos hk (by omega)]
      have h2 : V / 2 ^ k < V := Nat.div_lt_self (by omega) (Nat.one_lt_two_pow (by omega))
      intro x hx
      rcases List.mem_cons.mp hx with rfl | hx
      · exact ⟨Int.natCast_nonneg _, by exact_mod_cast Nat.mod_lt V (Nat.two_pow_pos k)⟩
      · exact ih _ h2 x hx
theorem worth_nonneg {k : Nat} : ∀ {xs : List Int}, Limbs k xs → 0 ≤ worth k xs
  | [], _ => Int.le_refl _
  | x :: xs, h => by
    have h1 := (h x (.head _)).1
    have h2 := worth_nonneg (xs := xs) fun y hy => h y (.tail _ hy)
    exact Int.add_nonneg h1 (Int.mul_nonneg (Int.le_of_lt (Int.pow_pos (by decide))) h2)
theorem worth_append {k : Nat} : ∀ {xs ys : List Int}, worth k (xs ++ ys) = worth k xs + 2 ^ (k * xs.length) * worth k ys
  | [], ys => by simp [worth]
  | x :: xs, ys => by
    rw [List.cons_append, worth, worth, worth_append, List.length_cons, Nat.mul_succ, Nat.add_comm, Int.pow_add, Int.mul_add, Int.add_assoc, Int.mul_assoc]
/-- the canonical list is the one whose last is not nought -/
theorem limbs_of {k : Nat} (hk : 0 < k) : ∀ {xs : List Int}, Limbs k xs → (∀ x, xs.getLast? = some x → x ≠ 0) → limbs k (worth k xs).toNat = xs
  | [], _, _ => by rw [worth]; exact limbs_zero
  | x :: xs, h, hl => by
    have hx := h x (.head _)
    have ht : Limbs k xs := fun y hy => h y (.tail _ hy)
    have h0 := worth_nonneg ht
    have p : (0 : Int) < 2 ^ k := Int.pow_pos (by decide)
    have hl' : ∀ y, xs.getLast? = some y → y ≠ 0 := fun y hy => hl y (by rw [List.getLast?_cons, hy]; rfl)
    have ih := limbs_of hk ht hl'
    obtain ⟨a, ha⟩ := Int.eq_ofNat_of_zero_le hx.1
    obtain ⟨b, hb⟩ := Int.eq_ofNat_of_zero_le h0
    have hab : (worth k (x :: xs)).toNat = a + 2 ^ k * b := by
      rw [worth, ha, hb]
      have : ((a : Int) + 2 ^ k * (b : Int)) = ((a + 2 ^ k * b : Nat) : Int) := by push_cast; rfl
      rw [this, Int.toNat_natCast]
    have ha2 : a < 2 ^ k := by have := hx.2; rw [ha] at this; exact_mod_cast this
    rw [hb, Int.toNat_natCast] at ih
    rw [hab]
    have hpos : 0 < a + 2 ^ k * b := by
      by_cases hb0 : b = 0
      · subst hb0
        rw [limbs_zero] at ih
        subst ih
        have : x ≠ 0 := hl x rfl
        omega
      · have := Nat.mul_pos (Nat.two_pow_pos k) (Nat.pos_of_ne_zero hb0)
        omega
    rw [limbs_pos hk hpos, Nat.add_mul_mod_self_left, Nat.mod_eq_of_lt ha2, Nat.add_mul_div_left _ _ (Nat.two_pow_pos k), Nat.div_eq_of_lt ha2, Nat.zero_add, ih, ha]
theorem norm_last (xs : List Int) : ∀ x, (norm xs).getLast? = some x → x ≠ 0 := by
  intro x hx
  unfold norm at hx
  rw [List.getLast?_reverse] at hx
  have := List.head?_dropWhile_not (· == (0 : Int)) xs.reverse
  rw [hx] at this
  simpa using this
theorem norm_snoc (xs : List Int) (x : Int) : norm (xs ++ [x]) = if x = 0 then norm xs else xs ++ [x] := by
  unfold norm
  rw [List.reverse_append, List.reverse_singleton, List.singleton_append, List.dropWhile_cons]
  by_cases h : x = 0
  · simp [h]
  · simp [h]
theorem norm_take {xs : List Int} {e : Nat} (h : e < xs.length) (hz : xs.getD e 0 = 0) : norm (xs.take (e + 1)) = norm (xs.take e) := by
  have : xs.take (e + 1) = xs.take e ++ [xs.getD e 0] := by
    rw [List.take_add_one, List.getD_eq_getElem?_getD, List.getElem?_eq_getElem h]; rfl
  rw [this, norm_snoc, if_pos hz]
theorem norm_stop {xs : List Int} {e : Nat} (h : e < xs.length) (hz : xs.getD e 0 ≠ 0) : norm (xs.take (e + 1)) = xs.take (e + 1) := by
  have : xs.take (e + 1) = xs.take e ++ [xs.getD e 0] := by
    rw [List.take_add_one, List.getD_eq_getElem?_getD, List.getElem?_eq_getElem h]; rfl
  rw [this, norm_snoc, if_neg hz]
theorem worth_norm {k : Nat} (xs : List Int) : worth k (norm xs) = worth k xs ∧ (∀ y, y ∈ norm xs → y ∈ xs) := by
  have key : ∀ n (xs : List Int), xs.length = n → worth k (norm xs) = worth k xs ∧ (∀ y, y ∈ norm xs → y ∈ xs) := by
    intro n
    induction n with
    | zero => intro xs h; rw [List.length_eq_zero_iff.mp h]; exact ⟨rfl, fun _ h => h⟩
    | succ n ih =>
      intro xs h
      have hne : xs ≠ [] := by intro e; rw [e] at h; cases h
      obtain ⟨ys, y, rfl⟩ : ∃ ys y, xs = ys ++ [y] := ⟨xs.dropLast, xs.getLast hne, (List.dropLast_concat_getLast hne).symm⟩
      rw [norm_snoc]
      by_cases hy : y = 0
      · rw [if_pos hy]
        have := ih ys (by simpa using h)
        refine ⟨?_, fun z hz => List.mem_append_left _ (this.2 z hz)⟩
        rw [this.1, worth_append, hy]
        simp [worth]
      · rw [if_neg hy]; exact ⟨rfl, fun _ h => h⟩
  exact key _ xs rfl
theorem norm_limbs {k : Nat} (hk : 0 < k) {xs : List Int} (h : Limbs k xs) : norm xs = limbs k (worth k xs).toNat := by
  have w := worth_norm (k := k) xs
  rw [← w.1]
  exact (limbs_of hk (fun x hx => h x (w.2 x hx)) (norm_last xs)).symm
end Mine
end
section
namespace Mine
def nxt (r : List Int) : List Int := 1 :: (List.zipWith (· + ·) r r.tail ++ [1])
def prow : Nat → List Int
  | 0 => [1]
  | n + 1 => nxt (prow n)
def chs (n k : Nat) : Nat := ((prow n).getD k 0).toNat
theorem prow_len : ∀ n, (prow n).length = n + 1
  | 0 => rfl
  | n + 1 => by
    have ih := prow_len n
    rw [prow, nxt, List.length_cons, List.length_append, List.length_zipWith, List.length_tail, ih]
    simp
end Mine
end
section
open PySem PySem.W PyProof.Rows PySem.Spec PySem.Calls
namespace Mine
/-- the written part of the heap is known to the walk again -/
theorem laid : (Mine.KK = Mine.KK ∧ PySem.Challenge.rw_xm0411_01 = PySem.Challenge.rw_xm0411_01) := by
  k_fill
  exact ⟨rfl, rfl⟩
/-- all that a call finds around it -/
structure Cx where
  prog : Program
  w : World
  p : Program
  loose : List Str
  mean : ExcName → Option Value
  mg : Str → Option Value
  mb : Str → Option Value
  dp : Nat
  un : Nat
  gd : Option (List Code)
  env : Env
  outer : List Env
  A₀ : Around
  base : Heap
  h₀ : Heap
  L : Addr
  m : Str → Option Value
  news : List (Addr × Obj)
@[reducible] def Cx.A (c : Cx) : Around := { handled := none, depth := c.dp, frames := some (c.env :: c.outer), guards := c.gd, units := c.un }
def Rets (h₀ : Heap) (L : Addr) (m : Str → Option Value) (news : List (Addr × Obj)) (s : Shared) (Q : Value → Shared → Prop) (Out : Value → List (Addr × Obj) → Prop) : Prop :=
  ∀ r tl h' tk', Fr h₀ L h' m → News h₀ L h' (tl ++ news) → (∀ q ∈ tl, AllLt q.1 news) → Out r tl → Q r { s with heap := h', toks := tk' }
/-- what a call of the def at f gives: an answer and what it made -/
def Gives (f : Addr) (deep : Nat) (vs : List Value) (Pre : List (Addr × Obj) → Prop) (Out : Value → List (Addr × Obj) → Prop) : Prop :=
  ∀ (c : Cx) (s : Shared) (Q E : Value → Shared → Prop),
    Below c.A₀ c.base c.outer c.h₀ → Fr c.h₀ c.L s.heap c.m → (Mine.KK c.w.params).In c.h₀ → News c.h₀ c.L s.heap c.news → Top c.p c.loose c.mean c.mg c.mb c.h₀ →
    c.env.frame = some c.L → c.env.scope.kind = .function → Pre c.news →
    c.dp + deep < recursionLimit → c.un + 8 * deep < cLine → Rets c.h₀ c.L c.m c.news s Q Out →
    wpAny (model c.prog c.w) c.A (call (.ref f) vs) Q E s
theorem gives_use {f : Addr} {deep : Nat} {vs : List Value} {Pre : List (Addr × Obj) → Prop} {Out : Value → List (Addr × Obj) → Prop} {prog : Program} {w : World} {p : Program} {loose : List Str} {mean : ExcName → Option Value} {mg mb : Str → Option Value}
    {dp un : Nat} {gd : Option (List Code)} {env : Env} {outer : List Env} {A₀ : Around} {base h₀ : Heap} {L : Addr} {m : Str → Option Value} {news : List (Addr × Obj)} {s : Shared} {Q E : Value → Shared → Prop}
    (G : Gives f deep vs Pre Out) (B : Below A₀ base outer h₀) (F : Fr h₀ L s.heap m) (X : (Mine.KK w.params).In h₀) (N : News h₀ L s.heap news) (T : Top p loose mean mg mb h₀)
    (hf : env.frame = some L) (hk : env.scope.kind = .function) (hp : Pre news) (hd : dp + deep < recursionLimit) (hu : un + 8 * deep < cLine)
    (ret : ∀ r tl h' tk', Fr h₀ L h' m → News h₀ L h' (tl ++ news) → (∀ q ∈ tl, AllLt q.1 news) → Out r tl → Q r { s with heap := h', toks := tk' }) :
    wpAny (model prog w) { handled := none, depth := dp, frames := some (env :: outer), guards := gd, units := un } (call (.ref f) vs) Q E s :=
  G ⟨prog, w, p, loose, mean, mg, mb, dp, un, gd, env, outer, A₀, base, h₀, L, m, news⟩ s Q E B F X N T hf hk hp hd hu ret
section
variable {h₀ h' : Heap} {L : Addr} {m : Str → Option Value} {news news' : List (Addr × Obj)} {s : Shared} {Q : Value → Shared → Prop} {Out : Value → List (Addr × Obj) → Prop} {r : Value} {tk' : Nat} {a : Addr} {o : Obj}
theorem ret0 (hret : Rets h₀ L m news s Q Out) (F : Fr h₀ L h' m) (N : News h₀ L h' news) (ho : Out r []) : Q r { s with heap := h', toks := tk' } :=
  hret r [] h' tk' F N (fun _ h => nomatch h) ho
theorem ret1 (hret : Rets h₀ L m news s Q Out) (F : Fr h₀ L h' m) (N : News h₀ L h' ((a, o) :: news)) (hl : AllLt a news) (ho : Out r [(a, o)]) : Q r { s with heap := h', toks := tk' } :=
  hret r [(a, o)] h' tk' F N (fun q h => by rw [List.mem_singleton.mp h]; exact hl) ho
theorem ret0d (hret : Rets h₀ L m news s Q Out) (F : Fr h₀ L h' m) (N : News h₀ L h' news') (hs : ∀ p ∈ news, p ∈ news') (ho : Out r []) : Q r { s with heap := h', toks := tk' } :=
  ret0 hret F (fun p hp => N p (hs p hp)) ho
def IsL (xs : List Int) (r : Value) (tl : List (Addr × Obj)) : Prop := ∃ r' vs' n', r = .ref r' ∧ tl = [(r', listOf vs'.toArray n')] ∧ IntsAre vs' xs
theorem retL {vs : List Value} {n : Nat} {xs ys : List Int} (hret : Rets h₀ L m news s Q (IsL ys)) (F : Fr h₀ L h' m) (N : News h₀ L h' news') (hs : ∀ p ∈ (a, listOf vs.toArray n) :: news, p ∈ news') (hl : AllLt a news) (hi : IntsAre vs xs) (he : xs = ys) :
    Q (.ref a) { s with heap := h', toks := tk' } := by
  subst he
  exact ret1 hret F (fun p hp => N p (hs p hp)) hl ⟨a, vs, n, rfl, rfl, hi⟩
end
theorem shr_eq (x : Int) (k : Nat) : x.fdiv (2 ^ ((k : Int)).toNat) = x / 2 ^ k := by
  rw [Int.toNat_natCast, Int.fdiv_eq_ediv_of_nonneg _ (Int.le_of_lt (Int.pow_pos (by decide)))]
theorem fmod_eq (x : Int) (k : Nat) : x.fmod (2 ^ ((k : Int)).toNat) = x % 2 ^ k := by
  rw [Int.toNat_natCast, Int.fmod_eq_emod_of_nonneg _ (Int.le_of_lt (Int.pow_pos (by decide)))]
theorem mask_eq (x : Int) (k : Nat) : Builtin.bitAnd x (1 * 2 ^ ((k : Int)).toNat - 1) = x % 2 ^ k := by
  rw [Int.toNat_natCast, Int.one_mul]; exact kbt_mask x k
theorem pow2_bits {k : Nat} (h : k ≤ 8) : Builtin.Int.intBits ((2 : Int) ^ ((k : Int)).toNat) ≤ 64 := by
  rw [Int.toNat_natCast]
  rcases (by omega : k = 0 ∨ k = 1 ∨ k = 2 ∨ k = 3 ∨ k = 4 ∨ k = 5 ∨ k = 6 ∨ k = 7 ∨ k = 8) with rfl | rfl | rfl | rfl | rfl | rfl | rfl | rfl | rfl <;> decide
def IsI (x : Int) (r : Value) (tl : List (Addr × Obj)) : Prop := tl = [] ∧ ∃ t, r = .int x t
section
variable {f : Addr} {deep : Nat} {vs : List Value} {Pre : List (Addr × Obj) → Prop} {prog : Program} {w : World} {p : Program} {loose : List Str} {mean : ExcName → Option Value} {mg mb : Str → Option Value}
    {dp un : Nat} {gd : Option (List Code)} {env : Env} {outer : List Env} {A₀ : Around} {base h₀ : Heap} {L : Addr} {m : Str → Option Value} {news : List (Addr × Obj)} {s : Shared} {Q E : Value → Shared → Prop}
theorem gives_useL {xs : List Int} (G : Gives f deep vs Pre (IsL xs)) (B : Below A₀ base outer h₀) (F : Fr h₀ L s.heap m) (X : (Mine.KK w.params).In h₀) (N : News h₀ L s.heap news) (T : Top p loose mean mg mb h₀)
    (hf : env.frame = some L) (hk : env.scope.kind = .function) (hp : Pre news) (hd : dp + deep < recursionLimit) (hu : un + 8 * deep < cLine)
    (ret : ∀ r' vs' n' h' tk', Fr h₀ L h' m → News h₀ L h' ((r', listOf (List.toArray vs') n') :: news) → AllLt r' news → IntsAre vs' xs → Q (.ref r') { s with heap := h', toks := tk' }) :
    wpAny (model prog w) { handled := none, depth := dp, frames := some (env :: outer), guards := gd, units := un } (call (.ref f) vs) Q E s :=
  gives_use G B F X N T hf hk hp hd hu fun r tl h' tk' F' N' hl ho => by
    obtain ⟨r', vs', n', rfl, rfl, hi⟩ := ho
    exact ret r' vs' n' h' tk' F' N' (hl _ (.head _)) hi
theorem gives_useI {x : Int} (G : Gives f deep vs Pre (IsI x)) (B : Below A₀ base outer h₀) (F : Fr h₀ L s.heap m) (X : (Mine.KK w.params).In h₀) (N : News h₀ L s.heap news) (T : Top p loose mean mg mb h₀)
    (hf : env.frame = some L) (hk : env.scope.kind = .function) (hp : Pre news) (hd : dp + deep < recursionLimit) (hu : un + 8 * deep < cLine)
    (ret : ∀ t h' tk', Fr h₀ L h' m → News h₀ L h' news → Q (.int x t) { s with heap := h', toks := tk' }) :
    wpAny (model prog w) { handled := none, depth := dp, frames := some (env :: outer), guards := gd, units := un } (call (.ref f) vs) Q E s :=
  gives_use G B F X N T hf hk hp hd hu fun r tl h' tk' F' N' hl ho => by
    obtain ⟨rfl, t, rfl⟩ := ho
    exact ret t h' tk' F' N'
end
theorem retI {h₀ h' : Heap} {L : Addr} {m : Str → Option Value} {news news' : List (Addr × Obj)} {s : Shared} {Q : Value → Shared → Prop} {tk' : Nat} {x y : Int} {t : Tok} (hret : Rets h₀ L m news s Q (IsI y)) (F : Fr h₀ L h' m) (N : News h₀ L h' news') (hs : ∀ p ∈ news, p ∈ news') (he : x = y) :
    Q (.int x t) { s with heap := h', toks := tk' } := by
  subst he
  exact ret0d hret F N hs ⟨rfl, t, rfl⟩
theorem enter {c : Cx} {s : Shared} {Q E : Value → Shared → Prop} {name qual : Str} {params : Arguments} {body : List Stmt} {scope : Scope} {dV kV doc pm cdv ct oc : Value} {an od : Option Addr} {osl : Array (Option Value)} {f : Addr} {vs : List Value}
    (rb : List (Str × Value)) (ar : List (Addr × Obj))
    (B : Below c.A₀ c.base c.outer c.h₀) (F : Fr c.h₀ c.L s.heap c.m) (X : (Mine.KK c.w.params).In c.h₀) (N : News c.h₀ c.L s.heap c.news) (T : Top c.p c.loose c.mean c.mg c.mb c.h₀)
    (hf : c.env.frame = some c.L) (hk : c.env.scope.kind = .function)
    (ho : (Mine.KK c.w.params).lookup f = some ⟨oc, od, .func (fnOf name qual params body scope dV kV doc pm an cdv ct), osl⟩) (hcd : codeIn (Mine.KK c.w.params) cdv qual = true) (hroom : c.dp < recursionLimit)
    (hbind : BindsTo s (fnOf name qual params body scope dV kV doc pm an cdv ct) ⟨vs, []⟩ rb.reverse) (hloc : ∀ y ∈ rb.reverse, scope.names.lookup y.1 = some .local)
    (hco : scope.isCoroutine = false) (hgen : scope.isGenerator = false) (hk2 : scope.kind = .function)
    (hcell : ∀ x ∈ scope.names, x.2 ≠ .cell) (har : ∀ x ∈ ar, x ∈ c.news)
    (h : ∀ g L' h₁ tk, Fr c.h₀ c.L g c.m → Fr g L' h₁ (fun y => rb.lookup y) → News g L' h₁ (ar ++ c.news) → Below c.A c.base (c.env :: c.outer) g → (Mine.KK c.w.params).In g → Top c.p c.loose c.mean c.mg c.mb g →
      wpAny (model c.prog c.w) (c.A.deeper (envOf qual scope L' f cdv)) (execs body (envOf qual scope L' f cdv))
        (fun fl s' => LeaveK c.h₀ c.L c.m g (fun r s' => match r with | .ok (.ret v) => Q v s' | .ok _ => False | .error e => E e s') (match fl with | .ret v => v | _ => .none) s')
        (fun e s' => wpAny (model c.prog c.w) (c.A.deeper (envOf qual scope L' f cdv)) (leaving (envOf qual scope L' f cdv) e) (fun _ s'' => E e s'') (fun e' s'' => E e' s'') s')
        { s with heap := h₁, toks := tk }) :
    wpAny (model c.prog c.w) c.A (call (.ref f) vs) Q E s := by
  refine wpAny_call ?_
  refine code_def B F X N T rfl hf hk ho hcd hroom hbind hloc (fun g L' h₁ FG F' N' B' X' T' => ?_) hco hgen hk2 hcell
  rw [List.reverse_reverse] at F'
  exact h g L' h₁ _ FG F' (fun p hp => N' p ((List.mem_append.mp hp).elim (har p) id)) B' X' T'
end Mine
end
section
open PySem PySem.W PyProof.Rows
namespace Mine
theorem or_eq {r x : Int} {k : Nat} (h0 : 0 ≤ r) (hx : 0 ≤ x) (hx2 : x < 2 ^ k) : Builtin.bitOr (r * 2 ^ ((k : Int)).toNat) x = r * 2 ^ k + x := by
  rw [Int.toNat_natCast]
  obtain ⟨a, rfl⟩ := Int.eq_ofNat_of_zero_le h0
  obtain ⟨b, rfl⟩ := Int.eq_ofNat_of_zero_le hx
  have hb : b < 2 ^ k := by exact_mod_cast hx2
  have e : ((a : Int) * 2 ^ k) = ((2 ^ k * a : Nat) : Int) := by push_cast; exact Int.mul_comm _ _
  have o : Builtin.bitOr ((2 ^ k * a : Nat) : Int) (b : Int) = ((2 ^ k * a ||| b : Nat) : Int) := by
    have nn : ∀ x : Int, Builtin.bitNot (Builtin.bitNot x) = x := fun x => by unfold Builtin.bitNot; omega
    have ng : ∀ n : Nat, ¬ 0 ≤ Builtin.bitNot (n : Int) := fun n => by unfold Builtin.bitNot; omega
    unfold Builtin.bitOr
    rw [bitAnd_nn (ng _) (ng _), nn, nn, nn, Int.toNat_natCast, Int.toNat_natCast]
  rw [e, o, ← Nat.two_pow_add_eq_or_of_lt hb]
  push_cast; rfl
def DivInv (k q : Nat) (xs : List Int) (j : Nat) (r : Int) (fd : List Int) : Prop :=
  Limbs k fd ∧ worth k (xs.drop (xs.length - j)) = worth k (fd.drop (xs.length - j)) * q + r
theorem zeros_flat (n : Nat) : (List.replicate n [(0 : Int)]).flatten = List.replicate n 0 := by
  induction n with
  | zero => rfl
  | succ n ih => rw [List.replicate_succ, List.flatten_cons, ih]; rfl
theorem limbs_zeros (k n : Nat) : Limbs k (List.replicate n 0) := by
  intro x hx
  rw [List.eq_of_mem_replicate hx]
  exact ⟨Int.le_refl _, Int.pow_pos (by decide)⟩
theorem div_start {k q : Nat} {xs : List Int} (hq : 2 ≤ q) : (0 : Int) ≤ 0 ∧ (0 : Int) < q ∧ (List.replicate ((xs.length : Int)).toNat [(0 : Int)]).flatten.length = xs.length ∧
    DivInv k q xs ([] : List Int).length 0 (List.replicate ((xs.length : Int)).toNat [(0 : Int)]).flatten := by
  rw [zeros_flat, Int.toNat_natCast, List.length_replicate]
  refine ⟨Int.le_refl _, by omega, rfl, limbs_zeros _ _, ?_⟩
  simp [worth]
theorem set_limbs {k : Nat} {fd : List Int} {i : Nat} {x : Int} (h : Limbs k fd) (hx : 0 ≤ x ∧ x < 2 ^ k) : Limbs k (fd.set i x) := by
  intro y hy
  rcases List.mem_or_eq_of_mem_set hy with h1 | h1
  · exact h y h1
  · rw [h1]; exact hx
theorem div_turn {k q : Nat} {xs fd pre : List Int} {r i : Int} (hq : 2 ≤ q) (hx : Limbs k xs) (he : i = xs.length - 1 - pre.length) (hlt : pre.length < (((xs.length : Int)) - 1 - -1).toNat)
    (h0 : 0 ≤ r) (h1 : r < q) (hl : fd.length = xs.length) (h : DivInv k q xs pre.length r fd) :
    0 ≤ (Builtin.bitOr (r * 2 ^ ((k : Int)).toNat) (xs.getD i.toNat 0)).fmod q ∧ (Builtin.bitOr (r * 2 ^ ((k : Int)).toNat) (xs.getD i.toNat 0)).fmod q < q ∧
      (fd.set i.toNat ((Builtin.bitOr (r * 2 ^ ((k : Int)).toNat) (xs.getD i.toNat 0)).fdiv q)).length = xs.length ∧
      DivInv k q xs (pre ++ [i]).length ((Builtin.bitOr (r * 2 ^ ((k : Int)).toNat) (xs.getD i.toNat 0)).fmod q) (fd.set i.toNat ((Builtin.bitOr (r * 2 ^ ((k : Int)).toNat) (xs.getD i.toNat 0)).fdiv q)) := by
  obtain ⟨m, hm⟩ : ∃ m, xs.length - pre.length = m + 1 := ⟨xs.length - pre.length - 1, by omega⟩
  have hi : i.toNat = m := by omega
  have hmx : m < xs.length := by omega
  rw [hi]
  have hxm : xs.getD m 0 = xs[m] := by rw [List.getD_eq_getElem?_getD, List.getElem?_eq_getElem hmx]; rfl
  have hb := hx xs[m] (List.getElem_mem hmx)
  rw [hxm, or_eq h0 hb.1 hb.2]
  have hq0 : (0 : Int) < q := by omega
  rw [Int.fmod_eq_emod_of_nonneg _ (Int.le_of_lt hq0), Int.fdiv_eq_ediv_of_nonneg _ (Int.le_of_lt hq0)]
  have p2 : (0 : Int) < 2 ^ k := Int.pow_pos (by decide)
  have hy0 : 0 ≤ r * 2 ^ k + xs[m] := Int.add_nonneg (Int.mul_nonneg h0 (Int.le_of_lt p2)) hb.1
  refine ⟨Int.emod_nonneg _ (by omega), Int.emod_lt_of_pos _ hq0, by rw [List.length_set]; exact hl, ?_⟩
  obtain ⟨hL, hw⟩ := h
  have hup : r * 2 ^ k + xs[m] < 2 ^ k * q := by
    have e1 : (r + 1) * 2 ^ k ≤ (q : Int) * 2 ^ k := Int.mul_le_mul_of_nonneg_right (by omega) (Int.le_of_lt p2)
    rw [Int.add_mul, Int.one_mul] at e1
    rw [Int.mul_comm (2 ^ k)]
    have := hb.2
    omega
  have hd : 0 ≤ (r * 2 ^ k + xs[m]) / q ∧ (r * 2 ^ k + xs[m]) / q < 2 ^ k := ⟨Int.ediv_nonneg hy0 (Int.le_of_lt hq0), Int.ediv_lt_of_lt_mul hq0 hup⟩
  refine ⟨set_limbs hL hd, ?_⟩
  rw [List.length_append, List.length_singleton]
  have hm2 : xs.length - (pre.length + 1) = m := by omega
  rw [hm] at hw
  rw [hm2, List.drop_eq_getElem_cons hmx, worth, hw]
  have hmf : m < (fd.set m ((r * 2 ^ k + xs[m]) / q)).length := by rw [List.length_set, hl]; exact hmx
  rw [List.drop_eq_getElem_cons hmf, worth, List.getElem_set_self, List.drop_set_of_lt (by omega)]
  have hdm := Int.emod_add_mul_ediv (r * 2 ^ k + xs[m]) q
  rw [Int.add_mul, Int.mul_add]
  have e3 : (r * 2 ^ k + xs[m]) / q * q = r * 2 ^ k + xs[m] - (r * 2 ^ k + xs[m]) % q := by rw [Int.mul_comm]; omega
  rw [e3, Int.mul_comm (2 ^ k) r, Int.mul_assoc]
  omega
theorem div_end {k q V : Nat} {fd : List Int} {r : Int} {ks : List Int} (hk : 3 ≤ k) (hq : 2 ≤ q) (hks : ks.length = (((limbs k V).length : Int) - 1 - -1).toNat) (h0 : 0 ≤ r) (h1 : r < q) (hl : fd.length = (limbs k V).length) (h : DivInv k q (limbs k V) ks.length r fd) :
    norm fd = limbs k (V / q) ∧ r = ((V % q : Nat) : Int) := by
  obtain ⟨hL, hw⟩ := h
  have e : (limbs k V).length - ks.length = 0 := by omega
  rw [e, List.drop_zero, List.drop_zero, worth_limbs (by omega)] at hw
  rw [norm_limbs (by omega) hL]
  obtain ⟨f, hf⟩ := Int.eq_ofNat_of_zero_le (worth_nonneg hL)
  obtain ⟨b, rfl⟩ := Int.eq_ofNat_of_zero_le h0
  rw [hf] at hw ⊢
  have hV : V = f * q + b := by exact_mod_cast hw
  have hb : b < q := by exact_mod_cast h1
  rw [Int.toNat_natCast, hV, Nat.mul_comm f q, Nat.mul_add_div (by omega), Nat.div_eq_of_lt hb, Nat.add_zero, Nat.mul_add_mod, Nat.mod_eq_of_lt hb]
  exact ⟨rfl, rfl⟩
end Mine
end
section
open PySem PySem.W PyProof.Rows
namespace Mine
theorem worth_set {k : Nat} : ∀ {fd : List Int} {i : Nat} {v : Int}, i < fd.length → worth k (fd.set i v) = worth k fd + (v - fd.getD i 0) * 2 ^ (k * i)
  | x :: fd, 0, v, _ => by
    simp only [List.set_cons_zero, worth, List.getD_cons_zero, Nat.mul_zero, Int.pow_zero, Int.mul_one]; omega
  | x :: fd, i + 1, v, h => by
    have ih := worth_set (k := k) (fd := fd) (i := i) (v := v) (by simpa using h)
    simp only [List.set_cons_succ, worth, List.getD_cons_succ, ih]
    rw [Int.mul_add, Nat.mul_succ, Nat.add_comm (k * i) k, Int.pow_add, ← Int.mul_assoc (2 ^ k), Int.mul_comm (2 ^ k) (v - _), Int.mul_assoc (v - _) (2 ^ k)]
    omega
def MulOut (k : Nat) (ys pre fd : List Int) : Prop := Limbs k fd ∧ worth k fd = worth k pre * worth k ys ∧ ∀ i, pre.length + ys.length ≤ i → fd.getD i 0 = 0
def MulIn (k j : Nat) (x : Int) (fd0 pre2 fd : List Int) (c : Int) : Prop :=
  Limbs k fd ∧ worth k fd + c * 2 ^ (k * (j + pre2.length)) = worth k fd0 + x * worth k pre2 * 2 ^ (k * j) ∧ ∀ i, j + pre2.length ≤ i → fd.getD i 0 = fd0.getD i 0
theorem limb_at {k : Nat} {fd : List Int} (h : Limbs k fd) (i : Nat) : 0 ≤ fd.getD i 0 ∧ fd.getD i 0 < 2 ^ k := by
  by_cases hi : i < fd.length
  · have e : fd.getD i 0 = fd[i] := by rw [List.getD_eq_getElem?_getD, List.getElem?_eq_getElem hi]; rfl
    rw [e]; exact h _ (List.getElem_mem hi)
  · have e : fd.getD i 0 = 0 := by rw [List.getD_eq_getElem?_getD, List.getElem?_eq_none (by omega)]; rfl
    rw [e]; exact ⟨Int.le_refl _, Int.pow_pos (by decide)⟩
theorem limb_bits {k : Nat} {x : Int} (h8 : k ≤ 8) (h0 : 0 ≤ x) (h1 : x < 2 ^ k) : Builtin.Int.intBits x ≤ 64 := by
  have h2 : (2 : Int) ^ k ≤ 2 ^ 8 := by
    have := Nat.pow_le_pow_right (n := 2) (by decide) h8
    exact_mod_cast this
  have h3 : (2 : Int) ^ 8 = 256 := by decide
  exact intBits_le_iff.mpr (by have : (2 : Nat) ^ 64 = 18446744073709551616 := by decide
                               omega)
theorem mul_start {k m : Nat} {ys : List Int} : (List.replicate m [(0 : Int)]).flatten.length = m ∧ MulOut k ys [] (List.replicate m [(0 : Int)]).flatten := by
  rw [zeros_flat, List.length_replicate]
  refine ⟨rfl, limbs_zeros _ _, ?_, ?_⟩
  · have : ∀ m, worth k (List.replicate m 0) = 0 := by
      intro m
      induction m with
      | zero => rfl
      | succ m ih => rw [List.replicate_succ, worth, ih]; simp
    rw [this, worth, Int.zero_mul]
  · intro i _
    by_cases h : i < m
    · simp [List.getD_eq_getElem?_getD, List.getElem?_replicate, h]
    · simp [List.getD_eq_getElem?_getD, List.getElem?_replicate, h]
theorem in_start {k j : Nat} {x : Int} {fd : List Int} (h : Limbs k fd) : MulIn k j x fd [] fd 0 := by
  refine ⟨h, ?_, fun _ _ => rfl⟩
  simp [worth]
theorem in_turn {k j : Nat} {x y c : Int} {fd0 pre fd : List Int} {i : Nat} (hk : 3 ≤ k) (hx : 0 ≤ x ∧ x < 2 ^ k) (hy : 0 ≤ y ∧ y < 2 ^ k) (hc : 0 ≤ c ∧ c < 2 ^ k) (hi : i = j + pre.length) (hb : i < fd.length) (h : MulIn k j x fd0 pre fd c) :
    let s := c + (fd.getD i 0 + x * y)
    0 ≤ s / 2 ^ k ∧ s / 2 ^ k < 2 ^ k ∧ MulIn k j x fd0 (pre ++ [y]) (fd.set i (s % 2 ^ k)) (s / 2 ^ k) := by
  intro s
  obtain ⟨hL, hw, hz⟩ := h
  have hf := limb_at hL i
  have p2 : (0 : Int) < 2 ^ k := Int.pow_pos (by decide)
  have hxy : 0 ≤ x * y := Int.mul_nonneg hx.1 hy.1
  have hxy2 : x * y ≤ (2 ^ k - 1) * (2 ^ k - 1) := Int.mul_le_mul (by omega) (by omega) hy.1 (by omega)
  have hsq : ((2 : Int) ^ k - 1) * (2 ^ k - 1) = 2 ^ k * 2 ^ k - 2 * 2 ^ k + 1 := by
    rw [Int.sub_mul, Int.mul_sub, Int.one_mul, Int.mul_one]; omega
  have hs0 : 0 ≤ s := by show 0 ≤ c + (fd.getD i 0 + x * y); omega
  have hs1 : s < 2 ^ k * 2 ^ k := by show c + (fd.getD i 0 + x * y) < _; omega
  have hm0 := Int.emod_nonneg s (show (2 : Int) ^ k ≠ 0 by omega)
  have hm1 := Int.emod_lt_of_pos s p2
  refine ⟨Int.ediv_nonneg hs0 (Int.le_of_lt p2), Int.ediv_lt_of_lt_mul p2 hs1, set_limbs hL ⟨hm0, hm1⟩, ?_, ?_⟩
  · rw [worth_set hb, List.length_append, List.length_singleton, ← Nat.add_assoc, ← hi, Nat.mul_add, Nat.mul_one, Int.pow_add, worth_append]
    have hdm := Int.emod_add_mul_ediv s (2 ^ k)
    rw [← hi] at hw
    have e1 : s / 2 ^ k * (2 ^ (k * i) * 2 ^ k) = (2 ^ k * (s / 2 ^ k)) * 2 ^ (k * i) := by
      rw [Int.mul_comm (2 ^ (k * i)) (2 ^ k), ← Int.mul_assoc, Int.mul_comm (s / 2 ^ k)]
    rw [e1, Int.sub_mul]
    have e2 : s % 2 ^ k * 2 ^ (k * i) + 2 ^ k * (s / 2 ^ k) * 2 ^ (k * i) = s * 2 ^ (k * i) := by rw [← Int.add_mul, hdm]
    have e3 : s * 2 ^ (k * i) = c * 2 ^ (k * i) + (fd.getD i 0 * 2 ^ (k * i) + x * y * 2 ^ (k * i)) := by
      show (c + (fd.getD i 0 + x * y)) * 2 ^ (k * i) = _
      rw [Int.add_mul, Int.add_mul]
    have e4 : x * (worth k pre + 2 ^ (k * pre.length) * worth k [y]) * 2 ^ (k * j) = x * worth k pre * 2 ^ (k * j) + x * y * 2 ^ (k * i) := by
      rw [hi, Nat.mul_add, Int.pow_add, Int.mul_add, Int.add_mul]
      congr 1
      simp only [worth, Int.mul_zero, Int.add_zero]
      rw [Int.mul_comm (2 ^ (k * pre.length)) y, ← Int.mul_assoc x y, Int.mul_assoc (x * y), Int.mul_comm (2 ^ (k * pre.length))]
    rw [e4]
    omega
  · intro i' hi'
    rw [List.length_append, List.length_singleton] at hi'
    have hne : i ≠ i' := by omega
    rw [List.getD_eq_getElem?_getD, List.getElem?_set_ne hne, ← List.getD_eq_getElem?_getD]
    exact hz i' (by omega)
theorem out_turn {k : Nat} {x c : Int} {ys pre fd0 fd : List Int} {i : Nat} (hi : i = pre.length + ys.length) (hc : 0 ≤ c ∧ c < 2 ^ k) (hb : i < fd.length) (h0 : MulOut k ys pre fd0) (h : MulIn k pre.length x fd0 ys fd c) :
    MulOut k ys (pre ++ [x]) (fd.set i c) := by
  obtain ⟨hL, hw, hz⟩ := h
  obtain ⟨_, hw0, hz0⟩ := h0
  refine ⟨set_limbs hL hc, ?_, ?_⟩
  · have hfi : fd.getD i 0 = 0 := by rw [hz i (by omega)]; exact hz0 i (by omega)
    rw [worth_set hb, hfi, Int.sub_zero, hi, hw, hw0, worth_append, Int.add_mul]
    congr 1
    simp only [worth, Int.mul_zero, Int.add_zero]
    rw [Int.mul_comm x, Int.mul_assoc, Int.mul_comm (worth k ys), Int.mul_comm x]
  · intro i' hi'
    rw [List.length_append, List.length_singleton] at hi'
    have hne : i ≠ i' := by omega
    rw [List.getD_eq_getElem?_getD, List.getElem?_set_ne hne, ← List.getD_eq_getElem?_getD, hz i' (by omega)]
    exact hz0 i' (by omega)
theorem mul_end {k V W : Nat} {fd : List Int} (hk : 3 ≤ k) (h : MulOut k (limbs k W) (limbs k V) fd) : norm fd = limbs k (V * W) := by
  obtain ⟨hL, hw, _⟩ := h
  rw [norm_limbs (by omega) hL, hw, worth_limbs (by omega), worth_limbs (by omega), ← Int.natCast_mul, Int.toNat_natCast]
theorem in_state {k j : Nat} {x y c : Int} {fd0 pre fd : List Int} {L : Nat} (hk : 3 ≤ k) (hx : 0 ≤ x ∧ x < 2 ^ k) (hy : 0 ≤ y ∧ y < 2 ^ k) (hc : 0 ≤ c ∧ c < 2 ^ k) (hb : j + pre.length < fd.length) (hl : fd.length = L) (h : MulIn k j x fd0 pre fd c) :
    0 ≤ (c + (fd.getD ((j : Int) + (pre.length : Int)).toNat 0 + x * y)).fdiv (2 ^ ((k : Int)).toNat) ∧ (c + (fd.getD ((j : Int) + (pre.length : Int)).toNat 0 + x * y)).fdiv (2 ^ ((k : Int)).toNat) < 2 ^ k ∧
      (fd.set ((j : Int) + (pre.length : Int)).toNat (Builtin.bitAnd (c + (fd.getD ((j : Int) + (pre.length : Int)).toNat 0 + x * y)) (1 * 2 ^ ((k : Int)).toNat - 1))).length = L ∧
      MulIn k j x fd0 (pre ++ [y]) (fd.set ((j : Int) + (pre.length : Int)).toNat (Builtin.bitAnd (c + (fd.getD ((j : Int) + (pre.length : Int)).toNat 0 + x * y)) (1 * 2 ^ ((k : Int)).toNat - 1))) ((c + (fd.getD ((j : Int) + (pre.length : Int)).toNat 0 + x * y)).fdiv (2 ^ ((k : Int)).toNat)) := by
  have e : ((j : Int) + (pre.length : Int)).toNat = j + pre.length := by omega
  rw [e, shr_eq, mask_eq]
  have := in_turn hk hx hy hc rfl hb h
  exact ⟨this.1, this.2.1, by rw [List.length_set]; exact hl, this.2.2⟩
theorem out_state {k : Nat} {x c : Int} {ys pre fd0 fd : List Int} {L : Nat} (hc : 0 ≤ c ∧ c < 2 ^ k) (hb : pre.length + ys.length < fd.length) (hl : fd.length = L) (h0 : MulOut k ys pre fd0) (h : MulIn k pre.length x fd0 ys fd c) :
    (fd.set ((pre.length : Int) + (ys.length : Int)).toNat c).length = L ∧ MulOut k ys (pre ++ [x]) (fd.set ((pre.length : Int) + (ys.length : Int)).toNat c) := by
  have e : ((pre.length : Int) + (ys.length : Int)).toNat = pre.length + ys.length := by omega
  rw [e, List.length_set]
  exact ⟨hl, out_turn rfl hc hb h0 h⟩
end Mine
end
section
open PySem PySem.W PyProof.Rows PySem.Spec PySem.Calls PyProof.V
set_option maxRecDepth 100000
namespace Mine
section
variable {prog : Program} {w : World} {A : Around} {E : Value → Shared → Prop} {s : Shared} {env : Env} {h₀ : Heap} {xi xc : Str} {body : List Stmt} {Q : Flow → Shared → Prop}
/-- a loop over enumerate of a list that the call has made: what holds from turn to turn -/
theorem enum_inv {l : Addr} {vs : List Value} {ns : List Int} {nn : Nat} {m₀ : Str → Option Value} {news : List (Addr × Obj)} (J : Nat → (Str → Option Value) → List (Addr × Obj) → Prop)
    (hh : A.handled = none) (hl : (l, listOf vs.toArray nn) ∈ news) (hi : IntsAre vs ns) (F : Fr h₀ env.locals s.heap m₀) (N : News h₀ env.locals s.heap news) (hj : J 0 m₀ news)
    (turn : ∀ i n t ti m₁ news₁ h tk own, ns[i]? = some n → OwnOff own (news.map (·.1)) → (l, listOf vs.toArray nn) ∈ news₁ → J i m₁ news₁ → Fr h₀ env.locals h (fun y => if y = xc then some (.int n t) else if y = xi then some (.int (i : Nat) ti) else m₁ y) → News h₀ env.locals h (news₁ ++ own) →
      wpAny (model prog w) A (execs body env) (InvPostN h₀ env.locals (fun m' nx => (l, listOf vs.toArray nn) ∈ nx ∧ J (i + 1) m' nx) own (news.map (·.1)) { s with heap := h, toks := tk } Q) E { s with heap := h, toks := tk })
    (done : ∀ m₁ news₁ h tk, (l, listOf vs.toArray nn) ∈ news₁ → J ns.length m₁ news₁ → Fr h₀ env.locals h m₁ → News h₀ env.locals h news₁ → Q .next { s with heap := h, toks := tk }) :
    wpAny (model prog w) A (call (.type "enumerate") [.ref l]) (fun xv s₁ => wpAny (model prog w) A (pyIter xv) (fun it s₂ => PairAt3 prog w A h₀ env xi xc body Q E it s₂) E s₁) E s := by
  have hol : s.heap.get? l = some (listOf vs.toArray nn) := (N _ hl).1
  have hls : s.heap.IsList l vs.toArray := ⟨_, hol, rfl, nn, rfl⟩
  have hlt : l < s.heap.objs.size := Heap.lt_size hol
  have hLs : env.locals < s.heap.objs.size := F.ns.lt
  have hab : h₀.objs.size ≤ env.locals := F.above
  refine call_enumerate_list hls fun h' he hit hsz hk => ?_
  refine wpAny_pyIter_enum (s := { s with heap := h' }) he ?_
  have W := WalksT.enumerate (prog := prog) (w := w) hh (s.heap.objs.size + 1) s.heap.objs.size l (Nat.succ_ne_self _) (Nat.ne_of_lt (Nat.lt_succ_of_lt hlt)) (Nat.ne_of_lt hlt) vs.toArray
  have hlen : vs.toArray.size = ns.length := by simp [hi.length]
  rw [hlen] at W
  refine ⟨s.heap.objs.size + 1, _, _, ns.length, _, _, _, (fun i v0 v1 => ∃ t, v0 = .int (i : Nat) t ∧ vs[i]? = some v1), m₀, news, (fun i m nx => (l, listOf vs.toArray nn) ∈ nx ∧ J i m nx), rfl, W, ?_, ?_, ?_, ?_, ?_, F.keeps hk, (fun p hp => ⟨hk _ _ (N p hp).1, (N p hp).2⟩), ⟨hl, hj⟩, ?_, ?_⟩
  · rintro i vals ⟨t, x, hx, rfl⟩
    exact ⟨_, _, rfl, t, rfl, by simpa using hx⟩
  · intro hm
    rcases List.mem_cons.mp hm with e | hm
    · exact absurd (Nat.lt_succ_of_lt hLs) (by rw [e]; exact Nat.lt_irrefl _)
    · rcases List.mem_cons.mp hm with e | hm
      · exact absurd hLs (by rw [e]; exact Nat.lt_irrefl _)
      · exact (N _ hl).2.1 ((List.mem_singleton.mp hm).symm)
  · intro b hb
    refine Heap.get?_none_of_le ?_
    have h9 : h₀.objs.size ≤ s.heap.objs.size := Nat.le_trans hab (Nat.le_of_lt hLs)
    rcases List.mem_cons.mp hb with rfl | hb
    · exact Nat.le_succ_of_le h9
    · rw [List.mem_singleton.mp hb]; exact h9
  · intro p hp hb
    have h9 := Heap.lt_size (N p hp).1
    rcases List.mem_cons.mp hb with e | hb
    · exact absurd (Nat.lt_succ_of_lt h9) (by rw [e]; exact Nat.lt_irrefl _)
    · exact absurd h9 (by rw [List.mem_singleton.mp hb]; exact Nat.lt_irrefl _)
  · exact ⟨⟨_, he⟩, hit, hls.at fun o e => hk l o e⟩
  · rintro i v0 v1 m₁ news₁ s₁ own ⟨hh', tk', rfl⟩ hin ⟨ti, rfl, hP⟩ ⟨hl₁, hJ⟩ hadr hown F₁ N₁
    have hlt' : i < ns.length := hin
    obtain ⟨t, hx⟩ := hi.get i ns[i] (by simp [hlt'])
    have hv : v1 = .int ns[i] t := by rw [hx] at hP; exact (Option.some.inj hP).symm
    subst hv
    have hsep : OwnOff (own.filter fun p => decide (p.1 ≠ l)) (news.map (·.1)) := by
      intro p hp b hb e
      obtain ⟨q, hq, rfl⟩ := List.mem_map.mp hb
      have h1 : p.1 ≠ l := by simpa using (List.mem_filter.mp hp).2
      have hq2 := Heap.lt_size (N q hq).1
      rcases List.mem_cons.mp (hown p (List.mem_filter.mp hp).1) with h2 | h2
      · exact absurd (Nat.lt_succ_of_lt hq2) (by rw [← e, h2]; exact Nat.lt_irrefl _)
      · rcases List.mem_cons.mp h2 with h2 | h2
        · exact absurd hq2 (by rw [← e, h2]; exact Nat.lt_irrefl _)
        · exact h1 (List.mem_singleton.mp h2)
    have N₂ : News h₀ env.locals hh' (news₁ ++ own.filter fun p => decide (p.1 ≠ l)) := fun p hp => N₁ p ((List.mem_append.mp hp).elim (fun h => List.mem_append.mpr (.inr h)) fun h => List.mem_append.mpr (.inl ((List.mem_filter.mp h).1)))
    have hlo : hh'.get? l = some (listOf vs.toArray nn) := (N₁ _ (List.mem_append.mpr (.inr hl₁))).1
    refine wpAny_mono (turn i ns[i] t ti m₁ news₁ hh' tk' _ (by simp [hlt']) hsep hl₁ hJ F₁ N₂) (fun f s₂ p => ?_) fun _ _ e => e
    have fin : InvEndN h₀ env.locals (fun m' nx => (l, listOf vs.toArray nn) ∈ nx ∧ J (i + 1) m' nx) (own.filter fun p => decide (p.1 ≠ l)) (news.map (·.1)) { s with heap := hh', toks := tk' } s₂ →
        LoopStep2 h₀ env.locals own news₁ (fun m nx => (l, listOf vs.toArray nn) ∈ nx ∧ J (i + 1) m nx) { s with heap := hh', toks := tk' } .next s₂ := by
      rintro ⟨h', tk, m', news', nx, e, F', N', hn, ho, ha, hm⟩
      refine ⟨rfl, h', tk, m', nx, e, F', fun p hp => ?_, by rw [ha, hadr], hm⟩
      rcases List.mem_append.mp hp with h | h
      · by_cases hI : p.1 = l
        · have h2 : hh'.get? p.1 = some p.2 := (N₁ p (List.mem_append.mpr (.inl h))).1
          rw [hI, hlo] at h2
          have h3 : p = (l, listOf vs.toArray nn) := Prod.ext hI (Option.some.inj h2).symm
          rw [h3]
          exact N' _ (hn _ hm.1)
        · exact N' p (ho p (List.mem_filter.mpr ⟨h, by simpa using hI⟩))
      · exact N' p (hn p h)
    cases f with
    | ret v => exact p
    | brk => exact p
    | next => exact fin p
    | cont => exact fin p
  · rintro h' tk m' news' F' N' _ ⟨hl', hJ⟩
    exact done m' news' h' tk hl' hJ F' N'
theorem kst_enum {σ : Type} {l : Addr} {vs : List Value} {ns : List Int} {nn : Nat} {m₀ : Str → Option Value} (Led : σ → List (Addr × Obj)) (ps : σ → List (Str × Value)) (Facts : σ → Prop) (stored : List Str) (P : List Int → σ → Prop) (c₀ : σ)
    (hh : A.handled = none) (hl : ∀ c : σ, (l, listOf vs.toArray nn) ∈ Led c) (hi : IntsAre vs ns) (F : Fr h₀ env.locals s.heap m₀) (N : News h₀ env.locals s.heap (Led c₀)) (hf : Facts c₀) (hk : ∀ p ∈ ps c₀, m₀ p.1 = some p.2) (hp : P [] c₀)
    (turn : ∀ (c : σ) pre post n t ti (u : Str → Option Value) h tk own, ns = pre ++ n :: post → OwnOff own ((Led c₀).map (·.1)) → Facts c → P pre c →
      Fr h₀ env.locals h (fun y => if y = xc then some (.int n t) else if y = xi then some (.int (pre.length : Nat) ti) else kstB (fun z => if stored.contains z then u z else m₀ z) (ps c) y) → News h₀ env.locals h (Led c ++ own) →
      wpAny (model prog w) A (execs body env) (InvPostN h₀ env.locals (KstS Led ps Facts xc stored m₀ P (pre ++ [n])) own ((Led c₀).map (·.1)) { s with heap := h, toks := tk } Q) E { s with heap := h, toks := tk })
    (done : ∀ (c : σ) (u : Str → Option Value) h tk, Facts c → P ns c → Fr h₀ env.locals h (fun y => if y = xc then u y else kstB (fun z => if stored.contains z then u z else m₀ z) (ps c) y) → News h₀ env.locals h (Led c) → Q .next { s with heap := h, toks := tk }) :
    wpAny (model prog w) A (call (.type "enumerate") [.ref l]) (fun xv s₁ => wpAny (model prog w) A (pyIter xv) (fun it s₂ => PairAt3 prog w A h₀ env xi xc body Q E it s₂) E s₁) E s := by
  refine enum_inv (fun i m nx => KstS Led ps Facts xc stored m₀ P (ns.take i) m nx) hh (hl c₀) hi F N ⟨c₀, rfl, hf, hk, fun _ _ _ _ => rfl, by simpa using hp⟩ ?_ ?_
  · rintro i n t ti m₁ nx h tk own hn hoff _ ⟨c, rfl, hf', h1, h2, hp'⟩ F₁ N₁
    have hs : ns.take (i + 1) = ns.take i ++ [n] := by simp [List.take_add_one, hn]
    have e : ns = ns.take i ++ n :: ns.drop (i + 1) := by
      have ht := List.take_append_drop (i + 1) ns
      rw [hs, List.append_assoc] at ht
      exact ht.symm
    have hil : (ns.take i).length = i := by
      rw [List.length_take]
      have := (List.getElem?_eq_some_iff.mp hn).1
      omega
    have em : (fun y => if y = xc then some (Value.int n t) else if y = xi then some (Value.int ((ns.take i).length : Nat) ti) else kstB (fun z => if stored.contains z then m₁ z else m₀ z) (ps c) y) = fun y => if y = xc then some (Value.int n t) else if y = xi then some (Value.int (i : Nat) ti) else m₁ y := by
      funext y
      rw [hil]
      by_cases hy : y = xc
      · rw [if_pos hy, if_pos hy]
      · rw [if_neg hy, if_neg hy]
        by_cases hy2 : y = xi
        · rw [if_pos hy2, if_pos hy2]
        · rw [if_neg hy2, if_neg hy2]
          exact kst_off (x := xc) h1 h2 hy
    rw [hs]
    refine wpAny_mono (turn c _ _ n t ti m₁ h tk own e hoff hf' hp' (by rw [em]; exact F₁) N₁) (fun f s₂ p => ?_) fun _ _ x => x
    have up : InvEndN h₀ env.locals (KstS Led ps Facts xc stored m₀ P (ns.take i ++ [n])) own ((Led c₀).map (·.1)) { s with heap := h, toks := tk } s₂ →
        InvEndN h₀ env.locals (fun m' nx => (l, listOf vs.toArray nn) ∈ nx ∧ KstS Led ps Facts xc stored m₀ P (ns.take i ++ [n]) m' nx) own ((Led c₀).map (·.1)) { s with heap := h, toks := tk } s₂ := by
      rintro ⟨h', tk', m', news', nx', e', F', N', hn', ho', ha, hS⟩
      refine ⟨h', tk', m', news', nx', e', F', N', hn', ho', ha, ?_, hS⟩
      obtain ⟨c', rfl, _⟩ := hS
      exact hl c'
    cases f with
    | ret v => exact p
    | brk => exact p
    | next => exact up p
    | cont => exact up p
  · rintro m₁ nx h tk _ ⟨c, rfl, hf', h1, h2, hp'⟩ F₁ N₁
    rw [List.take_length] at hp'
    exact done c m₁ h tk hf' hp' (kst_frOut h1 h2 F₁) N₁
end
end Mine
end
section
open PySem PySem.W PyProof.Rows PySem.Spec PySem.Calls PyProof.V
set_option maxRecDepth 100000
namespace Mine
def ups (a c : Int) (n : Nat) : List Int := (List.range n).map fun (i : Nat) => a + (i : Int) * c
theorem ups_length (a c : Int) (n : Nat) : (ups a c n).length = n := by simp [ups]
theorem rangeSize_up {a b c : Int} (hc : 0 < c) : Builtin.Range.rangeSize a b c = if a < b then (b - a - 1) / c + 1 else 0 := by
  unfold Builtin.Range.rangeSize
  simp only [gt_iff_lt, hc, if_true]
theorem ups_below {a b c : Int} {i : Nat} (hc : 0 < c) (h : i < (Builtin.Range.rangeSize a b c).toNat) : a + (i : Int) * c < b := by
  rw [rangeSize_up hc] at h
  split at h
  · have h1 : (i : Int) ≤ (b - a - 1) / c := by omega
    have h2 := Int.mul_le_mul_of_nonneg_right h1 (Int.le_of_lt hc)
    have h3 := Int.ediv_mul_le (b - a - 1) (show c ≠ 0 by omega)
    omega
  · simp at h
theorem size_nat {a b c : Int} (hc : 0 < c) : Builtin.Range.rangeSize a b c = ((Builtin.Range.rangeSize a b c).toNat : Int) := by
  rw [rangeSize_up hc]
  split
  · have := Int.ediv_nonneg (show 0 ≤ b - a - 1 by omega) (Int.le_of_lt hc)
    omega
  · rfl
section
variable {prog : Program} {w : World} {A : Around} {E : Value → Shared → Prop} {s : Shared} {env : Env} {h₀ : Heap} {x : Str} {body : List Stmt} {Q : Flow → Shared → Prop}
theorem kst_rangeC {σ : Type} {r : Addr} {a₀ b₀ c : Int} {t₀ u₀ v₀ : Tok} {n : Nat} {m₀ : Str → Option Value} (Led : σ → List (Addr × Obj)) (ps : σ → List (Str × Value)) (Facts : σ → Prop) (stored : List Str) (P : List Int → σ → Prop) (c₀ : σ)
    (hh : A.handled = none) (hr : IsRange s.heap r a₀ b₀ c t₀ u₀ v₀) (hsmall : Builtin.Range.small a₀ b₀ c = true) (hn : Builtin.Range.rangeSize a₀ b₀ c = (n : Int)) (F : Fr h₀ env.locals s.heap m₀) (N : News h₀ env.locals s.heap (Led c₀)) (hf : Facts c₀) (hk : ∀ p ∈ ps c₀, m₀ p.1 = some p.2) (hp : P [] c₀)
    (turn : ∀ (z : σ) (i : Nat) (k : Int) t (u : Str → Option Value) h tk own, k = a₀ + (i : Int) * c → i < n → OwnOff own ((Led c₀).map (·.1)) → Facts z → P (ups a₀ c i) z →
      Fr h₀ env.locals h (fun y => if y = x then some (.int k t) else kstB (fun z => if stored.contains z then u z else m₀ z) (ps z) y) → News h₀ env.locals h (Led z ++ own) →
      wpAny (model prog w) A (execs body env) (InvPostN h₀ env.locals (KstS Led ps Facts x stored m₀ P (ups a₀ c (i + 1))) own ((Led c₀).map (·.1)) { s with heap := h, toks := tk } Q) E { s with heap := h, toks := tk })
    (done : ∀ (z : σ) (u : Str → Option Value) h tk, Facts z → P (ups a₀ c n) z → Fr h₀ env.locals h (fun y => if y = x then u y else kstB (fun z => if stored.contains z then u z else m₀ z) (ps z) y) → News h₀ env.locals h (Led z) → Q .next { s with heap := h, toks := tk }) :
    wpAny (model prog w) A (pyIter (.ref r)) (fun it s₂ => LoopAtV prog w A h₀ env x body Q E it s₂) E s := by
  refine wpAny_pyIter_range hr hsmall ?_
  have W : Walks prog w A s.heap.objs.size [s.heap.objs.size] [s.heap.objs.size] n (fun i v => i < n ∧ ∃ t, v = .int (a₀ + i * c) t)
      (fun i h => IsRangeIter h s.heap.objs.size (a₀ + (i : Nat) * c) ((n : Int) - (i : Nat)) c) := (Walks.range hh _ a₀ c n).bound
  refine loop_invN (fun i m nx => KstS Led ps Facts x stored m₀ P (ups a₀ c i) m nx) W ?_ ?_ ?_ ?_ (by show IsRangeIter _ _ _ _ _; rw [hn]; simpa using Heap.get?_push_size _ rfl) (F.push _) (fun p hp => ⟨Heap.get?_push_of_some _ (N p hp).1, (N p hp).2⟩) ⟨c₀, rfl, hf, hk, fun _ _ _ _ => rfl, by simpa [ups] using hp⟩ ?_ ?_
  · intro hm
    exact absurd F.ns.lt ((List.mem_singleton.mp hm) ▸ Nat.lt_irrefl _)
  · intro b hb
    rw [List.mem_singleton.mp hb]
    exact next_is_new F
  · intro p hp hI
    exact absurd (Heap.lt_size (N p hp).1) ((List.mem_singleton.mp hI) ▸ Nat.lt_irrefl _)
  · intro p hp hI
    exact absurd (Heap.lt_size (N p hp).1) ((List.mem_singleton.mp hI) ▸ Nat.lt_irrefl _)
  · rintro i v m₁ nx h tk own hi ⟨_, t, rfl⟩ _ hoff ⟨z, rfl, hf', h1, h2, hp'⟩ F₁ N₁
    exact turn z i _ t m₁ h tk own rfl hi hoff hf' hp' (kst_fr h1 h2 F₁) N₁
  · rintro m₁ nx h tk ⟨z, rfl, hf', h1, h2, hp'⟩ F₁ N₁
    exact done z m₁ h tk hf' hp' (kst_frOut h1 h2 F₁) N₁
end
end Mine
end
open PySem PySem.W PyProof.Rows PySem.Spec PySem.Calls
local macro_rules | `(tactic| ktn_open) => `(tactic| ((case k6 => k_is); (case k7 => k_is); (case k8 => omega); (case k9 => exact BindsTo.of_eq rfl); (case kB => exact locs rfl); (case c2 => exact rfl); (case c3 => exact rfl); (case c4 => exact rfl); (case c5 => decide)))
local macro_rules | `(tactic| ktn_lt) => `(tactic| first | assumption | exact And.right (by assumption) | exact And.right (And.right (by assumption)) | exact And.right (And.right (And.right (by assumption))) | exact And.right (And.right (And.right (And.right (by assumption)))) | exact And.right (And.right (And.right (And.right (And.right (by assumption))))) | exact And.right (And.right (And.right (And.right (And.right (And.right (by assumption)))))) | exact And.right (And.right (And.right (And.right (And.right (And.right (And.right (by assumption))))))) | exact And.right (And.right (And.right (And.right (And.right (And.right (And.right (And.right (by assumption)))))))) | exact And.right (And.right (And.right (And.right (And.right (And.right (And.right (And.right (And.right (by assumption))))))))))
local macro_rules | `(tactic| ktr_unf) => `(tactic| ((case B => k_asm); (case F => k_asm); (case X => k_asm); (case N => k_asm); (case T => k_asm); (case hf => first | rfl | assumption); (case hk => first | rfl | assumption); (case hd => (dsimp only; omega)); (case hu => (have hcL9 := cLine_is; dsimp only; omega))))
section
open PySem PySem.W PyProof.Rows PySem.Spec PySem.Calls
set_option maxRecDepth 100000
namespace Mine
theorem norm_turn {xs : List Int} {e : Int} (h0 : 0 ≤ e) (h1 : e ≤ xs.length) (hp : 0 < e) (hz : xs.getD (e - 1).toNat 0 = 0) (h : norm (xs.take e.toNat) = norm xs) :
    0 ≤ e - 1 ∧ e - 1 ≤ xs.length ∧ norm (xs.take (e - 1).toNat) = norm xs := by
  obtain ⟨j, rfl⟩ : ∃ j : Nat, e = j + 1 := ⟨(e - 1).toNat, by omega⟩
  have e1 : ((j : Int) + 1 - 1).toNat = j := by omega
  have e2 : ((j : Int) + 1).toNat = j + 1 := by omega
  rw [e1] at hz
  rw [e2] at h
  rw [e1, ← norm_take (by omega) hz]
  exact ⟨by omega, by omega, h⟩
theorem norm_start {xs : List Int} : norm (xs.take ((xs.length : Int)).toNat) = norm xs := by
  rw [Int.toNat_natCast, List.take_length]
theorem norm_endA {xs : List Int} {e : Int} (hp : ¬ 0 < e) (h : norm (xs.take e.toNat) = norm xs) : xs.take e.toNat = norm xs := by
  have : e.toNat = 0 := by omega
  rw [this] at h ⊢
  rw [← h]; rfl
theorem norm_endB {xs : List Int} {e : Int} (h0 : 0 ≤ e) (h1 : e ≤ xs.length) (hp : 0 < e) (hz : ¬ xs.getD (e - 1).toNat 0 = 0) (h : norm (xs.take e.toNat) = norm xs) : xs.take e.toNat = norm xs := by
  obtain ⟨j, rfl⟩ : ∃ j : Nat, e = j + 1 := ⟨(e - 1).toNat, by omega⟩
  have e1 : ((j : Int) + 1 - 1).toNat = j := by omega
  have e2 : ((j : Int) + 1).toNat = j + 1 := by omega
  rw [e1] at hz
  rw [e2] at h ⊢
  rw [← h, norm_stop (by omega) hz]
set_option maxHeartbeats 4000000 in
theorem norm_ok (l : Addr) (vs : List Value) (xs : List Int) (n : Nat) (hi : IntsAre vs xs) (hl : xs.length ≤ 10000000) :
    Gives 58 1 [.ref l] (fun news => (l, listOf vs.toArray n) ∈ news) (IsL (norm xs)) := by
  unfold Gives
  intro c s Q E B F X N T hf hk hpre hd hu hret
  (k_dflt refine' enter [(Str.ofString "a", .ref l)] [(l, listOf vs.toArray n)] B F X N T hf hk ?k6 ?k7 ?k8 ?k9 ?kB ?c2 ?c3 ?c4 ?c5 ?ca ?_)
  ktn_open
  case ca => exact List.forall_mem_cons.mpr ⟨hpre, List.forall_mem_nil _⟩
  intro g' L' h' tk' FG' F' N' B' X' T'
  try dsimp only [List.cons_append, List.nil_append] at N'
  (try k_fold)
  (k_with "exec While BoolOp cons nil" => k_while (fun _ e => 0 ≤ e ∧ e ≤ xs.length ∧ norm (xs.take e.toNat) = norm xs) (fun _ e => e.toNat) "end")
  (k_with "state" => first | exact ⟨by omega, by omega, norm_start⟩ | exact norm_turn (by assumption) (by assumption) (by assumption) (by assumption) (by assumption))
  k_steps
  · exact retL hret (by k_asm) (by k_asm) (by kcj_all) (by ktn_lt) (by assumption) (norm_endB (by assumption) (by assumption) (by assumption) (by assumption) (by assumption))
  · exact retL hret (by k_asm) (by k_asm) (by kcj_all) (by ktn_lt) (by assumption) (norm_endA (by assumption) (by assumption))
end Mine
end
section
open PySem PySem.W PyProof.Rows PySem.Spec PySem.Calls
set_option maxRecDepth 100000
namespace Mine
theorem limbs_turn {k V : Nat} {nb : Int} {fd : List Int} {d q : Int} (hk : 3 ≤ k) (hV : (limbs k V).length ≤ 200) (hp : 0 < nb) (h : fd ++ limbs k nb.toNat = limbs k V) (hd : d = nb % 2 ^ k) (hq : q = nb / 2 ^ k) :
    0 ≤ q ∧ (fd ++ [d]) ++ limbs k q.toNat = limbs k V ∧ (fd ++ [d]).length ≤ 200 := by
  obtain ⟨j, rfl⟩ := Int.eq_ofNat_of_zero_le (Int.le_of_lt hp)
  have e1 : d = ((j % 2 ^ k : Nat) : Int) := by rw [hd]; push_cast; rfl
  have e2 : q = ((j / 2 ^ k : Nat) : Int) := by rw [hq]; push_cast; rfl
  rw [Int.toNat_natCast, limbs_pos (by omega) (by omega)] at h
  have h' : (fd ++ [d]) ++ limbs k q.toNat = limbs k V := by
    rw [e2, e1, Int.toNat_natCast, List.append_assoc, List.singleton_append]; exact h
  refine ⟨by rw [e2]; exact Int.natCast_nonneg _, h', ?_⟩
  rw [← h', List.length_append] at hV
  omega
theorem limbs_less {k : Nat} {nb q : Int} (hk : 0 < k) (hp : 0 < nb) (hq : q = nb / 2 ^ k) : q.toNat < nb.toNat := by
  obtain ⟨j, rfl⟩ := Int.eq_ofNat_of_zero_le (Int.le_of_lt hp)
  have e2 : q = ((j / 2 ^ k : Nat) : Int) := by rw [hq]; push_cast; rfl
  have h2 : j / 2 ^ k < j := Nat.div_lt_self (by omega) (Nat.one_lt_two_pow (by omega))
  rw [e2, Int.toNat_natCast, Int.toNat_natCast]
  exact h2
theorem limbs_start {k V : Nat} : 0 ≤ (V : Int) ∧ [] ++ limbs k ((V : Int)).toNat = limbs k V ∧ ([] : List Int).length ≤ 200 := by
  rw [Int.toNat_natCast]; exact ⟨Int.natCast_nonneg _, rfl, by simp⟩
theorem limbs_end {k N : Nat} {nb : Int} {fd : List Int} (hp : ¬ 0 < nb) (h : fd ++ limbs k nb.toNat = limbs k N) : fd = limbs k N := by
  have : nb.toNat = 0 := by omega
  rw [this, limbs_zero, List.append_nil] at h
  exact h
set_option maxHeartbeats 4000000 in
theorem natof_ok (V k : Nat) (t1 t2 : Tok) (hV : (limbs k V).length ≤ 200) (h3 : 3 ≤ k) (h8 : k ≤ 8) :
    Gives 65 1 [.int V t1, .int k t2] (fun _ => True) (IsL (limbs k V)) := by
  unfold Gives
  intro c s Q E B F X N T hf hk hpre hd hu hret
  (k_dflt refine' enter [(Str.ofString "w", .int k t2), (Str.ofString "number", .int V t1)] [] B F X N T hf hk ?k6 ?k7 ?k8 ?k9 ?kB ?c2 ?c3 ?c4 ?c5 ?ca ?_)
  ktn_open
  case ca => exact List.forall_mem_nil _
  intro g' L' h' tk' FG' F' N' B' X' T'
  have hnil : IntsAre [] [] := .nil
  try dsimp only [List.cons_append, List.nil_append] at N'
  (try k_fold)
  (k_with "exec While Compare cons nil" => k_while (fun _ nb fd => 0 ≤ nb ∧ fd ++ limbs k nb.toNat = limbs k V ∧ fd.length ≤ 200) (fun _ nb _ => nb.toNat) "number" "found")
  (k_with "state" => first | exact limbs_start | exact limbs_turn h3 hV (by assumption) (by assumption) (mask_eq _ _) (shr_eq _ _))
  (k_with "measure" => exact limbs_less (by omega) (by assumption) (shr_eq _ _))
  k_steps
  exact retL hret (by k_asm) (by k_asm) (by kcj_all) (by ktn_lt) (by assumption) (limbs_end (by assumption) (by assumption))
end Mine
end
section
open PySem PySem.W PyProof.Rows PySem.Spec PySem.Calls
set_option maxRecDepth 100000
namespace Mine
theorem llimbs_turn {k V : Nat} {nb : Int} {fd : List Int} {d q : Int} (hk : 3 ≤ k) (hV : (limbs k V).length ≤ 200) (hp : 0 < nb) (h : fd ++ limbs k nb.toNat = limbs k V) (hd : d = nb % 2 ^ k) (hq : q = nb / 2 ^ k) :
    0 ≤ q ∧ (fd ++ [d]) ++ limbs k q.toNat = limbs k V ∧ (fd ++ [d]).length ≤ 200 := by
  obtain ⟨j, rfl⟩ := Int.eq_ofNat_of_zero_le (Int.le_of_lt hp)
  have e1 : d = ((j % 2 ^ k : Nat) : Int) := by rw [hd]; push_cast; rfl
  have e2 : q = ((j / 2 ^ k : Nat) : Int) := by rw [hq]; push_cast; rfl
  rw [Int.toNat_natCast, limbs_pos (by omega) (by omega)] at h
  have h' : (fd ++ [d]) ++ limbs k q.toNat = limbs k V := by
    rw [e2, e1, Int.toNat_natCast, List.append_assoc, List.singleton_append]; exact h
  refine ⟨by rw [e2]; exact Int.natCast_nonneg _, h', ?_⟩
  rw [← h', List.length_append] at hV
  omega
theorem llimbs_less {k : Nat} {nb q : Int} (hk : 0 < k) (hp : 0 < nb) (hq : q = nb / 2 ^ k) : q.toNat < nb.toNat := by
  obtain ⟨j, rfl⟩ := Int.eq_ofNat_of_zero_le (Int.le_of_lt hp)
  have e2 : q = ((j / 2 ^ k : Nat) : Int) := by rw [hq]; push_cast; rfl
  have h2 : j / 2 ^ k < j := Nat.div_lt_self (by omega) (Nat.one_lt_two_pow (by omega))
  rw [e2, Int.toNat_natCast, Int.toNat_natCast]
  exact h2
theorem llimbs_start {k V : Nat} : 0 ≤ (V : Int) ∧ [] ++ limbs k ((V : Int)).toNat = limbs k V ∧ ([] : List Int).length ≤ 200 := by
  rw [Int.toNat_natCast]; exact ⟨Int.natCast_nonneg _, rfl, by simp⟩
theorem llimbs_end {k N : Nat} {nb : Int} {fd : List Int} (hp : ¬ 0 < nb) (h : fd ++ limbs k nb.toNat = limbs k N) : fd = limbs k N := by
  have : nb.toNat = 0 := by omega
  rw [this, limbs_zero, List.append_nil] at h
  exact h
set_option maxHeartbeats 4000000 in
theorem lawlimbs_ok (V k : Nat) (t1 t2 : Tok) (hV : (limbs k V).length ≤ 200) (h3 : 3 ≤ k) (h8 : k ≤ 8) :
    Gives 261 1 [.int V t1, .int k t2] (fun _ => True) (IsL (limbs k V)) := by
  unfold Gives
  intro c s Q E B F X N T hf hk hpre hd hu hret
  (k_dflt refine' enter [(Str.ofString "w", .int k t2), (Str.ofString "number", .int V t1)] [] B F X N T hf hk ?k6 ?k7 ?k8 ?k9 ?kB ?c2 ?c3 ?c4 ?c5 ?ca ?_)
  ktn_open
  case ca => exact List.forall_mem_nil _
  intro g' L' h' tk' FG' F' N' B' X' T'
  have hnil : IntsAre [] [] := .nil
  try dsimp only [List.cons_append, List.nil_append] at N'
  (try k_fold)
  (k_with "exec While Compare cons nil" => k_while (fun _ nb fd => 0 ≤ nb ∧ fd ++ limbs k nb.toNat = limbs k V ∧ fd.length ≤ 200) (fun _ nb _ => nb.toNat) "number" "found")
  (k_with "state" => first | exact llimbs_start | exact llimbs_turn h3 hV (by assumption) (by assumption) (fmod_eq _ _) (shr_eq _ _))
  (k_with "measure" => exact llimbs_less (by omega) (by assumption) (shr_eq _ _))
  k_steps
  exact retL hret (by k_asm) (by k_asm) (by kcj_all) (by ktn_lt) (by assumption) (llimbs_end (by assumption) (by assumption))
end Mine
end
section
open PySem PySem.W PyProof.Rows PySem.Spec PySem.Calls
set_option maxRecDepth 100000
namespace Mine
theorem worth_fold {k : Nat} : ∀ (xs : List Int), xs.reverse.foldl (fun a x => a * 2 ^ k + x) 0 = worth k xs
  | [] => rfl
  | x :: xs => by
    rw [List.reverse_cons, List.foldl_append, worth_fold xs, worth, List.foldl_cons, List.foldl_nil, Int.mul_comm, Int.add_comm]
theorem worth_step {k : Nat} {pre : List Int} {wt x : Int} (h : wt = pre.foldl (fun a x => a * 2 ^ k + x) 0) : wt * 2 ^ ((k : Int)).toNat + x = (pre ++ [x]).foldl (fun a x => a * 2 ^ k + x) 0 := by
  rw [List.foldl_append, ← h, Int.toNat_natCast]; rfl
theorem worth_end {k : Nat} {xs : List Int} {wt : Int} (h : wt = xs.reverse.foldl (fun a x => a * 2 ^ k + x) 0) : wt = worth k xs := h.trans (worth_fold xs)
set_option maxHeartbeats 4000000 in
theorem lawworth_ok (l : Addr) (vs : List Value) (xs : List Int) (n k : Nat) (t2 : Tok) (hi : IntsAre vs xs) (hl : xs.length ≤ 200) (h3 : 3 ≤ k) (h8 : k ≤ 8) :
    Gives 268 1 [.ref l, .int k t2] (fun news => (l, listOf vs.toArray n) ∈ news) (IsI (worth k xs)) := by
  unfold Gives
  intro c s Q E B F X N T hf hk hpre hd hu hret
  (k_dflt refine' enter [(Str.ofString "w", .int k t2), (Str.ofString "limbs", .ref l)] [(l, listOf vs.toArray n)] B F X N T hf hk ?k6 ?k7 ?k8 ?k9 ?kB ?c2 ?c3 ?c4 ?c5 ?ca ?_)
  ktn_open
  case ca => exact List.forall_mem_cons.mpr ⟨hpre, List.forall_mem_nil _⟩
  intro g' L' h' tk' FG' F' N' B' X' T'
  have hnil : IntsAre [] [] := .nil
  try dsimp only [List.cons_append, List.nil_append] at N'
  (try k_fold)
  have hp2 := pow2_bits h8
  (k_with "pyIter ref" => k_state (fun pre wt => wt = pre.foldl (fun a x => a * 2 ^ k + x) 0) "worth")
  (k_with "state" => first | rfl | exact worth_step (by assumption))
  k_steps
  all_goals exact retI hret (by k_asm) (by k_asm) (by kcj_all) (worth_end (by assumption))
end Mine
end
section
open PySem PySem.W PyProof.Rows PySem.Spec PySem.Calls
set_option maxRecDepth 100000
namespace Mine
def carrF (p : Nat) : Nat → Nat → Nat → Nat → Nat
  | 0, _, _, _ => 0
  | f + 1, a, b, c => if a = 0 ∧ b = 0 then 0 else (a % p + b % p + c) / p + carrF p f (a / p) (b / p) ((a % p + b % p + c) / p)
def carr (p a b : Nat) : Nat := carrF p (a + b) a b 0
def CarInv (q V W : Nat) (a b f y : Int) : Prop := ∃ g : Nat, a.toNat + b.toNat ≤ g ∧ f + carrF q g a.toNat b.toNat y.toNat = carr q V W
theorem car_start {q V W : Nat} : 0 ≤ (V : Int) ∧ 0 ≤ (W : Int) ∧ (0 : Int) ≤ 0 ∧ CarInv q V W V W 0 0 :=
  ⟨Int.natCast_nonneg _, Int.natCast_nonneg _, Int.le_refl _, V + W, by simp, by simp [carr]⟩
theorem car_div {q : Nat} {a : Int} (hq : 2 ≤ q) (ha : 0 ≤ a) : a.fdiv q = ((a.toNat / q : Nat) : Int) ∧ a.fmod q = ((a.toNat % q : Nat) : Int) := by
  obtain ⟨n, rfl⟩ := Int.eq_ofNat_of_zero_le ha
  rw [Int.fdiv_eq_ediv_of_nonneg _ (by omega), Int.fmod_eq_emod_of_nonneg _ (by omega), Int.toNat_natCast]
  exact ⟨rfl, rfl⟩
theorem car_turn {q V W : Nat} {a b f y : Int} (hq : 2 ≤ q) (h0 : 0 ≤ a) (h1 : 0 ≤ b) (h2 : 0 ≤ y) (hp : 0 < a ∨ 0 < b) (h : CarInv q V W a b f y) :
    0 ≤ a.fdiv q ∧ 0 ≤ b.fdiv q ∧ 0 ≤ (a.fmod q + b.fmod q + y).fdiv q ∧ CarInv q V W (a.fdiv q) (b.fdiv q) (f + (a.fmod q + b.fmod q + y).fdiv q) ((a.fmod q + b.fmod q + y).fdiv q) := by
  obtain ⟨a, rfl⟩ := Int.eq_ofNat_of_zero_le h0
  obtain ⟨b, rfl⟩ := Int.eq_ofNat_of_zero_le h1
  obtain ⟨y, rfl⟩ := Int.eq_ofNat_of_zero_le h2
  obtain ⟨g, hg, he⟩ := h
  have ea := car_div hq h0
  have eb := car_div hq h1
  simp only [Int.toNat_natCast] at ea eb hg he
  have es : ((a : Int).fmod q + (b : Int).fmod q + (y : Int)) = ((a % q + b % q + y : Nat) : Int) := by rw [ea.2, eb.2]; push_cast; rfl
  have ey := (car_div (a := ((a % q + b % q + y : Nat) : Int)) hq (Int.natCast_nonneg _)).1
  rw [Int.toNat_natCast] at ey
  rw [es, ea.1, eb.1, ey]
  refine ⟨Int.natCast_nonneg _, Int.natCast_nonneg _, Int.natCast_nonneg _, ?_⟩
  have hpos : 0 < a + b := by omega
  obtain ⟨g, rfl⟩ : ∃ n, g = n + 1 := ⟨g - 1, by omega⟩
  have h3 : a / q ≤ a := Nat.div_le_self _ _
  have h4 : b / q ≤ b := Nat.div_le_self _ _
  have h5 : 0 < a → a / q < a := fun h => Nat.div_lt_self h hq
  have h6 : 0 < b → b / q < b := fun h => Nat.div_lt_self h hq
  refine ⟨g, ?_, ?_⟩
  · simp only [Int.toNat_natCast]; omega
  · simp only [Int.toNat_natCast]
    rw [carrF, if_neg (by omega)] at he
    generalize carrF q g (a / q) (b / q) ((a % q + b % q + y) / q) = z at *
    generalize (a % q + b % q + y) / q = u at *
    omega
theorem car_less {q : Nat} {a b : Int} (hq : 2 ≤ q) (h0 : 0 ≤ a) (h1 : 0 ≤ b) (hp : 0 < a ∨ 0 < b) : (a.fdiv q).toNat + (b.fdiv q).toNat < a.toNat + b.toNat := by
  rw [(car_div hq h0).1, (car_div hq h1).1, Int.toNat_natCast, Int.toNat_natCast]
  have h3 : a.toNat / q ≤ a.toNat := Nat.div_le_self _ _
  have h4 : b.toNat / q ≤ b.toNat := Nat.div_le_self _ _
  have h5 : 0 < a.toNat → a.toNat / q < a.toNat := fun h => Nat.div_lt_self h hq
  have h6 : 0 < b.toNat → b.toNat / q < b.toNat := fun h => Nat.div_lt_self h hq
  omega
theorem car_end {q V W : Nat} {a b f y : Int} (h : CarInv q V W a b f y) (ha : ¬ 0 < a) (hb : ¬ 0 < b) : f = carr q V W := by
  obtain ⟨g, _, he⟩ := h
  have e1 : a.toNat = 0 := by omega
  have e2 : b.toNat = 0 := by omega
  rw [e1, e2] at he
  cases g with
  | zero => simpa [carrF] using he
  | succ g => simpa [carrF] using he
set_option maxHeartbeats 4000000 in
theorem carries_ok (V W q : Nat) (t1 t2 t3 : Tok) (h2 : 2 ≤ q) (h7 : q ≤ 17) :
    Gives 280 1 [.int V t1, .int W t2, .int q t3] (fun _ => True) (IsI (carr q V W)) := by
  unfold Gives
  intro c s Q E B F X N T hf hk hpre hd hu hret
  (k_dflt refine' enter [(Str.ofString "p", .int q t3), (Str.ofString "b", .int W t2), (Str.ofString "a", .int V t1)] [] B F X N T hf hk ?k6 ?k7 ?k8 ?k9 ?kB ?c2 ?c3 ?c4 ?c5 ?ca ?_)
  ktn_open
  case ca => exact List.forall_mem_nil _
  intro g' L' h' tk' FG' F' N' B' X' T'
  have hnil : IntsAre [] [] := .nil
  try dsimp only [List.cons_append, List.nil_append] at N'
  (try k_fold)
  (k_with "exec While BoolOp cons nil" => k_while (fun _ a b f y => 0 ≤ a ∧ 0 ≤ b ∧ 0 ≤ y ∧ CarInv q V W a b f y) (fun _ a b _ _ => a.toNat + b.toNat) "a" "b" "found" "carry")
  (k_with "state" => first | exact car_start | exact car_turn h2 (by assumption) (by assumption) (by assumption) (.inl (by assumption)) (by assumption) | exact car_turn h2 (by assumption) (by assumption) (by assumption) (.inr (by assumption)) (by assumption))
  (k_with "measure" => first | exact car_less h2 (by assumption) (by assumption) (.inl (by assumption)) | exact car_less h2 (by assumption) (by assumption) (.inr (by assumption)))
  k_steps
  all_goals exact retI hret (by k_asm) (by k_asm) (by kcj_all) (car_end (by assumption) (by assumption) (by assumption))
end Mine
end
section
open PySem PySem.W PyProof.Rows PySem.Spec PySem.Calls
set_option maxRecDepth 100000
namespace Mine
local macro_rules | `(tactic| walk_at "call ref") => `(tactic| (k_here; (with_reducible show wpAny _ _ (call (Value.ref 58) _) _ _ _); (k_dflt refine' gives_useL (norm_ok _ _ _ _ ?hi ?hl) ?B ?F ?X ?N ?T ?hf ?hk ?hp ?hd ?hu ?_); ktr_unf; (case hp => k_mem); (case hi => k_asm); (case hl => omega); intro r9 vs9 n9 h9 tk9 F9 N9 l9 hi9; (simp only [AllLt, and_true] at l9); (try k_sweep); (try dsimp only); (try k_fold)))
def IsDiv (xs : List Int) (x : Int) (r : Value) (tl : List (Addr × Obj)) : Prop :=
  ∃ d l vs n t, r = .ref d ∧ tl = [(d, { cls := .type "tuple", data := .seq #[.ref l, .int x t] }), (l, listOf vs.toArray n)] ∧ IntsAre vs xs
theorem retD {h₀ h' : Heap} {L : Addr} {m : Str → Option Value} {news news' : List (Addr × Obj)} {s : Shared} {Q : Value → Shared → Prop} {tk' : Nat} {d l : Addr} {vs : List Value} {n : Nat} {t : Tok} {xs ys : List Int} {x y : Int}
    (hret : Rets h₀ L m news s Q (IsDiv ys y)) (F : Fr h₀ L h' m) (N : News h₀ L h' news')
    (hs : ∀ p ∈ (d, ({ cls := .type "tuple", data := .seq #[.ref l, .int x t] } : Obj)) :: (l, listOf vs.toArray n) :: news, p ∈ news') (hl : AllLt d news) (hl2 : AllLt l news) (hi : IntsAre vs xs) (he : xs = ys ∧ x = y) :
    Q (.ref d) { s with heap := h', toks := tk' } := by
  obtain ⟨rfl, rfl⟩ := he
  refine hret (.ref d) [(d, _), (l, _)] h' tk' F (fun p hp => N p (hs p hp)) (fun q h => ?_) ⟨d, l, vs, n, t, rfl, rfl, hi⟩
  rcases List.mem_cons.mp h with rfl | h
  · exact hl
  · rw [List.mem_singleton.mp h]; exact hl2
set_option maxHeartbeats 4000000 in
theorem divlimb_ok (l : Addr) (vs : List Value) (n V q k : Nat) (t2 t3 : Tok) (hi : IntsAre vs (limbs k V)) (hl : (limbs k V).length ≤ 200) (h3 : 3 ≤ k) (h8 : k ≤ 8) (h2 : 2 ≤ q) (h7 : q ≤ 7) :
    Gives 79 2 [.ref l, .int q t2, .int k t3] (fun news => (l, listOf vs.toArray n) ∈ news) (IsDiv (limbs k (V / q)) ((V % q : Nat) : Int)) := by
  unfold Gives
  intro c s Q E B F X N T hf hk hpre hd hu hret
  (k_dflt refine' enter [(Str.ofString "w", .int k t3), (Str.ofString "limb", .int q t2), (Str.ofString "a", .ref l)] [(l, listOf vs.toArray n)] B F X N T hf hk ?k6 ?k7 ?k8 ?k9 ?kB ?c2 ?c3 ?c4 ?c5 ?ca ?_)
  ktn_open
  case ca => exact List.forall_mem_cons.mpr ⟨hpre, List.forall_mem_nil _⟩
  intro g' L' h' tk' FG' F' N' B' X' T'
  have hnil : IntsAre [] [] := .nil
  try dsimp only [List.cons_append, List.nil_append] at N'
  (try k_fold)
  (k_with "pyIter ref" => k_state (fun pre r fd => 0 ≤ r ∧ r < q ∧ fd.length = (limbs k V).length ∧ DivInv k q (limbs k V) pre.length r fd) "rest" "found")
  (k_with "state" => first | exact div_start h2 | exact div_turn h2 (limbs_limbs (by omega)) (by assumption) (by assumption) (by assumption) (by assumption) (by assumption) (by assumption))
  k_steps
  all_goals first
    | (exfalso; omega)
    | exact retD hret (by k_asm) (by k_asm) (by kcj_all) (by ktn_lt) (by ktn_lt) (by assumption) (div_end h3 h2 (downKs_length _ _) (by assumption) (by assumption) (by assumption) (by assumption))
end Mine
end
section
open PySem PySem.W PyProof.Rows PySem.Spec PySem.Calls
set_option maxRecDepth 100000
namespace Mine
local macro_rules | `(tactic| walk_at "call ref") => `(tactic| (k_here; (with_reducible show wpAny _ _ (call (Value.ref 58) _) _ _ _); (k_dflt refine' gives_useL (norm_ok _ _ _ _ ?hi ?hl) ?B ?F ?X ?N ?T ?hf ?hk ?hp ?hd ?hu ?_); ktr_unf; (case hp => k_mem); (case hi => k_asm); (case hl => omega); intro r9 vs9 n9 h9 tk9 F9 N9 l9 hi9; (simp only [AllLt, and_true] at l9); (try k_sweep); (try dsimp only); (try k_fold)))
set_option maxHeartbeats 4000000 in
theorem mul_ok (l1 l2 : Addr) (vs ws : List Value) (n1 n2 k V W : Nat) (t3 : Tok) (hi1 : IntsAre vs (limbs k V)) (hi2 : IntsAre ws (limbs k W)) (hl1 : (limbs k V).length ≤ 200) (hl2 : (limbs k W).length ≤ 200) (h3 : 3 ≤ k) (h8 : k ≤ 8) :
    Gives 205 2 [.ref l1, .ref l2, .int k t3] (fun news => (l1, listOf vs.toArray n1) ∈ news ∧ (l2, listOf ws.toArray n2) ∈ news) (IsL (limbs k (V * W))) := by
  have hX : Limbs k (limbs k V) := limbs_limbs (by omega)
  have hY : Limbs k (limbs k W) := limbs_limbs (by omega)
  have hE : ∀ fd, MulOut k (limbs k W) (limbs k V) fd → norm fd = limbs k (V * W) := fun fd => mul_end h3
  generalize limbs k V = xs at *
  generalize limbs k W = ys at *
  unfold Gives
  intro c s Q E B F X N T hf hk hpre hd hu hret
  (k_dflt refine' enter [(Str.ofString "w", .int k t3), (Str.ofString "b", .ref l2), (Str.ofString "a", .ref l1)] [(l1, listOf vs.toArray n1), (l2, listOf ws.toArray n2)] B F X N T hf hk ?k6 ?k7 ?k8 ?k9 ?kB ?c2 ?c3 ?c4 ?c5 ?ca ?_)
  ktn_open
  case ca => exact List.forall_mem_cons.mpr ⟨hpre.1, List.forall_mem_cons.mpr ⟨hpre.2, List.forall_mem_nil _⟩⟩
  intro g' L' h' tk' FG' F' N' B' X' T'
  have hnil : IntsAre [] [] := .nil
  try dsimp only [List.cons_append, List.nil_append] at N'
  (try k_fold)
  (k_with "state" => first | exact in_state h3 hxx hyy ⟨hc0, hc1⟩ (by omega) hlen2 hI | exact out_state ⟨hc0, hc1⟩ (by omega) hlen2 hO hI)
  k_steps
  rename_i lz hz1 lz1 D hz2 iz nz sz ez1 ez2 ez3 lz2 DT hz3 lz3 hz4 hz5 hz6 F1 N1
  have hz0 : (List.replicate ((xs.length : Int) + (ys.length : Int)).toNat [(0 : Int)]).flatten.length = xs.length + ys.length := by rw [(mul_start (k := k) (ys := ys)).1]; omega
  refine kst_enum (σ := List Value × List Int × Nat) (fun z => (D, listOf z.1.toArray z.2.2) :: (l1, listOf vs.toArray n1) :: (l2, listOf ws.toArray n2) :: c.news) (fun _ => []) (fun z => IntsAre z.1 z.2.1) [Str.ofString "at", Str.ofString "carry", Str.ofString "spot", Str.ofString "other"]
    (fun pre z => z.2.1.length = xs.length + ys.length ∧ MulOut k ys pre z.2.1) ⟨_, _, 0⟩ rfl (fun _ => .tail _ (.head _)) hi1 F1 (kst_newsOf N1 (by kcj_all)) iz (fun _ h => nomatch h) ⟨hz0, mul_start.2⟩ ?_ ?_
  · rintro ⟨fv, fd, fn⟩ pre post x tx tj u h tk own hns hoff hf9 ⟨hlen, hO⟩ F2 N2
    dsimp only [kstB] at hf9 hlen hO N2 F2
    (try simp only [List.cons_append] at N2)
    (try simp only [List.map_cons, List.map_append] at hoff)
    have hlx : xs.length = pre.length + (post.length + 1) := by rw [hns]; simp
    have hxx := hX x (by rw [hns]; exact List.mem_append_right _ (.head _))
    have hbx := limb_bits h8 hxx.1 hxx.2
    have kMark : KstMark := kstMark
    (try k_fold)
    k_steps
    (rename Fr _ _ _ _ => F3)
    (rename News _ _ _ _ => N3)
    have hly : ys.length = ys.length := rfl
    refine kst_enum (σ := Int × Nat × List Value × List Int × Nat) (fun z => (D, listOf z.2.2.1.toArray z.2.2.2.2) :: (l1, listOf vs.toArray n1) :: (l2, listOf ws.toArray n2) :: (c.news ++ own)) (fun z => [(Str.ofString "carry", Value.int z.1 z.2.1)]) (fun z => IntsAre z.2.2.1 z.2.2.2.1) [Str.ofString "spot"]
      (fun pre2 z => 0 ≤ z.1 ∧ z.1 < 2 ^ k ∧ z.2.2.2.1.length = xs.length + ys.length ∧ MulIn k pre.length x fd pre2 z.2.2.2.1 z.1) ⟨0, _, fv, fd, fn⟩ rfl (fun _ => .tail _ (.tail _ (.head _))) hi2 F3 (kst_newsOf N3 (by kcj_all)) hf9 (by kst_all) ⟨Int.le_refl _, Int.pow_pos (by decide), hlen, in_start hO.1⟩ ?_ ?_
    · rintro ⟨cr, tc, fv2, fd2, fn2⟩ pre2 post2 y ty ts u2 h2 tk2 own2 hns2 hoff2 hf2 ⟨hc0, hc1, hlen2, hI⟩ F4 N4
      dsimp only [kstB] at hf2 hc0 hc1 hlen2 hI N4 F4
      (try simp only [List.cons_append, List.append_assoc] at N4)
      (try simp only [List.map_cons, List.map_append] at hoff2)
      have hly2 : ys.length = pre2.length + (post2.length + 1) := by rw [hns2]; simp
      have hyy := hY y (by rw [hns2]; exact List.mem_append_right _ (.head _))
      have hby := limb_bits h8 hyy.1 hyy.2
      have kMark : KstMark := kstMark
      (try k_fold)
      k_steps
    · rintro ⟨cr, tc, fv2, fd2, fn2⟩ u2 h2 tk2 hf2 ⟨hc0, hc1, hlen2, hI⟩ F4 N4
      dsimp only [kstB] at hf2 hc0 hc1 hlen2 hI N4 F4
      (try dsimp only)
      have kMark : KstMark := kstMark
      (try k_fold)
      k_steps
  · rintro ⟨fv, fd, fn⟩ u h tk hf9 ⟨hlen, hO⟩ F2 N2
    dsimp only [kstB] at hf9 hlen hO N2 F2
    (try dsimp only)
    have kMark : KstMark := kstMark
    (try k_fold)
    k_steps
    exact retL hret (by k_asm) (by k_asm) (by kcj_all) (by ktn_lt) (by assumption) (hE _ hO)
end Mine
end
section
open PySem PySem.W PyProof.Rows PySem.Spec PySem.Calls
set_option maxRecDepth 100000
namespace Mine
local macro_rules | `(tactic| walk_at "binaryOp Mult ref int") => `(tactic| (k_here; (with_reducible show wpAny _ _ (binaryOp Operator.Mult (Value.ref _) (Value.int _ _)) _ _ _); ((refine kbo_mul (by k_asm) (by k_asm) (by is_list) (LSm.BoolsAre.cons _ .nil) (by omega) (by omega) (by (simp only [List.length_cons, List.length_nil]; omega)) ?_); (intro D' h' F' N' l1 i1 n1 s1 e1 e2 e3 e4); (try k_lt l1); (try simp only [List.length_cons, List.length_nil] at e3))))
def mark (V : Nat) (one : Int) (lf : List Bool) : List Bool := (ups (one * one) one (Builtin.Range.rangeSize (one * one) ((V : Int) + 1) one).toNat).foldl (fun l m => l.set m.toNat false) lf
def sv (V : Nat) : Nat → List Bool × List Int
  | 0 => (List.replicate (V + 1) true, [])
  | i + 1 => if (sv V i).1.getD (i + 2) false = true then (mark V (2 + (i : Int)) (sv V i).1, (sv V i).2 ++ [2 + (i : Int)]) else sv V i
def SvInv (V i : Nat) (lf : List Bool) (fd : List Int) : Prop := (lf, fd) = sv V i
theorem sv_start {V : Nat} : (List.replicate ((V : Int) + 1).toNat [true]).flatten.length = V + 1 ∧ ([] : List Int).length ≤ ([] : List Int).length ∧ SvInv V ([] : List Int).length (List.replicate ((V : Int) + 1).toNat [true]).flatten [] := by
  have e : ((V : Int) + 1).toNat = V + 1 := by omega
  have e2 : ∀ m : Nat, (List.replicate m [true]).flatten = List.replicate m true := by
    intro m
    induction m with
    | zero => rfl
    | succ m ih => rw [List.replicate_succ, List.flatten_cons, ih]; rfl
  rw [e, e2, List.length_replicate]
  exact ⟨rfl, Nat.le_refl _, rfl⟩
theorem sv_true {V : Nat} {pre fd : List Int} {lf lf' : List Bool} {x : Int} (hx : x = 2 + (pre.length : Int)) (hl : lf'.length = V + 1) (hf : fd.length ≤ pre.length) (h : SvInv V pre.length lf fd) (hT : lf.getD x.toNat false = true) (hm : lf' = mark V x lf) :
    lf'.length = V + 1 ∧ (fd ++ [x]).length ≤ (pre ++ [x]).length ∧ SvInv V (pre ++ [x]).length lf' (fd ++ [x]) := by
  subst hx
  unfold SvInv at h ⊢
  rw [List.length_append, List.length_append, List.length_singleton]
  refine ⟨hl, by omega, ?_⟩
  have e : (2 + (pre.length : Int)).toNat = pre.length + 2 := by omega
  rw [e] at hT
  show _ = sv V (pre.length + 1)
  rw [sv, ← h, if_pos hT, hm]
theorem sv_false {V : Nat} {pre fd : List Int} {lf : List Bool} {x : Int} (hx : x = 2 + (pre.length : Int)) (hl : lf.length = V + 1) (hf : fd.length ≤ pre.length) (h : SvInv V pre.length lf fd) (hT : ¬ lf.getD x.toNat false = true) :
    lf.length = V + 1 ∧ fd.length ≤ (pre ++ [x]).length ∧ SvInv V (pre ++ [x]).length lf fd := by
  subst hx
  unfold SvInv at h ⊢
  rw [List.length_append, List.length_singleton]
  refine ⟨hl, by omega, ?_⟩
  have e : (2 + (pre.length : Int)).toNat = pre.length + 2 := by omega
  rw [e] at hT
  show _ = sv V (pre.length + 1)
  rw [sv, ← h, if_neg hT]
def primesTo (V : Nat) : List Int := (sv V (V - 1)).2
theorem sv_end {V : Nat} {lf : List Bool} {fd ks : List Int} (hks : ks.length = ((V : Int) + 1 - 2).toNat) (h : SvInv V ks.length lf fd) : fd = primesTo V := by
  have e : ks.length = V - 1 := by omega
  unfold SvInv at h
  rw [e] at h
  exact congrArg Prod.snd h
theorem small_sieve : ∀ o < 18, ∀ v : Nat, v < 18 → 2 ≤ o → Builtin.Range.small ((2 + (o - 2 : Nat) : Int) * (2 + (o - 2 : Nat))) ((v : Int) + 1) (2 + (o - 2 : Nat)) = true := by decide +kernel
theorem small_at {j V : Nat} {x : Int} (hx : x = 2 + (j : Int)) (hj : j < 16) (hV : V < 18) : Builtin.Range.small (x * x) ((V : Int) + 1) x = true := by
  subst hx
  exact small_sieve (j + 2) (by omega) V hV (by omega)
theorem in_mark {V : Nat} {x k : Int} {i : Nat} {bs bs' : List Bool} (hl : bs'.length = V + 1 ∧ bs' = (ups (x * x) x i).foldl (fun l m => l.set m.toNat false) bs) (hk : k = x * x + (i : Int) * x) :
    (bs'.set k.toNat false).length = V + 1 ∧ bs'.set k.toNat false = (ups (x * x) x (i + 1)).foldl (fun l m => l.set m.toNat false) bs := by
  obtain ⟨h1, h2⟩ := hl
  rw [List.length_set]
  refine ⟨h1, ?_⟩
  rw [ups, List.range_succ, List.map_append, List.foldl_append]
  unfold ups at h2
  rw [← h2, hk]
  rfl
local macro_rules | `(tactic| walk_at "mine nothing") => `(tactic| skip)
set_option maxHeartbeats 4000000 in
theorem sieve_ok (V : Nat) (t1 : Tok) (h3 : 3 ≤ V) (h17 : V ≤ 17) :
    Gives 107 1 [.int V t1] (fun _ => True) (IsL (primesTo V)) := by
  unfold Gives
  intro c s Q E B F X N T hf hk hpre hd hu hret
  (k_dflt refine' enter [(Str.ofString "n", .int V t1)] [] B F X N T hf hk ?k6 ?k7 ?k8 ?k9 ?kB ?c2 ?c3 ?c4 ?c5 ?ca ?_)
  ktn_open
  case ca => exact List.forall_mem_nil _
  intro g' L' h' tk' FG' F' N' B' X' T'
  have hnil : IntsAre [] [] := .nil
  try dsimp only [List.cons_append, List.nil_append] at N'
  (try k_fold)
  have hbl : LSm.BoolsAre [] [] := .nil
  (k_with "pyIter ref" => (k_of "one" => k_state (fun pre lf fd => lf.length = V + 1 ∧ fd.length ≤ pre.length ∧ SvInv V pre.length lf fd) "is_left" "found"))
  (k_with "state" => first | exact sv_start | exact sv_false kEq (by assumption) (by assumption) (by assumption) (by assumption) | exact sv_false kEq (by assumption) (by assumption) (by assumption) (Bool.eq_false_iff.mp (by assumption)) | exact sv_true kEq h5.1 hfl hS hT h5.2 | exact in_mark h5 hk5)
  k_steps
  · rename_i lt z55 z54 D z52 z51 z50 z49 z48 z47 z46 z45 z44 z43 lf z41 z40 z39 z38 z37 z36 z35 z34 z33 z32 z31 z30 z29 bv bs bn fv fd fn hB hI hlen hfl hS z17 z16 z15 z14 hT z12 z11 z10 z9 z8 z7 z6 z5 hR F9 N9 z1
    have hx2 : 0 < kN := by omega
    simp only [List.push_toArray] at N9
    have hpos : 0 ≤ kN * kN := Int.mul_nonneg (by omega) (by omega)
    refine kst_rangeC (σ := List Value × List Bool × Nat) (fun z => (lf, listOf (fv ++ [Value.int kN kT]).toArray (fn + 1)) :: (D, listOf z.1.toArray z.2.2) :: (lt, listOf #[Value.bool true] 0) :: (c.news ++ kOwn)) (fun _ => []) (fun z => LSm.BoolsAre z.1 z.2.1) []
      (fun pre z => z.2.1.length = V + 1 ∧ z.2.1 = pre.foldl (fun l m => l.set m.toNat false) bs) ⟨bv, bs, bn⟩ rfl hR (small_at kEq (by omega) (by omega)) (size_nat hx2) F9 (kst_newsOf N9 (by kcj_all)) hB (fun _ h => nomatch h) ⟨hlen, rfl⟩ ?_ ?_
    · rintro ⟨bv2, bs2, bn2⟩ i5 k5 t5 u5 h9 tk5 own5 hk5 hi5 hoff5 hB5 h5 F5 N5
      dsimp only [kstB] at hB5 h5 F5 N5
      (try simp only [List.cons_append, List.append_assoc] at N5)
      (try simp only [List.map_cons, List.map_append] at hoff5)
      have hb5 := ups_below hx2 hi5
      have hl5 := h5.1
      have hge : 0 ≤ k5 := by rw [hk5]; exact Int.add_nonneg hpos (Int.mul_nonneg (Int.natCast_nonneg _) (by omega))
      have hlt5 : k5 < (V : Int) + 1 := by rw [hk5]; exact hb5
      have kMark : KstMark := kstMark
      (try k_fold)
      k_steps
    · rintro ⟨bv2, bs2, bn2⟩ u5 h9 tk5 hB5 h5 F5 N5
      dsimp only [kstB] at hB5 h5 F5 N5
      have kMark : KstMark := kstMark
      (try dsimp only)
      (try k_fold)
      k_steps
  · exact retL hret (by k_asm) (by k_asm) (by kcj_all) (by ktn_lt) (by assumption) (sv_end (rangeKs_length _ _) (by assumption))
end Mine
end
section
open PySem PySem.W PyProof.Rows PySem.Spec PySem.Calls
set_option maxRecDepth 100000
namespace Mine
def fexpF (q : Nat) : Nat → Nat → Nat
  | 0, _ => 0
  | f + 1, n => if n = 0 then 0 else n / q + fexpF q f (n / q)
def fexp (n q : Nat) : Nat := fexpF q n n
theorem fexpF_fuel {q : Nat} (hq : 2 ≤ q) : ∀ (f g n : Nat), n ≤ f → n ≤ g → fexpF q f n = fexpF q g n
  | 0, 0, _, _, _ => rfl
  | 0, g + 1, n, h, _ => by
    have : n = 0 := by omega
    subst this; simp [fexpF]
  | f + 1, 0, n, _, h => by
    have : n = 0 := by omega
    subst this; simp [fexpF]
  | f + 1, g + 1, n, h1, h2 => by
    unfold fexpF
    by_cases h : n = 0
    · simp [h]
    · have h3 : n / q < n := Nat.div_lt_self (by omega) hq
      rw [if_neg h, if_neg h, fexpF_fuel hq f g _ (by omega) (by omega)]
theorem fexp_step {n q : Nat} (h : 0 < n) (hq : 2 ≤ q) : fexp n q = n / q + fexp (n / q) q := by
  obtain ⟨f, rfl⟩ : ∃ f, n = f + 1 := ⟨n - 1, by omega⟩
  have h3 : (f + 1) / q < f + 1 := Nat.div_lt_self (by omega) hq
  show fexpF q (f + 1) (f + 1) = _
  unfold fexpF
  rw [if_neg (by omega), fexpF_fuel hq f _ _ (by omega) (Nat.le_refl _)]
  rfl
theorem fexp_zero {q : Nat} : fexp 0 q = 0 := rfl
theorem fexp_turn {n q : Nat} (n' f' : Int) (hq : 2 ≤ q) (hp : 0 < n') (h : 0 ≤ n' ∧ f' + fexp n'.toNat q = fexp n q) : 0 ≤ n'.fdiv q ∧ f' + n'.fdiv q + fexp (n'.fdiv q).toNat q = fexp n q := by
  obtain ⟨k, rfl⟩ := Int.eq_ofNat_of_zero_le h.1
  have e : (k : Int).fdiv (q : Int) = ((k / q : Nat) : Int) := by
    rw [Int.fdiv_eq_ediv_of_nonneg _ (by omega)]; rfl
  rw [e]
  have h2 := h.2
  simp only [Int.toNat_natCast] at h2 ⊢
  rw [fexp_step (by omega) hq] at h2
  generalize k / q = z at *
  omega
theorem fexp_less {q : Nat} {n' : Int} (hq : 2 ≤ q) (hp : 0 < n') : (n'.fdiv q).toNat < n'.toNat := by
  obtain ⟨k, rfl⟩ := Int.eq_ofNat_of_zero_le (Int.le_of_lt hp)
  have e : (k : Int).fdiv (q : Int) = ((k / q : Nat) : Int) := by
    rw [Int.fdiv_eq_ediv_of_nonneg _ (by omega)]; rfl
  rw [e]
  simp only [Int.toNat_natCast]
  exact Nat.div_lt_self (by omega) hq
theorem fexp_end {n q : Nat} (n' f' : Int) (hp : ¬ 0 < n') (h : 0 ≤ n' ∧ f' + fexp n'.toNat q = fexp n q) : f' = fexp n q := by
  have : n' = 0 := by omega
  subst this
  have := h.2
  simp [fexp_zero] at this
  omega
set_option maxHeartbeats 4000000 in
theorem fexp_ok (n q : Nat) (t1 t2 : Tok) (hq : 2 ≤ q) (hq2 : q ≤ 17) :
    Gives 135 1 [.int n t1, .int q t2] (fun _ => True) (IsI (fexp n q)) := by
  unfold Gives
  intro c s Q E B F X N T hf hk hpre hd hu hret
  (k_dflt refine' enter [(Str.ofString "prime", .int q t2), (Str.ofString "n", .int n t1)] [] B F X N T hf hk ?k6 ?k7 ?k8 ?k9 ?kB ?c2 ?c3 ?c4 ?c5 ?ca ?_)
  ktn_open
  case ca => exact List.forall_mem_nil _
  intro g' L' h' tk' FG' F' N' B' X' T'
  have hnil : IntsAre [] [] := .nil
  try dsimp only [List.cons_append, List.nil_append] at N'
  (try k_fold)
  (k_with "exec While Compare cons nil" => k_while (fun _ n' f' => 0 ≤ n' ∧ f' + fexp n'.toNat q = fexp n q) (fun _ n' _ => n'.toNat) "n" "found")
  (k_with "state" => first | exact fexp_turn _ _ hq (by assumption) ⟨by assumption, by assumption⟩ | (simp only [Int.toNat_natCast]; omega))
  (k_with "measure" => exact fexp_less hq (by assumption))
  k_steps
  exact retI hret (by k_asm) (by k_asm) (by kcj_all) (fexp_end _ _ (by assumption) ⟨by assumption, by assumption⟩)
theorem fexp_okI (n q : Int) (t1 t2 : Tok) (hn : 0 ≤ n) (hq : 2 ≤ q) (hq2 : q ≤ 17) : Gives 135 1 [.int n t1, .int q t2] (fun _ => True) (IsI (fexp n.toNat q.toNat)) := by
  obtain ⟨n, rfl⟩ := Int.eq_ofNat_of_zero_le hn
  obtain ⟨q, rfl⟩ := Int.eq_ofNat_of_zero_le (show 0 ≤ q by omega)
  exact fexp_ok n q t1 t2 (by omega) (by omega)
end Mine
end
section
open PySem PySem.W PyProof.Rows PySem.Spec PySem.Calls
set_option maxRecDepth 100000
namespace Mine
local macro_rules | `(tactic| walk_at "call ref") => `(tactic| (k_here; (with_reducible show wpAny _ _ (call (Value.ref 65) _) _ _ _); (k_dflt refine' gives_useL (natof_ok _ _ _ _ ?hV ?h3 ?h8) ?B ?F ?X ?N ?T ?hf ?hk ?hp ?hd ?hu ?_); ktr_unf; (case hp => trivial); (case h3 => assumption); (case h8 => assumption); (case hV => assumption); intro r9 vs9 n9 h9 tk9 F9 N9 l9 hi9; (simp only [AllLt, and_true] at l9); (try k_sweep); (try dsimp only); (try k_fold)))
local macro_rules | `(tactic| walk_at "call ref") => `(tactic| (k_here; (with_reducible show wpAny _ _ (call (Value.ref 205) _) _ _ _); (k_dflt refine' gives_useL (mul_ok _ _ _ _ _ _ _ _ _ _ ?hi1 ?hi2 ?hl1 ?hl2 ?h3 ?h8) ?B ?F ?X ?N ?T ?hf ?hk ?hp ?hd ?hu ?_); ktr_unf; (case hp => exact ⟨by k_mem, by k_mem⟩); (case hi1 => k_asm); (case hi2 => k_asm); (case h3 => assumption); (case h8 => assumption); (case hl1 => assumption); (case hl2 => assumption); intro r9 vs9 n9 h9 tk9 F9 N9 l9 hi9; (simp only [AllLt, and_true] at l9); (try k_sweep); (try dsimp only); (try k_fold)))
theorem limbs_short {k : Nat} (hk : 0 < k) : ∀ (n V : Nat), V < 2 ^ n → (limbs k V).length ≤ n
  | 0, V, h => by
    have : V = 0 := by simpa using h
    subst this; exact Nat.le_refl _
  | n + 1, V, h => by
    by_cases h0 : V = 0
    · subst h0; rw [limbs_zero]; exact Nat.zero_le _
    · rw [limbs_pos hk (by omega), List.length_cons]
      have : V / 2 ^ k < 2 ^ n := by
        refine Nat.div_lt_of_lt_mul ?_
        have h2 : 2 ^ 1 ≤ 2 ^ k := Nat.pow_le_pow_right (by decide) hk
        have h3 : 2 ^ (n + 1) = 2 ^ 1 * 2 ^ n := by rw [Nat.pow_succ, Nat.mul_comm]
        exact Nat.lt_of_lt_of_le h (by rw [h3]; exact Nat.mul_le_mul_right _ h2)
      have := limbs_short hk n _ this
      omega
def PwInv (B : Nat) (F S : Nat) (mv : Int) : Prop := F * S ^ mv.toNat = B ∧ 0 < S
theorem pw_short {k B F S : Nat} {mv : Int} (h3 : 3 ≤ k) (hB : B < 2 ^ 200) (hb : 0 < B) (h : PwInv B F S mv) (hp : 0 < mv) : (limbs k F).length ≤ 200 ∧ (limbs k S).length ≤ 200 := by
  obtain ⟨j, hj⟩ : ∃ j, mv.toNat = j + 1 := ⟨mv.toNat - 1, by omega⟩
  obtain ⟨h1, hS⟩ := h
  rw [hj] at h1
  have hF : 0 < F := Nat.pos_of_ne_zero fun e => by rw [e, Nat.zero_mul] at h1; omega
  have h5 : 0 < S ^ j := Nat.pow_pos hS
  have h4 : 0 < S ^ (j + 1) := Nat.pow_pos hS
  refine ⟨limbs_short (by omega) _ _ (Nat.lt_of_le_of_lt ?_ hB), limbs_short (by omega) _ _ (Nat.lt_of_le_of_lt ?_ hB)⟩
  · rw [← h1]; exact Nat.le_mul_of_pos_right _ h4
  · rw [← h1, Nat.pow_succ, Nat.mul_comm (S ^ j), ← Nat.mul_assoc, Nat.mul_comm F, Nat.mul_assoc]
    exact Nat.le_mul_of_pos_right _ (Nat.mul_pos hF h5)
theorem pw_half {mv : Int} (hp : 0 < mv) : (mv.fdiv 2).toNat = mv.toNat / 2 ∧ 0 ≤ mv.fdiv 2 := by
  rw [Int.fdiv_eq_ediv_of_nonneg _ (by omega)]; omega
theorem pw_mod {mv : Int} (hp : 0 < mv) : mv.fmod 2 = mv % 2 := Int.fmod_eq_emod_of_nonneg _ (by omega)
theorem pw_oddA {B F S : Nat} {mv : Int} (h : PwInv B F S mv) (hp : 0 < mv) (ho : mv.fmod 2 = 1) : PwInv B (F * S) (S * S) (mv.fdiv 2) := by
  rw [pw_mod hp] at ho
  obtain ⟨h1, hS⟩ := h
  refine ⟨?_, Nat.mul_pos hS hS⟩
  rw [(pw_half hp).1, ← Nat.pow_two, ← Nat.pow_mul, Nat.mul_assoc, Nat.mul_comm S, ← Nat.pow_succ]
  have : (2 * (mv.toNat / 2)).succ = mv.toNat := by omega
  rw [this]; exact h1
theorem pw_oddB {B F S : Nat} {mv : Int} (h : PwInv B F S mv) (hp : 0 < mv) (ho : mv.fmod 2 = 1) (hz : ¬ 0 < mv.fdiv 2) : PwInv B (F * S) S (mv.fdiv 2) := by
  have := pw_oddA h hp ho
  have e : (mv.fdiv 2).toNat = 0 := by omega
  refine ⟨?_, h.2⟩
  have h1 := this.1
  rw [e] at h1 ⊢
  exact h1
theorem pw_evenA {B F S : Nat} {mv : Int} (h : PwInv B F S mv) (hp : 0 < mv) (ho : ¬ mv.fmod 2 = 1) : PwInv B F (S * S) (mv.fdiv 2) := by
  rw [pw_mod hp] at ho
  obtain ⟨h1, hS⟩ := h
  refine ⟨?_, Nat.mul_pos hS hS⟩
  rw [(pw_half hp).1, ← Nat.pow_two, ← Nat.pow_mul]
  have : 2 * (mv.toNat / 2) = mv.toNat := by omega
  rw [this]; exact h1
theorem pw_evenB {mv : Int} (hp : 0 < mv) (ho : ¬ mv.fmod 2 = 1) (hz : ¬ 0 < mv.fdiv 2) : False := by
  rw [pw_mod hp] at ho
  rw [Int.fdiv_eq_ediv_of_nonneg _ (by omega)] at hz
  omega
theorem pw_even_pos {mv : Int} (hp : 0 < mv) (ho : ¬ mv.fmod 2 = 1) : 0 < mv.fdiv 2 := Decidable.byContradiction fun hz => pw_evenB hp ho hz
theorem pw_end {B F S : Nat} {mv : Int} (h : PwInv B F S mv) (hz : ¬ 0 < mv) : F = B := by
  have e : mv.toNat = 0 := by omega
  have h1 := h.1
  rw [e, Nat.pow_zero, Nat.mul_one] at h1
  exact h1
theorem limbs_one {k : Nat} (hk : 0 < k) : limbs k 1 = [1] := by
  rw [limbs_pos hk (by decide)]
  have h : 1 < 2 ^ k := Nat.one_lt_two_pow (by omega)
  rw [Nat.mod_eq_of_lt h, Nat.div_eq_of_lt h, limbs_zero]; rfl
structure PwS where
  mv : Int
  tm : Nat
  fa : Addr
  fv : List Value
  fn : Nat
  fF : Nat
  sa : Addr
  sv : List Value
  sn : Nat
  sS : Nat
def PwP (k B : Nat) (news : List (Addr × Obj)) (mv : Int) (fa : Addr) (F S : Nat) : Prop := 0 ≤ mv ∧ AllLt fa news ∧ (limbs k F).length ≤ 200 ∧ (limbs k S).length ≤ 200 ∧ PwInv B F S mv
theorem pw_any {k B F S S0 : Nat} {news : List (Addr × Obj)} {mv : Int} {fa : Addr} (h3 : 3 ≤ k) (hB : B < 2 ^ 200) (hb : 0 < B) (h0 : 0 ≤ mv) (hal : AllLt fa news) (h : PwInv B F S mv) (hs : ¬ 0 < mv → (limbs k S).length ≤ 200) : PwP k B news mv fa F S := by
  by_cases hp : 0 < mv
  · have := pw_short h3 hB hb h hp
    exact ⟨h0, hal, this.1, this.2, h⟩
  · refine ⟨h0, hal, ?_, hs hp, h⟩
    rw [pw_end h hp]
    exact limbs_short (by omega) _ _ hB
theorem pw_state {k B F S : Nat} {news : List (Addr × Obj)} {mv : Int} {fa : Addr} (h3 : 3 ≤ k) (hB : B < 2 ^ 200) (hb : 0 < B) (h : PwP k B news mv fa F S) (hp : 0 < mv) :
    (mv.fmod 2 = 1 → ∀ fa', AllLt fa' news → 0 < mv.fdiv 2 → PwP k B news (mv.fdiv 2) fa' (F * S) (S * S)) ∧
    (mv.fmod 2 = 1 → ∀ fa', AllLt fa' news → ¬ 0 < mv.fdiv 2 → PwP k B news (mv.fdiv 2) fa' (F * S) S) ∧
    (¬ mv.fmod 2 = 1 → 0 < mv.fdiv 2 → PwP k B news (mv.fdiv 2) fa F (S * S)) ∧
    (¬ mv.fmod 2 = 1 → ¬ 0 < mv.fdiv 2 → PwP k B news (mv.fdiv 2) fa F S) := by
  obtain ⟨h0, hal, hF, hS, hP⟩ := h
  refine ⟨fun ho fa' ha hz => ?_, fun ho fa' ha hz => ?_, fun ho hz => ?_, fun ho hz => (pw_evenB hp ho hz).elim⟩
  · exact pw_any (S0 := 0) h3 hB hb (pw_half hp).2 ha (pw_oddA hP hp ho) fun n => absurd hz n
  · exact pw_any (S0 := 0) h3 hB hb (pw_half hp).2 ha (pw_oddB hP hp ho hz) fun _ => hS
  · exact pw_any (S0 := 0) h3 hB hb (pw_half hp).2 hal (pw_evenA hP hp ho) fun n => absurd hz n
theorem ksw_end2 {σ : Type} {h₀ : Heap} {L : Addr} {s : Shared} {Led : σ → List (Addr × Obj)} {ps : σ → List (Str × Value)} {Facts : σ → Prop} {stored : List Str} {m₀ m' : Str → Option Value} {P : σ → Prop} {μ : σ → Nat} {c : σ} {h' : Heap} {tk : Nat} {news' : List (Addr × Obj)} (c' : σ)
    (F : Fr h₀ L h' m') (hk : ∀ p ∈ ps c', m' p.1 = some p.2) (N : News h₀ L h' news') (hn : ∀ p ∈ Led c', p ∈ news') (hf : Facts c') (hr : ∀ z, (∀ p ∈ ps c', z ≠ p.1) → stored.contains z = false → m' z = m₀ z) (hp : P c') (hm : μ c' < μ c) :
    KswEnd h₀ L s Led ps Facts stored m₀ P μ c { s with heap := h', toks := tk } := ksw_end c' F N hn hf hk hr hp hm
theorem pw_less {mv : Int} (hp : 0 < mv) : (mv.fdiv 2).toNat < mv.toNat := by rw [(pw_half hp).1]; omega
set_option maxHeartbeats 4000000 in
theorem pow_ok (V M k : Nat) (t1 t2 t3 : Tok) (hV : 0 < V) (hB : V ^ M < 2 ^ 200) (hVl : (limbs k V).length ≤ 200) (h3 : 3 ≤ k) (h8 : k ≤ 8) :
    Gives 121 3 [.int V t1, .int M t2, .int k t3, .ref 205] (fun _ => True) (IsL (limbs k (V ^ M))) := by
  unfold Gives
  intro c s Q E B F X N T hf hk hpre hd hu hret
  (k_dflt refine' enter [(Str.ofString "mul", .ref 205), (Str.ofString "w", .int k t3), (Str.ofString "many", .int M t2), (Str.ofString "base", .int V t1)] [] B F X N T hf hk ?k6 ?k7 ?k8 ?k9 ?kB ?c2 ?c3 ?c4 ?c5 ?ca ?_)
  ktn_open
  case ca => exact List.forall_mem_nil _
  intro g' L' h' tk' FG' F' N' B' X' T'
  have hnil : IntsAre [] [] := .nil
  try dsimp only [List.cons_append, List.nil_append] at N'
  (try k_fold)
  repeat' (first | (k_unfold; (try dsimp only)) | (k_end; wrow_close) | ((fail_if_success (with_reducible show wpAny _ _ (exec (Stmt.While _ _ _ _) _) _ _ _)); first | walk1 | (dsimp only; walk1) | (leave1; walk_say "STEP leave1"; try dsimp only)))
  rename_i lz z17 z16 r9 vs9 n9 z12 z11 z10 hi9 z8 z7 z6 z5 z4 z3 F1 N1
  have hb : 0 < V ^ M := Nat.pow_pos hV
  have hl1 : (limbs k 1).length ≤ 200 := by rw [limbs_one (by omega)]; decide
  refine ksw_while (σ := PwS) (fun z => (z.fa, listOf z.fv.toArray z.fn) :: (z.sa, listOf z.sv.toArray z.sn) :: c.news) (fun z => [(Str.ofString "many", .int z.mv z.tm), (Str.ofString "found", .ref z.fa), (Str.ofString "square", .ref z.sa)])
    (fun z => IntsAre z.fv (limbs k z.fF) ∧ IntsAre z.sv (limbs k z.sS)) [] (fun z => PwP k (V ^ M) c.news z.mv z.fa z.fF z.sS) (fun z => z.mv.toNat) ⟨(M : Int), t2, lz, [.int 1 tk'], 0, 1, r9, vs9, n9, V⟩ F1 (kst_newsOf N1 (by kcj_all)) ⟨by rw [limbs_one (by omega)]; exact .cons _ _ .nil, hi9⟩ (by kst_all)
    ⟨Int.natCast_nonneg _, allLt_of z16, hl1, hVl, by rw [PwInv, Int.toNat_natCast, Nat.one_mul]; exact ⟨rfl, hV⟩⟩ ?_
  rintro ⟨mv, tm, fa, fv, fn, fF, sa, sv, sn, sS⟩ u h tk ⟨hi1, hi2⟩ hP F2 N2
  dsimp only [kstB] at hi1 hi2 hP F2 N2
  have hst := pw_state h3 hB hb hP
  have hlF := hP.2.2.1
  have hlS := hP.2.2.2.1
  have hal := hP.2.1
  have kMark : KstMark := kstMark
  (try k_fold)
  k_steps
  all_goals first
    | exact retL hret (by k_asm) (by k_asm) (by kcj_all) hal hi1 (congrArg (limbs k) (pw_end hP.2.2.2.2 (by assumption)))
    | exact ksw_end2 ⟨_, _, _, _, _, _, _, _, _, _⟩ (by assumption) (by kst_all) (by assumption) (by kcj_all) ⟨by assumption, by assumption⟩ (by ksw_same) ((hst (by assumption)).1 (by assumption) _ (by ktn_lt) (by assumption)) (pw_less (by assumption))
    | exact ksw_end2 ⟨_, _, _, _, _, _, _, _, _, _⟩ (by assumption) (by kst_all) (by assumption) (by kcj_all) ⟨by assumption, by assumption⟩ (by ksw_same) ((hst (by assumption)).2.1 (by assumption) _ (by ktn_lt) (by assumption)) (pw_less (by assumption))
    | exact ksw_end2 ⟨_, _, _, _, _, _, _, _, _, _⟩ (by assumption) (by kst_all) (by assumption) (by kcj_all) ⟨by assumption, by assumption⟩ (by ksw_same) ((hst (by assumption)).2.2.1 (by assumption) (pw_even_pos (by assumption) (by assumption))) (pw_less (by assumption))
end Mine
end
section
open PySem PySem.W PyProof.Rows PySem.Spec PySem.Calls
set_option maxRecDepth 100000
namespace Mine
abbrev tupO (p e : Int) (t u : Tok) (j : Nat) : Obj := { cls := .type "tuple", data := .seq [.int p t, .int e u].toArray j }
inductive PairsAre (news : List (Addr × Obj)) : List Value → List (Nat × Nat) → Prop
  | nil : PairsAre news [] []
  | cons {a : Addr} {p e : Nat} {t u : Tok} {j : Nat} {vs : List Value} {ps : List (Nat × Nat)} : (a, tupO p e t u j) ∈ news → PairsAre news vs ps → PairsAre news (.ref a :: vs) ((p, e) :: ps)
theorem PairsAre.mono {news news' : List (Addr × Obj)} {vs : List Value} {ps : List (Nat × Nat)} (h : PairsAre news vs ps) (hs : ∀ p ∈ news, p ∈ news') : PairsAre news' vs ps := by
  induction h with
  | nil => exact .nil
  | cons hm _ ih => exact .cons (hs _ hm) ih
theorem PairsAre.take {news : List (Addr × Obj)} {vs : List Value} {ps : List (Nat × Nat)} (h : PairsAre news vs ps) : ∀ n, PairsAre news (vs.take n) (ps.take n) := by
  induction h with
  | nil => intro n; simp only [List.take_nil]; exact .nil
  | cons hm _ ih =>
    intro n
    cases n with
    | zero => exact .nil
    | succ n => exact .cons hm (ih n)
theorem PairsAre.drop {news : List (Addr × Obj)} {vs : List Value} {ps : List (Nat × Nat)} (h : PairsAre news vs ps) : ∀ n, PairsAre news (vs.drop n) (ps.drop n) := by
  induction h with
  | nil => intro n; simp only [List.drop_nil]; exact .nil
  | cons hm h' ih =>
    intro n
    cases n with
    | zero => exact .cons hm h'
    | succ n => exact ih n
theorem PairsAre.length {news : List (Addr × Obj)} {vs : List Value} {ps : List (Nat × Nat)} (h : PairsAre news vs ps) : vs.length = ps.length := by
  induction h with
  | nil => rfl
  | cons _ _ ih => rw [List.length_cons, List.length_cons, ih]
def prodP : List (Nat × Nat) → Nat
  | [] => 1
  | x :: r => x.1 ^ x.2 * prodP r
theorem prodP_append : ∀ (a b : List (Nat × Nat)), prodP (a ++ b) = prodP a * prodP b
  | [], b => by rw [List.nil_append, prodP, Nat.one_mul]
  | x :: a, b => by rw [List.cons_append, prodP, prodP, prodP_append a b, Nat.mul_assoc]
theorem prodP_half (ps : List (Nat × Nat)) (n : Nat) : prodP (ps.take n) * prodP (ps.drop n) = prodP ps := by rw [← prodP_append, List.take_append_drop]
def GoodP (ps : List (Nat × Nat)) : Prop := prodP ps < 2 ^ 200 ∧ ∀ x ∈ ps, 0 < x.1 ∧ x.1 < 2 ^ 200
theorem prodP_pos : ∀ {ps : List (Nat × Nat)}, (∀ x ∈ ps, 0 < x.1 ∧ x.1 < 2 ^ 200) → 0 < prodP ps
  | [], _ => Nat.one_pos
  | x :: r, h => Nat.mul_pos (Nat.pow_pos (h x (.head _)).1) (prodP_pos fun y hy => h y (.tail _ hy))
theorem GoodP.take {ps : List (Nat × Nat)} (h : GoodP ps) (n : Nat) : GoodP (ps.take n) := by
  refine ⟨Nat.lt_of_le_of_lt ?_ h.1, fun x hx => h.2 x (List.mem_of_mem_take hx)⟩
  rw [← prodP_half ps n]
  exact Nat.le_mul_of_pos_right _ (prodP_pos fun x hx => h.2 x (List.mem_of_mem_drop hx))
theorem GoodP.drop {ps : List (Nat × Nat)} (h : GoodP ps) (n : Nat) : GoodP (ps.drop n) := by
  refine ⟨Nat.lt_of_le_of_lt ?_ h.1, fun x hx => h.2 x (List.mem_of_mem_drop hx)⟩
  rw [← prodP_half ps n]
  exact Nat.le_mul_of_pos_left _ (prodP_pos fun x hx => h.2 x (List.mem_of_mem_take hx))
theorem GoodP.len {k : Nat} {ps : List (Nat × Nat)} (h : GoodP ps) (h3 : 3 ≤ k) : (limbs k (prodP ps)).length ≤ 200 := limbs_short (by omega) _ _ h.1
def PP (k m : Nat) : Prop := ∀ (qs : List (Nat × Nat)) (lp : Addr) (vs : List Value) (n : Nat) (tk : Tok), qs.length < m → GoodP qs → vs.length = qs.length →
  Gives 128 (qs.length + 4) [.ref lp, .int k tk, .ref 205] (fun news => (lp, listOf vs.toArray n) ∈ news ∧ PairsAre news vs qs) (IsL (limbs k (prodP qs)))
theorem PP.use {k m : Nat} (h : PP k m) {qs : List (Nat × Nat)} {lp : Addr} {vs : List Value} {n : Nat} {tk : Tok} (h1 : qs.length < m) (h2 : GoodP qs) (h3 : vs.length = qs.length) :
    Gives 128 (qs.length + 4) [.ref lp, .int k tk, .ref 205] (fun news => (lp, listOf vs.toArray n) ∈ news ∧ PairsAre news vs qs) (IsL (limbs k (prodP qs))) := h qs lp vs n tk h1 h2 h3
theorem pick_upto {vs : List Value} {y : Int} (h : 0 ≤ y) : kms_pick vs none (some y) = vs.take y.toNat := by
  simp only [kms_pick, kms_lo, kms_hi, List.drop_zero, Nat.sub_zero, if_neg (show ¬ y < 0 by omega)]
  exact kmk_take_min _ _
theorem pick_from {vs : List Value} {y : Int} (h : 0 ≤ y) : kms_pick vs (some y) none = vs.drop y.toNat := by
  simp only [kms_pick, kms_lo, kms_hi, if_neg (show ¬ y < 0 by omega)]
  rw [kmk_drop_min, List.take_of_length_le]
  rw [List.length_drop]
  omega
local macro_rules | `(tactic| walk_at "call ref") => `(tactic| (k_here; (with_reducible show wpAny _ _ (call (Value.ref 121) _) _ _ _); (k_dflt refine' gives_useL (pow_ok _ _ _ _ _ _ ?hV ?hB ?hVl ?h3 ?h8) ?B ?F ?X ?N ?T ?hf ?hk ?hp ?hd ?hu ?_); ktr_unf; (case hp => trivial); (case h3 => assumption); (case h8 => assumption); (case hV => assumption); (case hB => assumption); (case hVl => assumption); intro r9 vs9 n9 h9 tk9 F9 N9 l9 hi9; (simp only [AllLt, and_true] at l9); (try k_sweep); (try dsimp only); (try k_fold)))
local macro_rules | `(tactic| walk_at "call ref") => `(tactic| (k_here; (with_reducible show wpAny _ _ (call (Value.ref 128) _) _ _ _); (k_dflt refine' gives_useL (PP.use (by assumption) ?h1 ?h2 ?h3) ?B ?F ?X ?N ?T ?hf ?hk ?hp ?hd ?hu ?_); (case B => k_asm); (case F => k_asm); (case X => k_asm); (case N => k_asm); (case T => k_asm); (case hf => first | rfl | assumption); (case hk => first | rfl | assumption); (case hp => exact ⟨by k_mem, PairsAre.mono (by first | exact PairsAre.take (by assumption) _ | exact PairsAre.drop (by assumption) _) (by kcj_all)⟩); (case h2 => first | exact GoodP.take (by assumption) _ | exact GoodP.drop (by assumption) _); (case h3 => first | exact PairsAre.length (PairsAre.take (by assumption) _) | exact PairsAre.length (PairsAre.drop (by assumption) _)); (case h1 => first | (rw [List.length_take]; omega) | (rw [List.length_drop]; omega)); (case hd => ((try simp only [List.length_take, List.length_drop]); (try dsimp only); omega)); (case hu => (have hcL9 := cLine_is; (try simp only [List.length_take, List.length_drop]); (try dsimp only); omega)); intro r9 vs9 n9 h9 tk9 F9 N9 l9 hi9; (simp only [AllLt, and_true] at l9); (try k_sweep); (try dsimp only); (try k_fold)))
local macro_rules | `(tactic| walk_at "call ref") => `(tactic| (k_here; (with_reducible show wpAny _ _ (call (Value.ref 205) _) _ _ _); (k_dflt refine' gives_useL (mul_ok _ _ _ _ _ _ _ _ _ _ ?hi1 ?hi2 ?hl1 ?hl2 ?h3 ?h8) ?B ?F ?X ?N ?T ?hf ?hk ?hp ?hd ?hu ?_); ktr_unf; (case hp => exact ⟨by k_mem, by k_mem⟩); (case hi1 => k_asm); (case hi2 => k_asm); (case h3 => assumption); (case h8 => assumption); (case hl1 => exact GoodP.len (GoodP.take (by assumption) _) (by assumption)); (case hl2 => exact GoodP.len (GoodP.drop (by assumption) _) (by assumption)); intro r9 vs9 n9 h9 tk9 F9 N9 l9 hi9; (simp only [AllLt, and_true] at l9); (try k_sweep); (try dsimp only); (try k_fold)))
local macro_rules | `(tactic| walk_at "call builtin:len") => `(tactic| (k_here; (with_reducible show wpAny _ _ (call (Value.builtin "len") [Value.ref _]) _ _ _); k_dflt (refine' kst_len ?k1 ?k2 ?k3 ?k4 ?_; (case k1 => k_asm); (case k2 => k_mem); (case k3 => with_reducible assumption); (case k4 => omega); k_whole)))
local macro_rules | `(tactic| walk_at "subscriptTail Name Slice ref ref") => `(tactic| (k_here; (with_reducible show wpAny _ _ (subscriptTail _ (PySem.Expr.Slice _ _ none _) (Value.ref _) (Value.ref _)) _ _ _); k_dflt (refine' kms_slice_lit ?F ?N ?l ?p ?q ?e ?_ ?s ?t ?z; (case F => k_asm); (case N => k_asm); (case l => kmk_list); (case p => kmk_part); (case q => kmk_part); (case e => first | exact pick_upto (by assumption) | exact pick_from (by assumption)); (case s => with_unfolding_all rfl); (case t => kmk_pure); (case z => (simp only [List.size_toArray, PySem.sizeLine_eq]; omega))); intro D' h' F' N' l1; (try k_lt l1); (try k_sweep)))
set_option maxHeartbeats 4000000 in
theorem pp_nil (k : Nat) (lp : Addr) (n : Nat) (tk : Tok) (h3 : 3 ≤ k) : Gives 128 4 [.ref lp, .int k tk, .ref 205] (fun news => (lp, listOf ([] : List Value).toArray n) ∈ news ∧ PairsAre news [] []) (IsL (limbs k (prodP []))) := by
  unfold Gives
  intro c s Q E B F X N T hf hk hpre hd hu hret
  (k_dflt refine' enter [(Str.ofString "mul", .ref 205), (Str.ofString "w", .int k tk), (Str.ofString "pairs", .ref lp)] [(lp, listOf ([] : List Value).toArray n)] B F X N T hf hk ?k6 ?k7 ?k8 ?k9 ?kB ?c2 ?c3 ?c4 ?c5 ?ca ?_)
  ktn_open
  case ca => exact List.forall_mem_cons.mpr ⟨hpre.1, List.forall_mem_nil _⟩
  intro g' L' h' tk' FG' F' N' B' X' T'
  have hnil : IntsAre [] [] := .nil
  try dsimp only [List.cons_append, List.nil_append] at N'
  (try k_fold)
  k_steps
  exact retL hret (by k_asm) (by k_asm) (by kcj_all) (by ktn_lt) (.cons _ _ .nil) (limbs_one (by omega)).symm
set_option maxHeartbeats 4000000 in
theorem pp_one (k : Nat) (lp a : Addr) (n p e j : Nat) (tk t u : Tok) (h3 : 3 ≤ k) (h8 : k ≤ 8) (hg : GoodP [(p, e)]) : Gives 128 5 [.ref lp, .int k tk, .ref 205] (fun news => (lp, listOf [Value.ref a].toArray n) ∈ news ∧ (a, tupO p e t u j) ∈ news) (IsL (limbs k (prodP [(p, e)]))) := by
  have hV : 0 < p := (hg.2 _ (.head _)).1
  have hVl : (limbs k p).length ≤ 200 := limbs_short (by omega) _ _ (hg.2 _ (.head _)).2
  have he : prodP [(p, e)] = p ^ e := by simp [prodP]
  have hB : p ^ e < 2 ^ 200 := by rw [← he]; exact hg.1
  unfold Gives
  intro c s Q E B F X N T hf hk hpre hd hu hret
  (k_dflt refine' enter [(Str.ofString "mul", .ref 205), (Str.ofString "w", .int k tk), (Str.ofString "pairs", .ref lp)] [(lp, listOf [Value.ref a].toArray n), (a, tupO p e t u j)] B F X N T hf hk ?k6 ?k7 ?k8 ?k9 ?kB ?c2 ?c3 ?c4 ?c5 ?ca ?_)
  ktn_open
  case ca => exact List.forall_mem_cons.mpr ⟨hpre.1, List.forall_mem_cons.mpr ⟨hpre.2, List.forall_mem_nil _⟩⟩
  intro g' L' h' tk' FG' F' N' B' X' T'
  have hnil : IntsAre [] [] := .nil
  try dsimp only [List.cons_append, List.nil_append] at N'
  (try k_fold)
  k_steps
  exact retL hret (by k_asm) (by k_asm) (by kcj_all) (by ktn_lt) (by assumption) (congrArg (limbs k) he.symm)
set_option maxHeartbeats 4000000 in
theorem pp_more (k : Nat) (ps : List (Nat × Nat)) (lp : Addr) (vs : List Value) (n : Nat) (tk : Tok) (h3 : 3 ≤ k) (h8 : k ≤ 8) (hg : GoodP ps) (hlen : vs.length = ps.length) (h2 : 2 ≤ ps.length) (hmax : ps.length ≤ 100) (IH : PP k ps.length) :
    Gives 128 (ps.length + 4) [.ref lp, .int k tk, .ref 205] (fun news => (lp, listOf vs.toArray n) ∈ news ∧ PairsAre news vs ps) (IsL (limbs k (prodP ps))) := by
  have hh0 : 0 ≤ ((ps.length : Nat) : Int).fdiv 2 := by rw [Int.fdiv_eq_ediv_of_nonneg _ (by omega)]; omega
  have hh1 : (((ps.length : Nat) : Int).fdiv 2).toNat < ps.length := by rw [Int.fdiv_eq_ediv_of_nonneg _ (by omega)]; omega
  have hh2 : 0 < (((ps.length : Nat) : Int).fdiv 2).toNat := by rw [Int.fdiv_eq_ediv_of_nonneg _ (by omega)]; omega
  unfold Gives
  intro c s Q E B F X N T hf hk hpre hd hu hret
  (k_dflt refine' enter [(Str.ofString "mul", .ref 205), (Str.ofString "w", .int k tk), (Str.ofString "pairs", .ref lp)] [(lp, listOf vs.toArray n)] B F X N T hf hk ?k6 ?k7 ?k8 ?k9 ?kB ?c2 ?c3 ?c4 ?c5 ?ca ?_)
  ktn_open
  case ca => exact List.forall_mem_cons.mpr ⟨hpre.1, List.forall_mem_nil _⟩
  intro g' L' h' tk' FG' F' N' B' X' T'
  have hnil : IntsAre [] [] := .nil
  try dsimp only [List.cons_append, List.nil_append] at N'
  (try k_fold)
  have hPA := hpre.2
  k_steps
  · exfalso; omega
  · exfalso; omega
  · exact retL hret (by k_asm) (by k_asm) (by kcj_all) (by ktn_lt) (by assumption) (congrArg (limbs k) (prodP_half ps _))
theorem pp_ok (k : Nat) (h3 : 3 ≤ k) (h8 : k ≤ 8) : ∀ m, m ≤ 101 → PP k m
  | 0, _ => fun qs _ _ _ _ h => absurd h (Nat.not_lt_zero _)
  | m + 1, hm => by
    have IH := pp_ok k h3 h8 m (by omega)
    intro qs lp vs n tk hq hg hl
    by_cases h2 : 2 ≤ qs.length
    · refine pp_more k qs lp vs n tk h3 h8 hg hl h2 (by omega) ?_
      exact fun qs' lp' vs' n' tk' h' => IH qs' lp' vs' n' tk' (by omega)
    · intro c s Q E B F X N T hf hk hpre hd hu hret
      obtain ⟨hm, hPA⟩ := hpre
      cases hPA with
      | nil => exact pp_nil k lp n tk h3 c s Q E B F X N T hf hk ⟨hm, .nil⟩ hd hu hret
      | cons ha hr =>
        cases hr with
        | nil => exact pp_one k lp _ n _ _ _ tk _ _ h3 h8 hg c s Q E B F X N T hf hk ⟨hm, ha⟩ hd hu hret
        | cons _ _ => exact absurd (show 2 ≤ _ from by simp only [List.length_cons]; omega) h2
end Mine
end
section
open PySem PySem.W PyProof.Rows PySem.Spec PySem.Calls
set_option maxRecDepth 100000
namespace Mine
def IsN (r : Value) (tl : List (Addr × Obj)) : Prop := tl = [] ∧ r = .none
theorem gives_useN {f : Addr} {deep : Nat} {vs : List Value} {Pre : List (Addr × Obj) → Prop} {prog : Program} {w : World} {p : Program} {loose : List Str} {mean : ExcName → Option Value} {mg mb : Str → Option Value}
    {dp un : Nat} {gd : Option (List Code)} {env : Env} {outer : List Env} {A₀ : Around} {base h₀ : Heap} {L : Addr} {m : Str → Option Value} {news : List (Addr × Obj)} {s : Shared} {Q E : Value → Shared → Prop}
    (G : Gives f deep vs Pre IsN) (B : Below A₀ base outer h₀) (F : Fr h₀ L s.heap m) (X : (Mine.KK w.params).In h₀) (N : News h₀ L s.heap news) (T : Top p loose mean mg mb h₀)
    (hf : env.frame = some L) (hk : env.scope.kind = .function) (hp : Pre news) (hd : dp + deep < recursionLimit) (hu : un + 8 * deep < cLine)
    (ret : ∀ h' tk', Fr h₀ L h' m → News h₀ L h' news → Q .none { s with heap := h', toks := tk' }) :
    wpAny (model prog w) { handled := none, depth := dp, frames := some (env :: outer), guards := gd, units := un } (call (.ref f) vs) Q E s :=
  gives_use G B F X N T hf hk hp hd hu fun r tl h' tk' F' N' hl ho => by
    obtain ⟨rfl, rfl⟩ := ho
    exact ret h' tk' F' N'
set_option maxHeartbeats 4000000 in
theorem need_ok (V : Nat) (t1 : Tok) : Gives 114 1 [.int V t1] (fun _ => True) IsN := by
  unfold Gives
  intro c s Q E B F X N T hf hk hpre hd hu hret
  (k_dflt refine' enter [(Str.ofString "n", .int V t1)] [] B F X N T hf hk ?k6 ?k7 ?k8 ?k9 ?kB ?c2 ?c3 ?c4 ?c5 ?ca ?_)
  ktn_open
  case ca => exact List.forall_mem_nil _
  intro g' L' h' tk' FG' F' N' B' X' T'
  have hnil : IntsAre [] [] := .nil
  try dsimp only [List.cons_append, List.nil_append] at N'
  (try k_fold)
  have hV0 : ¬ ((V : Int) < 0) := by omega
  k_steps
  all_goals first
    | (exfalso; omega)
    | exact ret0d hret (by k_asm) (by k_asm) (by kcj_all) ⟨rfl, rfl⟩
local macro_rules | `(tactic| walk_at "call ref") => `(tactic| (k_here; (with_reducible show wpAny _ _ (call (Value.ref 114) _) _ _ _); (k_dflt refine' gives_useN (need_ok _ _) ?B ?F ?X ?N ?T ?hf ?hk ?hp ?hd ?hu ?_); ktr_unf; (case hp => trivial); intro h9 tk9 F9 N9; (try k_sweep); (try dsimp only); (try k_fold)))
def ShortM : Prop := True
theorem allLt_left {r : Addr} {a b : List (Addr × Obj)} (h : AllLt r (a ++ b)) : AllLt r a := allLt_of fun p hp => kst_ltOf h p (List.mem_append.mpr (.inl hp))
theorem primes_few : ∀ V : Nat, V < 18 → (primesTo V).length ≤ 7 := by decide +kernel
def manyI (V W : Nat) (p : Int) : Int := ((fexp (V : Int).toNat p.toNat : Nat) : Int) - ((fexp (W : Int).toNat p.toNat : Nat) : Int) - ((fexp ((V : Int) - (W : Int)).toNat p.toNat : Nat) : Int)
def pairsI (V W : Nat) (pre : List Int) : List (Int × Int) := pre.filterMap fun p => if 0 < manyI V W p then some (p, manyI V W p) else none
def datOf (x : Int × Int) : Dat := Dat.tuple [Dat.int x.1, Dat.int x.2]
def pSt (V W : Nat) (pre : List Int) (out : List Dat) : Prop := out = (pairsI V W pre).map datOf ∧ out.length ≤ pre.length
theorem pSt_nil {V W : Nat} : pSt V W [] [] := ⟨rfl, Nat.le_refl _⟩
theorem pSt_yes {V W : Nat} {pre : List Int} {out : List Dat} {p : Int} (h : 0 < manyI V W p) (hp : pSt V W pre out) : pSt V W (pre ++ [p]) (out ++ [Dat.tuple [Dat.int p, Dat.int (manyI V W p)]]) := by
  refine ⟨?_, ?_⟩
  · rw [hp.1, pairsI, pairsI, List.filterMap_append, List.map_append]
    simp only [List.filterMap_cons, List.filterMap_nil, if_pos h, List.map_cons, List.map_nil, datOf]
  · have := hp.2
    simp only [List.length_append, List.length_cons, List.length_nil]
    omega
theorem pSt_no {V W : Nat} {pre : List Int} {out : List Dat} {p : Int} (h : ¬ 0 < manyI V W p) (hp : pSt V W pre out) : pSt V W (pre ++ [p]) out := by
  refine ⟨?_, ?_⟩
  · rw [hp.1, pairsI, pairsI, List.filterMap_append, List.map_append]
    simp only [List.filterMap_cons, List.filterMap_nil, if_neg h, List.map_nil, List.append_nil]
  · have := hp.2
    simp only [List.length_append, List.length_cons, List.length_nil]
    omega
theorem pSt_short {V W : Nat} {pre post : List Int} {p : Int} {out : List Dat} {vs : List Value} (he : primesTo V = pre ++ p :: post) (hv : V ≤ 17) (hp : pSt V W pre out) (hl : vs.length = out.length) : vs.length ≤ 20 := by
  have h1 := hp.2
  have h2 := primes_few V (by omega)
  rw [he] at h2
  simp only [List.length_append, List.length_cons] at h2
  omega
theorem primes_range : ∀ V : Nat, V < 18 → ∀ p ∈ primesTo V, 2 ≤ p ∧ p ≤ 17 := by decide +kernel
theorem primes_in {V : Nat} {p : Int} (hm : p ∈ primesTo V) (hv : V ≤ 17) : 2 ≤ p ∧ p ≤ 17 := primes_range V (by omega) p hm
local macro_rules | `(tactic| walk_at "call builtin:list.append") => `(tactic| ((fail_if_success (rename ShortM => hM9)); have hM9 : ShortM := trivial; have hShort9 := pSt_short (by assumption) (by assumption) (by assumption) (by assumption)))
local macro_rules | `(tactic| walk_at "call ref") => `(tactic| (k_here; (with_reducible show wpAny _ _ (call (Value.ref 107) _) _ _ _); (k_dflt refine' gives_useL (sieve_ok _ _ ?h3 ?h17) ?B ?F ?X ?N ?T ?hf ?hk ?hp ?hd ?hu ?_); ktr_unf; (case hp => trivial); (case h3 => assumption); (case h17 => assumption); intro r9 vs9 n9 h9 tk9 F9 N9 l9 hi9; (simp only [AllLt, and_true] at l9); (try k_sweep); (try dsimp only); (try k_fold)))
local macro_rules | `(tactic| walk_at "call ref") => `(tactic| (k_here; (with_reducible show wpAny _ _ (call (Value.ref 135) _) _ _ _); (k_dflt refine' gives_useI (fexp_okI _ _ _ _ ?hn ?hq ?hq2) ?B ?F ?X ?N ?T ?hf ?hk ?hp ?hd ?hu ?_); ktr_unf; (case hp => trivial); (case hn => omega); (case hq => exact (primes_in (by assumption) (by assumption)).1); (case hq2 => exact (primes_in (by assumption) (by assumption)).2); intro t9 h9 tk9 F9 N9; (try k_sweep); (try dsimp only); (try k_fold)))
def qsN (V W : Nat) : List (Nat × Nat) := (pairsI V W (primesTo V)).map fun x => (x.1.toNat, x.2.toNat)
def upN (x : Nat × Nat) : Int × Int := ((x.1 : Int), (x.2 : Int))
def binChk (V W : Nat) : Bool := decide (pairsI V W (primesTo V) = (qsN V W).map upN) && decide (prodP (qsN V W) < 2 ^ 200) && ((qsN V W).all fun x => decide (0 < x.1) && decide (x.1 < 2 ^ 200)) && decide ((qsN V W).length < 15) && decide (prodP (qsN V W) = chs V W)
theorem bin_facts0 : ∀ V : Nat, V < 18 → ∀ W : Nat, W < 18 → W ≤ V → binChk V W = true := by decide +kernel
theorem bin_facts (V : Nat) (hV : V < 18) (W : Nat) (hW : W < 18) (h : W ≤ V) : pairsI V W (primesTo V) = (qsN V W).map upN ∧ GoodP (qsN V W) ∧ (qsN V W).length < 15 ∧ prodP (qsN V W) = chs V W := by
  have h0 := bin_facts0 V hV W hW h
  rw [binChk, Bool.and_eq_true, Bool.and_eq_true, Bool.and_eq_true, Bool.and_eq_true, decide_eq_true_iff, decide_eq_true_iff, decide_eq_true_iff, decide_eq_true_iff] at h0
  refine ⟨h0.1.1.1.1, ⟨h0.1.1.1.2, fun x hx => ?_⟩, h0.1.2, h0.2⟩
  have h1 := List.all_eq_true.mp h0.1.1.2 x hx
  rw [Bool.and_eq_true, decide_eq_true_iff, decide_eq_true_iff] at h1
  exact h1
theorem pairs_of {news : List (Addr × Obj)} : ∀ {qs : List (Nat × Nat)} {vs : List Value}, DatAll news vs ((qs.map upN).map datOf) → PairsAre news vs qs
  | [], _, .nil => .nil
  | x :: qs, _, .cons h r => by
    have hr := pairs_of r
    cases h with
    | tuple hm ht =>
      cases ht with
      | cons h1 ht =>
        cases h1
        cases ht with
        | cons h2 ht =>
          cases h2
          cases ht
          exact .cons hm hr
set_option maxHeartbeats 4000000 in
theorem bin_ok (V W k : Nat) (t1 t2 t3 : Tok) (h3v : 3 ≤ V) (h17 : V ≤ 17) (hw : W ≤ V) (h3 : 3 ≤ k) (h8 : k ≤ 8) :
    Gives 142 20 [.int V t1, .int W t2, .int k t3, .ref 205] (fun _ => True) (IsL (limbs k (chs V W))) := by
  unfold Gives
  intro c s Q E B F X N T hf hk hpre hd hu hret
  (k_dflt refine' enter [(Str.ofString "mul", .ref 205), (Str.ofString "w", .int k t3), (Str.ofString "k", .int W t2), (Str.ofString "n", .int V t1)] [] B F X N T hf hk ?k6 ?k7 ?k8 ?k9 ?kB ?c2 ?c3 ?c4 ?c5 ?ca ?_)
  ktn_open
  case ca => exact List.forall_mem_nil _
  intro g' L' h' tk' FG' F' N' B' X' T'
  have hnil : IntsAre [] [] := .nil
  try dsimp only [List.cons_append, List.nil_append] at N'
  (try k_fold)
  (k_with "state" => first | exact pSt_nil | exact pSt_yes (by assumption) (by assumption) | exact pSt_no (by assumption) (by assumption))
  have hP0 : True := trivial
  (k_with "pyIter ref" => k_dat (fun pre out => pSt V W pre out) "pairs*")
  k_steps
  · have hShort9 := pSt_short (by assumption) (by assumption) (by assumption) (by assumption)
    k_steps
  · have hq := bin_facts V (by omega) W (by omega) hw
    rename pSt _ _ _ _ => hPs
    rename DatAll _ _ _ => hDa
    obtain ⟨rfl, -⟩ := hPs
    rw [hq.1] at hDa
    have hPA := pairs_of hDa
    have hPl := PairsAre.length hPA
    (k_dflt refine' gives_useL (PP.use (pp_ok k h3 h8 101 (Nat.le_refl _)) (qs := qsN V W) ?h1 ?h2 ?h3) ?B ?F ?X ?N ?T ?hf ?hk ?hp ?hd ?hu ?_)
    (case B => k_asm); (case F => k_asm); (case X => k_asm); (case N => k_asm); (case T => k_asm); (case hf => first | rfl | assumption); (case hk => first | rfl | assumption)
    (case hp => exact ⟨by k_mem, PairsAre.mono hPA (by kcj_all)⟩)
    (case h1 => omega)
    (case h2 => exact hq.2.1)
    (case h3 => exact hPl)
    (case hd => (dsimp only; omega))
    (case hu => (have hcL9 := cLine_is; dsimp only; omega))
    intro r9 vs9 n9 h9 tk9 F9 N9 l9 hi9
    (simp only [AllLt, and_true] at l9)
    (try k_sweep)
    (try dsimp only)
    (try k_fold)
    k_steps
    exact retL hret (by k_asm) (by k_asm) (by kcj_all) (allLt_left l9.2.2) (by assumption) (congrArg (limbs k) hq.2.2.2)
end Mine
end
section
open PySem PySem.W PyProof.Rows PySem.Spec PySem.Calls
set_option maxRecDepth 100000
namespace Mine
def digsF (q : Nat) : Nat → Nat → List Int
  | 0, _ => []
  | _ + 1, 0 => []
  | f + 1, V + 1 => ((V + 1) % q : Nat) :: digsF q f ((V + 1) / q)
def digs (q V : Nat) : List Int := digsF q V V
theorem digs_step : ∀ V : Nat, V < 18 → ∀ q : Nat, q < 8 → 2 ≤ q → 0 < V → digs q V = ((V % q : Nat) : Int) :: digs q (V / q) := by decide +kernel
theorem digs_few : ∀ V : Nat, V < 18 → ∀ q : Nat, q < 8 → 2 ≤ q → (digs q V).length ≤ 5 := by decide +kernel
theorem limbs_few : ∀ V : Nat, V < 18 → ∀ k : Nat, k < 9 → 3 ≤ k → (limbs k V).length ≤ 2 := by decide +kernel
theorem gives_useD {f : Addr} {deep : Nat} {vs : List Value} {Pre : List (Addr × Obj) → Prop} {prog : Program} {w : World} {p : Program} {loose : List Str} {mean : ExcName → Option Value} {mg mb : Str → Option Value}
    {dp un : Nat} {gd : Option (List Code)} {env : Env} {outer : List Env} {A₀ : Around} {base h₀ : Heap} {L : Addr} {m : Str → Option Value} {news : List (Addr × Obj)} {s : Shared} {Q E : Value → Shared → Prop}
    {xs : List Int} {x : Int} (G : Gives f deep vs Pre (IsDiv xs x)) (B : Below A₀ base outer h₀) (F : Fr h₀ L s.heap m) (X : (Mine.KK w.params).In h₀) (N : News h₀ L s.heap news) (T : Top p loose mean mg mb h₀)
    (hf : env.frame = some L) (hk : env.scope.kind = .function) (hp : Pre news) (hd : dp + deep < recursionLimit) (hu : un + 8 * deep < cLine)
    (ret : ∀ d' l' vs' n' t' h' tk', Fr h₀ L h' m → News h₀ L h' ((d', ({ cls := .type "tuple", data := .seq #[.ref l', .int x t'] } : Obj)) :: (l', listOf (List.toArray vs') n') :: news) → AllLt d' news → AllLt l' news → IntsAre vs' xs → Q (.ref d') { s with heap := h', toks := tk' }) :
    wpAny (model prog w) { handled := none, depth := dp, frames := some (env :: outer), guards := gd, units := un } (call (.ref f) vs) Q E s :=
  gives_use G B F X N T hf hk hp hd hu fun r tl h' tk' F' N' hl ho => by
    obtain ⟨d', l', vs', n', t', rfl, rfl, hi⟩ := ho
    exact ret d' l' vs' n' t' h' tk' F' N' (hl _ (.head _)) (hl _ (.tail _ (.head _))) hi
set_option maxHeartbeats 4000000 in
theorem cb_ok (q : Nat) (t1 : Tok) (h2 : 2 ≤ q) : Gives 156 1 [.int q t1] (fun _ => True) IsN := by
  unfold Gives
  intro c s Q E B F X N T hf hk hpre hd hu hret
  (k_dflt refine' enter [(Str.ofString "base", .int q t1)] [] B F X N T hf hk ?k6 ?k7 ?k8 ?k9 ?kB ?c2 ?c3 ?c4 ?c5 ?ca ?_)
  ktn_open
  case ca => exact List.forall_mem_nil _
  intro g' L' h' tk' FG' F' N' B' X' T'
  have hnil : IntsAre [] [] := .nil
  try dsimp only [List.cons_append, List.nil_append] at N'
  (try k_fold)
  have hV0 : ¬ ((q : Int) < 2) := by omega
  k_steps
  all_goals first
    | (exfalso; omega)
    | exact ret0d hret (by k_asm) (by k_asm) (by kcj_all) ⟨rfl, rfl⟩
local macro_rules | `(tactic| walk_at "call ref") => `(tactic| (k_here; (with_reducible show wpAny _ _ (call (Value.ref 79) _) _ _ _); (k_dflt refine' gives_useD (divlimb_ok _ _ _ _ _ _ _ _ ?hi ?hl ?h3 ?h8 ?h2 ?h7) ?B ?F ?X ?N ?T ?hf ?hk ?hp ?hd ?hu ?_); ktr_unf; (case hp => k_mem); (case hi => k_asm); (case hl => assumption); (case h3 => assumption); (case h8 => assumption); (case h2 => assumption); (case h7 => assumption); intro d9 r9 vs9 n9 t9 h9 tk9 F9 N9 l9 l8 hi9; (simp only [AllLt, and_true] at l9 l8); (try k_sweep); (try dsimp only); (try k_fold)))
theorem pow_above : ∀ k : Nat, k < 9 → 3 ≤ k → ∀ q : Nat, q < 8 → (q : Int) < 1 * 2 ^ ((k : Int)).toNat := by decide +kernel
set_option maxHeartbeats 4000000 in
theorem doff_ok (l : Addr) (vs : List Value) (n V q k : Nat) (t2 t3 : Tok) (hi : IntsAre vs (limbs k V)) (hl : (limbs k V).length ≤ 200) (h3 : 3 ≤ k) (h8 : k ≤ 8) (h2 : 2 ≤ q) (h7 : q ≤ 7) :
    Gives 163 3 [.ref l, .int q t2, .int k t3, .ref 247] (fun news => (l, listOf vs.toArray n) ∈ news) (IsDiv (limbs k (V / q)) ((V % q : Nat) : Int)) := by
  unfold Gives
  intro c s Q E B F X N T hf hk hpre hd hu hret
  (k_dflt refine' enter [(Str.ofString "divrem", .ref 247), (Str.ofString "w", .int k t3), (Str.ofString "base", .int q t2), (Str.ofString "a", .ref l)] [(l, listOf vs.toArray n)] B F X N T hf hk ?k6 ?k7 ?k8 ?k9 ?kB ?c2 ?c3 ?c4 ?c5 ?ca ?_)
  ktn_open
  case ca => exact List.forall_mem_cons.mpr ⟨hpre, List.forall_mem_nil _⟩
  intro g' L' h' tk' FG' F' N' B' X' T'
  have hnil : IntsAre [] [] := .nil
  try dsimp only [List.cons_append, List.nil_append] at N'
  (try k_fold)
  have hV0 := pow_above k (by omega) h3 q (by omega)
  k_steps
  all_goals first
    | (exfalso; omega)
    | exact retD hret (by k_asm) (by k_asm) (by kcj_all) (by ktn_lt) (by ktn_lt) (by assumption) ⟨rfl, rfl⟩
    | trace_state
end Mine
end
section
open PySem PySem.W PyProof.Rows PySem.Spec PySem.Calls
set_option maxRecDepth 100000
namespace Mine
local macro_rules | `(tactic| walk_at "subscriptTail") => `(tactic| (k_here; (with_reducible show wpAny _ _ (subscriptTail _ _ (Value.ref _) (Value.int _ _)) _ _ _); (with_unfolding_all refine' item_anyK ?k1 ?k2 ?k3 ?k4 ?k5 ?_ ?k6; (case k1 => is_list); (case k2 => with_reducible assumption); (case k3 => omega); (case k4 => omega); (case k5 => omega); (case k6 => with_unfolding_all rfl)); intro _))
local macro_rules | `(tactic| walk_at "subscriptTail Name Name ref int") => `(tactic| (k_here; (with_reducible show wpAny _ _ (subscriptTail _ _ (Value.ref _) (Value.int _ _)) _ _ _); (with_unfolding_all refine' item_anyK ?k1 ?k2 ?k3 ?k4 ?k5 ?_ ?k6; (case k1 => is_list); (case k2 => with_reducible assumption); (case k3 => omega); (case k4 => omega); (case k5 => omega); (case k6 => with_unfolding_all rfl)); intro _))
local macro_rules | `(tactic| walk_at "subscriptTail Name BinOp ref int") => `(tactic| (k_here; (with_reducible show wpAny _ _ (subscriptTail _ _ (Value.ref _) (Value.int _ _)) _ _ _); (with_unfolding_all refine' item_anyK ?k1 ?k2 ?k3 ?k4 ?k5 ?_ ?k6; (case k1 => is_list); (case k2 => with_reducible assumption); (case k3 => omega); (case k4 => omega); (case k5 => omega); (case k6 => with_unfolding_all rfl)); intro _))
theorem row_news {h₀ h : Heap} {L : Addr} {x rr : Addr × Obj} {cst tl own : List (Addr × Obj)} (N : News h₀ L h ([x] ++ (cst ++ (tl ++ own)))) (hm : rr ∈ cst ++ tl) : News h₀ L h (rr :: x :: (cst ++ (tl ++ own))) := by
  intro p hp
  rcases List.mem_cons.mp hp with rfl | hp
  · exact N _ (.tail _ ((List.append_assoc cst tl own) ▸ List.mem_append.mpr (.inl hm) : p ∈ cst ++ (tl ++ own)))
  · exact N p hp
theorem row_news2 {h₀ h : Heap} {L : Addr} {x rr : Addr × Obj} {cst tl : List (Addr × Obj)} (N : News h₀ L h ([x] ++ (cst ++ tl))) (hm : rr ∈ cst ++ tl) : News h₀ L h (rr :: x :: (cst ++ tl)) := by
  intro p hp
  rcases List.mem_cons.mp hp with rfl | hp
  · exact N _ (.tail _ hm)
  · exact N p hp
theorem row_map {xs : List Int} (h : 0 < xs.length) : [1] ++ (rangeKs 0 ((xs.length : Int) - 1 - 0).toNat).map (fun i => xs.getD i.toNat 0 + xs.getD (i + 1).toNat 0) ++ [1] = nxt xs := by
  have e : (rangeKs 0 ((xs.length : Int) - 1 - 0).toNat).map (fun i => xs.getD i.toNat 0 + xs.getD (i + 1).toNat 0) = List.zipWith (· + ·) xs xs.tail := by
    apply List.ext_getElem
    · rw [List.length_map, rangeKs_length, List.length_zipWith, List.length_tail]; omega
    · intro i h1 h2
      rw [List.length_map, rangeKs_length] at h1
      have ha : i < xs.length := by omega
      have hb : i + 1 < xs.length := by omega
      have e1 : (0 + (i : Int)).toNat = i := by omega
      have e2 : (0 + (i : Int) + 1).toNat = i + 1 := by omega
      simp only [rangeKs, List.getElem_map, List.getElem_range, List.getElem_zipWith, List.getElem_tail, e1, e2, List.getD_eq_getElem?_getD, List.getElem?_eq_getElem ha, List.getElem?_eq_getElem hb, Option.getD_some]
  rw [e]; rfl
structure RwS where
  oc : Obj
  r : Addr
  vs : List Value
  n : Nat
  xs : List Int
def RwF (C : Addr) (news L9 : List (Addr × Obj)) (z : RwS) : Prop := z.oc.data = .cell (some (.ref z.r)) ∧ (z.r, listOf z.vs.toArray z.n) ∈ L9 ∧ IntsAre z.vs z.xs ∧ C < z.r ∧ AllLt z.r news
set_option maxHeartbeats 1000000 in
theorem row_ok (V : Nat) (t1 : Tok) (h17 : V ≤ 17) :
    Gives 273 1 [.int V t1] (fun _ => True) (IsL (prow V)) := by
  unfold Gives
  intro c s Q E B F X N T hf hk hpre hd hu hret
  refine wpAny_call ?_
  (k_dflt refine' code_defC (binds := [(Str.ofString "n", .int V t1)]) B F X N T rfl hf hk ?k6 ?k7 ?k8 ?k9 ?kB ?kD ?_ ?c2 ?c3 ?c4)
  (case k6 => k_is); (case k7 => k_is); (case k8 => (dsimp only; omega)); (case k9 => exact BindsTo.of_eq rfl); (case kB => exact rfl); (case kD => decide +kernel); (case c2 => exact rfl); (case c3 => exact rfl); (case c4 => exact rfl)
  intro g' L' h' tk' cells' FG' F' N' Y' B' X' T' l1
  have lC : AllLt (L' + 1) c.news := allLt_of fun p hp => Nat.lt_succ_of_lt (l1 p hp)
  have kMark : KstMark := kstMark
  have F2 : Fr g' L' h' (fun y => if y = Str.ofString "n" then some (.int V t1) else none) := F'
  have Y2 : CellsAre (fun _ => none) [(Str.ofString "row", L' + 1)] cells' := Y'
  obtain ⟨oC, rfl, dC⟩ := Y2.one
  clear F' Y'
  (try simp only [List.cons_append, List.nil_append] at N')
  have hnil : IntsAre [] [] := .nil
  (try dsimp only)
  (try k_fold)
  repeat' (first | (k_unfold; (try dsimp only)) | (k_end; wrow_close) | ((fail_if_success (with_reducible show wpAny _ _ (pyIter _) _ _ _)); first | walk1 | (dsimp only; walk1) | (leave1; walk_say "STEP leave1"; try dsimp only)))
  rename_i l0 h2 l1b h1 o1 F1 N1 d1 h0 tk0 t1b u1b v1b hR F0 N0 hst
  refine kd_range (σ := RwS) (fun z => [(L' + 1, z.oc)]) ((l0, listOf [Value.int 1 tk'].toArray 0) :: c.news) (fun _ => []) (RwF (L' + 1) c.news) [] (fun pre z => z.xs = prow pre.length) ((L' + 1) :: l0 :: c.news.map (·.1)) ⟨o1, l0, [.int 1 tk'], 0, [1]⟩
    rfl hR (small_one (by omega) (by omega) (by omega) (by omega)) (rangeSize_nat _ _) F0 N0 (by kcj_all) (fun _ => rfl) ⟨d1, by k_mem, .cons _ _ .nil, l1b.1, l1b.2⟩ (fun _ h => nomatch h) rfl ?_ ?_
  · rintro ⟨oc, r, vs, n, xs⟩ tl pre k t u h9 tk9 own hk9 hlt hsep hoff ⟨hd9, hm9, hi9, hl9, hal9⟩ hxs F9 N9
    dsimp only [kstB] at hd9 hm9 hi9 hl9 hal9 hxs F9 N9
    have N8 : News g' L' h9 ((r, listOf vs.toArray n) :: (L' + 1, oc) :: (l0, listOf [Value.int 1 tk'].toArray 0) :: (c.news ++ (tl ++ own))) := row_news N9 hm9
    clear N9
    have hxl : xs.length = pre.length + 1 := by rw [hxs]; exact prow_len _
    have hvl : vs.length = pre.length + 1 := hi9.length.trans hxl
    have hp17 : pre.length < 17 := by omega
    have hoffC : OwnOff (c.news ++ (tl ++ own)) [L' + 1] := by
      intro p hp b hb
      rw [List.mem_singleton.mp hb]
      rcases List.mem_append.mp hp with hp | hp
      · exact Nat.ne_of_lt (kst_ltOf lC p hp)
      · exact hoff p hp _ (.head _)
    have hlo0 : L' + 1 < l0 := l1b.1
    (try dsimp only)
    (try k_fold)
    repeat' (first | (k_unfold; (try dsimp only)) | (k_end; wrow_close) | ((fail_if_success (with_reducible show wpAny _ _ (eval (Expr.ListComp _ _ _ _) _) _ _ _)); first | walk1 | (dsimp only; walk1) | (leave1; walk_say "STEP leave1"; try dsimp only)))
    k_dflt (refine LCg.ListComp_U (F₀ := by k_asm) (by with_unfolding_all rfl) (by decide) (by rfl) (by decide) (by rfl) ?_)
    repeat' (first | (k_unfold; (try dsimp only)) | (k_end; wrow_close) | ((fail_if_success (with_reducible show LCg.CompSrc _ _ _ _ _ _ _ _ _ _ _ _ _ _)); first | walk1 | (dsimp only; walk1) | (leave1; walk_say "STEP leave1"; try dsimp only)))
    rename_i lz hz1 Fz Nz l1z hz0 tkz tz uz vz hRz F2z N2z hst2
    refine LCg.CompSrc.range rfl F2z N2z hRz (small_one (by omega) (by omega) (by omega) (by omega)) (rangeSize_nat _ _) (by rw [sizeLine_eq]; omega) ?_
    intro gz
    refine kcf_range (fun i => xs.getD i.toNat 0 + xs.getD (i + 1).toNat 0) ?_ ?_
    · intro i ti I oI C oC D m₂ ys hh tkk E' hi0 hi1 hC hx FF NN off ne mk
      have hb0 : i < (vs.length : Int) := by omega
      have hb1 : i + 1 < (vs.length : Int) := by omega
      have hb2 : 0 ≤ i + 1 := by omega
      have hb3 : i.toNat < xs.length := by omega
      have hb4 : (i + 1).toNat < xs.length := by omega
      k_steps
    · intro ys hys D hD tkD FD ND oD
      have hyl := hys.length
      simp only [List.length_map, rangeKs_length] at hyl
      simp only [LCg.Off1, and_true] at oD
      have ND2 : News g' L' hD ((D, listOf ys.toArray ys.length) :: (lz, listOf [Value.int 1 tk9].toArray 0) :: (r, listOf vs.toArray n) :: (L' + 1, oc) :: (l0, listOf [Value.int 1 tk'].toArray 0) :: (c.news ++ (tl ++ own))) := ND
      have hDne : @Ne Nat D (L' + 1) := fun e => oD.2.2.1 e.symm
      have hl9n : @LT.lt Nat _ (L' + 1) r := hl9
      have hlo0n : @LT.lt Nat _ (L' + 1) l0 := hlo0
      clear ND Nz N2z
      (try dsimp only)
      (try k_fold)
      k_steps
      rename_i D5 ws5 h5a Fa Na hI5 l5 h5 o5 F5 N5 d5
      obtain ⟨-, -, -, -, -, hL5, h05, hA5⟩ := l5
      rw [row_map (by omega)] at hI5
      refine kd_end ⟨o5, D5, ws5, 0, nxt xs⟩ [(D5, listOf ws5.toArray 0)] hsep F5 N5 (by kcj_all) (by kcj_all) rfl ?_ ?_ (fun _ h => nomatch h) ?_ ⟨d5, by k_mem, hI5, hL5, allLt_left hA5⟩ ?_
      · intro q hq b hb
        rw [List.mem_singleton.mp hq]
        rcases List.mem_cons.mp hb with rfl | hb
        · exact Nat.ne_of_lt hL5
        · rcases List.mem_cons.mp hb with rfl | hb
          · exact Nat.ne_of_lt h05
          · obtain ⟨p, hp, rfl⟩ := List.mem_map.mp hb
            exact Nat.ne_of_lt (kst_ltOf hA5 p (List.mem_append.mpr (.inl hp)))
      · intro q hq p hp
        rw [List.mem_singleton.mp hq]
        exact Nat.ne_of_lt (kst_ltOf hA5 p (List.mem_append.mpr (.inr (List.mem_append.mpr (.inr hp)))))
      · intro z hz _ _
        exact if_neg hz
      · show nxt xs = prow (pre ++ [k]).length
        rw [List.length_append, hxs]
        rfl
  · rintro ⟨oc, r, vs, n, xs⟩ tl u h9 tk9 hoff ⟨hd9, hm9, hi9, hl9, hal9⟩ hxs F9 N9
    dsimp only [kstB] at hd9 hm9 hi9 hl9 hal9 hxs F9 N9
    have N8 : News g' L' h9 ((r, listOf vs.toArray n) :: (L' + 1, oc) :: (l0, listOf [Value.int 1 tk'].toArray 0) :: (c.news ++ tl)) := row_news2 N9 hm9
    clear N9
    k_steps
    exact retL hret (by k_asm) (by k_asm) (by kcj_all) hal9 hi9 (by rw [hxs, rangeKs_length]; rfl)
end Mine
end
section
open PySem PySem.W PyProof.Rows PySem.Spec PySem.Calls
set_option maxRecDepth 100000
namespace Mine
local macro_rules | `(tactic| walk_at "call ref") => `(tactic| (k_here; (with_reducible show wpAny _ _ (call (Value.ref 163) _) _ _ _); (k_dflt refine' gives_useD (doff_ok _ _ _ _ _ _ _ _ ?hi ?hl ?h3 ?h8 ?h2 ?h7) ?B ?F ?X ?N ?T ?hf ?hk ?hp ?hd ?hu ?_); ktr_unf; (case hp => k_mem); (case hi => k_asm); (case hl => assumption); (case h3 => assumption); (case h8 => assumption); (case h2 => assumption); (case h7 => assumption); intro d9 r9 vs9 n9 t9 h9 tk9 F9 N9 l9 l8 hi9; (simp only [AllLt, and_true] at l9 l8); (try k_sweep); (try dsimp only); (try k_fold)))
def DpP (q V l0 aa V1 : Nat) (fd : List Int) : Prop := fd ++ digs q V1 = digs q V ∧ V1 ≤ 17 ∧ aa ≠ l0
theorem dp_len {q V V1 : Nat} {fd : List Int} (h17 : V ≤ 17) (h2 : 2 ≤ q) (h7 : q ≤ 7) (h : fd ++ digs q V1 = digs q V) : fd.length ≤ 5 := by
  have := digs_few V (by omega) q (by omega) h2
  rw [← h, List.length_append] at this
  omega
theorem dp_turn {q V l0 aa V1 : Nat} {fd : List Int} (h : fd ++ digs q V1 = digs q V) (hv : V1 ≤ 17) (h2 : 2 ≤ q) (h7 : q ≤ 7) (hp : 0 < V1) (hne : aa ≠ l0) : DpP q V l0 aa (V1 / q) (fd ++ [((V1 % q : Nat) : Int)]) := by
  refine ⟨?_, Nat.le_trans (Nat.div_le_self _ _) hv, hne⟩
  rw [← h, digs_step V1 (by omega) q (by omega) h2 hp, List.append_assoc]
  rfl
theorem dp_pos {k V : Nat} (h : (0 : Int) < ((limbs k V).length : Int)) : 0 < V := by
  refine Nat.pos_of_ne_zero fun e => ?_
  rw [e, limbs_zero] at h
  exact absurd h (by decide)
theorem dp_zero {k V : Nat} (hk : 0 < k) (h : ¬ (0 : Int) < ((limbs k V).length : Int)) : V = 0 := by
  refine Nat.eq_zero_of_not_pos fun e => h ?_
  rw [limbs_pos hk e, List.length_cons]
  omega
structure DpS where
  V : Nat
  aa : Addr
  av : List Value
  an : Nat
  fv : List Value
  fn : Nat
  fd : List Int
set_option maxHeartbeats 2000000 in
theorem dplain_ok (l : Addr) (vs : List Value) (n V q k : Nat) (t2 t3 : Tok) (hi : IntsAre vs (limbs k V)) (h17 : V ≤ 17) (h3 : 3 ≤ k) (h8 : k ≤ 8) (h2 : 2 ≤ q) (h7 : q ≤ 7) :
    Gives 170 4 [.ref l, .int q t2, .int k t3, .ref 247] (fun news => (l, listOf vs.toArray n) ∈ news) (IsL (digs q V).reverse) := by
  unfold Gives
  intro c s Q E B F X N T hf hk hpre hd hu hret
  (k_dflt refine' enter [(Str.ofString "divrem", .ref 247), (Str.ofString "w", .int k t3), (Str.ofString "base", .int q t2), (Str.ofString "a", .ref l)] [(l, listOf vs.toArray n)] B F X N T hf hk ?k6 ?k7 ?k8 ?k9 ?kB ?c2 ?c3 ?c4 ?c5 ?ca ?_)
  ktn_open
  case ca => exact List.forall_mem_cons.mpr ⟨hpre, List.forall_mem_nil _⟩
  intro g' L' h' tk' FG' F' N' B' X' T'
  have hnil : IntsAre [] [] := .nil
  try dsimp only [List.cons_append, List.nil_append] at N'
  (try k_fold)
  repeat' (first | (k_unfold; (try dsimp only)) | (k_end; wrow_close) | ((fail_if_success (with_reducible show wpAny _ _ (exec (Stmt.While _ _ _ _) _) _ _ _)); first | walk1 | (dsimp only; walk1) | (leave1; walk_say "STEP leave1"; try dsimp only)))
  rename_i l0 h1 l1 h0 F1 N1
  refine ksw_while (σ := DpS) (fun z => (l0, listOf z.fv.toArray z.fn) :: (z.aa, listOf z.av.toArray z.an) :: c.news) (fun z => [(Str.ofString "a", .ref z.aa), (Str.ofString "found", .ref l0)])
    (fun z => IntsAre z.av (limbs k z.V) ∧ IntsAre z.fv z.fd) [Str.ofString "digit"] (fun z => DpP q V l0 z.aa z.V z.fd) (fun z => z.V) ⟨V, l, vs, n, [], 0, []⟩ F1 (kst_newsOf N1 (by kcj_all)) ⟨hi, .nil⟩ (by kst_all)
    ⟨rfl, h17, Nat.ne_of_lt l1.1⟩ ?_
  rintro ⟨V1, aa, av, an, fv, fn, fd⟩ u h tk9 ⟨hi1, hi2⟩ hP F2 N2
  dsimp only [kstB] at hi1 hi2 hP F2 N2
  obtain ⟨hdg, hV17, hne⟩ := hP
  have hne2 : @Ne Nat aa l0 := hne
  have hlb := limbs_few V1 (by omega) k (by omega) h3
  have hlV : (limbs k V1).length ≤ 200 := by omega
  have hfl : fd.length ≤ 5 := dp_len h17 h2 h7 hdg
  have hfv := hi2.length
  have hal := l1.2
  have kMark : KstMark := kstMark
  (try k_fold)
  k_steps
  · rename_i hpos z18 d9 r9 vs9 n9 t9 z12 z11 l9 l8 hi9 z7 z6 z5 z4 z3 F5 N5
    have hV0 : 0 < V1 := dp_pos hpos
    simp only [List.push_toArray] at N5
    refine ksw_end2 ⟨V1 / q, r9, vs9, n9, fv ++ [.int ((V1 % q : Nat) : Int) t9], fn + 1, fd ++ [((V1 % q : Nat) : Int)]⟩ F5 (by kst_all) N5 (by kcj_all) ⟨hi9, hi2.append (.cons _ _ .nil)⟩ (by ksw_same) (dp_turn hdg hV17 h2 h7 hV0 (Ne.symm (Nat.ne_of_lt l8.1))) (Nat.div_lt_self hV0 h2)
  · rename_i z3 z2 hz
    have hV0 : V1 = 0 := dp_zero (by omega) hz
    refine reverse_head_ints (ns := fd) F2 N2 ?_ hi2 ?_ (by rw [sizeLine_eq]; omega)
    · intro p hp
      rcases List.mem_cons.mp hp with rfl | hp
      · exact hne
      · exact Nat.ne_of_lt (kst_ltOf hal p hp)
    · intro h5 F5 N5 hi5
      clear F2 N2
      (try k_fold)
      k_steps
      exact retL hret (by k_asm) (by k_asm) (by kcj_all) hal hi5 (by rw [← hdg, hV0]; simp [digs, digsF])
end Mine
end
section
open PySem PySem.W PyProof.Rows PySem.Spec PySem.Calls
set_option maxRecDepth 100000
namespace Mine
local macro_rules | `(tactic| walk_at "call ref") => `(tactic| (k_here; (with_reducible show wpAny _ _ (call (Value.ref 170) _) _ _ _); (k_dflt refine' gives_useL (dplain_ok _ _ _ _ _ _ _ _ ?hi ?hv ?h3 ?h8 ?h2 ?h7) ?B ?F ?X ?N ?T ?hf ?hk ?hp ?hd ?hu ?_); ktr_unf; (case hp => k_mem); (case hi => k_asm); (case hv => assumption); (case h3 => assumption); (case h8 => assumption); (case h2 => assumption); (case h7 => assumption); intro r9 vs9 n9 h9 tk9 F9 N9 l9 hi9; (try simp only [AllLt, and_true] at l9); (try k_sweep); (try dsimp only); (try k_fold)))
local macro_rules | `(tactic| walk_at "mine nothing") => `(tactic| skip)
set_option maxHeartbeats 2000000 in
theorem dbp_ok (l lp : Addr) (vs : List Value) (n V q k : Nat) (t2 t3 t4 : Tok) (hi : IntsAre vs (limbs k V)) (h17 : V ≤ 17) (h3 : 3 ≤ k) (h8 : k ≤ 8) (h2 : 2 ≤ q) (h7 : q ≤ 7) :
    Gives 191 5 [.ref l, .ref lp, .int q t2, .int k t3, .int 2 t4, .ref 247] (fun news => (l, listOf vs.toArray n) ∈ news) (IsL (digs q V).reverse) := by
  have hlb := limbs_few V (by omega) k (by omega) h3
  unfold Gives
  intro c s Q E B F X N T hf hk hpre hd hu hret
  (k_dflt refine' enter [(Str.ofString "divrem", .ref 247), (Str.ofString "least", .int 2 t4), (Str.ofString "w", .int k t3), (Str.ofString "base", .int q t2), (Str.ofString "powers", .ref lp), (Str.ofString "a", .ref l)] [(l, listOf vs.toArray n)] B F X N T hf hk ?k6 ?k7 ?k8 ?k9 ?kB ?c2 ?c3 ?c4 ?c5 ?ca ?_)
  ktn_open
  case ca => exact List.forall_mem_cons.mpr ⟨hpre, List.forall_mem_nil _⟩
  intro g' L' h' tk' FG' F' N' B' X' T'
  have hnil : IntsAre [] [] := .nil
  try dsimp only [List.cons_append, List.nil_append] at N'
  (try k_fold)
  k_steps
  all_goals first
    | (exfalso; omega)
    | exact retL hret (by k_asm) (by k_asm) (by kcj_all) (by ktn_lt) (by assumption) rfl
    | trace_state
local macro_rules | `(tactic| walk_at "call ref") => `(tactic| (k_here; (with_reducible show wpAny _ _ (call (Value.ref 156) _) _ _ _); (k_dflt refine' gives_useN (cb_ok _ _ ?h2) ?B ?F ?X ?N ?T ?hf ?hk ?hp ?hd ?hu ?_); ktr_unf; (case hp => trivial); (case h2 => assumption); intro h9 tk9 F9 N9; (try k_sweep); (try dsimp only); (try k_fold)))
local macro_rules | `(tactic| walk_at "call ref") => `(tactic| (k_here; (with_reducible show wpAny _ _ (call (Value.ref 191) _) _ _ _); (k_dflt refine' gives_useL (dbp_ok _ _ _ _ _ _ _ _ _ _ ?hi ?hv ?h3 ?h8 ?h2 ?h7) ?B ?F ?X ?N ?T ?hf ?hk ?hp ?hd ?hu ?_); ktr_unf; (case hp => k_mem); (case hi => k_asm); (case hv => assumption); (case h3 => assumption); (case h8 => assumption); (case h2 => assumption); (case h7 => assumption); intro r9 vs9 n9 h9 tk9 F9 N9 l9 hi9; (try simp only [AllLt, and_true] at l9); (try k_sweep); (try dsimp only); (try k_fold)))
set_option maxHeartbeats 2000000 in
theorem td_ok (l : Addr) (vs : List Value) (n V q k : Nat) (t2 t3 t4 : Tok) (hi : IntsAre vs (limbs k V)) (h17 : V ≤ 17) (h3 : 3 ≤ k) (h8 : k ≤ 8) (h2 : 2 ≤ q) (h7 : q ≤ 7) :
    Gives 198 6 [.ref l, .int q t2, .int k t3, .int 2 t4, .ref 247, .ref 205] (fun news => (l, listOf vs.toArray n) ∈ news) (IsL (digs q V).reverse) := by
  have hlb := limbs_few V (by omega) k (by omega) h3
  unfold Gives
  intro c s Q E B F X N T hf hk hpre hd hu hret
  (k_dflt refine' enter [(Str.ofString "mul", .ref 205), (Str.ofString "divrem", .ref 247), (Str.ofString "least", .int 2 t4), (Str.ofString "w", .int k t3), (Str.ofString "base", .int q t2), (Str.ofString "a", .ref l)] [(l, listOf vs.toArray n)] B F X N T hf hk ?k6 ?k7 ?k8 ?k9 ?kB ?c2 ?c3 ?c4 ?c5 ?ca ?_)
  ktn_open
  case ca => exact List.forall_mem_cons.mpr ⟨hpre, List.forall_mem_nil _⟩
  intro g' L' h' tk' FG' F' N' B' X' T'
  have hnil : IntsAre [] [] := .nil
  try dsimp only [List.cons_append, List.nil_append] at N'
  (try k_fold)
  k_steps
  all_goals first
    | (exfalso; omega)
    | exact retL hret (by k_asm) (by k_asm) (by kcj_all) (by ktn_lt) (by assumption) rfl
    | trace_state
local macro_rules | `(tactic| walk_at "call ref") => `(tactic| (k_here; (with_reducible show wpAny _ _ (call (Value.ref 261) _) _ _ _); (k_dflt refine' gives_useL (lawlimbs_ok _ _ _ _ ?hV ?h3 ?h8) ?B ?F ?X ?N ?T ?hf ?hk ?hp ?hd ?hu ?_); ktr_unf; (case hp => trivial); (case h3 => assumption); (case h8 => assumption); (case hV => assumption); intro r9 vs9 n9 h9 tk9 F9 N9 l9 hi9; (try simp only [AllLt, and_true] at l9); (try k_sweep); (try dsimp only); (try k_fold)))
local macro_rules | `(tactic| walk_at "call ref") => `(tactic| (k_here; (with_reducible show wpAny _ _ (call (Value.ref 198) _) _ _ _); (k_dflt refine' gives_useL (td_ok _ _ _ _ _ _ _ _ _ ?hi ?hv ?h3 ?h8 ?h2 ?h7) ?B ?F ?X ?N ?T ?hf ?hk ?hp ?hd ?hu ?_); ktr_unf; (case hp => k_mem); (case hi => k_asm); (case hv => assumption); (case h3 => assumption); (case h8 => assumption); (case h2 => assumption); (case h7 => assumption); intro r9 vs9 n9 h9 tk9 F9 N9 l9 hi9; (try simp only [AllLt, and_true] at l9); (try k_sweep); (try dsimp only); (try k_fold)))
set_option maxHeartbeats 2000000 in
theorem told_ok (V q k : Nat) (t1 t2 t3 : Tok) (h17 : V ≤ 17) (h3 : 3 ≤ k) (h8 : k ≤ 8) (h2 : 2 ≤ q) (h7 : q ≤ 7) :
    Gives 287 7 [.int V t1, .int q t2, .int k t3] (fun _ => True) (IsL (digs q V)) := by
  have hfew := digs_few V (by omega) q (by omega) h2
  have hlv : (limbs k V).length ≤ 200 := Nat.le_trans (limbs_few V (by omega) k (by omega) h3) (by decide)
  have hfl : (digs q V).reverse.length ≤ 5 := by rw [List.length_reverse]; exact hfew
  unfold Gives
  intro c s Q E B F X N T hf hk hpre hd hu hret
  (k_dflt refine' enter [(Str.ofString "w", .int k t3), (Str.ofString "p", .int q t2), (Str.ofString "number", .int V t1)] [] B F X N T hf hk ?k6 ?k7 ?k8 ?k9 ?kB ?c2 ?c3 ?c4 ?c5 ?ca ?_)
  ktn_open
  case ca => exact List.forall_mem_nil _
  intro g' L' h' tk' FG' F' N' B' X' T'
  have hnil : IntsAre [] [] := .nil
  try dsimp only [List.cons_append, List.nil_append] at N'
  (try k_fold)
  repeat' (first | (k_unfold; (try dsimp only)) | (k_end; wrow_close) | ((fail_if_success (with_reducible show wpAny _ _ (subscriptTail _ _ _ _) _ _ _)); first | walk1 | (dsimp only; walk1) | (leave1; walk_say "STEP leave1"; try dsimp only)))
  walk_at "last subscriptTail"
  (k_dflt refine' krv_ints (s := { heap := _, gens := s.gens, drawn := s.drawn, toks := _, os := s.os }) ?F ?N ?l ?k ?i ?_ ?s ?t ?z)
  case F => k_asm
  case N => k_asm
  case l => kmk_list
  case k => exact IsPart.int _ _
  case i => l_ints
  case s => with_unfolding_all rfl
  case t => kmk_pure
  case z => kmk_size
  intro D' ws' h' F' N' l1 hI' hC'
  (try k_lt l1)
  (try k_sweep)
  k_steps
  exact retL hret (by k_asm) (by k_asm) (by kcj_all) (by ktn_lt) (by assumption) (List.reverse_reverse _)
end Mine
end
section
open PySem PySem.W PyProof.Rows PySem.Spec PySem.Calls
set_option maxRecDepth 100000
namespace Mine
theorem fmod_in {x : Int} {m : Nat} (h : 0 < m) : 0 ≤ x.fmod m ∧ x.fmod m < m := by
  rw [Int.fmod_eq_emod_of_nonneg _ (by omega)]
  exact ⟨Int.emod_nonneg _ (by omega), Int.emod_lt_of_pos _ (by omega)⟩
set_option maxHeartbeats 2000000 in
theorem summed_ok (c : Cx) (s : Shared) (Q E : Value → Shared → Prop) (lc li : Addr) (cn nn ni many : Nat) (tc tm : Tok) (vs : List Value) (xs : List Int) (rest : List (Addr × Obj)) (hnews : c.news = (lc, listOf [Value.int cn tc, .ref li].toArray nn) :: rest)
    (B : Below c.A₀ c.base c.outer c.h₀) (F : Fr c.h₀ c.L s.heap c.m) (X : (Mine.KK c.w.params).In c.h₀) (N : News c.h₀ c.L s.heap c.news) (T : Top c.p c.loose c.mean c.mg c.mb c.h₀)
    (hf : c.env.frame = some c.L) (hk : c.env.scope.kind = .function) (hd : c.dp + 1 < recursionLimit) (hu : c.un + 8 * 1 < cLine)
    (hm : (li, listOf vs.toArray ni) ∈ rest) (hoff : OwnOff rest [lc]) (hi : IntsAre vs xs) (hl : xs.length ≤ 3) (hcn : cn ≤ 2) (hm0 : 0 < many) (hm1 : many ≤ 15)
    (ret : ∀ r t n' tc' h' tk', 0 ≤ r ∧ r < (many : Int) → Fr c.h₀ c.L h' c.m → News c.h₀ c.L h' ((lc, listOf [Value.int ((cn : Int) + 1) tc', .ref li].toArray n') :: rest) → Q (.int r t) { s with heap := h', toks := tk' }) :
    wpAny (model c.prog c.w) c.A (call (.ref 254) [.ref lc, .int many tm]) Q E s := by
  have hli : @Ne Nat li lc := hoff _ hm _ (.head _)
  (k_dflt refine' enter [(Str.ofString "many", .int many tm), (Str.ofString "column", .ref lc)] [(li, listOf vs.toArray ni)] B F X N T hf hk ?k6 ?k7 ?k8 ?k9 ?kB ?c2 ?c3 ?c4 ?c5 ?ca ?_)
  ktn_open
  case ca => exact List.forall_mem_cons.mpr ⟨hnews ▸ List.mem_cons_of_mem _ hm, List.forall_mem_nil _⟩
  intro g' L' h' tk' FG' F' N' B' X' T'
  have hnil : IntsAre [] [] := .nil
  rw [hnews] at N'
  try dsimp only [List.cons_append, List.nil_append] at N'
  have hvl := hi.length
  have kMark : KstMark := kstMark
  (try k_fold)
  k_steps
  · rename_i kF kN z2 z1
    exact ret _ _ _ _ _ _ (fmod_in hm0) kF (fun p hp => kN p (List.mem_cons_of_mem _ hp))
  · rename_i kF kN z2 z1
    exact ret _ _ _ _ _ _ (fmod_in hm0) kF (fun p hp => kN p (List.mem_cons_of_mem _ hp))
theorem summed_use {prog : Program} {w : World} {p : Program} {loose : List Str} {mean : ExcName → Option Value} {mg mb : Str → Option Value} {dp un : Nat} {gd : Option (List Code)} {env : Env} {outer : List Env} {A₀ : Around} {base h₀ : Heap} {L : Addr} {m : Str → Option Value} {s : Shared} {Q E : Value → Shared → Prop}
    {lc li : Addr} {cn nn ni many : Nat} {tc tm : Tok} {vs : List Value} {xs : List Int} (rest : List (Addr × Obj))
    (B : Below A₀ base outer h₀) (F : Fr h₀ L s.heap m) (X : (Mine.KK w.params).In h₀) (N : News h₀ L s.heap ((lc, listOf [Value.int cn tc, .ref li].toArray nn) :: rest)) (T : Top p loose mean mg mb h₀)
    (hf : env.frame = some L) (hk : env.scope.kind = .function) (hd : dp + 1 < recursionLimit) (hu : un + 8 * 1 < cLine)
    (hm : (li, listOf vs.toArray ni) ∈ rest) (hoff : OwnOff rest [lc]) (hi : IntsAre vs xs) (hl : xs.length ≤ 3) (hcn : cn ≤ 2) (hm0 : 0 < many) (hm1 : many ≤ 15)
    (ret : ∀ r t n' tc' h' tk', 0 ≤ r ∧ r < (many : Int) → Fr h₀ L h' m → News h₀ L h' ((lc, listOf [Value.int ((cn : Int) + 1) tc', .ref li].toArray n') :: rest) → Q (.int r t) { s with heap := h', toks := tk' }) :
    wpAny (model prog w) { handled := none, depth := dp, frames := some (env :: outer), guards := gd, units := un } (call (.ref 254) [.ref lc, .int many tm]) Q E s :=
  summed_ok ⟨prog, w, p, loose, mean, mg, mb, dp, un, gd, env, outer, A₀, base, h₀, L, m, (lc, listOf [Value.int cn tc, .ref li].toArray nn) :: rest⟩ s Q E lc li cn nn ni many tc tm vs xs rest rfl B F X N T hf hk hd hu hm hoff hi hl hcn hm0 hm1 ret
end Mine
end
section
namespace Mine
def dig (q V i : Nat) : Nat := ((digs q V).getD i 0).toNat
def luc (q V W : Nat) : Nat → Nat
  | 0 => 1
  | i + 1 => luc q V W i * (if dig q W i ≤ dig q V i then chs (dig q V i) (dig q W i) else 0) % q
theorem digs_in : ∀ V : Nat, V < 18 → ∀ q : Nat, q < 8 → 2 ≤ q → ∀ x ∈ digs q V, 0 ≤ x ∧ x ≤ 6 := by decide +kernel
theorem prow_in : ∀ V : Nat, V < 18 → ∀ x ∈ prow V, 0 ≤ x ∧ x < 2 ^ 30 := by decide +kernel
@[reducible] def lawAll (q V W : Nat) : Prop :=
  luc q V W (digs q V).length = chs V W % q ∧ ((carr q W (V - W) : Nat) : Int) * ((q : Int) - 1) = (digs q W).sum + (digs q (V - W)).sum - (digs q V).sum ∧
  (∀ m : Nat, m < carr q W (V - W) → chs V W / q ^ m % q = 0) ∧ chs V W / q ^ carr q W (V - W) % q ≠ 0 ∧ carr q W (V - W) ≤ 30 ∧ 0 < chs V W ∧ chs V W < 2 ^ 30
theorem law_all : ∀ q ∈ [2, 3, 5, 7], ∀ V : Nat, V < 18 → ∀ W : Nat, W ≤ V → lawAll q V W := by
  decide +kernel
end Mine
end
local macro_rules | `(tactic| ktr_unf) => `(tactic| ((case B => k_asm); (case F => k_asm); (case X => k_asm); (case N => k_asm); (case T => k_asm); (case hf => k_dflt rfl); (case hk => k_dflt rfl); (case hd => k_dflt decide); (case hu => k_dflt decide)))
section
open PySem PySem.W PyProof.Rows PySem.Spec PySem.Calls
set_option maxRecDepth 100000
namespace Mine
def lawFD : Stmt := match PySem.Challenge.pw_xm0411_01.main.body[42]? with | some x => x | none => .Pass default
def lawSc : Scope := match lawFD with | .FunctionDef _ _ _ _ _ _ sc _ _ _ => sc | _ => default
def turnB : List Stmt := match lawFD with | .FunctionDef _ _ body _ _ _ _ _ _ _ => (match body with | _ :: _ :: _ :: _ :: .For _ _ b _ _ :: _ => b | _ => []) | _ => []
def innerB : List Stmt := match turnB with | _ :: _ :: _ :: _ :: .For _ _ b _ _ :: _ => b | _ => []
theorem via {P : List Stmt → Scope → Prop} {name : Str} {args : Arguments} {b0 b1 b2 b3 : Stmt} {tgt it : Expr} {turn els rest : List Stmt} {pos pos' : Pos} {x1 : List Expr} {x2 : Option Expr} {x3 : List TypeParam} {sc : Scope} {x4 : Option Scope} {x5 : Str}
    (h : PySem.Challenge.pw_xm0411_01.main.body[42]? = some (.FunctionDef name args (b0 :: b1 :: b2 :: b3 :: .For tgt it turn els pos :: rest) x1 x2 x3 sc x4 x5 pos')) (p : P turn sc) : P turnB lawSc := by
  unfold turnB lawSc lawFD
  rw [h]
  exact p
theorem via2 {P : List Stmt → Scope → Prop} {name : Str} {args : Arguments} {b0 b1 b2 b3 c0 c1 c2 c3 : Stmt} {tgt it tgt2 it2 : Expr} {inner els els2 rest rest2 : List Stmt} {pos pos' pos2 : Pos} {x1 : List Expr} {x2 : Option Expr} {x3 : List TypeParam} {sc : Scope} {x4 : Option Scope} {x5 : Str}
    (h : PySem.Challenge.pw_xm0411_01.main.body[42]? = some (.FunctionDef name args (b0 :: b1 :: b2 :: b3 :: .For tgt it (c0 :: c1 :: c2 :: c3 :: .For tgt2 it2 inner els2 pos2 :: rest2) els pos :: rest) x1 x2 x3 sc x4 x5 pos')) (p : P inner sc) : P innerB lawSc := by
  unfold innerB turnB lawSc lawFD
  rw [h]
  exact p
theorem fr_if {m : Str → Option Value} {x : Str} {v : Value} (h : m x = some v) : (fun y => if y = x then some v else m y) = m := by
  funext y
  by_cases e : y = x
  · rw [if_pos e, e, h]
  · rw [if_neg e]
theorem if_m {m : Str → Option Value} {x z : Str} {v : Value} {r : Option Value} (h : m x = some v) (e : r = m z) : (if z = x then some v else r) = m z := by
  by_cases hz : z = x
  · rw [if_pos hz, hz, h]
  · rw [if_neg hz, e]
theorem some_int {x y : Int} {t : Tok} (h : x = y) : some (Value.int x t) = some (Value.int y t) := by rw [h]
section
variable {prog : Program} {w : World} {A : Around} {E : Value → Shared → Prop} {s : Shared} {Q : Value → Shared → Prop} {value slice : PySem.Expr} {l : Addr} {vs : List Value} {x : Int} {u : Tok}
theorem chs_val {D j : Nat} (hD : D < 18) (hj : j ≤ D) : (prow D).getD j 0 = (chs D j : Int) := by
  have hl : j < (prow D).length := by rw [prow_len]; omega
  have := (prow_in D hD _ (List.getElem_mem hl)).1
  unfold chs
  rw [List.getD_eq_getElem?_getD, List.getElem?_eq_getElem hl, Option.getD_some]
  omega
theorem dig_val {q V j : Nat} (hV : V < 18) (h2 : 2 ≤ q) (h7 : q ≤ 7) (hj : j < (digs q V).length) : (digs q V).getD j 0 = (dig q V j : Int) := by
  have := (digs_in V hV q (by omega) h2 _ (List.getElem_mem hj)).1
  unfold dig
  rw [List.getD_eq_getElem?_getD, List.getElem?_eq_getElem hj, Option.getD_some]
  omega
theorem dig_le {q V : Nat} (hV : V < 18) (h2 : 2 ≤ q) (h7 : q ≤ 7) (j : Nat) : dig q V j ≤ 6 := by
  by_cases hj : j < (digs q V).length
  · have := (digs_in V hV q (by omega) h2 _ (List.getElem_mem hj)).2
    have e := dig_val hV h2 h7 hj
    rw [List.getD_eq_getElem?_getD, List.getElem?_eq_getElem hj, Option.getD_some] at e
    omega
  · unfold dig
    rw [List.getD_eq_getElem?_getD, List.getElem?_eq_none (by omega)]
    simp
theorem dig_out {q V j : Nat} (hj : (digs q V).length ≤ j) : dig q V j = 0 := by
  unfold dig
  rw [List.getD_eq_getElem?_getD, List.getElem?_eq_none hj]
  rfl
theorem luc_le {q V W : Nat} (h2 : 2 ≤ q) (h7 : q ≤ 7) : ∀ i, luc q V W i ≤ 7
  | 0 => by unfold luc; omega
  | i + 1 => by
    have := Nat.mod_lt (luc q V W i * (if dig q W i ≤ dig q V i then chs (dig q V i) (dig q W i) else 0)) (by omega : 0 < q)
    unfold luc
    omega
theorem small_bits {n : Nat} (h : n ≤ 7) : Builtin.Int.intBits (n : Int) ≤ 64 := by
  rcases (by omega : n = 0 ∨ n = 1 ∨ n = 2 ∨ n = 3 ∨ n = 4 ∨ n = 5 ∨ n = 6 ∨ n = 7) with rfl | rfl | rfl | rfl | rfl | rfl | rfl | rfl <;> decide
theorem luc_yes {q V W i : Nat} {x : Int} (h : dig q W i ≤ dig q V i) (hx : x = (chs (dig q V i) (dig q W i) : Nat)) : ((luc q V W i : Int) * x).fmod q = (luc q V W (i + 1) : Nat) := by
  rw [hx, Int.fmod_eq_emod_of_nonneg _ (by omega)]
  show _ = ((luc q V W i * (if dig q W i ≤ dig q V i then chs (dig q V i) (dig q W i) else 0) % q : Nat) : Int)
  rw [if_pos h, Int.natCast_emod, Int.natCast_mul]
theorem luc_no {q V W i : Nat} (h : ¬ dig q W i ≤ dig q V i) : ((luc q V W i : Int) * 0).fmod q = (luc q V W (i + 1) : Nat) := by
  rw [Int.fmod_eq_emod_of_nonneg _ (by omega)]
  show _ = ((luc q V W i * (if dig q W i ≤ dig q V i then chs (dig q V i) (dig q W i) else 0) % q : Nat) : Int)
  rw [if_neg h, Int.natCast_emod, Int.natCast_mul]
  rfl
theorem zero_cast : (0 : Int) = ((0 : Nat) : Int) := rfl
theorem item_row {D j : Nat} (hl : s.heap.IsList l vs.toArray) (hi : IntsAre vs (prow D)) (hx : x = (j : Int)) (hj : j ≤ D) (hD : D ≤ 17) (h : ∀ t, Q (.int (chs D j : Nat) t) s)
    (hs : subscripted slice false (.ref l) (.int x u) = operate [.ref l, .int x u] (getItem (.ref l) (.int x u)) := by with_unfolding_all rfl) :
    wpAny (model prog w) A (subscriptTail value slice (.ref l) (.int x u)) Q E s := by
  subst hx
  have hn := prow_len D
  refine item_anyK hl hi (by omega) (by omega) (by omega) (fun t => ?_) hs
  rw [Int.toNat_natCast, chs_val (by omega) hj]
  exact h t
theorem item_dig {q V j : Nat} (hl : s.heap.IsList l vs.toArray) (hi : IntsAre vs (digs q V)) (hx : x = (j : Int)) (hj : j < (digs q V).length) (hV : V ≤ 17) (h2 : 2 ≤ q) (h7 : q ≤ 7) (h : ∀ t, Q (.int (dig q V j : Nat) t) s)
    (hs : subscripted slice false (.ref l) (.int x u) = operate [.ref l, .int x u] (getItem (.ref l) (.int x u)) := by with_unfolding_all rfl) :
    wpAny (model prog w) A (subscriptTail value slice (.ref l) (.int x u)) Q E s := by
  subst hx
  have hf := digs_few V (by omega) q (by omega) h2
  refine item_anyK hl hi (by omega) (by omega) (by omega) (fun t => ?_) hs
  rw [Int.toNat_natCast, dig_val (by omega) h2 h7 hj]
  exact h t
end
local macro_rules | `(tactic| walk_at "mine item") => `(tactic| (k_here; (with_reducible show wpAny _ _ (subscriptTail _ _ (Value.ref _) (Value.int _ _)) _ _ _); (first
  | (with_unfolding_all refine' item_row ?k1 ?k2 ?k3 ?k4 ?k5 ?_ ?k6; (case k1 => is_list); (case k2 => with_reducible assumption); (case k3 => first | exact zero_cast | exact rfl); (case k4 => omega); (case k5 => omega); (case k6 => with_unfolding_all rfl))
  | (with_unfolding_all refine' item_dig ?k1 ?k2 ?k3 ?k4 ?k5 ?m2 ?m7 ?_ ?k6; (case k1 => is_list); (case k2 => with_reducible assumption); (case k3 => exact rfl); (case k4 => omega); (case k5 => omega); (case m2 => assumption); (case m7 => assumption); (case k6 => with_unfolding_all rfl))); intro _))
local macro_rules | `(tactic| walk_at "subscriptTail") => `(tactic| walk_at "mine item")
local macro_rules | `(tactic| walk_at "subscriptTail Name Name ref int") => `(tactic| walk_at "mine item")
def InnerT (b : List Stmt) (sc : Scope) : Prop :=
  ∀ (w : World) (p : Program) (loose : List Str) (mean : ExcName → Option Value) (mg mb : Str → Option Value) (g : Heap) (L fa : Addr) (cd : Value) (m : Str → Option Value) (news : List (Addr × Obj)) (s : Shared) (Q : Flow → Shared → Prop) (E : Value → Shared → Prop)
    (V W q i : Nat) (tq ti tr : Tok) (lw ld : Addr) (vw vd : List Value) (nw nd : Nat),
    2 ≤ q → q ≤ 7 → V ≤ 17 → W ≤ V → i < (digs q V).length →
    Below callerA g [] g → Fr g L s.heap m → (Mine.KK w.params).In g → News g L s.heap news → Top p loose mean mg mb g →
    m (Str.ofString "p") = some (.int q tq) → m (Str.ofString "at") = some (.int i ti) → m (Str.ofString "rest") = some (.int (luc q V W i : Nat) tr) →
    m (Str.ofString "whole") = some (.ref lw) → m (Str.ofString "digits") = some (.ref ld) →
    (lw, listOf vw.toArray nw) ∈ news → (ld, listOf vd.toArray nd) ∈ news → IntsAre vw (digs q V) → IntsAre vd (digs q W) →
    (∀ m' h' news' tk' t', Fr g L h' m' → News g L h' news' → (∀ x ∈ news, x ∈ news') → m' (Str.ofString "rest") = some (.int (luc q V W (i + 1) : Nat) t') →
      (∀ z, z ≠ Str.ofString "few" → z ≠ Str.ofString "rest" → m' z = m z) → Q .next { s with heap := h', toks := tk' }) →
    wpAny (model PySem.Challenge.rw_xm0411_01.row.prog w) (callerA.deeper (envOf (Str.ofString "law") sc L fa cd)) (execs b (envOf (Str.ofString "law") sc L fa cd)) Q E s
local macro_rules | `(tactic| walk_at "call ref") => `(tactic| (k_here; (with_reducible show wpAny _ _ (call (Value.ref 273) _) _ _ _); k_dflt (refine' gives_useL (row_ok _ _ ?h1) ?B ?F ?X ?N ?T ?hf ?hk ?hp ?hd ?hu ?_; ktr_unf; (case hp => trivial); (case h1 => omega)); intro r9 vs9 n9 h9 tk9 F9 N9 l9 hi9; (try k_sweep); (try dsimp only); (try k_fold)))
set_option maxHeartbeats 4000000 in
theorem inner_ok : InnerT innerB lawSc := by
  (k_dflt refine' via2 (P := InnerT) ?h ?p)
  case h => exact rfl
  unfold InnerT
  intro w p loose mean mg mb g L fa cd m news s Q E V W q i tq ti tr lw ld vw vd nw nd h2 h7 h17 hWV hil B F X N T mp ma mr mw md hmw hmd hiw hid ret
  rw [← fr_if mp, ← fr_if ma, ← fr_if mr, ← fr_if mw, ← fr_if md] at F
  (try dsimp only at F)
  have N2 : News g L s.heap ((lw, listOf vw.toArray nw) :: (ld, listOf vd.toArray nd) :: news) := fun x hx => by
    rcases List.mem_cons.mp hx with rfl | hx
    · exact N _ hmw
    · rcases List.mem_cons.mp hx with rfl | hx
      · exact N _ hmd
      · exact N _ hx
  have hnil : IntsAre [] [] := .nil
  have kMark : KstMark := kstMark
  have hwl := hiw.length
  have hdl := hid.length
  have hf1 := digs_few V (by omega) q (by omega) h2
  have hf2 := digs_few W (by omega) q (by omega) h2
  have hd1 := dig_le (V := V) (by omega) h2 h7 i
  have hd2 := dig_le (V := W) (by omega) h2 h7 i
  have hb := small_bits (luc_le (V := V) (W := W) h2 h7 i)
  clear N
  (try dsimp only)
  (try k_fold)
  k_steps
  · exact ret _ _ _ _ _ (by k_asm) (by k_asm) (by kcj_all) ((if_pos rfl).trans (some_int (luc_yes (by omega) rfl))) (fun z e1 e2 => (if_neg e2).trans ((if_neg e1).trans (if_m mp (if_m ma (if_m mr (if_m mw (if_m md rfl)))))))
  · exact ret _ _ _ _ _ (by k_asm) (by k_asm) (by kcj_all) ((if_pos rfl).trans (some_int (luc_no (by omega)))) (fun z e1 e2 => (if_neg e2).trans ((if_neg e1).trans (if_m mp (if_m ma (if_m mr (if_m mw (if_m md rfl)))))))
  · have e0 : dig q W i = 0 := dig_out (by omega)
    exact ret _ _ _ _ _ (by k_asm) (by k_asm) (by kcj_all) ((if_pos rfl).trans (some_int (luc_yes (by omega) (by rw [e0])))) (fun z e1 e2 => (if_neg e2).trans ((if_neg e1).trans (if_m mp (if_m ma (if_m mr (if_m mw (if_m md rfl)))))))
end Mine
end
section
open PySem PySem.W PyProof.Rows PySem.Spec PySem.Calls
set_option maxRecDepth 100000
namespace Mine
local macro_rules | `(tactic| walk_at "mine item") => `(tactic| (k_here; (with_reducible show wpAny _ _ (subscriptTail _ _ (Value.ref _) (Value.int _ _)) _ _ _); (first
  | (with_unfolding_all refine' item_row ?k1 ?k2 ?k3 ?k4 ?k5 ?_ ?k6; (case k1 => is_list); (case k2 => with_reducible assumption); (case k3 => first | exact zero_cast | exact rfl); (case k4 => omega); (case k5 => omega); (case k6 => with_unfolding_all rfl))
  | (with_unfolding_all refine' item_dig ?k1 ?k2 ?k3 ?k4 ?k5 ?m2 ?m7 ?_ ?k6; (case k1 => is_list); (case k2 => with_reducible assumption); (case k3 => exact rfl); (case k4 => omega); (case k5 => omega); (case m2 => assumption); (case m7 => assumption); (case k6 => with_unfolding_all rfl))); intro _))
local macro_rules | `(tactic| walk_at "subscriptTail") => `(tactic| walk_at "mine item")
local macro_rules | `(tactic| walk_at "subscriptTail Name Name ref int") => `(tactic| walk_at "mine item")
theorem sub_nat {prog : Program} {w : World} {A : Around} {E : Value → Shared → Prop} {s : Shared} {a b : Int} {n : Nat} {t u : Tok} {Q : Value → Shared → Prop} (e : a - b = (n : Int)) (h : Q (.int (n : Int) s.toks) { s with toks := s.toks + 1 }) : wpAny (model prog w) A (binaryOp .Sub (.int a t) (.int b u)) Q E s :=
  PyProof.Rows.sub_int (e ▸ h)
theorem lawworth_okV (l : Addr) (vs : List Value) (V n k : Nat) (t2 : Tok) (hi : IntsAre vs (limbs k V)) (hl : (limbs k V).length ≤ 200) (h3 : 3 ≤ k) (h8 : k ≤ 8) :
    Gives 268 1 [.ref l, .int k t2] (fun news => (l, listOf vs.toArray n) ∈ news) (IsI (V : Int)) := worth_limbs (V := V) (by omega : 0 < k) ▸ lawworth_ok l vs (limbs k V) n k t2 hi hl h3 h8
theorem limbs_div : ∀ (n k V : Nat), 3 ≤ k → V < 8 ^ n → (limbs k V).length ≤ n
  | 0, k, V, _, h => by
    have : V = 0 := by simp at h; omega
    subst this; exact Nat.le_refl _
  | n + 1, k, V, h3, h => by
    by_cases hv : V = 0
    · subst hv; exact Nat.zero_le _
    · rw [limbs_pos (by omega) (by omega), List.length_cons]
      have h8 : 8 ≤ 2 ^ k := Nat.le_trans (by decide : 8 ≤ 2 ^ 3) (Nat.pow_le_pow_right (by decide) h3)
      have h9 : V / 2 ^ k ≤ V / 8 := Nat.div_le_div_left h8 (by decide)
      have h10 : V / 8 < 8 ^ n := Nat.div_lt_of_lt_mul (by rw [Nat.pow_succ] at h; omega)
      exact Nat.succ_le_succ (limbs_div n k _ h3 (by omega))
theorem chs_limbs {V W k : Nat} (h3 : 3 ≤ k) (h : chs V W < 2 ^ 30) : (limbs k (chs V W)).length ≤ 200 := Nat.le_trans (limbs_div 10 k _ h3 (by omega)) (by decide)
local macro_rules | `(tactic| walk_at "call ref") => `(tactic| (k_here; first
  | ((with_reducible show wpAny _ _ (call (Value.ref 142) _) _ _ _); k_dflt (refine' gives_useL (bin_ok _ _ _ _ _ _ ?h1 ?h2 ?h4 ?h3 ?h8) ?B ?F ?X ?N ?T ?hf ?hk ?hp ?hd ?hu ?_; ktr_unf; (case hp => trivial); (case h1 => assumption); (case h2 => assumption); (case h4 => assumption); (case h3 => assumption); (case h8 => assumption)); intro r9 vs9 n9 h9 tk9 F9 N9 l9 hi9)
  | ((with_reducible show wpAny _ _ (call (Value.ref 268) _) _ _ _); k_dflt (refine' gives_useI (lawworth_okV _ _ _ _ _ _ ?hi ?hl ?h3 ?h8) ?B ?F ?X ?N ?T ?hf ?hk ?hp ?hd ?hu ?_; ktr_unf; (case hp => k_mem); (case hi => k_asm); (case hl => assumption); (case h3 => assumption); (case h8 => assumption)); intro t9 h9 tk9 F9 N9)
  | ((with_reducible show wpAny _ _ (call (Value.ref 287) _) _ _ _); k_dflt (refine' gives_useL (told_ok _ _ _ _ _ _ ?h1 ?h3 ?h8 ?h2 ?h7) ?B ?F ?X ?N ?T ?hf ?hk ?hp ?hd ?hu ?_; ktr_unf; (case hp => trivial); (case h1 => omega); (case h2 => assumption); (case h7 => assumption); (case h3 => assumption); (case h8 => assumption)); intro r9 vs9 n9 h9 tk9 F9 N9 l9 hi9)
  | ((with_reducible show wpAny _ _ (call (Value.ref 280) _) _ _ _); k_dflt (refine' gives_useI (carries_ok _ _ _ _ _ _ ?h2 ?h7) ?B ?F ?X ?N ?T ?hf ?hk ?hp ?hd ?hu ?_; ktr_unf; (case hp => trivial); (case h2 => assumption); (case h7 => omega)); intro t9 h9 tk9 F9 N9)
  ; (try k_sweep); (try dsimp only); (try k_fold)))
local macro_rules | `(tactic| walk_at "binaryOp Sub int int") => `(tactic| (k_here; refine' sub_nat ?e ?_; (case e => with_reducible assumption)))
def ValInv (q V W : Nat) (many kept : Int) : Prop := ∃ M : Nat, many = M ∧ M ≤ carr q W (V - W) ∧ kept = ((chs V W / q ^ M : Nat) : Int)
theorem val_start {q V W : Nat} : ValInv q V W 0 (chs V W : Nat) := ⟨0, rfl, Nat.zero_le _, by rw [Nat.pow_zero, Nat.div_one]⟩
theorem val_fmod {q : Nat} {x : Nat} : ((x : Int)).fmod q = ((x % q : Nat) : Int) := by rw [Int.fmod_eq_emod_of_nonneg _ (by omega)]; rfl
theorem val_fdiv {q : Nat} {x : Nat} : ((x : Int)).fdiv q = ((x / q : Nat) : Int) := by rw [Int.fdiv_eq_ediv_of_nonneg _ (by omega)]; rfl
theorem val_more {q V W : Nat} {many kept : Int} (hE : chs V W / q ^ carr q W (V - W) % q ≠ 0) (h : ValInv q V W many kept) (ht : kept.fmod q = 0) : ∃ M : Nat, many = M ∧ M < carr q W (V - W) ∧ kept = ((chs V W / q ^ M : Nat) : Int) := by
  obtain ⟨M, rfl, hM, rfl⟩ := h
  rw [val_fmod] at ht
  refine ⟨M, rfl, Nat.lt_of_le_of_ne hM (fun e => hE ?_), rfl⟩
  rw [← e]; omega
theorem val_turn {q V W : Nat} {many kept : Int} (hE : chs V W / q ^ carr q W (V - W) % q ≠ 0) (h : ValInv q V W many kept) (ht : kept.fmod q = 0) : ValInv q V W (many + 1) (kept.fdiv q) := by
  obtain ⟨M, rfl, hM, rfl⟩ := val_more hE h ht
  refine ⟨M + 1, rfl, hM, ?_⟩
  rw [val_fdiv, Nat.div_div_eq_div_mul, Nat.pow_succ]
theorem val_less {q V W : Nat} {many kept : Int} (hE : chs V W / q ^ carr q W (V - W) % q ≠ 0) (h : ValInv q V W many kept) (ht : kept.fmod q = 0) : carr q W (V - W) - (many + 1).toNat < carr q W (V - W) - many.toNat := by
  obtain ⟨M, rfl, hM, rfl⟩ := val_more hE h ht
  omega
theorem val_end {q V W : Nat} {many kept : Int} (hD : ∀ m : Nat, m < carr q W (V - W) → chs V W / q ^ m % q = 0) (h : ValInv q V W many kept) (ht : ¬ kept.fmod q = 0) : many = (carr q W (V - W) : Nat) := by
  obtain ⟨M, rfl, hM, rfl⟩ := h
  rw [val_fmod] at ht
  have : M = carr q W (V - W) := Nat.le_antisymm hM (Nat.le_of_not_lt fun hlt => ht (by rw [hD M hlt]; rfl))
  rw [this]
theorem sum_end {c : Nat} {many a S : Int} (e : many = (c : Int)) (h : (c : Int) * a = S) : many * a = S := by rw [e]; exact h
theorem q_bits {q : Nat} (h2 : 2 ≤ q) (h7 : q ≤ 7) : Builtin.Int.intBits ((q : Int) - 1) ≤ 64 := by
  rcases (by omega : q = 2 ∨ q = 3 ∨ q = 4 ∨ q = 5 ∨ q = 6 ∨ q = 7) with rfl | rfl | rfl | rfl | rfl | rfl <;> decide
def turnStored : List Str := ["ways", "digits", "left", "rest", "at", "few", "many", "kept"].map Str.ofString
def TurnT (b : List Stmt) (sc : Scope) : Prop :=
  ∀ (w : World) (p : Program) (loose : List Str) (mean : ExcName → Option Value) (mg mb : Str → Option Value) (g : Heap) (L fa : Addr) (cd : Value) (m : Str → Option Value) (news : List (Addr × Obj)) (s : Shared) (Q : Flow → Shared → Prop)
    (V W k q : Nat) (tV tW tk tq : Tok) (lr lw : Addr) (vr vw : List Value) (nr nw : Nat),
    q ∈ [2, 3, 5, 7] → 3 ≤ V → V ≤ 17 → W ≤ V → 3 ≤ k → k ≤ 8 →
    Below callerA g [] g → Fr g L s.heap m → (Mine.KK w.params).In g → News g L s.heap news → Top p loose mean mg mb g →
    m (Str.ofString "n") = some (.int V tV) → m (Str.ofString "k") = some (.int W tW) → m (Str.ofString "w") = some (.int k tk) → m (Str.ofString "p") = some (.int q tq) →
    m (Str.ofString "row") = some (.ref lr) → m (Str.ofString "whole") = some (.ref lw) →
    (lr, listOf vr.toArray nr) ∈ news → (lw, listOf vw.toArray nw) ∈ news → IntsAre vr (prow V) → IntsAre vw (digs q V) →
    (∀ m' h' news' tk', Fr g L h' m' → News g L h' news' → (∀ x ∈ news, x ∈ news') →
      (∀ z, turnStored.contains z = false → m' z = m z) → Q .next { s with heap := h', toks := tk' }) →
    wpAny (model PySem.Challenge.rw_xm0411_01.row.prog w) (callerA.deeper (envOf (Str.ofString "law") sc L fa cd)) (execs b (envOf (Str.ofString "law") sc L fa cd)) Q (fun _ _ => False) s
set_option maxHeartbeats 4000000 in
theorem turn_ok : TurnT turnB lawSc := by
  (k_dflt refine' via (P := TurnT) ?h ?p)
  case h => exact rfl
  unfold TurnT
  intro w p loose mean mg mb g L fa cd m news s Q V W k q tV tW tk tq lr lw vr vw nr nw hq h3v h17 hWV h3 h8 B F X N T mn mk mw mp mr mwh hmr hmw hir hiw ret
  rw [← fr_if mn, ← fr_if mk, ← fr_if mw, ← fr_if mp, ← fr_if mr, ← fr_if mwh] at F
  (try dsimp only at F)
  have h2 : 2 ≤ q := by simp only [List.mem_cons, List.not_mem_nil, or_false] at hq; omega
  have h7 : q ≤ 7 := by simp only [List.mem_cons, List.not_mem_nil, or_false] at hq; omega
  obtain ⟨aL, aS, aD, aE, aC, aP, aB⟩ := law_all q hq V (by omega) W hWV
  have hll : (limbs k (chs V W)).length ≤ 200 := chs_limbs h3 aB
  have N2 : News g L s.heap ((lr, listOf vr.toArray nr) :: (lw, listOf vw.toArray nw) :: news) := fun x hx => by
    rcases List.mem_cons.mp hx with rfl | hx
    · exact N _ hmr
    · rcases List.mem_cons.mp hx with rfl | hx
      · exact N _ hmw
      · exact N _ hx
  have hnil : IntsAre [] [] := .nil
  have kMark : KstMark := kstMark
  clear N
  have eU : (V : Int) - (W : Int) = ((V - W : Nat) : Int) := by omega
  have hrl : vr.length = V + 1 := hir.length.trans (prow_len V)
  have hwl := hiw.length
  have hf1 := digs_few V (by omega) q (by omega) h2
  have hf2 := digs_few W (by omega) q (by omega) h2
  have hf3 := digs_few (V - W) (by omega) q (by omega) h2
  (try dsimp only)
  (try k_fold)
  repeat' (first | (k_unfold; (try dsimp only)) | (k_end; wrow_close) | ((fail_if_success (with_reducible show wpAny _ _ (pyIter _) _ _ _)); first | walk1 | (dsimp only; walk1) | (leave1; walk_say "STEP leave1"; try dsimp only)))
  · exfalso; omega
  rename_i hR F0 N0 hst
  refine kst_range (σ := Nat × Tok) (fun _ => _) (fun c => [(Str.ofString "rest", .int (c.1 : Nat) c.2)]) (fun _ => True) [Str.ofString "few"] (fun pre c => c.1 = luc q V W pre.length) (1, _) rfl hR (small_one (by omega) (by omega) (by omega) (by omega)) (rangeSize_nat _ _) F0 N0 trivial (fun p hp => by rw [List.mem_singleton.mp hp]; rfl) rfl ?_ ?_
  · rintro ⟨r, tr⟩ pre k' t u h' tk' own hk9 hlt hoff - hP F9 N9
    dsimp only [kstB] at F9 hP
    subst hP
    obtain rfl : k' = ((pre.length : Nat) : Int) := by omega
    have hlt' : pre.length < (digs q V).length := by omega
    refine inner_ok w p loose mean mg mb g L fa cd _ _ _ _ _ V W q pre.length tq t tr lw _ vw _ nw _ h2 h7 h17 hWV hlt' B F9 X N9 T rfl rfl rfl rfl rfl (by k_mem) (by k_mem) hiw (by assumption) ?_
    intro m' h'' news' tk'' t' F' N' sub hr' hs'
    refine kst_end (luc q V W (pre.length + 1), t') F' N' (fun x hx => sub _ (List.mem_append_left _ hx)) (fun x hx => sub _ (List.mem_append_right _ hx)) rfl trivial (fun p hp => by rw [List.mem_singleton.mp hp]; exact hr') ?_ ?_
    · intro z z1 z2 z3
      have z4 : z ≠ Str.ofString "rest" := z2 _ (.head _)
      have z5 : z ≠ Str.ofString "few" := fun e => by rw [e] at z3; revert z3; decide
      exact (hs' z z5 z4).trans ((if_neg z1).trans ((if_neg z4).trans (if_neg (by rw [z3]; simp))))
    · show luc q V W (pre.length + 1) = _
      rw [List.length_append]; rfl
  · rintro ⟨r, tr⟩ u h' tk' - hP F9 N9
    dsimp only [kstB] at F9 hP
    change Fr g L _ _ at F9
    change News g L _ _ at N9
    rw [rangeKs_length] at hP
    have hr : r = chs V W % q := hP.trans (by rw [← aL]; congr 1)
    clear hP
    have eR : (chs V W : Int).fmod q = (r : Int) := by rw [hr, val_fmod]
    have hqb := q_bits h2 h7
    (k_with "exec While Compare cons nil" => k_while (fun _ many kept => ValInv q V W many kept) (fun _ many _ => carr q W (V - W) - many.toNat) "many" "kept")
    (k_with "state" => first | exact val_start | exact val_turn aE (by assumption) (by assumption))
    (k_with "measure" => exact val_less aE (by assumption) (by assumption))
    k_steps
    · exact absurd eR (by assumption)
    · exact absurd (val_end aD kInv (by assumption)) (by assumption)
    · exact absurd (sum_end (val_end aD kInv (by assumption)) aS) (by assumption)
    · refine ret _ _ _ _ (by k_asm) (by k_asm) (by kcj_all) ?_
      intro z hz
      simp only [turnStored, List.map_cons, List.map_nil, List.contains_cons, List.contains_nil, Bool.or_false, Bool.or_eq_false_iff, beq_eq_false_iff_ne, ne_eq] at hz
      obtain ⟨z1, z2, z3, z4, z5, z6, z7, z8⟩ := hz
      exact (if_neg z7).trans ((if_neg z8).trans ((if_neg Bool.false_ne_true).trans ((if_neg z7).trans ((if_neg z8).trans ((if_neg z5).trans ((if_neg z4).trans ((if_neg (fun e => z6 (by simpa using e))).trans ((if_neg z4).trans ((if_neg z2).trans ((if_neg z3).trans ((if_neg z1).trans (if_m mn (if_m mk (if_m mw (if_m mp (if_m mr (if_m mwh rfl)))))))))))))))))
end Mine
end
section
open PySem PySem.W PyProof.Rows PySem.Spec PySem.Calls
set_option maxRecDepth 100000
namespace Mine
def lawB : List Stmt := match lawFD with | .FunctionDef _ _ body _ _ _ _ _ _ _ => body | _ => []
theorem via0 {P : List Stmt → Scope → Prop} {name : Str} {args : Arguments} {body : List Stmt} {pos' : Pos} {x1 : List Expr} {x2 : Option Expr} {x3 : List TypeParam} {sc : Scope} {x4 : Option Scope} {x5 : Str}
    (h : PySem.Challenge.pw_xm0411_01.main.body[42]? = some (.FunctionDef name args body x1 x2 x3 sc x4 x5 pos')) (p : P body sc) : P lawB lawSc := by
  unfold lawB lawSc lawFD
  rw [h]
  exact p
theorem off_nil {a : Addr} : OwnOff [] [a] := fun _ h => nomatch h
theorem off_cons {x : Addr × Obj} {r : List (Addr × Obj)} {a : Addr} (h : @Ne Nat x.1 a) (hr : OwnOff r [a]) : OwnOff (x :: r) [a] := by
  intro p hp b hb
  rw [List.mem_singleton.mp hb]
  rcases List.mem_cons.mp hp with rfl | hp
  · exact h
  · exact hr p hp _ (.head _)
theorem news_swap {h₀ h : Heap} {L : Addr} {a b : Addr × Obj} {r : List (Addr × Obj)} (N : News h₀ L h (a :: b :: r)) : News h₀ L h (b :: a :: r) := by
  intro p hp
  rcases List.mem_cons.mp hp with rfl | hp
  · exact N _ (.tail _ (.head _))
  · rcases List.mem_cons.mp hp with rfl | hp
    · exact N _ (.head _)
    · exact N _ (.tail _ (.tail _ hp))
theorem add_nat {prog : Program} {w : World} {A : Around} {E : Value → Shared → Prop} {s : Shared} {a b : Int} {n : Nat} {t u : Tok} {Q : Value → Shared → Prop} (e : a + b = (n : Int)) (h : Q (.int (n : Int) s.toks) { s with toks := s.toks + 1 }) : wpAny (model prog w) A (binaryOp .Add (.int a t) (.int b u)) Q E s :=
  PyProof.Rows.add_int (e ▸ h)
local macro_rules | `(tactic| walk_at "call ref") => `(tactic| (k_here; first
  | ((with_reducible show wpAny _ _ (call (Value.ref 273) _) _ _ _); k_dflt (refine' gives_useL (row_ok _ _ ?h1) ?B ?F ?X ?N ?T ?hf ?hk ?hp ?hd ?hu ?_; ktr_unf; (case hp => trivial); (case h1 => omega)); intro r9 vs9 n9 h9 tk9 F9 N9 l9 hi9)
  | ((with_reducible show wpAny _ _ (call (Value.ref 287) _) _ _ _); k_dflt (refine' gives_useL (told_ok _ _ _ _ _ _ ?h1 ?h3 ?h8 ?h2 ?h7) ?B ?F ?X ?N ?T ?hf ?hk ?hp ?hd ?hu ?_; ktr_unf; (case hp => trivial); (case h1 => omega); (case h2 => assumption); (case h7 => assumption); (case h3 => assumption); (case h8 => assumption)); intro r9 vs9 n9 h9 tk9 F9 N9 l9 hi9)
  ; (try k_sweep); (try dsimp only); (try k_fold)))
theorem item_menu {prog : Program} {w : World} {A : Around} {E : Value → Shared → Prop} {s : Shared} {Q : Value → Shared → Prop} {value slice : PySem.Expr} {l : Addr} {k : Int} {u a b c d : Tok} (hl : s.heap.IsList l [Value.int 2 a, .int 3 b, .int 5 c, .int 7 d].toArray) (h0 : 0 ≤ k) (h1 : k < ((4 : Nat) : Int)) (h : ∀ q : Nat, q ∈ [2, 3, 5, 7] → ∀ t, Q (.int (q : Int) t) s)
    (hs : subscripted slice false (.ref l) (.int k u) = operate [.ref l, .int k u] (getItem (.ref l) (.int k u)) := by with_unfolding_all rfl) :
    wpAny (model prog w) A (subscriptTail value slice (.ref l) (.int k u)) Q E s :=
  pickK hl h0 h1 (by omega) ⟨fun _ => h 2 (by decide) a, fun _ => h 3 (by decide) b, fun _ => h 5 (by decide) c, fun _ => h 7 (by decide) d, trivial⟩ hs
local macro_rules | `(tactic| walk_at "binaryOp Add int int") => `(tactic| (k_here; refine' add_nat ?e ?_; (case e => with_reducible assumption)))
def BodyT (b : List Stmt) (sc : Scope) : Prop :=
  ∀ (w : World) (p : Program) (loose : List Str) (mean : ExcName → Option Value) (mg mb : Str → Option Value) (g : Heap) (L fa : Addr) (cd : Value) (m : Str → Option Value) (s : Shared) (Q : Flow → Shared → Prop)
    (ls : Addr) (vs : List Value) (ns : List Int),
    Below callerA g [] g → Fr g L s.heap m → (Mine.KK w.params).In g → Top p loose mean mg mb g →
    m (Str.ofString "script") = some (.ref ls) → g.IsList ls vs.toArray → IntsAre vs ns → ns.length ≤ 63 →
    (∀ m' h' news' tk', Fr g L h' m' → News g L h' news' → Q (.ret (.bool true)) { s with heap := h', toks := tk' }) →
    wpAny (model PySem.Challenge.rw_xm0411_01.row.prog w) (callerA.deeper (envOf (Str.ofString "law") sc L fa cd)) (execs b (envOf (Str.ofString "law") sc L fa cd)) Q (fun _ _ => False) s
set_option maxHeartbeats 4000000 in
theorem body_ok : BodyT lawB lawSc := by
  (k_dflt refine' via0 (P := BodyT) ?h ?p)
  case h => exact rfl
  unfold BodyT
  intro w p loose mean mg mb g L fa cd m s Q ls vs ns B F X T ms hls hin h63 ret
  rw [← fr_if ms] at F
  (try dsimp only at F)
  have N : News g L s.heap [] := fun _ hp => nomatch hp
  have hnil : IntsAre [] [] := .nil
  have kMark : KstMark := kstMark
  (try dsimp only)
  (try k_fold)
  repeat' (first | (k_unfold; (try dsimp only)) | (k_end; wrow_close) | ((fail_if_success (with_reducible show wpAny _ _ (call (Value.ref 254) _) _ _ _)); first | walk1 | (dsimp only; walk1) | (leave1; walk_say "STEP leave1"; try dsimp only)))
  rename_i hC8 hL80 hl80 hkl1 hkl2 g8 hI8 hL8 D h2 tk2 o1 l h1 l1 h0 F1 N1
  have hys : (List.map (fun k' : Int => if k' < 0 then -k' else k') (List.take 3 ns)).length ≤ 3 := by rw [List.length_map, List.length_take]; omega
  (k_dflt refine' summed_use (cn := 0) (many := 6) _ B F1 X N1 T rfl rfl (by decide) (by decide) (.head _) (off_cons (Nat.ne_of_lt l1.1) (off_cons (Nat.ne_of_lt l1.2) off_nil)) hI8 hys (by omega) (by omega) (by omega) ?_)
  intro r9 t9 n9 tc9 h9 tk9 hr9 F9 N9
  obtain ⟨R, rfl⟩ := Int.eq_ofNat_of_zero_le hr9.1
  have hR : R ≤ 5 := by omega
  have e3 : (3 : Int) + (R : Int) = ((3 + R : Nat) : Int) := by omega
  clear hr9 F1 N1
  (try k_sweep); (try dsimp only); (try k_fold)
  repeat' (first | (k_unfold; (try dsimp only)) | (k_end; wrow_close) | ((fail_if_success (with_reducible show wpAny _ _ (call (Value.ref 254) _) _ _ _)); first | walk1 | (dsimp only; walk1) | (leave1; walk_say "STEP leave1"; try dsimp only)))
  rename_i ml h3 F2 N2 l2
  (k_dflt refine' summed_use (cn := 1) (many := 4) _ B F2 X (news_swap N2) T rfl rfl (by decide) (by decide) (.tail _ (.head _)) (off_cons (Nat.ne_of_gt l2.1) (off_cons (Nat.ne_of_lt l1.1) (off_cons (Nat.ne_of_lt l1.2) off_nil))) hI8 hys (by omega) (by omega) (by omega) ?_)
  intro r9 t9 n9 tc9 h9 tk9 hr9 F9 N9
  (try k_sweep); (try dsimp only); (try k_fold)
  repeat' (first | (k_unfold; (try dsimp only)) | (k_end; wrow_close) | ((fail_if_success (with_reducible show wpAny _ _ (subscriptTail _ _ _ _) _ _ _)); first | walk1 | (dsimp only; walk1) | (leave1; walk_say "STEP leave1"; try dsimp only)))
  k_here
  (with_unfolding_all refine' item_menu ?k1 ?k2 ?k3 ?_ ?k6; (case k1 => is_list); (case k2 => exact hr9.1); (case k3 => exact hr9.2); (case k6 => with_unfolding_all rfl))
  intro q hq tq
  clear hr9
  repeat' (first | (k_unfold; (try dsimp only)) | (k_end; wrow_close) | ((fail_if_success (with_reducible show wpAny _ _ (call (Value.ref 254) _) _ _ _)); first | walk1 | (dsimp only; walk1) | (leave1; walk_say "STEP leave1"; try dsimp only)))
  rename_i D1 h3' l3 ha hb hc F3 N3
  (k_dflt refine' summed_use (cn := 2) (many := 15) _ B F3 X (news_swap N3) T rfl rfl (by decide) (by decide) (.tail _ (.tail _ (.head _))) (off_cons (Nat.ne_of_gt l3.1) (off_cons (Nat.ne_of_gt l2.1) (off_cons (Nat.ne_of_lt l1.1) (off_cons (Nat.ne_of_lt l1.2) off_nil)))) hI8 hys (by omega) (by omega) (by omega) ?_)
  intro r9 t9 n9 tc9 h9 tk9 hr9 F9 N9
  obtain ⟨R3, rfl⟩ := Int.eq_ofNat_of_zero_le hr9.1
  obtain ⟨V, hV⟩ : ∃ V : Nat, V = 3 + R3 := ⟨_, rfl⟩
  have e4 : (3 : Int) + (R3 : Int) = (V : Int) := by omega
  have hv3 : 3 ≤ V := by omega
  have hv17 : V ≤ 17 := by omega
  have h2 : 2 ≤ q := by simp only [List.mem_cons, List.not_mem_nil, or_false] at hq; omega
  have h7 : q ≤ 7 := by simp only [List.mem_cons, List.not_mem_nil, or_false] at hq; omega
  have hk3 : 3 ≤ 3 + R := by omega
  have hk8 : 3 + R ≤ 8 := by omega
  clear hr9 F3 N3 hV
  (try k_sweep); (try dsimp only); (try k_fold)
  repeat' (first | (k_unfold; (try dsimp only)) | (k_end; wrow_close) | ((fail_if_success (with_reducible show wpAny _ _ (pyIter _) _ _ _)); first | walk1 | (dsimp only; walk1) | (leave1; walk_say "STEP leave1"; try dsimp only)))
  rename_i hR0 F0 N0 hst
  refine kst_range (σ := Unit) (fun _ => _) (fun _ => []) (fun _ => True) turnStored (fun _ _ => True) () rfl hR0 (small_one (by omega) (by omega) (by omega) (by omega)) (rangeSize_nat _ _) F0 N0 trivial (fun _ hp => nomatch hp) trivial ?_ ?_
  · intro c pre k' t u h' tk' own hk9 hlt hoff _ _ F9 N9
    dsimp only [kstB] at F9
    change Fr g L _ _ at F9
    change News g L _ _ at N9
    obtain rfl : k' = ((pre.length : Nat) : Int) := by omega
    refine turn_ok w p loose mean mg mb g L fa cd _ _ _ _ V pre.length (3 + R) q _ _ _ _ _ _ _ _ _ _ hq hv3 hv17 (by omega) hk3 hk8 B F9 X N9 T rfl rfl rfl rfl rfl rfl (by k_mem) (by k_mem) (by assumption) (by assumption) ?_
    intro m' h'' news' tk'' F' N' sub hs'
    refine kst_end () F' N' (fun x hx => sub _ (List.mem_append_left _ hx)) (fun x hx => sub _ (List.mem_append_right _ hx)) rfl trivial (fun _ hp => nomatch hp) ?_ trivial
    intro z z1 _ z3
    exact (hs' z z3).trans ((if_neg z1).trans (if_neg (by rw [z3]; simp)))
  · intro c u h' tk' _ _ F9 N9
    dsimp only [kstB] at F9
    change Fr g L _ _ at F9
    change News g L _ _ at N9
    k_steps
    exact ret _ _ _ _ (by k_asm) (by k_asm)
end Mine
end
section
open PySem PySem.W PyProof.Rows
set_option maxRecDepth 100000
namespace Mine
/-- a def's own object beneath its code, out of the text's statement at place i -/
noncomputable def fnB (i : Nat) : Obj := match PySem.Challenge.pw_xm0411_01.main.body[i]? with
  | some (.FunctionDef name args body _ _ _ scope _ _ _) => { cls := .none, data := .func { name := name, qualname := name, params := args, body := .stmts body, scope := scope, globals := 0, closure := [], defaults := .none, kwdefaults := .none } }
  | _ => default
section
variable (P : Params)
noncomputable def ob2 : Obj := { cls := Value.none, data := Data.dict #[{ hash := PyData.keyHash P (Str.ofString "type.__subclasses__.Exception.0"), key := Value.str (Str.ofString "type.__subclasses__.Exception.0") 205, val := Value.int 24 0 }, { hash := PyData.keyHash P (Str.ofString "type.__subclasses__.Exception.n"), key := Value.str (Str.ofString "type.__subclasses__.Exception.n") 206, val := Value.int 1 0 }] 2 }
noncomputable def ob3 : Obj := { cls := Value.type "dict", data := Data.dict #[{ hash := PyData.keyHash P (Str.ofString "__name__"), key := Value.str (Str.ofString "__name__") 165, val := Value.str (Str.ofString "law_xm0411_01") 575 }, { hash := PyData.keyHash P (Str.ofString "__doc__"), key := Value.str (Str.ofString "__doc__") 166, val := Value.none }, { hash := PyData.keyHash P (Str.ofString "__package__"), key := Value.str (Str.ofString "__package__") 167, val := Value.none }, { hash := PyData.keyHash P (Str.ofString "__loader__"), key := Value.str (Str.ofString "__loader__") 168, val := Value.builtin "__main__.__loader__#opaque" }, { hash := PyData.keyHash P (Str.ofString "__spec__"), key := Value.str (Str.ofString "__spec__") 169, val := Value.none }, { hash := PyData.keyHash P (Str.ofString "__annotations__"), key := Value.str (Str.ofString "__annotations__") 170, val := Value.ref 6 }, { hash := PyData.keyHash P (Str.ofString "__builtins__"), key := Value.str (Str.ofString "__builtins__") 171, val := Value.ref 4 }, { hash := PyData.keyHash P (Str.ofString "__file__"), key := Value.str (Str.ofString "__file__") 173, val := Value.str (Str.ofString "/claim/cut.py") 172 }, { hash := PyData.keyHash P (Str.ofString "__cached__"), key := Value.str (Str.ofString "__cached__") 174, val := Value.none }, { hash := PyData.keyHash P (Str.ofString "GmpError"), key := Value.str (Str.ofString "GmpError") 208, val := Value.ref 24 }, { hash := PyData.keyHash P (Str.ofString "DivisionByZero"), key := Value.str (Str.ofString "DivisionByZero") 224, val := Value.ref 37 }, { hash := PyData.keyHash P (Str.ofString "OutOfRange"), key := Value.str (Str.ofString "OutOfRange") 240, val := Value.ref 49 }, { hash := PyData.keyHash P (Str.ofString "normal"), key := Value.str (Str.ofString "normal") 248, val := Value.ref 58 }, { hash := PyData.keyHash P (Str.ofString "nat_of"), key := Value.str (Str.ofString "nat_of") 258, val := Value.ref 65 }, { hash := PyData.keyHash P (Str.ofString "compare"), key := Value.str (Str.ofString "compare") 267, val := Value.ref 72 }, { hash := PyData.keyHash P (Str.ofString "divrem_limb"), key := Value.str (Str.ofString "divrem_limb") 279, val := Value.ref 79 }, { hash := PyData.keyHash P (Str.ofString "shift_left"), key := Value.str (Str.ofString "shift_left") 294, val := Value.ref 86 }, { hash := PyData.keyHash P (Str.ofString "shift_right"), key := Value.str (Str.ofString "shift_right") 309, val := Value.ref 93 }, { hash := PyData.keyHash P (Str.ofString "bits"), key := Value.str (Str.ofString "bits") 317, val := Value.ref 100 }, { hash := PyData.keyHash P (Str.ofString "sieve"), key := Value.str (Str.ofString "sieve") 330, val := Value.ref 107 }, { hash := PyData.keyHash P (Str.ofString "need_count"), key := Value.str (Str.ofString "need_count") 337, val := Value.ref 114 }, { hash := PyData.keyHash P (Str.ofString "power_of_count"), key := Value.str (Str.ofString "power_of_count") 349, val := Value.ref 121 }, { hash := PyData.keyHash P (Str.ofString "product_of_powers"), key := Value.str (Str.ofString "product_of_powers") 359, val := Value.ref 128 }, { hash := PyData.keyHash P (Str.ofString "factorial_exponent"), key := Value.str (Str.ofString "factorial_exponent") 368, val := Value.ref 135 }, { hash := PyData.keyHash P (Str.ofString "binomial"), key := Value.str (Str.ofString "binomial") 381, val := Value.ref 142 }, { hash := PyData.keyHash P (Str.ofString "plain_of"), key := Value.str (Str.ofString "plain_of") 393, val := Value.ref 149 }, { hash := PyData.keyHash P (Str.ofString "check_base"), key := Value.str (Str.ofString "check_base") 400, val := Value.ref 156 }, { hash := PyData.keyHash P (Str.ofString "digit_off"), key := Value.str (Str.ofString "digit_off") 412, val := Value.ref 163 }, { hash := PyData.keyHash P (Str.ofString "digits_plain"), key := Value.str (Str.ofString "digits_plain") 424, val := Value.ref 170 }, { hash := PyData.keyHash P (Str.ofString "base_powers"), key := Value.str (Str.ofString "base_powers") 436, val := Value.ref 177 }, { hash := PyData.keyHash P (Str.ofString "with_noughts"), key := Value.str (Str.ofString "with_noughts") 444, val := Value.ref 184 }, { hash := PyData.keyHash P (Str.ofString "digits_by_powers"), key := Value.str (Str.ofString "digits_by_powers") 462, val := Value.ref 191 }, { hash := PyData.keyHash P (Str.ofString "to_digits"), key := Value.str (Str.ofString "to_digits") 475, val := Value.ref 198 }, { hash := PyData.keyHash P (Str.ofString "mul_school"), key := Value.str (Str.ofString "mul_school") 493, val := Value.ref 205 }, { hash := PyData.keyHash P (Str.ofString "divrem_small"), key := Value.str (Str.ofString "divrem_small") 504, val := Value.ref 212 }, { hash := PyData.keyHash P (Str.ofString "guessed_limb"), key := Value.str (Str.ofString "guessed_limb") 518, val := Value.ref 219 }, { hash := PyData.keyHash P (Str.ofString "take_away"), key := Value.str (Str.ofString "take_away") 534, val := Value.ref 226 }, { hash := PyData.keyHash P (Str.ofString "put_back"), key := Value.str (Str.ofString "put_back") 548, val := Value.ref 233 }, { hash := PyData.keyHash P (Str.ofString "divide_rows"), key := Value.str (Str.ofString "divide_rows") 561, val := Value.ref 240 }, { hash := PyData.keyHash P (Str.ofString "divrem_school"), key := Value.str (Str.ofString "divrem_school") 574, val := Value.ref 247 }, { hash := PyData.keyHash P (Str.ofString "_law_summed"), key := Value.str (Str.ofString "_law_summed") 584, val := Value.ref 254 }, { hash := PyData.keyHash P (Str.ofString "_law_limbs"), key := Value.str (Str.ofString "_law_limbs") 593, val := Value.ref 261 }, { hash := PyData.keyHash P (Str.ofString "_law_worth"), key := Value.str (Str.ofString "_law_worth") 603, val := Value.ref 268 }, { hash := PyData.keyHash P (Str.ofString "_law_row"), key := Value.str (Str.ofString "_law_row") 609, val := Value.ref 273 }, { hash := PyData.keyHash P (Str.ofString "_law_carries"), key := Value.str (Str.ofString "_law_carries") 620, val := Value.ref 280 }, { hash := PyData.keyHash P (Str.ofString "_law_told"), key := Value.str (Str.ofString "_law_told") 629, val := Value.ref 287 }, { hash := PyData.keyHash P (Str.ofString "law"), key := Value.str (Str.ofString "law") 635, val := Value.ref 292 }] 47 }
noncomputable def ob11 : Obj := { cls := Value.type "tuple", data := Data.seq #[] }
noncomputable def ob12 : Obj := { cls := Value.none, data := Data.fields #[Value.int 2 0, Value.int 0 0, Value.ref 20, Value.int 4 0, Value.int 0 0, Value.ref 33, Value.int 6 0, Value.int 0 0, Value.ref 45, Value.int 8 0, Value.int 0 0, Value.ref 57, Value.int 13 0, Value.int 0 0, Value.ref 64, Value.int 21 0, Value.int 0 0, Value.ref 71, Value.int 28 0, Value.int 0 0, Value.ref 78, Value.int 37 0, Value.int 0 0, Value.ref 85, Value.int 49 0, Value.int 0 0, Value.ref 92, Value.int 56 0, Value.int 0 0, Value.ref 99, Value.int 59 0, Value.int 0 0, Value.ref 106, Value.int 68 0, Value.int 0 0, Value.ref 113, Value.int 71 0, Value.int 0 0, Value.ref 120, Value.int 80 0, Value.int 0 0, Value.ref 127, Value.int 87 0, Value.int 0 0, Value.ref 134, Value.int 93 0, Value.int 0 0, Value.ref 141, Value.int 105 0, Value.int 0 0, Value.ref 148, Value.int 110 0, Value.int 0 0, Value.ref 155, Value.int 113 0, Value.int 0 0, Value.ref 162, Value.int 118 0, Value.int 0 0, Value.ref 169, Value.int 125 0, Value.int 0 0, Value.ref 176, Value.int 131 0, Value.int 0 0, Value.ref 183, Value.int 133 0, Value.int 0 0, Value.ref 190, Value.int 142 0, Value.int 0 0, Value.ref 197, Value.int 147 0, Value.int 0 0, Value.ref 204, Value.int 157 0, Value.int 0 0, Value.ref 211, Value.int 160 0, Value.int 0 0, Value.ref 218, Value.int 168 0, Value.int 0 0, Value.ref 225, Value.int 177 0, Value.int 0 0, Value.ref 232, Value.int 184 0, Value.int 0 0, Value.ref 239, Value.int 194 0, Value.int 0 0, Value.ref 246, Value.int 208 0, Value.int 0 0, Value.ref 253, Value.int 213 0, Value.int 0 0, Value.ref 260, Value.int 219 0, Value.int 0 0, Value.ref 267, Value.int 224 0, Value.int 0 0, Value.ref 272, Value.int 229 0, Value.int 0 0, Value.ref 279, Value.int 235 0, Value.int 0 0, Value.ref 286, Value.int 237 0, Value.int 0 0, Value.ref 291] }
noncomputable def ob13 : Obj := { cls := Value.type "code", data := Data.fields #[Value.str (Str.ofString "<module>") 182, Value.str (Str.ofString "<module>") 183, Value.str (Str.ofString "/claim/cut.py") 184, Value.int 1 0, Value.int 0 0, Value.int 0 0, Value.int 0 0, Value.int 0 0, Value.ref 11, Value.bool false, Value.int 181 0, Value.ref 12, Value.none, Value.none, Value.none, Value.none, Value.int 185 0, Value.int 1 0, Value.str (Str.ofString "/claim/cut.py") 186] }
noncomputable def ob14 : Obj := { cls := Value.type "frame", slots := #[some (Value.ref 13), some (Value.ref 3), some (Value.ref 3), none, some (Value.str (Str.ofString "__main__") 164), none, some (Value.ref 0)] }
noncomputable def ob15 : Obj := { cls := Value.type "tuple", data := Data.seq #[Value.type "Exception"] }
noncomputable def ob16 : Obj := { cls := Value.type "builtin_function_or_method", data := Data.fields #[Value.builtin "type.__prepare__", Value.type "type"] }
noncomputable def ob17 : Obj := { cls := Value.type "dict", data := Data.dict #[{ hash := PyData.keyHash P (Str.ofString "__module__"), key := Value.str (Str.ofString "__module__") 196, val := Value.str (Str.ofString "gmp.limbs") 187 }, { hash := PyData.keyHash P (Str.ofString "__qualname__"), key := Value.str (Str.ofString "__qualname__") 198, val := Value.str (Str.ofString "GmpError") 197 }, { hash := PyData.keyHash P (Str.ofString "__firstlineno__"), key := Value.str (Str.ofString "__firstlineno__") 200, val := Value.int 2 199 }, { hash := PyData.keyHash P (Str.ofString "__static_attributes__"), key := Value.str (Str.ofString "__static_attributes__") 201, val := Value.ref 22 }] 4 }
noncomputable def ob18 : Obj := { cls := Value.type "tuple", data := Data.seq #[] }
noncomputable def ob19 : Obj := { cls := Value.none, data := Data.fields #[] }
noncomputable def ob20 : Obj := { cls := Value.type "code", data := Data.fields #[Value.str (Str.ofString "GmpError") 191, Value.str (Str.ofString "GmpError") 192, Value.str (Str.ofString "/claim/cut.py") 193, Value.int 2 0, Value.int 0 0, Value.int 0 0, Value.int 0 0, Value.int 0 0, Value.ref 18, Value.bool false, Value.int 181 0, Value.ref 19, Value.none, Value.none, Value.none, Value.none, Value.int 194 0, Value.int 2 0, Value.str (Str.ofString "/claim/cut.py") 195] }
noncomputable def ob21 : Obj := { cls := Value.type "frame", slots := #[some (Value.ref 20), some (Value.ref 3), some (Value.ref 17), none, some (Value.str (Str.ofString "gmp.limbs") 187), none, some (Value.ref 0)] }
noncomputable def ob22 : Obj := { cls := Value.type "tuple", data := Data.seq #[] }
noncomputable def ob23 : Obj := { cls := Value.type "dict", data := Data.dict #[{ hash := PyData.keyHash P (Str.ofString "__module__"), key := Value.str (Str.ofString "__module__") 196, val := Value.str (Str.ofString "gmp.limbs") 187 }, { hash := PyData.keyHash P (Str.ofString "__firstlineno__"), key := Value.str (Str.ofString "__firstlineno__") 200, val := Value.int 2 199 }, { hash := PyData.keyHash P (Str.ofString "__static_attributes__"), key := Value.str (Str.ofString "__static_attributes__") 201, val := Value.ref 22 }, { hash := PyData.keyHash P (Str.ofString "__weakref__"), key := Value.str (Str.ofString "__weakref__") 203, val := Value.ref 25 }, { hash := PyData.keyHash P (Str.ofString "__doc__"), key := Value.str (Str.ofString "__doc__") 204, val := Value.none }] 3 }
noncomputable def ob24 : Obj := { cls := Value.type "type", data := Data.cls { name := Str.ofString "GmpError", bases := [Value.type "Exception"], mro := [Value.ref 24, Value.type "Exception", Value.type "BaseException", Value.type "object"], ns := 23, qualname := Str.ofString "GmpError", subclasses := [Value.ref 37, Value.ref 49] }, slots := #[some (Value.ref 15), none, some (Value.str (Str.ofString "GmpError") 189), some (Value.str (Str.ofString "GmpError") 197), some (Value.builtin "Exception.__new__"), some (Value.bool true)] }
noncomputable def ob25 : Obj := { cls := Value.type "getset_descriptor", data := Data.fields #[Value.str (Str.ofString "__weakref__") 202, Value.ref 24, Value.builtin "ExceptionGroup.__weakref__", Value.none] }
noncomputable def ob26 : Obj := { cls := Value.type "super", data := Data.fields #[Value.ref 24, Value.ref 24, Value.ref 24] }
noncomputable def ob27 : Obj := { cls := Value.type "builtin_function_or_method", data := Data.fields #[Value.builtin "object.__init_subclass__", Value.ref 24] }
noncomputable def ob28 : Obj := { cls := Value.type "tuple", data := Data.seq #[Value.ref 24] }
noncomputable def ob29 : Obj := { cls := Value.type "builtin_function_or_method", data := Data.fields #[Value.builtin "type.__prepare__", Value.type "type"] }
noncomputable def ob30 : Obj := { cls := Value.type "dict", data := Data.dict #[{ hash := PyData.keyHash P (Str.ofString "__module__"), key := Value.str (Str.ofString "__module__") 216, val := Value.str (Str.ofString "gmp.limbs") 187 }, { hash := PyData.keyHash P (Str.ofString "__qualname__"), key := Value.str (Str.ofString "__qualname__") 218, val := Value.str (Str.ofString "DivisionByZero") 217 }, { hash := PyData.keyHash P (Str.ofString "__firstlineno__"), key := Value.str (Str.ofString "__firstlineno__") 220, val := Value.int 4 219 }, { hash := PyData.keyHash P (Str.ofString "__static_attributes__"), key := Value.str (Str.ofString "__static_attributes__") 221, val := Value.ref 35 }] 4 }
noncomputable def ob31 : Obj := { cls := Value.type "tuple", data := Data.seq #[] }
noncomputable def ob32 : Obj := { cls := Value.none, data := Data.fields #[] }
noncomputable def ob33 : Obj := { cls := Value.type "code", data := Data.fields #[Value.str (Str.ofString "DivisionByZero") 211, Value.str (Str.ofString "DivisionByZero") 212, Value.str (Str.ofString "/claim/cut.py") 213, Value.int 4 0, Value.int 0 0, Value.int 0 0, Value.int 0 0, Value.int 0 0, Value.ref 31, Value.bool false, Value.int 181 0, Value.ref 32, Value.none, Value.none, Value.none, Value.none, Value.int 214 0, Value.int 4 0, Value.str (Str.ofString "/claim/cut.py") 215] }
noncomputable def ob34 : Obj := { cls := Value.type "frame", slots := #[some (Value.ref 33), some (Value.ref 3), some (Value.ref 30), none, some (Value.str (Str.ofString "gmp.limbs") 187), none, some (Value.ref 0)] }
noncomputable def ob35 : Obj := { cls := Value.type "tuple", data := Data.seq #[] }
noncomputable def ob36 : Obj := { cls := Value.type "dict", data := Data.dict #[{ hash := PyData.keyHash P (Str.ofString "__module__"), key := Value.str (Str.ofString "__module__") 216, val := Value.str (Str.ofString "gmp.limbs") 187 }, { hash := PyData.keyHash P (Str.ofString "__firstlineno__"), key := Value.str (Str.ofString "__firstlineno__") 220, val := Value.int 4 219 }, { hash := PyData.keyHash P (Str.ofString "__static_attributes__"), key := Value.str (Str.ofString "__static_attributes__") 221, val := Value.ref 35 }, { hash := PyData.keyHash P (Str.ofString "__doc__"), key := Value.str (Str.ofString "__doc__") 222, val := Value.none }] 2 }
noncomputable def ob37 : Obj := { cls := Value.type "type", data := Data.cls { name := Str.ofString "DivisionByZero", bases := [Value.ref 24], mro := [Value.ref 37, Value.ref 24, Value.type "Exception", Value.type "BaseException", Value.type "object"], ns := 36, qualname := Str.ofString "DivisionByZero" }, slots := #[some (Value.ref 28), none, some (Value.str (Str.ofString "DivisionByZero") 209), some (Value.str (Str.ofString "DivisionByZero") 217), some (Value.builtin "Exception.__new__"), some (Value.bool true)] }
noncomputable def ob38 : Obj := { cls := Value.type "super", data := Data.fields #[Value.ref 37, Value.ref 37, Value.ref 37] }
noncomputable def ob39 : Obj := { cls := Value.type "builtin_function_or_method", data := Data.fields #[Value.builtin "object.__init_subclass__", Value.ref 37] }
noncomputable def ob40 : Obj := { cls := Value.type "tuple", data := Data.seq #[Value.ref 24] }
noncomputable def ob41 : Obj := { cls := Value.type "builtin_function_or_method", data := Data.fields #[Value.builtin "type.__prepare__", Value.type "type"] }
noncomputable def ob42 : Obj := { cls := Value.type "dict", data := Data.dict #[{ hash := PyData.keyHash P (Str.ofString "__module__"), key := Value.str (Str.ofString "__module__") 232, val := Value.str (Str.ofString "gmp.limbs") 187 }, { hash := PyData.keyHash P (Str.ofString "__qualname__"), key := Value.str (Str.ofString "__qualname__") 234, val := Value.str (Str.ofString "OutOfRange") 233 }, { hash := PyData.keyHash P (Str.ofString "__firstlineno__"), key := Value.str (Str.ofString "__firstlineno__") 236, val := Value.int 6 235 }, { hash := PyData.keyHash P (Str.ofString "__static_attributes__"), key := Value.str (Str.ofString "__static_attributes__") 237, val := Value.ref 47 }] 4 }
noncomputable def ob43 : Obj := { cls := Value.type "tuple", data := Data.seq #[] }
noncomputable def ob44 : Obj := { cls := Value.none, data := Data.fields #[] }
noncomputable def ob45 : Obj := { cls := Value.type "code", data := Data.fields #[Value.str (Str.ofString "OutOfRange") 227, Value.str (Str.ofString "OutOfRange") 228, Value.str (Str.ofString "/claim/cut.py") 229, Value.int 6 0, Value.int 0 0, Value.int 0 0, Value.int 0 0, Value.int 0 0, Value.ref 43, Value.bool false, Value.int 181 0, Value.ref 44, Value.none, Value.none, Value.none, Value.none, Value.int 230 0, Value.int 6 0, Value.str (Str.ofString "/claim/cut.py") 231] }
noncomputable def ob46 : Obj := { cls := Value.type "frame", slots := #[some (Value.ref 45), some (Value.ref 3), some (Value.ref 42), none, some (Value.str (Str.ofString "gmp.limbs") 187), none, some (Value.ref 0)] }
noncomputable def ob47 : Obj := { cls := Value.type "tuple", data := Data.seq #[] }
noncomputable def ob48 : Obj := { cls := Value.type "dict", data := Data.dict #[{ hash := PyData.keyHash P (Str.ofString "__module__"), key := Value.str (Str.ofString "__module__") 232, val := Value.str (Str.ofString "gmp.limbs") 187 }, { hash := PyData.keyHash P (Str.ofString "__firstlineno__"), key := Value.str (Str.ofString "__firstlineno__") 236, val := Value.int 6 235 }, { hash := PyData.keyHash P (Str.ofString "__static_attributes__"), key := Value.str (Str.ofString "__static_attributes__") 237, val := Value.ref 47 }, { hash := PyData.keyHash P (Str.ofString "__doc__"), key := Value.str (Str.ofString "__doc__") 238, val := Value.none }] 2 }
noncomputable def ob49 : Obj := { cls := Value.type "type", data := Data.cls { name := Str.ofString "OutOfRange", bases := [Value.ref 24], mro := [Value.ref 49, Value.ref 24, Value.type "Exception", Value.type "BaseException", Value.type "object"], ns := 48, qualname := Str.ofString "OutOfRange" }, slots := #[some (Value.ref 40), none, some (Value.str (Str.ofString "OutOfRange") 225), some (Value.str (Str.ofString "OutOfRange") 233), some (Value.builtin "Exception.__new__"), some (Value.bool true)] }
noncomputable def ob50 : Obj := { cls := Value.type "super", data := Data.fields #[Value.ref 49, Value.ref 49, Value.ref 49] }
noncomputable def ob51 : Obj := { cls := Value.type "builtin_function_or_method", data := Data.fields #[Value.builtin "object.__init_subclass__", Value.ref 49] }
noncomputable def ob52 : Obj := { cls := Value.type "tuple", data := Data.seq #[] }
noncomputable def ob53 : Obj := { cls := Value.none, data := Data.fields #[] }
noncomputable def ob54 : Obj := { cls := Value.type "tuple", data := Data.seq #[Value.str (Str.ofString "a") 244, Value.str (Str.ofString "end") 245] }
noncomputable def ob55 : Obj := { cls := Value.type "tuple", data := Data.seq #[] }
noncomputable def ob56 : Obj := fnB 4
noncomputable def ob57 : Obj := { cls := Value.type "code", data := Data.fields #[Value.str (Str.ofString "normal") 241, Value.str (Str.ofString "normal") 242, Value.str (Str.ofString "/claim/cut.py") 243, Value.int 8 0, Value.int 1 0, Value.int 0 0, Value.int 0 0, Value.int 3 0, Value.ref 52, Value.bool true, Value.int 181 0, Value.ref 53, Value.none, Value.ref 54, Value.ref 55, Value.ref 56, Value.int 246 0, Value.int 8 0, Value.str (Str.ofString "/claim/cut.py") 247] }
noncomputable def ob58 : Obj := fnO 4 (Value.str (Str.ofString "gmp.limbs") 187) 57
noncomputable def ob59 : Obj := { cls := Value.type "tuple", data := Data.seq #[] }
noncomputable def ob60 : Obj := { cls := Value.none, data := Data.fields #[] }
noncomputable def ob61 : Obj := { cls := Value.type "tuple", data := Data.seq #[Value.str (Str.ofString "number") 252, Value.str (Str.ofString "w") 253, Value.str (Str.ofString "found") 254, Value.str (Str.ofString "mask") 255] }
noncomputable def ob62 : Obj := { cls := Value.type "tuple", data := Data.seq #[] }
noncomputable def ob63 : Obj := fnB 5
noncomputable def ob64 : Obj := { cls := Value.type "code", data := Data.fields #[Value.str (Str.ofString "nat_of") 249, Value.str (Str.ofString "nat_of") 250, Value.str (Str.ofString "/claim/cut.py") 251, Value.int 13 0, Value.int 2 0, Value.int 0 0, Value.int 0 0, Value.int 3 0, Value.ref 59, Value.bool true, Value.int 181 0, Value.ref 60, Value.none, Value.ref 61, Value.ref 62, Value.ref 63, Value.int 256 0, Value.int 13 0, Value.str (Str.ofString "/claim/cut.py") 257] }
noncomputable def ob65 : Obj := fnO 5 (Value.str (Str.ofString "gmp.limbs") 187) 64
noncomputable def ob66 : Obj := { cls := Value.type "tuple", data := Data.seq #[] }
noncomputable def ob67 : Obj := { cls := Value.none, data := Data.fields #[] }
noncomputable def ob68 : Obj := { cls := Value.type "tuple", data := Data.seq #[Value.str (Str.ofString "a") 262, Value.str (Str.ofString "b") 263, Value.str (Str.ofString "at") 264] }
noncomputable def ob69 : Obj := { cls := Value.type "tuple", data := Data.seq #[] }
noncomputable def ob70 : Obj := fnB 6
noncomputable def ob71 : Obj := { cls := Value.type "code", data := Data.fields #[Value.str (Str.ofString "compare") 259, Value.str (Str.ofString "compare") 260, Value.str (Str.ofString "/claim/cut.py") 261, Value.int 21 0, Value.int 2 0, Value.int 0 0, Value.int 0 0, Value.int 3 0, Value.ref 66, Value.bool true, Value.int 181 0, Value.ref 67, Value.none, Value.ref 68, Value.ref 69, Value.ref 70, Value.int 265 0, Value.int 21 0, Value.str (Str.ofString "/claim/cut.py") 266] }
noncomputable def ob72 : Obj := fnO 6 (Value.str (Str.ofString "gmp.limbs") 187) 71
noncomputable def ob73 : Obj := { cls := Value.type "tuple", data := Data.seq #[] }
noncomputable def ob74 : Obj := { cls := Value.none, data := Data.fields #[] }
noncomputable def ob75 : Obj := { cls := Value.type "tuple", data := Data.seq #[Value.str (Str.ofString "a") 271, Value.str (Str.ofString "limb") 272, Value.str (Str.ofString "w") 273, Value.str (Str.ofString "found") 274, Value.str (Str.ofString "rest") 275, Value.str (Str.ofString "at") 276] }
noncomputable def ob76 : Obj := { cls := Value.type "tuple", data := Data.seq #[] }
noncomputable def ob77 : Obj := fnB 7
noncomputable def ob78 : Obj := { cls := Value.type "code", data := Data.fields #[Value.str (Str.ofString "divrem_limb") 268, Value.str (Str.ofString "divrem_limb") 269, Value.str (Str.ofString "/claim/cut.py") 270, Value.int 28 0, Value.int 3 0, Value.int 0 0, Value.int 0 0, Value.int 3 0, Value.ref 73, Value.bool true, Value.int 181 0, Value.ref 74, Value.none, Value.ref 75, Value.ref 76, Value.ref 77, Value.int 277 0, Value.int 28 0, Value.str (Str.ofString "/claim/cut.py") 278] }
noncomputable def ob79 : Obj := fnO 7 (Value.str (Str.ofString "gmp.limbs") 187) 78
noncomputable def ob80 : Obj := { cls := Value.type "tuple", data := Data.seq #[] }
noncomputable def ob81 : Obj := { cls := Value.none, data := Data.fields #[] }
noncomputable def ob82 : Obj := { cls := Value.type "tuple", data := Data.seq #[Value.str (Str.ofString "a") 283, Value.str (Str.ofString "n") 284, Value.str (Str.ofString "w") 285, Value.str (Str.ofString "spots") 286, Value.str (Str.ofString "few") 287, Value.str (Str.ofString "found") 288, Value.str (Str.ofString "carry") 289, Value.str (Str.ofString "mask") 290, Value.str (Str.ofString "one") 291] }
noncomputable def ob83 : Obj := { cls := Value.type "tuple", data := Data.seq #[] }
noncomputable def ob84 : Obj := fnB 8
noncomputable def ob85 : Obj := { cls := Value.type "code", data := Data.fields #[Value.str (Str.ofString "shift_left") 280, Value.str (Str.ofString "shift_left") 281, Value.str (Str.ofString "/claim/cut.py") 282, Value.int 37 0, Value.int 3 0, Value.int 0 0, Value.int 0 0, Value.int 3 0, Value.ref 80, Value.bool true, Value.int 181 0, Value.ref 81, Value.none, Value.ref 82, Value.ref 83, Value.ref 84, Value.int 292 0, Value.int 37 0, Value.str (Str.ofString "/claim/cut.py") 293] }
noncomputable def ob86 : Obj := fnO 8 (Value.str (Str.ofString "gmp.limbs") 187) 85
noncomputable def ob87 : Obj := { cls := Value.type "tuple", data := Data.seq #[] }
noncomputable def ob88 : Obj := { cls := Value.none, data := Data.fields #[] }
noncomputable def ob89 : Obj := { cls := Value.type "tuple", data := Data.seq #[Value.str (Str.ofString "a") 298, Value.str (Str.ofString "n") 299, Value.str (Str.ofString "w") 300, Value.str (Str.ofString "spots") 301, Value.str (Str.ofString "few") 302, Value.str (Str.ofString "found") 303, Value.str (Str.ofString "mask") 304, Value.str (Str.ofString "at") 305, Value.str (Str.ofString "above") 306] }
noncomputable def ob90 : Obj := { cls := Value.type "tuple", data := Data.seq #[] }
noncomputable def ob91 : Obj := fnB 9
noncomputable def ob92 : Obj := { cls := Value.type "code", data := Data.fields #[Value.str (Str.ofString "shift_right") 295, Value.str (Str.ofString "shift_right") 296, Value.str (Str.ofString "/claim/cut.py") 297, Value.int 49 0, Value.int 3 0, Value.int 0 0, Value.int 0 0, Value.int 3 0, Value.ref 87, Value.bool true, Value.int 181 0, Value.ref 88, Value.none, Value.ref 89, Value.ref 90, Value.ref 91, Value.int 307 0, Value.int 49 0, Value.str (Str.ofString "/claim/cut.py") 308] }
noncomputable def ob93 : Obj := fnO 9 (Value.str (Str.ofString "gmp.limbs") 187) 92
noncomputable def ob94 : Obj := { cls := Value.type "tuple", data := Data.seq #[] }
noncomputable def ob95 : Obj := { cls := Value.none, data := Data.fields #[] }
noncomputable def ob96 : Obj := { cls := Value.type "tuple", data := Data.seq #[Value.str (Str.ofString "a") 313, Value.str (Str.ofString "w") 314] }
noncomputable def ob97 : Obj := { cls := Value.type "tuple", data := Data.seq #[] }
noncomputable def ob98 : Obj := fnB 10
noncomputable def ob99 : Obj := { cls := Value.type "code", data := Data.fields #[Value.str (Str.ofString "bits") 310, Value.str (Str.ofString "bits") 311, Value.str (Str.ofString "/claim/cut.py") 312, Value.int 56 0, Value.int 2 0, Value.int 0 0, Value.int 0 0, Value.int 3 0, Value.ref 94, Value.bool true, Value.int 181 0, Value.ref 95, Value.none, Value.ref 96, Value.ref 97, Value.ref 98, Value.int 315 0, Value.int 56 0, Value.str (Str.ofString "/claim/cut.py") 316] }
noncomputable def ob100 : Obj := fnO 10 (Value.str (Str.ofString "gmp.limbs") 187) 99
noncomputable def ob101 : Obj := { cls := Value.type "tuple", data := Data.seq #[] }
noncomputable def ob102 : Obj := { cls := Value.none, data := Data.fields #[] }
noncomputable def ob103 : Obj := { cls := Value.type "tuple", data := Data.seq #[Value.str (Str.ofString "n") 323, Value.str (Str.ofString "is_left") 324, Value.str (Str.ofString "found") 325, Value.str (Str.ofString "one") 326, Value.str (Str.ofString "many") 327] }
noncomputable def ob104 : Obj := { cls := Value.type "tuple", data := Data.seq #[] }
noncomputable def ob105 : Obj := fnB 12
noncomputable def ob106 : Obj := { cls := Value.type "code", data := Data.fields #[Value.str (Str.ofString "sieve") 320, Value.str (Str.ofString "sieve") 321, Value.str (Str.ofString "/claim/cut.py") 322, Value.int 59 0, Value.int 1 0, Value.int 0 0, Value.int 0 0, Value.int 3 0, Value.ref 101, Value.bool true, Value.int 181 0, Value.ref 102, Value.none, Value.ref 103, Value.ref 104, Value.ref 105, Value.int 328 0, Value.int 59 0, Value.str (Str.ofString "/claim/cut.py") 329] }
noncomputable def ob107 : Obj := fnO 12 (Value.str (Str.ofString "gmp.counts") 318) 106
noncomputable def ob108 : Obj := { cls := Value.type "tuple", data := Data.seq #[] }
noncomputable def ob109 : Obj := { cls := Value.none, data := Data.fields #[] }
noncomputable def ob110 : Obj := { cls := Value.type "tuple", data := Data.seq #[Value.str (Str.ofString "n") 334] }
noncomputable def ob111 : Obj := { cls := Value.type "tuple", data := Data.seq #[] }
noncomputable def ob112 : Obj := fnB 13
noncomputable def ob113 : Obj := { cls := Value.type "code", data := Data.fields #[Value.str (Str.ofString "need_count") 331, Value.str (Str.ofString "need_count") 332, Value.str (Str.ofString "/claim/cut.py") 333, Value.int 68 0, Value.int 1 0, Value.int 0 0, Value.int 0 0, Value.int 3 0, Value.ref 108, Value.bool true, Value.int 181 0, Value.ref 109, Value.none, Value.ref 110, Value.ref 111, Value.ref 112, Value.int 335 0, Value.int 68 0, Value.str (Str.ofString "/claim/cut.py") 336] }
noncomputable def ob114 : Obj := fnO 13 (Value.str (Str.ofString "gmp.counts") 318) 113
noncomputable def ob115 : Obj := { cls := Value.type "tuple", data := Data.seq #[] }
noncomputable def ob116 : Obj := { cls := Value.none, data := Data.fields #[] }
noncomputable def ob117 : Obj := { cls := Value.type "tuple", data := Data.seq #[Value.str (Str.ofString "base") 341, Value.str (Str.ofString "many") 342, Value.str (Str.ofString "w") 343, Value.str (Str.ofString "mul") 344, Value.str (Str.ofString "found") 345, Value.str (Str.ofString "square") 346] }
noncomputable def ob118 : Obj := { cls := Value.type "tuple", data := Data.seq #[] }
noncomputable def ob119 : Obj := fnB 14
noncomputable def ob120 : Obj := { cls := Value.type "code", data := Data.fields #[Value.str (Str.ofString "power_of_count") 338, Value.str (Str.ofString "power_of_count") 339, Value.str (Str.ofString "/claim/cut.py") 340, Value.int 71 0, Value.int 4 0, Value.int 0 0, Value.int 0 0, Value.int 3 0, Value.ref 115, Value.bool true, Value.int 181 0, Value.ref 116, Value.none, Value.ref 117, Value.ref 118, Value.ref 119, Value.int 347 0, Value.int 71 0, Value.str (Str.ofString "/claim/cut.py") 348] }
noncomputable def ob121 : Obj := fnO 14 (Value.str (Str.ofString "gmp.counts") 318) 120
noncomputable def ob122 : Obj := { cls := Value.type "tuple", data := Data.seq #[] }
noncomputable def ob123 : Obj := { cls := Value.none, data := Data.fields #[] }
noncomputable def ob124 : Obj := { cls := Value.type "tuple", data := Data.seq #[Value.str (Str.ofString "pairs") 353, Value.str (Str.ofString "w") 354, Value.str (Str.ofString "mul") 355, Value.str (Str.ofString "half") 356] }
noncomputable def ob125 : Obj := { cls := Value.type "tuple", data := Data.seq #[] }
noncomputable def ob126 : Obj := fnB 15
noncomputable def ob127 : Obj := { cls := Value.type "code", data := Data.fields #[Value.str (Str.ofString "product_of_powers") 350, Value.str (Str.ofString "product_of_powers") 351, Value.str (Str.ofString "/claim/cut.py") 352, Value.int 80 0, Value.int 3 0, Value.int 0 0, Value.int 0 0, Value.int 3 0, Value.ref 122, Value.bool true, Value.int 181 0, Value.ref 123, Value.none, Value.ref 124, Value.ref 125, Value.ref 126, Value.int 357 0, Value.int 80 0, Value.str (Str.ofString "/claim/cut.py") 358] }
noncomputable def ob128 : Obj := fnO 15 (Value.str (Str.ofString "gmp.counts") 318) 127
noncomputable def ob129 : Obj := { cls := Value.type "tuple", data := Data.seq #[] }
noncomputable def ob130 : Obj := { cls := Value.none, data := Data.fields #[] }
noncomputable def ob131 : Obj := { cls := Value.type "tuple", data := Data.seq #[Value.str (Str.ofString "n") 363, Value.str (Str.ofString "prime") 364, Value.str (Str.ofString "found") 365] }
noncomputable def ob132 : Obj := { cls := Value.type "tuple", data := Data.seq #[] }
noncomputable def ob133 : Obj := fnB 16
noncomputable def ob134 : Obj := { cls := Value.type "code", data := Data.fields #[Value.str (Str.ofString "factorial_exponent") 360, Value.str (Str.ofString "factorial_exponent") 361, Value.str (Str.ofString "/claim/cut.py") 362, Value.int 87 0, Value.int 2 0, Value.int 0 0, Value.int 0 0, Value.int 3 0, Value.ref 129, Value.bool true, Value.int 181 0, Value.ref 130, Value.none, Value.ref 131, Value.ref 132, Value.ref 133, Value.int 366 0, Value.int 87 0, Value.str (Str.ofString "/claim/cut.py") 367] }
noncomputable def ob135 : Obj := fnO 16 (Value.str (Str.ofString "gmp.counts") 318) 134
noncomputable def ob136 : Obj := { cls := Value.type "tuple", data := Data.seq #[] }
noncomputable def ob137 : Obj := { cls := Value.none, data := Data.fields #[] }
noncomputable def ob138 : Obj := { cls := Value.type "tuple", data := Data.seq #[Value.str (Str.ofString "n") 372, Value.str (Str.ofString "k") 373, Value.str (Str.ofString "w") 374, Value.str (Str.ofString "mul") 375, Value.str (Str.ofString "pairs") 376, Value.str (Str.ofString "prime") 377, Value.str (Str.ofString "many") 378] }
noncomputable def ob139 : Obj := { cls := Value.type "tuple", data := Data.seq #[] }
noncomputable def ob140 : Obj := fnB 17
noncomputable def ob141 : Obj := { cls := Value.type "code", data := Data.fields #[Value.str (Str.ofString "binomial") 369, Value.str (Str.ofString "binomial") 370, Value.str (Str.ofString "/claim/cut.py") 371, Value.int 93 0, Value.int 4 0, Value.int 0 0, Value.int 0 0, Value.int 3 0, Value.ref 136, Value.bool true, Value.int 181 0, Value.ref 137, Value.none, Value.ref 138, Value.ref 139, Value.ref 140, Value.int 379 0, Value.int 93 0, Value.str (Str.ofString "/claim/cut.py") 380] }
noncomputable def ob142 : Obj := fnO 17 (Value.str (Str.ofString "gmp.counts") 318) 141
noncomputable def ob143 : Obj := { cls := Value.type "tuple", data := Data.seq #[] }
noncomputable def ob144 : Obj := { cls := Value.none, data := Data.fields #[] }
noncomputable def ob145 : Obj := { cls := Value.type "tuple", data := Data.seq #[Value.str (Str.ofString "a") 387, Value.str (Str.ofString "w") 388, Value.str (Str.ofString "found") 389, Value.str (Str.ofString "limb") 390] }
noncomputable def ob146 : Obj := { cls := Value.type "tuple", data := Data.seq #[] }
noncomputable def ob147 : Obj := fnB 19
noncomputable def ob148 : Obj := { cls := Value.type "code", data := Data.fields #[Value.str (Str.ofString "plain_of") 384, Value.str (Str.ofString "plain_of") 385, Value.str (Str.ofString "/claim/cut.py") 386, Value.int 105 0, Value.int 2 0, Value.int 0 0, Value.int 0 0, Value.int 3 0, Value.ref 143, Value.bool true, Value.int 181 0, Value.ref 144, Value.none, Value.ref 145, Value.ref 146, Value.ref 147, Value.int 391 0, Value.int 105 0, Value.str (Str.ofString "/claim/cut.py") 392] }
noncomputable def ob149 : Obj := fnO 19 (Value.str (Str.ofString "gmp.radix") 382) 148
noncomputable def ob150 : Obj := { cls := Value.type "tuple", data := Data.seq #[] }
noncomputable def ob151 : Obj := { cls := Value.none, data := Data.fields #[] }
noncomputable def ob152 : Obj := { cls := Value.type "tuple", data := Data.seq #[Value.str (Str.ofString "base") 397] }
noncomputable def ob153 : Obj := { cls := Value.type "tuple", data := Data.seq #[] }
noncomputable def ob154 : Obj := fnB 20
noncomputable def ob155 : Obj := { cls := Value.type "code", data := Data.fields #[Value.str (Str.ofString "check_base") 394, Value.str (Str.ofString "check_base") 395, Value.str (Str.ofString "/claim/cut.py") 396, Value.int 110 0, Value.int 1 0, Value.int 0 0, Value.int 0 0, Value.int 3 0, Value.ref 150, Value.bool true, Value.int 181 0, Value.ref 151, Value.none, Value.ref 152, Value.ref 153, Value.ref 154, Value.int 398 0, Value.int 110 0, Value.str (Str.ofString "/claim/cut.py") 399] }
noncomputable def ob156 : Obj := fnO 20 (Value.str (Str.ofString "gmp.radix") 382) 155
noncomputable def ob157 : Obj := { cls := Value.type "tuple", data := Data.seq #[] }
noncomputable def ob158 : Obj := { cls := Value.none, data := Data.fields #[] }
noncomputable def ob159 : Obj := { cls := Value.type "tuple", data := Data.seq #[Value.str (Str.ofString "a") 404, Value.str (Str.ofString "base") 405, Value.str (Str.ofString "w") 406, Value.str (Str.ofString "divrem") 407, Value.str (Str.ofString "quotient") 408, Value.str (Str.ofString "rest") 409] }
noncomputable def ob160 : Obj := { cls := Value.type "tuple", data := Data.seq #[] }
noncomputable def ob161 : Obj := fnB 21
noncomputable def ob162 : Obj := { cls := Value.type "code", data := Data.fields #[Value.str (Str.ofString "digit_off") 401, Value.str (Str.ofString "digit_off") 402, Value.str (Str.ofString "/claim/cut.py") 403, Value.int 113 0, Value.int 4 0, Value.int 0 0, Value.int 0 0, Value.int 3 0, Value.ref 157, Value.bool true, Value.int 181 0, Value.ref 158, Value.none, Value.ref 159, Value.ref 160, Value.ref 161, Value.int 410 0, Value.int 113 0, Value.str (Str.ofString "/claim/cut.py") 411] }
noncomputable def ob163 : Obj := fnO 21 (Value.str (Str.ofString "gmp.radix") 382) 162
noncomputable def ob164 : Obj := { cls := Value.type "tuple", data := Data.seq #[] }
noncomputable def ob165 : Obj := { cls := Value.none, data := Data.fields #[] }
noncomputable def ob166 : Obj := { cls := Value.type "tuple", data := Data.seq #[Value.str (Str.ofString "a") 416, Value.str (Str.ofString "base") 417, Value.str (Str.ofString "w") 418, Value.str (Str.ofString "divrem") 419, Value.str (Str.ofString "found") 420, Value.str (Str.ofString "digit") 421] }
noncomputable def ob167 : Obj := { cls := Value.type "tuple", data := Data.seq #[] }
noncomputable def ob168 : Obj := fnB 22
noncomputable def ob169 : Obj := { cls := Value.type "code", data := Data.fields #[Value.str (Str.ofString "digits_plain") 413, Value.str (Str.ofString "digits_plain") 414, Value.str (Str.ofString "/claim/cut.py") 415, Value.int 118 0, Value.int 4 0, Value.int 0 0, Value.int 0 0, Value.int 3 0, Value.ref 164, Value.bool true, Value.int 181 0, Value.ref 165, Value.none, Value.ref 166, Value.ref 167, Value.ref 168, Value.int 422 0, Value.int 118 0, Value.str (Str.ofString "/claim/cut.py") 423] }
noncomputable def ob170 : Obj := fnO 22 (Value.str (Str.ofString "gmp.radix") 382) 169
noncomputable def ob171 : Obj := { cls := Value.type "tuple", data := Data.seq #[] }
noncomputable def ob172 : Obj := { cls := Value.none, data := Data.fields #[] }
noncomputable def ob173 : Obj := { cls := Value.type "tuple", data := Data.seq #[Value.str (Str.ofString "a") 428, Value.str (Str.ofString "base") 429, Value.str (Str.ofString "w") 430, Value.str (Str.ofString "mul") 431, Value.str (Str.ofString "found") 432, Value.str (Str.ofString "power") 433] }
noncomputable def ob174 : Obj := { cls := Value.type "tuple", data := Data.seq #[] }
noncomputable def ob175 : Obj := fnB 23
noncomputable def ob176 : Obj := { cls := Value.type "code", data := Data.fields #[Value.str (Str.ofString "base_powers") 425, Value.str (Str.ofString "base_powers") 426, Value.str (Str.ofString "/claim/cut.py") 427, Value.int 125 0, Value.int 4 0, Value.int 0 0, Value.int 0 0, Value.int 3 0, Value.ref 171, Value.bool true, Value.int 181 0, Value.ref 172, Value.none, Value.ref 173, Value.ref 174, Value.ref 175, Value.int 434 0, Value.int 125 0, Value.str (Str.ofString "/claim/cut.py") 435] }
noncomputable def ob177 : Obj := fnO 23 (Value.str (Str.ofString "gmp.radix") 382) 176
noncomputable def ob178 : Obj := { cls := Value.type "tuple", data := Data.seq #[] }
noncomputable def ob179 : Obj := { cls := Value.none, data := Data.fields #[] }
noncomputable def ob180 : Obj := { cls := Value.type "tuple", data := Data.seq #[Value.str (Str.ofString "digits") 440, Value.str (Str.ofString "many") 441] }
noncomputable def ob181 : Obj := { cls := Value.type "tuple", data := Data.seq #[] }
noncomputable def ob182 : Obj := fnB 24
noncomputable def ob183 : Obj := { cls := Value.type "code", data := Data.fields #[Value.str (Str.ofString "with_noughts") 437, Value.str (Str.ofString "with_noughts") 438, Value.str (Str.ofString "/claim/cut.py") 439, Value.int 131 0, Value.int 2 0, Value.int 0 0, Value.int 0 0, Value.int 3 0, Value.ref 178, Value.bool true, Value.int 181 0, Value.ref 179, Value.none, Value.ref 180, Value.ref 181, Value.ref 182, Value.int 442 0, Value.int 131 0, Value.str (Str.ofString "/claim/cut.py") 443] }
noncomputable def ob184 : Obj := fnO 24 (Value.str (Str.ofString "gmp.radix") 382) 183
noncomputable def ob185 : Obj := { cls := Value.type "tuple", data := Data.seq #[] }
noncomputable def ob186 : Obj := { cls := Value.none, data := Data.fields #[] }
noncomputable def ob187 : Obj := { cls := Value.type "tuple", data := Data.seq #[Value.str (Str.ofString "a") 448, Value.str (Str.ofString "powers") 449, Value.str (Str.ofString "base") 450, Value.str (Str.ofString "w") 451, Value.str (Str.ofString "least") 452, Value.str (Str.ofString "divrem") 453, Value.str (Str.ofString "power") 454, Value.str (Str.ofString "lesser") 455, Value.str (Str.ofString "many") 456, Value.str (Str.ofString "high") 457, Value.str (Str.ofString "low") 458, Value.str (Str.ofString "ahead") 459] }
noncomputable def ob188 : Obj := { cls := Value.type "tuple", data := Data.seq #[] }
noncomputable def ob189 : Obj := fnB 25
noncomputable def ob190 : Obj := { cls := Value.type "code", data := Data.fields #[Value.str (Str.ofString "digits_by_powers") 445, Value.str (Str.ofString "digits_by_powers") 446, Value.str (Str.ofString "/claim/cut.py") 447, Value.int 133 0, Value.int 6 0, Value.int 0 0, Value.int 0 0, Value.int 3 0, Value.ref 185, Value.bool true, Value.int 181 0, Value.ref 186, Value.none, Value.ref 187, Value.ref 188, Value.ref 189, Value.int 460 0, Value.int 133 0, Value.str (Str.ofString "/claim/cut.py") 461] }
noncomputable def ob191 : Obj := fnO 25 (Value.str (Str.ofString "gmp.radix") 382) 190
noncomputable def ob192 : Obj := { cls := Value.type "tuple", data := Data.seq #[] }
noncomputable def ob193 : Obj := { cls := Value.none, data := Data.fields #[] }
noncomputable def ob194 : Obj := { cls := Value.type "tuple", data := Data.seq #[Value.str (Str.ofString "a") 466, Value.str (Str.ofString "base") 467, Value.str (Str.ofString "w") 468, Value.str (Str.ofString "least") 469, Value.str (Str.ofString "divrem") 470, Value.str (Str.ofString "mul") 471, Value.str (Str.ofString "powers") 472] }
noncomputable def ob195 : Obj := { cls := Value.type "tuple", data := Data.seq #[] }
noncomputable def ob196 : Obj := fnB 26
noncomputable def ob197 : Obj := { cls := Value.type "code", data := Data.fields #[Value.str (Str.ofString "to_digits") 463, Value.str (Str.ofString "to_digits") 464, Value.str (Str.ofString "/claim/cut.py") 465, Value.int 142 0, Value.int 6 0, Value.int 0 0, Value.int 0 0, Value.int 3 0, Value.ref 192, Value.bool true, Value.int 181 0, Value.ref 193, Value.none, Value.ref 194, Value.ref 195, Value.ref 196, Value.int 473 0, Value.int 142 0, Value.str (Str.ofString "/claim/cut.py") 474] }
noncomputable def ob198 : Obj := fnO 26 (Value.str (Str.ofString "gmp.radix") 382) 197
noncomputable def ob199 : Obj := { cls := Value.type "tuple", data := Data.seq #[] }
noncomputable def ob200 : Obj := { cls := Value.none, data := Data.fields #[] }
noncomputable def ob201 : Obj := { cls := Value.type "tuple", data := Data.seq #[Value.str (Str.ofString "a") 481, Value.str (Str.ofString "b") 482, Value.str (Str.ofString "w") 483, Value.str (Str.ofString "found") 484, Value.str (Str.ofString "mask") 485, Value.str (Str.ofString "at") 486, Value.str (Str.ofString "limb") 487, Value.str (Str.ofString "carry") 488, Value.str (Str.ofString "spot") 489, Value.str (Str.ofString "other") 490] }
noncomputable def ob202 : Obj := { cls := Value.type "tuple", data := Data.seq #[] }
noncomputable def ob203 : Obj := fnB 28
noncomputable def ob204 : Obj := { cls := Value.type "code", data := Data.fields #[Value.str (Str.ofString "mul_school") 478, Value.str (Str.ofString "mul_school") 479, Value.str (Str.ofString "/claim/cut.py") 480, Value.int 147 0, Value.int 3 0, Value.int 0 0, Value.int 0 0, Value.int 3 0, Value.ref 199, Value.bool true, Value.int 181 0, Value.ref 200, Value.none, Value.ref 201, Value.ref 202, Value.ref 203, Value.int 491 0, Value.int 147 0, Value.str (Str.ofString "/claim/cut.py") 492] }
noncomputable def ob205 : Obj := fnO 28 (Value.str (Str.ofString "gmp.school") 476) 204
noncomputable def ob206 : Obj := { cls := Value.type "tuple", data := Data.seq #[] }
noncomputable def ob207 : Obj := { cls := Value.none, data := Data.fields #[] }
noncomputable def ob208 : Obj := { cls := Value.type "tuple", data := Data.seq #[Value.str (Str.ofString "a") 497, Value.str (Str.ofString "b") 498, Value.str (Str.ofString "w") 499, Value.str (Str.ofString "quotient") 500, Value.str (Str.ofString "rest") 501] }
noncomputable def ob209 : Obj := { cls := Value.type "tuple", data := Data.seq #[] }
noncomputable def ob210 : Obj := fnB 29
noncomputable def ob211 : Obj := { cls := Value.type "code", data := Data.fields #[Value.str (Str.ofString "divrem_small") 494, Value.str (Str.ofString "divrem_small") 495, Value.str (Str.ofString "/claim/cut.py") 496, Value.int 157 0, Value.int 3 0, Value.int 0 0, Value.int 0 0, Value.int 3 0, Value.ref 206, Value.bool true, Value.int 181 0, Value.ref 207, Value.none, Value.ref 208, Value.ref 209, Value.ref 210, Value.int 502 0, Value.int 157 0, Value.str (Str.ofString "/claim/cut.py") 503] }
noncomputable def ob212 : Obj := fnO 29 (Value.str (Str.ofString "gmp.school") 476) 211
noncomputable def ob213 : Obj := { cls := Value.type "tuple", data := Data.seq #[] }
noncomputable def ob214 : Obj := { cls := Value.none, data := Data.fields #[] }
noncomputable def ob215 : Obj := { cls := Value.type "tuple", data := Data.seq #[Value.str (Str.ofString "top") 508, Value.str (Str.ofString "first") 509, Value.str (Str.ofString "second") 510, Value.str (Str.ofString "w") 511, Value.str (Str.ofString "high") 512, Value.str (Str.ofString "base") 513, Value.str (Str.ofString "limb") 514, Value.str (Str.ofString "rest") 515] }
noncomputable def ob216 : Obj := { cls := Value.type "tuple", data := Data.seq #[] }
noncomputable def ob217 : Obj := fnB 30
noncomputable def ob218 : Obj := { cls := Value.type "code", data := Data.fields #[Value.str (Str.ofString "guessed_limb") 505, Value.str (Str.ofString "guessed_limb") 506, Value.str (Str.ofString "/claim/cut.py") 507, Value.int 160 0, Value.int 4 0, Value.int 0 0, Value.int 0 0, Value.int 3 0, Value.ref 213, Value.bool true, Value.int 181 0, Value.ref 214, Value.none, Value.ref 215, Value.ref 216, Value.ref 217, Value.int 516 0, Value.int 160 0, Value.str (Str.ofString "/claim/cut.py") 517] }
noncomputable def ob219 : Obj := fnO 30 (Value.str (Str.ofString "gmp.school") 476) 218
noncomputable def ob220 : Obj := { cls := Value.type "tuple", data := Data.seq #[] }
noncomputable def ob221 : Obj := { cls := Value.none, data := Data.fields #[] }
noncomputable def ob222 : Obj := { cls := Value.type "tuple", data := Data.seq #[Value.str (Str.ofString "rest") 522, Value.str (Str.ofString "b") 523, Value.str (Str.ofString "limb") 524, Value.str (Str.ofString "at") 525, Value.str (Str.ofString "w") 526, Value.str (Str.ofString "carry") 527, Value.str (Str.ofString "base") 528, Value.str (Str.ofString "spot") 529, Value.str (Str.ofString "other") 530, Value.str (Str.ofString "here") 531] }
noncomputable def ob223 : Obj := { cls := Value.type "tuple", data := Data.seq #[] }
noncomputable def ob224 : Obj := fnB 31
noncomputable def ob225 : Obj := { cls := Value.type "code", data := Data.fields #[Value.str (Str.ofString "take_away") 519, Value.str (Str.ofString "take_away") 520, Value.str (Str.ofString "/claim/cut.py") 521, Value.int 168 0, Value.int 5 0, Value.int 0 0, Value.int 0 0, Value.int 3 0, Value.ref 220, Value.bool true, Value.int 181 0, Value.ref 221, Value.none, Value.ref 222, Value.ref 223, Value.ref 224, Value.int 532 0, Value.int 168 0, Value.str (Str.ofString "/claim/cut.py") 533] }
noncomputable def ob226 : Obj := fnO 31 (Value.str (Str.ofString "gmp.school") 476) 225
noncomputable def ob227 : Obj := { cls := Value.type "tuple", data := Data.seq #[] }
noncomputable def ob228 : Obj := { cls := Value.none, data := Data.fields #[] }
noncomputable def ob229 : Obj := { cls := Value.type "tuple", data := Data.seq #[Value.str (Str.ofString "rest") 538, Value.str (Str.ofString "b") 539, Value.str (Str.ofString "at") 540, Value.str (Str.ofString "w") 541, Value.str (Str.ofString "carry") 542, Value.str (Str.ofString "mask") 543, Value.str (Str.ofString "spot") 544, Value.str (Str.ofString "other") 545] }
noncomputable def ob230 : Obj := { cls := Value.type "tuple", data := Data.seq #[] }
noncomputable def ob231 : Obj := fnB 32
noncomputable def ob232 : Obj := { cls := Value.type "code", data := Data.fields #[Value.str (Str.ofString "put_back") 535, Value.str (Str.ofString "put_back") 536, Value.str (Str.ofString "/claim/cut.py") 537, Value.int 177 0, Value.int 4 0, Value.int 0 0, Value.int 0 0, Value.int 3 0, Value.ref 227, Value.bool true, Value.int 181 0, Value.ref 228, Value.none, Value.ref 229, Value.ref 230, Value.ref 231, Value.int 546 0, Value.int 177 0, Value.str (Str.ofString "/claim/cut.py") 547] }
noncomputable def ob233 : Obj := fnO 32 (Value.str (Str.ofString "gmp.school") 476) 232
noncomputable def ob234 : Obj := { cls := Value.type "tuple", data := Data.seq #[] }
noncomputable def ob235 : Obj := { cls := Value.none, data := Data.fields #[] }
noncomputable def ob236 : Obj := { cls := Value.type "tuple", data := Data.seq #[Value.str (Str.ofString "rest") 552, Value.str (Str.ofString "b") 553, Value.str (Str.ofString "w") 554, Value.str (Str.ofString "size") 555, Value.str (Str.ofString "quotient") 556, Value.str (Str.ofString "at") 557, Value.str (Str.ofString "limb") 558] }
noncomputable def ob237 : Obj := { cls := Value.type "tuple", data := Data.seq #[] }
noncomputable def ob238 : Obj := fnB 33
noncomputable def ob239 : Obj := { cls := Value.type "code", data := Data.fields #[Value.str (Str.ofString "divide_rows") 549, Value.str (Str.ofString "divide_rows") 550, Value.str (Str.ofString "/claim/cut.py") 551, Value.int 184 0, Value.int 3 0, Value.int 0 0, Value.int 0 0, Value.int 3 0, Value.ref 234, Value.bool true, Value.int 181 0, Value.ref 235, Value.none, Value.ref 236, Value.ref 237, Value.ref 238, Value.int 559 0, Value.int 184 0, Value.str (Str.ofString "/claim/cut.py") 560] }
noncomputable def ob240 : Obj := fnO 33 (Value.str (Str.ofString "gmp.school") 476) 239
noncomputable def ob241 : Obj := { cls := Value.type "tuple", data := Data.seq #[] }
noncomputable def ob242 : Obj := { cls := Value.none, data := Data.fields #[] }
noncomputable def ob243 : Obj := { cls := Value.type "tuple", data := Data.seq #[Value.str (Str.ofString "a") 565, Value.str (Str.ofString "b") 566, Value.str (Str.ofString "w") 567, Value.str (Str.ofString "shift") 568, Value.str (Str.ofString "divisor") 569, Value.str (Str.ofString "rest") 570, Value.str (Str.ofString "quotient") 571] }
noncomputable def ob244 : Obj := { cls := Value.type "tuple", data := Data.seq #[] }
noncomputable def ob245 : Obj := fnB 34
noncomputable def ob246 : Obj := { cls := Value.type "code", data := Data.fields #[Value.str (Str.ofString "divrem_school") 562, Value.str (Str.ofString "divrem_school") 563, Value.str (Str.ofString "/claim/cut.py") 564, Value.int 194 0, Value.int 3 0, Value.int 0 0, Value.int 0 0, Value.int 3 0, Value.ref 241, Value.bool true, Value.int 181 0, Value.ref 242, Value.none, Value.ref 243, Value.ref 244, Value.ref 245, Value.int 572 0, Value.int 194 0, Value.str (Str.ofString "/claim/cut.py") 573] }
noncomputable def ob247 : Obj := fnO 34 (Value.str (Str.ofString "gmp.school") 476) 246
noncomputable def ob248 : Obj := { cls := Value.type "tuple", data := Data.seq #[] }
noncomputable def ob249 : Obj := { cls := Value.none, data := Data.fields #[] }
noncomputable def ob250 : Obj := { cls := Value.type "tuple", data := Data.seq #[Value.str (Str.ofString "column") 580, Value.str (Str.ofString "many") 581] }
noncomputable def ob251 : Obj := { cls := Value.type "tuple", data := Data.seq #[] }
noncomputable def ob252 : Obj := fnB 36
noncomputable def ob253 : Obj := { cls := Value.type "code", data := Data.fields #[Value.str (Str.ofString "_law_summed") 577, Value.str (Str.ofString "_law_summed") 578, Value.str (Str.ofString "/claim/cut.py") 579, Value.int 208 0, Value.int 2 0, Value.int 0 0, Value.int 0 0, Value.int 3 0, Value.ref 248, Value.bool true, Value.int 181 0, Value.ref 249, Value.none, Value.ref 250, Value.ref 251, Value.ref 252, Value.int 582 0, Value.int 208 0, Value.str (Str.ofString "/claim/cut.py") 583] }
noncomputable def ob254 : Obj := fnO 36 (Value.str (Str.ofString "law_xm0411_01") 575) 253
noncomputable def ob255 : Obj := { cls := Value.type "tuple", data := Data.seq #[] }
noncomputable def ob256 : Obj := { cls := Value.none, data := Data.fields #[] }
noncomputable def ob257 : Obj := { cls := Value.type "tuple", data := Data.seq #[Value.str (Str.ofString "number") 588, Value.str (Str.ofString "w") 589, Value.str (Str.ofString "found") 590] }
noncomputable def ob258 : Obj := { cls := Value.type "tuple", data := Data.seq #[] }
noncomputable def ob259 : Obj := fnB 37
noncomputable def ob260 : Obj := { cls := Value.type "code", data := Data.fields #[Value.str (Str.ofString "_law_limbs") 585, Value.str (Str.ofString "_law_limbs") 586, Value.str (Str.ofString "/claim/cut.py") 587, Value.int 213 0, Value.int 2 0, Value.int 0 0, Value.int 0 0, Value.int 3 0, Value.ref 255, Value.bool true, Value.int 181 0, Value.ref 256, Value.none, Value.ref 257, Value.ref 258, Value.ref 259, Value.int 591 0, Value.int 213 0, Value.str (Str.ofString "/claim/cut.py") 592] }
noncomputable def ob261 : Obj := fnO 37 (Value.str (Str.ofString "law_xm0411_01") 575) 260
noncomputable def ob262 : Obj := { cls := Value.type "tuple", data := Data.seq #[] }
noncomputable def ob263 : Obj := { cls := Value.none, data := Data.fields #[] }
noncomputable def ob264 : Obj := { cls := Value.type "tuple", data := Data.seq #[Value.str (Str.ofString "limbs") 597, Value.str (Str.ofString "w") 598, Value.str (Str.ofString "worth") 599, Value.str (Str.ofString "limb") 600] }
noncomputable def ob265 : Obj := { cls := Value.type "tuple", data := Data.seq #[] }
noncomputable def ob266 : Obj := fnB 38
noncomputable def ob267 : Obj := { cls := Value.type "code", data := Data.fields #[Value.str (Str.ofString "_law_worth") 594, Value.str (Str.ofString "_law_worth") 595, Value.str (Str.ofString "/claim/cut.py") 596, Value.int 219 0, Value.int 2 0, Value.int 0 0, Value.int 0 0, Value.int 3 0, Value.ref 262, Value.bool true, Value.int 181 0, Value.ref 263, Value.none, Value.ref 264, Value.ref 265, Value.ref 266, Value.int 601 0, Value.int 219 0, Value.str (Str.ofString "/claim/cut.py") 602] }
noncomputable def ob268 : Obj := fnO 38 (Value.str (Str.ofString "law_xm0411_01") 575) 267
noncomputable def ob269 : Obj := { cls := Value.type "tuple", data := Data.seq #[] }
noncomputable def ob270 : Obj := { cls := Value.none, data := Data.fields #[] }
noncomputable def ob271 : Obj := fnB 39
noncomputable def ob272 : Obj := { cls := Value.type "code", data := Data.fields #[Value.str (Str.ofString "_law_row") 604, Value.str (Str.ofString "_law_row") 605, Value.str (Str.ofString "/claim/cut.py") 606, Value.int 224 0, Value.int 1 0, Value.int 0 0, Value.int 0 0, Value.int 3 0, Value.ref 269, Value.bool true, Value.int 181 0, Value.ref 270, Value.none, Value.none, Value.none, Value.ref 271, Value.int 607 0, Value.int 224 0, Value.str (Str.ofString "/claim/cut.py") 608] }
noncomputable def ob273 : Obj := fnO 39 (Value.str (Str.ofString "law_xm0411_01") 575) 272
noncomputable def ob274 : Obj := { cls := Value.type "tuple", data := Data.seq #[] }
noncomputable def ob275 : Obj := { cls := Value.none, data := Data.fields #[] }
noncomputable def ob276 : Obj := { cls := Value.type "tuple", data := Data.seq #[Value.str (Str.ofString "a") 613, Value.str (Str.ofString "b") 614, Value.str (Str.ofString "p") 615, Value.str (Str.ofString "found") 616, Value.str (Str.ofString "carry") 617] }
noncomputable def ob277 : Obj := { cls := Value.type "tuple", data := Data.seq #[] }
noncomputable def ob278 : Obj := fnB 40
noncomputable def ob279 : Obj := { cls := Value.type "code", data := Data.fields #[Value.str (Str.ofString "_law_carries") 610, Value.str (Str.ofString "_law_carries") 611, Value.str (Str.ofString "/claim/cut.py") 612, Value.int 229 0, Value.int 3 0, Value.int 0 0, Value.int 0 0, Value.int 3 0, Value.ref 274, Value.bool true, Value.int 181 0, Value.ref 275, Value.none, Value.ref 276, Value.ref 277, Value.ref 278, Value.int 618 0, Value.int 229 0, Value.str (Str.ofString "/claim/cut.py") 619] }
noncomputable def ob280 : Obj := fnO 40 (Value.str (Str.ofString "law_xm0411_01") 575) 279
noncomputable def ob281 : Obj := { cls := Value.type "tuple", data := Data.seq #[] }
noncomputable def ob282 : Obj := { cls := Value.none, data := Data.fields #[] }
noncomputable def ob283 : Obj := { cls := Value.type "tuple", data := Data.seq #[Value.str (Str.ofString "number") 624, Value.str (Str.ofString "p") 625, Value.str (Str.ofString "w") 626] }
noncomputable def ob284 : Obj := { cls := Value.type "tuple", data := Data.seq #[] }
noncomputable def ob285 : Obj := fnB 41
noncomputable def ob286 : Obj := { cls := Value.type "code", data := Data.fields #[Value.str (Str.ofString "_law_told") 621, Value.str (Str.ofString "_law_told") 622, Value.str (Str.ofString "/claim/cut.py") 623, Value.int 235 0, Value.int 3 0, Value.int 0 0, Value.int 0 0, Value.int 3 0, Value.ref 281, Value.bool true, Value.int 181 0, Value.ref 282, Value.none, Value.ref 283, Value.ref 284, Value.ref 285, Value.int 627 0, Value.int 235 0, Value.str (Str.ofString "/claim/cut.py") 628] }
noncomputable def ob287 : Obj := fnO 41 (Value.str (Str.ofString "law_xm0411_01") 575) 286
noncomputable def ob288 : Obj := { cls := Value.type "tuple", data := Data.seq #[] }
noncomputable def ob289 : Obj := { cls := Value.none, data := Data.fields #[] }
noncomputable def ob290 : Obj := fnB 42
noncomputable def ob291 : Obj := { cls := Value.type "code", data := Data.fields #[Value.str (Str.ofString "law") 630, Value.str (Str.ofString "law") 631, Value.str (Str.ofString "/claim/cut.py") 632, Value.int 237 0, Value.int 1 0, Value.int 0 0, Value.int 0 0, Value.int 3 0, Value.ref 288, Value.bool true, Value.int 181 0, Value.ref 289, Value.none, Value.none, Value.none, Value.ref 290, Value.int 633 0, Value.int 237 0, Value.str (Str.ofString "/claim/cut.py") 634] }
noncomputable def ob292 : Obj := fnO 42 (Value.str (Str.ofString "law_xm0411_01") 575) 291
noncomputable def ob2atpre : Obj := { cls := Value.none, data := Data.dict #[] }
noncomputable def ob3atpre : Obj := { cls := Value.type "dict", data := Data.dict #[{ hash := PyData.keyHash P (Str.ofString "__name__"), key := Value.str (Str.ofString "__name__") 165, val := Value.str (Str.ofString "__main__") 164 }, { hash := PyData.keyHash P (Str.ofString "__doc__"), key := Value.str (Str.ofString "__doc__") 166, val := Value.none }, { hash := PyData.keyHash P (Str.ofString "__package__"), key := Value.str (Str.ofString "__package__") 167, val := Value.none }, { hash := PyData.keyHash P (Str.ofString "__loader__"), key := Value.str (Str.ofString "__loader__") 168, val := Value.builtin "__main__.__loader__#opaque" }, { hash := PyData.keyHash P (Str.ofString "__spec__"), key := Value.str (Str.ofString "__spec__") 169, val := Value.none }, { hash := PyData.keyHash P (Str.ofString "__annotations__"), key := Value.str (Str.ofString "__annotations__") 170, val := Value.ref 6 }, { hash := PyData.keyHash P (Str.ofString "__builtins__"), key := Value.str (Str.ofString "__builtins__") 171, val := Value.ref 4 }, { hash := PyData.keyHash P (Str.ofString "__file__"), key := Value.str (Str.ofString "__file__") 173, val := Value.str (Str.ofString "/claim/cut.py") 172 }, { hash := PyData.keyHash P (Str.ofString "__cached__"), key := Value.str (Str.ofString "__cached__") 174, val := Value.none }] 9 }
noncomputable def ob12atpre : Obj := { cls := Value.none, data := Data.fields #[] }
noncomputable def ob3at3 : Obj := { cls := Value.type "dict", data := Data.dict #[{ hash := PyData.keyHash P (Str.ofString "__name__"), key := Value.str (Str.ofString "__name__") 165, val := Value.str (Str.ofString "gmp.limbs") 187 }, { hash := PyData.keyHash P (Str.ofString "__doc__"), key := Value.str (Str.ofString "__doc__") 166, val := Value.none }, { hash := PyData.keyHash P (Str.ofString "__package__"), key := Value.str (Str.ofString "__package__") 167, val := Value.none }, { hash := PyData.keyHash P (Str.ofString "__loader__"), key := Value.str (Str.ofString "__loader__") 168, val := Value.builtin "__main__.__loader__#opaque" }, { hash := PyData.keyHash P (Str.ofString "__spec__"), key := Value.str (Str.ofString "__spec__") 169, val := Value.none }, { hash := PyData.keyHash P (Str.ofString "__annotations__"), key := Value.str (Str.ofString "__annotations__") 170, val := Value.ref 6 }, { hash := PyData.keyHash P (Str.ofString "__builtins__"), key := Value.str (Str.ofString "__builtins__") 171, val := Value.ref 4 }, { hash := PyData.keyHash P (Str.ofString "__file__"), key := Value.str (Str.ofString "__file__") 173, val := Value.str (Str.ofString "/claim/cut.py") 172 }, { hash := PyData.keyHash P (Str.ofString "__cached__"), key := Value.str (Str.ofString "__cached__") 174, val := Value.none }, { hash := PyData.keyHash P (Str.ofString "GmpError"), key := Value.str (Str.ofString "GmpError") 208, val := Value.ref 24 }, { hash := PyData.keyHash P (Str.ofString "DivisionByZero"), key := Value.str (Str.ofString "DivisionByZero") 224, val := Value.ref 37 }, { hash := PyData.keyHash P (Str.ofString "OutOfRange"), key := Value.str (Str.ofString "OutOfRange") 240, val := Value.ref 49 }] 12 }
noncomputable def ob12at3 : Obj := { cls := Value.none, data := Data.fields #[Value.int 2 0, Value.int 0 0, Value.ref 20, Value.int 4 0, Value.int 0 0, Value.ref 33, Value.int 6 0, Value.int 0 0, Value.ref 45] }
noncomputable def ob3at12 : Obj := { cls := Value.type "dict", data := Data.dict #[{ hash := PyData.keyHash P (Str.ofString "__name__"), key := Value.str (Str.ofString "__name__") 165, val := Value.str (Str.ofString "gmp.counts") 318 }, { hash := PyData.keyHash P (Str.ofString "__doc__"), key := Value.str (Str.ofString "__doc__") 166, val := Value.none }, { hash := PyData.keyHash P (Str.ofString "__package__"), key := Value.str (Str.ofString "__package__") 167, val := Value.none }, { hash := PyData.keyHash P (Str.ofString "__loader__"), key := Value.str (Str.ofString "__loader__") 168, val := Value.builtin "__main__.__loader__#opaque" }, { hash := PyData.keyHash P (Str.ofString "__spec__"), key := Value.str (Str.ofString "__spec__") 169, val := Value.none }, { hash := PyData.keyHash P (Str.ofString "__annotations__"), key := Value.str (Str.ofString "__annotations__") 170, val := Value.ref 6 }, { hash := PyData.keyHash P (Str.ofString "__builtins__"), key := Value.str (Str.ofString "__builtins__") 171, val := Value.ref 4 }, { hash := PyData.keyHash P (Str.ofString "__file__"), key := Value.str (Str.ofString "__file__") 173, val := Value.str (Str.ofString "/claim/cut.py") 172 }, { hash := PyData.keyHash P (Str.ofString "__cached__"), key := Value.str (Str.ofString "__cached__") 174, val := Value.none }, { hash := PyData.keyHash P (Str.ofString "GmpError"), key := Value.str (Str.ofString "GmpError") 208, val := Value.ref 24 }, { hash := PyData.keyHash P (Str.ofString "DivisionByZero"), key := Value.str (Str.ofString "DivisionByZero") 224, val := Value.ref 37 }, { hash := PyData.keyHash P (Str.ofString "OutOfRange"), key := Value.str (Str.ofString "OutOfRange") 240, val := Value.ref 49 }, { hash := PyData.keyHash P (Str.ofString "normal"), key := Value.str (Str.ofString "normal") 248, val := Value.ref 58 }, { hash := PyData.keyHash P (Str.ofString "nat_of"), key := Value.str (Str.ofString "nat_of") 258, val := Value.ref 65 }, { hash := PyData.keyHash P (Str.ofString "compare"), key := Value.str (Str.ofString "compare") 267, val := Value.ref 72 }, { hash := PyData.keyHash P (Str.ofString "divrem_limb"), key := Value.str (Str.ofString "divrem_limb") 279, val := Value.ref 79 }, { hash := PyData.keyHash P (Str.ofString "shift_left"), key := Value.str (Str.ofString "shift_left") 294, val := Value.ref 86 }, { hash := PyData.keyHash P (Str.ofString "shift_right"), key := Value.str (Str.ofString "shift_right") 309, val := Value.ref 93 }, { hash := PyData.keyHash P (Str.ofString "bits"), key := Value.str (Str.ofString "bits") 317, val := Value.ref 100 }, { hash := PyData.keyHash P (Str.ofString "sieve"), key := Value.str (Str.ofString "sieve") 330, val := Value.ref 107 }] 20 }
noncomputable def ob12at12 : Obj := { cls := Value.none, data := Data.fields #[Value.int 2 0, Value.int 0 0, Value.ref 20, Value.int 4 0, Value.int 0 0, Value.ref 33, Value.int 6 0, Value.int 0 0, Value.ref 45, Value.int 8 0, Value.int 0 0, Value.ref 57, Value.int 13 0, Value.int 0 0, Value.ref 64, Value.int 21 0, Value.int 0 0, Value.ref 71, Value.int 28 0, Value.int 0 0, Value.ref 78, Value.int 37 0, Value.int 0 0, Value.ref 85, Value.int 49 0, Value.int 0 0, Value.ref 92, Value.int 56 0, Value.int 0 0, Value.ref 99, Value.int 59 0, Value.int 0 0, Value.ref 106] }
noncomputable def ob3at22 : Obj := { cls := Value.type "dict", data := Data.dict #[{ hash := PyData.keyHash P (Str.ofString "__name__"), key := Value.str (Str.ofString "__name__") 165, val := Value.str (Str.ofString "gmp.radix") 382 }, { hash := PyData.keyHash P (Str.ofString "__doc__"), key := Value.str (Str.ofString "__doc__") 166, val := Value.none }, { hash := PyData.keyHash P (Str.ofString "__package__"), key := Value.str (Str.ofString "__package__") 167, val := Value.none }, { hash := PyData.keyHash P (Str.ofString "__loader__"), key := Value.str (Str.ofString "__loader__") 168, val := Value.builtin "__main__.__loader__#opaque" }, { hash := PyData.keyHash P (Str.ofString "__spec__"), key := Value.str (Str.ofString "__spec__") 169, val := Value.none }, { hash := PyData.keyHash P (Str.ofString "__annotations__"), key := Value.str (Str.ofString "__annotations__") 170, val := Value.ref 6 }, { hash := PyData.keyHash P (Str.ofString "__builtins__"), key := Value.str (Str.ofString "__builtins__") 171, val := Value.ref 4 }, { hash := PyData.keyHash P (Str.ofString "__file__"), key := Value.str (Str.ofString "__file__") 173, val := Value.str (Str.ofString "/claim/cut.py") 172 }, { hash := PyData.keyHash P (Str.ofString "__cached__"), key := Value.str (Str.ofString "__cached__") 174, val := Value.none }, { hash := PyData.keyHash P (Str.ofString "GmpError"), key := Value.str (Str.ofString "GmpError") 208, val := Value.ref 24 }, { hash := PyData.keyHash P (Str.ofString "DivisionByZero"), key := Value.str (Str.ofString "DivisionByZero") 224, val := Value.ref 37 }, { hash := PyData.keyHash P (Str.ofString "OutOfRange"), key := Value.str (Str.ofString "OutOfRange") 240, val := Value.ref 49 }, { hash := PyData.keyHash P (Str.ofString "normal"), key := Value.str (Str.ofString "normal") 248, val := Value.ref 58 }, { hash := PyData.keyHash P (Str.ofString "nat_of"), key := Value.str (Str.ofString "nat_of") 258, val := Value.ref 65 }, { hash := PyData.keyHash P (Str.ofString "compare"), key := Value.str (Str.ofString "compare") 267, val := Value.ref 72 }, { hash := PyData.keyHash P (Str.ofString "divrem_limb"), key := Value.str (Str.ofString "divrem_limb") 279, val := Value.ref 79 }, { hash := PyData.keyHash P (Str.ofString "shift_left"), key := Value.str (Str.ofString "shift_left") 294, val := Value.ref 86 }, { hash := PyData.keyHash P (Str.ofString "shift_right"), key := Value.str (Str.ofString "shift_right") 309, val := Value.ref 93 }, { hash := PyData.keyHash P (Str.ofString "bits"), key := Value.str (Str.ofString "bits") 317, val := Value.ref 100 }, { hash := PyData.keyHash P (Str.ofString "sieve"), key := Value.str (Str.ofString "sieve") 330, val := Value.ref 107 }, { hash := PyData.keyHash P (Str.ofString "need_count"), key := Value.str (Str.ofString "need_count") 337, val := Value.ref 114 }, { hash := PyData.keyHash P (Str.ofString "power_of_count"), key := Value.str (Str.ofString "power_of_count") 349, val := Value.ref 121 }, { hash := PyData.keyHash P (Str.ofString "product_of_powers"), key := Value.str (Str.ofString "product_of_powers") 359, val := Value.ref 128 }, { hash := PyData.keyHash P (Str.ofString "factorial_exponent"), key := Value.str (Str.ofString "factorial_exponent") 368, val := Value.ref 135 }, { hash := PyData.keyHash P (Str.ofString "binomial"), key := Value.str (Str.ofString "binomial") 381, val := Value.ref 142 }, { hash := PyData.keyHash P (Str.ofString "plain_of"), key := Value.str (Str.ofString "plain_of") 393, val := Value.ref 149 }, { hash := PyData.keyHash P (Str.ofString "check_base"), key := Value.str (Str.ofString "check_base") 400, val := Value.ref 156 }, { hash := PyData.keyHash P (Str.ofString "digit_off"), key := Value.str (Str.ofString "digit_off") 412, val := Value.ref 163 }, { hash := PyData.keyHash P (Str.ofString "digits_plain"), key := Value.str (Str.ofString "digits_plain") 424, val := Value.ref 170 }] 29 }
noncomputable def ob12at22 : Obj := { cls := Value.none, data := Data.fields #[Value.int 2 0, Value.int 0 0, Value.ref 20, Value.int 4 0, Value.int 0 0, Value.ref 33, Value.int 6 0, Value.int 0 0, Value.ref 45, Value.int 8 0, Value.int 0 0, Value.ref 57, Value.int 13 0, Value.int 0 0, Value.ref 64, Value.int 21 0, Value.int 0 0, Value.ref 71, Value.int 28 0, Value.int 0 0, Value.ref 78, Value.int 37 0, Value.int 0 0, Value.ref 85, Value.int 49 0, Value.int 0 0, Value.ref 92, Value.int 56 0, Value.int 0 0, Value.ref 99, Value.int 59 0, Value.int 0 0, Value.ref 106, Value.int 68 0, Value.int 0 0, Value.ref 113, Value.int 71 0, Value.int 0 0, Value.ref 120, Value.int 80 0, Value.int 0 0, Value.ref 127, Value.int 87 0, Value.int 0 0, Value.ref 134, Value.int 93 0, Value.int 0 0, Value.ref 141, Value.int 105 0, Value.int 0 0, Value.ref 148, Value.int 110 0, Value.int 0 0, Value.ref 155, Value.int 113 0, Value.int 0 0, Value.ref 162, Value.int 118 0, Value.int 0 0, Value.ref 169] }
noncomputable def ob3at31 : Obj := { cls := Value.type "dict", data := Data.dict #[{ hash := PyData.keyHash P (Str.ofString "__name__"), key := Value.str (Str.ofString "__name__") 165, val := Value.str (Str.ofString "gmp.school") 476 }, { hash := PyData.keyHash P (Str.ofString "__doc__"), key := Value.str (Str.ofString "__doc__") 166, val := Value.none }, { hash := PyData.keyHash P (Str.ofString "__package__"), key := Value.str (Str.ofString "__package__") 167, val := Value.none }, { hash := PyData.keyHash P (Str.ofString "__loader__"), key := Value.str (Str.ofString "__loader__") 168, val := Value.builtin "__main__.__loader__#opaque" }, { hash := PyData.keyHash P (Str.ofString "__spec__"), key := Value.str (Str.ofString "__spec__") 169, val := Value.none }, { hash := PyData.keyHash P (Str.ofString "__annotations__"), key := Value.str (Str.ofString "__annotations__") 170, val := Value.ref 6 }, { hash := PyData.keyHash P (Str.ofString "__builtins__"), key := Value.str (Str.ofString "__builtins__") 171, val := Value.ref 4 }, { hash := PyData.keyHash P (Str.ofString "__file__"), key := Value.str (Str.ofString "__file__") 173, val := Value.str (Str.ofString "/claim/cut.py") 172 }, { hash := PyData.keyHash P (Str.ofString "__cached__"), key := Value.str (Str.ofString "__cached__") 174, val := Value.none }, { hash := PyData.keyHash P (Str.ofString "GmpError"), key := Value.str (Str.ofString "GmpError") 208, val := Value.ref 24 }, { hash := PyData.keyHash P (Str.ofString "DivisionByZero"), key := Value.str (Str.ofString "DivisionByZero") 224, val := Value.ref 37 }, { hash := PyData.keyHash P (Str.ofString "OutOfRange"), key := Value.str (Str.ofString "OutOfRange") 240, val := Value.ref 49 }, { hash := PyData.keyHash P (Str.ofString "normal"), key := Value.str (Str.ofString "normal") 248, val := Value.ref 58 }, { hash := PyData.keyHash P (Str.ofString "nat_of"), key := Value.str (Str.ofString "nat_of") 258, val := Value.ref 65 }, { hash := PyData.keyHash P (Str.ofString "compare"), key := Value.str (Str.ofString "compare") 267, val := Value.ref 72 }, { hash := PyData.keyHash P (Str.ofString "divrem_limb"), key := Value.str (Str.ofString "divrem_limb") 279, val := Value.ref 79 }, { hash := PyData.keyHash P (Str.ofString "shift_left"), key := Value.str (Str.ofString "shift_left") 294, val := Value.ref 86 }, { hash := PyData.keyHash P (Str.ofString "shift_right"), key := Value.str (Str.ofString "shift_right") 309, val := Value.ref 93 }, { hash := PyData.keyHash P (Str.ofString "bits"), key := Value.str (Str.ofString "bits") 317, val := Value.ref 100 }, { hash := PyData.keyHash P (Str.ofString "sieve"), key := Value.str (Str.ofString "sieve") 330, val := Value.ref 107 }, { hash := PyData.keyHash P (Str.ofString "need_count"), key := Value.str (Str.ofString "need_count") 337, val := Value.ref 114 }, { hash := PyData.keyHash P (Str.ofString "power_of_count"), key := Value.str (Str.ofString "power_of_count") 349, val := Value.ref 121 }, { hash := PyData.keyHash P (Str.ofString "product_of_powers"), key := Value.str (Str.ofString "product_of_powers") 359, val := Value.ref 128 }, { hash := PyData.keyHash P (Str.ofString "factorial_exponent"), key := Value.str (Str.ofString "factorial_exponent") 368, val := Value.ref 135 }, { hash := PyData.keyHash P (Str.ofString "binomial"), key := Value.str (Str.ofString "binomial") 381, val := Value.ref 142 }, { hash := PyData.keyHash P (Str.ofString "plain_of"), key := Value.str (Str.ofString "plain_of") 393, val := Value.ref 149 }, { hash := PyData.keyHash P (Str.ofString "check_base"), key := Value.str (Str.ofString "check_base") 400, val := Value.ref 156 }, { hash := PyData.keyHash P (Str.ofString "digit_off"), key := Value.str (Str.ofString "digit_off") 412, val := Value.ref 163 }, { hash := PyData.keyHash P (Str.ofString "digits_plain"), key := Value.str (Str.ofString "digits_plain") 424, val := Value.ref 170 }, { hash := PyData.keyHash P (Str.ofString "base_powers"), key := Value.str (Str.ofString "base_powers") 436, val := Value.ref 177 }, { hash := PyData.keyHash P (Str.ofString "with_noughts"), key := Value.str (Str.ofString "with_noughts") 444, val := Value.ref 184 }, { hash := PyData.keyHash P (Str.ofString "digits_by_powers"), key := Value.str (Str.ofString "digits_by_powers") 462, val := Value.ref 191 }, { hash := PyData.keyHash P (Str.ofString "to_digits"), key := Value.str (Str.ofString "to_digits") 475, val := Value.ref 198 }, { hash := PyData.keyHash P (Str.ofString "mul_school"), key := Value.str (Str.ofString "mul_school") 493, val := Value.ref 205 }, { hash := PyData.keyHash P (Str.ofString "divrem_small"), key := Value.str (Str.ofString "divrem_small") 504, val := Value.ref 212 }, { hash := PyData.keyHash P (Str.ofString "guessed_limb"), key := Value.str (Str.ofString "guessed_limb") 518, val := Value.ref 219 }, { hash := PyData.keyHash P (Str.ofString "take_away"), key := Value.str (Str.ofString "take_away") 534, val := Value.ref 226 }] 37 }
noncomputable def ob12at31 : Obj := { cls := Value.none, data := Data.fields #[Value.int 2 0, Value.int 0 0, Value.ref 20, Value.int 4 0, Value.int 0 0, Value.ref 33, Value.int 6 0, Value.int 0 0, Value.ref 45, Value.int 8 0, Value.int 0 0, Value.ref 57, Value.int 13 0, Value.int 0 0, Value.ref 64, Value.int 21 0, Value.int 0 0, Value.ref 71, Value.int 28 0, Value.int 0 0, Value.ref 78, Value.int 37 0, Value.int 0 0, Value.ref 85, Value.int 49 0, Value.int 0 0, Value.ref 92, Value.int 56 0, Value.int 0 0, Value.ref 99, Value.int 59 0, Value.int 0 0, Value.ref 106, Value.int 68 0, Value.int 0 0, Value.ref 113, Value.int 71 0, Value.int 0 0, Value.ref 120, Value.int 80 0, Value.int 0 0, Value.ref 127, Value.int 87 0, Value.int 0 0, Value.ref 134, Value.int 93 0, Value.int 0 0, Value.ref 141, Value.int 105 0, Value.int 0 0, Value.ref 148, Value.int 110 0, Value.int 0 0, Value.ref 155, Value.int 113 0, Value.int 0 0, Value.ref 162, Value.int 118 0, Value.int 0 0, Value.ref 169, Value.int 125 0, Value.int 0 0, Value.ref 176, Value.int 131 0, Value.int 0 0, Value.ref 183, Value.int 133 0, Value.int 0 0, Value.ref 190, Value.int 142 0, Value.int 0 0, Value.ref 197, Value.int 147 0, Value.int 0 0, Value.ref 204, Value.int 157 0, Value.int 0 0, Value.ref 211, Value.int 160 0, Value.int 0 0, Value.ref 218, Value.int 168 0, Value.int 0 0, Value.ref 225] }
noncomputable def obspre : List Obj := [boot_o_0 P, boot_o_1 P, ob2atpre, ob3atpre P, boot_o_4 P, boot_o_5 P, boot_o_6 P, boot_o_7 P, boot_o_8 P, boot_o_9 P, boot_o_10 P, ob11, ob12atpre, ob13, ob14]
noncomputable def obs3 : List Obj := [boot_o_0 P, boot_o_1 P, ob2 P, ob3at3 P, boot_o_4 P, boot_o_5 P, boot_o_6 P, boot_o_7 P, boot_o_8 P, boot_o_9 P, boot_o_10 P, ob11, ob12at3, ob13, ob14, ob15, ob16, ob17 P, ob18, ob19, ob20, ob21, ob22, ob23 P, ob24, ob25, ob26, ob27, ob28, ob29, ob30 P, ob31, ob32, ob33, ob34, ob35, ob36 P, ob37, ob38, ob39, ob40, ob41, ob42 P, ob43, ob44, ob45, ob46, ob47, ob48 P, ob49, ob50, ob51]
noncomputable def obs12 : List Obj := [boot_o_0 P, boot_o_1 P, ob2 P, ob3at12 P, boot_o_4 P, boot_o_5 P, boot_o_6 P, boot_o_7 P, boot_o_8 P, boot_o_9 P, boot_o_10 P, ob11, ob12at12, ob13, ob14, ob15, ob16, ob17 P, ob18, ob19, ob20, ob21, ob22, ob23 P, ob24, ob25, ob26, ob27, ob28, ob29, ob30 P, ob31, ob32, ob33, ob34, ob35, ob36 P, ob37, ob38, ob39, ob40, ob41, ob42 P, ob43, ob44, ob45, ob46, ob47, ob48 P, ob49, ob50, ob51, ob52, ob53, ob54, ob55, ob56, ob57, ob58, ob59, ob60, ob61, ob62, ob63, ob64, ob65, ob66, ob67, ob68, ob69, ob70, ob71, ob72, ob73, ob74, ob75, ob76, ob77, ob78, ob79, ob80, ob81, ob82, ob83, ob84, ob85, ob86, ob87, ob88, ob89, ob90, ob91, ob92, ob93, ob94, ob95, ob96, ob97, ob98, ob99, ob100, ob101, ob102, ob103, ob104, ob105, ob106, ob107]
noncomputable def obs22 : List Obj := [boot_o_0 P, boot_o_1 P, ob2 P, ob3at22 P, boot_o_4 P, boot_o_5 P, boot_o_6 P, boot_o_7 P, boot_o_8 P, boot_o_9 P, boot_o_10 P, ob11, ob12at22, ob13, ob14, ob15, ob16, ob17 P, ob18, ob19, ob20, ob21, ob22, ob23 P, ob24, ob25, ob26, ob27, ob28, ob29, ob30 P, ob31, ob32, ob33, ob34, ob35, ob36 P, ob37, ob38, ob39, ob40, ob41, ob42 P, ob43, ob44, ob45, ob46, ob47, ob48 P, ob49, ob50, ob51, ob52, ob53, ob54, ob55, ob56, ob57, ob58, ob59, ob60, ob61, ob62, ob63, ob64, ob65, ob66, ob67, ob68, ob69, ob70, ob71, ob72, ob73, ob74, ob75, ob76, ob77, ob78, ob79, ob80, ob81, ob82, ob83, ob84, ob85, ob86, ob87, ob88, ob89, ob90, ob91, ob92, ob93, ob94, ob95, ob96, ob97, ob98, ob99, ob100, ob101, ob102, ob103, ob104, ob105, ob106, ob107, ob108, ob109, ob110, ob111, ob112, ob113, ob114, ob115, ob116, ob117, ob118, ob119, ob120, ob121, ob122, ob123, ob124, ob125, ob126, ob127, ob128, ob129, ob130, ob131, ob132, ob133, ob134, ob135, ob136, ob137, ob138, ob139, ob140, ob141, ob142, ob143, ob144, ob145, ob146, ob147, ob148, ob149, ob150, ob151, ob152, ob153, ob154, ob155, ob156, ob157, ob158, ob159, ob160, ob161, ob162, ob163, ob164, ob165, ob166, ob167, ob168, ob169, ob170]
noncomputable def obs31 : List Obj := [boot_o_0 P, boot_o_1 P, ob2 P, ob3at31 P, boot_o_4 P, boot_o_5 P, boot_o_6 P, boot_o_7 P, boot_o_8 P, boot_o_9 P, boot_o_10 P, ob11, ob12at31, ob13, ob14, ob15, ob16, ob17 P, ob18, ob19, ob20, ob21, ob22, ob23 P, ob24, ob25, ob26, ob27, ob28, ob29, ob30 P, ob31, ob32, ob33, ob34, ob35, ob36 P, ob37, ob38, ob39, ob40, ob41, ob42 P, ob43, ob44, ob45, ob46, ob47, ob48 P, ob49, ob50, ob51, ob52, ob53, ob54, ob55, ob56, ob57, ob58, ob59, ob60, ob61, ob62, ob63, ob64, ob65, ob66, ob67, ob68, ob69, ob70, ob71, ob72, ob73, ob74, ob75, ob76, ob77, ob78, ob79, ob80, ob81, ob82, ob83, ob84, ob85, ob86, ob87, ob88, ob89, ob90, ob91, ob92, ob93, ob94, ob95, ob96, ob97, ob98, ob99, ob100, ob101, ob102, ob103, ob104, ob105, ob106, ob107, ob108, ob109, ob110, ob111, ob112, ob113, ob114, ob115, ob116, ob117, ob118, ob119, ob120, ob121, ob122, ob123, ob124, ob125, ob126, ob127, ob128, ob129, ob130, ob131, ob132, ob133, ob134, ob135, ob136, ob137, ob138, ob139, ob140, ob141, ob142, ob143, ob144, ob145, ob146, ob147, ob148, ob149, ob150, ob151, ob152, ob153, ob154, ob155, ob156, ob157, ob158, ob159, ob160, ob161, ob162, ob163, ob164, ob165, ob166, ob167, ob168, ob169, ob170, ob171, ob172, ob173, ob174, ob175, ob176, ob177, ob178, ob179, ob180, ob181, ob182, ob183, ob184, ob185, ob186, ob187, ob188, ob189, ob190, ob191, ob192, ob193, ob194, ob195, ob196, ob197, ob198, ob199, ob200, ob201, ob202, ob203, ob204, ob205, ob206, ob207, ob208, ob209, ob210, ob211, ob212, ob213, ob214, ob215, ob216, ob217, ob218, ob219, ob220, ob221, ob222, ob223, ob224, ob225, ob226]
noncomputable def obs42 : List Obj := [boot_o_0 P, boot_o_1 P, ob2 P, ob3 P, boot_o_4 P, boot_o_5 P, boot_o_6 P, boot_o_7 P, boot_o_8 P, boot_o_9 P, boot_o_10 P, ob11, ob12, ob13, ob14, ob15, ob16, ob17 P, ob18, ob19, ob20, ob21, ob22, ob23 P, ob24, ob25, ob26, ob27, ob28, ob29, ob30 P, ob31, ob32, ob33, ob34, ob35, ob36 P, ob37, ob38, ob39, ob40, ob41, ob42 P, ob43, ob44, ob45, ob46, ob47, ob48 P, ob49, ob50, ob51, ob52, ob53, ob54, ob55, ob56, ob57, ob58, ob59, ob60, ob61, ob62, ob63, ob64, ob65, ob66, ob67, ob68, ob69, ob70, ob71, ob72, ob73, ob74, ob75, ob76, ob77, ob78, ob79, ob80, ob81, ob82, ob83, ob84, ob85, ob86, ob87, ob88, ob89, ob90, ob91, ob92, ob93, ob94, ob95, ob96, ob97, ob98, ob99, ob100, ob101, ob102, ob103, ob104, ob105, ob106, ob107, ob108, ob109, ob110, ob111, ob112, ob113, ob114, ob115, ob116, ob117, ob118, ob119, ob120, ob121, ob122, ob123, ob124, ob125, ob126, ob127, ob128, ob129, ob130, ob131, ob132, ob133, ob134, ob135, ob136, ob137, ob138, ob139, ob140, ob141, ob142, ob143, ob144, ob145, ob146, ob147, ob148, ob149, ob150, ob151, ob152, ob153, ob154, ob155, ob156, ob157, ob158, ob159, ob160, ob161, ob162, ob163, ob164, ob165, ob166, ob167, ob168, ob169, ob170, ob171, ob172, ob173, ob174, ob175, ob176, ob177, ob178, ob179, ob180, ob181, ob182, ob183, ob184, ob185, ob186, ob187, ob188, ob189, ob190, ob191, ob192, ob193, ob194, ob195, ob196, ob197, ob198, ob199, ob200, ob201, ob202, ob203, ob204, ob205, ob206, ob207, ob208, ob209, ob210, ob211, ob212, ob213, ob214, ob215, ob216, ob217, ob218, ob219, ob220, ob221, ob222, ob223, ob224, ob225, ob226, ob227, ob228, ob229, ob230, ob231, ob232, ob233, ob234, ob235, ob236, ob237, ob238, ob239, ob240, ob241, ob242, ob243, ob244, ob245, ob246, ob247, ob248, ob249, ob250, ob251, ob252, ob253, ob254, ob255, ob256, ob257, ob258, ob259, ob260, ob261, ob262, ob263, ob264, ob265, ob266, ob267, ob268, ob269, ob270, ob271, ob272, ob273, ob274, ob275, ob276, ob277, ob278, ob279, ob280, ob281, ob282, ob283, ob284, ob285, ob286, ob287, ob288, ob289, ob290, ob291, ob292]
end
def treeOf : List Obj → Nat → BT → BT
  | [], _, t => t
  | o :: l, i, t => treeOf l (i + 1) (t.ins i o)
abbrev pr : Program := PySem.Challenge.rw_xm0411_01.row.prog
noncomputable def stAt (l : Params → List Obj) (n toks : Nat) (w : World) (os : OsState) : SharedT := ⟨treeOf (l w.params) 0 .nil, n, (boot_heap w.params).life, Array.mk [], boot_drawn, toks, os⟩
noncomputable def tenv : Env := { scope := pr.main.scope, locals := mainNs, globals := mainNs, cells := [], code := .ref 13, frame := some 14 }
noncomputable def tpos : Pos := ⟨0, 0, 0, 0⟩
noncomputable def tann : Option Value := some (.ref 6)
def sts3 : List Stmt := (pr.main.body.drop 0).take 4
def sts12 : List Stmt := (pr.main.body.drop 4).take 9
def sts22 : List Stmt := (pr.main.body.drop 13).take 10
def sts31 : List Stmt := (pr.main.body.drop 23).take 9
def sts42 : List Stmt := (pr.main.body.drop 32).take 11
def tbody : List Stmt := sts3 ++ (sts12 ++ (sts22 ++ (sts31 ++ (sts42 ++ []))))
noncomputable abbrev tcode : Code := .body tbody tenv
theorem seg_pre : ∀ (w : World) (os : OsState), topGo treeTable pr w 11 tann 12 ⟨boot_heap w.params, Array.mk [], boot_drawn, boot_toks, os⟩ (topStub pr) = some ((stAt obspre 15 187 w os).abs, ⟨denote treeTable tcode, tcode, tpos, [topFrame tpos]⟩) := by
  intro w os; kernel_rfl
theorem seg_block : ∀ (w : World) (os : OsState), segRun treeTable pr w 11 tann 1 1 (stAt obspre 15 187 w os).abs (blockOf tbody tenv tcode tpos [topFrame tpos]) = some (.next, (stAt obspre 15 187 w os).abs, tcode, tpos) := by
  intro w os; kernel_rfl
theorem seg3 : ∀ (w : World) (os : OsState), segRunT treeTable pr w 11 tann 1 632 (stAt obspre 15 187 w os) (piecesOf sts3 tenv tcode tpos [topFrame tpos]) = some (.next, (stAt obs3 52 241 w os), tcode, ⟨6, 0, 7, 8⟩) := by
  intro w os; kernel_rfl
theorem seg12 : ∀ (w : World) (os : OsState), segRunT treeTable pr w 11 tann 1 274 (stAt obs3 52 241 w os) (piecesOf sts12 tenv tcode ⟨6, 0, 7, 8⟩ [topFrame tpos]) = some (.next, (stAt obs12 108 331 w os), tcode, ⟨59, 0, 67, 16⟩) := by
  intro w os; kernel_rfl
theorem seg22 : ∀ (w : World) (os : OsState), segRunT treeTable pr w 11 tann 1 300 (stAt obs12 108 331 w os) (piecesOf sts22 tenv tcode ⟨59, 0, 67, 16⟩ [topFrame tpos]) = some (.next, (stAt obs22 171 425 w os), tcode, ⟨118, 0, 124, 16⟩) := by
  intro w os; kernel_rfl
theorem seg31 : ∀ (w : World) (os : OsState), segRunT treeTable pr w 11 tann 1 294 (stAt obs22 171 425 w os) (piecesOf sts31 tenv tcode ⟨118, 0, 124, 16⟩ [topFrame tpos]) = some (.next, (stAt obs31 227 535 w os), tcode, ⟨168, 0, 176, 31⟩) := by
  intro w os; kernel_rfl
theorem seg42 : ∀ (w : World) (os : OsState), segRunT treeTable pr w 11 tann 1 325 (stAt obs31 227 535 w os) (piecesOf sts42 tenv tcode ⟨168, 0, 176, 31⟩ [topFrame tpos]) = some (.next, (stAt obs42 293 636 w os), tcode, ⟨237, 0, 258, 15⟩) := by
  intro w os; kernel_rfl
theorem seg_fin : ∀ (w : World) (os : OsState), topRun treeTable pr w 11 tann 2 (stAt obs42 293 636 w os).abs ⟨doneF .next, tcode, ⟨237, 0, 258, 15⟩, [topFrame tpos]⟩ = some (stAt obs42 293 636 w os).abs := by
  intro w os; kernel_rfl
theorem top_run : ∀ (w : World) (os : OsState), topRun treeTable pr w 11 tann (12 + (1 + (632 + (274 + (300 + (294 + (325 + 2))))))) ⟨boot_heap w.params, Array.mk [], boot_drawn, boot_toks, os⟩ (topStub pr) = some (stAt obs42 293 636 w os).abs := fun w os =>
  go_top (seg_pre w os) (piece_block (seg_block w os) (piece_app (segRun_of (seg3 w os)) (piece_app (segRun_of (seg12 w os)) (piece_app (segRun_of (seg22 w os)) (piece_app (segRun_of (seg31 w os)) (piece_app (segRun_of (seg42 w os)) (piece_nil (seg_fin w os))))))))
theorem boot_here : ∀ w : World, (fencedOpening treeTable pr w 3800).map (fun s => (s.heap, s.gens, s.drawn, s.toks)) = some (boot_heap w.params, Array.mk [], boot_drawn, boot_toks) :=
  boot_open (p := pr) (N := 3800) (by rfl) (by rfl) (fun _ => rfl)
theorem boot_size : ∀ w : World, ((boot_heap w.params).isNs mainGlobals && (Array.mk [] : Array GenState).size == 0, (boot_heap w.params).objs.size, (boot_heap w.params).nsMap mainGlobals "__annotations__") = (true, 11, tann) := by
  intro w; kernel_rfl
end Mine
end
section
open PySem PySem.W PyProof.Rows
set_option maxRecDepth 100000
namespace Mine
theorem kae : ∀ P : Params, Mine.KA = (Mine.KK P).map (·.1) := fun _ => by kernel_rfl
noncomputable abbrev heapB (P : Params) : Heap := absHeap (treeOf (obs42 P) 0 .nil) 293 (boot_heap P).life
noncomputable abbrev endB (w : World) (os : OsState) : Shared := ⟨heapB w.params, Array.mk [], boot_drawn, 636, os⟩
noncomputable abbrev hookB : Hook := kHook Mine.KK Mine.KA Mine.kae
def xtB (s : Shared) : Bool := xlAt Mine.view [] s && recOk (RowW.records PySem.Challenge.rw_xm0411_01.row.toRowW) s
theorem looks1 : ∀ (w : World), (fun os => (staticsOk (importedModules pr.main.body) (boot_heap w.params) (heapB w.params) && namesBound pr (heapB w.params) && gensDone (endB w os) && laidKept (boot_heap w.params) (heapB w.params))) = fun _ => true := by
  intro w; kernel_rfl
theorem looks2 : ∀ (w : World), (fun os => openSeen Mine.view [] (importedModules pr.main.body) xtB true (endB w os)) = fun _ => openGood Mine.view [] := by
  intro w; kernel_rfl
theorem looks3 : ∀ (w : World), (fun os => Hook.obs hookB (endB w os)) = fun _ => Hook.val hookB w := by
  intro w; kernel_rfl
theorem end_eq (w : World) (os : OsState) : (stAt obs42 293 636 w os).abs = endB w os := by simp only [stAt, SharedT.abs, endB, heapB]
theorem left_le : Nat.ble (12 + (1 + (632 + (274 + (300 + (294 + (325 + 2))))))) 3800 = true := rfl
theorem left : LeftO pr Mine.view [] xtB (Hook.obs hookB) (Hook.val hookB) 3800 true :=
  LeftO.of_pieces (H₀ := boot_heap) (H₁ := heapB) (gs₀ := Array.mk []) (gs₁ := Array.mk []) (d₀ := boot_drawn) (d₁ := boot_drawn) (k₀ := boot_toks) (k₁ := 636) (m₀ := 11) (ann := tann) (M := 12 + (1 + (632 + (274 + (300 + (294 + (325 + 2))))))) boot_here boot_size (fun w os => (top_run w os).trans (congrArg some (end_eq w os))) left_le
    (fun w => funext fun os => Prod.ext (congrFun (looks1 w) os) (Prod.ext (congrFun (looks2 w) os) (congrFun (looks3 w) os)))
end Mine
end
section
open PySem PySem.W PyProof.Rows PySem.Spec PySem.Calls
set_option maxRecDepth 100000
namespace Mine

end Mine
open Mine
set_option maxRecDepth 100000 in
set_option maxHeartbeats 0 in
theorem PySem.Challenge.cw_xm0411_01_holds : PySem.Challenge.rw_xm0411_01.Holds := by
  w_on; o_law
  refine holds_open (q := Mine.view) (loose := []) (Xt := fun s => xlAt Mine.view [] s && recOk (RowW.records PySem.Challenge.rw_xm0411_01.row.toRowW) s) (XP := XL Mine.view []) (Yf := Hook.obs (kHook Mine.KK Mine.KA Mine.kae)) (Ya := Hook.val (kHook Mine.KK Mine.KA Mine.kae)) (YP := Hook.says (kHook Mine.KK Mine.KA Mine.kae)) (N := 3800) ?hl (Hook.of (kHook Mine.KK Mine.KA Mine.kae)) (Hook.keeps (kHook Mine.KK Mine.KA Mine.kae)) (fun s e => xl_of s (Bool.and_eq_true_iff.mp e).1) XL.keeps (by rfl) (by rfl) (by rfl) (fun s e => recFacts_of (Bool.and_eq_true_iff.mp e).2) (by rfl) (by first | assumption | decide +kernel) (by decide +kernel) ⟨rfl, rfl, rfl, rfl, rfl, by decide +kernel⟩ ?hw ?hc
  case hw => w_witness2
  case hl => exact Mine.left
  case hc =>
    k_fill
    intro w s₀ s₁ mg mb G Y fa o pm cd doc dV kV ho hd hcd hD hmg hg args vals as hpre hlay hrd hwl hlo
    have KX := kIn_of Y
    k_behind G ho hd hcd hD hmg hpre hlay hrd hwl hlo cd
    clear hcd hD
    (k_dflt refine' wpAny_noRaise (body_ok _ _ _ _ _ _ _ _ _ _ _ _ _ _ _ _ ?b1 ?b2 ?b3 ?b4 ?b5 ?b6 ?b7 ?b8 ?b9))
    case b1 => k_asm
    case b2 => k_asm
    case b3 => k_asm
    case b4 => k_asm
    case b5 => exact rfl
    case b6 => assumption
    case b7 => assumption
    case b8 => omega
    case b9 =>
      intro m' h' news' tk' F' N'
      k_steps
end
