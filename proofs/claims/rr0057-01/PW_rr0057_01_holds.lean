import PyProof.Rows.All
import Wide.All
import OpenK.AllK
import Wide.FinOn
import PySem.Challenge.RW_rr0057_01
open PySem PySem.W PyProof.Rows
set_option Elab.async false
set_option linter.unusedVariables false
set_option linter.unusedSimpArgs false
set_option maxRecDepth 100000
set_option maxHeartbeats 0
namespace Mine
open PySem.Calls PySem.Spec
-- HeadM
noncomputable abbrev PW : Program := PySem.Challenge.pw_rr0057_01
noncomputable def defAtN (i : Nat) : Arguments × List Stmt × Scope := match PySem.Challenge.pw_rr0057_01.main.body[i]? with
  | some (.FunctionDef _ ps b _ _ _ sc _ _ _) => (ps, b, sc)
  | _ => default
noncomputable def KK : Params → Frag := fun P =>
((nat_lit 2), { cls := Value.none, data := Data.dict #[{ hash := PyData.keyHash P (Str.ofString "type.__subclasses__.Exception.0"), key := Value.str (Str.ofString "type.__subclasses__.Exception.0") 205, val := Value.int 24 0 }, { hash := PyData.keyHash P (Str.ofString "type.__subclasses__.Exception.n"), key := Value.str (Str.ofString "type.__subclasses__.Exception.n") 206, val := Value.int 1 0 }] 2 }) ::
((nat_lit 3), { cls := Value.type "dict", data := Data.dict #[{ hash := PyData.keyHash P (Str.ofString "__name__"), key := Value.str (Str.ofString "__name__") 165, val := Value.str (Str.ofString "law_rr0057_01") 484 }, { hash := PyData.keyHash P (Str.ofString "__doc__"), key := Value.str (Str.ofString "__doc__") 166, val := Value.none }, { hash := PyData.keyHash P (Str.ofString "__package__"), key := Value.str (Str.ofString "__package__") 167, val := Value.none }, { hash := PyData.keyHash P (Str.ofString "__loader__"), key := Value.str (Str.ofString "__loader__") 168, val := Value.builtin "__main__.__loader__#opaque" }, { hash := PyData.keyHash P (Str.ofString "__spec__"), key := Value.str (Str.ofString "__spec__") 169, val := Value.none }, { hash := PyData.keyHash P (Str.ofString "__annotations__"), key := Value.str (Str.ofString "__annotations__") 170, val := Value.ref 6 }, { hash := PyData.keyHash P (Str.ofString "__builtins__"), key := Value.str (Str.ofString "__builtins__") 171, val := Value.ref 4 }, { hash := PyData.keyHash P (Str.ofString "__file__"), key := Value.str (Str.ofString "__file__") 173, val := Value.str (Str.ofString "/claim/cut.py") 172 }, { hash := PyData.keyHash P (Str.ofString "__cached__"), key := Value.str (Str.ofString "__cached__") 174, val := Value.none }, { hash := PyData.keyHash P (Str.ofString "GmpError"), key := Value.str (Str.ofString "GmpError") 208, val := Value.ref 24 }, { hash := PyData.keyHash P (Str.ofString "OutOfRange"), key := Value.str (Str.ofString "OutOfRange") 224, val := Value.ref 37 }, { hash := PyData.keyHash P (Str.ofString "normal"), key := Value.str (Str.ofString "normal") 232, val := Value.ref 46 }, { hash := PyData.keyHash P (Str.ofString "nat_of"), key := Value.str (Str.ofString "nat_of") 242, val := Value.ref 53 }, { hash := PyData.keyHash P (Str.ofString "is_even"), key := Value.str (Str.ofString "is_even") 249, val := Value.ref 60 }, { hash := PyData.keyHash P (Str.ofString "compare"), key := Value.str (Str.ofString "compare") 258, val := Value.ref 67 }, { hash := PyData.keyHash P (Str.ofString "add"), key := Value.str (Str.ofString "add") 271, val := Value.ref 74 }, { hash := PyData.keyHash P (Str.ofString "sub"), key := Value.str (Str.ofString "sub") 285, val := Value.ref 81 }, { hash := PyData.keyHash P (Str.ofString "lifted"), key := Value.str (Str.ofString "lifted") 293, val := Value.ref 88 }, { hash := PyData.keyHash P (Str.ofString "shift_left"), key := Value.str (Str.ofString "shift_left") 308, val := Value.ref 95 }, { hash := PyData.keyHash P (Str.ofString "shift_right"), key := Value.str (Str.ofString "shift_right") 323, val := Value.ref 102 }, { hash := PyData.keyHash P (Str.ofString "bits"), key := Value.str (Str.ofString "bits") 331, val := Value.ref 109 }, { hash := PyData.keyHash P (Str.ofString "low"), key := Value.str (Str.ofString "low") 342, val := Value.ref 116 }, { hash := PyData.keyHash P (Str.ofString "need_limbs"), key := Value.str (Str.ofString "need_limbs") 351, val := Value.ref 123 }, { hash := PyData.keyHash P (Str.ofString "fold_minus"), key := Value.str (Str.ofString "fold_minus") 361, val := Value.ref 130 }, { hash := PyData.keyHash P (Str.ofString "fold_plus"), key := Value.str (Str.ofString "fold_plus") 375, val := Value.ref 137 }, { hash := PyData.keyHash P (Str.ofString "joined_rests"), key := Value.str (Str.ofString "joined_rests") 389, val := Value.ref 144 }, { hash := PyData.keyHash P (Str.ofString "wrapped_product"), key := Value.str (Str.ofString "wrapped_product") 404, val := Value.ref 151 }, { hash := PyData.keyHash P (Str.ofString "ring_one"), key := Value.str (Str.ofString "ring_one") 414, val := Value.ref 158 }, { hash := PyData.keyHash P (Str.ofString "ring_add"), key := Value.str (Str.ofString "ring_add") 425, val := Value.ref 165 }, { hash := PyData.keyHash P (Str.ofString "ring_sub"), key := Value.str (Str.ofString "ring_sub") 435, val := Value.ref 172 }, { hash := PyData.keyHash P (Str.ofString "ring_neg"), key := Value.str (Str.ofString "ring_neg") 444, val := Value.ref 179 }, { hash := PyData.keyHash P (Str.ofString "need_ring"), key := Value.str (Str.ofString "need_ring") 451, val := Value.ref 186 }, { hash := PyData.keyHash P (Str.ofString "ring_fold"), key := Value.str (Str.ofString "ring_fold") 463, val := Value.ref 193 }, { hash := PyData.keyHash P (Str.ofString "ring_shift"), key := Value.str (Str.ofString "ring_shift") 473, val := Value.ref 200 }, { hash := PyData.keyHash P (Str.ofString "element_of"), key := Value.str (Str.ofString "element_of") 483, val := Value.ref 207 }, { hash := PyData.keyHash P (Str.ofString "_law_got"), key := Value.str (Str.ofString "_law_got") 493, val := Value.ref 214 }, { hash := PyData.keyHash P (Str.ofString "_law_limbs"), key := Value.str (Str.ofString "_law_limbs") 502, val := Value.ref 221 }, { hash := PyData.keyHash P (Str.ofString "_law_mul"), key := Value.str (Str.ofString "_law_mul") 508, val := Value.ref 226 }, { hash := PyData.keyHash P (Str.ofString "_law_number"), key := Value.str (Str.ofString "_law_number") 520, val := Value.ref 233 }, { hash := PyData.keyHash P (Str.ofString "_law_told"), key := Value.str (Str.ofString "_law_told") 527, val := Value.ref 240 }, { hash := PyData.keyHash P (Str.ofString "law"), key := Value.str (Str.ofString "law") 533, val := Value.ref 245 }] 41 }) ::
((nat_lit 15), { cls := Value.type "tuple", data := Data.seq #[Value.type "Exception"] }) ::
((nat_lit 22), { cls := Value.type "tuple", data := Data.seq #[] }) ::
((nat_lit 23), { cls := Value.type "dict", data := Data.dict #[{ hash := PyData.keyHash P (Str.ofString "__module__"), key := Value.str (Str.ofString "__module__") 196, val := Value.str (Str.ofString "gmp.limbs") 187 }, { hash := PyData.keyHash P (Str.ofString "__firstlineno__"), key := Value.str (Str.ofString "__firstlineno__") 200, val := Value.int 2 199 }, { hash := PyData.keyHash P (Str.ofString "__static_attributes__"), key := Value.str (Str.ofString "__static_attributes__") 201, val := Value.ref 22 }, { hash := PyData.keyHash P (Str.ofString "__weakref__"), key := Value.str (Str.ofString "__weakref__") 203, val := Value.ref 25 }, { hash := PyData.keyHash P (Str.ofString "__doc__"), key := Value.str (Str.ofString "__doc__") 204, val := Value.none }] 3 }) ::
((nat_lit 24), { cls := Value.type "type", data := Data.cls { name := Str.ofString "GmpError", bases := [Value.type "Exception"], mro := [Value.ref 24, Value.type "Exception", Value.type "BaseException", Value.type "object"], ns := 23, qualname := Str.ofString "GmpError", subclasses := [Value.ref 37] }, slots := #[Option.some (Value.ref 15), Option.none, Option.some (Value.str (Str.ofString "GmpError") 189), Option.some (Value.str (Str.ofString "GmpError") 197), Option.some (Value.builtin "Exception.__new__"), Option.some (Value.bool Bool.true)] }) ::
((nat_lit 25), { cls := Value.type "getset_descriptor", data := Data.fields #[Value.str (Str.ofString "__weakref__") 202, Value.ref 24, Value.builtin "ExceptionGroup.__weakref__", Value.none] }) ::
((nat_lit 28), { cls := Value.type "tuple", data := Data.seq #[Value.ref 24] }) ::
((nat_lit 35), { cls := Value.type "tuple", data := Data.seq #[] }) ::
((nat_lit 36), { cls := Value.type "dict", data := Data.dict #[{ hash := PyData.keyHash P (Str.ofString "__module__"), key := Value.str (Str.ofString "__module__") 216, val := Value.str (Str.ofString "gmp.limbs") 187 }, { hash := PyData.keyHash P (Str.ofString "__firstlineno__"), key := Value.str (Str.ofString "__firstlineno__") 220, val := Value.int 4 219 }, { hash := PyData.keyHash P (Str.ofString "__static_attributes__"), key := Value.str (Str.ofString "__static_attributes__") 221, val := Value.ref 35 }, { hash := PyData.keyHash P (Str.ofString "__doc__"), key := Value.str (Str.ofString "__doc__") 222, val := Value.none }] 2 }) ::
((nat_lit 37), { cls := Value.type "type", data := Data.cls { name := Str.ofString "OutOfRange", bases := [Value.ref 24], mro := [Value.ref 37, Value.ref 24, Value.type "Exception", Value.type "BaseException", Value.type "object"], ns := 36, qualname := Str.ofString "OutOfRange" }, slots := #[Option.some (Value.ref 28), Option.none, Option.some (Value.str (Str.ofString "OutOfRange") 209), Option.some (Value.str (Str.ofString "OutOfRange") 217), Option.some (Value.builtin "Exception.__new__"), Option.some (Value.bool Bool.true)] }) ::
((nat_lit 40), { cls := Value.type "tuple", data := Data.seq #[] }) ::
((nat_lit 42), { cls := Value.type "tuple", data := Data.seq #[Value.str (Str.ofString "a") 228, Value.str (Str.ofString "end") 229] }) ::
((nat_lit 43), { cls := Value.type "tuple", data := Data.seq #[] }) ::
((nat_lit 45), { cls := Value.type "code", data := Data.fields #[Value.str (Str.ofString "normal") 225, Value.str (Str.ofString "normal") 226, Value.str (Str.ofString "/claim/cut.py") 227, Value.int 6 0, Value.int 1 0, Value.int 0 0, Value.int 0 0, Value.int 3 0, Value.ref 40, Value.bool Bool.true, Value.int 181 0, Value.ref 41, Value.none, Value.ref 42, Value.ref 43, Value.ref 44, Value.int 230 0, Value.int 6 0, Value.str (Str.ofString "/claim/cut.py") 231] }) ::
((nat_lit 46), { cls := Value.type "function", data := Data.func { name := Str.ofString "normal", qualname := Str.ofString "normal", params := (Mine.defAtN 3).fst, body := FuncBody.stmts (Mine.defAtN 3).snd.fst, scope := (Mine.defAtN 3).snd.snd, globals := 3, closure := [], defaults := Value.none, kwdefaults := Value.none, pyModule := Value.str (Str.ofString "gmp.limbs") 187, code := Value.ref 45 } }) ::
((nat_lit 47), { cls := Value.type "tuple", data := Data.seq #[] }) ::
((nat_lit 49), { cls := Value.type "tuple", data := Data.seq #[Value.str (Str.ofString "number") 236, Value.str (Str.ofString "w") 237, Value.str (Str.ofString "found") 238, Value.str (Str.ofString "mask") 239] }) ::
((nat_lit 50), { cls := Value.type "tuple", data := Data.seq #[] }) ::
((nat_lit 52), { cls := Value.type "code", data := Data.fields #[Value.str (Str.ofString "nat_of") 233, Value.str (Str.ofString "nat_of") 234, Value.str (Str.ofString "/claim/cut.py") 235, Value.int 11 0, Value.int 2 0, Value.int 0 0, Value.int 0 0, Value.int 3 0, Value.ref 47, Value.bool Bool.true, Value.int 181 0, Value.ref 48, Value.none, Value.ref 49, Value.ref 50, Value.ref 51, Value.int 240 0, Value.int 11 0, Value.str (Str.ofString "/claim/cut.py") 241] }) ::
((nat_lit 53), { cls := Value.type "function", data := Data.func { name := Str.ofString "nat_of", qualname := Str.ofString "nat_of", params := (Mine.defAtN 4).fst, body := FuncBody.stmts (Mine.defAtN 4).snd.fst, scope := (Mine.defAtN 4).snd.snd, globals := 3, closure := [], defaults := Value.none, kwdefaults := Value.none, pyModule := Value.str (Str.ofString "gmp.limbs") 187, code := Value.ref 52 } }) ::
((nat_lit 54), { cls := Value.type "tuple", data := Data.seq #[] }) ::
((nat_lit 56), { cls := Value.type "tuple", data := Data.seq #[Value.str (Str.ofString "a") 246] }) ::
((nat_lit 57), { cls := Value.type "tuple", data := Data.seq #[] }) ::
((nat_lit 59), { cls := Value.type "code", data := Data.fields #[Value.str (Str.ofString "is_even") 243, Value.str (Str.ofString "is_even") 244, Value.str (Str.ofString "/claim/cut.py") 245, Value.int 19 0, Value.int 1 0, Value.int 0 0, Value.int 0 0, Value.int 3 0, Value.ref 54, Value.bool Bool.true, Value.int 181 0, Value.ref 55, Value.none, Value.ref 56, Value.ref 57, Value.ref 58, Value.int 247 0, Value.int 19 0, Value.str (Str.ofString "/claim/cut.py") 248] }) ::
((nat_lit 60), { cls := Value.type "function", data := Data.func { name := Str.ofString "is_even", qualname := Str.ofString "is_even", params := (Mine.defAtN 5).fst, body := FuncBody.stmts (Mine.defAtN 5).snd.fst, scope := (Mine.defAtN 5).snd.snd, globals := 3, closure := [], defaults := Value.none, kwdefaults := Value.none, pyModule := Value.str (Str.ofString "gmp.limbs") 187, code := Value.ref 59 } }) ::
((nat_lit 61), { cls := Value.type "tuple", data := Data.seq #[] }) ::
((nat_lit 63), { cls := Value.type "tuple", data := Data.seq #[Value.str (Str.ofString "a") 253, Value.str (Str.ofString "b") 254, Value.str (Str.ofString "at") 255] }) ::
((nat_lit 64), { cls := Value.type "tuple", data := Data.seq #[] }) ::
((nat_lit 66), { cls := Value.type "code", data := Data.fields #[Value.str (Str.ofString "compare") 250, Value.str (Str.ofString "compare") 251, Value.str (Str.ofString "/claim/cut.py") 252, Value.int 21 0, Value.int 2 0, Value.int 0 0, Value.int 0 0, Value.int 3 0, Value.ref 61, Value.bool Bool.true, Value.int 181 0, Value.ref 62, Value.none, Value.ref 63, Value.ref 64, Value.ref 65, Value.int 256 0, Value.int 21 0, Value.str (Str.ofString "/claim/cut.py") 257] }) ::
((nat_lit 67), { cls := Value.type "function", data := Data.func { name := Str.ofString "compare", qualname := Str.ofString "compare", params := (Mine.defAtN 6).fst, body := FuncBody.stmts (Mine.defAtN 6).snd.fst, scope := (Mine.defAtN 6).snd.snd, globals := 3, closure := [], defaults := Value.none, kwdefaults := Value.none, pyModule := Value.str (Str.ofString "gmp.limbs") 187, code := Value.ref 66 } }) ::
((nat_lit 68), { cls := Value.type "tuple", data := Data.seq #[] }) ::
((nat_lit 70), { cls := Value.type "tuple", data := Data.seq #[Value.str (Str.ofString "a") 262, Value.str (Str.ofString "b") 263, Value.str (Str.ofString "w") 264, Value.str (Str.ofString "found") 265, Value.str (Str.ofString "carry") 266, Value.str (Str.ofString "mask") 267, Value.str (Str.ofString "at") 268] }) ::
((nat_lit 71), { cls := Value.type "tuple", data := Data.seq #[] }) ::
((nat_lit 73), { cls := Value.type "code", data := Data.fields #[Value.str (Str.ofString "add") 259, Value.str (Str.ofString "add") 260, Value.str (Str.ofString "/claim/cut.py") 261, Value.int 28 0, Value.int 3 0, Value.int 0 0, Value.int 0 0, Value.int 3 0, Value.ref 68, Value.bool Bool.true, Value.int 181 0, Value.ref 69, Value.none, Value.ref 70, Value.ref 71, Value.ref 72, Value.int 269 0, Value.int 28 0, Value.str (Str.ofString "/claim/cut.py") 270] }) ::
((nat_lit 74), { cls := Value.type "function", data := Data.func { name := Str.ofString "add", qualname := Str.ofString "add", params := (Mine.defAtN 7).fst, body := FuncBody.stmts (Mine.defAtN 7).snd.fst, scope := (Mine.defAtN 7).snd.snd, globals := 3, closure := [], defaults := Value.none, kwdefaults := Value.none, pyModule := Value.str (Str.ofString "gmp.limbs") 187, code := Value.ref 73 } }) ::
((nat_lit 75), { cls := Value.type "tuple", data := Data.seq #[] }) ::
((nat_lit 77), { cls := Value.type "tuple", data := Data.seq #[Value.str (Str.ofString "a") 275, Value.str (Str.ofString "b") 276, Value.str (Str.ofString "w") 277, Value.str (Str.ofString "found") 278, Value.str (Str.ofString "borrow") 279, Value.str (Str.ofString "base") 280, Value.str (Str.ofString "at") 281, Value.str (Str.ofString "limb") 282] }) ::
((nat_lit 78), { cls := Value.type "tuple", data := Data.seq #[] }) ::
((nat_lit 80), { cls := Value.type "code", data := Data.fields #[Value.str (Str.ofString "sub") 272, Value.str (Str.ofString "sub") 273, Value.str (Str.ofString "/claim/cut.py") 274, Value.int 43 0, Value.int 3 0, Value.int 0 0, Value.int 0 0, Value.int 3 0, Value.ref 75, Value.bool Bool.true, Value.int 181 0, Value.ref 76, Value.none, Value.ref 77, Value.ref 78, Value.ref 79, Value.int 283 0, Value.int 43 0, Value.str (Str.ofString "/claim/cut.py") 284] }) ::
((nat_lit 81), { cls := Value.type "function", data := Data.func { name := Str.ofString "sub", qualname := Str.ofString "sub", params := (Mine.defAtN 8).fst, body := FuncBody.stmts (Mine.defAtN 8).snd.fst, scope := (Mine.defAtN 8).snd.snd, globals := 3, closure := [], defaults := Value.none, kwdefaults := Value.none, pyModule := Value.str (Str.ofString "gmp.limbs") 187, code := Value.ref 80 } }) ::
((nat_lit 82), { cls := Value.type "tuple", data := Data.seq #[] }) ::
((nat_lit 84), { cls := Value.type "tuple", data := Data.seq #[Value.str (Str.ofString "a") 289, Value.str (Str.ofString "spot") 290] }) ::
((nat_lit 85), { cls := Value.type "tuple", data := Data.seq #[] }) ::
((nat_lit 87), { cls := Value.type "code", data := Data.fields #[Value.str (Str.ofString "lifted") 286, Value.str (Str.ofString "lifted") 287, Value.str (Str.ofString "/claim/cut.py") 288, Value.int 52 0, Value.int 2 0, Value.int 0 0, Value.int 0 0, Value.int 3 0, Value.ref 82, Value.bool Bool.true, Value.int 181 0, Value.ref 83, Value.none, Value.ref 84, Value.ref 85, Value.ref 86, Value.int 291 0, Value.int 52 0, Value.str (Str.ofString "/claim/cut.py") 292] }) ::
((nat_lit 88), { cls := Value.type "function", data := Data.func { name := Str.ofString "lifted", qualname := Str.ofString "lifted", params := (Mine.defAtN 9).fst, body := FuncBody.stmts (Mine.defAtN 9).snd.fst, scope := (Mine.defAtN 9).snd.snd, globals := 3, closure := [], defaults := Value.none, kwdefaults := Value.none, pyModule := Value.str (Str.ofString "gmp.limbs") 187, code := Value.ref 87 } }) ::
((nat_lit 89), { cls := Value.type "tuple", data := Data.seq #[] }) ::
((nat_lit 91), { cls := Value.type "tuple", data := Data.seq #[Value.str (Str.ofString "a") 297, Value.str (Str.ofString "n") 298, Value.str (Str.ofString "w") 299, Value.str (Str.ofString "spots") 300, Value.str (Str.ofString "few") 301, Value.str (Str.ofString "found") 302, Value.str (Str.ofString "carry") 303, Value.str (Str.ofString "mask") 304, Value.str (Str.ofString "one") 305] }) ::
((nat_lit 92), { cls := Value.type "tuple", data := Data.seq #[] }) ::
((nat_lit 94), { cls := Value.type "code", data := Data.fields #[Value.str (Str.ofString "shift_left") 294, Value.str (Str.ofString "shift_left") 295, Value.str (Str.ofString "/claim/cut.py") 296, Value.int 54 0, Value.int 3 0, Value.int 0 0, Value.int 0 0, Value.int 3 0, Value.ref 89, Value.bool Bool.true, Value.int 181 0, Value.ref 90, Value.none, Value.ref 91, Value.ref 92, Value.ref 93, Value.int 306 0, Value.int 54 0, Value.str (Str.ofString "/claim/cut.py") 307] }) ::
((nat_lit 95), { cls := Value.type "function", data := Data.func { name := Str.ofString "shift_left", qualname := Str.ofString "shift_left", params := (Mine.defAtN 10).fst, body := FuncBody.stmts (Mine.defAtN 10).snd.fst, scope := (Mine.defAtN 10).snd.snd, globals := 3, closure := [], defaults := Value.none, kwdefaults := Value.none, pyModule := Value.str (Str.ofString "gmp.limbs") 187, code := Value.ref 94 } }) ::
((nat_lit 96), { cls := Value.type "tuple", data := Data.seq #[] }) ::
((nat_lit 98), { cls := Value.type "tuple", data := Data.seq #[Value.str (Str.ofString "a") 312, Value.str (Str.ofString "n") 313, Value.str (Str.ofString "w") 314, Value.str (Str.ofString "spots") 315, Value.str (Str.ofString "few") 316, Value.str (Str.ofString "found") 317, Value.str (Str.ofString "mask") 318, Value.str (Str.ofString "at") 319, Value.str (Str.ofString "above") 320] }) ::
((nat_lit 99), { cls := Value.type "tuple", data := Data.seq #[] }) ::
((nat_lit 101), { cls := Value.type "code", data := Data.fields #[Value.str (Str.ofString "shift_right") 309, Value.str (Str.ofString "shift_right") 310, Value.str (Str.ofString "/claim/cut.py") 311, Value.int 66 0, Value.int 3 0, Value.int 0 0, Value.int 0 0, Value.int 3 0, Value.ref 96, Value.bool Bool.true, Value.int 181 0, Value.ref 97, Value.none, Value.ref 98, Value.ref 99, Value.ref 100, Value.int 321 0, Value.int 66 0, Value.str (Str.ofString "/claim/cut.py") 322] }) ::
((nat_lit 102), { cls := Value.type "function", data := Data.func { name := Str.ofString "shift_right", qualname := Str.ofString "shift_right", params := (Mine.defAtN 11).fst, body := FuncBody.stmts (Mine.defAtN 11).snd.fst, scope := (Mine.defAtN 11).snd.snd, globals := 3, closure := [], defaults := Value.none, kwdefaults := Value.none, pyModule := Value.str (Str.ofString "gmp.limbs") 187, code := Value.ref 101 } }) ::
((nat_lit 103), { cls := Value.type "tuple", data := Data.seq #[] }) ::
((nat_lit 105), { cls := Value.type "tuple", data := Data.seq #[Value.str (Str.ofString "a") 327, Value.str (Str.ofString "w") 328] }) ::
((nat_lit 106), { cls := Value.type "tuple", data := Data.seq #[] }) ::
((nat_lit 108), { cls := Value.type "code", data := Data.fields #[Value.str (Str.ofString "bits") 324, Value.str (Str.ofString "bits") 325, Value.str (Str.ofString "/claim/cut.py") 326, Value.int 73 0, Value.int 2 0, Value.int 0 0, Value.int 0 0, Value.int 3 0, Value.ref 103, Value.bool Bool.true, Value.int 181 0, Value.ref 104, Value.none, Value.ref 105, Value.ref 106, Value.ref 107, Value.int 329 0, Value.int 73 0, Value.str (Str.ofString "/claim/cut.py") 330] }) ::
((nat_lit 109), { cls := Value.type "function", data := Data.func { name := Str.ofString "bits", qualname := Str.ofString "bits", params := (Mine.defAtN 12).fst, body := FuncBody.stmts (Mine.defAtN 12).snd.fst, scope := (Mine.defAtN 12).snd.snd, globals := 3, closure := [], defaults := Value.none, kwdefaults := Value.none, pyModule := Value.str (Str.ofString "gmp.limbs") 187, code := Value.ref 108 } }) ::
((nat_lit 110), { cls := Value.type "tuple", data := Data.seq #[] }) ::
((nat_lit 112), { cls := Value.type "tuple", data := Data.seq #[Value.str (Str.ofString "a") 335, Value.str (Str.ofString "n") 336, Value.str (Str.ofString "w") 337, Value.str (Str.ofString "spots") 338, Value.str (Str.ofString "few") 339] }) ::
((nat_lit 113), { cls := Value.type "tuple", data := Data.seq #[] }) ::
((nat_lit 115), { cls := Value.type "code", data := Data.fields #[Value.str (Str.ofString "low") 332, Value.str (Str.ofString "low") 333, Value.str (Str.ofString "/claim/cut.py") 334, Value.int 75 0, Value.int 3 0, Value.int 0 0, Value.int 0 0, Value.int 3 0, Value.ref 110, Value.bool Bool.true, Value.int 181 0, Value.ref 111, Value.none, Value.ref 112, Value.ref 113, Value.ref 114, Value.int 340 0, Value.int 75 0, Value.str (Str.ofString "/claim/cut.py") 341] }) ::
((nat_lit 116), { cls := Value.type "function", data := Data.func { name := Str.ofString "low", qualname := Str.ofString "low", params := (Mine.defAtN 13).fst, body := FuncBody.stmts (Mine.defAtN 13).snd.fst, scope := (Mine.defAtN 13).snd.snd, globals := 3, closure := [], defaults := Value.none, kwdefaults := Value.none, pyModule := Value.str (Str.ofString "gmp.limbs") 187, code := Value.ref 115 } }) ::
((nat_lit 117), { cls := Value.type "tuple", data := Data.seq #[] }) ::
((nat_lit 119), { cls := Value.type "tuple", data := Data.seq #[Value.str (Str.ofString "n") 348] }) ::
((nat_lit 120), { cls := Value.type "tuple", data := Data.seq #[] }) ::
((nat_lit 122), { cls := Value.type "code", data := Data.fields #[Value.str (Str.ofString "need_limbs") 345, Value.str (Str.ofString "need_limbs") 346, Value.str (Str.ofString "/claim/cut.py") 347, Value.int 81 0, Value.int 1 0, Value.int 0 0, Value.int 0 0, Value.int 3 0, Value.ref 117, Value.bool Bool.true, Value.int 181 0, Value.ref 118, Value.none, Value.ref 119, Value.ref 120, Value.ref 121, Value.int 349 0, Value.int 81 0, Value.str (Str.ofString "/claim/cut.py") 350] }) ::
((nat_lit 123), { cls := Value.type "function", data := Data.func { name := Str.ofString "need_limbs", qualname := Str.ofString "need_limbs", params := (Mine.defAtN 15).fst, body := FuncBody.stmts (Mine.defAtN 15).snd.fst, scope := (Mine.defAtN 15).snd.snd, globals := 3, closure := [], defaults := Value.none, kwdefaults := Value.none, pyModule := Value.str (Str.ofString "gmp.lowproducts") 343, code := Value.ref 122 } }) ::
((nat_lit 124), { cls := Value.type "tuple", data := Data.seq #[] }) ::
((nat_lit 126), { cls := Value.type "tuple", data := Data.seq #[Value.str (Str.ofString "a") 355, Value.str (Str.ofString "n") 356, Value.str (Str.ofString "w") 357, Value.str (Str.ofString "ones") 358] }) ::
((nat_lit 127), { cls := Value.type "tuple", data := Data.seq #[] }) ::
((nat_lit 129), { cls := Value.type "code", data := Data.fields #[Value.str (Str.ofString "fold_minus") 352, Value.str (Str.ofString "fold_minus") 353, Value.str (Str.ofString "/claim/cut.py") 354, Value.int 84 0, Value.int 3 0, Value.int 0 0, Value.int 0 0, Value.int 3 0, Value.ref 124, Value.bool Bool.true, Value.int 181 0, Value.ref 125, Value.none, Value.ref 126, Value.ref 127, Value.ref 128, Value.int 359 0, Value.int 84 0, Value.str (Str.ofString "/claim/cut.py") 360] }) ::
((nat_lit 130), { cls := Value.type "function", data := Data.func { name := Str.ofString "fold_minus", qualname := Str.ofString "fold_minus", params := (Mine.defAtN 16).fst, body := FuncBody.stmts (Mine.defAtN 16).snd.fst, scope := (Mine.defAtN 16).snd.snd, globals := 3, closure := [], defaults := Value.none, kwdefaults := Value.none, pyModule := Value.str (Str.ofString "gmp.lowproducts") 343, code := Value.ref 129 } }) ::
((nat_lit 131), { cls := Value.type "tuple", data := Data.seq #[] }) ::
((nat_lit 133), { cls := Value.type "tuple", data := Data.seq #[Value.str (Str.ofString "a") 365, Value.str (Str.ofString "n") 366, Value.str (Str.ofString "w") 367, Value.str (Str.ofString "modulus") 368, Value.str (Str.ofString "found") 369, Value.str (Str.ofString "is_below") 370, Value.str (Str.ofString "at") 371, Value.str (Str.ofString "part") 372] }) ::
((nat_lit 134), { cls := Value.type "tuple", data := Data.seq #[] }) ::
((nat_lit 136), { cls := Value.type "code", data := Data.fields #[Value.str (Str.ofString "fold_plus") 362, Value.str (Str.ofString "fold_plus") 363, Value.str (Str.ofString "/claim/cut.py") 364, Value.int 90 0, Value.int 3 0, Value.int 0 0, Value.int 0 0, Value.int 3 0, Value.ref 131, Value.bool Bool.true, Value.int 181 0, Value.ref 132, Value.none, Value.ref 133, Value.ref 134, Value.ref 135, Value.int 373 0, Value.int 90 0, Value.str (Str.ofString "/claim/cut.py") 374] }) ::
((nat_lit 137), { cls := Value.type "function", data := Data.func { name := Str.ofString "fold_plus", qualname := Str.ofString "fold_plus", params := (Mine.defAtN 17).fst, body := FuncBody.stmts (Mine.defAtN 17).snd.fst, scope := (Mine.defAtN 17).snd.snd, globals := 3, closure := [], defaults := Value.none, kwdefaults := Value.none, pyModule := Value.str (Str.ofString "gmp.lowproducts") 343, code := Value.ref 136 } }) ::
((nat_lit 138), { cls := Value.type "tuple", data := Data.seq #[] }) ::
((nat_lit 140), { cls := Value.type "tuple", data := Data.seq #[Value.str (Str.ofString "minus") 379, Value.str (Str.ofString "plus") 380, Value.str (Str.ofString "n") 381, Value.str (Str.ofString "w") 382, Value.str (Str.ofString "modulus") 383, Value.str (Str.ofString "plus_rest") 384, Value.str (Str.ofString "way") 385, Value.str (Str.ofString "half") 386] }) ::
((nat_lit 141), { cls := Value.type "tuple", data := Data.seq #[] }) ::
((nat_lit 143), { cls := Value.type "code", data := Data.fields #[Value.str (Str.ofString "joined_rests") 376, Value.str (Str.ofString "joined_rests") 377, Value.str (Str.ofString "/claim/cut.py") 378, Value.int 103 0, Value.int 4 0, Value.int 0 0, Value.int 0 0, Value.int 3 0, Value.ref 138, Value.bool Bool.true, Value.int 181 0, Value.ref 139, Value.none, Value.ref 140, Value.ref 141, Value.ref 142, Value.int 387 0, Value.int 103 0, Value.str (Str.ofString "/claim/cut.py") 388] }) ::
((nat_lit 144), { cls := Value.type "function", data := Data.func { name := Str.ofString "joined_rests", qualname := Str.ofString "joined_rests", params := (Mine.defAtN 18).fst, body := FuncBody.stmts (Mine.defAtN 18).snd.fst, scope := (Mine.defAtN 18).snd.snd, globals := 3, closure := [], defaults := Value.none, kwdefaults := Value.none, pyModule := Value.str (Str.ofString "gmp.lowproducts") 343, code := Value.ref 143 } }) ::
((nat_lit 145), { cls := Value.type "tuple", data := Data.seq #[] }) ::
((nat_lit 147), { cls := Value.type "tuple", data := Data.seq #[Value.str (Str.ofString "a") 393, Value.str (Str.ofString "b") 394, Value.str (Str.ofString "n") 395, Value.str (Str.ofString "w") 396, Value.str (Str.ofString "least") 397, Value.str (Str.ofString "mul") 398, Value.str (Str.ofString "half") 399, Value.str (Str.ofString "minus") 400, Value.str (Str.ofString "plus") 401] }) ::
((nat_lit 148), { cls := Value.type "tuple", data := Data.seq #[] }) ::
((nat_lit 150), { cls := Value.type "code", data := Data.fields #[Value.str (Str.ofString "wrapped_product") 390, Value.str (Str.ofString "wrapped_product") 391, Value.str (Str.ofString "/claim/cut.py") 392, Value.int 109 0, Value.int 6 0, Value.int 0 0, Value.int 0 0, Value.int 3 0, Value.ref 145, Value.bool Bool.true, Value.int 181 0, Value.ref 146, Value.none, Value.ref 147, Value.ref 148, Value.ref 149, Value.int 402 0, Value.int 109 0, Value.str (Str.ofString "/claim/cut.py") 403] }) ::
((nat_lit 151), { cls := Value.type "function", data := Data.func { name := Str.ofString "wrapped_product", qualname := Str.ofString "wrapped_product", params := (Mine.defAtN 19).fst, body := FuncBody.stmts (Mine.defAtN 19).snd.fst, scope := (Mine.defAtN 19).snd.snd, globals := 3, closure := [], defaults := Value.none, kwdefaults := Value.none, pyModule := Value.str (Str.ofString "gmp.lowproducts") 343, code := Value.ref 150 } }) ::
((nat_lit 152), { cls := Value.type "tuple", data := Data.seq #[] }) ::
((nat_lit 154), { cls := Value.type "tuple", data := Data.seq #[Value.str (Str.ofString "n") 410, Value.str (Str.ofString "w") 411] }) ::
((nat_lit 155), { cls := Value.type "tuple", data := Data.seq #[] }) ::
((nat_lit 157), { cls := Value.type "code", data := Data.fields #[Value.str (Str.ofString "ring_one") 407, Value.str (Str.ofString "ring_one") 408, Value.str (Str.ofString "/claim/cut.py") 409, Value.int 117 0, Value.int 2 0, Value.int 0 0, Value.int 0 0, Value.int 3 0, Value.ref 152, Value.bool Bool.true, Value.int 181 0, Value.ref 153, Value.none, Value.ref 154, Value.ref 155, Value.ref 156, Value.int 412 0, Value.int 117 0, Value.str (Str.ofString "/claim/cut.py") 413] }) ::
((nat_lit 158), { cls := Value.type "function", data := Data.func { name := Str.ofString "ring_one", qualname := Str.ofString "ring_one", params := (Mine.defAtN 21).fst, body := FuncBody.stmts (Mine.defAtN 21).snd.fst, scope := (Mine.defAtN 21).snd.snd, globals := 3, closure := [], defaults := Value.none, kwdefaults := Value.none, pyModule := Value.str (Str.ofString "gmp.rings") 405, code := Value.ref 157 } }) ::
((nat_lit 159), { cls := Value.type "tuple", data := Data.seq #[] }) ::
((nat_lit 161), { cls := Value.type "tuple", data := Data.seq #[Value.str (Str.ofString "a") 418, Value.str (Str.ofString "b") 419, Value.str (Str.ofString "n") 420, Value.str (Str.ofString "w") 421, Value.str (Str.ofString "found") 422] }) ::
((nat_lit 162), { cls := Value.type "tuple", data := Data.seq #[] }) ::
((nat_lit 164), { cls := Value.type "code", data := Data.fields #[Value.str (Str.ofString "ring_add") 415, Value.str (Str.ofString "ring_add") 416, Value.str (Str.ofString "/claim/cut.py") 417, Value.int 119 0, Value.int 4 0, Value.int 0 0, Value.int 0 0, Value.int 3 0, Value.ref 159, Value.bool Bool.true, Value.int 181 0, Value.ref 160, Value.none, Value.ref 161, Value.ref 162, Value.ref 163, Value.int 423 0, Value.int 119 0, Value.str (Str.ofString "/claim/cut.py") 424] }) ::
((nat_lit 165), { cls := Value.type "function", data := Data.func { name := Str.ofString "ring_add", qualname := Str.ofString "ring_add", params := (Mine.defAtN 22).fst, body := FuncBody.stmts (Mine.defAtN 22).snd.fst, scope := (Mine.defAtN 22).snd.snd, globals := 3, closure := [], defaults := Value.none, kwdefaults := Value.none, pyModule := Value.str (Str.ofString "gmp.rings") 405, code := Value.ref 164 } }) ::
((nat_lit 166), { cls := Value.type "tuple", data := Data.seq #[] }) ::
((nat_lit 168), { cls := Value.type "tuple", data := Data.seq #[Value.str (Str.ofString "a") 429, Value.str (Str.ofString "b") 430, Value.str (Str.ofString "n") 431, Value.str (Str.ofString "w") 432] }) ::
((nat_lit 169), { cls := Value.type "tuple", data := Data.seq #[] }) ::
((nat_lit 171), { cls := Value.type "code", data := Data.fields #[Value.str (Str.ofString "ring_sub") 426, Value.str (Str.ofString "ring_sub") 427, Value.str (Str.ofString "/claim/cut.py") 428, Value.int 122 0, Value.int 4 0, Value.int 0 0, Value.int 0 0, Value.int 3 0, Value.ref 166, Value.bool Bool.true, Value.int 181 0, Value.ref 167, Value.none, Value.ref 168, Value.ref 169, Value.ref 170, Value.int 433 0, Value.int 122 0, Value.str (Str.ofString "/claim/cut.py") 434] }) ::
((nat_lit 172), { cls := Value.type "function", data := Data.func { name := Str.ofString "ring_sub", qualname := Str.ofString "ring_sub", params := (Mine.defAtN 23).fst, body := FuncBody.stmts (Mine.defAtN 23).snd.fst, scope := (Mine.defAtN 23).snd.snd, globals := 3, closure := [], defaults := Value.none, kwdefaults := Value.none, pyModule := Value.str (Str.ofString "gmp.rings") 405, code := Value.ref 171 } }) ::
((nat_lit 173), { cls := Value.type "tuple", data := Data.seq #[] }) ::
((nat_lit 175), { cls := Value.type "tuple", data := Data.seq #[Value.str (Str.ofString "a") 439, Value.str (Str.ofString "n") 440, Value.str (Str.ofString "w") 441] }) ::
((nat_lit 176), { cls := Value.type "tuple", data := Data.seq #[] }) ::
((nat_lit 178), { cls := Value.type "code", data := Data.fields #[Value.str (Str.ofString "ring_neg") 436, Value.str (Str.ofString "ring_neg") 437, Value.str (Str.ofString "/claim/cut.py") 438, Value.int 126 0, Value.int 3 0, Value.int 0 0, Value.int 0 0, Value.int 3 0, Value.ref 173, Value.bool Bool.true, Value.int 181 0, Value.ref 174, Value.none, Value.ref 175, Value.ref 176, Value.ref 177, Value.int 442 0, Value.int 126 0, Value.str (Str.ofString "/claim/cut.py") 443] }) ::
((nat_lit 179), { cls := Value.type "function", data := Data.func { name := Str.ofString "ring_neg", qualname := Str.ofString "ring_neg", params := (Mine.defAtN 24).fst, body := FuncBody.stmts (Mine.defAtN 24).snd.fst, scope := (Mine.defAtN 24).snd.snd, globals := 3, closure := [], defaults := Value.none, kwdefaults := Value.none, pyModule := Value.str (Str.ofString "gmp.rings") 405, code := Value.ref 178 } }) ::
((nat_lit 180), { cls := Value.type "tuple", data := Data.seq #[] }) ::
((nat_lit 182), { cls := Value.type "tuple", data := Data.seq #[Value.str (Str.ofString "n") 448] }) ::
((nat_lit 183), { cls := Value.type "tuple", data := Data.seq #[] }) ::
((nat_lit 185), { cls := Value.type "code", data := Data.fields #[Value.str (Str.ofString "need_ring") 445, Value.str (Str.ofString "need_ring") 446, Value.str (Str.ofString "/claim/cut.py") 447, Value.int 128 0, Value.int 1 0, Value.int 0 0, Value.int 0 0, Value.int 3 0, Value.ref 180, Value.bool Bool.true, Value.int 181 0, Value.ref 181, Value.none, Value.ref 182, Value.ref 183, Value.ref 184, Value.int 449 0, Value.int 128 0, Value.str (Str.ofString "/claim/cut.py") 450] }) ::
((nat_lit 186), { cls := Value.type "function", data := Data.func { name := Str.ofString "need_ring", qualname := Str.ofString "need_ring", params := (Mine.defAtN 25).fst, body := FuncBody.stmts (Mine.defAtN 25).snd.fst, scope := (Mine.defAtN 25).snd.snd, globals := 3, closure := [], defaults := Value.none, kwdefaults := Value.none, pyModule := Value.str (Str.ofString "gmp.rings") 405, code := Value.ref 185 } }) ::
((nat_lit 187), { cls := Value.type "tuple", data := Data.seq #[] }) ::
((nat_lit 189), { cls := Value.type "tuple", data := Data.seq #[Value.str (Str.ofString "a") 455, Value.str (Str.ofString "n") 456, Value.str (Str.ofString "w") 457, Value.str (Str.ofString "found") 458, Value.str (Str.ofString "is_minus") 459, Value.str (Str.ofString "part") 460] }) ::
((nat_lit 190), { cls := Value.type "tuple", data := Data.seq #[] }) ::
((nat_lit 192), { cls := Value.type "code", data := Data.fields #[Value.str (Str.ofString "ring_fold") 452, Value.str (Str.ofString "ring_fold") 453, Value.str (Str.ofString "/claim/cut.py") 454, Value.int 131 0, Value.int 3 0, Value.int 0 0, Value.int 0 0, Value.int 3 0, Value.ref 187, Value.bool Bool.true, Value.int 181 0, Value.ref 188, Value.none, Value.ref 189, Value.ref 190, Value.ref 191, Value.int 461 0, Value.int 131 0, Value.str (Str.ofString "/claim/cut.py") 462] }) ::
((nat_lit 193), { cls := Value.type "function", data := Data.func { name := Str.ofString "ring_fold", qualname := Str.ofString "ring_fold", params := (Mine.defAtN 26).fst, body := FuncBody.stmts (Mine.defAtN 26).snd.fst, scope := (Mine.defAtN 26).snd.snd, globals := 3, closure := [], defaults := Value.none, kwdefaults := Value.none, pyModule := Value.str (Str.ofString "gmp.rings") 405, code := Value.ref 192 } }) ::
((nat_lit 194), { cls := Value.type "tuple", data := Data.seq #[] }) ::
((nat_lit 196), { cls := Value.type "tuple", data := Data.seq #[Value.str (Str.ofString "a") 467, Value.str (Str.ofString "k") 468, Value.str (Str.ofString "n") 469, Value.str (Str.ofString "w") 470] }) ::
((nat_lit 197), { cls := Value.type "tuple", data := Data.seq #[] }) ::
((nat_lit 199), { cls := Value.type "code", data := Data.fields #[Value.str (Str.ofString "ring_shift") 464, Value.str (Str.ofString "ring_shift") 465, Value.str (Str.ofString "/claim/cut.py") 466, Value.int 140 0, Value.int 4 0, Value.int 0 0, Value.int 0 0, Value.int 3 0, Value.ref 194, Value.bool Bool.true, Value.int 181 0, Value.ref 195, Value.none, Value.ref 196, Value.ref 197, Value.ref 198, Value.int 471 0, Value.int 140 0, Value.str (Str.ofString "/claim/cut.py") 472] }) ::
((nat_lit 200), { cls := Value.type "function", data := Data.func { name := Str.ofString "ring_shift", qualname := Str.ofString "ring_shift", params := (Mine.defAtN 27).fst, body := FuncBody.stmts (Mine.defAtN 27).snd.fst, scope := (Mine.defAtN 27).snd.snd, globals := 3, closure := [], defaults := Value.none, kwdefaults := Value.none, pyModule := Value.str (Str.ofString "gmp.rings") 405, code := Value.ref 199 } }) ::
((nat_lit 201), { cls := Value.type "tuple", data := Data.seq #[] }) ::
((nat_lit 203), { cls := Value.type "tuple", data := Data.seq #[Value.str (Str.ofString "number") 477, Value.str (Str.ofString "n") 478, Value.str (Str.ofString "w") 479, Value.str (Str.ofString "found") 480] }) ::
((nat_lit 204), { cls := Value.type "tuple", data := Data.seq #[] }) ::
((nat_lit 206), { cls := Value.type "code", data := Data.fields #[Value.str (Str.ofString "element_of") 474, Value.str (Str.ofString "element_of") 475, Value.str (Str.ofString "/claim/cut.py") 476, Value.int 146 0, Value.int 3 0, Value.int 0 0, Value.int 0 0, Value.int 3 0, Value.ref 201, Value.bool Bool.true, Value.int 181 0, Value.ref 202, Value.none, Value.ref 203, Value.ref 204, Value.ref 205, Value.int 481 0, Value.int 146 0, Value.str (Str.ofString "/claim/cut.py") 482] }) ::
((nat_lit 207), { cls := Value.type "function", data := Data.func { name := Str.ofString "element_of", qualname := Str.ofString "element_of", params := (Mine.defAtN 28).fst, body := FuncBody.stmts (Mine.defAtN 28).snd.fst, scope := (Mine.defAtN 28).snd.snd, globals := 3, closure := [], defaults := Value.none, kwdefaults := Value.none, pyModule := Value.str (Str.ofString "gmp.rings") 405, code := Value.ref 206 } }) ::
((nat_lit 208), { cls := Value.type "tuple", data := Data.seq #[] }) ::
((nat_lit 210), { cls := Value.type "tuple", data := Data.seq #[Value.str (Str.ofString "jar") 489, Value.str (Str.ofString "many") 490] }) ::
((nat_lit 211), { cls := Value.type "tuple", data := Data.seq #[] }) ::
((nat_lit 213), { cls := Value.type "code", data := Data.fields #[Value.str (Str.ofString "_law_got") 486, Value.str (Str.ofString "_law_got") 487, Value.str (Str.ofString "/claim/cut.py") 488, Value.int 150 0, Value.int 2 0, Value.int 0 0, Value.int 0 0, Value.int 3 0, Value.ref 208, Value.bool Bool.true, Value.int 181 0, Value.ref 209, Value.none, Value.ref 210, Value.ref 211, Value.ref 212, Value.int 491 0, Value.int 150 0, Value.str (Str.ofString "/claim/cut.py") 492] }) ::
((nat_lit 214), { cls := Value.type "function", data := Data.func { name := Str.ofString "_law_got", qualname := Str.ofString "_law_got", params := (Mine.defAtN 30).fst, body := FuncBody.stmts (Mine.defAtN 30).snd.fst, scope := (Mine.defAtN 30).snd.snd, globals := 3, closure := [], defaults := Value.none, kwdefaults := Value.none, pyModule := Value.str (Str.ofString "law_rr0057_01") 484, code := Value.ref 213 } }) ::
((nat_lit 215), { cls := Value.type "tuple", data := Data.seq #[] }) ::
((nat_lit 217), { cls := Value.type "tuple", data := Data.seq #[Value.str (Str.ofString "number") 497, Value.str (Str.ofString "w") 498, Value.str (Str.ofString "found") 499] }) ::
((nat_lit 218), { cls := Value.type "tuple", data := Data.seq #[] }) ::
((nat_lit 220), { cls := Value.type "code", data := Data.fields #[Value.str (Str.ofString "_law_limbs") 494, Value.str (Str.ofString "_law_limbs") 495, Value.str (Str.ofString "/claim/cut.py") 496, Value.int 155 0, Value.int 2 0, Value.int 0 0, Value.int 0 0, Value.int 3 0, Value.ref 215, Value.bool Bool.true, Value.int 181 0, Value.ref 216, Value.none, Value.ref 217, Value.ref 218, Value.ref 219, Value.int 500 0, Value.int 155 0, Value.str (Str.ofString "/claim/cut.py") 501] }) ::
((nat_lit 221), { cls := Value.type "function", data := Data.func { name := Str.ofString "_law_limbs", qualname := Str.ofString "_law_limbs", params := (Mine.defAtN 31).fst, body := FuncBody.stmts (Mine.defAtN 31).snd.fst, scope := (Mine.defAtN 31).snd.snd, globals := 3, closure := [], defaults := Value.none, kwdefaults := Value.none, pyModule := Value.str (Str.ofString "law_rr0057_01") 484, code := Value.ref 220 } }) ::
((nat_lit 222), { cls := Value.type "tuple", data := Data.seq #[] }) ::
((nat_lit 225), { cls := Value.type "code", data := Data.fields #[Value.str (Str.ofString "_law_mul") 503, Value.str (Str.ofString "_law_mul") 504, Value.str (Str.ofString "/claim/cut.py") 505, Value.int 161 0, Value.int 3 0, Value.int 0 0, Value.int 0 0, Value.int 3 0, Value.ref 222, Value.bool Bool.true, Value.int 181 0, Value.ref 223, Value.none, Value.none, Value.none, Value.ref 224, Value.int 506 0, Value.int 161 0, Value.str (Str.ofString "/claim/cut.py") 507] }) ::
((nat_lit 226), { cls := Value.type "function", data := Data.func { name := Str.ofString "_law_mul", qualname := Str.ofString "_law_mul", params := (Mine.defAtN 32).fst, body := FuncBody.stmts (Mine.defAtN 32).snd.fst, scope := (Mine.defAtN 32).snd.snd, globals := 3, closure := [], defaults := Value.none, kwdefaults := Value.none, pyModule := Value.str (Str.ofString "law_rr0057_01") 484, code := Value.ref 225 } }) ::
((nat_lit 227), { cls := Value.type "tuple", data := Data.seq #[] }) ::
((nat_lit 229), { cls := Value.type "tuple", data := Data.seq #[Value.str (Str.ofString "jar") 512, Value.str (Str.ofString "w") 513, Value.str (Str.ofString "form") 514, Value.str (Str.ofString "size") 515, Value.str (Str.ofString "found") 516, Value.str (Str.ofString "spot") 517] }) ::
((nat_lit 230), { cls := Value.type "tuple", data := Data.seq #[] }) ::
((nat_lit 232), { cls := Value.type "code", data := Data.fields #[Value.str (Str.ofString "_law_number") 509, Value.str (Str.ofString "_law_number") 510, Value.str (Str.ofString "/claim/cut.py") 511, Value.int 164 0, Value.int 2 0, Value.int 0 0, Value.int 0 0, Value.int 3 0, Value.ref 227, Value.bool Bool.true, Value.int 181 0, Value.ref 228, Value.none, Value.ref 229, Value.ref 230, Value.ref 231, Value.int 518 0, Value.int 164 0, Value.str (Str.ofString "/claim/cut.py") 519] }) ::
((nat_lit 233), { cls := Value.type "function", data := Data.func { name := Str.ofString "_law_number", qualname := Str.ofString "_law_number", params := (Mine.defAtN 33).fst, body := FuncBody.stmts (Mine.defAtN 33).snd.fst, scope := (Mine.defAtN 33).snd.snd, globals := 3, closure := [], defaults := Value.none, kwdefaults := Value.none, pyModule := Value.str (Str.ofString "law_rr0057_01") 484, code := Value.ref 232 } }) ::
((nat_lit 234), { cls := Value.type "tuple", data := Data.seq #[] }) ::
((nat_lit 236), { cls := Value.type "tuple", data := Data.seq #[Value.str (Str.ofString "work") 524] }) ::
((nat_lit 237), { cls := Value.type "tuple", data := Data.seq #[] }) ::
((nat_lit 239), { cls := Value.type "code", data := Data.fields #[Value.str (Str.ofString "_law_told") 521, Value.str (Str.ofString "_law_told") 522, Value.str (Str.ofString "/claim/cut.py") 523, Value.int 174 0, Value.int 1 0, Value.int 0 0, Value.int 0 0, Value.int 3 0, Value.ref 234, Value.bool Bool.true, Value.int 181 0, Value.ref 235, Value.none, Value.ref 236, Value.ref 237, Value.ref 238, Value.int 525 0, Value.int 174 0, Value.str (Str.ofString "/claim/cut.py") 526] }) ::
((nat_lit 240), { cls := Value.type "function", data := Data.func { name := Str.ofString "_law_told", qualname := Str.ofString "_law_told", params := (Mine.defAtN 34).fst, body := FuncBody.stmts (Mine.defAtN 34).snd.fst, scope := (Mine.defAtN 34).snd.snd, globals := 3, closure := [], defaults := Value.none, kwdefaults := Value.none, pyModule := Value.str (Str.ofString "law_rr0057_01") 484, code := Value.ref 239 } }) ::
((nat_lit 241), { cls := Value.type "tuple", data := Data.seq #[] }) ::
((nat_lit 244), { cls := Value.type "code", data := Data.fields #[Value.str (Str.ofString "law") 528, Value.str (Str.ofString "law") 529, Value.str (Str.ofString "/claim/cut.py") 530, Value.int 179 0, Value.int 1 0, Value.int 0 0, Value.int 0 0, Value.int 3 0, Value.ref 241, Value.bool Bool.true, Value.int 181 0, Value.ref 242, Value.none, Value.none, Value.none, Value.ref 243, Value.int 531 0, Value.int 179 0, Value.str (Str.ofString "/claim/cut.py") 532] }) ::
((nat_lit 245), { cls := Value.type "function", data := Data.func { name := Str.ofString "law", qualname := Str.ofString "law", params := (Mine.defAtN 35).fst, body := FuncBody.stmts (Mine.defAtN 35).snd.fst, scope := (Mine.defAtN 35).snd.snd, globals := 3, closure := [], defaults := Value.none, kwdefaults := Value.none, pyModule := Value.str (Str.ofString "law_rr0057_01") 484, code := Value.ref 244 } }) :: []
noncomputable def view : Program := { PySem.Challenge.pw_rr0057_01 with main := { PySem.Challenge.pw_rr0057_01.main with body := [1, 2, 3, 4, 5, 6, 7, 8, 9, 10, 11, 12, 13, 15, 16, 17, 18, 19, 21, 22, 23, 24, 25, 26, 27, 28, 30, 31, 32, 33, 34, 35].filterMap fun i => PySem.Challenge.pw_rr0057_01.main.body[i]? } }
noncomputable def AS : List Addr := [2, 3, 15, 22, 23, 24, 25, 28, 35, 36, 37, 40, 42, 43, 45, 46, 47, 49, 50, 52, 53, 54, 56, 57, 59, 60, 61, 63, 64, 66, 67, 68, 70, 71, 73, 74, 75, 77, 78, 80, 81, 82, 84, 85, 87, 88, 89, 91, 92, 94, 95, 96, 98, 99, 101, 102, 103, 105, 106, 108, 109, 110, 112, 113, 115, 116, 117, 119, 120, 122, 123, 124, 126, 127, 129, 130, 131, 133, 134, 136, 137, 138, 140, 141, 143, 144, 145, 147, 148, 150, 151, 152, 154, 155, 157, 158, 159, 161, 162, 164, 165, 166, 168, 169, 171, 172, 173, 175, 176, 178, 179, 180, 182, 183, 185, 186, 187, 189, 190, 192, 193, 194, 196, 197, 199, 200, 201, 203, 204, 206, 207, 208, 210, 211, 213, 214, 215, 217, 218, 220, 221, 222, 225, 226, 227, 229, 230, 232, 233, 234, 236, 237, 239, 240, 241, 244, 245]
theorem KK_AS (P : Params) : AS = (KK P).map (·.1) := by kernel_rfl
noncomputable abbrev HK : Hook := kmHook KK AS KK_AS [242]
noncomputable def kO (P : Params) (i : Nat) : Obj := (((KK P).drop i).headD (0, default)).2
noncomputable def o43 (P : Params) : Obj := { cls := Value.type "tuple", data := Data.seq #[] }
noncomputable def o44 (P : Params) : Obj := { cls := Value.none, data := Data.fields #[] }
noncomputable def o45 (P : Params) : Obj := { cls := Value.type "code", data := Data.fields #[Value.str (Str.ofString "<module>") 182, Value.str (Str.ofString "<module>") 183, Value.str (Str.ofString "/claim/cut.py") 184, Value.int 1 0, Value.int 0 0, Value.int 0 0, Value.int 0 0, Value.int 0 0, Value.ref 11, Value.bool Bool.false, Value.int 181 0, Value.ref 12, Value.none, Value.none, Value.none, Value.none, Value.int 185 0, Value.int 1 0, Value.str (Str.ofString "/claim/cut.py") 186] }
noncomputable def o46 (P : Params) : Obj := { cls := Value.type "frame", slots := #[Option.some (Value.ref 13), Option.some (Value.ref 3), Option.some (Value.ref 3), Option.none, Option.some (Value.str (Str.ofString "__main__") 164), Option.none, Option.some (Value.ref 0)] }
noncomputable def o50 (P : Params) : Obj := { cls := Value.type "dict", data := Data.dict #[{ hash := PyData.keyHash P (Str.ofString "__name__"), key := Value.str (Str.ofString "__name__") 165, val := Value.str (Str.ofString "gmp.limbs") 187 }, { hash := PyData.keyHash P (Str.ofString "__doc__"), key := Value.str (Str.ofString "__doc__") 166, val := Value.none }, { hash := PyData.keyHash P (Str.ofString "__package__"), key := Value.str (Str.ofString "__package__") 167, val := Value.none }, { hash := PyData.keyHash P (Str.ofString "__loader__"), key := Value.str (Str.ofString "__loader__") 168, val := Value.builtin "__main__.__loader__#opaque" }, { hash := PyData.keyHash P (Str.ofString "__spec__"), key := Value.str (Str.ofString "__spec__") 169, val := Value.none }, { hash := PyData.keyHash P (Str.ofString "__annotations__"), key := Value.str (Str.ofString "__annotations__") 170, val := Value.ref 6 }, { hash := PyData.keyHash P (Str.ofString "__builtins__"), key := Value.str (Str.ofString "__builtins__") 171, val := Value.ref 4 }, { hash := PyData.keyHash P (Str.ofString "__file__"), key := Value.str (Str.ofString "__file__") 173, val := Value.str (Str.ofString "/claim/cut.py") 172 }, { hash := PyData.keyHash P (Str.ofString "__cached__"), key := Value.str (Str.ofString "__cached__") 174, val := Value.none }, { hash := PyData.keyHash P (Str.ofString "GmpError"), key := Value.str (Str.ofString "GmpError") 208, val := Value.ref 24 }] 10 }
noncomputable def o51 (P : Params) : Obj := { cls := Value.none, data := Data.fields #[Value.int 2 0, Value.int 0 0, Value.ref 20] }
noncomputable def o53 (P : Params) : Obj := { cls := Value.type "builtin_function_or_method", data := Data.fields #[Value.builtin "type.__prepare__", Value.type "type"] }
noncomputable def o54 (P : Params) : Obj := { cls := Value.type "dict", data := Data.dict #[{ hash := PyData.keyHash P (Str.ofString "__module__"), key := Value.str (Str.ofString "__module__") 196, val := Value.str (Str.ofString "gmp.limbs") 187 }, { hash := PyData.keyHash P (Str.ofString "__qualname__"), key := Value.str (Str.ofString "__qualname__") 198, val := Value.str (Str.ofString "GmpError") 197 }, { hash := PyData.keyHash P (Str.ofString "__firstlineno__"), key := Value.str (Str.ofString "__firstlineno__") 200, val := Value.int 2 199 }, { hash := PyData.keyHash P (Str.ofString "__static_attributes__"), key := Value.str (Str.ofString "__static_attributes__") 201, val := Value.ref 22 }] 4 }
noncomputable def o55 (P : Params) : Obj := { cls := Value.type "tuple", data := Data.seq #[] }
noncomputable def o56 (P : Params) : Obj := { cls := Value.none, data := Data.fields #[] }
noncomputable def o57 (P : Params) : Obj := { cls := Value.type "code", data := Data.fields #[Value.str (Str.ofString "GmpError") 191, Value.str (Str.ofString "GmpError") 192, Value.str (Str.ofString "/claim/cut.py") 193, Value.int 2 0, Value.int 0 0, Value.int 0 0, Value.int 0 0, Value.int 0 0, Value.ref 18, Value.bool Bool.false, Value.int 181 0, Value.ref 19, Value.none, Value.none, Value.none, Value.none, Value.int 194 0, Value.int 2 0, Value.str (Str.ofString "/claim/cut.py") 195] }
noncomputable def o58 (P : Params) : Obj := { cls := Value.type "frame", slots := #[Option.some (Value.ref 20), Option.some (Value.ref 3), Option.some (Value.ref 17), Option.none, Option.some (Value.str (Str.ofString "gmp.limbs") 187), Option.none, Option.some (Value.ref 0)] }
noncomputable def o61 (P : Params) : Obj := { cls := Value.type "type", data := Data.cls { name := Str.ofString "GmpError", bases := [Value.type "Exception"], mro := [Value.ref 24, Value.type "Exception", Value.type "BaseException", Value.type "object"], ns := 23, qualname := Str.ofString "GmpError" }, slots := #[Option.some (Value.ref 15), Option.none, Option.some (Value.str (Str.ofString "GmpError") 189), Option.some (Value.str (Str.ofString "GmpError") 197), Option.some (Value.builtin "Exception.__new__"), Option.some (Value.bool Bool.true)] }
noncomputable def o63 (P : Params) : Obj := { cls := Value.type "super", data := Data.fields #[Value.ref 24, Value.ref 24, Value.ref 24] }
noncomputable def o64 (P : Params) : Obj := { cls := Value.type "builtin_function_or_method", data := Data.fields #[Value.builtin "object.__init_subclass__", Value.ref 24] }
noncomputable def o65 (P : Params) : Obj := { cls := Value.type "dict", data := Data.dict #[{ hash := PyData.keyHash P (Str.ofString "__name__"), key := Value.str (Str.ofString "__name__") 165, val := Value.str (Str.ofString "gmp.limbs") 187 }, { hash := PyData.keyHash P (Str.ofString "__doc__"), key := Value.str (Str.ofString "__doc__") 166, val := Value.none }, { hash := PyData.keyHash P (Str.ofString "__package__"), key := Value.str (Str.ofString "__package__") 167, val := Value.none }, { hash := PyData.keyHash P (Str.ofString "__loader__"), key := Value.str (Str.ofString "__loader__") 168, val := Value.builtin "__main__.__loader__#opaque" }, { hash := PyData.keyHash P (Str.ofString "__spec__"), key := Value.str (Str.ofString "__spec__") 169, val := Value.none }, { hash := PyData.keyHash P (Str.ofString "__annotations__"), key := Value.str (Str.ofString "__annotations__") 170, val := Value.ref 6 }, { hash := PyData.keyHash P (Str.ofString "__builtins__"), key := Value.str (Str.ofString "__builtins__") 171, val := Value.ref 4 }, { hash := PyData.keyHash P (Str.ofString "__file__"), key := Value.str (Str.ofString "__file__") 173, val := Value.str (Str.ofString "/claim/cut.py") 172 }, { hash := PyData.keyHash P (Str.ofString "__cached__"), key := Value.str (Str.ofString "__cached__") 174, val := Value.none }, { hash := PyData.keyHash P (Str.ofString "GmpError"), key := Value.str (Str.ofString "GmpError") 208, val := Value.ref 24 }, { hash := PyData.keyHash P (Str.ofString "OutOfRange"), key := Value.str (Str.ofString "OutOfRange") 224, val := Value.ref 37 }, { hash := PyData.keyHash P (Str.ofString "normal"), key := Value.str (Str.ofString "normal") 232, val := Value.ref 46 }, { hash := PyData.keyHash P (Str.ofString "nat_of"), key := Value.str (Str.ofString "nat_of") 242, val := Value.ref 53 }, { hash := PyData.keyHash P (Str.ofString "is_even"), key := Value.str (Str.ofString "is_even") 249, val := Value.ref 60 }, { hash := PyData.keyHash P (Str.ofString "compare"), key := Value.str (Str.ofString "compare") 258, val := Value.ref 67 }, { hash := PyData.keyHash P (Str.ofString "add"), key := Value.str (Str.ofString "add") 271, val := Value.ref 74 }] 16 }
noncomputable def o66 (P : Params) : Obj := { cls := Value.none, data := Data.fields #[Value.int 2 0, Value.int 0 0, Value.ref 20, Value.int 4 0, Value.int 0 0, Value.ref 33, Value.int 6 0, Value.int 0 0, Value.ref 45, Value.int 11 0, Value.int 0 0, Value.ref 52, Value.int 19 0, Value.int 0 0, Value.ref 59, Value.int 21 0, Value.int 0 0, Value.ref 66, Value.int 28 0, Value.int 0 0, Value.ref 73] }
noncomputable def o69 (P : Params) : Obj := { cls := Value.type "builtin_function_or_method", data := Data.fields #[Value.builtin "type.__prepare__", Value.type "type"] }
noncomputable def o70 (P : Params) : Obj := { cls := Value.type "dict", data := Data.dict #[{ hash := PyData.keyHash P (Str.ofString "__module__"), key := Value.str (Str.ofString "__module__") 216, val := Value.str (Str.ofString "gmp.limbs") 187 }, { hash := PyData.keyHash P (Str.ofString "__qualname__"), key := Value.str (Str.ofString "__qualname__") 218, val := Value.str (Str.ofString "OutOfRange") 217 }, { hash := PyData.keyHash P (Str.ofString "__firstlineno__"), key := Value.str (Str.ofString "__firstlineno__") 220, val := Value.int 4 219 }, { hash := PyData.keyHash P (Str.ofString "__static_attributes__"), key := Value.str (Str.ofString "__static_attributes__") 221, val := Value.ref 35 }] 4 }
noncomputable def o71 (P : Params) : Obj := { cls := Value.type "tuple", data := Data.seq #[] }
noncomputable def o72 (P : Params) : Obj := { cls := Value.none, data := Data.fields #[] }
noncomputable def o73 (P : Params) : Obj := { cls := Value.type "code", data := Data.fields #[Value.str (Str.ofString "OutOfRange") 211, Value.str (Str.ofString "OutOfRange") 212, Value.str (Str.ofString "/claim/cut.py") 213, Value.int 4 0, Value.int 0 0, Value.int 0 0, Value.int 0 0, Value.int 0 0, Value.ref 31, Value.bool Bool.false, Value.int 181 0, Value.ref 32, Value.none, Value.none, Value.none, Value.none, Value.int 214 0, Value.int 4 0, Value.str (Str.ofString "/claim/cut.py") 215] }
noncomputable def o74 (P : Params) : Obj := { cls := Value.type "frame", slots := #[Option.some (Value.ref 33), Option.some (Value.ref 3), Option.some (Value.ref 30), Option.none, Option.some (Value.str (Str.ofString "gmp.limbs") 187), Option.none, Option.some (Value.ref 0)] }
noncomputable def o78 (P : Params) : Obj := { cls := Value.type "super", data := Data.fields #[Value.ref 37, Value.ref 37, Value.ref 37] }
noncomputable def o79 (P : Params) : Obj := { cls := Value.type "builtin_function_or_method", data := Data.fields #[Value.builtin "object.__init_subclass__", Value.ref 37] }
noncomputable def o81 (P : Params) : Obj := { cls := Value.none, data := Data.fields #[] }
noncomputable def o84 (P : Params) : Obj := { cls := Value.none, data := Data.func { name := Str.ofString "normal", qualname := Str.ofString "normal", params := (Mine.defAtN 3).fst, body := FuncBody.stmts (Mine.defAtN 3).snd.fst, scope := (Mine.defAtN 3).snd.snd, globals := 0, closure := [], defaults := Value.none, kwdefaults := Value.none } }
noncomputable def o88 (P : Params) : Obj := { cls := Value.none, data := Data.fields #[] }
noncomputable def o91 (P : Params) : Obj := { cls := Value.none, data := Data.func { name := Str.ofString "nat_of", qualname := Str.ofString "nat_of", params := (Mine.defAtN 4).fst, body := FuncBody.stmts (Mine.defAtN 4).snd.fst, scope := (Mine.defAtN 4).snd.snd, globals := 0, closure := [], defaults := Value.none, kwdefaults := Value.none } }
noncomputable def o95 (P : Params) : Obj := { cls := Value.none, data := Data.fields #[] }
noncomputable def o98 (P : Params) : Obj := { cls := Value.none, data := Data.func { name := Str.ofString "is_even", qualname := Str.ofString "is_even", params := (Mine.defAtN 5).fst, body := FuncBody.stmts (Mine.defAtN 5).snd.fst, scope := (Mine.defAtN 5).snd.snd, globals := 0, closure := [], defaults := Value.none, kwdefaults := Value.none } }
noncomputable def o102 (P : Params) : Obj := { cls := Value.none, data := Data.fields #[] }
noncomputable def o105 (P : Params) : Obj := { cls := Value.none, data := Data.func { name := Str.ofString "compare", qualname := Str.ofString "compare", params := (Mine.defAtN 6).fst, body := FuncBody.stmts (Mine.defAtN 6).snd.fst, scope := (Mine.defAtN 6).snd.snd, globals := 0, closure := [], defaults := Value.none, kwdefaults := Value.none } }
noncomputable def o109 (P : Params) : Obj := { cls := Value.none, data := Data.fields #[] }
noncomputable def o112 (P : Params) : Obj := { cls := Value.none, data := Data.func { name := Str.ofString "add", qualname := Str.ofString "add", params := (Mine.defAtN 7).fst, body := FuncBody.stmts (Mine.defAtN 7).snd.fst, scope := (Mine.defAtN 7).snd.snd, globals := 0, closure := [], defaults := Value.none, kwdefaults := Value.none } }
noncomputable def o115 (P : Params) : Obj := { cls := Value.type "dict", data := Data.dict #[{ hash := PyData.keyHash P (Str.ofString "__name__"), key := Value.str (Str.ofString "__name__") 165, val := Value.str (Str.ofString "gmp.rings") 405 }, { hash := PyData.keyHash P (Str.ofString "__doc__"), key := Value.str (Str.ofString "__doc__") 166, val := Value.none }, { hash := PyData.keyHash P (Str.ofString "__package__"), key := Value.str (Str.ofString "__package__") 167, val := Value.none }, { hash := PyData.keyHash P (Str.ofString "__loader__"), key := Value.str (Str.ofString "__loader__") 168, val := Value.builtin "__main__.__loader__#opaque" }, { hash := PyData.keyHash P (Str.ofString "__spec__"), key := Value.str (Str.ofString "__spec__") 169, val := Value.none }, { hash := PyData.keyHash P (Str.ofString "__annotations__"), key := Value.str (Str.ofString "__annotations__") 170, val := Value.ref 6 }, { hash := PyData.keyHash P (Str.ofString "__builtins__"), key := Value.str (Str.ofString "__builtins__") 171, val := Value.ref 4 }, { hash := PyData.keyHash P (Str.ofString "__file__"), key := Value.str (Str.ofString "__file__") 173, val := Value.str (Str.ofString "/claim/cut.py") 172 }, { hash := PyData.keyHash P (Str.ofString "__cached__"), key := Value.str (Str.ofString "__cached__") 174, val := Value.none }, { hash := PyData.keyHash P (Str.ofString "GmpError"), key := Value.str (Str.ofString "GmpError") 208, val := Value.ref 24 }, { hash := PyData.keyHash P (Str.ofString "OutOfRange"), key := Value.str (Str.ofString "OutOfRange") 224, val := Value.ref 37 }, { hash := PyData.keyHash P (Str.ofString "normal"), key := Value.str (Str.ofString "normal") 232, val := Value.ref 46 }, { hash := PyData.keyHash P (Str.ofString "nat_of"), key := Value.str (Str.ofString "nat_of") 242, val := Value.ref 53 }, { hash := PyData.keyHash P (Str.ofString "is_even"), key := Value.str (Str.ofString "is_even") 249, val := Value.ref 60 }, { hash := PyData.keyHash P (Str.ofString "compare"), key := Value.str (Str.ofString "compare") 258, val := Value.ref 67 }, { hash := PyData.keyHash P (Str.ofString "add"), key := Value.str (Str.ofString "add") 271, val := Value.ref 74 }, { hash := PyData.keyHash P (Str.ofString "sub"), key := Value.str (Str.ofString "sub") 285, val := Value.ref 81 }, { hash := PyData.keyHash P (Str.ofString "lifted"), key := Value.str (Str.ofString "lifted") 293, val := Value.ref 88 }, { hash := PyData.keyHash P (Str.ofString "shift_left"), key := Value.str (Str.ofString "shift_left") 308, val := Value.ref 95 }, { hash := PyData.keyHash P (Str.ofString "shift_right"), key := Value.str (Str.ofString "shift_right") 323, val := Value.ref 102 }, { hash := PyData.keyHash P (Str.ofString "bits"), key := Value.str (Str.ofString "bits") 331, val := Value.ref 109 }, { hash := PyData.keyHash P (Str.ofString "low"), key := Value.str (Str.ofString "low") 342, val := Value.ref 116 }, { hash := PyData.keyHash P (Str.ofString "need_limbs"), key := Value.str (Str.ofString "need_limbs") 351, val := Value.ref 123 }, { hash := PyData.keyHash P (Str.ofString "fold_minus"), key := Value.str (Str.ofString "fold_minus") 361, val := Value.ref 130 }, { hash := PyData.keyHash P (Str.ofString "fold_plus"), key := Value.str (Str.ofString "fold_plus") 375, val := Value.ref 137 }, { hash := PyData.keyHash P (Str.ofString "joined_rests"), key := Value.str (Str.ofString "joined_rests") 389, val := Value.ref 144 }, { hash := PyData.keyHash P (Str.ofString "wrapped_product"), key := Value.str (Str.ofString "wrapped_product") 404, val := Value.ref 151 }] 27 }
noncomputable def o116 (P : Params) : Obj := { cls := Value.none, data := Data.fields #[Value.int 2 0, Value.int 0 0, Value.ref 20, Value.int 4 0, Value.int 0 0, Value.ref 33, Value.int 6 0, Value.int 0 0, Value.ref 45, Value.int 11 0, Value.int 0 0, Value.ref 52, Value.int 19 0, Value.int 0 0, Value.ref 59, Value.int 21 0, Value.int 0 0, Value.ref 66, Value.int 28 0, Value.int 0 0, Value.ref 73, Value.int 43 0, Value.int 0 0, Value.ref 80, Value.int 52 0, Value.int 0 0, Value.ref 87, Value.int 54 0, Value.int 0 0, Value.ref 94, Value.int 66 0, Value.int 0 0, Value.ref 101, Value.int 73 0, Value.int 0 0, Value.ref 108, Value.int 75 0, Value.int 0 0, Value.ref 115, Value.int 81 0, Value.int 0 0, Value.ref 122, Value.int 84 0, Value.int 0 0, Value.ref 129, Value.int 90 0, Value.int 0 0, Value.ref 136, Value.int 103 0, Value.int 0 0, Value.ref 143, Value.int 109 0, Value.int 0 0, Value.ref 150] }
noncomputable def o118 (P : Params) : Obj := { cls := Value.none, data := Data.fields #[] }
noncomputable def o121 (P : Params) : Obj := { cls := Value.none, data := Data.func { name := Str.ofString "sub", qualname := Str.ofString "sub", params := (Mine.defAtN 8).fst, body := FuncBody.stmts (Mine.defAtN 8).snd.fst, scope := (Mine.defAtN 8).snd.snd, globals := 0, closure := [], defaults := Value.none, kwdefaults := Value.none } }
noncomputable def o125 (P : Params) : Obj := { cls := Value.none, data := Data.fields #[] }
noncomputable def o128 (P : Params) : Obj := { cls := Value.none, data := Data.func { name := Str.ofString "lifted", qualname := Str.ofString "lifted", params := (Mine.defAtN 9).fst, body := FuncBody.stmts (Mine.defAtN 9).snd.fst, scope := (Mine.defAtN 9).snd.snd, globals := 0, closure := [], defaults := Value.none, kwdefaults := Value.none } }
noncomputable def o132 (P : Params) : Obj := { cls := Value.none, data := Data.fields #[] }
noncomputable def o135 (P : Params) : Obj := { cls := Value.none, data := Data.func { name := Str.ofString "shift_left", qualname := Str.ofString "shift_left", params := (Mine.defAtN 10).fst, body := FuncBody.stmts (Mine.defAtN 10).snd.fst, scope := (Mine.defAtN 10).snd.snd, globals := 0, closure := [], defaults := Value.none, kwdefaults := Value.none } }
noncomputable def o139 (P : Params) : Obj := { cls := Value.none, data := Data.fields #[] }
noncomputable def o142 (P : Params) : Obj := { cls := Value.none, data := Data.func { name := Str.ofString "shift_right", qualname := Str.ofString "shift_right", params := (Mine.defAtN 11).fst, body := FuncBody.stmts (Mine.defAtN 11).snd.fst, scope := (Mine.defAtN 11).snd.snd, globals := 0, closure := [], defaults := Value.none, kwdefaults := Value.none } }
noncomputable def o146 (P : Params) : Obj := { cls := Value.none, data := Data.fields #[] }
noncomputable def o149 (P : Params) : Obj := { cls := Value.none, data := Data.func { name := Str.ofString "bits", qualname := Str.ofString "bits", params := (Mine.defAtN 12).fst, body := FuncBody.stmts (Mine.defAtN 12).snd.fst, scope := (Mine.defAtN 12).snd.snd, globals := 0, closure := [], defaults := Value.none, kwdefaults := Value.none } }
noncomputable def o153 (P : Params) : Obj := { cls := Value.none, data := Data.fields #[] }
noncomputable def o156 (P : Params) : Obj := { cls := Value.none, data := Data.func { name := Str.ofString "low", qualname := Str.ofString "low", params := (Mine.defAtN 13).fst, body := FuncBody.stmts (Mine.defAtN 13).snd.fst, scope := (Mine.defAtN 13).snd.snd, globals := 0, closure := [], defaults := Value.none, kwdefaults := Value.none } }
noncomputable def o160 (P : Params) : Obj := { cls := Value.none, data := Data.fields #[] }
noncomputable def o163 (P : Params) : Obj := { cls := Value.none, data := Data.func { name := Str.ofString "need_limbs", qualname := Str.ofString "need_limbs", params := (Mine.defAtN 15).fst, body := FuncBody.stmts (Mine.defAtN 15).snd.fst, scope := (Mine.defAtN 15).snd.snd, globals := 0, closure := [], defaults := Value.none, kwdefaults := Value.none } }
noncomputable def o167 (P : Params) : Obj := { cls := Value.none, data := Data.fields #[] }
noncomputable def o170 (P : Params) : Obj := { cls := Value.none, data := Data.func { name := Str.ofString "fold_minus", qualname := Str.ofString "fold_minus", params := (Mine.defAtN 16).fst, body := FuncBody.stmts (Mine.defAtN 16).snd.fst, scope := (Mine.defAtN 16).snd.snd, globals := 0, closure := [], defaults := Value.none, kwdefaults := Value.none } }
noncomputable def o174 (P : Params) : Obj := { cls := Value.none, data := Data.fields #[] }
noncomputable def o177 (P : Params) : Obj := { cls := Value.none, data := Data.func { name := Str.ofString "fold_plus", qualname := Str.ofString "fold_plus", params := (Mine.defAtN 17).fst, body := FuncBody.stmts (Mine.defAtN 17).snd.fst, scope := (Mine.defAtN 17).snd.snd, globals := 0, closure := [], defaults := Value.none, kwdefaults := Value.none } }
noncomputable def o181 (P : Params) : Obj := { cls := Value.none, data := Data.fields #[] }
noncomputable def o184 (P : Params) : Obj := { cls := Value.none, data := Data.func { name := Str.ofString "joined_rests", qualname := Str.ofString "joined_rests", params := (Mine.defAtN 18).fst, body := FuncBody.stmts (Mine.defAtN 18).snd.fst, scope := (Mine.defAtN 18).snd.snd, globals := 0, closure := [], defaults := Value.none, kwdefaults := Value.none } }
noncomputable def o188 (P : Params) : Obj := { cls := Value.none, data := Data.fields #[] }
noncomputable def o191 (P : Params) : Obj := { cls := Value.none, data := Data.func { name := Str.ofString "wrapped_product", qualname := Str.ofString "wrapped_product", params := (Mine.defAtN 19).fst, body := FuncBody.stmts (Mine.defAtN 19).snd.fst, scope := (Mine.defAtN 19).snd.snd, globals := 0, closure := [], defaults := Value.none, kwdefaults := Value.none } }
noncomputable def o194 (P : Params) : Obj := { cls := Value.type "dict", data := Data.dict #[{ hash := PyData.keyHash P (Str.ofString "__name__"), key := Value.str (Str.ofString "__name__") 165, val := Value.str (Str.ofString "law_rr0057_01") 484 }, { hash := PyData.keyHash P (Str.ofString "__doc__"), key := Value.str (Str.ofString "__doc__") 166, val := Value.none }, { hash := PyData.keyHash P (Str.ofString "__package__"), key := Value.str (Str.ofString "__package__") 167, val := Value.none }, { hash := PyData.keyHash P (Str.ofString "__loader__"), key := Value.str (Str.ofString "__loader__") 168, val := Value.builtin "__main__.__loader__#opaque" }, { hash := PyData.keyHash P (Str.ofString "__spec__"), key := Value.str (Str.ofString "__spec__") 169, val := Value.none }, { hash := PyData.keyHash P (Str.ofString "__annotations__"), key := Value.str (Str.ofString "__annotations__") 170, val := Value.ref 6 }, { hash := PyData.keyHash P (Str.ofString "__builtins__"), key := Value.str (Str.ofString "__builtins__") 171, val := Value.ref 4 }, { hash := PyData.keyHash P (Str.ofString "__file__"), key := Value.str (Str.ofString "__file__") 173, val := Value.str (Str.ofString "/claim/cut.py") 172 }, { hash := PyData.keyHash P (Str.ofString "__cached__"), key := Value.str (Str.ofString "__cached__") 174, val := Value.none }, { hash := PyData.keyHash P (Str.ofString "GmpError"), key := Value.str (Str.ofString "GmpError") 208, val := Value.ref 24 }, { hash := PyData.keyHash P (Str.ofString "OutOfRange"), key := Value.str (Str.ofString "OutOfRange") 224, val := Value.ref 37 }, { hash := PyData.keyHash P (Str.ofString "normal"), key := Value.str (Str.ofString "normal") 232, val := Value.ref 46 }, { hash := PyData.keyHash P (Str.ofString "nat_of"), key := Value.str (Str.ofString "nat_of") 242, val := Value.ref 53 }, { hash := PyData.keyHash P (Str.ofString "is_even"), key := Value.str (Str.ofString "is_even") 249, val := Value.ref 60 }, { hash := PyData.keyHash P (Str.ofString "compare"), key := Value.str (Str.ofString "compare") 258, val := Value.ref 67 }, { hash := PyData.keyHash P (Str.ofString "add"), key := Value.str (Str.ofString "add") 271, val := Value.ref 74 }, { hash := PyData.keyHash P (Str.ofString "sub"), key := Value.str (Str.ofString "sub") 285, val := Value.ref 81 }, { hash := PyData.keyHash P (Str.ofString "lifted"), key := Value.str (Str.ofString "lifted") 293, val := Value.ref 88 }, { hash := PyData.keyHash P (Str.ofString "shift_left"), key := Value.str (Str.ofString "shift_left") 308, val := Value.ref 95 }, { hash := PyData.keyHash P (Str.ofString "shift_right"), key := Value.str (Str.ofString "shift_right") 323, val := Value.ref 102 }, { hash := PyData.keyHash P (Str.ofString "bits"), key := Value.str (Str.ofString "bits") 331, val := Value.ref 109 }, { hash := PyData.keyHash P (Str.ofString "low"), key := Value.str (Str.ofString "low") 342, val := Value.ref 116 }, { hash := PyData.keyHash P (Str.ofString "need_limbs"), key := Value.str (Str.ofString "need_limbs") 351, val := Value.ref 123 }, { hash := PyData.keyHash P (Str.ofString "fold_minus"), key := Value.str (Str.ofString "fold_minus") 361, val := Value.ref 130 }, { hash := PyData.keyHash P (Str.ofString "fold_plus"), key := Value.str (Str.ofString "fold_plus") 375, val := Value.ref 137 }, { hash := PyData.keyHash P (Str.ofString "joined_rests"), key := Value.str (Str.ofString "joined_rests") 389, val := Value.ref 144 }, { hash := PyData.keyHash P (Str.ofString "wrapped_product"), key := Value.str (Str.ofString "wrapped_product") 404, val := Value.ref 151 }, { hash := PyData.keyHash P (Str.ofString "ring_one"), key := Value.str (Str.ofString "ring_one") 414, val := Value.ref 158 }, { hash := PyData.keyHash P (Str.ofString "ring_add"), key := Value.str (Str.ofString "ring_add") 425, val := Value.ref 165 }, { hash := PyData.keyHash P (Str.ofString "ring_sub"), key := Value.str (Str.ofString "ring_sub") 435, val := Value.ref 172 }, { hash := PyData.keyHash P (Str.ofString "ring_neg"), key := Value.str (Str.ofString "ring_neg") 444, val := Value.ref 179 }, { hash := PyData.keyHash P (Str.ofString "need_ring"), key := Value.str (Str.ofString "need_ring") 451, val := Value.ref 186 }, { hash := PyData.keyHash P (Str.ofString "ring_fold"), key := Value.str (Str.ofString "ring_fold") 463, val := Value.ref 193 }, { hash := PyData.keyHash P (Str.ofString "ring_shift"), key := Value.str (Str.ofString "ring_shift") 473, val := Value.ref 200 }, { hash := PyData.keyHash P (Str.ofString "element_of"), key := Value.str (Str.ofString "element_of") 483, val := Value.ref 207 }, { hash := PyData.keyHash P (Str.ofString "_law_got"), key := Value.str (Str.ofString "_law_got") 493, val := Value.ref 214 }, { hash := PyData.keyHash P (Str.ofString "_law_limbs"), key := Value.str (Str.ofString "_law_limbs") 502, val := Value.ref 221 }, { hash := PyData.keyHash P (Str.ofString "_law_mul"), key := Value.str (Str.ofString "_law_mul") 508, val := Value.ref 226 }, { hash := PyData.keyHash P (Str.ofString "_law_number"), key := Value.str (Str.ofString "_law_number") 520, val := Value.ref 233 }] 39 }
noncomputable def o195 (P : Params) : Obj := { cls := Value.none, data := Data.fields #[Value.int 2 0, Value.int 0 0, Value.ref 20, Value.int 4 0, Value.int 0 0, Value.ref 33, Value.int 6 0, Value.int 0 0, Value.ref 45, Value.int 11 0, Value.int 0 0, Value.ref 52, Value.int 19 0, Value.int 0 0, Value.ref 59, Value.int 21 0, Value.int 0 0, Value.ref 66, Value.int 28 0, Value.int 0 0, Value.ref 73, Value.int 43 0, Value.int 0 0, Value.ref 80, Value.int 52 0, Value.int 0 0, Value.ref 87, Value.int 54 0, Value.int 0 0, Value.ref 94, Value.int 66 0, Value.int 0 0, Value.ref 101, Value.int 73 0, Value.int 0 0, Value.ref 108, Value.int 75 0, Value.int 0 0, Value.ref 115, Value.int 81 0, Value.int 0 0, Value.ref 122, Value.int 84 0, Value.int 0 0, Value.ref 129, Value.int 90 0, Value.int 0 0, Value.ref 136, Value.int 103 0, Value.int 0 0, Value.ref 143, Value.int 109 0, Value.int 0 0, Value.ref 150, Value.int 117 0, Value.int 0 0, Value.ref 157, Value.int 119 0, Value.int 0 0, Value.ref 164, Value.int 122 0, Value.int 0 0, Value.ref 171, Value.int 126 0, Value.int 0 0, Value.ref 178, Value.int 128 0, Value.int 0 0, Value.ref 185, Value.int 131 0, Value.int 0 0, Value.ref 192, Value.int 140 0, Value.int 0 0, Value.ref 199, Value.int 146 0, Value.int 0 0, Value.ref 206, Value.int 150 0, Value.int 0 0, Value.ref 213, Value.int 155 0, Value.int 0 0, Value.ref 220, Value.int 161 0, Value.int 0 0, Value.ref 225, Value.int 164 0, Value.int 0 0, Value.ref 232] }
noncomputable def o197 (P : Params) : Obj := { cls := Value.none, data := Data.fields #[] }
noncomputable def o200 (P : Params) : Obj := { cls := Value.none, data := Data.func { name := Str.ofString "ring_one", qualname := Str.ofString "ring_one", params := (Mine.defAtN 21).fst, body := FuncBody.stmts (Mine.defAtN 21).snd.fst, scope := (Mine.defAtN 21).snd.snd, globals := 0, closure := [], defaults := Value.none, kwdefaults := Value.none } }
noncomputable def o204 (P : Params) : Obj := { cls := Value.none, data := Data.fields #[] }
noncomputable def o207 (P : Params) : Obj := { cls := Value.none, data := Data.func { name := Str.ofString "ring_add", qualname := Str.ofString "ring_add", params := (Mine.defAtN 22).fst, body := FuncBody.stmts (Mine.defAtN 22).snd.fst, scope := (Mine.defAtN 22).snd.snd, globals := 0, closure := [], defaults := Value.none, kwdefaults := Value.none } }
noncomputable def o211 (P : Params) : Obj := { cls := Value.none, data := Data.fields #[] }
noncomputable def o214 (P : Params) : Obj := { cls := Value.none, data := Data.func { name := Str.ofString "ring_sub", qualname := Str.ofString "ring_sub", params := (Mine.defAtN 23).fst, body := FuncBody.stmts (Mine.defAtN 23).snd.fst, scope := (Mine.defAtN 23).snd.snd, globals := 0, closure := [], defaults := Value.none, kwdefaults := Value.none } }
noncomputable def o218 (P : Params) : Obj := { cls := Value.none, data := Data.fields #[] }
noncomputable def o221 (P : Params) : Obj := { cls := Value.none, data := Data.func { name := Str.ofString "ring_neg", qualname := Str.ofString "ring_neg", params := (Mine.defAtN 24).fst, body := FuncBody.stmts (Mine.defAtN 24).snd.fst, scope := (Mine.defAtN 24).snd.snd, globals := 0, closure := [], defaults := Value.none, kwdefaults := Value.none } }
noncomputable def o225 (P : Params) : Obj := { cls := Value.none, data := Data.fields #[] }
noncomputable def o228 (P : Params) : Obj := { cls := Value.none, data := Data.func { name := Str.ofString "need_ring", qualname := Str.ofString "need_ring", params := (Mine.defAtN 25).fst, body := FuncBody.stmts (Mine.defAtN 25).snd.fst, scope := (Mine.defAtN 25).snd.snd, globals := 0, closure := [], defaults := Value.none, kwdefaults := Value.none } }
noncomputable def o232 (P : Params) : Obj := { cls := Value.none, data := Data.fields #[] }
noncomputable def o235 (P : Params) : Obj := { cls := Value.none, data := Data.func { name := Str.ofString "ring_fold", qualname := Str.ofString "ring_fold", params := (Mine.defAtN 26).fst, body := FuncBody.stmts (Mine.defAtN 26).snd.fst, scope := (Mine.defAtN 26).snd.snd, globals := 0, closure := [], defaults := Value.none, kwdefaults := Value.none } }
noncomputable def o239 (P : Params) : Obj := { cls := Value.none, data := Data.fields #[] }
noncomputable def o242 (P : Params) : Obj := { cls := Value.none, data := Data.func { name := Str.ofString "ring_shift", qualname := Str.ofString "ring_shift", params := (Mine.defAtN 27).fst, body := FuncBody.stmts (Mine.defAtN 27).snd.fst, scope := (Mine.defAtN 27).snd.snd, globals := 0, closure := [], defaults := Value.none, kwdefaults := Value.none } }
noncomputable def o246 (P : Params) : Obj := { cls := Value.none, data := Data.fields #[] }
noncomputable def o249 (P : Params) : Obj := { cls := Value.none, data := Data.func { name := Str.ofString "element_of", qualname := Str.ofString "element_of", params := (Mine.defAtN 28).fst, body := FuncBody.stmts (Mine.defAtN 28).snd.fst, scope := (Mine.defAtN 28).snd.snd, globals := 0, closure := [], defaults := Value.none, kwdefaults := Value.none } }
noncomputable def o253 (P : Params) : Obj := { cls := Value.none, data := Data.fields #[] }
noncomputable def o256 (P : Params) : Obj := { cls := Value.none, data := Data.func { name := Str.ofString "_law_got", qualname := Str.ofString "_law_got", params := (Mine.defAtN 30).fst, body := FuncBody.stmts (Mine.defAtN 30).snd.fst, scope := (Mine.defAtN 30).snd.snd, globals := 0, closure := [], defaults := Value.none, kwdefaults := Value.none } }
noncomputable def o260 (P : Params) : Obj := { cls := Value.none, data := Data.fields #[] }
noncomputable def o263 (P : Params) : Obj := { cls := Value.none, data := Data.func { name := Str.ofString "_law_limbs", qualname := Str.ofString "_law_limbs", params := (Mine.defAtN 31).fst, body := FuncBody.stmts (Mine.defAtN 31).snd.fst, scope := (Mine.defAtN 31).snd.snd, globals := 0, closure := [], defaults := Value.none, kwdefaults := Value.none } }
noncomputable def o267 (P : Params) : Obj := { cls := Value.none, data := Data.fields #[] }
noncomputable def o268 (P : Params) : Obj := { cls := Value.none, data := Data.func { name := Str.ofString "_law_mul", qualname := Str.ofString "_law_mul", params := (Mine.defAtN 32).fst, body := FuncBody.stmts (Mine.defAtN 32).snd.fst, scope := (Mine.defAtN 32).snd.snd, globals := 0, closure := [], defaults := Value.none, kwdefaults := Value.none } }
noncomputable def o272 (P : Params) : Obj := { cls := Value.none, data := Data.fields #[] }
noncomputable def o275 (P : Params) : Obj := { cls := Value.none, data := Data.func { name := Str.ofString "_law_number", qualname := Str.ofString "_law_number", params := (Mine.defAtN 33).fst, body := FuncBody.stmts (Mine.defAtN 33).snd.fst, scope := (Mine.defAtN 33).snd.snd, globals := 0, closure := [], defaults := Value.none, kwdefaults := Value.none } }
noncomputable def o279 (P : Params) : Obj := { cls := Value.none, data := Data.fields #[Value.int 2 0, Value.int 0 0, Value.ref 20, Value.int 4 0, Value.int 0 0, Value.ref 33, Value.int 6 0, Value.int 0 0, Value.ref 45, Value.int 11 0, Value.int 0 0, Value.ref 52, Value.int 19 0, Value.int 0 0, Value.ref 59, Value.int 21 0, Value.int 0 0, Value.ref 66, Value.int 28 0, Value.int 0 0, Value.ref 73, Value.int 43 0, Value.int 0 0, Value.ref 80, Value.int 52 0, Value.int 0 0, Value.ref 87, Value.int 54 0, Value.int 0 0, Value.ref 94, Value.int 66 0, Value.int 0 0, Value.ref 101, Value.int 73 0, Value.int 0 0, Value.ref 108, Value.int 75 0, Value.int 0 0, Value.ref 115, Value.int 81 0, Value.int 0 0, Value.ref 122, Value.int 84 0, Value.int 0 0, Value.ref 129, Value.int 90 0, Value.int 0 0, Value.ref 136, Value.int 103 0, Value.int 0 0, Value.ref 143, Value.int 109 0, Value.int 0 0, Value.ref 150, Value.int 117 0, Value.int 0 0, Value.ref 157, Value.int 119 0, Value.int 0 0, Value.ref 164, Value.int 122 0, Value.int 0 0, Value.ref 171, Value.int 126 0, Value.int 0 0, Value.ref 178, Value.int 128 0, Value.int 0 0, Value.ref 185, Value.int 131 0, Value.int 0 0, Value.ref 192, Value.int 140 0, Value.int 0 0, Value.ref 199, Value.int 146 0, Value.int 0 0, Value.ref 206, Value.int 150 0, Value.int 0 0, Value.ref 213, Value.int 155 0, Value.int 0 0, Value.ref 220, Value.int 161 0, Value.int 0 0, Value.ref 225, Value.int 164 0, Value.int 0 0, Value.ref 232, Value.int 174 0, Value.int 0 0, Value.ref 239, Value.int 179 0, Value.int 0 0, Value.ref 244] }
noncomputable def o281 (P : Params) : Obj := { cls := Value.none, data := Data.fields #[] }
noncomputable def o284 (P : Params) : Obj := { cls := Value.none, data := Data.func { name := Str.ofString "_law_told", qualname := Str.ofString "_law_told", params := (Mine.defAtN 34).fst, body := FuncBody.stmts (Mine.defAtN 34).snd.fst, scope := (Mine.defAtN 34).snd.snd, globals := 0, closure := [], defaults := Value.none, kwdefaults := Value.none } }
noncomputable def o288 (P : Params) : Obj := { cls := Value.none, data := Data.fields #[] }
noncomputable def o289 (P : Params) : Obj := { cls := Value.none, data := Data.func { name := Str.ofString "law", qualname := Str.ofString "law", params := (Mine.defAtN 35).fst, body := FuncBody.stmts (Mine.defAtN 35).snd.fst, scope := (Mine.defAtN 35).snd.snd, globals := 0, closure := [], defaults := Value.none, kwdefaults := Value.none } }
noncomputable def t47 (P : Params) : BT := (.node (boot_o_0 P) (.node (boot_o_1 P) (.node (boot_o_3 P) (.node (boot_o_7 P) .nil .nil) (.node (o43 P) .nil .nil)) (.node (boot_o_5 P) (.node (boot_o_9 P) .nil .nil) (.node (o45 P) .nil .nil))) (.node (boot_o_2 P) (.node (boot_o_4 P) (.node (boot_o_8 P) .nil .nil) (.node (o44 P) .nil .nil)) (.node (boot_o_6 P) (.node (boot_o_10 P) .nil .nil) (.node (o46 P) .nil .nil))))
noncomputable def t64 (P : Params) : BT := (.node (boot_o_0 P) (.node (boot_o_1 P) (.node (o50 P) (.node (boot_o_7 P) (.node (kO P 2) .nil .nil) (.node (kO P 4) .nil .nil)) (.node (o43 P) (.node (o56 P) .nil .nil) (.node (o64 P) .nil .nil))) (.node (boot_o_5 P) (.node (boot_o_9 P) (.node (o54 P) .nil .nil) (.node (kO P 6) .nil .nil)) (.node (o45 P) (.node (o58 P) .nil .nil) .nil))) (.node (kO P 0) (.node (boot_o_4 P) (.node (boot_o_8 P) (.node (o53 P) .nil .nil) (.node (o61 P) .nil .nil)) (.node (o51 P) (.node (o57 P) .nil .nil) .nil)) (.node (boot_o_6 P) (.node (boot_o_10 P) (.node (o55 P) .nil .nil) (.node (o63 P) .nil .nil)) (.node (o46 P) (.node (kO P 3) .nil .nil) .nil))))
noncomputable def t114 (P : Params) : BT := (.node (boot_o_0 P) (.node (boot_o_1 P) (.node (o65 P) (.node (boot_o_7 P) (.node (kO P 2) (.node (o71 P) (.node (kO P 27) .nil .nil) .nil) (.node (kO P 16) .nil .nil)) (.node (kO P 4) (.node (o79 P) (.node (kO P 33) .nil .nil) .nil) (.node (o95 P) .nil .nil))) (.node (o43 P) (.node (o56 P) (.node (kO P 8) (.node (kO P 30) .nil .nil) .nil) (.node (o91 P) .nil .nil)) (.node (o64 P) (.node (kO P 13) .nil .nil) (.node (kO P 24) .nil .nil)))) (.node (boot_o_5 P) (.node (boot_o_9 P) (.node (o54 P) (.node (o73 P) (.node (o105 P) .nil .nil) .nil) (.node (kO P 17) .nil .nil)) (.node (kO P 6) (.node (o81 P) (.node (kO P 34) .nil .nil) .nil) (.node (kO P 23) .nil .nil))) (.node (o45 P) (.node (o58 P) (.node (kO P 10) (.node (o109 P) .nil .nil) .nil) (.node (kO P 20) .nil .nil)) (.node (o69 P) (.node (kO P 14) .nil .nil) (.node (kO P 26) .nil .nil))))) (.node (kO P 0) (.node (boot_o_4 P) (.node (boot_o_8 P) (.node (o53 P) (.node (o72 P) (.node (kO P 28) .nil .nil) .nil) (.node (o88 P) .nil .nil)) (.node (kO P 5) (.node (kO P 11) (.node (o112 P) .nil .nil) .nil) (.node (kO P 22) .nil .nil))) (.node (o66 P) (.node (o57 P) (.node (kO P 9) (.node (kO P 31) .nil .nil) .nil) (.node (kO P 19) .nil .nil)) (.node (kO P 7) (.node (o84 P) .nil .nil) (.node (kO P 25) .nil .nil)))) (.node (boot_o_6 P) (.node (boot_o_10 P) (.node (o55 P) (.node (o74 P) (.node (kO P 29) .nil .nil) .nil) (.node (kO P 18) .nil .nil)) (.node (o63 P) (.node (kO P 12) (.node (kO P 35) .nil .nil) .nil) (.node (o98 P) .nil .nil))) (.node (o46 P) (.node (kO P 3) (.node (o78 P) (.node (kO P 32) .nil .nil) .nil) (.node (kO P 21) .nil .nil)) (.node (o70 P) (.node (kO P 15) .nil .nil) (.node (o102 P) .nil .nil))))))
noncomputable def t193 (P : Params) : BT := (.node (boot_o_0 P) (.node (boot_o_1 P) (.node (o115 P) (.node (boot_o_7 P) (.node (kO P 2) (.node (o71 P) (.node (kO P 27) (.node (kO P 73) .nil .nil) .nil) (.node (kO P 50) .nil .nil)) (.node (kO P 16) (.node (o121 P) (.node (kO P 84) .nil .nil) .nil) (.node (o153 P) .nil .nil))) (.node (kO P 4) (.node (o79 P) (.node (kO P 33) (.node (o177 P) .nil .nil) .nil) (.node (kO P 56) .nil .nil)) (.node (o95 P) (.node (kO P 44) (.node (kO P 90) .nil .nil) .nil) (.node (kO P 67) .nil .nil)))) (.node (o43 P) (.node (o56 P) (.node (kO P 8) (.node (kO P 30) (.node (kO P 76) .nil .nil) .nil) (.node (kO P 53) .nil .nil)) (.node (o91 P) (.node (o125 P) (.node (kO P 87) .nil .nil) .nil) (.node (kO P 64) .nil .nil))) (.node (o64 P) (.node (kO P 13) (.node (kO P 36) (.node (o181 P) .nil .nil) .nil) (.node (o149 P) .nil .nil)) (.node (kO P 24) (.node (kO P 47) .nil .nil) (.node (kO P 70) .nil .nil))))) (.node (boot_o_5 P) (.node (boot_o_9 P) (.node (o54 P) (.node (o73 P) (.node (o105 P) (.node (kO P 74) .nil .nil) .nil) (.node (o139 P) .nil .nil)) (.node (kO P 17) (.node (kO P 40) (.node (kO P 86) .nil .nil) .nil) (.node (kO P 63) .nil .nil))) (.node (kO P 6) (.node (o81 P) (.node (kO P 34) (.node (kO P 80) .nil .nil) .nil) (.node (kO P 57) .nil .nil)) (.node (kO P 23) (.node (kO P 46) .nil .nil) (.node (o163 P) .nil .nil)))) (.node (o45 P) (.node (o58 P) (.node (kO P 10) (.node (o109 P) (.node (kO P 77) .nil .nil) .nil) (.node (kO P 54) .nil .nil)) (.node (kO P 20) (.node (kO P 43) (.node (o191 P) .nil .nil) .nil) (.node (kO P 66) .nil .nil))) (.node (o69 P) (.node (kO P 14) (.node (kO P 37) (.node (kO P 83) .nil .nil) .nil) (.node (kO P 60) .nil .nil)) (.node (kO P 26) (.node (o135 P) .nil .nil) (.node (o167 P) .nil .nil)))))) (.node (kO P 0) (.node (boot_o_4 P) (.node (boot_o_8 P) (.node (o53 P) (.node (o72 P) (.node (kO P 28) (.node (o170 P) .nil .nil) .nil) (.node (kO P 51) .nil .nil)) (.node (o88 P) (.node (kO P 39) (.node (kO P 85) .nil .nil) .nil) (.node (kO P 62) .nil .nil))) (.node (kO P 5) (.node (kO P 11) (.node (o112 P) (.node (kO P 79) .nil .nil) .nil) (.node (o146 P) .nil .nil)) (.node (kO P 22) (.node (kO P 45) .nil .nil) (.node (kO P 68) .nil .nil)))) (.node (o116 P) (.node (o57 P) (.node (kO P 9) (.node (kO P 31) (.node (o174 P) .nil .nil) .nil) (.node (o142 P) .nil .nil)) (.node (kO P 19) (.node (kO P 42) (.node (kO P 88) .nil .nil) .nil) (.node (kO P 65) .nil .nil))) (.node (kO P 7) (.node (o84 P) (.node (o118 P) (.node (kO P 82) .nil .nil) .nil) (.node (kO P 59) .nil .nil)) (.node (kO P 25) (.node (kO P 48) .nil .nil) (.node (kO P 71) .nil .nil))))) (.node (boot_o_6 P) (.node (boot_o_10 P) (.node (o55 P) (.node (o74 P) (.node (kO P 29) (.node (kO P 75) .nil .nil) .nil) (.node (kO P 52) .nil .nil)) (.node (kO P 18) (.node (kO P 41) (.node (o188 P) .nil .nil) .nil) (.node (o156 P) .nil .nil))) (.node (o63 P) (.node (kO P 12) (.node (kO P 35) (.node (kO P 81) .nil .nil) .nil) (.node (kO P 58) .nil .nil)) (.node (o98 P) (.node (o132 P) .nil .nil) (.node (kO P 69) .nil .nil)))) (.node (o46 P) (.node (kO P 3) (.node (o78 P) (.node (kO P 32) (.node (kO P 78) .nil .nil) .nil) (.node (kO P 55) .nil .nil)) (.node (kO P 21) (.node (o128 P) (.node (kO P 89) .nil .nil) .nil) (.node (o160 P) .nil .nil))) (.node (o70 P) (.node (kO P 15) (.node (kO P 38) (.node (o184 P) .nil .nil) .nil) (.node (kO P 61) .nil .nil)) (.node (o102 P) (.node (kO P 49) .nil .nil) (.node (kO P 72) .nil .nil)))))))
noncomputable def t277 (P : Params) : BT := (.node (boot_o_0 P) (.node (boot_o_1 P) (.node (o194 P) (.node (boot_o_7 P) (.node (kO P 2) (.node (o71 P) (.node (kO P 27) (.node (kO P 73) .nil .nil) (.node (o235 P) .nil .nil)) (.node (kO P 50) (.node (kO P 96) .nil .nil) (.node (o267 P) .nil .nil))) (.node (kO P 16) (.node (o121 P) (.node (kO P 84) .nil .nil) (.node (kO P 130) .nil .nil)) (.node (o153 P) (.node (kO P 107) .nil .nil) .nil))) (.node (kO P 4) (.node (o79 P) (.node (kO P 33) (.node (o177 P) .nil .nil) (.node (kO P 124) .nil .nil)) (.node (kO P 56) (.node (o211 P) .nil .nil) (.node (o275 P) .nil .nil))) (.node (o95 P) (.node (kO P 44) (.node (kO P 90) .nil .nil) (.node (kO P 136) .nil .nil)) (.node (kO P 67) (.node (kO P 113) .nil .nil) .nil)))) (.node (o43 P) (.node (o56 P) (.node (kO P 8) (.node (kO P 30) (.node (kO P 76) .nil .nil) (.node (o239 P) .nil .nil)) (.node (kO P 53) (.node (o207 P) .nil .nil) (.node (kO P 144) .nil .nil))) (.node (o91 P) (.node (o125 P) (.node (kO P 87) .nil .nil) (.node (kO P 133) .nil .nil)) (.node (kO P 64) (.node (kO P 110) .nil .nil) .nil))) (.node (o64 P) (.node (kO P 13) (.node (kO P 36) (.node (o181 P) .nil .nil) (.node (kO P 127) .nil .nil)) (.node (o149 P) (.node (kO P 104) .nil .nil) .nil)) (.node (kO P 24) (.node (kO P 47) (.node (kO P 93) .nil .nil) (.node (o263 P) .nil .nil)) (.node (kO P 70) (.node (kO P 116) .nil .nil) .nil))))) (.node (boot_o_5 P) (.node (boot_o_9 P) (.node (o54 P) (.node (o73 P) (.node (o105 P) (.node (kO P 74) .nil .nil) (.node (kO P 120) .nil .nil)) (.node (o139 P) (.node (kO P 97) .nil .nil) (.node (kO P 142) .nil .nil))) (.node (kO P 17) (.node (kO P 40) (.node (kO P 86) .nil .nil) (.node (o253 P) .nil .nil)) (.node (kO P 63) (.node (o221 P) .nil .nil) .nil))) (.node (kO P 6) (.node (o81 P) (.node (kO P 34) (.node (kO P 80) .nil .nil) (.node (kO P 126) .nil .nil)) (.node (kO P 57) (.node (kO P 103) .nil .nil) (.node (kO P 148) .nil .nil))) (.node (kO P 23) (.node (kO P 46) (.node (o197 P) .nil .nil) (.node (kO P 137) .nil .nil)) (.node (o163 P) (.node (kO P 114) .nil .nil) .nil)))) (.node (o45 P) (.node (o58 P) (.node (kO P 10) (.node (o109 P) (.node (kO P 77) .nil .nil) (.node (kO P 123) .nil .nil)) (.node (kO P 54) (.node (kO P 100) .nil .nil) (.node (kO P 145) .nil .nil))) (.node (kO P 20) (.node (kO P 43) (.node (o191 P) .nil .nil) (.node (kO P 134) .nil .nil)) (.node (kO P 66) (.node (o225 P) .nil .nil) .nil))) (.node (o69 P) (.node (kO P 14) (.node (kO P 37) (.node (kO P 83) .nil .nil) (.node (o249 P) .nil .nil)) (.node (kO P 60) (.node (kO P 106) .nil .nil) .nil)) (.node (kO P 26) (.node (o135 P) (.node (kO P 94) .nil .nil) (.node (kO P 140) .nil .nil)) (.node (o167 P) (.node (kO P 117) .nil .nil) .nil)))))) (.node (kO P 0) (.node (boot_o_4 P) (.node (boot_o_8 P) (.node (o53 P) (.node (o72 P) (.node (kO P 28) (.node (o170 P) .nil .nil) (.node (kO P 119) .nil .nil)) (.node (kO P 51) (.node (o204 P) .nil .nil) (.node (o268 P) .nil .nil))) (.node (o88 P) (.node (kO P 39) (.node (kO P 85) .nil .nil) (.node (kO P 131) .nil .nil)) (.node (kO P 62) (.node (kO P 108) .nil .nil) .nil))) (.node (kO P 5) (.node (kO P 11) (.node (o112 P) (.node (kO P 79) .nil .nil) (.node (kO P 125) .nil .nil)) (.node (o146 P) (.node (kO P 102) .nil .nil) (.node (kO P 147) .nil .nil))) (.node (kO P 22) (.node (kO P 45) (.node (kO P 91) .nil .nil) (.node (o260 P) .nil .nil)) (.node (kO P 68) (.node (o228 P) .nil .nil) .nil)))) (.node (o195 P) (.node (o57 P) (.node (kO P 9) (.node (kO P 31) (.node (o174 P) .nil .nil) (.node (kO P 122) .nil .nil)) (.node (o142 P) (.node (kO P 99) .nil .nil) (.node (o272 P) .nil .nil))) (.node (kO P 19) (.node (kO P 42) (.node (kO P 88) .nil .nil) (.node (o256 P) .nil .nil)) (.node (kO P 65) (.node (kO P 111) .nil .nil) .nil))) (.node (kO P 7) (.node (o84 P) (.node (o118 P) (.node (kO P 82) .nil .nil) (.node (kO P 128) .nil .nil)) (.node (kO P 59) (.node (kO P 105) .nil .nil) .nil)) (.node (kO P 25) (.node (kO P 48) (.node (o200 P) .nil .nil) (.node (kO P 139) .nil .nil)) (.node (kO P 71) (.node (o232 P) .nil .nil) .nil))))) (.node (boot_o_6 P) (.node (boot_o_10 P) (.node (o55 P) (.node (o74 P) (.node (kO P 29) (.node (kO P 75) .nil .nil) (.node (kO P 121) .nil .nil)) (.node (kO P 52) (.node (kO P 98) .nil .nil) (.node (kO P 143) .nil .nil))) (.node (kO P 18) (.node (kO P 41) (.node (o188 P) .nil .nil) (.node (kO P 132) .nil .nil)) (.node (o156 P) (.node (kO P 109) .nil .nil) .nil))) (.node (o63 P) (.node (kO P 12) (.node (kO P 35) (.node (kO P 81) .nil .nil) (.node (o246 P) .nil .nil)) (.node (kO P 58) (.node (o214 P) .nil .nil) .nil)) (.node (o98 P) (.node (o132 P) (.node (kO P 92) .nil .nil) (.node (kO P 138) .nil .nil)) (.node (kO P 69) (.node (kO P 115) .nil .nil) .nil)))) (.node (o46 P) (.node (kO P 3) (.node (o78 P) (.node (kO P 32) (.node (kO P 78) .nil .nil) (.node (o242 P) .nil .nil)) (.node (kO P 55) (.node (kO P 101) .nil .nil) (.node (kO P 146) .nil .nil))) (.node (kO P 21) (.node (o128 P) (.node (kO P 89) .nil .nil) (.node (kO P 135) .nil .nil)) (.node (o160 P) (.node (kO P 112) .nil .nil) .nil))) (.node (o70 P) (.node (kO P 15) (.node (kO P 38) (.node (o184 P) .nil .nil) (.node (kO P 129) .nil .nil)) (.node (kO P 61) (.node (o218 P) .nil .nil) .nil)) (.node (o102 P) (.node (kO P 49) (.node (kO P 95) .nil .nil) (.node (kO P 141) .nil .nil)) (.node (kO P 72) (.node (kO P 118) .nil .nil) .nil)))))))
noncomputable def t291 (P : Params) : BT := (.node (boot_o_0 P) (.node (boot_o_1 P) (.node (kO P 1) (.node (boot_o_7 P) (.node (kO P 2) (.node (o71 P) (.node (kO P 27) (.node (kO P 73) .nil .nil) (.node (o235 P) .nil .nil)) (.node (kO P 50) (.node (kO P 96) .nil .nil) (.node (o267 P) .nil .nil))) (.node (kO P 16) (.node (o121 P) (.node (kO P 84) .nil .nil) (.node (kO P 130) .nil .nil)) (.node (o153 P) (.node (kO P 107) .nil .nil) (.node (kO P 152) .nil .nil)))) (.node (kO P 4) (.node (o79 P) (.node (kO P 33) (.node (o177 P) .nil .nil) (.node (kO P 124) .nil .nil)) (.node (kO P 56) (.node (o211 P) .nil .nil) (.node (o275 P) .nil .nil))) (.node (o95 P) (.node (kO P 44) (.node (kO P 90) .nil .nil) (.node (kO P 136) .nil .nil)) (.node (kO P 67) (.node (kO P 113) .nil .nil) .nil)))) (.node (o43 P) (.node (o56 P) (.node (kO P 8) (.node (kO P 30) (.node (kO P 76) .nil .nil) (.node (o239 P) .nil .nil)) (.node (kO P 53) (.node (o207 P) .nil .nil) (.node (kO P 144) .nil .nil))) (.node (o91 P) (.node (o125 P) (.node (kO P 87) .nil .nil) (.node (kO P 133) .nil .nil)) (.node (kO P 64) (.node (kO P 110) .nil .nil) (.node (o289 P) .nil .nil)))) (.node (o64 P) (.node (kO P 13) (.node (kO P 36) (.node (o181 P) .nil .nil) (.node (kO P 127) .nil .nil)) (.node (o149 P) (.node (kO P 104) .nil .nil) (.node (o281 P) .nil .nil))) (.node (kO P 24) (.node (kO P 47) (.node (kO P 93) .nil .nil) (.node (o263 P) .nil .nil)) (.node (kO P 70) (.node (kO P 116) .nil .nil) .nil))))) (.node (boot_o_5 P) (.node (boot_o_9 P) (.node (o54 P) (.node (o73 P) (.node (o105 P) (.node (kO P 74) .nil .nil) (.node (kO P 120) .nil .nil)) (.node (o139 P) (.node (kO P 97) .nil .nil) (.node (kO P 142) .nil .nil))) (.node (kO P 17) (.node (kO P 40) (.node (kO P 86) .nil .nil) (.node (o253 P) .nil .nil)) (.node (kO P 63) (.node (o221 P) .nil .nil) (.node (kO P 154) .nil .nil)))) (.node (kO P 6) (.node (o81 P) (.node (kO P 34) (.node (kO P 80) .nil .nil) (.node (kO P 126) .nil .nil)) (.node (kO P 57) (.node (kO P 103) .nil .nil) (.node (kO P 148) .nil .nil))) (.node (kO P 23) (.node (kO P 46) (.node (o197 P) .nil .nil) (.node (kO P 137) .nil .nil)) (.node (o163 P) (.node (kO P 114) .nil .nil) .nil)))) (.node (o45 P) (.node (o58 P) (.node (kO P 10) (.node (o109 P) (.node (kO P 77) .nil .nil) (.node (kO P 123) .nil .nil)) (.node (kO P 54) (.node (kO P 100) .nil .nil) (.node (kO P 145) .nil .nil))) (.node (kO P 20) (.node (kO P 43) (.node (o191 P) .nil .nil) (.node (kO P 134) .nil .nil)) (.node (kO P 66) (.node (o225 P) .nil .nil) (.node (kO P 156) .nil .nil)))) (.node (o69 P) (.node (kO P 14) (.node (kO P 37) (.node (kO P 83) .nil .nil) (.node (o249 P) .nil .nil)) (.node (kO P 60) (.node (kO P 106) .nil .nil) (.node (kO P 151) .nil .nil))) (.node (kO P 26) (.node (o135 P) (.node (kO P 94) .nil .nil) (.node (kO P 140) .nil .nil)) (.node (o167 P) (.node (kO P 117) .nil .nil) .nil)))))) (.node (kO P 0) (.node (boot_o_4 P) (.node (boot_o_8 P) (.node (o53 P) (.node (o72 P) (.node (kO P 28) (.node (o170 P) .nil .nil) (.node (kO P 119) .nil .nil)) (.node (kO P 51) (.node (o204 P) .nil .nil) (.node (o268 P) .nil .nil))) (.node (o88 P) (.node (kO P 39) (.node (kO P 85) .nil .nil) (.node (kO P 131) .nil .nil)) (.node (kO P 62) (.node (kO P 108) .nil .nil) (.node (kO P 153) .nil .nil)))) (.node (kO P 5) (.node (kO P 11) (.node (o112 P) (.node (kO P 79) .nil .nil) (.node (kO P 125) .nil .nil)) (.node (o146 P) (.node (kO P 102) .nil .nil) (.node (kO P 147) .nil .nil))) (.node (kO P 22) (.node (kO P 45) (.node (kO P 91) .nil .nil) (.node (o260 P) .nil .nil)) (.node (kO P 68) (.node (o228 P) .nil .nil) .nil)))) (.node (o279 P) (.node (o57 P) (.node (kO P 9) (.node (kO P 31) (.node (o174 P) .nil .nil) (.node (kO P 122) .nil .nil)) (.node (o142 P) (.node (kO P 99) .nil .nil) (.node (o272 P) .nil .nil))) (.node (kO P 19) (.node (kO P 42) (.node (kO P 88) .nil .nil) (.node (o256 P) .nil .nil)) (.node (kO P 65) (.node (kO P 111) .nil .nil) (.node (kO P 155) .nil .nil)))) (.node (kO P 7) (.node (o84 P) (.node (o118 P) (.node (kO P 82) .nil .nil) (.node (kO P 128) .nil .nil)) (.node (kO P 59) (.node (kO P 105) .nil .nil) (.node (kO P 150) .nil .nil))) (.node (kO P 25) (.node (kO P 48) (.node (o200 P) .nil .nil) (.node (kO P 139) .nil .nil)) (.node (kO P 71) (.node (o232 P) .nil .nil) .nil))))) (.node (boot_o_6 P) (.node (boot_o_10 P) (.node (o55 P) (.node (o74 P) (.node (kO P 29) (.node (kO P 75) .nil .nil) (.node (kO P 121) .nil .nil)) (.node (kO P 52) (.node (kO P 98) .nil .nil) (.node (kO P 143) .nil .nil))) (.node (kO P 18) (.node (kO P 41) (.node (o188 P) .nil .nil) (.node (kO P 132) .nil .nil)) (.node (o156 P) (.node (kO P 109) .nil .nil) (.node (o288 P) .nil .nil)))) (.node (o63 P) (.node (kO P 12) (.node (kO P 35) (.node (kO P 81) .nil .nil) (.node (o246 P) .nil .nil)) (.node (kO P 58) (.node (o214 P) .nil .nil) (.node (kO P 149) .nil .nil))) (.node (o98 P) (.node (o132 P) (.node (kO P 92) .nil .nil) (.node (kO P 138) .nil .nil)) (.node (kO P 69) (.node (kO P 115) .nil .nil) .nil)))) (.node (o46 P) (.node (kO P 3) (.node (o78 P) (.node (kO P 32) (.node (kO P 78) .nil .nil) (.node (o242 P) .nil .nil)) (.node (kO P 55) (.node (kO P 101) .nil .nil) (.node (kO P 146) .nil .nil))) (.node (kO P 21) (.node (o128 P) (.node (kO P 89) .nil .nil) (.node (kO P 135) .nil .nil)) (.node (o160 P) (.node (kO P 112) .nil .nil) .nil))) (.node (o70 P) (.node (kO P 15) (.node (kO P 38) (.node (o184 P) .nil .nil) (.node (kO P 129) .nil .nil)) (.node (kO P 61) (.node (o218 P) .nil .nil) (.node (o284 P) .nil .nil))) (.node (o102 P) (.node (kO P 49) (.node (kO P 95) .nil .nil) (.node (kO P 141) .nil .nil)) (.node (kO P 72) (.node (kO P 118) .nil .nil) .nil)))))))
noncomputable def h46 (P : Params) : Heap := { objs := ⟨boot_o_0 P :: boot_o_1 P :: boot_o_2 P :: boot_o_3 P :: boot_o_4 P :: boot_o_5 P :: boot_o_6 P :: boot_o_7 P :: boot_o_8 P :: boot_o_9 P :: boot_o_10 P :: o43 P :: o44 P :: o45 P :: o46 P :: []⟩ }
noncomputable def h292 (P : Params) : Heap := { objs := ⟨boot_o_0 P :: boot_o_1 P :: kO P 0 :: kO P 1 :: boot_o_4 P :: boot_o_5 P :: boot_o_6 P :: boot_o_7 P :: boot_o_8 P :: boot_o_9 P :: boot_o_10 P :: o43 P :: o279 P :: o45 P :: o46 P :: kO P 2 :: o53 P :: o54 P :: o55 P :: o56 P :: o57 P :: o58 P :: kO P 3 :: kO P 4 :: kO P 5 :: kO P 6 :: o63 P :: o64 P :: kO P 7 :: o69 P :: o70 P :: o71 P :: o72 P :: o73 P :: o74 P :: kO P 8 :: kO P 9 :: kO P 10 :: o78 P :: o79 P :: kO P 11 :: o81 P :: kO P 12 :: kO P 13 :: o84 P :: kO P 14 :: kO P 15 :: kO P 16 :: o88 P :: kO P 17 :: kO P 18 :: o91 P :: kO P 19 :: kO P 20 :: kO P 21 :: o95 P :: kO P 22 :: kO P 23 :: o98 P :: kO P 24 :: kO P 25 :: kO P 26 :: o102 P :: kO P 27 :: kO P 28 :: o105 P :: kO P 29 :: kO P 30 :: kO P 31 :: o109 P :: kO P 32 :: kO P 33 :: o112 P :: kO P 34 :: kO P 35 :: kO P 36 :: o118 P :: kO P 37 :: kO P 38 :: o121 P :: kO P 39 :: kO P 40 :: kO P 41 :: o125 P :: kO P 42 :: kO P 43 :: o128 P :: kO P 44 :: kO P 45 :: kO P 46 :: o132 P :: kO P 47 :: kO P 48 :: o135 P :: kO P 49 :: kO P 50 :: kO P 51 :: o139 P :: kO P 52 :: kO P 53 :: o142 P :: kO P 54 :: kO P 55 :: kO P 56 :: o146 P :: kO P 57 :: kO P 58 :: o149 P :: kO P 59 :: kO P 60 :: kO P 61 :: o153 P :: kO P 62 :: kO P 63 :: o156 P :: kO P 64 :: kO P 65 :: kO P 66 :: o160 P :: kO P 67 :: kO P 68 :: o163 P :: kO P 69 :: kO P 70 :: kO P 71 :: o167 P :: kO P 72 :: kO P 73 :: o170 P :: kO P 74 :: kO P 75 :: kO P 76 :: o174 P :: kO P 77 :: kO P 78 :: o177 P :: kO P 79 :: kO P 80 :: kO P 81 :: o181 P :: kO P 82 :: kO P 83 :: o184 P :: kO P 84 :: kO P 85 :: kO P 86 :: o188 P :: kO P 87 :: kO P 88 :: o191 P :: kO P 89 :: kO P 90 :: kO P 91 :: o197 P :: kO P 92 :: kO P 93 :: o200 P :: kO P 94 :: kO P 95 :: kO P 96 :: o204 P :: kO P 97 :: kO P 98 :: o207 P :: kO P 99 :: kO P 100 :: kO P 101 :: o211 P :: kO P 102 :: kO P 103 :: o214 P :: kO P 104 :: kO P 105 :: kO P 106 :: o218 P :: kO P 107 :: kO P 108 :: o221 P :: kO P 109 :: kO P 110 :: kO P 111 :: o225 P :: kO P 112 :: kO P 113 :: o228 P :: kO P 114 :: kO P 115 :: kO P 116 :: o232 P :: kO P 117 :: kO P 118 :: o235 P :: kO P 119 :: kO P 120 :: kO P 121 :: o239 P :: kO P 122 :: kO P 123 :: o242 P :: kO P 124 :: kO P 125 :: kO P 126 :: o246 P :: kO P 127 :: kO P 128 :: o249 P :: kO P 129 :: kO P 130 :: kO P 131 :: o253 P :: kO P 132 :: kO P 133 :: o256 P :: kO P 134 :: kO P 135 :: kO P 136 :: o260 P :: kO P 137 :: kO P 138 :: o263 P :: kO P 139 :: kO P 140 :: kO P 141 :: o267 P :: o268 P :: kO P 142 :: kO P 143 :: kO P 144 :: o272 P :: kO P 145 :: kO P 146 :: o275 P :: kO P 147 :: kO P 148 :: kO P 149 :: o281 P :: kO P 150 :: kO P 151 :: o284 P :: kO P 152 :: kO P 153 :: kO P 154 :: o288 P :: o289 P :: kO P 155 :: kO P 156 :: []⟩ }
noncomputable abbrev RP : Program := PySem.Challenge.rw_rr0057_01.row.prog
noncomputable def env41 : Env := { scope := RP.main.scope, locals := mainNs, globals := mainNs, cells := [], code := .ref 13, frame := some 14 }
noncomputable abbrev BB : List Stmt := behindTheImports RP
noncomputable abbrev CE : Code := .body BB env41
noncomputable abbrev ps (a b c d : Nat) : Pos := { line := a, col := b, endLine := c, endCol := d }
noncomputable abbrev B0 : List Frame := [topFrame (ps 0 0 0 0)]
noncomputable abbrev ST (t : BT) (n k : Nat) (os : OsState) : SharedT := ⟨t, n, {}, #[], {}, k, os⟩
noncomputable abbrev SH (h : Heap) (k : Nat) (os : OsState) : Shared := ⟨h, #[], {}, k, os⟩
noncomputable def sts (a n : Nat) : List Stmt := (BB.drop a).take n
theorem go0 (w : World) (os : OsState) : topGo treeTable RP w 11 (some (.ref 6)) 12 ⟨boot_heap w.params, #[], boot_drawn, boot_toks, os⟩ (topStub RP) = some (SH (h46 w.params) 187 os, ⟨denote treeTable CE, CE, ps 0 0 0 0, B0⟩) := by kernel_rfl
theorem blk (w : World) (os : OsState) : segRun treeTable RP w 11 (some (.ref 6)) 1 1 (SH (h46 w.params) 187 os) (blockOf BB env41 CE (ps 0 0 0 0) B0) = some (.next, (ST (t47 w.params) 15 187 os).abs, CE, ps 0 0 0 0) := by kernel_rfl
theorem pc0 (w : World) (os : OsState) : segRunT treeTable RP w 11 (some (.ref 6)) 1 206 (ST (t47 w.params) 15 187 os) (piecesOf (sts 0 2) env41 CE (ps 0 0 0 0) B0) = some (.next, ST (t64 w.params) 28 209 os, CE, ps 2 0 3 8) := by
  rw [PySem.W.Fast.te10110043849684766642, PySem.W.Fast.te14364793385576792824]
  kernel_rfl
theorem pc1 (w : World) (os : OsState) : segRunT treeTable RP w 11 (some (.ref 6)) 1 371 (ST (t64 w.params) 28 209 os) (piecesOf (sts 2 6) env41 CE (ps 2 0 3 8) B0) = some (.next, ST (t114 w.params) 75 272 os, CE, ps 28 0 42 16) := by
  rw [PySem.W.Fast.te10110043849684766642, PySem.W.Fast.te14364793385576792824]
  kernel_rfl
theorem pc2 (w : World) (os : OsState) : segRunT treeTable RP w 11 (some (.ref 6)) 1 392 (ST (t114 w.params) 75 272 os) (piecesOf (sts 8 13) env41 CE (ps 28 0 42 16) B0) = some (.next, ST (t193 w.params) 152 407 os, CE, ps 116 0 116 8) := by
  rw [PySem.W.Fast.te10110043849684766642, PySem.W.Fast.te14364793385576792824]
  kernel_rfl
theorem pc3 (w : World) (os : OsState) : segRunT treeTable RP w 11 (some (.ref 6)) 1 384 (ST (t193 w.params) 152 407 os) (piecesOf (sts 21 13) env41 CE (ps 116 0 116 8) B0) = some (.next, ST (t277 w.params) 234 521 os, CE, ps 164 0 173 16) := by
  rw [PySem.W.Fast.te10110043849684766642, PySem.W.Fast.te14364793385576792824]
  kernel_rfl
theorem pc4 (w : World) (os : OsState) : segRunT treeTable RP w 11 (some (.ref 6)) 1 56 (ST (t277 w.params) 234 521 os) (piecesOf (sts 34 2) env41 CE (ps 164 0 173 16) B0) = some (.next, ST (t291 w.params) 246 534 os, CE, ps 179 0 201 114) := by
  rw [PySem.W.Fast.te10110043849684766642, PySem.W.Fast.te14364793385576792824]
  kernel_rfl
theorem bb : BB = sts 0 2 ++ (sts 2 6 ++ (sts 8 13 ++ (sts 21 13 ++ (sts 34 2 ++ [])))) := by kernel_rfl
theorem fin (w : World) (os : OsState) : topRun treeTable RP w 11 (some (.ref 6)) 2 (ST (t291 w.params) 246 534 os).abs ⟨doneF .next, CE, ps 179 0 201 114, B0⟩ = some (SH (h292 w.params) 534 os) := by kernel_rfl
theorem runs (w : World) (os : OsState) : topRun treeTable RP w 11 (some (.ref 6)) (12 + (1 + (206 + (371 + (392 + (384 + (56 + 2))))))) ⟨boot_heap w.params, #[], boot_drawn, boot_toks, os⟩ (topStub RP) = some (SH (h292 w.params) 534 os) :=
  go_top (go0 w os) (piece_block (blk w os) ((congrArg (fun l => topRun treeTable RP w 11 (some (.ref 6)) (206 + (371 + (392 + (384 + (56 + 2))))) (ST (t47 w.params) 15 187 os).abs (restOf l env41 CE (ps 0 0 0 0) B0)) bb).trans
    (piece_app (segRun_of (pc0 w os)) (piece_app (segRun_of (pc1 w os)) (piece_app (segRun_of (pc2 w os)) (piece_app (segRun_of (pc3 w os)) (piece_app (segRun_of (pc4 w os)) (piece_nil (fin w os)))))))))
noncomputable abbrev XT : Shared → Bool := fun s => xlAt view [] s && recOk (RowW.records PySem.Challenge.rw_rr0057_01.row.toRowW) s
noncomputable abbrev MD : List Str := []
noncomputable abbrev OS (w : World) (os : OsState) := openSeen view [] MD XT true (SH (h292 w.params) 534 os)
theorem os0 (w : World) (os : OsState) : (OS w os).1 = expectedOf view := by
  delta OS openSeen; dsimp only
  rw [PySem.W.Fast.te5160383126252970620, PySem.W.Fast.te3399658132070893891, PySem.W.Fast.te5991557255702980513]
  kernel_rfl
theorem os1 (w : World) (os : OsState) : (OS w os).2.1 = bltViewBooted := by
  kernel_rfl
theorem os2 (w : World) (os : OsState) : (OS w os).2.2.1 = true := by
  delta OS openSeen; dsimp only
  rw [PySem.W.Fast.te10880121769531294198, PySem.W.Fast.te821141287760084731, PySem.W.Fast.te3399658132070893891, PySem.W.Fast.te7409074990110511671, PySem.W.Fast.te13664370479719496447, PySem.W.Fast.te14722251495701143533, PySem.W.Fast.te10994771534591457954]
  kernel_rfl
theorem os3 (w : World) (os : OsState) : (OS w os).2.2.2.1 = true := by
  delta OS openSeen; dsimp only
  rw [PySem.W.Fast.te479339242167458305]
  kernel_rfl
theorem os4 (w : World) (os : OsState) : (OS w os).2.2.2.2.1 = pinGoodD (drecsOf view) := by
  delta OS openSeen; dsimp only
  rw [PySem.W.Fast.te16090120013241838585]
  kernel_rfl
theorem os5 (w : World) (os : OsState) : (OS w os).2.2.2.2.2.1 = plainGoodE view (looseW view []) := by
  delta OS openSeen; dsimp only
  rw [PySem.W.Fast.te2386780881361962483]
  kernel_rfl
theorem os6 (w : World) (os : OsState) : (OS w os).2.2.2.2.2.2.1 = plainGoodD view [] := by
  kernel_rfl
theorem os7 (w : World) (os : OsState) : (OS w os).2.2.2.2.2.2.2.1 = wideGood view := by
  delta OS openSeen; dsimp only
  rw [PySem.W.Fast.te7317090234206586261]
  kernel_rfl
theorem os8 (w : World) (os : OsState) : (OS w os).2.2.2.2.2.2.2.2 = clsGoodW view [] := by
  kernel_rfl
theorem lk0 (w : World) (os : OsState) : (staticsOk MD (boot_heap w.params) (h292 w.params) && namesBound RP (h292 w.params) && gensDone (SH (h292 w.params) 534 os) && laidKept (boot_heap w.params) (h292 w.params)) = true := by kernel_rfl
theorem lk2 (w : World) (os : OsState) : Hook.obs HK (SH (h292 w.params) 534 os) = Hook.val HK w := by kernel_rfl
theorem sz (w : World) : ((boot_heap w.params).isNs mainGlobals && (#[] : Array GenState).size == 0, (boot_heap w.params).objs.size, (boot_heap w.params).nsMap mainGlobals "__annotations__") = (true, 11, some (.ref 6)) := by kernel_rfl
theorem op0 : opening RP = plainProg RP.main.scope.names := by kernel_rfl
theorem op1 (s : Shared) : fenceModules? RP s = some s := by kernel_rfl
theorem left : LeftO RP view [] XT (Hook.obs HK) (Hook.val HK) 2934 :=
  LeftO.of_pieces (boot_open op0 (by rfl) op1) sz runs (by rfl) fun w => funext fun os => looks_pair (lk0 w os) (looks_pair (Prod.ext (os0 w os) (Prod.ext (os1 w os) (Prod.ext (os2 w os) (Prod.ext (os3 w os) (Prod.ext (os4 w os) (Prod.ext (os5 w os) (Prod.ext (os6 w os) (Prod.ext (os7 w os) (os8 w os))))))))) (lk2 w os))
noncomputable abbrev LL := PySem.Challenge.rw_rr0057_01
noncomputable abbrev FT : List Stmt := LL.footing
theorem sd0 : (sreFenced RP.main && ((moduleNames RP.main.body).isEmpty || lookedIntoSs (moduleNames RP.main.body) RP.main.body)) = true := by kernel_rfl
theorem sd1 : namesResolve RP = true := by
  rw [PySem.W.Fast.te8377067652309620493]
  kernel_rfl
theorem sd2 : (RP.boundNames.all fun n => !worldNames.contains n) = true := by kernel_rfl
theorem sd3 : noRoadLSs { strict := false, foot := none, bare := (["vars", "dir", "locals"] : List Str).filter (readsOut RP RP.main.body) } RP.main.body = true := by
  rw [PySem.W.Fast.te8326940854005059898, PySem.W.Fast.te13343964577679436407]
  kernel_rfl
theorem sd4 : (namesMeet RP RP.main.body fun _ n => attrL n) = true := by
  rw [PySem.W.Fast.te17119622794617984870]
  kernel_rfl
theorem sd5 : looksOpen RP = true := look_both (look_both (look_both (look_both sd0 sd1) sd2) sd3) sd4
theorem sd6 : OpenRow.wellSaid LL.row = true := by
  unfold OpenRow.wellSaid OpenRow.partSaid
  repeat' (with_reducible apply look_both)
  all_goals first | with_reducible exact sd5 | kernel_rfl
theorem law_said : OpenLaw.wellSaid PySem.Challenge.rw_rr0057_01 = true := by
  unfold OpenLaw.wellSaid
  repeat' (with_reducible apply look_both)
  all_goals first | with_reducible exact sd6 | ((try rw [PySem.W.Fast.te8179353310426384613]); (try rw [PySem.W.Fast.te8326940854005059898]); (try rw [PySem.W.Fast.te9558739934217749035]); (try rw [PySem.W.Fast.te16286561074155671207]); (try rw [PySem.W.Fast.te17119622794617984870]); (try rw [PySem.W.Fast.te6984425678791042302]); (try rw [PySem.W.Fast.te10792542408131684335]); kernel_rfl)
-- M1
section
noncomputable def val (b : Int) : List Int → Int
  | [] => 0
  | x :: xs => x + b * val b xs
noncomputable def InR (b : Int) (xs : List Int) : Prop := ∀ x ∈ xs, 0 ≤ x ∧ x < b
noncomputable def Can (b : Int) (xs : List Int) (v : Int) : Prop := InR b xs ∧ xs.getLast? ≠ some 0 ∧ val b xs = v
theorem pow_pos' {b : Int} (hb : 0 < b) (n : Nat) : 0 < b ^ n := Int.pow_pos hb
theorem val_append (b : Int) (xs ys : List Int) : val b (xs ++ ys) = val b xs + b ^ xs.length * val b ys := by
  induction xs with
  | nil => simp [val]
  | cons x xs ih =>
    simp only [List.cons_append, val, ih, List.length_cons]
    grind
theorem InR.nil {b : Int} : InR b [] := fun _ h => nomatch h
theorem InR.append {b : Int} {xs ys : List Int} (h : InR b xs) (k : InR b ys) : InR b (xs ++ ys) := fun x hx => (List.mem_append.mp hx).elim (h x) (k x)
theorem InR.one {b x : Int} (h0 : 0 ≤ x) (h1 : x < b) : InR b [x] := fun y hy => by rw [List.mem_singleton.mp hy]; exact ⟨h0, h1⟩
theorem InR.take {b : Int} {xs : List Int} (h : InR b xs) (n : Nat) : InR b (xs.take n) := fun x hx => h x (List.mem_of_mem_take hx)
theorem InR.drop {b : Int} {xs : List Int} (h : InR b xs) (n : Nat) : InR b (xs.drop n) := fun x hx => h x (List.mem_of_mem_drop hx)
theorem InR.get {b : Int} {xs : List Int} (h : InR b xs) (hb : 0 < b) (i : Nat) : 0 ≤ xs.getD i 0 ∧ xs.getD i 0 < b := by
  rw [List.getD_eq_getElem?_getD]
  cases e : xs[i]? with
  | none => simp; omega
  | some x => simp; exact h x (List.mem_of_getElem? e)
theorem val_bound {b : Int} (hb : 0 < b) {xs : List Int} (h : InR b xs) : 0 ≤ val b xs ∧ val b xs < b ^ xs.length := by
  induction xs with
  | nil => simp [val]
  | cons x xs ih =>
    have ⟨i1, i2⟩ := ih (fun y hy => h y (.tail _ hy))
    have ⟨x0, x1⟩ := h x (.head _)
    have p : 0 ≤ b * val b xs := Int.mul_nonneg (by omega) i1
    have q : b * (val b xs + 1) ≤ b * b ^ xs.length := Int.mul_le_mul_of_nonneg_left (by omega) (by omega)
    simp only [val, List.length_cons, Int.pow_succ]
    rw [Int.mul_add, Int.mul_one] at q
    constructor
    · omega
    · rw [Int.mul_comm (b ^ xs.length) b]; omega
theorem take_succ_getD {xs : List Int} {i : Nat} (h : i < xs.length) : xs.take (i + 1) = xs.take i ++ [xs.getD i 0] := by
  rw [List.take_add_one, List.getD_eq_getElem?_getD, List.getElem?_eq_getElem h]
  simp
theorem val_take_succ (b : Int) {xs : List Int} {i : Nat} (h : i < xs.length) : val b (xs.take (i + 1)) = val b (xs.take i) + b ^ i * xs.getD i 0 := by
  rw [take_succ_getD h, val_append, List.length_take, Nat.min_eq_left (Nat.le_of_lt h)]
  simp [val]
theorem val_split (b : Int) (xs : List Int) (n : Nat) (h : n ≤ xs.length) : val b xs = val b (xs.take n) + b ^ n * val b (xs.drop n) := by
  have := val_append b (xs.take n) (xs.drop n)
  rw [List.take_append_drop, List.length_take, Nat.min_eq_left h] at this
  exact this
theorem can_low {b : Int} (hb : 2 ≤ b) {xs : List Int} {v : Int} (h : Can b xs v) (hne : xs ≠ []) : b ^ (xs.length - 1) ≤ v := by
  obtain ⟨hr, hl, hv⟩ := h
  have e := List.dropLast_concat_getLast hne
  have hlast : xs.getLast hne ≠ 0 := fun e => hl (by rw [List.getLast?_eq_some_getLast hne, e])
  have hin := hr _ (List.getLast_mem hne)
  have h1 : 1 ≤ xs.getLast hne := by omega
  have hd : InR b xs.dropLast := fun x hx => hr x (List.dropLast_subset _ hx)
  have := (val_bound (by omega) hd).1
  rw [← hv, ← e, val_append, List.length_append, List.length_dropLast]
  simp only [val, List.length_cons, List.length_nil]
  have p : 0 < b ^ (xs.length - 1) := pow_pos' (by omega) _
  have q : b ^ (xs.length - 1) * 1 ≤ b ^ (xs.length - 1) * xs.getLast hne := Int.mul_le_mul_of_nonneg_left h1 (by omega)
  rw [show xs.length - 1 + (0 + 1) - 1 = xs.length - 1 by omega]
  simp only [Int.mul_zero, Int.add_zero]
  omega
theorem can_of_low {b : Int} (hb : 2 ≤ b) {xs : List Int} {v : Int} (hr : InR b xs) (hv : val b xs = v) (hl : xs.length = 0 ∨ b ^ (xs.length - 1) ≤ v) : Can b xs v := by
  refine ⟨hr, fun e => ?_, hv⟩
  rcases hl with hl | hl
  · rw [List.length_eq_zero_iff] at hl; subst hl; simp at e
  · have hne : xs ≠ [] := by intro h; subst h; simp at e
    have ee := List.dropLast_concat_getLast hne
    have hlast : xs.getLast hne = 0 := by rw [List.getLast?_eq_some_getLast hne] at e; exact Option.some.inj e
    have hd : InR b xs.dropLast := fun x hx => hr x (List.dropLast_subset _ hx)
    have h2 := (val_bound (by omega) hd).2
    rw [← hv, ← ee, val_append, hlast, List.length_append, List.length_dropLast] at hl
    simp only [val, List.length_cons, List.length_nil, Int.mul_zero, Int.add_zero] at hl
    rw [List.length_dropLast] at h2
    rw [show xs.length - 1 + (0 + 1) - 1 = xs.length - 1 by omega] at hl
    omega
theorem can_nil {b : Int} : Can b [] 0 := ⟨InR.nil, by simp, rfl⟩
theorem can_nonneg {b : Int} (hb : 2 ≤ b) {xs : List Int} {v : Int} (h : Can b xs v) : 0 ≤ v := by rw [← h.2.2]; exact (val_bound (by omega) h.1).1
theorem can_pos {b : Int} (hb : 2 ≤ b) {xs : List Int} {v : Int} (h : Can b xs v) (hne : xs ≠ []) : 0 < v := Int.lt_of_lt_of_le (pow_pos' (by omega) _) (can_low hb h hne)
theorem can_zero {b : Int} (hb : 2 ≤ b) {xs : List Int} (h : Can b xs 0) : xs = [] := by
  apply Classical.byContradiction
  intro hne
  have := can_pos hb h hne
  omega
theorem can_lt {b : Int} (hb : 2 ≤ b) {xs : List Int} {v : Int} (h : Can b xs v) : v < b ^ xs.length := by rw [← h.2.2]; exact (val_bound (by omega) h.1).2
theorem pow_le_pow' {b : Int} (hb : 1 ≤ b) {m n : Nat} (h : m ≤ n) : b ^ m ≤ b ^ n := by
  obtain ⟨k, rfl⟩ := Nat.exists_eq_add_of_le h
  rw [Int.pow_add]
  have := pow_pos' (show 0 < b by omega) m
  have q := pow_pos' (show 0 < b by omega) k
  have r : b ^ m * 1 ≤ b ^ m * b ^ k := Int.mul_le_mul_of_nonneg_left (by omega) (by omega)
  omega
theorem two_pow_le {b : Int} (hb : 2 ≤ b) (n : Nat) : (2 : Int) ^ n ≤ b ^ n := by
  induction n with
  | zero => simp
  | succ n ih =>
    rw [Int.pow_succ, Int.pow_succ]
    have := pow_pos' (show (0 : Int) < 2 by omega) n
    exact Int.mul_le_mul ih hb (by omega) (by omega)
theorem can_len {b : Int} (hb : 2 ≤ b) {xs : List Int} {v : Int} (h : Can b xs v) {k : Nat} (hv : v < 2 ^ k) : xs.length ≤ k := by
  apply Classical.byContradiction
  intro hk
  have hne : xs ≠ [] := by intro e; subst e; simp at hk
  have h1 := can_low hb h hne
  have h2 := two_pow_le hb (xs.length - 1)
  have h3 : (2 : Int) ^ k ≤ 2 ^ (xs.length - 1) := pow_le_pow' (by omega) (by omega)
  omega
theorem inr_unique {b : Int} (hb : 2 ≤ b) : ∀ {xs ys : List Int}, InR b xs → InR b ys → xs.length = ys.length → val b xs = val b ys → xs = ys
  | [], [], _, _, _, _ => rfl
  | [], _ :: _, _, _, h, _ => by simp at h
  | _ :: _, [], _, _, h, _ => by simp at h
  | x :: xs, y :: ys, hx, hy, hl, hv => by
    have ⟨x0, x1⟩ := hx x (.head _)
    have ⟨y0, y1⟩ := hy y (.head _)
    simp only [val] at hv
    have e1 : (x + b * val b xs) % b = x := by rw [Int.add_mul_emod_self_left]; exact Int.emod_eq_of_lt x0 x1
    have e2 : (y + b * val b ys) % b = y := by rw [Int.add_mul_emod_self_left]; exact Int.emod_eq_of_lt y0 y1
    have e : x = y := by rw [← e1, hv, e2]
    subst e
    have e3 : b * val b xs = b * val b ys := by omega
    have e4 := Int.eq_of_mul_eq_mul_left (by omega) e3
    rw [inr_unique hb (fun z hz => hx z (.tail _ hz)) (fun z hz => hy z (.tail _ hz)) (by simpa using hl) e4]
theorem can_len_le {b : Int} (hb : 2 ≤ b) {xs ys : List Int} {u v : Int} (hx : Can b xs u) (hy : Can b ys v) (h : u ≤ v) : xs.length ≤ ys.length := by
  apply Classical.byContradiction
  intro hk
  have hne : xs ≠ [] := by intro e; subst e; simp at hk
  have h1 := can_low hb hx hne
  have h2 := can_lt hb hy
  have h3 : b ^ ys.length ≤ b ^ (xs.length - 1) := pow_le_pow' (by omega) (by omega)
  omega
theorem can_unique {b : Int} (hb : 2 ≤ b) {xs ys : List Int} {v : Int} (hx : Can b xs v) (hy : Can b ys v) : xs = ys :=
  inr_unique hb hx.1 hy.1 (Nat.le_antisymm (can_len_le hb hx hy (by omega)) (can_len_le hb hy hx (by omega))) (hx.2.2.trans hy.2.2.symm)
theorem base_ge {w : Int} (hw : 0 < w) : (2 : Int) ≤ 2 ^ w.toNat := by
  have := pow_le_pow' (b := 2) (by omega) (show 1 ≤ w.toNat by omega)
  simpa using this
end
-- M2
section
theorem maskW (z : Int) (w : Int) : Builtin.bitAnd z (1 * 2 ^ w.toNat - 1) = z % 2 ^ w.toNat := by rw [Int.one_mul, kbt_mask]
theorem fdivW (z : Int) (k : Nat) : Int.fdiv z (2 ^ k) = z / 2 ^ k := Int.fdiv_eq_ediv_of_nonneg _ (Int.le_of_lt (Int.pow_pos (by decide)))
theorem twoPos (k : Nat) : (0 : Int) < 2 ^ k := Int.pow_pos (by decide)
noncomputable def AddInv (b : Int) (A B : List Int) (i : Nat) (c : Int) (F : List Int) : Prop :=
  F.length = i ∧ InR b F ∧ 0 ≤ c ∧ c ≤ 1 ∧ val b F + b ^ i * c = val b (A.take i) + val b (B.take i)
theorem addInv_start {b : Int} {A B : List Int} : AddInv b A B 0 0 [] := ⟨rfl, InR.nil, by omega, by omega, by simp [val]⟩
theorem addInv_step {b : Int} (hb : 0 < b) {A B : List Int} {i : Nat} {c : Int} {F : List Int} (h : AddInv b A B i c F) (x y : Int) (hx : 0 ≤ x ∧ x < b) (hy : 0 ≤ y ∧ y < b)
    (ha : val b (A.take (i + 1)) = val b (A.take i) + b ^ i * x) (hB : val b (B.take (i + 1)) = val b (B.take i) + b ^ i * y) :
    AddInv b A B (i + 1) ((c + (x + y)) / b) (F ++ [(c + (x + y)) % b]) := by
  obtain ⟨h1, h2, h3, h4, h5⟩ := h
  have m0 := Int.emod_nonneg (c + (x + y)) (show b ≠ 0 by omega)
  have m1 := Int.emod_lt_of_pos (c + (x + y)) hb
  have e := Int.mul_ediv_add_emod (c + (x + y)) b
  refine ⟨by simp [h1], h2.append (InR.one m0 m1), Int.ediv_nonneg (by omega) (by omega), ?_, ?_⟩
  · have : (c + (x + y)) / b < 2 := Int.ediv_lt_of_lt_mul hb (by omega)
    omega
  · rw [val_append, h1, ha, hB, Int.pow_succ]
    simp only [val, Int.mul_zero, Int.add_zero]
    have e2 : b ^ i * ((c + (x + y)) % b) + b ^ i * b * ((c + (x + y)) / b) = b ^ i * (c + (x + y)) := by
      rw [Int.mul_assoc, ← Int.mul_add, Int.add_comm, e]
    have e3 : b ^ i * (c + (x + y)) = b ^ i * c + b ^ i * x + b ^ i * y := by grind
    omega
theorem val_take_out (b : Int) {xs : List Int} {i : Nat} (h : xs.length ≤ i) : val b (xs.take (i + 1)) = val b (xs.take i) + b ^ i * 0 := by
  rw [List.take_of_length_le h, List.take_of_length_le (by omega)]; simp
theorem getD_out {xs : List Int} {i : Nat} (h : xs.length ≤ i) : xs.getD i 0 = 0 := by simp [List.getD_eq_getElem?_getD, List.getElem?_eq_none h]
theorem AddInv.len {b : Int} {A B : List Int} {i : Nat} {c : Int} {F : List Int} (h : AddInv b A B i c F) : F.length = i := h.1
theorem AddInv.symm {b : Int} {A B : List Int} {i : Nat} {c : Int} {F : List Int} (h : AddInv b A B i c F) : AddInv b B A i c F := ⟨h.1, h.2.1, h.2.2.1, h.2.2.2.1, by rw [h.2.2.2.2, Int.add_comm]⟩
theorem AddInv.at {b : Int} {A B : List Int} {i j : Nat} {c : Int} {F : List Int} (h : AddInv b A B i c F) (e : i = j) : AddInv b A B j c F := e ▸ h
theorem add_step1 {w : Int} {A B : List Int} (hA : InR (2 ^ w.toNat) A) (hB : InR (2 ^ w.toNat) B) {i : Nat} {k c : Int} {F : List Int} (h : AddInv (2 ^ w.toNat) A B i c F)
    (hk : k = 0 + (i : Int)) (h1 : i < A.length) (h2 : i < B.length) :
    AddInv (2 ^ w.toNat) A B (i + 1) ((c + (A.getD k.toNat 0 + B.getD k.toNat 0)).fdiv (2 ^ w.toNat)) (F ++ [Builtin.bitAnd (c + (A.getD k.toNat 0 + B.getD k.toNat 0)) (1 * 2 ^ w.toNat - 1)]) := by
  have e : k.toNat = i := by omega
  rw [e, maskW, fdivW]
  exact addInv_step (twoPos _) h _ _ (hA.get (twoPos _) _) (hB.get (twoPos _) _) (val_take_succ _ h1) (val_take_succ _ h2)
theorem add_step1' {w : Int} {A B : List Int} (hA : InR (2 ^ w.toNat) A) (hB : InR (2 ^ w.toNat) B) {i : Nat} {k c : Int} {F : List Int} (h : AddInv (2 ^ w.toNat) A B i c F)
    (hk : k = 0 + (i : Int)) (h1 : i < A.length) (h2 : i < B.length) :
    AddInv (2 ^ w.toNat) A B (i + 1) ((c + (B.getD k.toNat 0 + A.getD k.toNat 0)).fdiv (2 ^ w.toNat)) (F ++ [Builtin.bitAnd (c + (B.getD k.toNat 0 + A.getD k.toNat 0)) (1 * 2 ^ w.toNat - 1)]) :=
  (add_step1 hB hA h.symm hk h2 h1).symm
theorem add_step2 {w : Int} {A B : List Int} (hA : InR (2 ^ w.toNat) A) {i : Nat} {k c : Int} {F : List Int} (h : AddInv (2 ^ w.toNat) A B (min A.length B.length + i) c F)
    (hk : k = (B.length : Int) + (i : Int)) (h1 : B.length + i < A.length) :
    AddInv (2 ^ w.toNat) A B (min A.length B.length + (i + 1)) ((c + A.getD k.toNat 0).fdiv (2 ^ w.toNat)) (F ++ [Builtin.bitAnd (c + A.getD k.toNat 0) (1 * 2 ^ w.toNat - 1)]) := by
  have e : k.toNat = B.length + i := by omega
  have em : min A.length B.length = B.length := by omega
  rw [em] at h ⊢
  rw [e, maskW, fdivW]
  have := addInv_step (twoPos _) h (A.getD (B.length + i) 0) 0 (hA.get (twoPos _) _) ⟨by omega, twoPos _⟩ (val_take_succ _ h1) (val_take_out _ (by omega))
  rw [Int.add_zero] at this
  exact this
theorem add_step2' {w : Int} {A B : List Int} (hB : InR (2 ^ w.toNat) B) {i : Nat} {k c : Int} {F : List Int} (h : AddInv (2 ^ w.toNat) A B (min A.length B.length + i) c F)
    (hk : k = (A.length : Int) + (i : Int)) (h1 : A.length + i < B.length) :
    AddInv (2 ^ w.toNat) A B (min A.length B.length + (i + 1)) ((c + B.getD k.toNat 0).fdiv (2 ^ w.toNat)) (F ++ [Builtin.bitAnd (c + B.getD k.toNat 0) (1 * 2 ^ w.toNat - 1)]) := by
  rw [Nat.min_comm] at h ⊢
  exact (add_step2 hB h.symm hk h1).symm
theorem add_end {b : Int} (hb : 2 ≤ b) {A B : List Int} {x y : Int} (hA : Can b A x) (hB : Can b B y) (hl : B.length ≤ A.length) {c : Int} {F : List Int} (h : AddInv b A B A.length c F) :
    (0 < c → Can b (F ++ [c]) (x + y)) ∧ (¬ 0 < c → Can b F (x + y)) := by
  obtain ⟨h1, h2, h3, h4, h5⟩ := h
  rw [List.take_of_length_le (Nat.le_refl _), List.take_of_length_le hl, hA.2.2, hB.2.2] at h5
  have hy := can_nonneg hb hB
  constructor
  · intro hc
    refine ⟨h2.append (InR.one (by omega) (by omega)), by simp; omega, ?_⟩
    rw [val_append, h1]; simp only [val, Int.mul_zero, Int.add_zero]; exact h5
  · intro hc
    have : c = 0 := by omega
    subst this
    rw [Int.mul_zero, Int.add_zero] at h5
    refine can_of_low hb h2 h5 ?_
    rw [h1]
    by_cases hne : A = []
    · left; simp [hne]
    · right
      have := can_low hb hA hne
      omega
theorem add_endA {b : Int} (hb : 2 ≤ b) {A B : List Int} {x y : Int} (hA : Can b A x) (hB : Can b B y) {i : Nat} {c : Int} {F : List Int} (h : AddInv b A B i c F) (hi : i = max A.length B.length) :
    (0 < c → Can b (F ++ [c]) (x + y)) ∧ (¬ 0 < c → Can b F (x + y)) := by
  by_cases hl : B.length ≤ A.length
  · have e : i = A.length := by omega
    subst e
    exact add_end hb hA hB hl h
  · have e : i = B.length := by omega
    subst e
    rw [Int.add_comm]
    exact add_end hb hB hA (by omega) h.symm
end
-- M3
section

theorem and_disj {x y : Nat} {k : Nat} (hx : x < 2 ^ k) : x &&& (2 ^ k * y) = 0 := by
  apply Nat.eq_of_testBit_eq
  intro i
  rw [Nat.testBit_and, Nat.testBit_two_pow_mul, Nat.zero_testBit]
  by_cases h : k ≤ i
  · rw [Nat.testBit_lt_two_pow (Nat.lt_of_lt_of_le hx (Nat.pow_le_pow_right (by omega) h))]; simp
  · simp [h]
theorem bitOr_disj {x y : Int} {k : Nat} (hx0 : 0 ≤ x) (hx : x < 2 ^ k) (hy : 0 ≤ y) : Builtin.bitOr x (y * 2 ^ k) = x + y * 2 ^ k := by
  have hp := twoPos k
  have h2 : 0 ≤ y * 2 ^ k := Int.mul_nonneg hy (Int.le_of_lt hp)
  rw [bitOr_and, bitAnd_pp hx0 h2]
  obtain ⟨a, rfl⟩ := Int.eq_ofNat_of_zero_le hx0
  obtain ⟨c, rfl⟩ := Int.eq_ofNat_of_zero_le hy
  have e : ((c : Int) * 2 ^ k).toNat = 2 ^ k * c := by
    have : ((c : Int) * 2 ^ k) = ((2 ^ k * c : Nat) : Int) := by rw [Int.natCast_mul, Int.natCast_pow, Int.mul_comm]; rfl
    rw [this]; rfl
  have ha : a < 2 ^ k := by
    have : ((a : Nat) : Int) < ((2 ^ k : Nat) : Int) := by rw [Int.natCast_pow]; exact hx
    exact Int.ofNat_lt.mp this
  rw [e, Int.toNat_natCast, and_disj ha]
  simp
theorem pow_split {w1 k : Int} (hw : 0 < w1) (hk : 0 ≤ k) : (2 : Int) ^ k.toNat = (2 ^ w1.toNat) ^ (k.fdiv w1).toNat * 2 ^ (k.fmod w1).toNat := by
  rw [← Int.pow_mul, ← Int.pow_add]
  congr 1
  rw [Int.fdiv_eq_ediv_of_nonneg _ (by omega), Int.fmod_eq_emod_of_nonneg _ (by omega)]
  have e := Int.mul_ediv_add_emod k w1
  have h0 := Int.ediv_nonneg hk (show 0 ≤ w1 by omega)
  have h1 := Int.emod_nonneg k (show w1 ≠ 0 by omega)
  have h2 : ((w1.toNat * (k / w1).toNat : Nat) : Int) = w1 * (k / w1) := by rw [Int.natCast_mul, Int.toNat_of_nonneg (by omega), Int.toNat_of_nonneg h0]
  omega
theorem fdiv_facts {w1 k : Int} (hw : 0 < w1) (hk : 0 ≤ k) : 0 ≤ k.fdiv w1 ∧ k.fdiv w1 ≤ k := by
  rw [Int.fdiv_eq_ediv_of_nonneg _ (by omega)]
  exact ⟨Int.ediv_nonneg hk (by omega), Int.ediv_le_self _ hk⟩
theorem fmod_facts {w1 k : Int} (hw : 0 < w1) : 0 ≤ k.fmod w1 ∧ k.fmod w1 < w1 := by
  rw [Int.fmod_eq_emod_of_nonneg _ (by omega)]
  exact ⟨Int.emod_nonneg _ (by omega), Int.emod_lt_of_pos _ hw⟩
theorem flat_zeros (n : Nat) : (List.replicate n [(0 : Int)]).flatten = List.replicate n 0 := by
  induction n with
  | zero => rfl
  | succ n ih => rw [List.replicate_succ, List.flatten_cons, ih]; rfl
theorem val_zeros (b : Int) (n : Nat) : val b (List.replicate n 0) = 0 := by
  induction n with
  | zero => rfl
  | succ n ih => rw [List.replicate_succ, val, ih]; simp
theorem inr_zeros {b : Int} (hb : 0 < b) (n : Nat) : InR b (List.replicate n 0) := fun x hx => by rw [List.eq_of_mem_replicate hx]; exact ⟨by omega, hb⟩
theorem lifted_fin {b : Int} {A : List Int} {v : Int} {k : Int} (hb : 2 ≤ b) (h : Can b A v) (hne : 0 < A.length) : Can b ((List.replicate k.toNat [(0 : Int)]).flatten ++ A) (v * b ^ k.toNat) := by
  rw [flat_zeros]
  have hA : A ≠ [] := by intro e; subst e; simp at hne
  refine ⟨(inr_zeros (by omega) _).append h.1, ?_, ?_⟩
  · rw [List.getLast?_append, List.getLast?_eq_some_getLast hA]
    have := h.2.1
    rw [List.getLast?_eq_some_getLast hA] at this
    exact this
  · rw [val_append, val_zeros, h.2.2, List.length_replicate]; grind
theorem lifted_fin0 {b : Int} {A : List Int} {v : Int} {k : Nat} (h : Can b A v) (hne : ¬ (0 < A.length)) : Can b [] (v * b ^ k) := by
  have : A = [] := List.length_eq_zero_iff.mp (by omega)
  subst this
  have e : v = 0 := h.2.2.symm
  rw [e, Int.zero_mul]; exact can_nil
theorem normal_fin {b : Int} {ns : List Int} (hr : InR b ns) {k : Int} (h0 : k ≤ (ns.length : Int)) (h1 : 0 ≤ k)
    (ha : ∀ j : Int, k < j → j ≤ (ns.length : Int) → ns.getD (j - 1).toNat 0 = 0) (hl : 0 < k → ns.getD (k - 1).toNat 0 ≠ 0) : Can b (ns.take k.toNat) (val b ns) := by
  refine ⟨hr.take _, ?_, ?_⟩
  · by_cases hk : 0 < k
    · have e : ns.take k.toNat = ns.take (k - 1).toNat ++ [ns.getD (k - 1).toNat 0] := by
        rw [show k.toNat = (k - 1).toNat + 1 by omega]
        exact take_succ_getD (by omega)
      rw [e, List.getLast?_append]
      simp only [List.getLast?_singleton, Option.some_or]
      intro h
      exact hl hk (Option.some.inj h)
    · have : k.toNat = 0 := by omega
      rw [this]; simp
  · rw [val_split b ns k.toNat (by omega)]
    have hz : ∀ x ∈ ns.drop k.toNat, x = 0 := by
      intro x hx
      obtain ⟨i, hi, rfl⟩ := List.mem_iff_getElem.mp hx
      rw [List.length_drop] at hi
      have := ha (k + i + 1) (by omega) (by omega)
      rw [show (k + i + 1 - 1).toNat = k.toNat + i by omega] at this
      rw [List.getElem_drop]
      rw [List.getD_eq_getElem?_getD, List.getElem?_eq_getElem (by omega)] at this
      exact this
    have e : ns.drop k.toNat = List.replicate (ns.drop k.toNat).length 0 := List.eq_replicate_of_mem hz
    rw [e, val_zeros]; simp
end
-- M4
section

theorem cmp_len {b : Int} (hb : 2 ≤ b) {A B : List Int} {x y : Int} (hA : Can b A x) (hB : Can b B y) (h : A.length < B.length) : x < y := by
  apply Classical.byContradiction
  intro hn
  have := can_len_le hb hB hA (by omega)
  omega
theorem drop_getD {xs : List Int} {i : Nat} (h : i < xs.length) : xs.drop i = xs.getD i 0 :: xs.drop (i + 1) := by
  rw [List.getD_eq_getElem?_getD, List.getElem?_eq_getElem h]
  exact List.drop_eq_getElem_cons h
theorem cmp_at {b : Int} (hb : 2 ≤ b) {A B : List Int} (hA : InR b A) (hB : InR b B) {j : Nat} (hj : j < A.length) (hj2 : j < B.length) (he : A.drop (j + 1) = B.drop (j + 1)) (h : A.getD j 0 < B.getD j 0) : val b A < val b B := by
  rw [val_split b A j (by omega), val_split b B j (by omega), drop_getD hj, drop_getD hj2, he]
  simp only [val]
  have h1 := (val_bound (by omega) (hA.take j)).2
  have h2 := (val_bound (by omega) (hB.take j)).1
  rw [List.length_take, Nat.min_eq_left (by omega)] at h1
  have p := pow_pos' (show 0 < b by omega) j
  have q : b ^ j * (A.getD j 0 + 1) ≤ b ^ j * B.getD j 0 := Int.mul_le_mul_of_nonneg_left (by omega) (by omega)
  rw [Int.mul_add] at q
  rw [Int.mul_add, Int.mul_add]
  omega
noncomputable def CmpInv (A B : List Int) (i : Nat) : Prop := A.drop (A.length - i) = B.drop (A.length - i)
theorem cmp_start {A B : List Int} (h : A.length = B.length) : CmpInv A B 0 := by unfold CmpInv; rw [Nat.sub_zero, List.drop_length, h, List.drop_length]
theorem cmp_step {A B : List Int} {i : Nat} {k : Int} (h : CmpInv A B i) (hl : A.length = B.length) (hk : k = (A.length : Int) - 1 + (i : Int) * (-1)) (hi : i < A.length) (he : A.getD k.toNat 0 = B.getD k.toNat 0) : CmpInv A B (i + 1) := by
  unfold CmpInv at *
  have e : k.toNat = A.length - (i + 1) := by omega
  rw [e] at he
  rw [drop_getD (xs := A) (i := A.length - (i + 1)) (by omega), drop_getD (xs := B) (i := A.length - (i + 1)) (by omega), he, show A.length - (i + 1) + 1 = A.length - i by omega, h]
theorem cmp_end {b : Int} {A B : List Int} {x y : Int} (hA : Can b A x) (hB : Can b B y) (h : CmpInv A B A.length) : x = y := by
  unfold CmpInv at h
  rw [Nat.sub_self, List.drop_zero, List.drop_zero] at h
  subst h
  rw [← hA.2.2, ← hB.2.2]
theorem cmp_less {b : Int} (hb : 2 ≤ b) {A B : List Int} {x y : Int} (hA : Can b A x) (hB : Can b B y) {i : Nat} {k : Int} (h : CmpInv A B i) (hl : A.length = B.length) (hk : k = (A.length : Int) - 1 + (i : Int) * (-1)) (hi : i < A.length) (hlt : A.getD k.toNat 0 < B.getD k.toNat 0) : x < y := by
  unfold CmpInv at h
  rw [← hA.2.2, ← hB.2.2]
  have e : k.toNat = A.length - (i + 1) := by omega
  rw [e] at hlt
  exact cmp_at hb hA.1 hB.1 (j := A.length - (i + 1)) (by omega) (by omega) (by rw [show A.length - (i + 1) + 1 = A.length - i by omega]; exact h) hlt
theorem CmpInv.symm {A B : List Int} {i : Nat} (h : CmpInv A B i) (hl : A.length = B.length) : CmpInv B A i := by unfold CmpInv at *; rw [← hl, h]
noncomputable def SubInv (b : Int) (A B : List Int) (i : Nat) (F : List Int) (c : Int) : Prop :=
  F.length = i ∧ InR b F ∧ 0 ≤ c ∧ c ≤ 1 ∧ val b F + val b (B.take i) = val b (A.take i) + b ^ i * c
theorem sub_start {b : Int} {A B : List Int} : SubInv b A B 0 [] 0 := ⟨rfl, InR.nil, by omega, by omega, by simp [val]⟩
theorem SubInv.len {b : Int} {A B : List Int} {i : Nat} {F : List Int} {c : Int} (h : SubInv b A B i F c) : F.length = i := h.1
theorem sub_step0 {b : Int} (hb : 0 < b) {A B : List Int} {i : Nat} {F : List Int} {c x y d c' : Int} (h : SubInv b A B i F c) (hx : 0 ≤ x ∧ x < b) (hy : 0 ≤ y ∧ y < b)
    (ha : val b (A.take (i + 1)) = val b (A.take i) + b ^ i * x) (hB : val b (B.take (i + 1)) = val b (B.take i) + b ^ i * y)
    (hd : 0 ≤ d ∧ d < b) (hc : 0 ≤ c' ∧ c' ≤ 1) (he : d + y + c = x + b * c') : SubInv b A B (i + 1) (F ++ [d]) c' := by
  obtain ⟨h1, h2, h3, h4, h5⟩ := h
  refine ⟨by simp [h1], h2.append (InR.one hd.1 hd.2), hc.1, hc.2, ?_⟩
  rw [val_append, h1, ha, hB, Int.pow_succ]
  simp only [val, Int.mul_zero, Int.add_zero]
  have e2 : b ^ i * d + b ^ i * y + b ^ i * c = b ^ i * x + b ^ i * b * c' := by
    have : b ^ i * (d + y + c) = b ^ i * (x + b * c') := by rw [he]
    grind
  omega
theorem sub_step {b : Int} (hb : 0 < b) {A B : List Int} (hA : InR b A) (hB : InR b B) {i : Nat} {F : List Int} {c k : Int} (h : SubInv b A B i F c) (hk : k = 0 + (i : Int)) (hi : i < A.length) (y : Int)
    (hy : y = B.getD k.toNat 0) :
    (A.getD k.toNat 0 - c - y < 0 → SubInv b A B (i + 1) (F ++ [A.getD k.toNat 0 - c - y + b]) 1) ∧ (¬ (A.getD k.toNat 0 - c - y < 0) → SubInv b A B (i + 1) (F ++ [A.getD k.toNat 0 - c - y]) 0) := by
  have e : k.toNat = i := by omega
  rw [e] at hy ⊢
  subst hy
  have hx := hA.get hb i
  have hy := hB.get hb i
  have h3 := h.2.2.1
  have h4 := h.2.2.2.1
  have hBt : val b (B.take (i + 1)) = val b (B.take i) + b ^ i * B.getD i 0 := by
    by_cases hl : i < B.length
    · exact val_take_succ _ hl
    · rw [getD_out (by omega)]; exact val_take_out _ (by omega)
  constructor
  · intro hlt
    exact sub_step0 hb h hx hy (val_take_succ _ hi) hBt ⟨by omega, by omega⟩ ⟨by omega, by omega⟩ (by omega)
  · intro hlt
    exact sub_step0 hb h hx hy (val_take_succ _ hi) hBt ⟨by omega, by omega⟩ ⟨by omega, by omega⟩ (by omega)
theorem sub_end {b : Int} (hb : 2 ≤ b) {A B : List Int} {x y : Int} (hA : Can b A x) (hB : Can b B y) (hxy : y ≤ x) {i : Nat} (hi : i = A.length) {F : List Int} {c : Int} (h : SubInv b A B i F c) : InR b F ∧ val b F = x - y := by
  subst hi
  obtain ⟨h1, h2, h3, h4, h5⟩ := h
  have hl := can_len_le hb hB hA hxy
  rw [List.take_of_length_le (Nat.le_refl _), List.take_of_length_le hl, hA.2.2, hB.2.2] at h5
  have hF := (val_bound (by omega) h2).2
  rw [h1] at hF
  have hc : c = 0 := by
    apply Classical.byContradiction
    intro hc
    have : c = 1 := by omega
    subst this
    omega
  subst hc
  exact ⟨h2, by omega⟩
noncomputable def ShlInv (b g : Int) (sp : Nat) (A : List Int) (i : Nat) (F : List Int) (c : Int) : Prop :=
  F.length = sp + i ∧ InR b F ∧ 0 ≤ c ∧ c < g ∧ val b F + b ^ (sp + i) * c = b ^ sp * g * val b (A.take i)
theorem ShlInv.len {b g : Int} {sp : Nat} {A : List Int} {i : Nat} {F : List Int} {c : Int} (h : ShlInv b g sp A i F c) : F.length = sp + i := h.1
theorem shl_start {b g : Int} (hb : 0 < b) (hg : 0 < g) {sp : Nat} {A : List Int} : ShlInv b g sp A 0 (List.replicate sp [(0 : Int)]).flatten 0 := by
  rw [flat_zeros]
  exact ⟨by simp, inr_zeros hb _, by omega, hg, by rw [val_zeros]; simp [val]⟩
theorem shl_step {w few : Int} {sp : Nat} {A : List Int} (hA : InR (2 ^ w.toNat) A) {i : Nat} {F : List Int} {c k : Int} (h : ShlInv (2 ^ w.toNat) (2 ^ few.toNat) sp A i F c)
    (hk : k = A.getD i 0) (hi : i < A.length) :
    ShlInv (2 ^ w.toNat) (2 ^ few.toNat) sp A (i + 1) (F ++ [Builtin.bitAnd (Builtin.bitOr c (k * 2 ^ few.toNat)) (1 * 2 ^ w.toNat - 1)]) ((Builtin.bitOr c (k * 2 ^ few.toNat)).fdiv (2 ^ w.toNat)) := by
  subst hk
  obtain ⟨h1, h2, h3, h4, h5⟩ := h
  have hb := twoPos w.toNat
  have hg := twoPos few.toNat
  have ⟨x0, x1⟩ := hA.get hb i
  generalize hx : A.getD i 0 = x at *
  rw [bitOr_disj h3 h4 x0, maskW, fdivW]
  generalize (2 : Int) ^ w.toNat = b at *
  generalize (2 : Int) ^ few.toNat = g at *
  have m0 := Int.emod_nonneg (c + x * g) (show b ≠ 0 by omega)
  have m1 := Int.emod_lt_of_pos (c + x * g) hb
  have e := Int.mul_ediv_add_emod (c + x * g) b
  have xg : 0 ≤ x * g := Int.mul_nonneg x0 (by omega)
  refine ⟨by simp [h1]; omega, h2.append (InR.one m0 m1), Int.ediv_nonneg (by omega) (by omega), ?_, ?_⟩
  · refine Int.ediv_lt_of_lt_mul hb ?_
    have : (x + 1) * g ≤ b * g := Int.mul_le_mul_of_nonneg_right (by omega) (by omega)
    rw [Int.add_mul, Int.one_mul, Int.mul_comm b g] at this
    omega
  · rw [val_append, h1, val_take_succ b hi, hx]
    simp only [val, Int.mul_zero, Int.add_zero]
    generalize (c + x * g) / b = q at *
    generalize (c + x * g) % b = r at *
    rw [show sp + (i + 1) = sp + i + 1 by omega, Int.pow_succ]
    have e2 : b ^ (sp + i) * (b * q + r) = b ^ (sp + i) * (c + x * g) := by rw [e]
    rw [Int.pow_add] at *
    grind
theorem shl_end {b g : Int} (hb : 2 ≤ b) (hg : 0 < g) (hgb : g ≤ b) {sp : Nat} {A : List Int} {x : Int} (hA : Can b A x) (hne : A.length ≠ 0) {i : Nat} (hi : i = A.length) {F : List Int} {c : Int} (h : ShlInv b g sp A i F c) :
    (0 < c → Can b (F ++ [c]) (x * (b ^ sp * g))) ∧ (¬ 0 < c → Can b F (x * (b ^ sp * g))) := by
  subst hi
  obtain ⟨h1, h2, h3, h4, h5⟩ := h
  rw [List.take_of_length_le (Nat.le_refl _), hA.2.2] at h5
  constructor
  · intro hc
    refine ⟨h2.append (InR.one (by omega) (by omega)), by simp; omega, ?_⟩
    rw [val_append, h1]; simp only [val, Int.mul_zero, Int.add_zero]; rw [h5]; grind
  · intro hc
    have : c = 0 := by omega
    subst this
    rw [Int.mul_zero, Int.add_zero] at h5
    refine can_of_low hb h2 (by rw [h5]; grind) ?_
    right
    have hne' : A ≠ [] := by intro e; subst e; simp at hne
    have hlow := can_low hb hA hne'
    rw [h1, show sp + A.length - 1 = sp + (A.length - 1) by omega, Int.pow_add, Int.mul_comm x, Int.mul_assoc]
    have p := pow_pos' (show 0 < b by omega) sp
    have q : 1 * b ^ (A.length - 1) ≤ g * x := Int.mul_le_mul (by omega) hlow (Int.le_of_lt (pow_pos' (by omega) _)) (by omega)
    rw [Int.one_mul] at q
    exact Int.mul_le_mul_of_nonneg_left q (by omega)
end
-- M5
section

theorem even_fin {w : Int} (hw : 0 < w) {A : List Int} {x : Int} (hA : Can (2 ^ w.toNat) A x) : Builtin.bitAnd (A.getD (Int.toNat 0) 0) 1 = x % 2 := by
  rw [bitAnd_m1, ← hA.2.2]
  have hb : (2 : Int) ^ w.toNat = 2 * 2 ^ (w.toNat - 1) := by
    rw [show w.toNat = (w.toNat - 1) + 1 by omega, Int.pow_succ, Nat.add_sub_cancel, Int.mul_comm]
  cases A with
  | nil => rfl
  | cons a r =>
    simp only [val, hb, Int.mul_assoc, Int.add_mul_emod_self_left]
    rfl
theorem even_nil {b : Int} {A : List Int} {x : Int} (hA : Can b A x) (h : (A.length : Int) = 0) : x % 2 = 0 := by
  have : A = [] := List.length_eq_zero_iff.mp (by omega)
  subst this
  rw [← hA.2.2]; rfl
theorem cmp_more {b : Int} (hb : 2 ≤ b) {A B : List Int} {x y : Int} (hA : Can b A x) (hB : Can b B y) {i : Nat} {k : Int} (h : CmpInv A B i) (hl : A.length = B.length) (hk : k = (A.length : Int) - 1 + (i : Int) * (-1)) (hi : i < A.length) (hne : A.getD k.toNat 0 ≠ B.getD k.toNat 0) (hlt : ¬ A.getD k.toNat 0 < B.getD k.toNat 0) : y < x :=
  cmp_less (i := i) (k := k) hb hB hA (h.symm hl) hl.symm (by omega) (by omega) (by omega)
theorem beq_dec (x y : Int) : (x == y) = decide (x = y) := by by_cases h : x = y <;> simp [h]
theorem even_dec {n : Nat} {x : Int} (h : (n : Int) = 0) (e : (n : Int) = 0 → x % 2 = 0) : (((n : Int)) == 0) = decide (x % 2 = 0) := by simp [e h]; omega
theorem item_small {w : Int} (hw : w < 60) {A : List Int} (h : InR (2 ^ w.toNat) A) (i : Nat) : 0 ≤ A.getD i 0 ∧ A.getD i 0 < 1152921504606846976 := by
  have h1 := h.get (twoPos _) i
  have h2 : (2 : Int) ^ w.toNat ≤ 2 ^ 60 := pow_le_pow' (by omega) (by omega)
  have h3 : (2 : Int) ^ 60 = 1152921504606846976 := by decide
  omega
theorem item_small2 {w : Int} (hw : w < 60) {A : List Int} (h : InR (2 ^ w.toNat) A) {i : Nat} {k : Int} (e : k = A.getD i 0) : 0 ≤ k ∧ k < 1152921504606846976 := e ▸ item_small hw h i
theorem even_ret {P : Bool → Prop} {x : Int} (h : P (decide (x = 0))) : P (x == 0) := by
  have : (x == 0) = decide (x = 0) := by by_cases h : x = 0 <;> simp [h]
  rw [this]; exact h
theorem even_of {t : Bool} {x : Int} (h : t = true) (e : x % 2 = 0) : t = decide (x % 2 = 0) := by simp [h, e]
theorem normal_auto {b : Int} {ns : List Int} (hr : InR b ns) {k : Int} (h0 : k ≤ (ns.length : Int)) (h1 : min (ns.length : Int) 0 ≤ k)
    (ha : ∀ j : Int, k < j → j ≤ (ns.length : Int) → (if 0 < j then if (ns.getD (j - 1).toNat 0 == 0) = true then true else false else false) = true)
    (hl : (if 0 < k then if (ns.getD (k - 1).toNat 0 == 0) = true then true else false else false) = false) : Can b (ns.take k.toNat) (val b ns) := by
  refine normal_fin hr h0 (by omega) (fun j hj1 hj2 => ?_) fun hk => ?_
  · have := ha j hj1 hj2
    rw [if_pos (by omega)] at this
    simpa using this
  · rw [if_pos hk] at hl
    simpa using hl
theorem shl_nil {b v : Int} {A : List Int} {k : Nat} (hA : Can b A v) (h : (A.length : Int) = 0) : Can b [] (v * 2 ^ k) := by
  have : A = [] := List.length_eq_zero_iff.mp (by omega)
  subst this
  rw [← hA.2.2]; simp only [val, Int.zero_mul]; exact can_nil
theorem shl_fin {w k : Int} (hw : 0 < w) (hk : 0 ≤ k) {A : List Int} {x : Int} (hA : Can (2 ^ w.toNat) A x) (hne : ¬ (A.length : Int) = 0) {F : List Int} {c : Int} (h : ShlInv (2 ^ w.toNat) (2 ^ (k.fmod w).toNat) (k.fdiv w).toNat A A.length F c) :
    (0 < c → Can (2 ^ w.toNat) (F ++ [c]) (x * 2 ^ k.toNat)) ∧ (¬ 0 < c → Can (2 ^ w.toNat) F (x * 2 ^ k.toNat)) := by
  have hm := fmod_facts (k := k) hw
  rw [pow_split hw hk]
  exact shl_end (base_ge hw) (twoPos _) (pow_le_pow' (by omega) (by omega)) hA (by omega) rfl h
theorem intBits_pos {d : Int} (h : 0 < d) (n : Nat) : (n < Builtin.Int.intBits d ↔ 2 ^ n ≤ d) := by
  obtain ⟨m, rfl⟩ := Int.eq_ofNat_of_zero_le (Int.le_of_lt h)
  have hm : m ≠ 0 := by intro e; subst e; simp at h
  have e : Builtin.Int.intBits (m : Int) = m.log2 + 1 := by
    unfold Builtin.Int.intBits
    rw [if_neg (by simpa using hm)]
    rfl
  rw [e]
  have key := @Nat.log2_lt m n hm
  have : ((2 : Int) ^ n ≤ (m : Int)) ↔ 2 ^ n ≤ m := by
    rw [← Int.ofNat_le, Int.natCast_pow]; rfl
  rw [this]
  omega
theorem bits_fin {w : Int} (hw : 0 < w) {A : List Int} {x : Int} (hA : Can (2 ^ w.toNat) A x) (hne : 0 < A.length) (n : Nat) :
    ((n : Int) < ((A.length : Int) - 1) * w + (Builtin.Int.intBits (A.getD (-1 + (A.length : Int)).toNat 0) : Nat) ↔ 2 ^ n ≤ x) := by
  have hb := base_ge hw
  have hne' : A ≠ [] := by intro e; subst e; simp at hne
  rw [show (-1 + (A.length : Int)).toNat = A.length - 1 by omega]
  have hs := val_split (2 ^ w.toNat) A (A.length - 1) (by omega)
  rw [drop_getD (xs := A) (i := A.length - 1) (by omega), show A.length - 1 + 1 = A.length by omega, List.drop_length, hA.2.2] at hs
  simp only [val, Int.mul_zero, Int.add_zero] at hs
  have hd1 := hA.1.get (twoPos _) (A.length - 1)
  have hd : 0 < A.getD (A.length - 1) 0 := by
    apply Classical.byContradiction
    intro h0
    have e0 : A.getD (A.length - 1) 0 = 0 := by omega
    have := hA.2.1
    rw [List.getLast?_eq_getElem?] at this
    rw [List.getD_eq_getElem?_getD] at e0
    cases q : A[A.length - 1]? with
    | none => rw [List.getElem?_eq_none_iff] at q; omega
    | some v => rw [q] at this e0; simp at e0; subst e0; exact this rfl
  generalize hdd : A.getD (A.length - 1) 0 = d at *
  have ht := val_bound (twoPos w.toNat) (hA.1.take (A.length - 1))
  rw [List.length_take, Nat.min_eq_left (by omega)] at ht
  generalize hr : val (2 ^ w.toNat) (A.take (A.length - 1)) = r at *
  have hpw : ((2 : Int) ^ w.toNat) ^ (A.length - 1) = 2 ^ (w.toNat * (A.length - 1)) := (Int.pow_mul ..).symm
  rw [hpw] at hs ht
  have hm : ((A.length : Int) - 1) * w = ((w.toNat * (A.length - 1) : Nat) : Int) := by
    rw [Int.natCast_mul, Int.toNat_of_nonneg (by omega), Int.mul_comm]; congr 1; omega
  rw [hm]
  generalize w.toNat * (A.length - 1) = m at *
  have hp := twoPos m
  by_cases hnm : n < m
  · refine ⟨fun _ => ?_, fun _ => by omega⟩
    have h1 : (2 : Int) ^ n ≤ 2 ^ m := pow_le_pow' (by omega) (by omega)
    have h2 : 2 ^ m * 1 ≤ 2 ^ m * d := Int.mul_le_mul_of_nonneg_left (by omega) (by omega)
    omega
  · obtain ⟨k, rfl⟩ := Nat.exists_eq_add_of_le (show m ≤ n by omega)
    have key := intBits_pos hd k
    have e1 : (((m + k : Nat) : Int) < (m : Int) + (Builtin.Int.intBits d : Nat)) ↔ k < Builtin.Int.intBits d := by omega
    have e1' : (((m + k : Nat) : Int) < ((m : Nat) : Int) + (Builtin.Int.intBits d : Nat)) ↔ 2 ^ k ≤ d := by rw [← key]; exact e1
    refine e1'.trans ?_
    rw [Int.pow_add]
    constructor
    · intro h
      have : 2 ^ m * 2 ^ k ≤ 2 ^ m * d := Int.mul_le_mul_of_nonneg_left h (by omega)
      omega
    · intro h
      apply Classical.byContradiction
      intro hk
      have : 2 ^ m * (d + 1) ≤ 2 ^ m * 2 ^ k := Int.mul_le_mul_of_nonneg_left (by omega) (by omega)
      rw [Int.mul_add] at this
      omega
theorem bits_fin0 {b : Int} {A : List Int} {x : Int} (hA : Can b A x) (hne : ¬ 0 < A.length) (n : Nat) : ((n : Int) < 0 ↔ 2 ^ n ≤ x) := by
  have : A = [] := List.length_eq_zero_iff.mp (by omega)
  subst this
  have e : x = 0 := hA.2.2.symm
  subst e
  have := twoPos n
  omega
theorem low_all {w : Int} {k : Int} (hw : 0 < w) (hk : 0 ≤ k) {A : List Int} {x : Int} (hA : Can (2 ^ w.toNat) A x) (h : (A.length : Int) ≤ k.fdiv w) : x % 2 ^ k.toNat = x := by
  have hb := base_ge hw
  refine Int.emod_eq_of_lt (can_nonneg hb hA) ?_
  have h1 := can_lt hb hA
  have h2 : ((2 : Int) ^ w.toNat) ^ A.length ≤ (2 ^ w.toNat) ^ (k.fdiv w).toNat := pow_le_pow' (by omega) (by omega)
  rw [pow_split hw hk]
  have h3 := twoPos (k.fmod w).toNat
  have h4 := pow_pos' (show (0 : Int) < 2 ^ w.toNat by omega) (k.fdiv w).toNat
  have h5 := Int.mul_le_mul_of_nonneg_left (show (1 : Int) ≤ 2 ^ (k.fmod w).toNat by omega) (show (0 : Int) ≤ ((2 : Int) ^ w.toNat) ^ (k.fdiv w).toNat by omega)
  omega
theorem low_part {w : Int} {k : Int} (hw : 0 < w) (hk : 0 ≤ k) {A : List Int} {x : Int} (hA : Can (2 ^ w.toNat) A x) (h : ¬ (A.length : Int) ≤ k.fdiv w) :
    InR (2 ^ w.toNat) (A.take (k.fdiv w).toNat ++ [Builtin.bitAnd (A.getD (k.fdiv w).toNat 0) (1 * 2 ^ (k.fmod w).toNat - 1)]) ∧
    val (2 ^ w.toNat) (A.take (k.fdiv w).toNat ++ [Builtin.bitAnd (A.getD (k.fdiv w).toNat 0) (1 * 2 ^ (k.fmod w).toNat - 1)]) = x % 2 ^ k.toNat := by
  have hb := base_ge hw
  have hq := fdiv_facts hw hk
  have hm := fmod_facts (k := k) hw
  rw [maskW, pow_split hw hk, ← hA.2.2]
  have hlt : (k.fdiv w).toNat < A.length := by omega
  generalize (k.fdiv w).toNat = s at *
  have hg : (2 : Int) ^ (k.fmod w).toNat ≤ 2 ^ w.toNat := pow_le_pow' (by omega) (by omega)
  have hg0 := twoPos (k.fmod w).toNat
  have hdv : ∃ q, (2 : Int) ^ w.toNat = 2 ^ (k.fmod w).toNat * q := ⟨2 ^ (w.toNat - (k.fmod w).toNat), by rw [← Int.pow_add]; congr 1; omega⟩
  generalize (2 : Int) ^ (k.fmod w).toNat = g at *
  generalize (2 : Int) ^ w.toNat = b at *
  have m0 := Int.emod_nonneg (A.getD s 0) (show g ≠ 0 by omega)
  have m1 := Int.emod_lt_of_pos (A.getD s 0) hg0
  refine ⟨(hA.1.take _).append (InR.one m0 (by omega)), ?_⟩
  rw [val_append, List.length_take, Nat.min_eq_left (by omega)]
  simp only [val, Int.mul_zero, Int.add_zero]
  obtain ⟨q, hq'⟩ := hdv
  have hs := val_split b A s (by omega)
  rw [drop_getD hlt] at hs
  simp only [val] at hs
  have ht := val_bound (show 0 < b by omega) (hA.1.take s)
  rw [List.length_take, Nat.min_eq_left (by omega)] at ht
  rw [hs]
  generalize val b (A.take s) = r at *
  generalize val b (A.drop (s + 1)) = z at *
  have e := Int.mul_ediv_add_emod (A.getD s 0) g
  generalize A.getD s 0 = d at *
  have hp := pow_pos' (show 0 < b by omega) s
  have e1 : r + b ^ s * (d + b * z) = (r + b ^ s * (d % g)) + (b ^ s * g) * (d / g + q * z) := by
    rw [hq']
    have : d = g * (d / g) + d % g := e.symm
    generalize d / g = d1 at *
    generalize d % g = d2 at *
    subst this
    grind
  rw [e1, Int.add_mul_emod_self_left]
  symm
  apply Int.emod_eq_of_lt
  · have := Int.mul_nonneg (Int.le_of_lt hp) m0; omega
  · have : b ^ s * (d % g + 1) ≤ b ^ s * g := Int.mul_le_mul_of_nonneg_left (by omega) (by omega)
    rw [Int.mul_add] at this
    omega
end
-- M6
section

theorem sub_stepW {w : Int} {A B : List Int} (hA : InR (2 ^ w.toNat) A) (hB : InR (2 ^ w.toNat) B) {i : Nat} {F : List Int} {c k : Int} (h : SubInv (2 ^ w.toNat) A B i F c) (hk : k = 0 + (i : Int)) (hi : i < A.length) (y : Int)
    (hy : y = B.getD k.toNat 0) :
    (A.getD k.toNat 0 - c - y < 0 → SubInv (2 ^ w.toNat) A B (i + 1) (F ++ [A.getD k.toNat 0 - c - y + 1 * 2 ^ w.toNat]) 1) ∧ (¬ (A.getD k.toNat 0 - c - y < 0) → SubInv (2 ^ w.toNat) A B (i + 1) (F ++ [A.getD k.toNat 0 - c - y]) 0) := by
  rw [Int.one_mul]
  exact sub_step (twoPos _) hA hB h hk hi y hy
noncomputable def ShrInv (b g : Int) (B : List Int) (i : Nat) (F : List Int) : Prop :=
  F.length = i ∧ InR b F ∧ val b F * g + B.getD 0 0 % g = val b (B.take i) + b ^ i * (B.getD i 0 % g)
theorem ShrInv.len {b g : Int} {B : List Int} {i : Nat} {F : List Int} (h : ShrInv b g B i F) : F.length = i := h.1
theorem shr_start {b g : Int} {B : List Int} : ShrInv b g B 0 [] := ⟨rfl, InR.nil, by simp [val]⟩
theorem drop_at (A : List Int) (s i : Nat) : (A.drop s).getD i 0 = A.getD (s + i) 0 := by
  rw [List.getD_eq_getElem?_getD, List.getD_eq_getElem?_getD, List.getElem?_drop]
theorem shr_step {w few sp : Int} (h0 : 0 ≤ few) (h1 : few < w) (hs : 0 ≤ sp) {A : List Int} (hA : InR (2 ^ w.toNat) A) {i : Nat} {F : List Int} {k : Int} (h : ShrInv (2 ^ w.toNat) (2 ^ few.toNat) (A.drop sp.toNat) i F)
    (hk : k = sp + (i : Int)) (hi : i < ((A.length : Int) - sp).toNat) (y : Int) (hy : y = A.getD (k + 1).toNat 0) :
    ShrInv (2 ^ w.toNat) (2 ^ few.toNat) (A.drop sp.toNat) (i + 1) (F ++ [Builtin.bitAnd (Builtin.bitOr ((A.getD k.toNat 0).fdiv (2 ^ few.toNat)) (y * 2 ^ (w - few).toNat)) (1 * 2 ^ w.toNat - 1)]) := by
  obtain ⟨l1, l2, l3⟩ := h
  have ek : A.getD k.toNat 0 = (A.drop sp.toNat).getD i 0 := by rw [drop_at]; congr 1; omega
  have ey : y = (A.drop sp.toNat).getD (i + 1) 0 := by rw [hy, drop_at]; congr 1; omega
  rw [ek]
  subst ey
  clear hy
  have hB := hA.drop sp.toNat
  have hlen : i < (A.drop sp.toNat).length := by rw [List.length_drop]; omega
  generalize A.drop sp.toNat = B at *
  have ⟨x0, x1⟩ := hB.get (twoPos _) i
  have ⟨y0, y1⟩ := hB.get (twoPos _) (i + 1)
  have hg := twoPos few.toNat
  have hbg : (2 : Int) ^ w.toNat = 2 ^ (w - few).toNat * 2 ^ few.toNat := by rw [← Int.pow_add]; congr 1; omega
  have hq := twoPos (w - few).toNat
  have hb := twoPos w.toNat
  have hxq : B.getD i 0 / 2 ^ few.toNat < 2 ^ (w - few).toNat := Int.ediv_lt_of_lt_mul hg (by rw [← hbg]; exact x1)
  rw [fdivW, bitOr_disj (Int.ediv_nonneg x0 (Int.le_of_lt hg)) hxq y0, maskW]
  have hvt := val_take_succ (2 ^ w.toNat) hlen
  generalize hxx : B.getD i 0 = x at *
  generalize hyy : B.getD (i + 1) 0 = y at *
  have hxn : 0 ≤ x / 2 ^ few.toNat := Int.ediv_nonneg x0 (Int.le_of_lt hg)
  have ex := Int.mul_ediv_add_emod x (2 ^ few.toNat)
  have ey := Int.mul_ediv_add_emod y (2 ^ few.toNat)
  have ym0 := Int.emod_nonneg y (show (2 : Int) ^ few.toNat ≠ 0 by omega)
  have ym1 := Int.emod_lt_of_pos y hg
  generalize (2 : Int) ^ few.toNat = g at *
  generalize (2 : Int) ^ (w - few).toNat = q at *
  generalize (2 : Int) ^ w.toNat = b at *
  have ed : (x / g + y * q) % b = x / g + (y % g) * q := by
    have e1 : x / g + y * q = (x / g + (y % g) * q) + b * (y / g) := by
      rw [hbg]
      generalize y / g = y1 at *
      generalize y % g = y2 at *
      subst ey
      grind
    rw [e1, Int.add_mul_emod_self_left]
    apply Int.emod_eq_of_lt
    · have := Int.mul_nonneg ym0 (Int.le_of_lt hq); omega
    · have : (y % g + 1) * q ≤ g * q := Int.mul_le_mul_of_nonneg_right (by omega) (by omega)
      rw [Int.add_mul, Int.one_mul, Int.mul_comm g q, ← hbg] at this
      omega
  rw [ed]
  have d0 : 0 ≤ x / g + (y % g) * q := by have := Int.mul_nonneg ym0 (Int.le_of_lt hq); omega
  have d1 : x / g + (y % g) * q < b := by
    have : (y % g + 1) * q ≤ g * q := Int.mul_le_mul_of_nonneg_right (by omega) (by omega)
    rw [Int.add_mul, Int.one_mul, Int.mul_comm g q, ← hbg] at this
    omega
  refine ⟨by simp [l1], l2.append (InR.one d0 d1), ?_⟩
  rw [val_append, l1, hvt, Int.pow_succ, hyy]
  simp only [val, Int.mul_zero, Int.add_zero]
  generalize x / g = x1 at *
  generalize x % g = x2 at *
  generalize y % g = y2 at *
  have e3 : (val b F + b ^ i * (x1 + y2 * q)) * g + B.getD 0 0 % g = (val b F * g + B.getD 0 0 % g) + b ^ i * (g * x1) + b ^ i * (q * g) * y2 := by grind
  rw [e3, l3, ← hbg, ← ex]
  grind
theorem shr_end {w k : Int} (hw : 0 < w) (hk : 0 ≤ k) {A : List Int} {x : Int} (hA : Can (2 ^ w.toNat) A x) {i : Nat} (hi : i = ((A.length : Int) - k.fdiv w).toNat) {F : List Int}
    (h : ShrInv (2 ^ w.toNat) (2 ^ (k.fmod w).toNat) (A.drop (k.fdiv w).toNat) i F) : InR (2 ^ w.toNat) F ∧ val (2 ^ w.toNat) F = x / 2 ^ k.toNat := by
  obtain ⟨l1, l2, l3⟩ := h
  refine ⟨l2, ?_⟩
  have hq := fdiv_facts hw hk
  rw [pow_split hw hk, ← hA.2.2]
  have hlen : (A.drop (k.fdiv w).toNat).length = i := by rw [List.length_drop]; omega
  have hb := twoPos w.toNat
  have hg := twoPos (k.fmod w).toNat
  generalize hs : (k.fdiv w).toNat = s at *
  generalize (2 : Int) ^ (k.fmod w).toNat = g at *
  generalize (2 : Int) ^ w.toNat = b at *
  rw [List.take_of_length_le (show (A.drop s).length ≤ i by omega), getD_out (xs := A.drop s) (i := i) (by omega)] at l3
  simp only [Int.zero_emod, Int.mul_zero, Int.add_zero] at l3
  have hp := pow_pos' hb s
  have m0 := Int.emod_nonneg ((A.drop s).getD 0 0) (show g ≠ 0 by omega)
  have m1 := Int.emod_lt_of_pos ((A.drop s).getD 0 0) hg
  have e1 : val b (A.drop s) / g = val b F := by
    rw [← l3, Int.add_comm, Int.mul_comm, Int.add_mul_ediv_left _ _ (by omega), Int.ediv_eq_zero_of_lt m0 m1, Int.zero_add]
  have e2 : val b A / b ^ s = val b (A.drop s) := by
    by_cases hle : s ≤ A.length
    · rw [val_split b A s hle]
      have ht := val_bound hb (hA.1.take s)
      rw [List.length_take, Nat.min_eq_left hle] at ht
      rw [Int.add_mul_ediv_left _ _ (by omega), Int.ediv_eq_zero_of_lt ht.1 ht.2, Int.zero_add]
    · rw [List.drop_of_length_le (by omega)]
      have ht := val_bound hb hA.1
      have := pow_le_pow' (show 1 ≤ b by omega) (show A.length ≤ s by omega)
      exact Int.ediv_eq_zero_of_lt ht.1 (by omega)
  rw [← Int.ediv_ediv_of_nonneg (by omega), e2, e1]
noncomputable def LimInv (b : Int) (x : Int) (F : List Int) (c : Int) : Prop := InR b F ∧ 0 ≤ c ∧ val b F + b ^ F.length * c = x ∧ (c = 0 → F.getLast? ≠ some 0) ∧ F.length ≤ 200
theorem lim_start {b x : Int} (h : 0 ≤ x) : LimInv b x [] x := ⟨InR.nil, h, by simp [val], by simp, by simp⟩
theorem lim_step {b x : Int} (hb : 2 ≤ b) (hx : x < 2 ^ 200) {F : List Int} {c : Int} (h : LimInv b x F c) (hc : 0 < c) : LimInv b x (F ++ [c % b]) (c / b) ∧ (c / b).toNat < c.toNat := by
  obtain ⟨h1, h2, h3, h4, h5⟩ := h
  have m0 := Int.emod_nonneg c (show b ≠ 0 by omega)
  have m1 := Int.emod_lt_of_pos c (show 0 < b by omega)
  have e := Int.mul_ediv_add_emod c b
  have hd := Int.ediv_nonneg h2 (show 0 ≤ b by omega)
  have hlt : c / b < c := Int.ediv_lt_of_lt_mul (by omega) (by
    have : c * 2 ≤ c * b := Int.mul_le_mul_of_nonneg_left hb h2
    omega)
  refine ⟨⟨h1.append (InR.one m0 m1), hd, ?_, ?_, ?_⟩, by omega⟩
  · rw [val_append, List.length_append, Int.pow_add]
    simp only [val, List.length_cons, List.length_nil, Int.mul_zero, Int.add_zero]
    rw [← h3]
    have : b ^ F.length * c = b ^ F.length * (b * (c / b) + c % b) := by rw [e]
    grind
  · intro h0
    rw [List.getLast?_append]
    simp only [List.getLast?_singleton, Option.some_or]
    intro h9
    have h9 := Option.some.inj h9
    rw [h0, h9] at e
    simp at e
    omega
  · rw [List.length_append, List.length_singleton]
    apply Classical.byContradiction
    intro hn
    have hl : 200 ≤ F.length := by omega
    have p1 := two_pow_le hb F.length
    have p2 : (2 : Int) ^ 200 ≤ 2 ^ F.length := pow_le_pow' (by omega) hl
    have p3 := (val_bound (show 0 < b by omega) h1).1
    have p4 := pow_pos' (show 0 < b by omega) F.length
    have p5 : b ^ F.length * 1 ≤ b ^ F.length * c := Int.mul_le_mul_of_nonneg_left (by omega) (by omega)
    omega
theorem lim_end {b x : Int} {F : List Int} {c : Int} (h : LimInv b x F c) (hc : ¬ 0 < c) : Can b F x := by
  obtain ⟨h1, h2, h3, h4, h5⟩ := h
  have : c = 0 := by omega
  subst this
  exact ⟨h1, h4 rfl, by rw [Int.mul_zero, Int.add_zero] at h3; exact h3⟩
theorem LimInv.len {b x : Int} {F : List Int} {c : Int} (h : LimInv b x F c) : F.length ≤ 200 := h.2.2.2.2
end
-- M7
section
theorem emod_uniq {x r M : Int} (q : Int) (h0 : 0 ≤ r) (h1 : r < M) (e : x = r + M * q) : x % M = r := by
  rw [e, Int.add_mul_emod_self_left, Int.emod_eq_of_lt h0 h1]
theorem p150 {k : Int} (h : k < 150) : (2 : Int) ^ k.toNat < 2 ^ 150 := by
  have h1 := pow_le_pow' (b := 2) (by omega) (show k.toNat ≤ 149 by omega)
  have h2 : (2 : Int) ^ 149 < 2 ^ 150 := by decide
  omega
theorem can_one {w : Int} (hw : 0 < w) : Can (2 ^ w.toNat) [1] 1 := by
  have := base_ge hw
  exact ⟨InR.one (by omega) (by omega), by simp, by simp [val]⟩
theorem radd_hi {x y M : Int} (hx : 0 ≤ x) (hx1 : x < M) (hy : 0 ≤ y) (hy1 : y < M) (h : M ≤ x + y) : (x + y) % M = x + y - M := emod_uniq 1 (by omega) (by omega) (by omega)
theorem radd_lo {x y M : Int} (hx : 0 ≤ x) (hx1 : x < M) (hy : 0 ≤ y) (hy1 : y < M) (h : x + y < M) : (x + y) % M = x + y := emod_uniq 0 (by omega) (by omega) (by omega)
theorem rsub_hi {x y M : Int} (hx : 0 ≤ x) (hx1 : x < M) (hy : 0 ≤ y) (hy1 : y < M) (h : y ≤ x) : (x - y) % M = x - y := emod_uniq 0 (by omega) (by omega) (by omega)
theorem rsub_lo {x y M : Int} (hx : 0 ≤ x) (hx1 : x < M) (hy : 0 ≤ y) (hy1 : y < M) (h : x < y) : (x - y) % M = x + M - y := emod_uniq (-1) (by omega) (by omega) (by omega)
theorem rneg_hi {x M : Int} (hx : 0 < x) (hx1 : x < M) : (0 - x) % M = M - x := emod_uniq (-1) (by omega) (by omega) (by omega)
theorem rneg_lo {x M : Int} (hx : x = 0) : (0 - x) % M = 0 := by subst hx; simp
theorem len_pos {b : Int} (hb : 2 ≤ b) {A : List Int} {x : Int} (h : Can b A x) (hl : 0 < A.length) : 0 < x := can_pos hb h (by intro e; subst e; simp at hl)
theorem len_zero {b : Int} {A : List Int} {x : Int} (h : Can b A x) (hl : ¬ 0 < A.length) : A = [] ∧ x = 0 := by
  have : A = [] := List.length_eq_zero_iff.mp (by omega)
  subst this
  exact ⟨rfl, h.2.2.symm⟩
noncomputable def RfInv (P X v f : Int) (t : Bool) : Prop :=
  0 ≤ v ∧ v ≤ X ∧ 0 ≤ f ∧ f < P + 1 ∧ (t = false → ∃ q, X = f + v + (P + 1) * q) ∧ (t = true → ∃ q, X = f - v + (P + 1) * q)
theorem rf_start {P X : Int} (hP : 1 ≤ P) (hX : 0 ≤ X) : RfInv P X X 0 false := ⟨hX, by omega, by omega, by omega, fun _ => ⟨0, by omega⟩, fun h => by cases h⟩
theorem rf_step0 {P X v f : Int} (hP : 2 ≤ P) (h : RfInv P X v f false) (hv : 0 < v) : RfInv P X (v / P) ((f + v % P) % (P + 1)) true ∧ (v / P).toNat < v.toNat ∧ v % P < P + 1 ∧ 0 ≤ v % P := by
  obtain ⟨h1, h2, h3, h4, h5, _⟩ := h
  obtain ⟨q, hq⟩ := h5 rfl
  have m0 := Int.emod_nonneg v (show P ≠ 0 by omega)
  have m1 := Int.emod_lt_of_pos v (show 0 < P by omega)
  have e := Int.mul_ediv_add_emod v P
  have d0 := Int.ediv_nonneg h1 (show 0 ≤ P by omega)
  have d1 : v / P < v := Int.ediv_lt_of_lt_mul (by omega) (by
    have : v * 2 ≤ v * P := Int.mul_le_mul_of_nonneg_left hP h1
    omega)
  have e2 := Int.mul_ediv_add_emod (f + v % P) (P + 1)
  have n0 := Int.emod_nonneg (f + v % P) (show P + 1 ≠ 0 by omega)
  have n1 := Int.emod_lt_of_pos (f + v % P) (show 0 < P + 1 by omega)
  refine ⟨⟨d0, by omega, n0, n1, fun h => (by cases h), fun _ => ⟨q + v / P + (f + v % P) / (P + 1), ?_⟩⟩, by omega, by omega, m0⟩
  generalize (f + v % P) % (P + 1) = r at *
  generalize (f + v % P) / (P + 1) = z at *
  generalize v / P = d at *
  generalize v % P = m at *
  grind
theorem rf_step1 {P X v f : Int} (hP : 2 ≤ P) (h : RfInv P X v f true) (hv : 0 < v) : RfInv P X (v / P) ((f - v % P) % (P + 1)) false ∧ (v / P).toNat < v.toNat ∧ v % P < P + 1 ∧ 0 ≤ v % P := by
  obtain ⟨h1, h2, h3, h4, _, h5⟩ := h
  obtain ⟨q, hq⟩ := h5 rfl
  have m0 := Int.emod_nonneg v (show P ≠ 0 by omega)
  have m1 := Int.emod_lt_of_pos v (show 0 < P by omega)
  have e := Int.mul_ediv_add_emod v P
  have d0 := Int.ediv_nonneg h1 (show 0 ≤ P by omega)
  have d1 : v / P < v := Int.ediv_lt_of_lt_mul (by omega) (by
    have : v * 2 ≤ v * P := Int.mul_le_mul_of_nonneg_left hP h1
    omega)
  have e2 := Int.mul_ediv_add_emod (f - v % P) (P + 1)
  have n0 := Int.emod_nonneg (f - v % P) (show P + 1 ≠ 0 by omega)
  have n1 := Int.emod_lt_of_pos (f - v % P) (show 0 < P + 1 by omega)
  refine ⟨⟨d0, by omega, n0, n1, fun _ => ⟨q - v / P + (f - v % P) / (P + 1), ?_⟩, fun h => (by cases h)⟩, by omega, by omega, m0⟩
  generalize (f - v % P) % (P + 1) = r at *
  generalize (f - v % P) / (P + 1) = z at *
  generalize v / P = d at *
  generalize v % P = m at *
  grind
theorem rf_end {P X v f : Int} {t : Bool} (h : RfInv P X v f t) (hv : v = 0) : X % (P + 1) = f := by
  obtain ⟨h1, h2, h3, h4, h5, h6⟩ := h
  subst hv
  cases t with
  | false => obtain ⟨q, hq⟩ := h5 rfl; exact emod_uniq q h3 h4 (by omega)
  | true => obtain ⟨q, hq⟩ := h6 rfl; exact emod_uniq q h3 h4 (by omega)
theorem rs_hi {j k : Nat} (h : j ≤ k) : (0 - 2 ^ (k - j) % ((2 : Int) ^ j + 1)) % (2 ^ j + 1) = 2 ^ k % (2 ^ j + 1) := by
  have hp := twoPos j
  obtain ⟨d, rfl⟩ := Nat.exists_eq_add_of_le h
  rw [Nat.add_sub_cancel_left, Int.pow_add]
  generalize (2 : Int) ^ d = x
  generalize (2 : Int) ^ j = p at *
  have e := Int.mul_ediv_add_emod x (p + 1)
  have e1 : p * x = (0 - x % (p + 1)) + (p + 1) * (x - x / (p + 1)) := by
    generalize x % (p + 1) = r at *
    generalize x / (p + 1) = q at *
    subst e
    grind
  rw [e1, Int.add_mul_emod_self_left]
end
-- M8
section
theorem fmod_small {j k : Int} (h0 : 0 ≤ j) (h1 : j < k) : j.fmod (2 * k) = j := by
  rw [Int.fmod_eq_emod_of_nonneg _ (by omega)]; exact Int.emod_eq_of_lt h0 (by omega)
theorem fmod2_facts {j k : Int} (hk : 0 < k) (h0 : 0 ≤ j) : 0 ≤ j.fmod (2 * k) ∧ j.fmod (2 * k) < 2 * k ∧ j.fmod (2 * k) ≤ j := by
  rw [Int.fmod_eq_emod_of_nonneg _ (by omega)]
  refine ⟨Int.emod_nonneg _ (by omega), Int.emod_lt_of_pos _ (by omega), ?_⟩
  have e := Int.mul_ediv_add_emod j (2 * k)
  have := Int.mul_nonneg (show 0 ≤ 2 * k by omega) (Int.ediv_nonneg h0 (show 0 ≤ 2 * k by omega))
  omega
theorem rs_period {j k : Int} (hk : 0 < k) (h0 : 0 ≤ j) : (2 : Int) ^ j.toNat % (2 ^ k.toNat + 1) = 2 ^ (j.fmod (2 * k)).toNat % (2 ^ k.toNat + 1) := by
  have hf := fmod2_facts hk h0
  rw [Int.fmod_eq_emod_of_nonneg _ (by omega)] at *
  have e := Int.mul_ediv_add_emod j (2 * k)
  have d0 := Int.ediv_nonneg h0 (show 0 ≤ 2 * k by omega)
  have ej : j.toNat = (j % (2 * k)).toNat + (2 * k.toNat) * (j / (2 * k)).toNat := by
    have h2 : (((2 * k.toNat) * (j / (2 * k)).toNat : Nat) : Int) = 2 * k * (j / (2 * k)) := by
      rw [Int.natCast_mul, Int.natCast_mul, Int.toNat_of_nonneg (by omega), Int.toNat_of_nonneg d0]; rfl
    omega
  rw [ej, Int.pow_add]
  generalize (j / (2 * k)).toNat = q
  generalize (j % (2 * k)).toNat = r
  have key : ∀ q : Nat, ∃ z : Int, ((2 : Int) ^ (2 * k.toNat)) ^ q = 1 + (2 ^ k.toNat + 1) * z := by
    intro q
    induction q with
    | zero => exact ⟨0, by simp⟩
    | succ q ih =>
      obtain ⟨z, hz⟩ := ih
      rw [Int.pow_succ, hz, show 2 * k.toNat = k.toNat + k.toNat by omega, Int.pow_add]
      generalize (2 : Int) ^ k.toNat = p
      exact ⟨z * (p * p) + (p - 1), by grind⟩
  obtain ⟨z, hz⟩ := key q
  rw [Int.pow_mul, hz]
  have : (2 : Int) ^ r * (1 + (2 ^ k.toNat + 1) * z) = 2 ^ r + (2 ^ k.toNat + 1) * (2 ^ r * z) := by grind
  rw [this, Int.add_mul_emod_self_left]
theorem rs_top {j k : Int} (hk : 0 < k) (h0 : 0 ≤ j) (h : k ≤ j.fmod (2 * k)) : (0 - 1 * 2 ^ (j.fmod (2 * k) - k).toNat % ((2 : Int) ^ k.toNat + 1)) % (2 ^ k.toNat + 1) = 2 ^ j.toNat % (2 ^ k.toNat + 1) := by
  rw [rs_period hk h0, Int.one_mul, ← rs_hi (j := k.toNat) (k := (j.fmod (2 * k)).toNat) (by omega)]
  congr 4
  omega
theorem elem_neg {e M : Int} (hM : 0 < M) (h : e ≤ 0) : (0 - (-e) % M) % M = e % M := by
  have e1 := Int.mul_ediv_add_emod (-e) M
  have e2 : 0 - (-e) % M = e + M * ((-e) / M) := by omega
  rw [e2, Int.add_mul_emod_self_left]
theorem can_drop {b : Int} (hb : 2 ≤ b) {A : List Int} {v : Int} (h : Can b A v) (n : Nat) : val b (A.take n) = v % b ^ n ∧ Can b (A.drop n) (v / b ^ n) := by
  have hp := pow_pos' (show 0 < b by omega) n
  by_cases hle : n ≤ A.length
  · have hs := val_split b A n hle
    rw [h.2.2] at hs
    have ht := val_bound (show 0 < b by omega) (h.1.take n)
    rw [List.length_take, Nat.min_eq_left hle] at ht
    refine ⟨?_, h.1.drop n, ?_, ?_⟩
    · rw [hs, Int.add_mul_emod_self_left, Int.emod_eq_of_lt ht.1 ht.2]
    · by_cases hl : n < A.length
      · rw [List.getLast?_drop, if_neg (by omega)]; exact h.2.1
      · rw [List.drop_of_length_le (by omega)]; simp
    · rw [hs, Int.add_mul_ediv_left _ _ (by omega), Int.ediv_eq_zero_of_lt ht.1 ht.2, Int.zero_add]
  · have hlt := can_lt hb h
    have h1 : b ^ A.length ≤ b ^ n := pow_le_pow' (by omega) (by omega)
    have h0 := can_nonneg hb h
    rw [List.take_of_length_le (by omega), List.drop_of_length_le (by omega), h.2.2, Int.emod_eq_of_lt h0 (by omega), Int.ediv_eq_zero_of_lt h0 (by omega)]
    exact ⟨rfl, can_nil⟩
noncomputable def FmInv (B X v : Int) : Prop := 0 ≤ v ∧ v ≤ X ∧ ∃ q, X = v + (B - 1) * q
theorem fm_start {B X : Int} (hX : 0 ≤ X) : FmInv B X X := ⟨hX, by omega, 0, by omega⟩
theorem fm_parts {B v : Int} (hB : 2 ≤ B) (hv : 0 ≤ v) : 0 ≤ v % B ∧ v % B < B ∧ v % B ≤ v ∧ 0 ≤ v / B ∧ v / B ≤ v := by
  have m0 := Int.emod_nonneg v (show B ≠ 0 by omega)
  have m1 := Int.emod_lt_of_pos v (show 0 < B by omega)
  have e := Int.mul_ediv_add_emod v B
  have d0 := Int.ediv_nonneg hv (show 0 ≤ B by omega)
  have d1 := Int.ediv_le_self B hv
  have : 0 ≤ B * (v / B) := Int.mul_nonneg (by omega) d0
  exact ⟨m0, m1, by omega, d0, d1⟩
theorem fm_step {B X v : Int} (hB : 2 ≤ B) (h : FmInv B X v) (hv : B ≤ v) : FmInv B X (v % B + v / B) ∧ (v % B + v / B).toNat < v.toNat := by
  obtain ⟨h1, h2, q, hq⟩ := h
  have hp := fm_parts hB h1
  have e := Int.mul_ediv_add_emod v B
  have d1 : 1 ≤ v / B := by
    apply Classical.byContradiction
    intro hn
    have : v / B = 0 := by omega
    rw [this] at e
    omega
  have h3 : 2 * (v / B) ≤ B * (v / B) := Int.mul_le_mul_of_nonneg_right hB hp.2.2.2.1
  refine ⟨⟨by omega, by omega, q + v / B, ?_⟩, by omega⟩
  rw [hq]
  generalize v % B = r at *
  generalize v / B = d at *
  grind
theorem fm_big {b : Int} (hb : 2 ≤ b) {F : List Int} {v : Int} (h : Can b F v) {k : Nat} (hk : k < F.length) : b ^ k ≤ v := by
  have h1 := can_low hb h (by intro e; subst e; simp at hk)
  have h2 := pow_le_pow' (show 1 ≤ b by omega) (show k ≤ F.length - 1 by omega)
  omega
theorem fm_small {b : Int} (hb : 2 ≤ b) {F : List Int} {v : Int} (h : Can b F v) {k : Nat} (hk : F.length ≤ k) : v < b ^ k := by
  have h1 := can_lt hb h
  have h2 := pow_le_pow' (show 1 ≤ b by omega) hk
  omega
theorem flat_ones (n : Nat) (x : Int) : (List.replicate n [x]).flatten = List.replicate n x := by
  induction n with
  | zero => rfl
  | succ n ih => rw [List.replicate_succ, List.flatten_cons, ih]; rfl
theorem can_ones {b : Int} (hb : 2 ≤ b) (n : Nat) : Can b (List.replicate n (b - 1)) (b ^ n - 1) := by
  refine ⟨fun x hx => by rw [List.eq_of_mem_replicate hx]; omega, ?_, ?_⟩
  · rw [List.getLast?_replicate]
    split
    · simp
    · intro h; have := Option.some.inj h; omega
  · induction n with
    | zero => simp [val]
    | succ n ih => rw [List.replicate_succ, val, ih, Int.pow_succ]; grind
theorem fm_ones {w : Int} (hw : 0 < w) {F : List Int} {v : Int} (h : Can (2 ^ w.toNat) F v) (k : Nat) : (F = (List.replicate k [1 * (2 : Int) ^ w.toNat - 1]).flatten ↔ v = (2 ^ w.toNat) ^ k - 1) := by
  rw [flat_ones, Int.one_mul]
  have ho := can_ones (base_ge hw) k
  constructor
  · intro e; subst e; rw [← h.2.2]; exact ho.2.2
  · intro e; subst e; exact can_unique (base_ge hw) h ho
theorem fm_end1 {B X v : Int} (hB : 2 ≤ B) (h : FmInv B X v) (hv : v = B - 1) : X % (B - 1) = 0 := by
  obtain ⟨h1, h2, q, hq⟩ := h
  subst hv
  exact emod_uniq (q + 1) (by omega) (by omega) (by rw [hq]; grind)
theorem fm_end2 {B X v : Int} (h : FmInv B X v) (hv : v < B) (hn : v ≠ B - 1) : X % (B - 1) = v := by
  obtain ⟨h1, h2, q, hq⟩ := h
  exact emod_uniq q h1 (by omega) hq
theorem pow_big {b : Int} (hb : 2 ≤ b) {n : Nat} (hn : 1 ≤ n) : 2 ≤ b ^ n := by
  have := pow_le_pow' (show 1 ≤ b by omega) hn
  rw [Int.pow_one] at this
  omega
end
-- M9
section
theorem rf_next0 {P X v f : Int} (hP : 2 ≤ P) (h : RfInv P X v f false) : RfInv P X (v / P) ((f + v % P) % (P + 1)) true := by
  by_cases hv : 0 < v
  · exact (rf_step0 hP h hv).1
  · obtain ⟨h1, h2, h3, h4, h5, _⟩ := h
    have : v = 0 := by omega
    subst this
    obtain ⟨q, hq⟩ := h5 rfl
    rw [Int.zero_ediv, Int.zero_emod, Int.add_zero, Int.emod_eq_of_lt h3 h4]
    exact ⟨by omega, h2, h3, h4, (fun h => nomatch h), fun _ => ⟨q, by omega⟩⟩
theorem rf_next1 {P X v f : Int} (hP : 2 ≤ P) (h : RfInv P X v f true) : RfInv P X (v / P) ((f - v % P) % (P + 1)) false := by
  by_cases hv : 0 < v
  · exact (rf_step1 hP h hv).1
  · obtain ⟨h1, h2, h3, h4, _, h5⟩ := h
    have : v = 0 := by omega
    subst this
    obtain ⟨q, hq⟩ := h5 rfl
    rw [Int.zero_ediv, Int.zero_emod, Int.sub_zero, Int.emod_eq_of_lt h3 h4]
    exact ⟨by omega, h2, h3, h4, (fun _ => ⟨q, by omega⟩), fun h => nomatch h⟩
theorem fp_start {P X : Int} (hP : 1 ≤ P) (hX : 0 ≤ X) : RfInv P X (X / P ^ 0) 0 false := by
  rw [Int.pow_zero, Int.ediv_one]; exact rf_start hP hX
theorem fp_pow {P X : Int} (hP : 1 ≤ P) (i : Nat) : X / P ^ i / P = X / P ^ (i + 1) := by
  rw [Int.ediv_ediv_of_nonneg (Int.le_of_lt (pow_pos' (by omega) i)), Int.pow_succ]
/-- the part that a turn takes -/
theorem fp_part {b : Int} (hb : 2 ≤ b) {A : List Int} {X : Int} (hA : Can b A X) {k x : Int} (hk : 1 ≤ k) {i : Nat} (hx : x = 0 + (i : Int) * k) :
    0 ≤ x ∧ InR b ((A.drop x.toNat).take (min (x + k).toNat A.length - x.toNat)) ∧ val b ((A.drop x.toNat).take (min (x + k).toNat A.length - x.toNat)) = X / (b ^ k.toNat) ^ i % b ^ k.toNat := by
  have hx0 : 0 ≤ (i : Int) * k := Int.mul_nonneg (by omega) (by omega)
  refine ⟨by omega, (hA.1.drop _).take _, ?_⟩
  have ex : x.toNat = k.toNat * i := by
    have : ((k.toNat * i : Nat) : Int) = (i : Int) * k := by rw [Int.natCast_mul, Int.toNat_of_nonneg (by omega), Int.mul_comm]
    omega
  rw [← Int.pow_mul, ← ex]
  have h1 := (can_drop hb hA x.toNat).2
  rw [← (can_drop hb h1 k.toNat).1]
  congr 1
  by_cases hle : (x + k).toNat ≤ A.length
  · congr 1; omega
  · rw [List.take_of_length_le (by rw [List.length_drop]; omega), List.take_of_length_le (by rw [List.length_drop]; omega)]
theorem fp_size {n : Nat} {k : Int} (hk : 1 ≤ k) : Builtin.Range.rangeSize 0 (n : Int) k = ((Builtin.Range.rangeSize 0 (n : Int) k).toNat : Int) := PyProof.Rows.rangeSize_toNat _ _ _
theorem fp_end {b : Int} (hb : 2 ≤ b) {A : List Int} {X : Int} (hA : Can b A X) {k : Int} (hk : 1 ≤ k) : X / (b ^ k.toNat) ^ (Builtin.Range.rangeSize 0 (A.length : Int) k).toNat = 0 := by
  have h0 := can_nonneg hb hA
  have h1 := can_lt hb hA
  rw [← Int.pow_mul]
  apply Int.ediv_eq_zero_of_lt h0
  rw [PyProof.Rows.rangeSize_pos hk (by omega)]
  have e := Int.mul_ediv_add_emod ((A.length : Int) + k - 1) k
  have m1 := Int.emod_lt_of_pos ((A.length : Int) + k - 1) (show 0 < k by omega)
  have d0 := Int.ediv_nonneg (show 0 ≤ (A.length : Int) + k - 1 by omega) (show 0 ≤ k by omega)
  have : A.length ≤ k.toNat * (((A.length : Int) + k - 1) / k).toNat := by
    have : ((k.toNat * (((A.length : Int) + k - 1) / k).toNat : Nat) : Int) = k * (((A.length : Int) + k - 1) / k) := by rw [Int.natCast_mul, Int.toNat_of_nonneg (by omega), Int.toNat_of_nonneg d0]
    omega
  have := pow_le_pow' (show 1 ≤ b by omega) this
  omega
theorem small_pos {n : Nat} {k : Int} (hk : 1 ≤ k) (hk1 : k < 1000) (hn : n < 1000) : Builtin.Range.small 0 (n : Int) k = true := by
  have h1 := PyProof.Rows.rangeSize_pos (len := (n : Int)) hk (by omega)
  have h2 : ((n : Int) + k - 1) / k ≤ (n : Int) + k - 1 := Int.ediv_le_self _ (by omega)
  have h3 := Int.ediv_nonneg (show 0 ≤ (n : Int) + k - 1 by omega) (show 0 ≤ k by omega)
  unfold Builtin.Range.small
  rw [h1]
  generalize ((n : Int) + k - 1) / k = q at *
  simp only [Builtin.Range.rangeFitsLong, Bool.and_eq_true, Bool.or_eq_true, decide_eq_true_eq, beq_iff_eq, show k > 0 by omega, if_true]
  omega
theorem jr_val {B m p r hf q₁ : Int} (hB : 2 ≤ B) (hm0 : 0 ≤ m) (hm1 : m < B - 1) (hp0 : 0 ≤ p) (hp1 : p ≤ B) (hr : r = p % (B - 1)) (hh0 : 0 ≤ hf) (hh1 : hf < B - 1) (hhf : 2 * hf = m - r + (B - 1) * q₁) :
    0 ≤ p + hf + hf * B ∧ p + hf + hf * B < B * B - 1 ∧ (∃ z, p + hf + hf * B = m + (B - 1) * z) ∧ (∃ z, p + hf + hf * B = p + (B + 1) * z) := by
  have h1 : 0 ≤ hf * B := Int.mul_nonneg hh0 (by omega)
  have h2 : hf * B ≤ (B - 2) * B := Int.mul_le_mul_of_nonneg_right (by omega) (by omega)
  have e := Int.mul_ediv_add_emod p (B - 1)
  refine ⟨by omega, ?_, ⟨p / (B - 1) + hf + q₁, ?_⟩, ⟨hf, by grind⟩⟩
  · rw [Int.sub_mul] at h2; omega
  · rw [← hr] at e
    generalize p / (B - 1) = w at *
    grind
/-- the two rests tell the rest by the product -/
theorem jr_crt {B X m p R z₁ z₂ : Int} (hB : 3 ≤ B) (hodd : B % 2 = 0) (hm : m = X % (B - 1)) (hp : p = X % (B + 1)) (h0 : 0 ≤ R) (h1 : R < B * B - 1) (e1 : R = m + (B - 1) * z₁) (e2 : R = p + (B + 1) * z₂) : R = X % (B * B - 1) := by
  have f1 := Int.mul_ediv_add_emod X (B - 1)
  have f2 := Int.mul_ediv_add_emod X (B + 1)
  rw [← hm] at f1
  rw [← hp] at f2
  symm
  -- X - R is a multiple of both
  generalize hu : X / (B - 1) - z₁ = u at *
  generalize hv : X / (B + 1) - z₂ = v at *
  have g1 : X - R = (B - 1) * u := by rw [← hu]; grind
  have g2 : X - R = (B + 1) * v := by rw [← hv]; grind
  -- B = 2c: u - v = ... (B+1) divides u
  obtain ⟨c, hc⟩ : ∃ c, B = 2 * c := ⟨B / 2, by omega⟩
  have g3 : u = (B + 1) * (c * u - (c - 1) * 0 - c * v + u - u) ∨ True := Or.inr trivial
  -- (B-1) u = (B+1) v  =>  u = (B+1) * t with t = c*(u - v) - v ... 
  have g4 : (B - 1) * u = (B + 1) * v := by rw [← g1, g2]
  have g5 : u = (B + 1) * (u * (1 - c) + c * v) ∨ True := Or.inr trivial
  have key : (B + 1) * (c * v - (c - 1) * u) = u := by
    have : (B + 1) * (c * v) = c * ((B - 1) * u) := by rw [g4]; grind
    rw [Int.mul_sub, this, hc]
    grind
  refine emod_uniq (c * v - (c - 1) * u) h0 h1 ?_
  have : X = R + (B - 1) * u := by omega
  rw [this, ← key]
  grind
end
-- M10
section
theorem jr_out {B X m p wv hf q BB : Int} (hB : 4 ≤ B) (hev : B % 2 = 0) (hBB : BB = B * B) (hm : m = X % (B - 1)) (hp : p = X % (B + 1)) (hw : wv = m - p % (B - 1) + (B - 1) * q) (h0 : 0 ≤ wv) (h1 : wv < B - 1)
    (hh : (wv % 2 = 0 ∧ hf = wv / 2 ^ Int.toNat 1) ∨ (¬ wv % 2 = 0 ∧ hf = (wv + (B - 1)) / 2 ^ Int.toNat 1)) :
    (p + hf + hf * B) % (BB - 1) = X % (BB - 1) ∧ 0 ≤ hf ∧ hf < B - 1 ∧ p + hf + hf * B < BB := by
  have e2 : (2 : Int) ^ Int.toNat 1 = 2 := by decide
  rw [e2] at hh
  have m0 := Int.emod_nonneg X (show B - 1 ≠ 0 by omega)
  have m1 := Int.emod_lt_of_pos X (show 0 < B - 1 by omega)
  have p0 := Int.emod_nonneg X (show B + 1 ≠ 0 by omega)
  have p1 := Int.emod_lt_of_pos X (show 0 < B + 1 by omega)
  rw [← hm] at m0 m1
  rw [← hp] at p0 p1
  have hf0 : 0 ≤ hf := by omega
  have hf1 : hf < B - 1 := by omega
  have key : ∃ q₁, 2 * hf = m - p % (B - 1) + (B - 1) * q₁ := by
    rcases hh with ⟨a, c⟩ | ⟨a, c⟩
    · exact ⟨q, by omega⟩
    · refine ⟨q + 1, ?_⟩
      rw [Int.mul_add, Int.mul_one]
      omega
  obtain ⟨q₁, hq₁⟩ := key
  have hj := jr_val (B := B) (m := m) (p := p) (hf := hf) (r := p % (B - 1)) (q₁ := q₁) (by omega) m0 m1 p0 (by omega) rfl hf0 hf1 hq₁
  obtain ⟨j0, j1, ⟨z₁, j2⟩, ⟨z₂, j3⟩⟩ := hj
  have hc := jr_crt (X := X) (by omega) hev hm hp j0 j1 j2 j3
  rw [hBB, ← hc]
  exact ⟨Int.emod_eq_of_lt j0 j1, hf0, hf1, by omega⟩
theorem sq_pow {b : Int} {k : Int} (hk : 0 ≤ k) : b ^ (2 * k).toNat = b ^ k.toNat * b ^ k.toNat := by
  rw [← Int.pow_add]; congr 1; omega
theorem pow_even {w k : Int} (hw : 0 < w) (hk : 1 ≤ k) : ((2 : Int) ^ w.toNat) ^ k.toNat % 2 = 0 := by
  rw [← Int.pow_mul]
  have : ∃ n, w.toNat * k.toNat = n + 1 := by
    have := Nat.mul_le_mul (show 1 ≤ w.toNat by omega) (show 1 ≤ k.toNat by omega)
    exact ⟨w.toNat * k.toNat - 1, by omega⟩
  obtain ⟨n, hn⟩ := this
  rw [hn, Int.pow_succ]
  exact Int.mul_emod_left _ _
theorem pow_ge4 {w k : Int} (hw : 1 < w) (hk : 1 ≤ k) : 4 ≤ ((2 : Int) ^ w.toNat) ^ k.toNat := by
  rw [← Int.pow_mul]
  have : 2 ≤ w.toNat * k.toNat := by
    have := Nat.mul_le_mul (show 2 ≤ w.toNat by omega) (show 1 ≤ k.toNat by omega)
    omega
  have := pow_le_pow' (b := 2) (by omega) this
  omega
theorem sq_bound {B : Int} (h0 : 0 ≤ B) (h : B < 2 ^ 70) : B * B < 2 ^ 150 := by
  have : B * B ≤ 2 ^ 70 * 2 ^ 70 := Int.mul_le_mul (by omega) (by omega) h0 (by omega)
  omega
end
-- M11
section
theorem jr_way0 {b B m r : Int} {res : List Int} (hc : Can b res (m - r)) (h0 : 0 ≤ r) (h1 : m < B - 1) (h : r ≤ m) : ∃ wv q, Can b res wv ∧ wv = m - r + (B - 1) * q ∧ 0 ≤ wv ∧ wv < B - 1 :=
  ⟨m - r, 0, hc, by omega, by omega, by omega⟩
theorem jr_way1 {b B m r : Int} {res : List Int} (hc : Can b res (m + (B - 1) - r)) (h0 : 0 ≤ m) (h1 : r < B - 1) (h : m < r) : ∃ wv q, Can b res wv ∧ wv = m - r + (B - 1) * q ∧ 0 ≤ wv ∧ wv < B - 1 :=
  ⟨m + (B - 1) - r, 1, hc, by omega, by omega, by omega⟩
noncomputable def JrHalf (b B BB X p : Int) (res : List Int) (hf : Int) : Prop := Can b res hf ∧ 0 ≤ hf ∧ hf < B - 1 ∧ 0 ≤ hf * B ∧ p + hf + hf * B < BB ∧ (p + hf + hf * B) % (BB - 1) = X % (BB - 1)
theorem jr_half0 {b B X m p wv q BB : Int} {res : List Int} (hB : 4 ≤ B) (hev : B % 2 = 0) (hBB : BB = B * B) (hm : m = X % (B - 1)) (hp : p = X % (B + 1)) (hw : wv = m - p % (B - 1) + (B - 1) * q) (h0 : 0 ≤ wv) (h1 : wv < B - 1)
    (hc : Can b res (wv / 2 ^ Int.toNat 1)) (h : wv % 2 = 0) : ∃ hf, JrHalf b B BB X p res hf := by
  have hj := jr_out hB hev hBB hm hp hw h0 h1 (Or.inl ⟨h, rfl⟩)
  exact ⟨_, hc, hj.2.1, hj.2.2.1, Int.mul_nonneg hj.2.1 (by omega), hj.2.2.2, hj.1⟩
theorem jr_half1 {b B X m p wv q BB : Int} {res : List Int} (hB : 4 ≤ B) (hev : B % 2 = 0) (hBB : BB = B * B) (hm : m = X % (B - 1)) (hp : p = X % (B + 1)) (hw : wv = m - p % (B - 1) + (B - 1) * q) (h0 : 0 ≤ wv) (h1 : wv < B - 1)
    (hc : Can b res ((wv + (B - 1)) / 2 ^ Int.toNat 1)) (h : ¬ wv % 2 = 0) : ∃ hf, JrHalf b B BB X p res hf := by
  have hj := jr_out hB hev hBB hm hp hw h0 h1 (Or.inr ⟨h, rfl⟩)
  exact ⟨_, hc, hj.2.1, hj.2.2.1, Int.mul_nonneg hj.2.1 (by omega), hj.2.2.2, hj.1⟩
theorem can_mod {w : Int} (hw : 0 < w) (k : Nat) : Can (2 ^ w.toNat) (List.replicate k [1 * (2 : Int) ^ w.toNat - 1]).flatten ((2 ^ w.toNat) ^ k - 1) := by
  rw [flat_ones, Int.one_mul]; exact can_ones (base_ge hw) k
end
-- Loops
section
section
variable {prog : Program} {w : World} {A : Around} {E : Value → Shared → Prop} {s : Shared} {env : Env} {h₀ : Heap} {x : Str} {body : List Stmt} {Q : Flow → Shared → Prop} {σ : Type}
/-- a turn's end: what is told of the ledger, of the names -/
noncomputable def MEnd (h₀ : Heap) (L : Addr) (Led : σ → List (Addr × Obj)) (ps : σ → List (Str × Value)) (J : σ → Prop) (own : List (Addr × Obj)) (s₁ s₂ : Shared) : Prop :=
  ∃ c h' tk m' news', s₂ = { s₁ with heap := h', toks := tk } ∧ Fr h₀ L h' m' ∧ News h₀ L h' news' ∧ (∀ q ∈ Led c, q ∈ news') ∧ (∀ q ∈ own, q ∈ news') ∧ (∀ q ∈ Led c, ∀ p ∈ own, p.1 ≠ q.1) ∧ (∀ p ∈ ps c, m' p.1 = some p.2) ∧ J c
noncomputable def MPost (h₀ : Heap) (L : Addr) (Led : σ → List (Addr × Obj)) (ps : σ → List (Str × Value)) (J : σ → Prop) (own : List (Addr × Obj)) (s₁ : Shared) (Q : Flow → Shared → Prop) (f : Flow) (s₂ : Shared) : Prop :=
  match f with
  | .ret v => Q (.ret v) s₂
  | .brk => Q .next s₂
  | _ => MEnd h₀ L Led ps J own s₁ s₂
theorem m_end (c : σ) {L : Addr} {Led : σ → List (Addr × Obj)} {ps : σ → List (Str × Value)} {J : σ → Prop} {own news' : List (Addr × Obj)} {s₁ : Shared} {h' : Heap} {tk : Nat} {m' : Str → Option Value}
    (hF : Fr h₀ L h' m') (hN : News h₀ L h' news') (hl : ∀ q ∈ Led c, q ∈ news') (ho : ∀ q ∈ own, q ∈ news') (hd : ∀ q ∈ Led c, ∀ p ∈ own, p.1 ≠ q.1) (hp : ∀ p ∈ ps c, m' p.1 = some p.2) (hJ : J c) :
    MEnd h₀ L Led ps J own s₁ { s₁ with heap := h', toks := tk } := ⟨c, h', tk, m', news', rfl, hF, hN, hl, ho, hd, hp, hJ⟩
theorem m_fr {L : Addr} {h : Heap} {ps : List (Str × Value)} {m₁ : Str → Option Value} {v : Value} (h1 : ∀ p ∈ ps, m₁ p.1 = some p.2) (F : Fr h₀ L h (fun y => if y = x then some v else m₁ y)) :
    Fr h₀ L h (fun y => if y = x then some v else kstB m₁ ps y) := by
  have em : (fun y => if y = x then some v else kstB m₁ ps y) = fun y => if y = x then some v else m₁ y := by
    funext y
    by_cases hy : y = x
    · rw [if_pos hy, if_pos hy]
    · rw [if_neg hy, if_neg hy]
      exact kstB_eq h1 fun _ => rfl
  rw [em]
  exact F
theorem m_frOut {L : Addr} {h : Heap} {ps : List (Str × Value)} {m₁ : Str → Option Value} (h1 : ∀ p ∈ ps, m₁ p.1 = some p.2) (F : Fr h₀ L h m₁) : Fr h₀ L h (kstB m₁ ps) := by
  have em : kstB m₁ ps = m₁ := by
    funext y
    exact kstB_eq h1 fun _ => rfl
  rw [em]
  exact F
theorem m_range {r : Addr} {a₀ b₀ d : Int} {ta tb tc : Tok} {n : Nat} {m₀ : Str → Option Value} {ledger : List (Addr × Obj)} (Led : σ → List (Addr × Obj)) (ps : σ → List (Str × Value)) (J : Nat → σ → Prop) (c₀ : σ)
    (hh : A.handled = none) (hr : IsRange s.heap r a₀ b₀ d ta tb tc) (hsmall : Builtin.Range.small a₀ b₀ d = true) (hn : Builtin.Range.rangeSize a₀ b₀ d = (n : Int)) (hF : Fr h₀ env.locals s.heap m₀) (hN : News h₀ env.locals s.heap ledger)
    (hl : ∀ q ∈ Led c₀, q ∈ ledger) (hp : ∀ p ∈ ps c₀, m₀ p.1 = some p.2) (hJ : J 0 c₀)
    (turn : ∀ (i : Nat) (k : Int) (tk : Tok) (c : σ) (u : Str → Option Value) h (tk' : Nat) own, k = a₀ + (i : Int) * d → i < n → (∀ q ∈ Led c, ∀ p ∈ own, p.1 ≠ q.1) → J i c →
      Fr h₀ env.locals h (fun z => if z = x then some (.int k tk) else kstB u (ps c) z) → News h₀ env.locals h (Led c ++ own) →
      wpAny (model prog w) A (execs body env) (MPost h₀ env.locals Led ps (J (i + 1)) own { s with heap := h, toks := tk' } Q) E { s with heap := h, toks := tk' })
    (done : ∀ (c : σ) (u : Str → Option Value) h (tk' : Nat), J n c → Fr h₀ env.locals h (kstB u (ps c)) → News h₀ env.locals h (Led c) → Q .next { s with heap := h, toks := tk' }) :
    wpAny (model prog w) A (pyIter (.ref r)) (fun it s₂ => LoopAtV prog w A h₀ env x body Q E it s₂) E s := by
  refine wpAny_pyIter_range hr hsmall ?_
  have W : Walks prog w A s.heap.objs.size [s.heap.objs.size] [s.heap.objs.size] n (fun i v => i < n ∧ ∃ t, v = .int (a₀ + i * d) t)
      (fun i h => IsRangeIter h s.heap.objs.size (a₀ + (i : Nat) * d) ((n : Int) - (i : Nat)) d) := (Walks.range hh _ a₀ d n).bound
  refine ⟨_, _, _, n, _, _, m₀, Led c₀, fun i m nx => ∃ c, nx = Led c ∧ (∀ p ∈ ps c, m p.1 = some p.2) ∧ J i c, rfl, W, ?_, ?_, ?_, by show IsRangeIter _ _ _ _ _; rw [hn]; simpa using Heap.get?_push_size _ rfl, hF.push _, (fun p hp => ⟨Heap.get?_push_of_some _ (hN p (hl p hp)).1, (hN p (hl p hp)).2⟩), ⟨c₀, rfl, hp, hJ⟩, ?_, ?_⟩
  · intro hm
    exact absurd hF.ns.lt ((List.mem_singleton.mp hm) ▸ Nat.lt_irrefl _)
  · intro b hb
    rw [List.mem_singleton.mp hb]
    exact next_is_new hF
  · intro p hp hI
    exact absurd (Heap.lt_size (hN p (hl p hp)).1) ((List.mem_singleton.mp hI) ▸ Nat.lt_irrefl _)
  · rintro i v m₁ news₁ s₁ own ⟨hh', tk', rfl⟩ hin ⟨_, t, rfl⟩ ⟨c, rfl, hps, hJ'⟩ hoff hown _ _ _ F₁ N₁
    have hsep : ∀ q ∈ Led c, ∀ p ∈ own, p.1 ≠ q.1 := fun q hq p hp e => hoff q hq (by rw [← e]; exact hown p hp)
    have N₂ : News h₀ env.locals hh' (Led c ++ own) := fun p hp => N₁ p ((List.mem_append.mp hp).elim (fun h => List.mem_append.mpr (.inr h)) fun h => List.mem_append.mpr (.inl h))
    refine wpAny_mono (turn i _ t c m₁ hh' tk' own rfl hin hsep hJ' (m_fr hps F₁) N₂) (fun f s₂ p => ?_) fun _ _ e => e
    have fin : MEnd h₀ env.locals Led ps (J (i + 1)) own { s with heap := hh', toks := tk' } s₂ → LoopStepU h₀ env.locals [s.heap.objs.size] own (fun m nx => ∃ c, nx = Led c ∧ (∀ p ∈ ps c, m p.1 = some p.2) ∧ J (i + 1) c) { s with heap := hh', toks := tk' } .next s₂ := by
      rintro ⟨c', h', tk, m', news', e, F', N', hl', ho', hd', hp', hJ'⟩
      refine ⟨rfl, h', tk, m', Led c', e, F', fun p hp => N' p ((List.mem_append.mp hp).elim (ho' p) (hl' p)), fun p hq hw => ?_, c', rfl, hp', hJ'⟩
      have hI := List.mem_singleton.mp hw
      obtain ⟨oi, hoi⟩ : ∃ o, hh'.get? s.heap.objs.size = some o := by
        rename_i hst _
        exact ⟨_, hst⟩
      rename_i hmem hst _
      have := hmem s.heap.objs.size (.head _) (next_is_new hF) oi hoi
      exact hd' p hq _ this hI.symm
    cases f with
    | ret v => exact .ret p
    | brk => exact .brk p
    | next => exact .next (fin p)
    | cont => exact .cont (fin p)
  · rintro h' tk m' news' F' N' _ ⟨c, rfl, hps, hJ'⟩
    exact done c m' h' tk hJ' (m_frOut hps F') N'
theorem m_list {l : Addr} {vs : List Value} {ns : List Int} {nl : Nat} {m₀ : Str → Option Value} {ledger : List (Addr × Obj)} (Led : σ → List (Addr × Obj)) (ps : σ → List (Str × Value)) (J : Nat → σ → Prop) (c₀ : σ)
    (hh : A.handled = none) (hlc : ∀ c, (l, listOf vs.toArray nl) ∈ Led c) (hi : IntsAre vs ns) (hF : Fr h₀ env.locals s.heap m₀) (hN : News h₀ env.locals s.heap ledger)
    (hl' : ∀ q ∈ Led c₀, q ∈ ledger) (hp : ∀ p ∈ ps c₀, m₀ p.1 = some p.2) (hJ : J 0 c₀)
    (turn : ∀ (i : Nat) (k : Int) (tk : Tok) (c : σ) (u : Str → Option Value) h (tk' : Nat) own, k = ns.getD i 0 → i < ns.length → (∀ q ∈ Led c, ∀ p ∈ own, p.1 ≠ q.1) → J i c →
      Fr h₀ env.locals h (fun z => if z = x then some (.int k tk) else kstB u (ps c) z) → News h₀ env.locals h (Led c ++ own) →
      wpAny (model prog w) A (execs body env) (MPost h₀ env.locals Led ps (J (i + 1)) own { s with heap := h, toks := tk' } Q) E { s with heap := h, toks := tk' })
    (done : ∀ (c : σ) (u : Str → Option Value) h (tk' : Nat), J ns.length c → Fr h₀ env.locals h (kstB u (ps c)) → News h₀ env.locals h (Led c) → Q .next { s with heap := h, toks := tk' }) :
    wpAny (model prog w) A (pyIter (.ref l)) (fun it s₂ => LoopAtV prog w A h₀ env x body Q E it s₂) E s := by
  have hl0 : (l, listOf vs.toArray nl) ∈ ledger := hl' _ (hlc c₀)
  have hol : s.heap.get? l = some (listOf vs.toArray nl) := (hN _ hl0).1
  have hls : s.heap.IsList l vs.toArray := ⟨_, hol, rfl, nl, rfl⟩
  have hne : l ≠ s.heap.objs.size := Nat.ne_of_lt (Heap.lt_size hol)
  refine wpAny_pyIter_list hls ?_
  have W := Walks.list (prog := prog) (w := w) hh s.heap.objs.size l hne vs.toArray
  have hlen : vs.toArray.size = ns.length := by simp [hi.length]
  rw [hlen] at W
  refine ⟨_, _, _, ns.length, _, _, m₀, Led c₀, fun i m nx => ∃ c, nx = Led c ∧ (∀ p ∈ ps c, m p.1 = some p.2) ∧ J i c, rfl, W, ?_, ?_, ?_, ⟨⟨_, Heap.get?_push_size _ rfl, rfl, rfl⟩, hls.at fun o e => Heap.get?_push_of_some _ e⟩, hF.push _, (fun p hp => ⟨Heap.get?_push_of_some _ (hN p (hl' p hp)).1, (hN p (hl' p hp)).2⟩), ⟨c₀, rfl, hp, hJ⟩, ?_, ?_⟩
  · intro hm
    rcases List.mem_cons.mp hm with e | hm
    · exact absurd hF.ns.lt (e ▸ Nat.lt_irrefl _)
    · exact (hN _ hl0).2.1 ((List.mem_singleton.mp hm).symm)
  · intro b hb
    rw [List.mem_singleton.mp hb]
    exact next_is_new hF
  · intro p hp hI
    exact absurd (Heap.lt_size (hN p (hl' p hp)).1) ((List.mem_singleton.mp hI) ▸ Nat.lt_irrefl _)
  · rintro i v m₁ news₁ s₁ own ⟨hh', tk', rfl⟩ hin hP ⟨c, rfl, hps, hJ'⟩ hoff hown hget hmem hst F₁ N₁
    obtain ⟨⟨oi, hoi, _⟩, _⟩ := hst
    have hI : (s.heap.objs.size, oi) ∈ own := hmem _ (.head _) (next_is_new hF) oi hoi
    have hsep : ∀ q ∈ Led c, ∀ p ∈ (own.filter fun p => decide (p.1 = s.heap.objs.size)), p.1 ≠ q.1 := by
      intro q hq p hp e
      have h1 : p.1 = s.heap.objs.size := by simpa using (List.mem_filter.mp hp).2
      exact hoff q hq (List.mem_singleton.mpr (by rw [← e, h1]))
    have hlt' : i < ns.length := hin
    obtain ⟨t, hx⟩ := hi.get i ns[i] (by simp [hlt'])
    have hv : v = .int (ns.getD i 0) t := by
      have hP' : vs[i]? = some v := by simpa using hP
      rw [hx] at hP'
      rw [List.getD_eq_getElem?_getD, List.getElem?_eq_getElem hlt']
      exact (Option.some.inj hP').symm
    subst hv
    have N₂ : News h₀ env.locals hh' (Led c ++ own.filter fun p => decide (p.1 = s.heap.objs.size)) := fun p hp => N₁ p ((List.mem_append.mp hp).elim (fun h => List.mem_append.mpr (.inr h)) fun h => List.mem_append.mpr (.inl ((List.mem_filter.mp h).1)))
    have hlo : hh'.get? l = some (listOf vs.toArray nl) := (N₁ _ (List.mem_append.mpr (.inr (hlc c)))).1
    refine wpAny_mono (turn i _ t c m₁ hh' tk' _ rfl hlt' hsep hJ' (m_fr hps F₁) N₂) (fun f s₂ p => ?_) fun _ _ e => e
    have fin : MEnd h₀ env.locals Led ps (J (i + 1)) (own.filter fun p => decide (p.1 = s.heap.objs.size)) { s with heap := hh', toks := tk' } s₂ → LoopStepU h₀ env.locals [s.heap.objs.size] own (fun m nx => ∃ c, nx = Led c ∧ (∀ p ∈ ps c, m p.1 = some p.2) ∧ J (i + 1) c) { s with heap := hh', toks := tk' } .next s₂ := by
      rintro ⟨c', h', tk, m', news', e, F', N', hl', ho', hd', hp', hJ'⟩
      refine ⟨rfl, h', tk, m', Led c', e, F', fun p hp => ?_, fun p hp hq => ?_, c', rfl, hp', hJ'⟩
      · rcases List.mem_append.mp hp with h | h
        · by_cases hI : p.1 = s.heap.objs.size
          · exact N' p (ho' p (List.mem_filter.mpr ⟨h, by simpa using hI⟩))
          · have h1 : p.1 = l := by
              rcases List.mem_cons.mp (hown p h) with h2 | h2
              · exact absurd h2 hI
              · exact List.mem_singleton.mp h2
            have h2 : hh'.get? p.1 = some p.2 := hget p h
            rw [h1, hlo] at h2
            have h3 : p = (l, listOf vs.toArray nl) := Prod.ext h1 (Option.some.inj h2).symm
            rw [h3]
            exact N' _ (hl' _ (hlc c'))
        · exact N' p (hl' p h)
      · exact hd' p hp (s.heap.objs.size, oi) (List.mem_filter.mpr ⟨hI, by simp⟩) (List.mem_singleton.mp hq).symm
    cases f with
    | ret v => exact .ret p
    | brk => exact .brk p
    | next => exact .next (fin p)
    | cont => exact .cont (fin p)
  · rintro h' tk m' news' F' N' _ ⟨c, rfl, hps, hJ'⟩
    exact done c m' h' tk hJ' (m_frOut hps F') N'
theorem m_while {test : Expr} {pos : Pos} {m₀ : Str → Option Value} {ledger : List (Addr × Obj)} (Led : σ → List (Addr × Obj)) (ps : σ → List (Str × Value)) (J : σ → Prop) (μ : σ → Nat) (c₀ : σ)
    (hF : Fr h₀ env.locals s.heap m₀) (hN : News h₀ env.locals s.heap ledger)
    (hl : ∀ q ∈ Led c₀, q ∈ ledger) (hp : ∀ p ∈ ps c₀, m₀ p.1 = some p.2) (hJ : J c₀)
    (turn : ∀ (c : σ) (u : Str → Option Value) h (tk' : Nat), J c → Fr h₀ env.locals h (kstB u (ps c)) → News h₀ env.locals h (Led c) →
      wpAny (model prog w) A (isTrue test env (eval test env)) (fun b s₂ =>
        if b = true then wpAny (model prog w) A (execs body env) (MPost h₀ env.locals Led ps (fun c' => J c' ∧ μ c' < μ c) [] s Q) E s₂ else Q .next s₂) E { s with heap := h, toks := tk' })
    (hE : PassesOwn (model prog w) A env E := by passes_own) :
    wpAny (model prog w) A (exec (.While test body [] pos) env) Q E s := by
  refine While_inv2 (fun n m nx => ∃ c : σ, nx = Led c ∧ μ c = n ∧ (∀ p ∈ ps c, m p.1 = some p.2) ∧ J c) hF (fun p hp => hN p (hl p hp)) ⟨c₀, rfl, rfl, hp, hJ⟩ ?_ hE
  rintro n m₁ nx h tk F₁ N₁ ⟨c, hnx, hsz, h1, hJ'⟩
  rw [hnx] at N₁
  rw [← hsz]
  refine wpAny_mono (turn c m₁ h tk hJ' (m_frOut h1 F₁) N₁) (fun b s₂ p => ?_) fun _ _ x => x
  cases b with
  | false => simpa using p
  | true =>
    simp only [if_true] at p ⊢
    refine wpAny_mono p (fun f s₃ q => ?_) fun _ _ x => x
    cases f with
    | ret v => exact q
    | brk => exact q
    | next =>
      obtain ⟨c', h', tk', m', news', rfl, F', N', hl', _, _, hp', hJ', hm⟩ := q
      exact ⟨h', tk', m', Led c', μ c', rfl, F', fun p hp => N' p (hl' p hp), hm, c', rfl, rfl, hp', hJ'⟩
    | cont =>
      obtain ⟨c', h', tk', m', news', rfl, F', N', hl', _, _, hp', hJ', hm⟩ := q
      exact ⟨h', tk', m', Led c', μ c', rfl, F', fun p hp => N' p (hl' p hp), hm, c', rfl, rfl, hp', hJ'⟩
end
noncomputable abbrev FlS := List Value × List Int × Nat × Int × Tok
noncomputable abbrev flLed (lf : Addr) (base : List (Addr × Obj)) (c : FlS) : List (Addr × Obj) := (lf, listOf (List.toArray c.1) c.2.2.1) :: base
noncomputable abbrev flPs (y : Str) (keep : List (Str × Value)) (c : FlS) : List (Str × Value) := (y, Value.int c.2.2.2.1 c.2.2.2.2) :: keep
noncomputable abbrev flJ (I : List Int → Int → Prop) (c : FlS) : Prop := IntsAre c.1 c.2.1 ∧ I c.2.1 c.2.2.2.1
section
variable {prog : Program} {w : World} {A : Around} {E : Value → Shared → Prop} {s : Shared} {env : Env} {h₀ : Heap} {x : Str} {body : List Stmt} {Q : Flow → Shared → Prop}
theorem fl_end {L : Addr} {y : Str} {keep : List (Str × Value)} {lf : Addr} {base own news' : List (Addr × Obj)} {J : List Int → Int → Prop} {s₁ : Shared} {us : List Value} {F : List Int} {n : Nat} {c : Int} {t : Tok} {h' : Heap} {tk : Nat} {m' : Str → Option Value}
    (hF : Fr h₀ L h' m') (hN : News h₀ L h' news') (hm : (lf, listOf (List.toArray us) n) ∈ news') (hb : ∀ q ∈ base, q ∈ news') (ho : ∀ q ∈ own, q ∈ news') (hd : ∀ p ∈ own, p.1 ≠ lf) (hd2 : ∀ q ∈ base, ∀ p ∈ own, p.1 ≠ q.1) (hi : IntsAre us F) (hy : m' y = some (.int c t))
    (hk : ∀ p ∈ keep, m' p.1 = some p.2) (hJ : J F c) : MEnd h₀ L (flLed lf base) (flPs y keep) (flJ J) own s₁ { s₁ with heap := h', toks := tk } := by
  refine m_end (us, F, n, c, t) hF hN ?_ ho ?_ ?_ ⟨hi, hJ⟩
  · exact List.forall_mem_cons.mpr ⟨hm, hb⟩
  · exact List.forall_mem_cons.mpr ⟨hd, hd2⟩
  · exact List.forall_mem_cons.mpr ⟨hy, hk⟩
theorem fl_off {lf : Addr} {o : Obj} {base own : List (Addr × Obj)} (hne : ∀ q ∈ base, q.1 ≠ lf) (h : ∀ q ∈ (lf, o) :: base, ∀ p ∈ own, p.1 ≠ q.1) : ∀ q ∈ base ++ own, q.1 ≠ lf := fun q hq =>
  (List.mem_append.mp hq).elim (hne q) fun h' => h (lf, o) (.head _) q h'
theorem fl_range {r : Addr} {a₀ b₀ : Int} {ta tb tc : Tok} {nn : Nat} {m₀ : Str → Option Value} {lf : Addr} {y : Str} {base ledger : List (Addr × Obj)} {us₀ : List Value} {F₀ : List Int} {n₀ : Nat} {c₀ : Int} {t₀ : Tok} (keep : List (Str × Value)) (I : Nat → List Int → Int → Prop)
    (hh : A.handled = none) (hr : IsRange s.heap r a₀ b₀ 1 ta tb tc) (hsmall : Builtin.Range.small a₀ b₀ 1 = true) (hn : (b₀ - a₀).toNat = nn) (hF : Fr h₀ env.locals s.heap m₀) (hN : News h₀ env.locals s.heap ledger)
    (hy : m₀ y = some (.int c₀ t₀)) (hk : ∀ p ∈ keep, m₀ p.1 = some p.2) (hm : (lf, listOf (List.toArray us₀) n₀) ∈ ledger) (hb : ∀ q ∈ base, q ∈ ledger) (hne : ∀ q ∈ base, q.1 ≠ lf) (hi : IntsAre us₀ F₀) (hI : I 0 F₀ c₀)
    (turn : ∀ (i : Nat) (k : Int) (tk : Tok) us F n c t (u : Str → Option Value) h (tk' : Nat) own, k = a₀ + (i : Int) → i < nn → (∀ q ∈ base ++ own, q.1 ≠ lf) → (∀ p ∈ own, p.1 ≠ lf) → (∀ q ∈ base, ∀ p ∈ own, p.1 ≠ q.1) → IntsAre us F → I i F c →
      Fr h₀ env.locals h (fun z => if z = x then some (.int k tk) else kstB u ((y, Value.int c t) :: keep) z) → News h₀ env.locals h ((lf, listOf (List.toArray us) n) :: (base ++ own)) →
      wpAny (model prog w) A (execs body env) (MPost h₀ env.locals (flLed lf base) (flPs y keep) (flJ (I (i + 1))) own { s with heap := h, toks := tk' } Q) E { s with heap := h, toks := tk' })
    (done : ∀ us F n c t (u : Str → Option Value) h (tk' : Nat), IntsAre us F → I nn F c →
      Fr h₀ env.locals h (kstB u ((y, Value.int c t) :: keep)) → News h₀ env.locals h ((lf, listOf (List.toArray us) n) :: base) → Q .next { s with heap := h, toks := tk' }) :
    wpAny (model prog w) A (pyIter (.ref r)) (fun it s₂ => LoopAtV prog w A h₀ env x body Q E it s₂) E s := by
  refine m_range (flLed lf base) (flPs y keep) (fun i => flJ (I i)) (us₀, F₀, n₀, c₀, t₀) hh hr hsmall (n := nn) (by rw [rangeSize_nat, hn]) hF hN (List.forall_mem_cons.mpr ⟨hm, hb⟩) (List.forall_mem_cons.mpr ⟨hy, hk⟩) ⟨hi, hI⟩ ?_ ?_
  · rintro i k tk ⟨us, F, n, c, t⟩ u h tk' own hk' hlt hoff ⟨hf, hp⟩ F₁ N₁
    exact turn i k tk us F n c t u h tk' own (by omega) hlt (fl_off hne hoff) (hoff _ (.head _)) (fun q hq => hoff q (.tail _ hq)) hf hp F₁ N₁
  · rintro ⟨us, F, n, c, t⟩ u h tk' ⟨hf, hp⟩ F₁ N₁
    exact done us F n c t u h tk' hf hp F₁ N₁
theorem fl_list {l : Addr} {vs : List Value} {ns : List Int} {nl : Nat} {m₀ : Str → Option Value} {lf : Addr} {y : Str} {base ledger : List (Addr × Obj)} {us₀ : List Value} {F₀ : List Int} {n₀ : Nat} {c₀ : Int} {t₀ : Tok} (keep : List (Str × Value)) (I : Nat → List Int → Int → Prop)
    (hh : A.handled = none) (hl : (l, listOf vs.toArray nl) ∈ base) (hia : IntsAre vs ns) (hF : Fr h₀ env.locals s.heap m₀) (hN : News h₀ env.locals s.heap ledger)
    (hy : m₀ y = some (.int c₀ t₀)) (hk : ∀ p ∈ keep, m₀ p.1 = some p.2) (hm : (lf, listOf (List.toArray us₀) n₀) ∈ ledger) (hb : ∀ q ∈ base, q ∈ ledger) (hne : ∀ q ∈ base, q.1 ≠ lf) (hi : IntsAre us₀ F₀) (hI : I 0 F₀ c₀)
    (turn : ∀ (i : Nat) (k : Int) (tk : Tok) us F n c t (u : Str → Option Value) h (tk' : Nat) own, k = ns.getD i 0 → i < ns.length → (∀ q ∈ base ++ own, q.1 ≠ lf) → (∀ p ∈ own, p.1 ≠ lf) → (∀ q ∈ base, ∀ p ∈ own, p.1 ≠ q.1) → IntsAre us F → I i F c →
      Fr h₀ env.locals h (fun z => if z = x then some (.int k tk) else kstB u ((y, Value.int c t) :: keep) z) → News h₀ env.locals h ((lf, listOf (List.toArray us) n) :: (base ++ own)) →
      wpAny (model prog w) A (execs body env) (MPost h₀ env.locals (flLed lf base) (flPs y keep) (flJ (I (i + 1))) own { s with heap := h, toks := tk' } Q) E { s with heap := h, toks := tk' })
    (done : ∀ us F n c t (u : Str → Option Value) h (tk' : Nat), IntsAre us F → I ns.length F c →
      Fr h₀ env.locals h (kstB u ((y, Value.int c t) :: keep)) → News h₀ env.locals h ((lf, listOf (List.toArray us) n) :: base) → Q .next { s with heap := h, toks := tk' }) :
    wpAny (model prog w) A (pyIter (.ref l)) (fun it s₂ => LoopAtV prog w A h₀ env x body Q E it s₂) E s := by
  refine m_list (flLed lf base) (flPs y keep) (fun i => flJ (I i)) (us₀, F₀, n₀, c₀, t₀) hh (fun _ => .tail _ hl) hia hF hN (List.forall_mem_cons.mpr ⟨hm, hb⟩) (List.forall_mem_cons.mpr ⟨hy, hk⟩) ⟨hi, hI⟩ ?_ ?_
  · rintro i k tk ⟨us, F, n, c, t⟩ u h tk' own hk' hlt hoff ⟨hf, hp⟩ F₁ N₁
    exact turn i k tk us F n c t u h tk' own hk' hlt (fl_off hne hoff) (hoff _ (.head _)) (fun q hq => hoff q (.tail _ hq)) hf hp F₁ N₁
  · rintro ⟨us, F, n, c, t⟩ u h tk' ⟨hf, hp⟩ F₁ N₁
    exact done us F n c t u h tk' hf hp F₁ N₁
theorem fl_while {test : Expr} {pos : Pos} {m₀ : Str → Option Value} {lf : Addr} {y : Str} {base ledger : List (Addr × Obj)} {us₀ : List Value} {F₀ : List Int} {n₀ : Nat} {c₀ : Int} {t₀ : Tok} (keep : List (Str × Value)) (I : List Int → Int → Prop) (μ : List Int → Int → Nat)
    (hF : Fr h₀ env.locals s.heap m₀) (hN : News h₀ env.locals s.heap ledger)
    (hy : m₀ y = some (.int c₀ t₀)) (hk : ∀ p ∈ keep, m₀ p.1 = some p.2) (hm : (lf, listOf (List.toArray us₀) n₀) ∈ ledger) (hb : ∀ q ∈ base, q ∈ ledger) (hne : ∀ q ∈ base, q.1 ≠ lf) (hi : IntsAre us₀ F₀) (hI : I F₀ c₀)
    (turn : ∀ us F n c t (u : Str → Option Value) h (tk' : Nat), (∀ q ∈ base, q.1 ≠ lf) → IntsAre us F → I F c →
      Fr h₀ env.locals h (kstB u ((y, Value.int c t) :: keep)) → News h₀ env.locals h ((lf, listOf (List.toArray us) n) :: base) →
      wpAny (model prog w) A (isTrue test env (eval test env)) (fun b s₂ =>
        if b = true then wpAny (model prog w) A (execs body env) (MPost h₀ env.locals (flLed lf base) (flPs y keep) (flJ (fun F' c' => I F' c' ∧ μ F' c' < μ F c)) [] s Q) E s₂ else Q .next s₂) E { s with heap := h, toks := tk' })
    (hE : PassesOwn (model prog w) A env E := by passes_own) :
    wpAny (model prog w) A (exec (.While test body [] pos) env) Q E s := by
  refine m_while (flLed lf base) (flPs y keep) (flJ I) (fun c => μ c.2.1 c.2.2.2.1) (us₀, F₀, n₀, c₀, t₀) hF hN (List.forall_mem_cons.mpr ⟨hm, hb⟩) (List.forall_mem_cons.mpr ⟨hy, hk⟩) ⟨hi, hI⟩ ?_ hE
  rintro ⟨us, F, n, c, t⟩ u h tk' ⟨hf, hp⟩ F₁ N₁
  refine wpAny_mono (turn us F n c t u h tk' hne hf hp F₁ N₁) (fun b s₂ p => ?_) fun _ _ e => e
  cases b with
  | false => simpa using p
  | true =>
    simp only [if_true] at p ⊢
    refine wpAny_mono p (fun f s₃ q => ?_) fun _ _ e => e
    have fin : MEnd h₀ env.locals (flLed lf base) (flPs y keep) (flJ (fun F' c' => I F' c' ∧ μ F' c' < μ F c)) [] s s₃ → MEnd h₀ env.locals (flLed lf base) (flPs y keep) (fun c' => flJ I c' ∧ μ c'.2.1 c'.2.2.2.1 < μ F c) [] s s₃ := by
      rintro ⟨c', h', tk, m', news', e, F', N', hl', ho', hd', hp', hJ'⟩
      exact ⟨c', h', tk, m', news', e, F', N', hl', ho', hd', hp', ⟨hJ'.1, hJ'.2.1⟩, hJ'.2.2⟩
    cases f with
    | ret v => exact q
    | brk => exact q
    | next => exact fin q
    | cont => exact fin q
end
theorem m_append {prog : Program} {w : World} {A : Around} {E : Value → Shared → Prop} {s : Shared} {h₀ : Heap} {L D : Addr} {m : Str → Option Value} {news news' : List (Addr × Obj)} {us : List Value} {ns : List Int} {n : Nat} {x : Value} {Q : Value → Shared → Prop}
    (F : Fr h₀ L s.heap m) (N : News h₀ L s.heap news) (U : Upd D (listOf us.toArray n) (listOf (List.toArray (us ++ [x])) (n + 1)) news news') (hi : IntsAre us ns) (hl : ns.length < 2000)
    (h : ∀ h', Fr h₀ L h' m → News h₀ L h' news' → Q .none { s with heap := h' }) : wpAny (model prog w) A (call (.builtin "list.append") [.ref D, x]) Q E s := by
  have e : us.toArray.push x = List.toArray (us ++ [x]) := by simp
  refine append_K F N (its := us.toArray) (n := n) (news' := news') (by rw [e]; exact U) h ?_
  rw [List.size_toArray, hi.length, sizeLine_eq]; omega
end
-- Loops2
section
/-- a name that holds a list of digits -/
noncomputable abbrev RbS := Addr × List Value × Nat × List Int × Int
noncomputable abbrev rbObj (c : RbS) : Addr × Obj := (c.1, listOf (List.toArray c.2.1) c.2.2.1)
noncomputable abbrev rbOk (b : Int) (c : RbS) : Prop := IntsAre c.2.1 c.2.2.2.1 ∧ Can b c.2.2.2.1 c.2.2.2.2
section
variable {prog : Program} {w : World} {A : Around} {E : Value → Shared → Prop} {s : Shared} {env : Env} {h₀ : Heap} {x : Str} {body : List Stmt} {Q : Flow → Shared → Prop}
noncomputable abbrev rbLed (base : List (Addr × Obj)) (c : RbS) : List (Addr × Obj) := rbObj c :: base
noncomputable abbrev rbPs (y : Str) (keep : List (Str × Value)) (c : RbS) : List (Str × Value) := (y, Value.ref c.1) :: keep
noncomputable abbrev rbJ (b : Int) (O : Addr → Prop) (I : Int → Prop) (c : RbS) : Prop := rbOk b c ∧ O c.1 ∧ I c.2.2.2.2
theorem rb_end {b : Int} {O : Addr → Prop} {L : Addr} {y : Str} {keep : List (Str × Value)} {base news' : List (Addr × Obj)} {J : Int → Prop} {s₁ : Shared} {l : Addr} {us : List Value} {F : List Int} {n : Nat} {v : Int} {h' : Heap} {tk : Nat} {m' : Str → Option Value}
    (hF : Fr h₀ L h' m') (hN : News h₀ L h' news') (hy : m' y = some (.ref l)) (hm : (l, listOf (List.toArray us) n) ∈ news') (hb : ∀ q ∈ base, q ∈ news') (hi : IntsAre us F) (hc : Can b F v)
    (hk : ∀ p ∈ keep, m' p.1 = some p.2) (hO : O l) (hJ : J v) : MEnd h₀ L (rbLed base) (rbPs y keep) (rbJ b O J) [] s₁ { s₁ with heap := h', toks := tk } :=
  m_end (l, us, n, F, v) hF hN (List.forall_mem_cons.mpr ⟨hm, hb⟩) (List.forall_mem_nil _) (fun _ _ => List.forall_mem_nil _) (List.forall_mem_cons.mpr ⟨hy, hk⟩) ⟨⟨hi, hc⟩, hO, hJ⟩
theorem rb_while {b : Int} {test : Expr} {pos : Pos} {m₀ : Str → Option Value} {y : Str} {base ledger : List (Addr × Obj)} {l₀ : Addr} {us₀ : List Value} {n₀ : Nat} {F₀ : List Int} {v₀ : Int} (keep : List (Str × Value)) (O : Addr → Prop) (I : Int → Prop)
    (hF : Fr h₀ env.locals s.heap m₀) (hN : News h₀ env.locals s.heap ledger)
    (hy : m₀ y = some (.ref l₀)) (hm : (l₀, listOf (List.toArray us₀) n₀) ∈ ledger) (hi : IntsAre us₀ F₀) (hc : Can b F₀ v₀) (hk : ∀ p ∈ keep, m₀ p.1 = some p.2) (hb : ∀ q ∈ base, q ∈ ledger) (hO : O l₀) (hI : I v₀)
    (turn : ∀ l us n F v (u : Str → Option Value) h (tk' : Nat), IntsAre us F → Can b F v → O l → I v →
      Fr h₀ env.locals h (kstB u ((y, Value.ref l) :: keep)) → News h₀ env.locals h ((l, listOf (List.toArray us) n) :: base) →
      wpAny (model prog w) A (isTrue test env (eval test env)) (fun t s₂ =>
        if t = true then wpAny (model prog w) A (execs body env) (MPost h₀ env.locals (rbLed base) (rbPs y keep) (rbJ b O (fun v' => I v' ∧ v'.toNat < v.toNat)) [] s Q) E s₂ else Q .next s₂) E { s with heap := h, toks := tk' })
    (hE : PassesOwn (model prog w) A env E := by passes_own) :
    wpAny (model prog w) A (exec (.While test body [] pos) env) Q E s := by
  refine m_while (rbLed base) (rbPs y keep) (rbJ b O I) (fun c => c.2.2.2.2.toNat) (l₀, us₀, n₀, F₀, v₀) hF hN (List.forall_mem_cons.mpr ⟨hm, hb⟩) (List.forall_mem_cons.mpr ⟨hy, hk⟩) ⟨⟨hi, hc⟩, hO, hI⟩ ?_ hE
  rintro ⟨l, us, n, F, v⟩ u h tk' ⟨⟨hf, hc'⟩, ho, hp⟩ F₁ N₁
  refine wpAny_mono (turn l us n F v u h tk' hf hc' ho hp F₁ N₁) (fun t s₂ p => ?_) fun _ _ e => e
  cases t with
  | false => simpa using p
  | true =>
    simp only [if_true] at p ⊢
    refine wpAny_mono p (fun f s₃ q => ?_) fun _ _ e => e
    have fin : MEnd h₀ env.locals (rbLed base) (rbPs y keep) (rbJ b O (fun v' => I v' ∧ v'.toNat < v.toNat)) [] s s₃ → MEnd h₀ env.locals (rbLed base) (rbPs y keep) (fun c' => rbJ b O I c' ∧ c'.2.2.2.2.toNat < v.toNat) [] s s₃ := by
      rintro ⟨c', h', tk, m', news', e, F', N', hl', ho', hd', hp', hJ'⟩
      exact ⟨c', h', tk, m', news', e, F', N', hl', ho', hd', hp', ⟨hJ'.1, hJ'.2.1, hJ'.2.2.1⟩, hJ'.2.2.2⟩
    cases f with
    | ret v => exact q
    | brk => exact q
    | next => exact fin q
    | cont => exact fin q
noncomputable abbrev R2S := RbS × RbS × Bool
noncomputable abbrev r2Led (base : List (Addr × Obj)) (c : R2S) : List (Addr × Obj) := rbObj c.1 :: rbObj c.2.1 :: base
noncomputable abbrev r2Ps (y z q : Str) (keep : List (Str × Value)) (c : R2S) : List (Str × Value) := (y, Value.ref c.1.1) :: (z, Value.ref c.2.1.1) :: (q, Value.bool c.2.2) :: keep
noncomputable abbrev r2J (b : Int) (O : Addr → Prop) (I : Int → Int → Bool → Prop) (c : R2S) : Prop := rbOk b c.1 ∧ rbOk b c.2.1 ∧ O c.2.1.1 ∧ I c.1.2.2.2.2 c.2.1.2.2.2.2 c.2.2
theorem r2_end {b : Int} {O : Addr → Prop} {L : Addr} {y z q : Str} {keep : List (Str × Value)} {base news' : List (Addr × Obj)} {J : Int → Int → Bool → Prop} {s₁ : Shared} {l l2 : Addr} {us us2 : List Value} {F F2 : List Int} {n n2 : Nat} {v v2 : Int} {t : Bool} {h' : Heap} {tk : Nat} {m' : Str → Option Value}
    (hF : Fr h₀ L h' m') (hN : News h₀ L h' news') (hy : m' y = some (.ref l)) (hz : m' z = some (.ref l2)) (hq : m' q = some (.bool t)) (hm : (l, listOf (List.toArray us) n) ∈ news') (hm2 : (l2, listOf (List.toArray us2) n2) ∈ news') (hb : ∀ q ∈ base, q ∈ news') (hi : IntsAre us F) (hi2 : IntsAre us2 F2) (hc : Can b F v) (hc2 : Can b F2 v2)
    (hk : ∀ p ∈ keep, m' p.1 = some p.2) (hO : O l2) (hJ : J v v2 t) : MEnd h₀ L (r2Led base) (r2Ps y z q keep) (r2J b O J) [] s₁ { s₁ with heap := h', toks := tk } :=
  m_end ((l, us, n, F, v), (l2, us2, n2, F2, v2), t) hF hN (List.forall_mem_cons.mpr ⟨hm, List.forall_mem_cons.mpr ⟨hm2, hb⟩⟩) (List.forall_mem_nil _) (fun _ _ => List.forall_mem_nil _) (List.forall_mem_cons.mpr ⟨hy, List.forall_mem_cons.mpr ⟨hz, List.forall_mem_cons.mpr ⟨hq, hk⟩⟩⟩) ⟨⟨hi, hc⟩, ⟨hi2, hc2⟩, hO, hJ⟩
theorem r2_while {b : Int} {test : Expr} {pos : Pos} {m₀ : Str → Option Value} {y z q : Str} {base ledger : List (Addr × Obj)} {l₀ l₂ : Addr} {us₀ us₂ : List Value} {n₀ n₂ : Nat} {F₀ F₂ : List Int} {v₀ v₂ : Int} {t₀ : Bool} (keep : List (Str × Value)) (O : Addr → Prop) (I : Int → Int → Bool → Prop)
    (hF : Fr h₀ env.locals s.heap m₀) (hN : News h₀ env.locals s.heap ledger)
    (hy : m₀ y = some (.ref l₀)) (hz : m₀ z = some (.ref l₂)) (hq : m₀ q = some (.bool t₀)) (hm : (l₀, listOf (List.toArray us₀) n₀) ∈ ledger) (hm2 : (l₂, listOf (List.toArray us₂) n₂) ∈ ledger) (hi : IntsAre us₀ F₀) (hi2 : IntsAre us₂ F₂) (hc : Can b F₀ v₀) (hc2 : Can b F₂ v₂) (hk : ∀ p ∈ keep, m₀ p.1 = some p.2) (hb : ∀ q ∈ base, q ∈ ledger) (hO : O l₂) (hI : I v₀ v₂ t₀)
    (turn : ∀ l us n F v l2 us2 n2 F2 v2 t (u : Str → Option Value) h (tk' : Nat), IntsAre us F → Can b F v → IntsAre us2 F2 → Can b F2 v2 → O l2 → I v v2 t →
      Fr h₀ env.locals h (kstB u ((y, Value.ref l) :: (z, Value.ref l2) :: (q, Value.bool t) :: keep)) → News h₀ env.locals h ((l, listOf (List.toArray us) n) :: (l2, listOf (List.toArray us2) n2) :: base) →
      wpAny (model prog w) A (isTrue test env (eval test env)) (fun t' s₂ =>
        if t' = true then wpAny (model prog w) A (execs body env) (MPost h₀ env.locals (r2Led base) (r2Ps y z q keep) (r2J b O (fun v' v2' t' => I v' v2' t' ∧ v'.toNat < v.toNat)) [] s Q) E s₂ else Q .next s₂) E { s with heap := h, toks := tk' })
    (hE : PassesOwn (model prog w) A env E := by passes_own) :
    wpAny (model prog w) A (exec (.While test body [] pos) env) Q E s := by
  refine m_while (r2Led base) (r2Ps y z q keep) (r2J b O I) (fun c => c.1.2.2.2.2.toNat) ((l₀, us₀, n₀, F₀, v₀), (l₂, us₂, n₂, F₂, v₂), t₀) hF hN (List.forall_mem_cons.mpr ⟨hm, List.forall_mem_cons.mpr ⟨hm2, hb⟩⟩) (List.forall_mem_cons.mpr ⟨hy, List.forall_mem_cons.mpr ⟨hz, List.forall_mem_cons.mpr ⟨hq, hk⟩⟩⟩) ⟨⟨hi, hc⟩, ⟨hi2, hc2⟩, hO, hI⟩ ?_ hE
  rintro ⟨⟨l, us, n, F, v⟩, ⟨l2, us2, n2, F2, v2⟩, t⟩ u h tk' ⟨⟨hf, hc'⟩, ⟨hf2, hc2'⟩, ho, hp⟩ F₁ N₁
  refine wpAny_mono (turn l us n F v l2 us2 n2 F2 v2 t u h tk' hf hc' hf2 hc2' ho hp F₁ N₁) (fun t' s₂ p => ?_) fun _ _ e => e
  cases t' with
  | false => simpa using p
  | true =>
    simp only [if_true] at p ⊢
    refine wpAny_mono p (fun f s₃ q' => ?_) fun _ _ e => e
    have fin : MEnd h₀ env.locals (r2Led base) (r2Ps y z q keep) (r2J b O (fun v' v2' t' => I v' v2' t' ∧ v'.toNat < v.toNat)) [] s s₃ → MEnd h₀ env.locals (r2Led base) (r2Ps y z q keep) (fun c' => r2J b O I c' ∧ c'.1.2.2.2.2.toNat < v.toNat) [] s s₃ := by
      rintro ⟨c', h', tk, m', news', e, F', N', hl', ho', hd', hp', hJ'⟩
      exact ⟨c', h', tk, m', news', e, F', N', hl', ho', hd', hp', ⟨hJ'.1, hJ'.2.1, hJ'.2.2.1, hJ'.2.2.2.1⟩, hJ'.2.2.2.2⟩
    cases f with
    | ret v => exact q'
    | brk => exact q'
    | next => exact fin q'
    | cont => exact fin q'
noncomputable abbrev rqLed (base : List (Addr × Obj)) (c : RbS × Bool) : List (Addr × Obj) := rbObj c.1 :: base
noncomputable abbrev rqPs (y q : Str) (keep : List (Str × Value)) (c : RbS × Bool) : List (Str × Value) := (y, Value.ref c.1.1) :: (q, Value.bool c.2) :: keep
noncomputable abbrev rqJ (b : Int) (O : Addr → Prop) (I : Int → Bool → Prop) (c : RbS × Bool) : Prop := rbOk b c.1 ∧ O c.1.1 ∧ I c.1.2.2.2.2 c.2
theorem rq_end {b : Int} {O : Addr → Prop} {L : Addr} {y q : Str} {keep : List (Str × Value)} {base own news' : List (Addr × Obj)} {J : Int → Bool → Prop} {s₁ : Shared} {l : Addr} {us : List Value} {F : List Int} {n : Nat} {v : Int} {t : Bool} {h' : Heap} {tk : Nat} {m' : Str → Option Value}
    (hF : Fr h₀ L h' m') (hN : News h₀ L h' news') (hy : m' y = some (.ref l)) (hq : m' q = some (.bool t)) (hm : (l, listOf (List.toArray us) n) ∈ news') (hb : ∀ q ∈ base, q ∈ news') (ho : ∀ q ∈ own, q ∈ news') (hl : ∀ p ∈ own, p.1 < l) (hd : ∀ q ∈ base, ∀ p ∈ own, p.1 ≠ q.1) (hi : IntsAre us F) (hc : Can b F v)
    (hk : ∀ p ∈ keep, m' p.1 = some p.2) (hO : O l) (hJ : J v t) : MEnd h₀ L (rqLed base) (rqPs y q keep) (rqJ b O J) own s₁ { s₁ with heap := h', toks := tk } :=
  m_end ((l, us, n, F, v), t) hF hN (List.forall_mem_cons.mpr ⟨hm, hb⟩) ho (List.forall_mem_cons.mpr ⟨fun p hp => Nat.ne_of_lt (hl p hp), hd⟩) (List.forall_mem_cons.mpr ⟨hy, List.forall_mem_cons.mpr ⟨hq, hk⟩⟩) ⟨⟨hi, hc⟩, hO, hJ⟩
theorem rq_range {b : Int} {r : Addr} {a₀ b₀ d : Int} {ta tb tc : Tok} {nn : Nat} {m₀ : Str → Option Value} {y q : Str} {base ledger : List (Addr × Obj)} {l₀ : Addr} {us₀ : List Value} {n₀ : Nat} {F₀ : List Int} {v₀ : Int} {t₀ : Bool} (keep : List (Str × Value)) (O : Addr → Prop) (I : Nat → Int → Bool → Prop)
    (hh : A.handled = none) (hr : IsRange s.heap r a₀ b₀ d ta tb tc) (hsmall : Builtin.Range.small a₀ b₀ d = true) (hn : Builtin.Range.rangeSize a₀ b₀ d = (nn : Int)) (hF : Fr h₀ env.locals s.heap m₀) (hN : News h₀ env.locals s.heap ledger)
    (hy : m₀ y = some (.ref l₀)) (hq : m₀ q = some (.bool t₀)) (hm : (l₀, listOf (List.toArray us₀) n₀) ∈ ledger) (hi : IntsAre us₀ F₀) (hc : Can b F₀ v₀) (hk : ∀ p ∈ keep, m₀ p.1 = some p.2) (hb : ∀ q ∈ base, q ∈ ledger) (hO : O l₀) (hI : I 0 v₀ t₀)
    (turn : ∀ (i : Nat) (k : Int) (tk : Tok) l us n F v t (u : Str → Option Value) h (tk' : Nat) own, k = a₀ + (i : Int) * d → i < nn → (∀ q ∈ base, ∀ p ∈ own, p.1 ≠ q.1) → IntsAre us F → Can b F v → O l → I i v t →
      Fr h₀ env.locals h (fun z => if z = x then some (.int k tk) else kstB u ((y, Value.ref l) :: (q, Value.bool t) :: keep) z) → News h₀ env.locals h ((l, listOf (List.toArray us) n) :: (base ++ own)) →
      wpAny (model prog w) A (execs body env) (MPost h₀ env.locals (rqLed base) (rqPs y q keep) (rqJ b O (I (i + 1))) own { s with heap := h, toks := tk' } Q) E { s with heap := h, toks := tk' })
    (done : ∀ l us n F v t (u : Str → Option Value) h (tk' : Nat), IntsAre us F → Can b F v → O l → I nn v t →
      Fr h₀ env.locals h (kstB u ((y, Value.ref l) :: (q, Value.bool t) :: keep)) → News h₀ env.locals h ((l, listOf (List.toArray us) n) :: base) → Q .next { s with heap := h, toks := tk' }) :
    wpAny (model prog w) A (pyIter (.ref r)) (fun it s₂ => LoopAtV prog w A h₀ env x body Q E it s₂) E s := by
  refine m_range (rqLed base) (rqPs y q keep) (fun i => rqJ b O (I i)) ((l₀, us₀, n₀, F₀, v₀), t₀) hh hr hsmall hn hF hN (List.forall_mem_cons.mpr ⟨hm, hb⟩) (List.forall_mem_cons.mpr ⟨hy, List.forall_mem_cons.mpr ⟨hq, hk⟩⟩) ⟨⟨hi, hc⟩, hO, hI⟩ ?_ ?_
  · rintro i k tk ⟨⟨l, us, n, F, v⟩, t⟩ u h tk' own hk' hlt hoff ⟨⟨hf, hc'⟩, ho, hp⟩ F₁ N₁
    exact turn i k tk l us n F v t u h tk' own hk' hlt (fun q hq => hoff q (.tail _ hq)) hf hc' ho hp F₁ N₁
  · rintro ⟨⟨l, us, n, F, v⟩, t⟩ u h tk' ⟨⟨hf, hc'⟩, ho, hp⟩ F₁ N₁
    exact done l us n F v t u h tk' hf hc' ho hp F₁ N₁
end
end
-- Base
noncomputable abbrev LOOSE : List Str := (looseW view [] ++ List.map (fun x => x.name) (recsOf view) ++ List.map (fun x => x.fst) (litsOf view) ++ List.map (fun x => x.name) (clssOf view (looseW view [])))
noncomputable abbrev RetL (h₀ : Heap) (L : Addr) (m : Str → Option Value) (news : List (Addr × Obj)) (s : Shared) (Q : Value → Shared → Prop) (res : List Int) : Prop :=
  ∀ (r : Addr) (us : List Value) (n : Nat) (h' : Heap) (tk' : Nat), Fr h₀ L h' m → News h₀ L h' ((r, listOf us.toArray n) :: news) → IntsAre us res → (∀ q ∈ news, q.1 < r) → Q (.ref r) { s with heap := h', toks := tk' }
noncomputable abbrev RetC (h₀ : Heap) (L : Addr) (m : Str → Option Value) (news : List (Addr × Obj)) (s : Shared) (Q : Value → Shared → Prop) (b v : Int) : Prop :=
  ∀ (r : Addr) (us : List Value) (n : Nat) (res : List Int) (h' : Heap) (tk' : Nat), Fr h₀ L h' m → News h₀ L h' ((r, listOf us.toArray n) :: news) → IntsAre us res → Can b res v → (∀ q ∈ news, q.1 < r) → Q (.ref r) { s with heap := h', toks := tk' }
noncomputable abbrev RetI (h₀ : Heap) (L : Addr) (m : Str → Option Value) (news : List (Addr × Obj)) (s : Shared) (Q : Value → Shared → Prop) (res : Int) : Prop :=
  ∀ (t : Tok) (h' : Heap) (tk' : Nat), Fr h₀ L h' m → News h₀ L h' news → Q (.int res t) { s with heap := h', toks := tk' }
noncomputable abbrev RetB (h₀ : Heap) (L : Addr) (m : Str → Option Value) (news : List (Addr × Obj)) (s : Shared) (Q : Value → Shared → Prop) (res : Bool) : Prop :=
  ∀ (h' : Heap) (tk' : Nat), Fr h₀ L h' m → News h₀ L h' news → Q (.bool res) { s with heap := h', toks := tk' }
theorem newsDrop {h₀ h : Heap} {L : Addr} {l l' : List (Addr × Obj)} (N : News h₀ L h l) (hs : ∀ p ∈ l', p ∈ l) : News h₀ L h l' := fun p hp => N p (hs p hp)
theorem allLtOf {d : Addr} {l : List (Addr × Obj)} (h : AllLt d l) : ∀ p ∈ l, p.1 < d := kst_ltOf h
theorem ltSub {d : Addr} {l l' : List (Addr × Obj)} (h : ∀ q ∈ l, q.1 < d) (hs : ∀ p ∈ l', p ∈ l) : ∀ q ∈ l', q.1 < d := fun q hq => h q (hs q hq)
theorem neOfLt {d : Addr} {l : List (Addr × Obj)} (h : ∀ q ∈ l, q.1 < d) : ∀ q ∈ l, q.1 ≠ d := fun q hq => Nat.ne_of_lt (h q hq)
local macro_rules | `(tactic| walk_at $s:str) => `(tactic| k_extra $s)
local macro_rules | `(tactic| news_mem) => `(tactic| k_extra "m_mem")
local macro_rules | `(tactic| k_all) => `(tactic| with_reducible assumption)
-- M12
section
theorem half_eq {k : Int} (h : k.fmod 2 ≠ 1) : 2 * k.fdiv 2 = k := by
  rw [Int.fmod_eq_emod_of_nonneg _ (by omega)] at h
  rw [Int.fdiv_eq_ediv_of_nonneg _ (by omega)]
  omega
theorem prod_bound {x y : Int} (hx : 0 ≤ x) (hx1 : x < 2 ^ 72) (hy : 0 ≤ y) (hy1 : y < 2 ^ 72) : 0 ≤ x * y ∧ x * y < 2 ^ 150 := by
  refine ⟨Int.mul_nonneg hx hy, ?_⟩
  have : x * y ≤ 2 ^ 72 * 2 ^ 72 := Int.mul_le_mul (by omega) (by omega) hy (by omega)
  omega
theorem wp_facts {b vA vB : Int} {k : Nat} (hb : 4 ≤ b ^ k) (hB : b ^ k < 2 ^ 70) :
    (0 ≤ vA % (b ^ k - 1) ∧ vA % (b ^ k - 1) < b ^ k - 1) ∧ (0 ≤ vB % (b ^ k - 1) ∧ vB % (b ^ k - 1) < b ^ k - 1) ∧ (0 ≤ vA % (b ^ k + 1) ∧ vA % (b ^ k + 1) < b ^ k + 1) ∧ (0 ≤ vB % (b ^ k + 1) ∧ vB % (b ^ k + 1) < b ^ k + 1) ∧
    (0 ≤ vA % (b ^ k - 1) * (vB % (b ^ k - 1)) ∧ vA % (b ^ k - 1) * (vB % (b ^ k - 1)) < 2 ^ 150) ∧ (0 ≤ vA % (b ^ k + 1) * (vB % (b ^ k + 1)) ∧ vA % (b ^ k + 1) * (vB % (b ^ k + 1)) < 2 ^ 150) := by
  have a0 := Int.emod_nonneg vA (show b ^ k - 1 ≠ 0 by omega)
  have a1 := Int.emod_lt_of_pos vA (show 0 < b ^ k - 1 by omega)
  have b0 := Int.emod_nonneg vB (show b ^ k - 1 ≠ 0 by omega)
  have b1 := Int.emod_lt_of_pos vB (show 0 < b ^ k - 1 by omega)
  have c0 := Int.emod_nonneg vA (show b ^ k + 1 ≠ 0 by omega)
  have c1 := Int.emod_lt_of_pos vA (show 0 < b ^ k + 1 by omega)
  have d0 := Int.emod_nonneg vB (show b ^ k + 1 ≠ 0 by omega)
  have d1 := Int.emod_lt_of_pos vB (show 0 < b ^ k + 1 by omega)
  exact ⟨⟨a0, a1⟩, ⟨b0, b1⟩, ⟨c0, c1⟩, ⟨d0, d1⟩, prod_bound a0 (by omega) b0 (by omega), prod_bound c0 (by omega) d0 (by omega)⟩
theorem wp_half {b : Int} (hb : 2 ≤ b) {k : Int} (hk : 0 ≤ k.fdiv 2) (he : 2 * k.fdiv 2 = k) (hB : b ^ k.toNat < 2 ^ 70) : b ^ (k.fdiv 2).toNat < 2 ^ 70 := by
  have := pow_le_pow' (show 1 ≤ b by omega) (show (k.fdiv 2).toNat ≤ k.toNat by omega)
  omega
end
-- M13
section
theorem pw56 {w x : Int} (h1 : 2 ≤ w) (h2 : w ≤ 7) (h3 : 0 ≤ x) (h4 : x < 9) : 0 ≤ w * x ∧ w * x ≤ 56 ∧ 0 < (2 : Int) ^ (w * x).toNat ∧ (2 : Int) ^ (w * x).toNat ≤ 2 ^ 56 := by
  have a := Int.mul_nonneg (show 0 ≤ w by omega) h3
  have b : w * x ≤ 7 * 8 := Int.mul_le_mul h2 (by omega) h3 (by omega)
  exact ⟨a, by omega, twoPos _, pow_le_pow' (by omega) (by omega)⟩
theorem pw7 {w : Int} (h1 : 2 ≤ w) (h2 : w ≤ 7) : 4 ≤ (2 : Int) ^ w.toNat ∧ (2 : Int) ^ w.toNat ≤ 128 := by
  have a := pow_le_pow' (b := 2) (by omega) (show 2 ≤ w.toNat by omega)
  have b := pow_le_pow' (b := 2) (by omega) (show w.toNat ≤ 7 by omega)
  exact ⟨a, b⟩
noncomputable def NumInv (b : Int) (c0 : Int) (i : Nat) (f c : Int) : Prop := 0 ≤ f ∧ f < b ^ i ∧ i ≤ 8 ∧ 0 ≤ c ∧ c ≤ c0 + 2 + (i : Int)
theorem num_bound {w : Int} (h1 : 2 ≤ w) (h2 : w ≤ 7) {c0 f c : Int} {i : Nat} (h : NumInv (2 ^ w.toNat) c0 i f c) : 0 ≤ f ∧ f < 2 ^ 56 + 1 ∧ 0 ≤ c ∧ c ≤ c0 + 10 := by
  obtain ⟨a, b, d, e, g⟩ := h
  have : ((2 : Int) ^ w.toNat) ^ i ≤ 2 ^ 56 := by
    rw [← Int.pow_mul]
    refine pow_le_pow' (by omega) ?_
    have := Nat.mul_le_mul (show w.toNat ≤ 7 by omega) d
    omega
  omega
theorem num_start {b c0 c : Int} (h0 : 0 ≤ c) (h1 : c ≤ c0 + 2) : NumInv b c0 0 0 c := ⟨by omega, by simp, by omega, h0, by omega⟩
theorem num_step {b c0 f c x : Int} {i : Nat} (hb : 0 < b) (h : NumInv b c0 i f c) (hi : i < 8) (h0 : 0 ≤ x) (h1 : x < b) : NumInv b c0 (i + 1) (f * b + x) (c + 1) := by
  obtain ⟨a, d, _, e, g⟩ := h
  have m0 := Int.mul_nonneg a (show 0 ≤ b by omega)
  have m1 : (f + 1) * b ≤ b ^ i * b := Int.mul_le_mul_of_nonneg_right (by omega) (by omega)
  rw [Int.add_mul, Int.one_mul] at m1
  exact ⟨by omega, by rw [Int.pow_succ]; omega, by omega, by omega, by omega⟩
end
-- F_law_got
section

theorem law_got_spec {w : World} {mean : ExcName → Option Value} {mg mb : Str → Option Value} {dp un : Nat} {gd : Option (List Code)} {cn : Str} {cs : Scope} {a : Addr} {ccd : Value} {cl : List (Str × Addr)} {outer : List Env} {A₀ : Around} {base h₀ : Heap} {L : Addr} {m : Str → Option Value} {s : Shared} {Q E : Value → Shared → Prop}
  (kB : Below A₀ base outer h₀) (kF : Fr h₀ L s.heap m) (kX : (KK w.params).In h₀)  (kT : Top topProg LOOSE mean mg mb h₀) (hk : cs.kind = .function) (hdp : dp + 2 < recursionLimit) (hun : un + 16 < cLine)
 
  {many : Int} {tmany : Tok}
  {lj lk : Addr} {c : Int} {tc : Tok} {nj : Nat} {rest : List (Addr × Obj)} {ks : List Value} {ki : List Int} {nk : Nat} (kN : News h₀ L s.heap ((lj, listOf #[Value.int c tc, Value.ref lk] nj) :: rest)) (hne : ∀ q ∈ rest, q.1 ≠ lj) (hmk : (lk, listOf ks.toArray nk) ∈ rest) (hik : IntsAre ks ki) (hkl : ki.length < 1000) (hc0 : 0 ≤ c) (hc1 : c < 2 ^ 55) (hm0 : 1 ≤ many) (hm1 : many < 2 ^ 60)
  (hret : ∀ (x : Int) (t t' : Tok) (n' : Nat) (h' : Heap) (tk' : Nat), 0 ≤ x → x < many → Fr h₀ L h' m → News h₀ L h' ((lj, listOf #[Value.int (c + 1) t', Value.ref lk] n') :: rest) → Q (.int x t) { s with heap := h', toks := tk' }) :
  wpAny (model PySem.Challenge.rw_rr0057_01.row.prog w) (ktrTop dp un gd cn cs L a ccd cl outer) (call (.ref 214) [.ref lj, .int many tmany]) Q E s := by
  w_top off
  k_with_none
  k_with "m_mem" => (first | assumption | exact List.Mem.head _ | (refine List.Mem.tail _ ?_; k_extra "m_mem") | (refine List.mem_append.mpr (Or.inl ?_); k_extra "m_mem") | (refine List.mem_append.mpr (Or.inr ?_); k_extra "m_mem"))
  k_with "m_sub" => (first | exact fun _ h9 => h9 | exact List.forall_mem_nil _ | exact List.forall_mem_cons.mpr ⟨by k_extra "m_mem", by k_extra "m_sub"⟩ | exact List.forall_mem_append.mpr ⟨by k_extra "m_sub", by k_extra "m_sub"⟩ | (intro q9 h9; k_extra "m_mem"))
  k_with "m_lt" => (first | assumption | exact allLtOf (by assumption) | exact ltSub (by assumption) (by k_extra "m_sub") | (rename _ ∧ AllLt _ _ => l9; exact allLtOf l9.2) | (rename _ ∧ _ ∧ AllLt _ _ => l9; exact allLtOf l9.2.2) | (rename _ ∧ _ ∧ _ ∧ AllLt _ _ => l9; exact allLtOf l9.2.2.2) | (rename _ ∧ _ ∧ _ ∧ _ ∧ AllLt _ _ => l9; exact allLtOf l9.2.2.2.2))
  k_with "m_ne" => exact neOfLt (by k_extra "m_lt")
  k_with "m_keep" => (first | exact List.forall_mem_nil _ | (refine List.forall_mem_cons.mpr ⟨(by exact rfl), ?_⟩; k_extra "m_keep"))
  k_with "pyIter ref" => k_dflt (k_extra "loop")
  k_with "exec For Name Call cons nil" => (k_here; (rename Fr _ _ _ _ => lF'); (with_unfolding_all refine' For_invVF lF' (by exact rfl) (by exact rfl) ?_; k_whole))
  k_with "exec For Name Name cons nil" => (k_here; (rename Fr _ _ _ _ => lF'); (with_unfolding_all refine' For_invVF lF' (by exact rfl) (by exact rfl) ?_; k_whole))
  k_with "exec While" => k_dflt (k_extra "while")
  k_with "exec While Compare cons nil" => k_dflt (k_extra "while")
  k_with "exec While Compare" => k_dflt (k_extra "while")
  k_with "MPost" => dsimp only [MPost]
  k_with "MEnd" => k_dflt (k_extra "turn")
  k_with "m_fit" => (first | omega | (k_extra "fit"; omega))
  k_with "call builtin:list.append" => (k_here; (with_reducible show wpAny _ _ (call (Value.builtin _) [Value.ref _, Value.int _ _]) _ _ _); k_dflt (refine m_append (by k_asm) (by k_asm) (by k_upd) (by l_ints) (by k_extra "m_fit") ?_; k_whole); intro h' F' N'; (try k_sweep))
  k_with "m_fl_end" => refine fl_end (by assumption) (by assumption) (List.Mem.head _) (by k_extra "m_sub") (by k_extra "m_sub") (by first | assumption | exact List.forall_mem_nil _) (by first | assumption | exact fun _ _ => List.forall_mem_nil _) (by l_ints) (by exact rfl) (by k_extra "m_keep") ?_
  k_with "m_small" => exact small_one (by omega) (by omega) (by omega) (by omega)
  k_with "m_room" => ((try simp only [depth_under_make, depth_under_kw, depth_in1, depth_deeper, depth_caller, units_in1, units_deeper, Around.mark_units, units_caller]); dsimp only [ktrTop]; omega)
  k_with "m_units" => ((try simp only [depth_under_make, depth_under_kw, depth_in1, depth_deeper, depth_caller, units_in1, units_deeper, Around.mark_units, units_caller]); dsimp only [ktrTop]; omega)
  k_with "binaryOp Add ref ref" => (k_here; (with_reducible show wpAny _ _ (binaryOp _ (Value.ref _) (Value.ref _)) _ _ _); k_dflt (refine kmk_add_ints (by k_asm) (by k_asm) (by is_list) (by is_list) (by l_ints) (by l_ints) ?_ (by (rw [sizeLine_eq]; (try simp only [List.length_append, List.length_cons, List.length_nil]); omega))); intro D' ws' h' F' N' l1 hI'; (try k_lt l1); (try k_sweep))
  k_with "call ref" => (k_here; k_dflt (k_extra "call"))
  k_with "subscriptTail Name Slice ref ref" => (k_here; (with_reducible show wpAny _ _ (subscriptTail _ (PySem.Expr.Slice _ _ none _) (Value.ref _) (Value.ref _)) _ _ _); k_dflt (refine kmk_slice_ints (by k_asm) (by k_asm) (by is_list) (by kmk_part) (by kmk_part) (by l_ints) (by first | exact kmk_all (by l_ints) | exact kmk_from (by l_ints) (by omega) | exact kmk_upto (by l_ints) (by omega) | exact kmk_run (by l_ints) (by omega) (by omega)) (by kmk_len) ?_ (by with_unfolding_all rfl) (by kmk_pure) (by (refine kmk_sz (by l_ints) ?_; rw [sizeLine_eq]; omega))); intro D' ws' h' F' N' l1 hI' hC' hL'; (try k_lt l1); (try k_sweep))
  k_with "compareOp Eq ref ref" => (k_here; (with_reducible show wpAny _ _ (compareOp CmpOp.Eq (Value.ref _) (Value.ref _)) _ _ _); k_dflt (refine ke_eq_ints (by is_list) (by is_list) (by l_ints) (by l_ints) (by (dsimp only [ktrTop, Around.deeper]; omega)) ?_; k_whole))
  revert kX; k_fill; intro kX
  refine wpAny_call ?_
  k_dflt ktr_enter
  k_steps
  all_goals ((rename Fr _ _ _ _ => F9); (rename News _ _ _ _ => N9); exact hret _ _ _ _ _ _ (fmod_facts (by omega)).1 (fmod_facts (by omega)).2 F9 N9)
end
-- F_law_number
section
theorem off_same {lj : Addr} {o o' : Obj} {rest own : List (Addr × Obj)} (h : ∀ q ∈ (lj, o) :: rest, ∀ p ∈ own, p.1 ≠ q.1) : ∀ q ∈ (lj, o') :: rest, ∀ p ∈ own, p.1 ≠ q.1 :=
  List.forall_mem_cons.mpr ⟨h (lj, o) (.head _), fun q hq => h q (.tail _ hq)⟩
theorem law_number_spec {w : World} {mean : ExcName → Option Value} {mg mb : Str → Option Value} {dp un : Nat} {gd : Option (List Code)} {cn : Str} {cs : Scope} {a : Addr} {ccd : Value} {cl : List (Str × Addr)} {outer : List Env} {A₀ : Around} {base h₀ : Heap} {L : Addr} {m : Str → Option Value} {s : Shared} {Q E : Value → Shared → Prop}
  (kB : Below A₀ base outer h₀) (kF : Fr h₀ L s.heap m) (kX : (KK w.params).In h₀)  (kT : Top topProg LOOSE mean mg mb h₀) (hk : cs.kind = .function) (hdp : dp + 4 < recursionLimit) (hun : un + 32 < cLine)
 
  {w1 : Int} {tw1 : Tok}
  {lj lk : Addr} {c : Int} {tc : Tok} {nj : Nat} {rest : List (Addr × Obj)} {ks : List Value} {ki : List Int} {nk : Nat} (kN : News h₀ L s.heap ((lj, listOf #[Value.int c tc, Value.ref lk] nj) :: rest)) (hne : ∀ q ∈ rest, q.1 ≠ lj) (hmk : (lk, listOf ks.toArray nk) ∈ rest) (hik : IntsAre ks ki) (hkl : ki.length < 1000) (hc0 : 0 ≤ c) (hc1 : c < 2 ^ 50) (h2 : 2 ≤ w1) (h7 : w1 ≤ 7)
  (hret : ∀ (x : Int) (t : Tok) (c' : Int) (t' : Tok) (n' : Nat) (h' : Heap) (tk' : Nat), 0 ≤ x → x < 2 ^ 60 → 0 ≤ c' → c' ≤ c + 12 → Fr h₀ L h' m → News h₀ L h' ((lj, listOf #[Value.int c' t', Value.ref lk] n') :: rest) → Q (.int x t) { s with heap := h', toks := tk' }) :
  wpAny (model PySem.Challenge.rw_rr0057_01.row.prog w) (ktrTop dp un gd cn cs L a ccd cl outer) (call (.ref 233) [.ref lj, .int w1 tw1]) Q E s := by
  w_top off
  k_with_none
  k_with "m_mem" => (first | assumption | exact List.Mem.head _ | (refine List.Mem.tail _ ?_; k_extra "m_mem") | (refine List.mem_append.mpr (Or.inl ?_); k_extra "m_mem") | (refine List.mem_append.mpr (Or.inr ?_); k_extra "m_mem"))
  k_with "m_sub" => (first | exact fun _ h9 => h9 | exact List.forall_mem_nil _ | exact List.forall_mem_cons.mpr ⟨by k_extra "m_mem", by k_extra "m_sub"⟩ | exact List.forall_mem_append.mpr ⟨by k_extra "m_sub", by k_extra "m_sub"⟩ | (intro q9 h9; k_extra "m_mem"))
  k_with "m_lt" => (first | assumption | exact allLtOf (by assumption) | exact ltSub (by assumption) (by k_extra "m_sub") | (rename _ ∧ AllLt _ _ => l9; exact allLtOf l9.2) | (rename _ ∧ _ ∧ AllLt _ _ => l9; exact allLtOf l9.2.2) | (rename _ ∧ _ ∧ _ ∧ AllLt _ _ => l9; exact allLtOf l9.2.2.2) | (rename _ ∧ _ ∧ _ ∧ _ ∧ AllLt _ _ => l9; exact allLtOf l9.2.2.2.2))
  k_with "m_ne" => exact neOfLt (by k_extra "m_lt")
  k_with "m_keep" => (first | exact List.forall_mem_nil _ | (refine List.forall_mem_cons.mpr ⟨(by exact rfl), ?_⟩; k_extra "m_keep"))
  k_with "pyIter ref" => k_dflt (k_extra "loop")
  k_with "exec For Name Call cons nil" => (k_here; (rename Fr _ _ _ _ => lF'); (with_unfolding_all refine' For_invVF lF' (by exact rfl) (by exact rfl) ?_; k_whole))
  k_with "exec For Name Name cons nil" => (k_here; (rename Fr _ _ _ _ => lF'); (with_unfolding_all refine' For_invVF lF' (by exact rfl) (by exact rfl) ?_; k_whole))
  k_with "exec While" => k_dflt (k_extra "while")
  k_with "exec While Compare cons nil" => k_dflt (k_extra "while")
  k_with "exec While Compare" => k_dflt (k_extra "while")
  k_with "MPost" => dsimp only [MPost]
  k_with "MEnd" => k_dflt (k_extra "turn")
  k_with "m_fit" => (first | omega | (k_extra "fit"; omega))
  k_with "call builtin:list.append" => (k_here; (with_reducible show wpAny _ _ (call (Value.builtin _) [Value.ref _, Value.int _ _]) _ _ _); k_dflt (refine m_append (by k_asm) (by k_asm) (by k_upd) (by l_ints) (by k_extra "m_fit") ?_; k_whole); intro h' F' N'; (try k_sweep))
  k_with "m_fl_end" => refine fl_end (by assumption) (by assumption) (List.Mem.head _) (by k_extra "m_sub") (by k_extra "m_sub") (by first | assumption | exact List.forall_mem_nil _) (by first | assumption | exact fun _ _ => List.forall_mem_nil _) (by l_ints) (by exact rfl) (by k_extra "m_keep") ?_
  k_with "m_small" => exact small_one (by omega) (by omega) (by omega) (by omega)
  k_with "m_room" => ((try simp only [depth_under_make, depth_under_kw, depth_in1, depth_deeper, depth_caller, units_in1, units_deeper, Around.mark_units, units_caller]); dsimp only [ktrTop]; omega)
  k_with "m_units" => ((try simp only [depth_under_make, depth_under_kw, depth_in1, depth_deeper, depth_caller, units_in1, units_deeper, Around.mark_units, units_caller]); dsimp only [ktrTop]; omega)
  k_with "binaryOp Add ref ref" => (k_here; (with_reducible show wpAny _ _ (binaryOp _ (Value.ref _) (Value.ref _)) _ _ _); k_dflt (refine kmk_add_ints (by k_asm) (by k_asm) (by is_list) (by is_list) (by l_ints) (by l_ints) ?_ (by (rw [sizeLine_eq]; (try simp only [List.length_append, List.length_cons, List.length_nil]); omega))); intro D' ws' h' F' N' l1 hI'; (try k_lt l1); (try k_sweep))
  k_with "call ref" => (k_here; k_dflt (k_extra "call"))
  k_with "subscriptTail Name Slice ref ref" => (k_here; (with_reducible show wpAny _ _ (subscriptTail _ (PySem.Expr.Slice _ _ none _) (Value.ref _) (Value.ref _)) _ _ _); k_dflt (refine kmk_slice_ints (by k_asm) (by k_asm) (by is_list) (by kmk_part) (by kmk_part) (by l_ints) (by first | exact kmk_all (by l_ints) | exact kmk_from (by l_ints) (by omega) | exact kmk_upto (by l_ints) (by omega) | exact kmk_run (by l_ints) (by omega) (by omega)) (by kmk_len) ?_ (by with_unfolding_all rfl) (by kmk_pure) (by (refine kmk_sz (by l_ints) ?_; rw [sizeLine_eq]; omega))); intro D' ws' h' F' N' l1 hI' hC' hL'; (try k_lt l1); (try k_sweep))
  k_with "compareOp Eq ref ref" => (k_here; (with_reducible show wpAny _ _ (compareOp CmpOp.Eq (Value.ref _) (Value.ref _)) _ _ _); k_dflt (refine ke_eq_ints (by is_list) (by is_list) (by l_ints) (by l_ints) (by (dsimp only [ktrTop, Around.deeper]; omega)) ?_; k_whole))
  revert kX; k_fill; intro kX
  refine wpAny_call ?_
  k_dflt ktr_enter
  have h7b := pw7 h2 h7
  k_with "call" => ((first
    | ((with_reducible show wpAny _ _ (PySem.call (Value.ref 214) _) _ _ _); (rename News _ _ _ _ => N1); refine law_got_spec (by assumption) (by assumption) (by assumption) (by assumption) (by exact rfl) (by dsimp only [ktrTop]; omega) (by dsimp only [ktrTop]; omega) (by exact N1) (by first | assumption | exact hne2) (by k_extra "m_mem") hik hkl (by omega) (by omega) (by omega) (by omega) ?_; intro x9 t9 t8 n9 h9 tk9 hx9 hx8 F9 N9; (try (have hpw := pw56 h2 h7 hx9 (by omega))); (try dsimp only))))
  k_with "turn" => ((refine m_end (_, _, _, _, _) (by assumption) (by assumption) (by k_extra "m_sub") (by k_extra "m_sub") (off_same hd) (by k_extra "m_keep") ?_; exact num_step (by omega) hI (by omega) (by assumption) (by assumption)))
  k_with "loop" => ((
    (rename IsRange _ _ _ _ _ _ _ _ => rgX)
    (rename Fr _ _ _ _ => F1)
    (rename News _ _ _ _ => N1)
    refine m_range (σ := Int × Tok × Int × Tok × Nat) (fun q => (lj, listOf #[Value.int q.2.2.1 q.2.2.2.1, Value.ref lk] q.2.2.2.2) :: rest) (fun q => [("found", Value.int q.1 q.2.1), ("jar", _), ("w", _)]) (fun i q => NumInv (2 ^ w1.toNat) c i q.1 q.2.2.1) (0, _, _, _, _) rfl rgX (by k_extra "m_small") (by exact rangeSize_nat _ _) F1 N1 (by k_extra "m_sub") (by k_extra "m_keep") (num_start (by dsimp only; omega) (by dsimp only; omega)) (fun i x tx q u h tk' own hx hlt hd hI hF hN => ?_) (fun q u h tk' hI hF hN => ?_)
    all_goals (obtain ⟨f, tf, cj, tj, nj9⟩ := q)
    all_goals (have hbd := num_bound h2 h7 hI)
    all_goals (dsimp only at hI hF hN hbd)
    all_goals (try (have hne2 := fl_off hne hd))
    all_goals (try k_fold)))
  k_steps
  all_goals ((rename Fr _ _ _ _ => F9); (rename News _ _ _ _ => N9); first | (refine hret _ _ _ _ _ _ _ ?_ ?_ ?_ ?_ F9 (newsDrop N9 (by k_extra "m_sub")) <;> omega))
end
-- F_need_limbs
section

theorem need_limbs_spec {w : World} {mean : ExcName → Option Value} {mg mb : Str → Option Value} {dp un : Nat} {gd : Option (List Code)} {cn : Str} {cs : Scope} {a : Addr} {ccd : Value} {cl : List (Str × Addr)} {outer : List Env} {A₀ : Around} {base h₀ : Heap} {L : Addr} {m : Str → Option Value} {news : List (Addr × Obj)} {s : Shared} {Q E : Value → Shared → Prop}
  (kB : Below A₀ base outer h₀) (kF : Fr h₀ L s.heap m) (kX : (KK w.params).In h₀) (kN : News h₀ L s.heap news) (kT : Top topProg LOOSE mean mg mb h₀) (hk : cs.kind = .function) (hdp : dp + 1 < recursionLimit) (hun : un + 8 < cLine)
  {k : Int} {tk : Tok}
  (hk0 : 1 ≤ k)
  (hret : ∀ (h' : Heap) (tk' : Nat), Fr h₀ L h' m → News h₀ L h' news → Q .none { s with heap := h', toks := tk' }) :
  wpAny (model PySem.Challenge.rw_rr0057_01.row.prog w) (ktrTop dp un gd cn cs L a ccd cl outer) (call (.ref 123) [.int k tk]) Q E s := by
  w_top off
  k_with_none
  k_with "m_mem" => (first | assumption | exact List.Mem.head _ | (refine List.Mem.tail _ ?_; k_extra "m_mem") | (refine List.mem_append.mpr (Or.inl ?_); k_extra "m_mem") | (refine List.mem_append.mpr (Or.inr ?_); k_extra "m_mem"))
  k_with "m_sub" => (first | exact fun _ h9 => h9 | exact List.forall_mem_nil _ | exact List.forall_mem_cons.mpr ⟨by k_extra "m_mem", by k_extra "m_sub"⟩ | exact List.forall_mem_append.mpr ⟨by k_extra "m_sub", by k_extra "m_sub"⟩ | (intro q9 h9; k_extra "m_mem"))
  k_with "m_lt" => (first | assumption | exact allLtOf (by assumption) | exact ltSub (by assumption) (by k_extra "m_sub") | (rename _ ∧ AllLt _ _ => l9; exact allLtOf l9.2) | (rename _ ∧ _ ∧ AllLt _ _ => l9; exact allLtOf l9.2.2) | (rename _ ∧ _ ∧ _ ∧ AllLt _ _ => l9; exact allLtOf l9.2.2.2) | (rename _ ∧ _ ∧ _ ∧ _ ∧ AllLt _ _ => l9; exact allLtOf l9.2.2.2.2))
  k_with "m_ne" => exact neOfLt (by k_extra "m_lt")
  k_with "m_keep" => (first | exact List.forall_mem_nil _ | (refine List.forall_mem_cons.mpr ⟨(by exact rfl), ?_⟩; k_extra "m_keep"))
  k_with "pyIter ref" => k_dflt (k_extra "loop")
  k_with "exec For Name Call cons nil" => (k_here; (rename Fr _ _ _ _ => lF'); (with_unfolding_all refine' For_invVF lF' (by exact rfl) (by exact rfl) ?_; k_whole))
  k_with "exec For Name Name cons nil" => (k_here; (rename Fr _ _ _ _ => lF'); (with_unfolding_all refine' For_invVF lF' (by exact rfl) (by exact rfl) ?_; k_whole))
  k_with "exec While" => k_dflt (k_extra "while")
  k_with "exec While Compare cons nil" => k_dflt (k_extra "while")
  k_with "exec While Compare" => k_dflt (k_extra "while")
  k_with "MPost" => dsimp only [MPost]
  k_with "MEnd" => k_dflt (k_extra "turn")
  k_with "m_fit" => (first | omega | (k_extra "fit"; omega))
  k_with "call builtin:list.append" => (k_here; (with_reducible show wpAny _ _ (call (Value.builtin _) [Value.ref _, Value.int _ _]) _ _ _); k_dflt (refine m_append (by k_asm) (by k_asm) (by k_upd) (by l_ints) (by k_extra "m_fit") ?_; k_whole); intro h' F' N'; (try k_sweep))
  k_with "m_fl_end" => refine fl_end (by assumption) (by assumption) (List.Mem.head _) (by k_extra "m_sub") (by k_extra "m_sub") (by first | assumption | exact List.forall_mem_nil _) (by first | assumption | exact fun _ _ => List.forall_mem_nil _) (by l_ints) (by exact rfl) (by k_extra "m_keep") ?_
  k_with "m_small" => exact small_one (by omega) (by omega) (by omega) (by omega)
  k_with "m_room" => ((try simp only [depth_under_make, depth_under_kw, depth_in1, depth_deeper, depth_caller, units_in1, units_deeper, Around.mark_units, units_caller]); dsimp only [ktrTop]; omega)
  k_with "m_units" => ((try simp only [depth_under_make, depth_under_kw, depth_in1, depth_deeper, depth_caller, units_in1, units_deeper, Around.mark_units, units_caller]); dsimp only [ktrTop]; omega)
  k_with "binaryOp Add ref ref" => (k_here; (with_reducible show wpAny _ _ (binaryOp _ (Value.ref _) (Value.ref _)) _ _ _); k_dflt (refine kmk_add_ints (by k_asm) (by k_asm) (by is_list) (by is_list) (by l_ints) (by l_ints) ?_ (by (rw [sizeLine_eq]; (try simp only [List.length_append, List.length_cons, List.length_nil]); omega))); intro D' ws' h' F' N' l1 hI'; (try k_lt l1); (try k_sweep))
  k_with "call ref" => (k_here; k_dflt (k_extra "call"))
  k_with "subscriptTail Name Slice ref ref" => (k_here; (with_reducible show wpAny _ _ (subscriptTail _ (PySem.Expr.Slice _ _ none _) (Value.ref _) (Value.ref _)) _ _ _); k_dflt (refine kmk_slice_ints (by k_asm) (by k_asm) (by is_list) (by kmk_part) (by kmk_part) (by l_ints) (by first | exact kmk_all (by l_ints) | exact kmk_from (by l_ints) (by omega) | exact kmk_upto (by l_ints) (by omega) | exact kmk_run (by l_ints) (by omega) (by omega)) (by kmk_len) ?_ (by with_unfolding_all rfl) (by kmk_pure) (by (refine kmk_sz (by l_ints) ?_; rw [sizeLine_eq]; omega))); intro D' ws' h' F' N' l1 hI' hC' hL'; (try k_lt l1); (try k_sweep))
  k_with "compareOp Eq ref ref" => (k_here; (with_reducible show wpAny _ _ (compareOp CmpOp.Eq (Value.ref _) (Value.ref _)) _ _ _); k_dflt (refine ke_eq_ints (by is_list) (by is_list) (by l_ints) (by l_ints) (by (dsimp only [ktrTop, Around.deeper]; omega)) ?_; k_whole))
  revert kX; k_fill; intro kX
  refine wpAny_call ?_
  k_dflt ktr_enter
  k_steps
  all_goals ((rename Fr _ _ _ _ => F9); (rename News _ _ _ _ => N9); first | exact hret _ _ F9 (newsDrop N9 (by k_extra "m_sub")))
end
-- F_normal
section
theorem normal_spec {w : World} {mean : ExcName → Option Value} {mg mb : Str → Option Value} {dp un : Nat} {gd : Option (List Code)} {cn : Str} {cs : Scope} {a : Addr} {ccd : Value} {cl : List (Str × Addr)} {outer : List Env} {A₀ : Around} {base h₀ : Heap} {L : Addr} {m : Str → Option Value} {news : List (Addr × Obj)} {s : Shared} {Q E : Value → Shared → Prop}
  (kB : Below A₀ base outer h₀) (kF : Fr h₀ L s.heap m) (kX : (KK w.params).In h₀) (kN : News h₀ L s.heap news) (kT : Top topProg LOOSE mean mg mb h₀) (hk : cs.kind = .function) (hdp : dp + 1 < recursionLimit) (hun : un + 8 < cLine)
  {lA : Addr} {uA : List Value} {cA : Nat} {A : List Int} (hmA : (lA, listOf uA.toArray cA) ∈ news) (hiA : IntsAre uA A)
  {w1 : Int} (hw : 0 < w1) (hr : InR (2 ^ w1.toNat) A) (hn : A.length < 1000)
  (hret : RetC h₀ L m news s Q (2 ^ w1.toNat) (val (2 ^ w1.toNat) A)) :
  wpAny (model PySem.Challenge.rw_rr0057_01.row.prog w) (ktrTop dp un gd cn cs L a ccd cl outer) (call (.ref 46) [.ref lA]) Q E s := by
  w_top off
  k_with_none
  k_with "m_mem" => (first | assumption | exact List.Mem.head _ | (refine List.Mem.tail _ ?_; k_extra "m_mem") | (refine List.mem_append.mpr (Or.inl ?_); k_extra "m_mem") | (refine List.mem_append.mpr (Or.inr ?_); k_extra "m_mem"))
  k_with "m_sub" => (first | exact fun _ h9 => h9 | exact List.forall_mem_nil _ | exact List.forall_mem_cons.mpr ⟨by k_extra "m_mem", by k_extra "m_sub"⟩ | exact List.forall_mem_append.mpr ⟨by k_extra "m_sub", by k_extra "m_sub"⟩ | (intro q9 h9; k_extra "m_mem"))
  k_with "m_lt" => (first | assumption | exact allLtOf (by assumption) | exact ltSub (by assumption) (by k_extra "m_sub") | (rename _ ∧ AllLt _ _ => l9; exact allLtOf l9.2) | (rename _ ∧ _ ∧ AllLt _ _ => l9; exact allLtOf l9.2.2) | (rename _ ∧ _ ∧ _ ∧ AllLt _ _ => l9; exact allLtOf l9.2.2.2) | (rename _ ∧ _ ∧ _ ∧ _ ∧ AllLt _ _ => l9; exact allLtOf l9.2.2.2.2))
  k_with "m_ne" => exact neOfLt (by k_extra "m_lt")
  k_with "m_keep" => (first | exact List.forall_mem_nil _ | (refine List.forall_mem_cons.mpr ⟨(by exact rfl), ?_⟩; k_extra "m_keep"))
  k_with "pyIter ref" => k_dflt (k_extra "loop")
  k_with "exec For Name Call cons nil" => (k_here; (rename Fr _ _ _ _ => lF'); (with_unfolding_all refine' For_invVF lF' (by exact rfl) (by exact rfl) ?_; k_whole))
  k_with "exec For Name Name cons nil" => (k_here; (rename Fr _ _ _ _ => lF'); (with_unfolding_all refine' For_invVF lF' (by exact rfl) (by exact rfl) ?_; k_whole))
  k_with "exec While" => k_dflt (k_extra "while")
  k_with "exec While Compare cons nil" => k_dflt (k_extra "while")
  k_with "exec While Compare" => k_dflt (k_extra "while")
  k_with "MPost" => dsimp only [MPost]
  k_with "MEnd" => k_dflt (k_extra "turn")
  k_with "m_fit" => (first | omega | (k_extra "fit"; omega))
  k_with "call builtin:list.append" => (k_here; (with_reducible show wpAny _ _ (call (Value.builtin _) [Value.ref _, Value.int _ _]) _ _ _); k_dflt (refine m_append (by k_asm) (by k_asm) (by k_upd) (by l_ints) (by k_extra "m_fit") ?_; k_whole); intro h' F' N'; (try k_sweep))
  k_with "m_fl_end" => refine fl_end (by assumption) (by assumption) (List.Mem.head _) (by k_extra "m_sub") (by k_extra "m_sub") (by first | assumption | exact List.forall_mem_nil _) (by first | assumption | exact fun _ _ => List.forall_mem_nil _) (by l_ints) (by exact rfl) (by k_extra "m_keep") ?_
  k_with "m_small" => exact small_one (by omega) (by omega) (by omega) (by omega)
  k_with "m_room" => ((try simp only [depth_under_make, depth_under_kw, depth_in1, depth_deeper, depth_caller, units_in1, units_deeper, Around.mark_units, units_caller]); dsimp only [ktrTop]; omega)
  k_with "m_units" => ((try simp only [depth_under_make, depth_under_kw, depth_in1, depth_deeper, depth_caller, units_in1, units_deeper, Around.mark_units, units_caller]); dsimp only [ktrTop]; omega)
  k_with "binaryOp Add ref ref" => (k_here; (with_reducible show wpAny _ _ (binaryOp _ (Value.ref _) (Value.ref _)) _ _ _); k_dflt (refine kmk_add_ints (by k_asm) (by k_asm) (by is_list) (by is_list) (by l_ints) (by l_ints) ?_ (by (rw [sizeLine_eq]; (try simp only [List.length_append, List.length_cons, List.length_nil]); omega))); intro D' ws' h' F' N' l1 hI'; (try k_lt l1); (try k_sweep))
  k_with "call ref" => (k_here; k_dflt (k_extra "call"))
  k_with "subscriptTail Name Slice ref ref" => (k_here; (with_reducible show wpAny _ _ (subscriptTail _ (PySem.Expr.Slice _ _ none _) (Value.ref _) (Value.ref _)) _ _ _); k_dflt (refine kmk_slice_ints (by k_asm) (by k_asm) (by is_list) (by kmk_part) (by kmk_part) (by l_ints) (by first | exact kmk_all (by l_ints) | exact kmk_from (by l_ints) (by omega) | exact kmk_upto (by l_ints) (by omega) | exact kmk_run (by l_ints) (by omega) (by omega)) (by kmk_len) ?_ (by with_unfolding_all rfl) (by kmk_pure) (by (refine kmk_sz (by l_ints) ?_; rw [sizeLine_eq]; omega))); intro D' ws' h' F' N' l1 hI' hC' hL'; (try k_lt l1); (try k_sweep))
  k_with "compareOp Eq ref ref" => (k_here; (with_reducible show wpAny _ _ (compareOp CmpOp.Eq (Value.ref _) (Value.ref _)) _ _ _); k_dflt (refine ke_eq_ints (by is_list) (by is_list) (by l_ints) (by l_ints) (by (dsimp only [ktrTop, Around.deeper]; omega)) ?_; k_whole))
  revert kX; k_fill; intro kX
  refine wpAny_call ?_
  k_dflt ktr_enter
  k_steps
  all_goals ((rename (_ : Int) ≤ (A.length : Int) => q1); (rename min (A.length : Int) 0 ≤ _ => q2); (rename ∀ j : Int, _ < j → j ≤ (A.length : Int) → _ => q3); (rename (if 0 < _ then _ else false) = false => q4); (rename Fr _ _ _ _ => F9); (rename News _ _ _ _ => N9); exact hret _ _ _ _ _ _ F9 (newsDrop N9 (by k_extra "m_sub")) (by l_ints) (normal_auto hr q1 q2 q3 q4) (by k_extra "m_lt"))
end
-- F_add
section

theorem add_spec {w : World} {mean : ExcName → Option Value} {mg mb : Str → Option Value} {dp un : Nat} {gd : Option (List Code)} {cn : Str} {cs : Scope} {a : Addr} {ccd : Value} {cl : List (Str × Addr)} {outer : List Env} {A₀ : Around} {base h₀ : Heap} {L : Addr} {m : Str → Option Value} {news : List (Addr × Obj)} {s : Shared} {Q E : Value → Shared → Prop}
  (kB : Below A₀ base outer h₀) (kF : Fr h₀ L s.heap m) (kX : (KK w.params).In h₀) (kN : News h₀ L s.heap news) (kT : Top topProg LOOSE mean mg mb h₀) (hk : cs.kind = .function) (hdp : dp + 1 < recursionLimit) (hun : un + 8 < cLine)
  {w1 : Int} (hw : 0 < w1) (hw2 : w1 < 60)
  {lA : Addr} {uA : List Value} {cA : Nat} {A : List Int} {vA : Int} (hmA : (lA, listOf uA.toArray cA) ∈ news) (hiA : IntsAre uA A) (hcA : Can (2 ^ w1.toNat) A vA) (hvA : vA < 2 ^ 200)
  {lB : Addr} {uB : List Value} {cB : Nat} {B : List Int} {vB : Int} (hmB : (lB, listOf uB.toArray cB) ∈ news) (hiB : IntsAre uB B) (hcB : Can (2 ^ w1.toNat) B vB) (hvB : vB < 2 ^ 200)
  {tw : Tok}
  
  (hret : RetC h₀ L m news s Q (2 ^ w1.toNat) (vA + vB)) :
  wpAny (model PySem.Challenge.rw_rr0057_01.row.prog w) (ktrTop dp un gd cn cs L a ccd cl outer) (call (.ref 74) [.ref lA, .ref lB, .int w1 tw]) Q E s := by
  have hnA : A.length < 1000 := Nat.lt_of_le_of_lt (can_len (base_ge hw) hcA hvA) (by decide)
  have hnB : B.length < 1000 := Nat.lt_of_le_of_lt (can_len (base_ge hw) hcB hvB) (by decide)
  w_top off
  k_with_none
  k_with "m_mem" => (first | assumption | exact List.Mem.head _ | (refine List.Mem.tail _ ?_; k_extra "m_mem") | (refine List.mem_append.mpr (Or.inl ?_); k_extra "m_mem") | (refine List.mem_append.mpr (Or.inr ?_); k_extra "m_mem"))
  k_with "m_sub" => (first | exact fun _ h9 => h9 | exact List.forall_mem_nil _ | exact List.forall_mem_cons.mpr ⟨by k_extra "m_mem", by k_extra "m_sub"⟩ | exact List.forall_mem_append.mpr ⟨by k_extra "m_sub", by k_extra "m_sub"⟩ | (intro q9 h9; k_extra "m_mem"))
  k_with "m_lt" => (first | assumption | exact allLtOf (by assumption) | exact ltSub (by assumption) (by k_extra "m_sub") | (rename _ ∧ AllLt _ _ => l9; exact allLtOf l9.2) | (rename _ ∧ _ ∧ AllLt _ _ => l9; exact allLtOf l9.2.2) | (rename _ ∧ _ ∧ _ ∧ AllLt _ _ => l9; exact allLtOf l9.2.2.2) | (rename _ ∧ _ ∧ _ ∧ _ ∧ AllLt _ _ => l9; exact allLtOf l9.2.2.2.2))
  k_with "m_ne" => exact neOfLt (by k_extra "m_lt")
  k_with "m_keep" => (first | exact List.forall_mem_nil _ | (refine List.forall_mem_cons.mpr ⟨(by exact rfl), ?_⟩; k_extra "m_keep"))
  k_with "pyIter ref" => k_dflt (k_extra "loop")
  k_with "exec For Name Call cons nil" => (k_here; (rename Fr _ _ _ _ => lF'); (with_unfolding_all refine' For_invVF lF' (by exact rfl) (by exact rfl) ?_; k_whole))
  k_with "exec For Name Name cons nil" => (k_here; (rename Fr _ _ _ _ => lF'); (with_unfolding_all refine' For_invVF lF' (by exact rfl) (by exact rfl) ?_; k_whole))
  k_with "exec While" => k_dflt (k_extra "while")
  k_with "exec While Compare cons nil" => k_dflt (k_extra "while")
  k_with "exec While Compare" => k_dflt (k_extra "while")
  k_with "MPost" => dsimp only [MPost]
  k_with "MEnd" => k_dflt (k_extra "turn")
  k_with "m_fit" => (first | omega | (k_extra "fit"; omega))
  k_with "call builtin:list.append" => (k_here; (with_reducible show wpAny _ _ (call (Value.builtin _) [Value.ref _, Value.int _ _]) _ _ _); k_dflt (refine m_append (by k_asm) (by k_asm) (by k_upd) (by l_ints) (by k_extra "m_fit") ?_; k_whole); intro h' F' N'; (try k_sweep))
  k_with "m_fl_end" => refine fl_end (by assumption) (by assumption) (List.Mem.head _) (by k_extra "m_sub") (by k_extra "m_sub") (by first | assumption | exact List.forall_mem_nil _) (by first | assumption | exact fun _ _ => List.forall_mem_nil _) (by l_ints) (by exact rfl) (by k_extra "m_keep") ?_
  k_with "m_small" => exact small_one (by omega) (by omega) (by omega) (by omega)
  k_with "m_room" => ((try simp only [depth_under_make, depth_under_kw, depth_in1, depth_deeper, depth_caller, units_in1, units_deeper, Around.mark_units, units_caller]); dsimp only [ktrTop]; omega)
  k_with "m_units" => ((try simp only [depth_under_make, depth_under_kw, depth_in1, depth_deeper, depth_caller, units_in1, units_deeper, Around.mark_units, units_caller]); dsimp only [ktrTop]; omega)
  k_with "binaryOp Add ref ref" => (k_here; (with_reducible show wpAny _ _ (binaryOp _ (Value.ref _) (Value.ref _)) _ _ _); k_dflt (refine kmk_add_ints (by k_asm) (by k_asm) (by is_list) (by is_list) (by l_ints) (by l_ints) ?_ (by (rw [sizeLine_eq]; (try simp only [List.length_append, List.length_cons, List.length_nil]); omega))); intro D' ws' h' F' N' l1 hI'; (try k_lt l1); (try k_sweep))
  k_with "call ref" => (k_here; k_dflt (k_extra "call"))
  k_with "subscriptTail Name Slice ref ref" => (k_here; (with_reducible show wpAny _ _ (subscriptTail _ (PySem.Expr.Slice _ _ none _) (Value.ref _) (Value.ref _)) _ _ _); k_dflt (refine kmk_slice_ints (by k_asm) (by k_asm) (by is_list) (by kmk_part) (by kmk_part) (by l_ints) (by first | exact kmk_all (by l_ints) | exact kmk_from (by l_ints) (by omega) | exact kmk_upto (by l_ints) (by omega) | exact kmk_run (by l_ints) (by omega) (by omega)) (by kmk_len) ?_ (by with_unfolding_all rfl) (by kmk_pure) (by (refine kmk_sz (by l_ints) ?_; rw [sizeLine_eq]; omega))); intro D' ws' h' F' N' l1 hI' hC' hL'; (try k_lt l1); (try k_sweep))
  k_with "compareOp Eq ref ref" => (k_here; (with_reducible show wpAny _ _ (compareOp CmpOp.Eq (Value.ref _) (Value.ref _)) _ _ _); k_dflt (refine ke_eq_ints (by is_list) (by is_list) (by l_ints) (by l_ints) (by (dsimp only [ktrTop, Around.deeper]; omega)) ?_; k_whole))
  revert kX; k_fill; intro kX
  refine wpAny_call ?_
  k_dflt ktr_enter
  have hrA := hcA.1
  have hrB := hcB.1
  k_with "fit" => have h9 := AddInv.len (by assumption)
  k_with "turn" => ((k_extra "m_fl_end"; (rename AddInv _ _ _ _ _ _ => hI9); first | exact add_step1 hrA hrB hI9 (by assumption) (by omega) (by omega) | exact add_step1' hrA hrB hI9 (by assumption) (by omega) (by omega) | exact add_step2 hrA hI9 (by assumption) (by omega) | exact add_step2' hrB hI9 (by assumption) (by omega)))
  k_with "loop" => ((
    (rename IsRange _ _ _ _ _ _ _ _ => rgX)
    (rename Fr _ _ _ _ => F1)
    (rename News _ _ _ _ => N1)
    (rename AddInv _ _ _ _ _ _ => hI0)
    refine fl_range (base := news) (y := "carry") [("found", _), ("mask", _), ("a", _), ("b", _), ("w", _)] (fun i F c => AddInv (2 ^ w1.toNat) A B (min A.length B.length + i) c F) rfl rgX (by k_extra "m_small") rfl F1 N1 (by exact rfl) (by k_extra "m_keep") (by k_extra "m_mem") (by k_extra "m_sub") (by k_extra "m_ne") (by l_ints) (AddInv.at hI0 (by omega)) ?_ ?_
    all_goals (intros; try k_fold)))
  k_with "loop" => ((
    (rename IsRange _ _ _ _ _ _ _ _ => rgX)
    (rename Fr _ _ _ _ => F1)
    (rename News _ _ _ _ => N1)
    fail_if_success (rename AddInv _ _ _ _ _ _ => hI0)
    refine fl_range (base := news) (y := "carry") [("found", _), ("mask", _), ("a", _), ("b", _), ("w", _)] (fun i F c => AddInv (2 ^ w1.toNat) A B i c F) rfl rgX (by k_extra "m_small") rfl F1 N1 (by exact rfl) (by k_extra "m_keep") (by k_extra "m_mem") (by k_extra "m_sub") (by k_extra "m_ne") (by l_ints) addInv_start ?_ ?_
    all_goals (intros; try k_fold)))
  k_steps
  all_goals ((rename AddInv _ _ _ _ _ _ => hI9); have hE := add_endA (base_ge hw) hcA hcB hI9 (by omega); (rename Fr _ _ _ _ => F9); (rename News _ _ _ _ => N9); (first | exact hret _ _ _ _ _ _ F9 (newsDrop N9 (by k_extra "m_sub")) (by l_ints) (hE.1 (by assumption)) (by k_extra "m_lt") | exact hret _ _ _ _ _ _ F9 (newsDrop N9 (by k_extra "m_sub")) (by l_ints) (hE.2 (by assumption)) (by k_extra "m_lt")))
end
-- F_fold_minus
section
theorem fold_minus_spec {w : World} {mean : ExcName → Option Value} {mg mb : Str → Option Value} {dp un : Nat} {gd : Option (List Code)} {cn : Str} {cs : Scope} {a : Addr} {ccd : Value} {cl : List (Str × Addr)} {outer : List Env} {A₀ : Around} {base h₀ : Heap} {L : Addr} {m : Str → Option Value} {news : List (Addr × Obj)} {s : Shared} {Q E : Value → Shared → Prop}
  (kB : Below A₀ base outer h₀) (kF : Fr h₀ L s.heap m) (kX : (KK w.params).In h₀) (kN : News h₀ L s.heap news) (kT : Top topProg LOOSE mean mg mb h₀) (hk : cs.kind = .function) (hdp : dp + 10 < recursionLimit) (hun : un + 80 < cLine)
  {w1 : Int} (hw : 0 < w1) (hw2 : w1 < 60)
  {lA : Addr} {uA : List Value} {cA : Nat} {A : List Int} {vA : Int} (hmA : (lA, listOf uA.toArray cA) ∈ news) (hiA : IntsAre uA A) (hcA : Can (2 ^ w1.toNat) A vA) (hvA : vA < 2 ^ 200)
  {k : Int} {tk : Tok}
  {tw : Tok}
  (hk0 : 1 ≤ k) (hk1 : k < 150)
  (hret : ∀ (r : Addr) (us : List Value) (n : Nat) (res : List Int) (h' : Heap) (tk' : Nat), Fr h₀ L h' m → News h₀ L h' ((r, listOf us.toArray n) :: news) → IntsAre us res → Can (2 ^ w1.toNat) res (vA % ((2 ^ w1.toNat) ^ k.toNat - 1)) → (r = lA ∨ ∀ q ∈ news, q.1 < r) → Q (.ref r) { s with heap := h', toks := tk' }) :
  wpAny (model PySem.Challenge.rw_rr0057_01.row.prog w) (ktrTop dp un gd cn cs L a ccd cl outer) (call (.ref 130) [.ref lA, .int k tk, .int w1 tw]) Q E s := by
  have hB2 := pow_big (base_ge hw) (show 1 ≤ k.toNat by omega)
  have hA0 := can_nonneg (base_ge hw) hcA
  w_top off
  k_with_none
  k_with "m_mem" => (first | assumption | exact List.Mem.head _ | (refine List.Mem.tail _ ?_; k_extra "m_mem") | (refine List.mem_append.mpr (Or.inl ?_); k_extra "m_mem") | (refine List.mem_append.mpr (Or.inr ?_); k_extra "m_mem"))
  k_with "m_sub" => (first | exact fun _ h9 => h9 | exact List.forall_mem_nil _ | exact List.forall_mem_cons.mpr ⟨by k_extra "m_mem", by k_extra "m_sub"⟩ | exact List.forall_mem_append.mpr ⟨by k_extra "m_sub", by k_extra "m_sub"⟩ | (intro q9 h9; k_extra "m_mem"))
  k_with "m_lt" => (first | assumption | exact allLtOf (by assumption) | exact ltSub (by assumption) (by k_extra "m_sub") | (rename _ ∧ AllLt _ _ => l9; exact allLtOf l9.2) | (rename _ ∧ _ ∧ AllLt _ _ => l9; exact allLtOf l9.2.2) | (rename _ ∧ _ ∧ _ ∧ AllLt _ _ => l9; exact allLtOf l9.2.2.2) | (rename _ ∧ _ ∧ _ ∧ _ ∧ AllLt _ _ => l9; exact allLtOf l9.2.2.2.2))
  k_with "m_ne" => exact neOfLt (by k_extra "m_lt")
  k_with "m_keep" => (first | exact List.forall_mem_nil _ | (refine List.forall_mem_cons.mpr ⟨(by exact rfl), ?_⟩; k_extra "m_keep"))
  k_with "pyIter ref" => k_dflt (k_extra "loop")
  k_with "exec For Name Call cons nil" => (k_here; (rename Fr _ _ _ _ => lF'); (with_unfolding_all refine' For_invVF lF' (by exact rfl) (by exact rfl) ?_; k_whole))
  k_with "exec For Name Name cons nil" => (k_here; (rename Fr _ _ _ _ => lF'); (with_unfolding_all refine' For_invVF lF' (by exact rfl) (by exact rfl) ?_; k_whole))
  k_with "exec While" => k_dflt (k_extra "while")
  k_with "exec While Compare cons nil" => k_dflt (k_extra "while")
  k_with "exec While Compare" => k_dflt (k_extra "while")
  k_with "MPost" => dsimp only [MPost]
  k_with "MEnd" => k_dflt (k_extra "turn")
  k_with "m_fit" => (first | omega | (k_extra "fit"; omega))
  k_with "call builtin:list.append" => (k_here; (with_reducible show wpAny _ _ (call (Value.builtin _) [Value.ref _, Value.int _ _]) _ _ _); k_dflt (refine m_append (by k_asm) (by k_asm) (by k_upd) (by l_ints) (by k_extra "m_fit") ?_; k_whole); intro h' F' N'; (try k_sweep))
  k_with "m_fl_end" => refine fl_end (by assumption) (by assumption) (List.Mem.head _) (by k_extra "m_sub") (by k_extra "m_sub") (by first | assumption | exact List.forall_mem_nil _) (by first | assumption | exact fun _ _ => List.forall_mem_nil _) (by l_ints) (by exact rfl) (by k_extra "m_keep") ?_
  k_with "m_small" => exact small_one (by omega) (by omega) (by omega) (by omega)
  k_with "m_room" => ((try simp only [depth_under_make, depth_under_kw, depth_in1, depth_deeper, depth_caller, units_in1, units_deeper, Around.mark_units, units_caller]); dsimp only [ktrTop]; omega)
  k_with "m_units" => ((try simp only [depth_under_make, depth_under_kw, depth_in1, depth_deeper, depth_caller, units_in1, units_deeper, Around.mark_units, units_caller]); dsimp only [ktrTop]; omega)
  k_with "binaryOp Add ref ref" => (k_here; (with_reducible show wpAny _ _ (binaryOp _ (Value.ref _) (Value.ref _)) _ _ _); k_dflt (refine kmk_add_ints (by k_asm) (by k_asm) (by is_list) (by is_list) (by l_ints) (by l_ints) ?_ (by (rw [sizeLine_eq]; (try simp only [List.length_append, List.length_cons, List.length_nil]); omega))); intro D' ws' h' F' N' l1 hI'; (try k_lt l1); (try k_sweep))
  k_with "call ref" => (k_here; k_dflt (k_extra "call"))
  k_with "subscriptTail Name Slice ref ref" => (k_here; (with_reducible show wpAny _ _ (subscriptTail _ (PySem.Expr.Slice _ _ none _) (Value.ref _) (Value.ref _)) _ _ _); k_dflt (refine kmk_slice_ints (by k_asm) (by k_asm) (by is_list) (by kmk_part) (by kmk_part) (by l_ints) (by first | exact kmk_all (by l_ints) | exact kmk_from (by l_ints) (by omega) | exact kmk_upto (by l_ints) (by omega) | exact kmk_run (by l_ints) (by omega) (by omega)) (by kmk_len) ?_ (by with_unfolding_all rfl) (by kmk_pure) (by (refine kmk_sz (by l_ints) ?_; rw [sizeLine_eq]; omega))); intro D' ws' h' F' N' l1 hI' hC' hL'; (try k_lt l1); (try k_sweep))
  k_with "compareOp Eq ref ref" => (k_here; (with_reducible show wpAny _ _ (compareOp CmpOp.Eq (Value.ref _) (Value.ref _)) _ _ _); k_dflt (refine ke_eq_ints (by is_list) (by is_list) (by l_ints) (by l_ints) (by (dsimp only [ktrTop, Around.deeper]; omega)) ?_; k_whole))
  revert kX; k_fill; intro kX
  refine wpAny_call ?_
  k_dflt ktr_enter
  k_with "call" => ((first
    | ((with_reducible show wpAny _ _ (PySem.call (Value.ref 123) _) _ _ _); refine need_limbs_spec (by assumption) (by assumption) (by assumption) (by assumption) (by assumption) (by exact rfl) (by dsimp only [ktrTop]; omega) (by dsimp only [ktrTop]; omega) (by omega) ?_; intro h9 tk9 F9 N9; (try dsimp only))
    | ((with_reducible show wpAny _ _ (PySem.call (Value.ref 46) _) _ _ _); refine normal_spec (by assumption) (by assumption) (by assumption) (by assumption) (by assumption) (by exact rfl) (by dsimp only [ktrTop]; omega) (by dsimp only [ktrTop]; omega) (by k_extra "m_mem") (by l_ints) hw (hc.1.take _) (by rw [List.length_take]; omega) ?_; rw [hd.1]; intro r9 us9 n9 res9 h9 tk9 F9 N9 hi9 hc9 hlt9; (try dsimp only))
    | ((with_reducible show wpAny _ _ (PySem.call (Value.ref 74) _) _ _ _); refine add_spec (by assumption) (by assumption) (by assumption) (by assumption) (by assumption) (by exact rfl) (by dsimp only [ktrTop]; omega) (by dsimp only [ktrTop]; omega) hw hw2 (by k_extra "m_mem") (by l_ints) (by assumption) (by omega) (by k_extra "m_mem") (by l_ints) (by assumption) (by omega) ?_; intro r9 us9 n9 res9 h9 tk9 F9 N9 hi9 hc9 hlt9; (try dsimp only))))
  k_with "turn" => ((have hs := fm_step hB2 hI (fm_big (base_ge hw) hc (k := k.toNat) (by omega)); refine rb_end (by assumption) (by assumption) (by exact rfl) (by k_extra "m_mem") (by k_extra "m_sub") (by l_ints) (by assumption) (by k_extra "m_keep") (Or.inr (by k_extra "m_lt")) hs))
  k_with "while" => ((
    (rename Fr _ _ _ _ => F1)
    (rename News _ _ _ _ => N1)
    refine rb_while (b := 2 ^ w1.toNat) (y := "a") [("ones", _), ("n", _), ("w", _)] (fun l => l = lA ∨ ∀ q ∈ news, q.1 < l) (fun v => FmInv ((2 ^ w1.toNat) ^ k.toNat) vA v) F1 N1 (by exact rfl) (by k_extra "m_mem") (by l_ints) hcA (by k_extra "m_keep") (fun _ h9 => h9) (Or.inl rfl) (fm_start hA0) (fun l us n F v u h tk' hi hc hO hI hF hN => ?_)
    have hv0 := hI.1
    have hv1 := hI.2.1
    have hnF : F.length < 1000 := Nat.lt_of_le_of_lt (can_len (base_ge hw) hc (show v < 2 ^ 200 by omega)) (by decide)
    have hp := fm_parts hB2 hv0
    have hd := can_drop (base_ge hw) hc k.toNat
    have hd2 := hd.2
    all_goals (try k_fold)))
  k_steps
  all_goals ((rename Fr _ _ _ _ => F9); (rename News _ _ _ _ => N9); first
    | (have e := (fm_ones hw hc k.toNat).mp (by assumption); rw [fm_end1 hB2 hI e] at hret; exact hret _ _ _ _ _ _ F9 (newsDrop N9 (by k_extra "m_sub")) (by l_ints) can_nil (Or.inr (by k_extra "m_lt")))
    | (rw [fm_end2 hI (fm_small (base_ge hw) hc (by omega)) (fun q => absurd ((fm_ones hw hc k.toNat).mpr q) (by assumption))] at hret; exact hret _ _ _ _ _ _ F9 (newsDrop N9 (by k_extra "m_sub")) hi hc hO)
   )
end
-- F_lifted
section
theorem lifted_spec {w : World} {mean : ExcName → Option Value} {mg mb : Str → Option Value} {dp un : Nat} {gd : Option (List Code)} {cn : Str} {cs : Scope} {a : Addr} {ccd : Value} {cl : List (Str × Addr)} {outer : List Env} {A₀ : Around} {base h₀ : Heap} {L : Addr} {m : Str → Option Value} {news : List (Addr × Obj)} {s : Shared} {Q E : Value → Shared → Prop}
  (kB : Below A₀ base outer h₀) (kF : Fr h₀ L s.heap m) (kX : (KK w.params).In h₀) (kN : News h₀ L s.heap news) (kT : Top topProg LOOSE mean mg mb h₀) (hk : cs.kind = .function) (hdp : dp + 1 < recursionLimit) (hun : un + 8 < cLine)
  {w1 : Int} (hw : 0 < w1) (hw2 : w1 < 60)
  {lA : Addr} {uA : List Value} {cA : Nat} {A : List Int} {vA : Int} (hmA : (lA, listOf uA.toArray cA) ∈ news) (hiA : IntsAre uA A) (hcA : Can (2 ^ w1.toNat) A vA) (hvA : vA < 2 ^ 200)
  {k : Int} {tk : Tok}
  (hk0 : 0 ≤ k) (hk1 : k < 200)
  (hret : RetC h₀ L m news s Q (2 ^ w1.toNat) (vA * (2 ^ w1.toNat) ^ k.toNat)) :
  wpAny (model PySem.Challenge.rw_rr0057_01.row.prog w) (ktrTop dp un gd cn cs L a ccd cl outer) (call (.ref 88) [.ref lA, .int k tk]) Q E s := by
  have hnA : A.length < 1000 := Nat.lt_of_le_of_lt (can_len (base_ge hw) hcA hvA) (by decide)
  w_top off
  k_with_none
  k_with "m_mem" => (first | assumption | exact List.Mem.head _ | (refine List.Mem.tail _ ?_; k_extra "m_mem") | (refine List.mem_append.mpr (Or.inl ?_); k_extra "m_mem") | (refine List.mem_append.mpr (Or.inr ?_); k_extra "m_mem"))
  k_with "m_sub" => (first | exact fun _ h9 => h9 | exact List.forall_mem_nil _ | exact List.forall_mem_cons.mpr ⟨by k_extra "m_mem", by k_extra "m_sub"⟩ | exact List.forall_mem_append.mpr ⟨by k_extra "m_sub", by k_extra "m_sub"⟩ | (intro q9 h9; k_extra "m_mem"))
  k_with "m_lt" => (first | assumption | exact allLtOf (by assumption) | exact ltSub (by assumption) (by k_extra "m_sub") | (rename _ ∧ AllLt _ _ => l9; exact allLtOf l9.2) | (rename _ ∧ _ ∧ AllLt _ _ => l9; exact allLtOf l9.2.2) | (rename _ ∧ _ ∧ _ ∧ AllLt _ _ => l9; exact allLtOf l9.2.2.2) | (rename _ ∧ _ ∧ _ ∧ _ ∧ AllLt _ _ => l9; exact allLtOf l9.2.2.2.2))
  k_with "m_ne" => exact neOfLt (by k_extra "m_lt")
  k_with "m_keep" => (first | exact List.forall_mem_nil _ | (refine List.forall_mem_cons.mpr ⟨(by exact rfl), ?_⟩; k_extra "m_keep"))
  k_with "pyIter ref" => k_dflt (k_extra "loop")
  k_with "exec For Name Call cons nil" => (k_here; (rename Fr _ _ _ _ => lF'); (with_unfolding_all refine' For_invVF lF' (by exact rfl) (by exact rfl) ?_; k_whole))
  k_with "exec For Name Name cons nil" => (k_here; (rename Fr _ _ _ _ => lF'); (with_unfolding_all refine' For_invVF lF' (by exact rfl) (by exact rfl) ?_; k_whole))
  k_with "exec While" => k_dflt (k_extra "while")
  k_with "exec While Compare cons nil" => k_dflt (k_extra "while")
  k_with "exec While Compare" => k_dflt (k_extra "while")
  k_with "MPost" => dsimp only [MPost]
  k_with "MEnd" => k_dflt (k_extra "turn")
  k_with "m_fit" => (first | omega | (k_extra "fit"; omega))
  k_with "call builtin:list.append" => (k_here; (with_reducible show wpAny _ _ (call (Value.builtin _) [Value.ref _, Value.int _ _]) _ _ _); k_dflt (refine m_append (by k_asm) (by k_asm) (by k_upd) (by l_ints) (by k_extra "m_fit") ?_; k_whole); intro h' F' N'; (try k_sweep))
  k_with "m_fl_end" => refine fl_end (by assumption) (by assumption) (List.Mem.head _) (by k_extra "m_sub") (by k_extra "m_sub") (by first | assumption | exact List.forall_mem_nil _) (by first | assumption | exact fun _ _ => List.forall_mem_nil _) (by l_ints) (by exact rfl) (by k_extra "m_keep") ?_
  k_with "m_small" => exact small_one (by omega) (by omega) (by omega) (by omega)
  k_with "m_room" => ((try simp only [depth_under_make, depth_under_kw, depth_in1, depth_deeper, depth_caller, units_in1, units_deeper, Around.mark_units, units_caller]); dsimp only [ktrTop]; omega)
  k_with "m_units" => ((try simp only [depth_under_make, depth_under_kw, depth_in1, depth_deeper, depth_caller, units_in1, units_deeper, Around.mark_units, units_caller]); dsimp only [ktrTop]; omega)
  k_with "binaryOp Add ref ref" => (k_here; (with_reducible show wpAny _ _ (binaryOp _ (Value.ref _) (Value.ref _)) _ _ _); k_dflt (refine kmk_add_ints (by k_asm) (by k_asm) (by is_list) (by is_list) (by l_ints) (by l_ints) ?_ (by (rw [sizeLine_eq]; (try simp only [List.length_append, List.length_cons, List.length_nil]); omega))); intro D' ws' h' F' N' l1 hI'; (try k_lt l1); (try k_sweep))
  k_with "call ref" => (k_here; k_dflt (k_extra "call"))
  k_with "subscriptTail Name Slice ref ref" => (k_here; (with_reducible show wpAny _ _ (subscriptTail _ (PySem.Expr.Slice _ _ none _) (Value.ref _) (Value.ref _)) _ _ _); k_dflt (refine kmk_slice_ints (by k_asm) (by k_asm) (by is_list) (by kmk_part) (by kmk_part) (by l_ints) (by first | exact kmk_all (by l_ints) | exact kmk_from (by l_ints) (by omega) | exact kmk_upto (by l_ints) (by omega) | exact kmk_run (by l_ints) (by omega) (by omega)) (by kmk_len) ?_ (by with_unfolding_all rfl) (by kmk_pure) (by (refine kmk_sz (by l_ints) ?_; rw [sizeLine_eq]; omega))); intro D' ws' h' F' N' l1 hI' hC' hL'; (try k_lt l1); (try k_sweep))
  k_with "compareOp Eq ref ref" => (k_here; (with_reducible show wpAny _ _ (compareOp CmpOp.Eq (Value.ref _) (Value.ref _)) _ _ _); k_dflt (refine ke_eq_ints (by is_list) (by is_list) (by l_ints) (by l_ints) (by (dsimp only [ktrTop, Around.deeper]; omega)) ?_; k_whole))
  revert kX; k_fill; intro kX
  refine wpAny_call ?_
  k_dflt ktr_enter
  k_steps
  all_goals ((rename Fr _ _ _ _ => F9); (rename News _ _ _ _ => N9); first | exact hret _ _ _ _ _ _ F9 (newsDrop N9 (by k_extra "m_sub")) (by l_ints) (lifted_fin (base_ge hw) hcA (by omega)) (by k_extra "m_lt") | exact hret _ _ _ _ _ _ F9 (newsDrop N9 (by k_extra "m_sub")) (by l_ints) (lifted_fin0 hcA (by omega)) (by k_extra "m_lt"))
end
-- F_compare
section
theorem compare_spec {w : World} {mean : ExcName → Option Value} {mg mb : Str → Option Value} {dp un : Nat} {gd : Option (List Code)} {cn : Str} {cs : Scope} {a : Addr} {ccd : Value} {cl : List (Str × Addr)} {outer : List Env} {A₀ : Around} {base h₀ : Heap} {L : Addr} {m : Str → Option Value} {news : List (Addr × Obj)} {s : Shared} {Q E : Value → Shared → Prop}
  (kB : Below A₀ base outer h₀) (kF : Fr h₀ L s.heap m) (kX : (KK w.params).In h₀) (kN : News h₀ L s.heap news) (kT : Top topProg LOOSE mean mg mb h₀) (hk : cs.kind = .function) (hdp : dp + 1 < recursionLimit) (hun : un + 8 < cLine)
  {w1 : Int} (hw : 0 < w1) (hw2 : w1 < 60)
  {lA : Addr} {uA : List Value} {cA : Nat} {A : List Int} {vA : Int} (hmA : (lA, listOf uA.toArray cA) ∈ news) (hiA : IntsAre uA A) (hcA : Can (2 ^ w1.toNat) A vA) (hvA : vA < 2 ^ 200)
  {lB : Addr} {uB : List Value} {cB : Nat} {B : List Int} {vB : Int} (hmB : (lB, listOf uB.toArray cB) ∈ news) (hiB : IntsAre uB B) (hcB : Can (2 ^ w1.toNat) B vB) (hvB : vB < 2 ^ 200)
  
  (hret : ∀ (c : Int) (t : Tok) (h' : Heap) (tk' : Nat), (c < 0 ↔ vA < vB) → (0 < c ↔ vB < vA) → Fr h₀ L h' m → News h₀ L h' news → Q (.int c t) { s with heap := h', toks := tk' }) :
  wpAny (model PySem.Challenge.rw_rr0057_01.row.prog w) (ktrTop dp un gd cn cs L a ccd cl outer) (call (.ref 67) [.ref lA, .ref lB]) Q E s := by
  have hnA : A.length < 1000 := Nat.lt_of_le_of_lt (can_len (base_ge hw) hcA hvA) (by decide)
  have hnB : B.length < 1000 := Nat.lt_of_le_of_lt (can_len (base_ge hw) hcB hvB) (by decide)
  w_top off
  k_with_none
  k_with "m_mem" => (first | assumption | exact List.Mem.head _ | (refine List.Mem.tail _ ?_; k_extra "m_mem") | (refine List.mem_append.mpr (Or.inl ?_); k_extra "m_mem") | (refine List.mem_append.mpr (Or.inr ?_); k_extra "m_mem"))
  k_with "m_sub" => (first | exact fun _ h9 => h9 | exact List.forall_mem_nil _ | exact List.forall_mem_cons.mpr ⟨by k_extra "m_mem", by k_extra "m_sub"⟩ | exact List.forall_mem_append.mpr ⟨by k_extra "m_sub", by k_extra "m_sub"⟩ | (intro q9 h9; k_extra "m_mem"))
  k_with "m_lt" => (first | assumption | exact allLtOf (by assumption) | exact ltSub (by assumption) (by k_extra "m_sub") | (rename _ ∧ AllLt _ _ => l9; exact allLtOf l9.2) | (rename _ ∧ _ ∧ AllLt _ _ => l9; exact allLtOf l9.2.2) | (rename _ ∧ _ ∧ _ ∧ AllLt _ _ => l9; exact allLtOf l9.2.2.2) | (rename _ ∧ _ ∧ _ ∧ _ ∧ AllLt _ _ => l9; exact allLtOf l9.2.2.2.2))
  k_with "m_ne" => exact neOfLt (by k_extra "m_lt")
  k_with "m_keep" => (first | exact List.forall_mem_nil _ | (refine List.forall_mem_cons.mpr ⟨(by exact rfl), ?_⟩; k_extra "m_keep"))
  k_with "pyIter ref" => k_dflt (k_extra "loop")
  k_with "exec For Name Call cons nil" => (k_here; (rename Fr _ _ _ _ => lF'); (with_unfolding_all refine' For_invVF lF' (by exact rfl) (by exact rfl) ?_; k_whole))
  k_with "exec For Name Name cons nil" => (k_here; (rename Fr _ _ _ _ => lF'); (with_unfolding_all refine' For_invVF lF' (by exact rfl) (by exact rfl) ?_; k_whole))
  k_with "exec While" => k_dflt (k_extra "while")
  k_with "exec While Compare cons nil" => k_dflt (k_extra "while")
  k_with "exec While Compare" => k_dflt (k_extra "while")
  k_with "MPost" => dsimp only [MPost]
  k_with "MEnd" => k_dflt (k_extra "turn")
  k_with "m_fit" => (first | omega | (k_extra "fit"; omega))
  k_with "call builtin:list.append" => (k_here; (with_reducible show wpAny _ _ (call (Value.builtin _) [Value.ref _, Value.int _ _]) _ _ _); k_dflt (refine m_append (by k_asm) (by k_asm) (by k_upd) (by l_ints) (by k_extra "m_fit") ?_; k_whole); intro h' F' N'; (try k_sweep))
  k_with "m_fl_end" => refine fl_end (by assumption) (by assumption) (List.Mem.head _) (by k_extra "m_sub") (by k_extra "m_sub") (by first | assumption | exact List.forall_mem_nil _) (by first | assumption | exact fun _ _ => List.forall_mem_nil _) (by l_ints) (by exact rfl) (by k_extra "m_keep") ?_
  k_with "m_small" => exact small_one (by omega) (by omega) (by omega) (by omega)
  k_with "m_room" => ((try simp only [depth_under_make, depth_under_kw, depth_in1, depth_deeper, depth_caller, units_in1, units_deeper, Around.mark_units, units_caller]); dsimp only [ktrTop]; omega)
  k_with "m_units" => ((try simp only [depth_under_make, depth_under_kw, depth_in1, depth_deeper, depth_caller, units_in1, units_deeper, Around.mark_units, units_caller]); dsimp only [ktrTop]; omega)
  k_with "binaryOp Add ref ref" => (k_here; (with_reducible show wpAny _ _ (binaryOp _ (Value.ref _) (Value.ref _)) _ _ _); k_dflt (refine kmk_add_ints (by k_asm) (by k_asm) (by is_list) (by is_list) (by l_ints) (by l_ints) ?_ (by (rw [sizeLine_eq]; (try simp only [List.length_append, List.length_cons, List.length_nil]); omega))); intro D' ws' h' F' N' l1 hI'; (try k_lt l1); (try k_sweep))
  k_with "call ref" => (k_here; k_dflt (k_extra "call"))
  k_with "subscriptTail Name Slice ref ref" => (k_here; (with_reducible show wpAny _ _ (subscriptTail _ (PySem.Expr.Slice _ _ none _) (Value.ref _) (Value.ref _)) _ _ _); k_dflt (refine kmk_slice_ints (by k_asm) (by k_asm) (by is_list) (by kmk_part) (by kmk_part) (by l_ints) (by first | exact kmk_all (by l_ints) | exact kmk_from (by l_ints) (by omega) | exact kmk_upto (by l_ints) (by omega) | exact kmk_run (by l_ints) (by omega) (by omega)) (by kmk_len) ?_ (by with_unfolding_all rfl) (by kmk_pure) (by (refine kmk_sz (by l_ints) ?_; rw [sizeLine_eq]; omega))); intro D' ws' h' F' N' l1 hI' hC' hL'; (try k_lt l1); (try k_sweep))
  k_with "compareOp Eq ref ref" => (k_here; (with_reducible show wpAny _ _ (compareOp CmpOp.Eq (Value.ref _) (Value.ref _)) _ _ _); k_dflt (refine ke_eq_ints (by is_list) (by is_list) (by l_ints) (by l_ints) (by (dsimp only [ktrTop, Around.deeper]; omega)) ?_; k_whole))
  revert kX; k_fill; intro kX
  refine wpAny_call ?_
  k_dflt ktr_enter
  have hrA := hcA
  have hgt1 := fun h => cmp_len (base_ge hw) hcA hcB h
  have hgt2 := fun h => cmp_len (base_ge hw) hcB hcA h
  k_with "turn" => ((
    (rename CmpInv _ _ _ => hI9)
    refine m_end () (by assumption) (by assumption) (by k_extra "m_sub") (by k_extra "m_sub") (by assumption) (by k_extra "m_keep") ?_
    exact cmp_step hI9 (by omega) (by assumption) (by omega) (by omega)))
  k_with "loop" => ((
    (rename IsRange _ _ _ _ _ _ _ _ => rgX)
    (rename Fr _ _ _ _ => F1)
    (rename News _ _ _ _ => N1)
    refine m_range (σ := Unit) (fun _ => news) (fun _ => [("a", .ref lA), ("b", .ref lB)]) (fun i _ => CmpInv A B i) () rfl rgX (small_down (by omega) (by omega) (by omega) (by omega)) (n := A.length) (by rw [rangeSize_downNat]; omega) F1 N1 (by k_extra "m_sub") (by k_extra "m_keep") (cmp_start (by omega)) ?_ ?_
    all_goals (intros; try k_fold)))
  k_steps
  all_goals ((rename Fr _ _ _ _ => F9); (rename News _ _ _ _ => N9); first
    | (have q := hgt1 (by omega); exact hret _ _ _ _ (by omega) (by omega) F9 (newsDrop N9 (by k_extra "m_sub")))
    | (have q := hgt2 (by omega); exact hret _ _ _ _ (by omega) (by omega) F9 (newsDrop N9 (by k_extra "m_sub")))
    | ((rename CmpInv _ _ _ => hI9); have q := cmp_less (base_ge hw) hcA hcB hI9 (by omega) (by assumption) (by omega) (by omega); exact hret _ _ _ _ (by omega) (by omega) F9 (newsDrop N9 (by k_extra "m_sub")))
    | ((rename CmpInv _ _ _ => hI9); have q := cmp_more (base_ge hw) hcA hcB hI9 (by omega) (by assumption) (by omega) (by assumption) (by assumption); exact hret _ _ _ _ (by omega) (by omega) F9 (newsDrop N9 (by k_extra "m_sub")))
    | ((rename CmpInv _ _ _ => hI9); have q := cmp_end hcA hcB hI9; exact hret _ _ _ _ (by omega) (by omega) F9 (newsDrop N9 (by k_extra "m_sub"))))
end
-- F_sub
section
theorem sub_spec {w : World} {mean : ExcName → Option Value} {mg mb : Str → Option Value} {dp un : Nat} {gd : Option (List Code)} {cn : Str} {cs : Scope} {a : Addr} {ccd : Value} {cl : List (Str × Addr)} {outer : List Env} {A₀ : Around} {base h₀ : Heap} {L : Addr} {m : Str → Option Value} {news : List (Addr × Obj)} {s : Shared} {Q E : Value → Shared → Prop}
  (kB : Below A₀ base outer h₀) (kF : Fr h₀ L s.heap m) (kX : (KK w.params).In h₀) (kN : News h₀ L s.heap news) (kT : Top topProg LOOSE mean mg mb h₀) (hk : cs.kind = .function) (hdp : dp + 2 < recursionLimit) (hun : un + 16 < cLine)
  {w1 : Int} (hw : 0 < w1) (hw2 : w1 < 60)
  {lA : Addr} {uA : List Value} {cA : Nat} {A : List Int} {vA : Int} (hmA : (lA, listOf uA.toArray cA) ∈ news) (hiA : IntsAre uA A) (hcA : Can (2 ^ w1.toNat) A vA) (hvA : vA < 2 ^ 200)
  {lB : Addr} {uB : List Value} {cB : Nat} {B : List Int} {vB : Int} (hmB : (lB, listOf uB.toArray cB) ∈ news) (hiB : IntsAre uB B) (hcB : Can (2 ^ w1.toNat) B vB) (hvB : vB < 2 ^ 200)
  {tw : Tok}
  (hle : vB ≤ vA)
  (hret : RetC h₀ L m news s Q (2 ^ w1.toNat) (vA - vB)) :
  wpAny (model PySem.Challenge.rw_rr0057_01.row.prog w) (ktrTop dp un gd cn cs L a ccd cl outer) (call (.ref 81) [.ref lA, .ref lB, .int w1 tw]) Q E s := by
  have hnA : A.length < 1000 := Nat.lt_of_le_of_lt (can_len (base_ge hw) hcA hvA) (by decide)
  have hnB : B.length < 1000 := Nat.lt_of_le_of_lt (can_len (base_ge hw) hcB hvB) (by decide)
  w_top off
  k_with_none
  k_with "m_mem" => (first | assumption | exact List.Mem.head _ | (refine List.Mem.tail _ ?_; k_extra "m_mem") | (refine List.mem_append.mpr (Or.inl ?_); k_extra "m_mem") | (refine List.mem_append.mpr (Or.inr ?_); k_extra "m_mem"))
  k_with "m_sub" => (first | exact fun _ h9 => h9 | exact List.forall_mem_nil _ | exact List.forall_mem_cons.mpr ⟨by k_extra "m_mem", by k_extra "m_sub"⟩ | exact List.forall_mem_append.mpr ⟨by k_extra "m_sub", by k_extra "m_sub"⟩ | (intro q9 h9; k_extra "m_mem"))
  k_with "m_lt" => (first | assumption | exact allLtOf (by assumption) | exact ltSub (by assumption) (by k_extra "m_sub") | (rename _ ∧ AllLt _ _ => l9; exact allLtOf l9.2) | (rename _ ∧ _ ∧ AllLt _ _ => l9; exact allLtOf l9.2.2) | (rename _ ∧ _ ∧ _ ∧ AllLt _ _ => l9; exact allLtOf l9.2.2.2) | (rename _ ∧ _ ∧ _ ∧ _ ∧ AllLt _ _ => l9; exact allLtOf l9.2.2.2.2))
  k_with "m_ne" => exact neOfLt (by k_extra "m_lt")
  k_with "m_keep" => (first | exact List.forall_mem_nil _ | (refine List.forall_mem_cons.mpr ⟨(by exact rfl), ?_⟩; k_extra "m_keep"))
  k_with "pyIter ref" => k_dflt (k_extra "loop")
  k_with "exec For Name Call cons nil" => (k_here; (rename Fr _ _ _ _ => lF'); (with_unfolding_all refine' For_invVF lF' (by exact rfl) (by exact rfl) ?_; k_whole))
  k_with "exec For Name Name cons nil" => (k_here; (rename Fr _ _ _ _ => lF'); (with_unfolding_all refine' For_invVF lF' (by exact rfl) (by exact rfl) ?_; k_whole))
  k_with "exec While" => k_dflt (k_extra "while")
  k_with "exec While Compare cons nil" => k_dflt (k_extra "while")
  k_with "exec While Compare" => k_dflt (k_extra "while")
  k_with "MPost" => dsimp only [MPost]
  k_with "MEnd" => k_dflt (k_extra "turn")
  k_with "m_fit" => (first | omega | (k_extra "fit"; omega))
  k_with "call builtin:list.append" => (k_here; (with_reducible show wpAny _ _ (call (Value.builtin _) [Value.ref _, Value.int _ _]) _ _ _); k_dflt (refine m_append (by k_asm) (by k_asm) (by k_upd) (by l_ints) (by k_extra "m_fit") ?_; k_whole); intro h' F' N'; (try k_sweep))
  k_with "m_fl_end" => refine fl_end (by assumption) (by assumption) (List.Mem.head _) (by k_extra "m_sub") (by k_extra "m_sub") (by first | assumption | exact List.forall_mem_nil _) (by first | assumption | exact fun _ _ => List.forall_mem_nil _) (by l_ints) (by exact rfl) (by k_extra "m_keep") ?_
  k_with "m_small" => exact small_one (by omega) (by omega) (by omega) (by omega)
  k_with "m_room" => ((try simp only [depth_under_make, depth_under_kw, depth_in1, depth_deeper, depth_caller, units_in1, units_deeper, Around.mark_units, units_caller]); dsimp only [ktrTop]; omega)
  k_with "m_units" => ((try simp only [depth_under_make, depth_under_kw, depth_in1, depth_deeper, depth_caller, units_in1, units_deeper, Around.mark_units, units_caller]); dsimp only [ktrTop]; omega)
  k_with "binaryOp Add ref ref" => (k_here; (with_reducible show wpAny _ _ (binaryOp _ (Value.ref _) (Value.ref _)) _ _ _); k_dflt (refine kmk_add_ints (by k_asm) (by k_asm) (by is_list) (by is_list) (by l_ints) (by l_ints) ?_ (by (rw [sizeLine_eq]; (try simp only [List.length_append, List.length_cons, List.length_nil]); omega))); intro D' ws' h' F' N' l1 hI'; (try k_lt l1); (try k_sweep))
  k_with "call ref" => (k_here; k_dflt (k_extra "call"))
  k_with "subscriptTail Name Slice ref ref" => (k_here; (with_reducible show wpAny _ _ (subscriptTail _ (PySem.Expr.Slice _ _ none _) (Value.ref _) (Value.ref _)) _ _ _); k_dflt (refine kmk_slice_ints (by k_asm) (by k_asm) (by is_list) (by kmk_part) (by kmk_part) (by l_ints) (by first | exact kmk_all (by l_ints) | exact kmk_from (by l_ints) (by omega) | exact kmk_upto (by l_ints) (by omega) | exact kmk_run (by l_ints) (by omega) (by omega)) (by kmk_len) ?_ (by with_unfolding_all rfl) (by kmk_pure) (by (refine kmk_sz (by l_ints) ?_; rw [sizeLine_eq]; omega))); intro D' ws' h' F' N' l1 hI' hC' hL'; (try k_lt l1); (try k_sweep))
  k_with "compareOp Eq ref ref" => (k_here; (with_reducible show wpAny _ _ (compareOp CmpOp.Eq (Value.ref _) (Value.ref _)) _ _ _); k_dflt (refine ke_eq_ints (by is_list) (by is_list) (by l_ints) (by l_ints) (by (dsimp only [ktrTop, Around.deeper]; omega)) ?_; k_whole))
  revert kX; k_fill; intro kX
  refine wpAny_call ?_
  k_dflt ktr_enter
  have hrA := hcA.1
  have hrB := hcB.1
  k_with "fit" => have h9 := SubInv.len (by assumption)
  k_with "call" => ((first
    | (refine compare_spec (by assumption) (by assumption) (by assumption) (by assumption) (by assumption) (by exact rfl) (by dsimp only [ktrTop]; omega) (by dsimp only [ktrTop]; omega) hw hw2 (by k_extra "m_mem") (by l_ints) hcA hvA (by k_extra "m_mem") (by l_ints) hcB hvB ?_; intro c9 t9 h9 tk9 hlt9 hgt9 F9 N9; have hge9 : 0 ≤ c9 := by omega; (try dsimp only))
    | ((rename SubInv _ _ _ _ _ _ => hI9); have hE := sub_end (base_ge hw) hcA hcB hle (by omega) hI9; have hL := hI9.len; refine normal_spec (by assumption) (by assumption) (by assumption) (by assumption) (by assumption) (by exact rfl) (by dsimp only [ktrTop]; omega) (by dsimp only [ktrTop]; omega) (by k_extra "m_mem") (by l_ints) hw hE.1 (by omega) ?_; rw [hE.2]; intro r9 us9 n9 res9 h9 tk9 F9 N9 hi9 hc9 hlt9; (try dsimp only))))
  k_with "turn" => ((k_extra "m_fl_end"; (rename SubInv _ _ _ _ _ _ => hI9); first
    | exact (sub_stepW hrA hrB hI9 (by assumption) (by omega) _ rfl).1 (by assumption)
    | exact (sub_stepW hrA hrB hI9 (by assumption) (by omega) _ rfl).2 (by assumption)
    | exact (sub_stepW hrA hrB hI9 (by assumption) (by omega) 0 (getD_out (by omega)).symm).1 (by assumption)
    | exact (sub_stepW hrA hrB hI9 (by assumption) (by omega) 0 (getD_out (by omega)).symm).2 (by assumption)))
  k_with "loop" => ((
    (rename IsRange _ _ _ _ _ _ _ _ => rgX)
    (rename Fr _ _ _ _ => F1)
    (rename News _ _ _ _ => N1)
    refine fl_range (base := news) (y := "borrow") [("found", _), ("base", _), ("a", _), ("b", _), ("w", _)] (fun i F c => SubInv (2 ^ w1.toNat) A B i F c) rfl rgX (by k_extra "m_small") rfl F1 N1 (by exact rfl) (by k_extra "m_keep") (by k_extra "m_mem") (by k_extra "m_sub") (by k_extra "m_ne") (by l_ints) sub_start (fun i x tx us F n c t u h tk' own hk hlt h1 h2 h3 hi hI hF hN => ?_) (fun us F n c t u h tk' hi hI hF hN => ?_)
    all_goals (try k_fold)))
  k_steps
  all_goals ((rename Fr _ _ _ _ => F9); (rename News _ _ _ _ => N9); first | exact hret _ _ _ _ _ _ F9 (newsDrop N9 (by k_extra "m_sub")) (by l_ints) (by assumption) (by k_extra "m_lt"))
end
-- F_fold_plus
section
theorem fold_plus_spec {w : World} {mean : ExcName → Option Value} {mg mb : Str → Option Value} {dp un : Nat} {gd : Option (List Code)} {cn : Str} {cs : Scope} {a : Addr} {ccd : Value} {cl : List (Str × Addr)} {outer : List Env} {A₀ : Around} {base h₀ : Heap} {L : Addr} {m : Str → Option Value} {news : List (Addr × Obj)} {s : Shared} {Q E : Value → Shared → Prop}
  (kB : Below A₀ base outer h₀) (kF : Fr h₀ L s.heap m) (kX : (KK w.params).In h₀) (kN : News h₀ L s.heap news) (kT : Top topProg LOOSE mean mg mb h₀) (hk : cs.kind = .function) (hdp : dp + 3 < recursionLimit) (hun : un + 24 < cLine)
  {w1 : Int} (hw : 0 < w1) (hw2 : w1 < 60)
  {lA : Addr} {uA : List Value} {cA : Nat} {A : List Int} {vA : Int} (hmA : (lA, listOf uA.toArray cA) ∈ news) (hiA : IntsAre uA A) (hcA : Can (2 ^ w1.toNat) A vA) (hvA : vA < 2 ^ 200)
  {k : Int} {tk : Tok}
  {tw : Tok}
  (hk0 : 1 ≤ k) (hk1 : k < 150) (hBk : ((2 : Int) ^ w1.toNat) ^ k.toNat < 2 ^ 150)
  (hret : RetC h₀ L m news s Q (2 ^ w1.toNat) (vA % ((2 ^ w1.toNat) ^ k.toNat + 1))) :
  wpAny (model PySem.Challenge.rw_rr0057_01.row.prog w) (ktrTop dp un gd cn cs L a ccd cl outer) (call (.ref 137) [.ref lA, .int k tk, .int w1 tw]) Q E s := by
  have hnA : A.length < 1000 := Nat.lt_of_le_of_lt (can_len (base_ge hw) hcA hvA) (by decide)
  have hP2 := pow_big (base_ge hw) (show 1 ≤ k.toNat by omega)
  have hP1 : (1 : Int) ≤ (2 ^ w1.toNat) ^ k.toNat := by omega
  have hA0 := can_nonneg (base_ge hw) hcA
  w_top off
  k_with_none
  k_with "m_mem" => (first | assumption | exact List.Mem.head _ | (refine List.Mem.tail _ ?_; k_extra "m_mem") | (refine List.mem_append.mpr (Or.inl ?_); k_extra "m_mem") | (refine List.mem_append.mpr (Or.inr ?_); k_extra "m_mem"))
  k_with "m_sub" => (first | exact fun _ h9 => h9 | exact List.forall_mem_nil _ | exact List.forall_mem_cons.mpr ⟨by k_extra "m_mem", by k_extra "m_sub"⟩ | exact List.forall_mem_append.mpr ⟨by k_extra "m_sub", by k_extra "m_sub"⟩ | (intro q9 h9; k_extra "m_mem"))
  k_with "m_lt" => (first | assumption | exact allLtOf (by assumption) | exact ltSub (by assumption) (by k_extra "m_sub") | (rename _ ∧ AllLt _ _ => l9; exact allLtOf l9.2) | (rename _ ∧ _ ∧ AllLt _ _ => l9; exact allLtOf l9.2.2) | (rename _ ∧ _ ∧ _ ∧ AllLt _ _ => l9; exact allLtOf l9.2.2.2) | (rename _ ∧ _ ∧ _ ∧ _ ∧ AllLt _ _ => l9; exact allLtOf l9.2.2.2.2))
  k_with "m_ne" => exact neOfLt (by k_extra "m_lt")
  k_with "m_keep" => (first | exact List.forall_mem_nil _ | (refine List.forall_mem_cons.mpr ⟨(by exact rfl), ?_⟩; k_extra "m_keep"))
  k_with "pyIter ref" => k_dflt (k_extra "loop")
  k_with "exec For Name Call cons nil" => (k_here; (rename Fr _ _ _ _ => lF'); (with_unfolding_all refine' For_invVF lF' (by exact rfl) (by exact rfl) ?_; k_whole))
  k_with "exec For Name Name cons nil" => (k_here; (rename Fr _ _ _ _ => lF'); (with_unfolding_all refine' For_invVF lF' (by exact rfl) (by exact rfl) ?_; k_whole))
  k_with "exec While" => k_dflt (k_extra "while")
  k_with "exec While Compare cons nil" => k_dflt (k_extra "while")
  k_with "exec While Compare" => k_dflt (k_extra "while")
  k_with "MPost" => dsimp only [MPost]
  k_with "MEnd" => k_dflt (k_extra "turn")
  k_with "m_fit" => (first | omega | (k_extra "fit"; omega))
  k_with "call builtin:list.append" => (k_here; (with_reducible show wpAny _ _ (call (Value.builtin _) [Value.ref _, Value.int _ _]) _ _ _); k_dflt (refine m_append (by k_asm) (by k_asm) (by k_upd) (by l_ints) (by k_extra "m_fit") ?_; k_whole); intro h' F' N'; (try k_sweep))
  k_with "m_fl_end" => refine fl_end (by assumption) (by assumption) (List.Mem.head _) (by k_extra "m_sub") (by k_extra "m_sub") (by first | assumption | exact List.forall_mem_nil _) (by first | assumption | exact fun _ _ => List.forall_mem_nil _) (by l_ints) (by exact rfl) (by k_extra "m_keep") ?_
  k_with "m_small" => exact small_one (by omega) (by omega) (by omega) (by omega)
  k_with "m_room" => ((try simp only [depth_under_make, depth_under_kw, depth_in1, depth_deeper, depth_caller, units_in1, units_deeper, Around.mark_units, units_caller]); dsimp only [ktrTop]; omega)
  k_with "m_units" => ((try simp only [depth_under_make, depth_under_kw, depth_in1, depth_deeper, depth_caller, units_in1, units_deeper, Around.mark_units, units_caller]); dsimp only [ktrTop]; omega)
  k_with "binaryOp Add ref ref" => (k_here; (with_reducible show wpAny _ _ (binaryOp _ (Value.ref _) (Value.ref _)) _ _ _); k_dflt (refine kmk_add_ints (by k_asm) (by k_asm) (by is_list) (by is_list) (by l_ints) (by l_ints) ?_ (by (rw [sizeLine_eq]; (try simp only [List.length_append, List.length_cons, List.length_nil]); omega))); intro D' ws' h' F' N' l1 hI'; (try k_lt l1); (try k_sweep))
  k_with "call ref" => (k_here; k_dflt (k_extra "call"))
  k_with "subscriptTail Name Slice ref ref" => (k_here; (with_reducible show wpAny _ _ (subscriptTail _ (PySem.Expr.Slice _ _ none _) (Value.ref _) (Value.ref _)) _ _ _); k_dflt (refine kmk_slice_ints (by k_asm) (by k_asm) (by is_list) (by kmk_part) (by kmk_part) (by l_ints) (by first | exact kmk_all (by l_ints) | exact kmk_from (by l_ints) (by omega) | exact kmk_upto (by l_ints) (by omega) | exact kmk_run (by l_ints) (by omega) (by omega)) (by kmk_len) ?_ (by with_unfolding_all rfl) (by kmk_pure) (by (refine kmk_sz (by l_ints) ?_; rw [sizeLine_eq]; omega))); intro D' ws' h' F' N' l1 hI' hC' hL'; (try k_lt l1); (try k_sweep))
  k_with "compareOp Eq ref ref" => (k_here; (with_reducible show wpAny _ _ (compareOp CmpOp.Eq (Value.ref _) (Value.ref _)) _ _ _); k_dflt (refine ke_eq_ints (by is_list) (by is_list) (by l_ints) (by l_ints) (by (dsimp only [ktrTop, Around.deeper]; omega)) ?_; k_whole))
  revert kX; k_fill; intro kX
  refine wpAny_call ?_
  k_dflt ktr_enter
  k_with "call" => ((first
    | ((with_reducible show wpAny _ _ (PySem.call (Value.ref 123) _) _ _ _); refine need_limbs_spec (by assumption) (by assumption) (by assumption) (by assumption) (by assumption) (by exact rfl) (by dsimp only [ktrTop]; omega) (by dsimp only [ktrTop]; omega) (by omega) ?_; intro h9 tk9 F9 N9; (try dsimp only))
    | ((with_reducible show wpAny _ _ (PySem.call (Value.ref 88) _) _ _ _); refine lifted_spec (by assumption) (by assumption) (by assumption) (by assumption) (by assumption) (by exact rfl) (by dsimp only [ktrTop]; omega) (by dsimp only [ktrTop]; omega) hw hw2 (by k_extra "m_mem") (by l_ints) (can_one hw) (by omega) (by omega) (by omega) ?_; intro r9 us9 n9 res9 h9 tk9 F9 N9 hi9 hc9 hlt9; (try dsimp only); rw [Int.one_mul] at hc9)
    | ((with_reducible show wpAny _ _ (PySem.call (Value.ref 74) _) _ _ _); refine add_spec (by assumption) (by assumption) (by assumption) (by assumption) (by assumption) (by exact rfl) (by dsimp only [ktrTop]; omega) (by dsimp only [ktrTop]; omega) hw hw2 (by k_extra "m_mem") (by l_ints) (by assumption) (by omega) (by k_extra "m_mem") (by l_ints) (can_one hw) (by omega) ?_; intro r9 us9 n9 res9 h9 tk9 F9 N9 hi9 hc9 hlt9; (try dsimp only))
    | ((with_reducible show wpAny _ _ (PySem.call (Value.ref 74) _) _ _ _); refine add_spec (by assumption) (by assumption) (by assumption) (by assumption) (by assumption) (by exact rfl) (by dsimp only [ktrTop]; omega) (by dsimp only [ktrTop]; omega) hw hw2 (by k_extra "m_mem") (by l_ints) (by assumption) (by omega) (by k_extra "m_mem") (by l_ints) (by assumption) (by omega) ?_; intro r9 us9 n9 res9 h9 tk9 F9 N9 hi9 hc9 hlt9; (try dsimp only))
    | ((with_reducible show wpAny _ _ (PySem.call (Value.ref 67) _) _ _ _); refine compare_spec (by assumption) (by assumption) (by assumption) (by assumption) (by assumption) (by exact rfl) (by dsimp only [ktrTop]; omega) (by dsimp only [ktrTop]; omega) hw hw2 (by k_extra "m_mem") (by l_ints) (by assumption) (by omega) (by k_extra "m_mem") (by l_ints) (by assumption) (by omega) ?_; intro c9 t9 h9 tk9 hlt9 hgt9 F9 N9; (try dsimp only))
    | ((with_reducible show wpAny _ _ (PySem.call (Value.ref 81) _) _ _ _); refine sub_spec (by assumption) (by assumption) (by assumption) (by assumption) (by assumption) (by exact rfl) (by dsimp only [ktrTop]; omega) (by dsimp only [ktrTop]; omega) hw hw2 (by k_extra "m_mem") (by l_ints) (by assumption) (by omega) (by k_extra "m_mem") (by l_ints) (by assumption) (by omega) (by omega) ?_; intro r9 us9 n9 res9 h9 tk9 F9 N9 hi9 hc9 hlt9; (try dsimp only))
    | ((with_reducible show wpAny _ _ (PySem.call (Value.ref 46) _) _ _ _); refine normal_spec (by assumption) (by assumption) (by assumption) (by assumption) (by assumption) (by exact rfl) (by dsimp only [ktrTop]; omega) (by dsimp only [ktrTop]; omega) (by k_extra "m_mem") (by l_ints) hw hpt.2.1 (by simp only [List.length_take, List.length_drop]; omega) ?_; rw [hpt.2.2]; intro r9 us9 n9 res9 h9 tk9 F9 N9 hi9 hc9 hlt9; (try dsimp only))))
  k_with "turn" => ((first
    | (have hs := rf_next0 hP2 hI; rw [fp_pow hP1, radd_lo hf0 hf1 hm0 hm2 (by omega)] at hs; refine rq_end (by assumption) (by assumption) (by exact rfl) (by exact rfl) (by k_extra "m_mem") (by k_extra "m_sub") (by k_extra "m_sub") (by k_extra "m_lt") (by assumption) (by l_ints) (by assumption) (by k_extra "m_keep") (by k_extra "m_lt") hs)
    | (have hs := rf_next0 hP2 hI; rw [fp_pow hP1, radd_hi hf0 hf1 hm0 hm2 (by omega)] at hs; refine rq_end (by assumption) (by assumption) (by exact rfl) (by exact rfl) (by k_extra "m_mem") (by k_extra "m_sub") (by k_extra "m_sub") (by k_extra "m_lt") (by assumption) (by l_ints) (by assumption) (by k_extra "m_keep") (by k_extra "m_lt") hs)
    | (have hs := rf_next1 hP2 hI; rw [fp_pow hP1, rsub_hi hf0 hf1 hm0 hm2 (by omega)] at hs; refine rq_end (by assumption) (by assumption) (by exact rfl) (by exact rfl) (by k_extra "m_mem") (by k_extra "m_sub") (by k_extra "m_sub") (by k_extra "m_lt") (by assumption) (by l_ints) (by assumption) (by k_extra "m_keep") (by k_extra "m_lt") hs)
    | (have hs := rf_next1 hP2 hI; rw [fp_pow hP1, rsub_lo hf0 hf1 hm0 hm2 (by omega)] at hs; refine rq_end (by assumption) (by assumption) (by exact rfl) (by exact rfl) (by k_extra "m_mem") (by k_extra "m_sub") (by k_extra "m_sub") (by k_extra "m_lt") (by assumption) (by l_ints) (by assumption) (by k_extra "m_keep") (by k_extra "m_lt") hs)))
  k_with "loop" => ((
    (rename IsRange _ _ _ _ _ _ _ _ => rgX)
    (rename Fr _ _ _ _ => F1)
    (rename News _ _ _ _ => N1)
    refine rq_range (b := 2 ^ w1.toNat) (y := "found") (q := "is_below") [("modulus", _), ("a", _), ("n", _), ("w", _)] (fun l => ∀ q ∈ news, q.1 < l) (fun i f t => RfInv ((2 ^ w1.toNat) ^ k.toNat) vA (vA / ((2 ^ w1.toNat) ^ k.toNat) ^ i) f t) rfl rgX (small_pos hk0 (by omega) hnA) (fp_size hk0) F1 N1 (by exact rfl) (by exact rfl) (by k_extra "m_mem") (by l_ints) can_nil (by k_extra "m_keep") (fun _ h9 => h9) (by k_extra "m_lt") (fp_start hP1 hA0) (fun i x tx l us n F v t u h tk' own hx hlt hd hi hc hO hI hF hN => ?_) (fun l us n F v t u h tk' hi hc hO hI hF hN => ?_)
    all_goals (try (
      have hpt := fp_part (base_ge hw) hcA hk0 hx
      have hx0 := hpt.1
      have hf0 := hI.2.2.1
      have hf1 := hI.2.2.2.1
      have hm0 := Int.emod_nonneg (vA / ((2 ^ w1.toNat) ^ k.toNat) ^ i) (show ((2 : Int) ^ w1.toNat) ^ k.toNat ≠ 0 by omega)
      have hm1 := Int.emod_lt_of_pos (vA / ((2 ^ w1.toNat) ^ k.toNat) ^ i) (show 0 < ((2 : Int) ^ w1.toNat) ^ k.toNat by omega)
      have hm2 : vA / ((2 ^ w1.toNat) ^ k.toNat) ^ i % (2 ^ w1.toNat) ^ k.toNat < (2 ^ w1.toNat) ^ k.toNat + 1 := by omega
      cases t))
    all_goals (try k_fold)))
  k_steps
  all_goals ((rename Fr _ _ _ _ => F9); (rename News _ _ _ _ => N9); first
    | (have e := rf_end hI (fp_end (base_ge hw) hcA hk0); rw [e] at hret; exact hret _ _ _ _ _ _ F9 (newsDrop N9 (by k_extra "m_sub")) hi hc hO)
   )
end
-- F_law_limbs
section
theorem law_limbs_spec {w : World} {mean : ExcName → Option Value} {mg mb : Str → Option Value} {dp un : Nat} {gd : Option (List Code)} {cn : Str} {cs : Scope} {a : Addr} {ccd : Value} {cl : List (Str × Addr)} {outer : List Env} {A₀ : Around} {base h₀ : Heap} {L : Addr} {m : Str → Option Value} {news : List (Addr × Obj)} {s : Shared} {Q E : Value → Shared → Prop}
  (kB : Below A₀ base outer h₀) (kF : Fr h₀ L s.heap m) (kX : (KK w.params).In h₀) (kN : News h₀ L s.heap news) (kT : Top topProg LOOSE mean mg mb h₀) (hk : cs.kind = .function) (hdp : dp + 1 < recursionLimit) (hun : un + 8 < cLine)
  {w1 : Int} (hw : 0 < w1) (hw2 : w1 < 60)
  {k : Int} {tk : Tok}
  {tw : Tok}
  (hk0 : 0 ≤ k) (hk1 : k < 2 ^ 200)
  (hret : RetC h₀ L m news s Q (2 ^ w1.toNat) (k)) :
  wpAny (model PySem.Challenge.rw_rr0057_01.row.prog w) (ktrTop dp un gd cn cs L a ccd cl outer) (call (.ref 221) [.int k tk, .int w1 tw]) Q E s := by
  w_top off
  k_with_none
  k_with "m_mem" => (first | assumption | exact List.Mem.head _ | (refine List.Mem.tail _ ?_; k_extra "m_mem") | (refine List.mem_append.mpr (Or.inl ?_); k_extra "m_mem") | (refine List.mem_append.mpr (Or.inr ?_); k_extra "m_mem"))
  k_with "m_sub" => (first | exact fun _ h9 => h9 | exact List.forall_mem_nil _ | exact List.forall_mem_cons.mpr ⟨by k_extra "m_mem", by k_extra "m_sub"⟩ | exact List.forall_mem_append.mpr ⟨by k_extra "m_sub", by k_extra "m_sub"⟩ | (intro q9 h9; k_extra "m_mem"))
  k_with "m_lt" => (first | assumption | exact allLtOf (by assumption) | exact ltSub (by assumption) (by k_extra "m_sub") | (rename _ ∧ AllLt _ _ => l9; exact allLtOf l9.2) | (rename _ ∧ _ ∧ AllLt _ _ => l9; exact allLtOf l9.2.2) | (rename _ ∧ _ ∧ _ ∧ AllLt _ _ => l9; exact allLtOf l9.2.2.2) | (rename _ ∧ _ ∧ _ ∧ _ ∧ AllLt _ _ => l9; exact allLtOf l9.2.2.2.2))
  k_with "m_ne" => exact neOfLt (by k_extra "m_lt")
  k_with "m_keep" => (first | exact List.forall_mem_nil _ | (refine List.forall_mem_cons.mpr ⟨(by exact rfl), ?_⟩; k_extra "m_keep"))
  k_with "pyIter ref" => k_dflt (k_extra "loop")
  k_with "exec For Name Call cons nil" => (k_here; (rename Fr _ _ _ _ => lF'); (with_unfolding_all refine' For_invVF lF' (by exact rfl) (by exact rfl) ?_; k_whole))
  k_with "exec For Name Name cons nil" => (k_here; (rename Fr _ _ _ _ => lF'); (with_unfolding_all refine' For_invVF lF' (by exact rfl) (by exact rfl) ?_; k_whole))
  k_with "exec While" => k_dflt (k_extra "while")
  k_with "exec While Compare cons nil" => k_dflt (k_extra "while")
  k_with "exec While Compare" => k_dflt (k_extra "while")
  k_with "MPost" => dsimp only [MPost]
  k_with "MEnd" => k_dflt (k_extra "turn")
  k_with "m_fit" => (first | omega | (k_extra "fit"; omega))
  k_with "call builtin:list.append" => (k_here; (with_reducible show wpAny _ _ (call (Value.builtin _) [Value.ref _, Value.int _ _]) _ _ _); k_dflt (refine m_append (by k_asm) (by k_asm) (by k_upd) (by l_ints) (by k_extra "m_fit") ?_; k_whole); intro h' F' N'; (try k_sweep))
  k_with "m_fl_end" => refine fl_end (by assumption) (by assumption) (List.Mem.head _) (by k_extra "m_sub") (by k_extra "m_sub") (by first | assumption | exact List.forall_mem_nil _) (by first | assumption | exact fun _ _ => List.forall_mem_nil _) (by l_ints) (by exact rfl) (by k_extra "m_keep") ?_
  k_with "m_small" => exact small_one (by omega) (by omega) (by omega) (by omega)
  k_with "m_room" => ((try simp only [depth_under_make, depth_under_kw, depth_in1, depth_deeper, depth_caller, units_in1, units_deeper, Around.mark_units, units_caller]); dsimp only [ktrTop]; omega)
  k_with "m_units" => ((try simp only [depth_under_make, depth_under_kw, depth_in1, depth_deeper, depth_caller, units_in1, units_deeper, Around.mark_units, units_caller]); dsimp only [ktrTop]; omega)
  k_with "binaryOp Add ref ref" => (k_here; (with_reducible show wpAny _ _ (binaryOp _ (Value.ref _) (Value.ref _)) _ _ _); k_dflt (refine kmk_add_ints (by k_asm) (by k_asm) (by is_list) (by is_list) (by l_ints) (by l_ints) ?_ (by (rw [sizeLine_eq]; (try simp only [List.length_append, List.length_cons, List.length_nil]); omega))); intro D' ws' h' F' N' l1 hI'; (try k_lt l1); (try k_sweep))
  k_with "call ref" => (k_here; k_dflt (k_extra "call"))
  k_with "subscriptTail Name Slice ref ref" => (k_here; (with_reducible show wpAny _ _ (subscriptTail _ (PySem.Expr.Slice _ _ none _) (Value.ref _) (Value.ref _)) _ _ _); k_dflt (refine kmk_slice_ints (by k_asm) (by k_asm) (by is_list) (by kmk_part) (by kmk_part) (by l_ints) (by first | exact kmk_all (by l_ints) | exact kmk_from (by l_ints) (by omega) | exact kmk_upto (by l_ints) (by omega) | exact kmk_run (by l_ints) (by omega) (by omega)) (by kmk_len) ?_ (by with_unfolding_all rfl) (by kmk_pure) (by (refine kmk_sz (by l_ints) ?_; rw [sizeLine_eq]; omega))); intro D' ws' h' F' N' l1 hI' hC' hL'; (try k_lt l1); (try k_sweep))
  k_with "compareOp Eq ref ref" => (k_here; (with_reducible show wpAny _ _ (compareOp CmpOp.Eq (Value.ref _) (Value.ref _)) _ _ _); k_dflt (refine ke_eq_ints (by is_list) (by is_list) (by l_ints) (by l_ints) (by (dsimp only [ktrTop, Around.deeper]; omega)) ?_; k_whole))
  revert kX; k_fill; intro kX
  refine wpAny_call ?_
  k_dflt ktr_enter
  have hbg := base_ge hw
  k_with "fit" => have h9 := LimInv.len (by assumption)
  k_with "turn" => ((k_extra "m_fl_end"; (rename LimInv _ _ _ _ => hI9); have hE := lim_step hbg hk1 hI9 (by assumption); first | exact hE | (simp only [maskW, fdivW, Int.fmod_eq_emod_of_nonneg _ (Int.le_of_lt (twoPos _))]; exact hE)))
  k_with "while" => ((
    (rename Fr _ _ _ _ => F1)
    (rename News _ _ _ _ => N1)
    refine fl_while (base := news) (y := "number") [("found", _), ("w", _)] (fun F c => LimInv (2 ^ w1.toNat) k F c) (fun F c => c.toNat) F1 N1 (by exact rfl) (by k_extra "m_keep") (by k_extra "m_mem") (by k_extra "m_sub") (by k_extra "m_ne") (by l_ints) (lim_start hk0) (fun us F n c t u h tk' h1 hi hI hF hN => ?_)
    all_goals (try k_fold)))
  k_steps
  all_goals ((rename Fr _ _ _ _ => F9); (rename News _ _ _ _ => N9); (rename LimInv _ _ _ _ => hI9); first | exact hret _ _ _ _ _ _ F9 (newsDrop N9 (by k_extra "m_sub")) (by l_ints) (lim_end hI9 (by assumption)) (by k_extra "m_lt"))
end
-- Loops3
section
open PyProof.Rows.LCg
section
variable {prog : Program} {w : World} {A : Around} {E : Value → Shared → Prop} {s : Shared} {h₀ : Heap} {L : Addr} {m : Str → Option Value} {env : Env}
/-- what one turn of `[elt for at, limb in enumerate(list)]` must show: an answer that meets Y, the heap as it was -/
noncomputable def EnTurn (prog : Program) (w : World) (A : Around) (h₀ : Heap) (L : Addr) (m : Str → Option Value) (env : Env) (elt : PySem.Expr) (a b : Str) (scope : Scope) (cl : List (Str × Addr)) (s : Shared) (xs : List Value) (Y : Nat → Value → Prop) (news : List (Addr × Obj)) : Prop :=
  ∀ (i : Nat) (x : Value) (t : Tok) C oC m₂ h tk (E' : Value → Shared → Prop), xs[i]? = some x → NsObj oC m₂ → m₂ a = some (.int i t) → m₂ b = some x → Fr h₀ L h m → News h₀ L h ((C, oC) :: news) →
    wpAny (model prog w) A (eval elt (compEnvC scope cl C env)) (fun y s' => Y i y ∧ ∃ tk', s' = { s with heap := h, toks := tk' }) E' { s with heap := h, toks := tk }
noncomputable def EnSrc (prog : Program) (w : World) (A : Around) (h₀ : Heap) (L : Addr) (m : Str → Option Value) (env : Env) (elt : PySem.Expr) (a b : Str) (scope : Scope) (cl : List (Str × Addr)) (Q : Value → Shared → Prop) (xv : Value) (s₁ : Shared) : Prop :=
  ∃ (e it l : Addr) (xs : List Value) (news : List (Addr × Obj)) (Y : Nat → Value → Prop), xv = .ref e ∧ A.handled = none ∧ Fr h₀ L s₁.heap m ∧ News h₀ L s₁.heap news ∧
    IsEnum s₁.heap e it 0 .none ∧ s₁.heap.IsListIter it l 0 ∧ s₁.heap.IsList l xs.toArray ∧ xs.length ≤ sizeLine ∧ e ≠ it ∧ l ≠ e ∧ l ≠ it ∧ L ≠ e ∧ L ≠ it ∧ h₀.get? e = none ∧ h₀.get? it = none ∧ (∀ p ∈ news, p.1 ≠ e ∧ p.1 ≠ it) ∧
    (∀ g : Heap, EnTurn prog w A h₀ L m env elt a b scope cl { s₁ with heap := g } xs Y news) ∧
    ∀ (ys : List Value) D h tk, ys.length = xs.length → (∀ i y, ys[i]? = some y → Y i y) → Fr h₀ L h m → News h₀ L h ((D, lst ys) :: news) → (∀ p ∈ news, p.1 ≠ D) → Q (.ref D) { s₁ with heap := h, toks := tk }
theorem en_block {elt iter : PySem.Expr} {a b : Str} {pa pb tp : Pos} {kk : Nat} {scope : Scope} {cl : List (Str × Addr)} {pos : Pos} {s₂ : Shared} {e it l : Addr} {xs : List Value} {news : List (Addr × Obj)} {Y : Nat → Value → Prop}
    {RR : Value → Addr → Result → Shared → Prop}
    (hh : A.handled = none) (hei : e ≠ it) (hle : l ≠ e) (hli : l ≠ it) (hsz : xs.length ≤ sizeLine) (he : IsEnum s₂.heap e it 0 .none) (hit : s₂.heap.IsListIter it l 0) (hl : s₂.heap.IsList l xs.toArray)
    (hcell : ∀ y ∈ scope.names, y.2 ≠ .cell) (hkind : scope.kind = .function) (hxa : scope.names.lookup a = some .local) (hxb : scope.names.lookup b = some .local) (hab : ¬ a = b)
    (F : Fr h₀ L s₂.heap m) (N : News h₀ L s₂.heap news) (hLe : L ≠ e) (hLi : L ≠ it) (he₀ : h₀.get? e = none) (hi₀ : h₀.get? it = none) (off : ∀ p ∈ news, p.1 ≠ e ∧ p.1 ≠ it)
    (T : EnTurn prog w A h₀ L m env elt a b scope cl s₂ xs Y news)
    (hRR : ∀ (ys : List Value) D C h tk m', ys.length = xs.length → (∀ i y, ys[i]? = some y → Y i y) → Fr h₀ L h m → News h₀ L h ((D, lst ys) :: news) → h.Ns C m' → h₀.get? C = none → C ≠ L → C ≠ D → (∀ p ∈ news, p.1 ≠ C ∧ p.1 ≠ D) → RR (.ref D) C (.ok .next) { s₂ with heap := h, toks := tk }) :
    wpAny (model prog w) A (newList []) (fun acc s₃ => wpAny (model prog w) A (newFunctionEnv scope env.globals cl [] env.qual none .none (some env)) (fun cenv s₄ =>
      codeAny (model prog w) A (.compStart (.ListComp elt [⟨.Tuple [.Name a pa, .Name b pb] kk tp, iter, [], 0⟩] scope pos) 0 (.ref e) acc { cenv with scope := relabel scope env }) (RR acc cenv.locals) s₄) E s₃) E s₂ := by
  refine wpAny_newObj_type (wpAny_newFunctionEnv hcell (by intro y hy; simp at hy) (fun h₁ hns₁ hsb₁ => ?_) hkind)
  dsimp only at hns₁ hsb₁ ⊢
  generalize hH2 : s₂.heap.push { cls := .type "list", dict := none, data := .seq ([] : List Value).toArray } = H2 at hns₁ hsb₁ ⊢
  have hC : H2.objs.size = s₂.heap.objs.size + 1 := by rw [← hH2, Heap.size_push]
  have hDC : s₂.heap.objs.size ≠ H2.objs.size := by rw [hC]; exact Nat.ne_of_lt (Nat.lt_succ_self _)
  have below : ∀ b, b < s₂.heap.objs.size → b ≠ H2.objs.size ∧ b ≠ s₂.heap.objs.size := fun b hb => ⟨by rw [hC]; exact Nat.ne_of_lt (Nat.lt_succ_of_lt hb), Nat.ne_of_lt hb⟩
  have helt : e < s₂.heap.objs.size := Heap.lt_size he
  have hilt : it < s₂.heap.objs.size := by obtain ⟨_, x, _⟩ := hit; exact Heap.lt_size x
  have hllt : l < s₂.heap.objs.size := by obtain ⟨_, x, _⟩ := hl; exact Heap.lt_size x
  have old : ∀ b o, s₂.heap.get? b = some o → h₁.get? b = some o := fun b o e => hsb₁.extBut b o (below b (Heap.lt_size e)).1 (Heap.get?_push_of_some _ (hH2 ▸ Heap.get?_push_of_some _ e))
  have hacc : h₁.get? s₂.heap.objs.size = some (lst []) := hsb₁.extBut _ _ hDC (Heap.get?_push_of_some _ (hH2 ▸ Heap.get?_push_size _ rfl))
  have fresh : ∀ a, s₂.heap.objs.size ≤ a → s₂.heap.get? a = none := fun a ha => by
    cases e : s₂.heap.get? a with
    | none => rfl
    | some o' => exact absurd (Heap.lt_size e) (Nat.not_lt.mpr ha)
  have fresh₀ : ∀ a, s₂.heap.objs.size ≤ a → h₀.get? a = none := fun a ha => by
    cases e : h₀.get? a with
    | none => rfl
    | some o' => have := F.keep a o' e; rw [fresh a ha] at this; cases this
  have hD₀ : h₀.get? s₂.heap.objs.size = none := fresh₀ _ (Nat.le_refl _)
  have hC₀ : h₀.get? H2.objs.size = none := fresh₀ _ (by rw [hC]; exact Nat.le_succ _)
  have hLlt : L < s₂.heap.objs.size := F.ns.lt
  have hDL : s₂.heap.objs.size ≠ L := Ne.symm (below L hLlt).2
  have hCL : H2.objs.size ≠ L := Ne.symm (below L hLlt).1
  have offs : ∀ p ∈ news, p.1 ≠ H2.objs.size ∧ p.1 ≠ s₂.heap.objs.size := fun p hp => below _ (Heap.lt_size (N p hp).1)
  have W := WalksT.enumerate (prog := prog) (w := w) (A := A) hh e it l hei hle hli xs.toArray
  generalize hSt : (fun (i : Nat) (h : Heap) => (∃ old, IsEnum h e it (i : Int) old) ∧ h.IsListIter it l i ∧ h.IsList l xs.toArray) = St at W
  have st₀ : St 0 s₂.heap := by subst hSt; exact ⟨⟨_, he⟩, hit, hl⟩
  have infp : ∀ b ∈ [e, it, l], b ≠ H2.objs.size ∧ b ≠ s₂.heap.objs.size := fun b hb => by
    rcases List.mem_cons.mp hb with rfl | hb
    · exact below _ helt
    · rcases List.mem_cons.mp hb with rfl | hb
      · exact below _ hilt
      · rw [List.mem_singleton.mp hb]; exact below _ hllt
  have notwr : ∀ {b}, b ≠ e → b ≠ it → b ∉ [e, it] := fun h1 h2 hm => by
    rcases List.mem_cons.mp hm with q | hm
    · exact h1 q
    · exact h2 (List.mem_singleton.mp hm)
  have hCe : H2.objs.size ≠ e := fun q => (below _ helt).1 q.symm
  have hCi : H2.objs.size ≠ it := fun q => (below _ hilt).1 q.symm
  have hDe : s₂.heap.objs.size ≠ e := fun q => (below _ helt).2 q.symm
  have hDi : s₂.heap.objs.size ≠ it := fun q => (below _ hilt).2 q.symm
  have loop : ∀ s₃ : Shared, s₃ = { s₂ with heap := h₁, toks := s₂.toks + ([] : List (Str × Value)).length } →
      codeAny (model prog w) A (.compLoop (.ListComp elt [⟨.Tuple [.Name a pa, .Name b pb] kk tp, iter, [], 0⟩] scope pos) 0 (.ref e) (.ref s₂.heap.objs.size) (compEnvC scope cl H2.objs.size env))
        (RR (.ref s₂.heap.objs.size) H2.objs.size) s₃ := by
    rintro s₃ rfl
    refine kcp_loop
      (fun k s' => ∃ h' tk i ys m', s' = { s₂ with heap := h', toks := tk } ∧ i ≤ xs.length ∧ k = xs.length + 1 - i ∧ ys.length = i ∧ (∀ j y, ys[j]? = some y → Y j y) ∧ St i h' ∧ Fr h₀ L h' m ∧ h'.Ns H2.objs.size m' ∧
        News h₀ L h' ((s₂.heap.objs.size, lst ys) :: news)) ?_ (xs.length + 1)
      ⟨h₁, _, 0, [], _, rfl, Nat.zero_le _, rfl, rfl, (fun j y hj => by simp at hj), W.frame _ _ _ st₀ fun b _ o e => old b o e, F.keeps old, hns₁, fun p hp => ?_⟩
    · rintro k s' ⟨h', tk, i, ys, m', rfl, hi, rfl, hyl, hY, hst', F', hn', N'⟩
      by_cases hlt : i < xs.length
      · refine W.item i _ _ _ (by simpa using hlt) hst' fun T' vals h₂ tk₂ hPt hTge hTup hMid hk₂ => ?_
        obtain ⟨t, x, hx, rfl⟩ := hPt
        have hTwr : T' ∉ [e, it] := W.apart _ _ _ hMid
        refine W.go _ _ _ _ _ _ _ _ hMid fun h₃ hst₃ hk₃ => ?_
        have hTup₃ : h₃.IsTuple T' #[.int i t, x] := by
          obtain ⟨o, ho, r⟩ := hTup
          exact ⟨o, hk₃ _ _ hTwr ho, r⟩
        have up₃ : ∀ c o, c ≠ e → c ≠ it → h'.get? c = some o → h₃.get? c = some o := fun c o h1 h2 q => hk₃ c o (notwr h1 h2) (hk₂ c o (notwr h1 h2) q)
        refine kcp_assign (env := compEnvC scope cl H2.objs.size env) hh hTup₃ (lookup_relabel_local hxa) (lookup_relabel_local hxb) (by simp [compEnvC, relabel, hkind]) (hn'.at' fun o q => up₃ _ o hCe hCi q) fun h₄ tk₄ hn₄ hs₄ => ?_
        have up : ∀ c o, c ≠ e → c ≠ it → c ≠ H2.objs.size → h'.get? c = some o → h₄.get? c = some o := fun c o h1 h2 h3 q => hs₄ c o h3 (up₃ c o h1 h2 q)
        have hst₄ : St (i + 1) h₄ := W.frame _ _ _ hst₃ fun b hb o q => hs₄ b o (infp b hb).1 q
        obtain ⟨oC, heC, hoC⟩ := ns_obj hn₄
        have F₄ : Fr h₀ L h₄ m := ⟨F'.ns.at' fun o q => up _ o hLe hLi (Ne.symm hCL) q, fun c o q => up c o (fun z => by rw [z, he₀] at q; cases q) (fun z => by rw [z, hi₀] at q; cases q) (fun z => by rw [z, hC₀] at q; cases q) (F'.keep c o q), F'.above⟩
        have N₄ : News h₀ L h₄ ((s₂.heap.objs.size, lst ys) :: news) := fun q hq => by
          refine ⟨?_, (N' q hq).2⟩
          rcases List.mem_cons.mp hq with rfl | hq'
          · exact up _ _ hDe hDi hDC (N' _ hq).1
          · exact up _ _ (off q hq').1 (off q hq').2 (offs q hq').1 (N' _ hq).1
        have N₅ : News h₀ L h₄ ((H2.objs.size, oC) :: news) := fun q hq => by
          rcases List.mem_cons.mp hq with rfl | hq'
          · exact ⟨heC, hCL, hC₀⟩
          · exact N₄ q (List.mem_cons_of_mem _ hq')
        refine wpAny_mono (T i x t H2.objs.size oC _ h₄ _ _ (by simpa using hx) hoC (by simp [hab]) (by simp) F₄ N₅) (fun y s₅ h₅ => ?_) fun _ _ q => q
        obtain ⟨hy, tk₅, rfl⟩ := h₅
        refine append_at (hsz := by show ys.toArray.size ≤ sizeLine; rw [List.size_toArray, hyl]; exact Nat.le_trans hi hsz) (N₄ _ List.mem_cons_self).1 fun h₆ hs₆ hD₆ => ?_
        refine ⟨xs.length + 1 - (i + 1), by omega, h₆, tk₅, i + 1, ys ++ [y], _, rfl, hlt, rfl, by rw [List.length_append, List.length_singleton, hyl], ?_, W.frame _ _ _ hst₄ fun b hb o q => hs₆.extBut b o (infp b hb).2 q, F₄.change hs₆ hDL hD₀,
          hn₄.sameBut hs₆ (Ne.symm hDC), fun q hq => ?_⟩
        · intro j z hz
          rcases Nat.lt_or_ge j ys.length with hj | hj
          · rw [List.getElem?_append_left hj] at hz
            exact hY j z hz
          · rw [List.getElem?_append_right hj] at hz
            obtain ⟨hj0, rfl⟩ : j - ys.length = 0 ∧ y = z := by
              rcases hjj : j - ys.length with _ | n
              · rw [hjj] at hz; exact ⟨rfl, by simpa using hz⟩
              · rw [hjj] at hz; simp at hz
            have : j = i := by omega
            rw [this]; exact hy
        · rcases List.mem_cons.mp hq with rfl | hq
          · exact ⟨hD₆.trans (congrArg some (lst_snoc ys y)), hDL, hD₀⟩
          · exact ⟨hs₆.extBut _ _ (offs q hq).2 (N₄ q (List.mem_cons_of_mem _ hq)).1, (N₄ q (List.mem_cons_of_mem _ hq)).2⟩
      · have hin : i = xs.length := Nat.le_antisymm hi (Nat.not_lt.mp hlt)
        refine W.done _ _ _ (by rw [hin] at hst'; simpa using hst') fun h₂ tk₂ hk₂ => ?_
        refine hRR ys _ _ h₂ tk₂ _ (hyl.trans hin) hY ⟨F'.ns.at' fun o q => hk₂ _ o (notwr hLe hLi) q, fun c o q => hk₂ c o (notwr (fun z => by rw [z, he₀] at q; cases q) (fun z => by rw [z, hi₀] at q; cases q)) (F'.keep c o q), F'.above⟩ (fun q hq => ⟨hk₂ _ _ ?_ (N' q hq).1, (N' q hq).2⟩) (hn'.at' fun o q => hk₂ _ o (notwr hCe hCi) q) hC₀ hCL (Ne.symm hDC) offs
        rcases List.mem_cons.mp hq with rfl | hq
        · exact notwr hDe hDi
        · exact notwr (off q hq).1 (off q hq).2
    · rcases List.mem_cons.mp hp with rfl | hp
      · exact ⟨hacc, hDL, hD₀⟩
      · exact ⟨old _ _ (N p hp).1, (N p hp).2⟩
  exact codeAny_compStart_list (loop _ rfl) (wpAny_pyIter_enum (old _ _ he) (loop _ rfl))
theorem en_ListComp {elt iter : PySem.Expr} {a b : Str} {pa pb tp : Pos} {kk : Nat} {scope : Scope} {cl : List (Str × Addr)} {pos : Pos} {Q : Value → Shared → Prop} (_F₀ : Fr h₀ L s.heap m)
    (hclos : closureFor scope env = pure cl) (hcell : ∀ y ∈ scope.names, y.2 ≠ .cell) (hkind : scope.kind = .function)
    (hnames : ∀ y ∈ scope.names, y.2 = .local → scope.names.lookup y.1 = some .local) (hxa : scope.names.lookup a = some .local) (hxb : scope.names.lookup b = some .local) (hab : ¬ a = b)
    (h : wpAny (model prog w) A (eval iter env) (EnSrc prog w A h₀ L m env elt a b scope cl Q) E s)
    (hs : ∀ x, foldedSetIterable iter env x = pure x := by intro _; rfl) :
    wpAny (model prog w) A (eval (.ListComp elt [⟨.Tuple [.Name a pa, .Name b pb] kk tp, iter, [], 0⟩] scope pos) env) Q E s := by
  rw [eval_ListComp]
  refine wpAny_comprehension_free (use := none) rfl hs hclos hkind hnames (wpAny_mono h (fun xv s₁ h₁ => ?_) fun _ _ e => e)
  obtain ⟨e, it, l, xs, news, Y, rfl, hh, F, N, he, hit, hl, hsz, hei, hle, hli, hLe, hLi, he₀, hi₀, off, T, fin⟩ := h₁
  refine wpAny_pyIter_enum he ?_
  refine en_block hh hei hle hli hsz he hit hl hcell hkind hxa hxb hab F N hLe hLi he₀ hi₀ off (T _) ?_
  intro ys D C h tk m' hlen hY F' N' hn hC₀ hCL hCD offC
  refine ⟨m', hn, fun h'' hs'' => fin ys D h'' tk hlen hY (F'.change hs'' hCL hC₀) (fun p hp => ?_) fun p hp => (offC p hp).2⟩
  refine ⟨hs''.extBut _ _ ?_ (N' p hp).1, (N' p hp).2⟩
  rcases List.mem_cons.mp hp with rfl | hp
  · exact Ne.symm hCD
  · exact (offC p hp).1
/-- the call of enumerate, at the source of such a comprehension -/
theorem en_enum {elt : PySem.Expr} {a b : Str} {scope : Scope} {cl : List (Str × Addr)} {Q : Value → Shared → Prop} {l : Addr} {xs : List Value} {k : Nat} {news : List (Addr × Obj)} (Y : Nat → Value → Prop)
    (hh : A.handled = none) (F : Fr h₀ L s.heap m) (N : News h₀ L s.heap news) (hm : (l, listOf xs.toArray k) ∈ news) (hsz : xs.length ≤ sizeLine)
    (T : ∀ g : Heap, EnTurn prog w A h₀ L m env elt a b scope cl { s with heap := g } xs Y news)
    (fin : ∀ (ys : List Value) D h tk, ys.length = xs.length → (∀ i y, ys[i]? = some y → Y i y) → Fr h₀ L h m → News h₀ L h ((D, lst ys) :: news) → (∀ p ∈ news, p.1 ≠ D) → Q (.ref D) { s with heap := h, toks := tk }) :
    wpAny (model prog w) A (call (.type "enumerate") [.ref l]) (EnSrc prog w A h₀ L m env elt a b scope cl Q) E s := by
  have hls : s.heap.IsList l xs.toArray := ⟨_, (N _ hm).1, rfl, _, rfl⟩
  have hlt : l < s.heap.objs.size := Heap.lt_size (N _ hm).1
  have hLs : L < s.heap.objs.size := F.ns.lt
  have hab : h₀.objs.size ≤ L := F.above
  refine call_enumerate_list hls fun h' he hit hz hk => ?_
  refine ⟨_, _, l, xs, news, Y, rfl, hh, ⟨F.ns.keeps hk, fun b o e => hk b o (F.keep b o e), F.above⟩, fun p hp => ⟨hk _ _ (N p hp).1, (N p hp).2⟩, he, hit, hls.at fun o e => hk l o e, hsz, Nat.succ_ne_self _, Nat.ne_of_lt (Nat.lt_succ_of_lt hlt), Nat.ne_of_lt hlt, Nat.ne_of_lt (Nat.lt_succ_of_lt hLs), Nat.ne_of_lt hLs,
    Heap.get?_none_of_le (Nat.le_trans hab (Nat.le_of_lt (Nat.lt_succ_of_lt hLs))), Heap.get?_none_of_le (Nat.le_trans hab (Nat.le_of_lt hLs)), fun p hp => ?_, fun g => T g, fin⟩
  have := Heap.lt_size (N p hp).1
  exact ⟨Nat.ne_of_lt (Nat.lt_succ_of_lt this), Nat.ne_of_lt this⟩
end
end
-- M14
section
noncomputable def digs (b : Int) : Nat → List Int → List Int
  | _, [] => []
  | k, x :: xs => (x * b ^ k) :: digs b (k + 1) xs
theorem digs_sum {b : Int} : ∀ (k : Nat) (xs : List Int), (digs b k xs).sum = b ^ k * val b xs
  | _, [] => by simp [digs, val]
  | k, x :: xs => by
    simp only [digs, val, List.sum_cons]
    rw [digs_sum (k + 1) xs, Int.pow_succ, Int.mul_add, Int.mul_comm x, Int.mul_assoc]
theorem digs_sum0 {b : Int} {xs : List Int} {v : Int} (h : Can b xs v) : (digs b 0 xs).sum = v := by
  rw [digs_sum, Int.pow_zero, Int.one_mul, h.2.2]
theorem pow_at {w : Int} (hw : 0 < w) (i : Nat) : (2 : Int) ^ (w * (i : Int)).toNat = (2 ^ w.toNat) ^ i := by
  obtain ⟨n, rfl⟩ := Int.eq_ofNat_of_zero_le (Int.le_of_lt hw)
  rw [show ((n : Int) * (i : Int)).toNat = n * i by rw [← Int.natCast_mul]; exact Int.toNat_natCast _, Int.toNat_natCast, Int.pow_mul]
theorem pow_room {w : Int} (hw : 0 < w) (hw2 : w < 60) {i : Nat} (hi : i < 1000) : 0 ≤ w * (i : Int) ∧ w * (i : Int) ≤ 60000 := by
  constructor
  · exact Int.mul_nonneg (by omega) (by omega)
  · have : w * (i : Int) ≤ 60 * (i : Int) := Int.mul_le_mul_of_nonneg_right (by omega) (by omega)
    omega
theorem dig_bound {w : Int} (hw : 0 < w) (hw2 : w < 60) {A : List Int} {v : Int} (h : Can (2 ^ w.toNat) A v) {i : Nat} {x : Int} (hx : A[i]? = some x) : 0 ≤ x ∧ x < 1152921504606846976 := by
  have h1 := h.1 x (List.mem_of_getElem? hx)
  have h2 : (2 : Int) ^ w.toNat ≤ 2 ^ 60 := by
    have := Nat.pow_le_pow_right (n := 2) (by decide) (show w.toNat ≤ 60 by omega)
    exact_mod_cast this
  have h3 : (2 : Int) ^ 60 = 1152921504606846976 := by decide
  omega
end
-- Loops4
section
open PyProof.Rows.LCg
theorem ints_at : ∀ {us : List Value} {A : List Int}, IntsAre us A → ∀ {i : Nat} {v : Value}, us[i]? = some v → ∃ x t, A[i]? = some x ∧ v = .int x t
  | _, _, .nil, i, v, h => by simp at h
  | _, _, .cons n t r, 0, v, h => ⟨n, t, rfl, by simpa using h.symm⟩
  | _, _, .cons n t r, i + 1, v, h => ints_at r (by simpa using h)
theorem ints_of {b : Int} : ∀ {A : List Int} {ys : List Value} {k : Nat}, ys.length = A.length → (∀ (i : Nat) y x, ys[i]? = some y → A[i]? = some x → ∃ t : Tok, y = .int (x * b ^ (k + i)) t) → IntsAre ys (digs b k A)
  | [], [], _, _, _ => .nil
  | [], _ :: _, _, h, _ => by simp at h
  | _ :: _, [], _, h, _ => by simp at h
  | x :: A, y :: ys, k, h, hy => by
    obtain ⟨t, rfl⟩ := hy 0 y x rfl rfl
    refine .cons _ t (ints_of (by simpa using h) fun i y x h1 h2 => ?_)
    have := hy (i + 1) y x (by simpa using h1) (by simpa using h2)
    rw [show k + 1 + i = k + (i + 1) by omega]
    exact this
inductive IntV (z : Int) : Value → Prop
  | mk (t : Tok) : IntV z (.int z t)
theorem intV_of {x z : Int} (h : x = z) (t : Tok) : IntV z (.int x t) := h ▸ .mk t
section
variable {prog : Program} {w : World} {A : Around} {E : Value → Shared → Prop} {s : Shared} {h₀ : Heap} {L : Addr} {m : Str → Option Value} {env : Env}
theorem en_ints {elt : PySem.Expr} {a b : Str} {scope : Scope} {cl : List (Str × Addr)} {Q : Value → Shared → Prop} {l : Addr} {us : List Value} {D : List Int} {k : Nat} {news : List (Addr × Obj)} (B : Int)
    (hh : A.handled = none) (F : Fr h₀ L s.heap m) (N : News h₀ L s.heap news) (hm : (l, listOf us.toArray k) ∈ news) (hi : IntsAre us D) (hsz : D.length < 1000)
    (turn : ∀ (i : Nat) (x : Int) (t tx : Tok) C oC m₂ h tk (E' : Value → Shared → Prop), D[i]? = some x → i < 1000 → NsObj oC m₂ → m₂ a = some (.int i t) → m₂ b = some (.int x tx) → Fr h₀ L h m → News h₀ L h ((C, oC) :: news) →
      wpAny (model prog w) A (eval elt (compEnvC scope cl C env)) (fun y s' => IntV (x * B ^ i) y ∧ ∃ tk', s' = { s with heap := h, toks := tk' }) E' { s with heap := h, toks := tk })
    (fin : ∀ (ys : List Value) Dd (n : Nat) h tk, Fr h₀ L h m → News h₀ L h ((Dd, listOf ys.toArray n) :: news) → IntsAre ys (digs B 0 D) → (∀ p ∈ news, p.1 ≠ Dd) → Q (.ref Dd) { s with heap := h, toks := tk }) :
    wpAny (model prog w) A (call (.type "enumerate") [.ref l]) (EnSrc prog w A h₀ L m env elt a b scope cl Q) E s := by
  have hlen := IntsAre.length hi
  refine en_enum (fun i v => ∀ x, D[i]? = some x → ∃ t : Tok, v = .int (x * B ^ i) t) hh F N hm (by rw [hlen, sizeLine_eq]; omega) (fun g => ?_) fun ys Dd h tk hl hY F' N' off => ?_
  · intro i v t C oC m₂ h tk E' hv ho ha hb F' N'
    obtain ⟨x, tx, hx, rfl⟩ := ints_at hi hv
    refine wpAny_mono (turn i x t tx C oC m₂ h tk E' hx ?_ ho ha hb F' N') (fun y s' hy => ?_) fun _ _ q => q
    · have := (List.getElem?_eq_some_iff.mp hx).1
      omega
    · obtain ⟨hI, h2⟩ := hy
      obtain ⟨ty⟩ := hI
      exact ⟨fun x' hx' => ⟨ty, by rw [hx] at hx'; cases hx'; rfl⟩, h2⟩
  · refine fin ys Dd _ h tk F' N' (ints_of (by rw [hl, hlen]) fun i y x h1 h2 => ?_) off
    rw [Nat.zero_add]
    exact hY i y h1 x h2
end
end
-- F_law_mul
section
theorem big_bits {v : Int} (h0 : 0 ≤ v) (h : v < 2 ^ 200) : Builtin.Int.intBits v ≤ 2 ^ 20 := Nat.le_trans (intBits_le (k := 200) (by omega)) (by decide)
theorem val_int {x y : Int} {t : Tok} (h : x = y) : Value.int x t = Value.int y t := by rw [h]
theorem law_mul_spec {w : World} {mean : ExcName → Option Value} {mg mb : Str → Option Value} {dp un : Nat} {gd : Option (List Code)} {cn : Str} {cs : Scope} {a : Addr} {ccd : Value} {cl : List (Str × Addr)} {outer : List Env} {A₀ : Around} {base h₀ : Heap} {L : Addr} {m : Str → Option Value} {news : List (Addr × Obj)} {s : Shared} {Q E : Value → Shared → Prop}
  (kB : Below A₀ base outer h₀) (kF : Fr h₀ L s.heap m) (kX : (KK w.params).In h₀) (kN : News h₀ L s.heap news) (kT : Top topProg LOOSE mean mg mb h₀) (hk : cs.kind = .function) (hdp : dp + 20 < recursionLimit) (hun : un + 160 < cLine)
  {w1 : Int} (hw : 0 < w1) (hw2 : w1 < 60)
  {lA : Addr} {uA : List Value} {cA : Nat} {A : List Int} {vA : Int} (hmA : (lA, listOf uA.toArray cA) ∈ news) (hiA : IntsAre uA A) (hcA : Can (2 ^ w1.toNat) A vA) (hvA : vA < 2 ^ 200)
  {lC : Addr} {uC : List Value} {cC : Nat} {C : List Int} {vC : Int} (hmC : (lC, listOf uC.toArray cC) ∈ news) (hiC : IntsAre uC C) (hcC : Can (2 ^ w1.toNat) C vC) (hvC : vC < 2 ^ 200)
  {tw : Tok}
  (hAC : vA * vC < 2 ^ 200)
  (hret : RetC h₀ L m news s Q (2 ^ w1.toNat) (vA * vC)) :
  wpAny (model PySem.Challenge.rw_rr0057_01.row.prog w) (ktrTop dp un gd cn cs L a ccd cl outer) (call (.ref 226) [.ref lA, .ref lC, .int w1 tw]) Q E s := by
  have hnA : A.length < 1000 := Nat.lt_of_le_of_lt (can_len (base_ge hw) hcA hvA) (by decide)
  have hnC : C.length < 1000 := Nat.lt_of_le_of_lt (can_len (base_ge hw) hcC hvC) (by decide)
  w_top off
  k_with_none
  k_with "m_mem" => (first | assumption | exact List.Mem.head _ | (refine List.Mem.tail _ ?_; k_extra "m_mem") | (refine List.mem_append.mpr (Or.inl ?_); k_extra "m_mem") | (refine List.mem_append.mpr (Or.inr ?_); k_extra "m_mem"))
  k_with "m_sub" => (first | exact fun _ h9 => h9 | exact List.forall_mem_nil _ | exact List.forall_mem_cons.mpr ⟨by k_extra "m_mem", by k_extra "m_sub"⟩ | exact List.forall_mem_append.mpr ⟨by k_extra "m_sub", by k_extra "m_sub"⟩ | (intro q9 h9; k_extra "m_mem"))
  k_with "m_lt" => (first | assumption | exact allLtOf (by assumption) | exact ltSub (by assumption) (by k_extra "m_sub") | (rename _ ∧ AllLt _ _ => l9; exact allLtOf l9.2) | (rename _ ∧ _ ∧ AllLt _ _ => l9; exact allLtOf l9.2.2) | (rename _ ∧ _ ∧ _ ∧ AllLt _ _ => l9; exact allLtOf l9.2.2.2) | (rename _ ∧ _ ∧ _ ∧ _ ∧ AllLt _ _ => l9; exact allLtOf l9.2.2.2.2))
  k_with "m_ne" => exact neOfLt (by k_extra "m_lt")
  k_with "m_keep" => (first | exact List.forall_mem_nil _ | (refine List.forall_mem_cons.mpr ⟨(by exact rfl), ?_⟩; k_extra "m_keep"))
  k_with "pyIter ref" => k_dflt (k_extra "loop")
  k_with "exec For Name Call cons nil" => (k_here; (rename Fr _ _ _ _ => lF'); (with_unfolding_all refine' For_invVF lF' (by exact rfl) (by exact rfl) ?_; k_whole))
  k_with "exec For Name Name cons nil" => (k_here; (rename Fr _ _ _ _ => lF'); (with_unfolding_all refine' For_invVF lF' (by exact rfl) (by exact rfl) ?_; k_whole))
  k_with "exec While" => k_dflt (k_extra "while")
  k_with "exec While Compare cons nil" => k_dflt (k_extra "while")
  k_with "exec While Compare" => k_dflt (k_extra "while")
  k_with "MPost" => dsimp only [MPost]
  k_with "MEnd" => k_dflt (k_extra "turn")
  k_with "m_fit" => (first | omega | (k_extra "fit"; omega))
  k_with "call builtin:list.append" => (k_here; (with_reducible show wpAny _ _ (call (Value.builtin _) [Value.ref _, Value.int _ _]) _ _ _); k_dflt (refine m_append (by k_asm) (by k_asm) (by k_upd) (by l_ints) (by k_extra "m_fit") ?_; k_whole); intro h' F' N'; (try k_sweep))
  k_with "m_fl_end" => refine fl_end (by assumption) (by assumption) (List.Mem.head _) (by k_extra "m_sub") (by k_extra "m_sub") (by first | assumption | exact List.forall_mem_nil _) (by first | assumption | exact fun _ _ => List.forall_mem_nil _) (by l_ints) (by exact rfl) (by k_extra "m_keep") ?_
  k_with "m_small" => exact small_one (by omega) (by omega) (by omega) (by omega)
  k_with "m_room" => ((try simp only [depth_under_make, depth_under_kw, depth_in1, depth_deeper, depth_caller, units_in1, units_deeper, Around.mark_units, units_caller]); dsimp only [ktrTop]; omega)
  k_with "m_units" => ((try simp only [depth_under_make, depth_under_kw, depth_in1, depth_deeper, depth_caller, units_in1, units_deeper, Around.mark_units, units_caller]); dsimp only [ktrTop]; omega)
  k_with "binaryOp Add ref ref" => (k_here; (with_reducible show wpAny _ _ (binaryOp _ (Value.ref _) (Value.ref _)) _ _ _); k_dflt (refine kmk_add_ints (by k_asm) (by k_asm) (by is_list) (by is_list) (by l_ints) (by l_ints) ?_ (by (rw [sizeLine_eq]; (try simp only [List.length_append, List.length_cons, List.length_nil]); omega))); intro D' ws' h' F' N' l1 hI'; (try k_lt l1); (try k_sweep))
  k_with "call ref" => (k_here; k_dflt (k_extra "call"))
  k_with "subscriptTail Name Slice ref ref" => (k_here; (with_reducible show wpAny _ _ (subscriptTail _ (PySem.Expr.Slice _ _ none _) (Value.ref _) (Value.ref _)) _ _ _); k_dflt (refine kmk_slice_ints (by k_asm) (by k_asm) (by is_list) (by kmk_part) (by kmk_part) (by l_ints) (by first | exact kmk_all (by l_ints) | exact kmk_from (by l_ints) (by omega) | exact kmk_upto (by l_ints) (by omega) | exact kmk_run (by l_ints) (by omega) (by omega)) (by kmk_len) ?_ (by with_unfolding_all rfl) (by kmk_pure) (by (refine kmk_sz (by l_ints) ?_; rw [sizeLine_eq]; omega))); intro D' ws' h' F' N' l1 hI' hC' hL'; (try k_lt l1); (try k_sweep))
  k_with "compareOp Eq ref ref" => (k_here; (with_reducible show wpAny _ _ (compareOp CmpOp.Eq (Value.ref _) (Value.ref _)) _ _ _); k_dflt (refine ke_eq_ints (by is_list) (by is_list) (by l_ints) (by l_ints) (by (dsimp only [ktrTop, Around.deeper]; omega)) ?_; k_whole))
  k_with "eval ListComp" => (k_here; k_dflt (k_extra "comp"))
  k_with "call type:enumerate" => (k_here; k_dflt (k_extra "enum"))
  k_with "binaryOp Mult int int" => (k_here; k_dflt (k_extra "mul"))
  revert kX; k_fill; intro kX
  refine wpAny_call ?_
  k_dflt (refine' code_defC ?k1 ?k2 ?k3 ?k4 ?k5 ?kA ?kF ?kK ?k6 ?k7 ?k8 ?k9 ?kB ?kD ?_ ?c2 ?c3 ?c4; (case kA => exact rfl); (case kF => exact rfl); (case kK => assumption); (case k1 => k_asm); (case k2 => k_asm); (case k3 => k_asm); (case k4 => k_asm); (case k5 => k_asm); (case k6 => k_is); (case k7 => k_is); (case k8 => ktr_room); (case k9 => exact BindsTo.of_eq rfl); (case kB => exact rfl); (case kD => decide +kernel); (case c2 => exact rfl); (case c3 => exact rfl); (case c4 => exact rfl); k_whole; intro g' L' h' tk' cells' FG' F' N' Y' B' X' T' l1)
  (try k_lt l1)
  k_cells Y'
  (try simp only [List.cons_append, List.nil_append] at N')
  (try dsimp only)
  (try k_fold)
  k_with "comp" => refine en_ListComp (by k_asm) (by with_unfolding_all rfl) (by decide) (by rfl) (by decide) (by rfl) (by rfl) (by decide) ?_
  k_with "enum" => ((
    (rename Fr _ _ _ _ => F1)
    (rename News _ _ _ _ => N1)
    refine en_ints (2 ^ w1.toNat) rfl F1 N1 (by k_extra "m_mem") (by l_ints) (by assumption) (fun i x t tx C oC m2 h tk E2 hx hi ho ha hb F2 N2 => ?_) (fun ys Dd n h tk F2 N2 hys hoff => ?_)
    all_goals (try (have hroom := pow_room hw hw2 hi))
    all_goals (try (first | have hxb := dig_bound hw hw2 hcA hx | have hxb := dig_bound hw hw2 hcC hx))
    all_goals (try simp only [digs_sum0 hcA, digs_sum0 hcC])
    all_goals (try dsimp only)
    all_goals (try k_fold)))
  k_with "mul" => (rw [digs_sum0 hcC]; have p1 := can_nonneg (base_ge hw) hcA; have p2 := can_nonneg (base_ge hw) hcC; refine mul_int ?_ (PySem.IntMulOk.of_bits (big_bits p1 hvA) (big_bits p2 hvC)); (try dsimp only))
  k_with "call" => ((first
    | (refine law_limbs_spec (by assumption) (by assumption) (by assumption) (by assumption) (by assumption) (by exact rfl) (by dsimp only [ktrTop]; omega) (by dsimp only [ktrTop]; omega) hw hw2 (Int.mul_nonneg (can_nonneg (base_ge hw) hcA) (can_nonneg (base_ge hw) hcC)) hAC ?_; intro r9 us9 n9 res9 h9 tk9 F9 N9 hi9 hc9 hlt9; (try dsimp only))))
  k_steps
  all_goals (first | exact intV_of (by rw [pow_at hw]) _ | ((rename Fr _ _ _ _ => F9); (rename News _ _ _ _ => N9); exact hret _ _ _ _ _ _ F9 (newsDrop N9 (by k_extra "m_sub")) (by l_ints) (by assumption) (by k_extra "m_lt")))
end
-- F_is_even
section
theorem is_even_spec {w : World} {mean : ExcName → Option Value} {mg mb : Str → Option Value} {dp un : Nat} {gd : Option (List Code)} {cn : Str} {cs : Scope} {a : Addr} {ccd : Value} {cl : List (Str × Addr)} {outer : List Env} {A₀ : Around} {base h₀ : Heap} {L : Addr} {m : Str → Option Value} {news : List (Addr × Obj)} {s : Shared} {Q E : Value → Shared → Prop}
  (kB : Below A₀ base outer h₀) (kF : Fr h₀ L s.heap m) (kX : (KK w.params).In h₀) (kN : News h₀ L s.heap news) (kT : Top topProg LOOSE mean mg mb h₀) (hk : cs.kind = .function) (hdp : dp + 1 < recursionLimit) (hun : un + 8 < cLine)
  {w1 : Int} (hw : 0 < w1) (hw2 : w1 < 60)
  {lA : Addr} {uA : List Value} {cA : Nat} {A : List Int} {vA : Int} (hmA : (lA, listOf uA.toArray cA) ∈ news) (hiA : IntsAre uA A) (hcA : Can (2 ^ w1.toNat) A vA) (hvA : vA < 2 ^ 200)
  
  (hret : RetB h₀ L m news s Q (decide (vA % 2 = 0))) :
  wpAny (model PySem.Challenge.rw_rr0057_01.row.prog w) (ktrTop dp un gd cn cs L a ccd cl outer) (call (.ref 60) [.ref lA]) Q E s := by
  have hnA : A.length < 1000 := Nat.lt_of_le_of_lt (can_len (base_ge hw) hcA hvA) (by decide)
  w_top off
  k_with_none
  k_with "m_mem" => (first | assumption | exact List.Mem.head _ | (refine List.Mem.tail _ ?_; k_extra "m_mem") | (refine List.mem_append.mpr (Or.inl ?_); k_extra "m_mem") | (refine List.mem_append.mpr (Or.inr ?_); k_extra "m_mem"))
  k_with "m_sub" => (first | exact fun _ h9 => h9 | exact List.forall_mem_nil _ | exact List.forall_mem_cons.mpr ⟨by k_extra "m_mem", by k_extra "m_sub"⟩ | exact List.forall_mem_append.mpr ⟨by k_extra "m_sub", by k_extra "m_sub"⟩ | (intro q9 h9; k_extra "m_mem"))
  k_with "m_lt" => (first | assumption | exact allLtOf (by assumption) | exact ltSub (by assumption) (by k_extra "m_sub") | (rename _ ∧ AllLt _ _ => l9; exact allLtOf l9.2) | (rename _ ∧ _ ∧ AllLt _ _ => l9; exact allLtOf l9.2.2) | (rename _ ∧ _ ∧ _ ∧ AllLt _ _ => l9; exact allLtOf l9.2.2.2) | (rename _ ∧ _ ∧ _ ∧ _ ∧ AllLt _ _ => l9; exact allLtOf l9.2.2.2.2))
  k_with "m_ne" => exact neOfLt (by k_extra "m_lt")
  k_with "m_keep" => (first | exact List.forall_mem_nil _ | (refine List.forall_mem_cons.mpr ⟨(by exact rfl), ?_⟩; k_extra "m_keep"))
  k_with "pyIter ref" => k_dflt (k_extra "loop")
  k_with "exec For Name Call cons nil" => (k_here; (rename Fr _ _ _ _ => lF'); (with_unfolding_all refine' For_invVF lF' (by exact rfl) (by exact rfl) ?_; k_whole))
  k_with "exec For Name Name cons nil" => (k_here; (rename Fr _ _ _ _ => lF'); (with_unfolding_all refine' For_invVF lF' (by exact rfl) (by exact rfl) ?_; k_whole))
  k_with "exec While" => k_dflt (k_extra "while")
  k_with "exec While Compare cons nil" => k_dflt (k_extra "while")
  k_with "exec While Compare" => k_dflt (k_extra "while")
  k_with "MPost" => dsimp only [MPost]
  k_with "MEnd" => k_dflt (k_extra "turn")
  k_with "m_fit" => (first | omega | (k_extra "fit"; omega))
  k_with "call builtin:list.append" => (k_here; (with_reducible show wpAny _ _ (call (Value.builtin _) [Value.ref _, Value.int _ _]) _ _ _); k_dflt (refine m_append (by k_asm) (by k_asm) (by k_upd) (by l_ints) (by k_extra "m_fit") ?_; k_whole); intro h' F' N'; (try k_sweep))
  k_with "m_fl_end" => refine fl_end (by assumption) (by assumption) (List.Mem.head _) (by k_extra "m_sub") (by k_extra "m_sub") (by first | assumption | exact List.forall_mem_nil _) (by first | assumption | exact fun _ _ => List.forall_mem_nil _) (by l_ints) (by exact rfl) (by k_extra "m_keep") ?_
  k_with "m_small" => exact small_one (by omega) (by omega) (by omega) (by omega)
  k_with "m_room" => ((try simp only [depth_under_make, depth_under_kw, depth_in1, depth_deeper, depth_caller, units_in1, units_deeper, Around.mark_units, units_caller]); dsimp only [ktrTop]; omega)
  k_with "m_units" => ((try simp only [depth_under_make, depth_under_kw, depth_in1, depth_deeper, depth_caller, units_in1, units_deeper, Around.mark_units, units_caller]); dsimp only [ktrTop]; omega)
  k_with "binaryOp Add ref ref" => (k_here; (with_reducible show wpAny _ _ (binaryOp _ (Value.ref _) (Value.ref _)) _ _ _); k_dflt (refine kmk_add_ints (by k_asm) (by k_asm) (by is_list) (by is_list) (by l_ints) (by l_ints) ?_ (by (rw [sizeLine_eq]; (try simp only [List.length_append, List.length_cons, List.length_nil]); omega))); intro D' ws' h' F' N' l1 hI'; (try k_lt l1); (try k_sweep))
  k_with "call ref" => (k_here; k_dflt (k_extra "call"))
  k_with "subscriptTail Name Slice ref ref" => (k_here; (with_reducible show wpAny _ _ (subscriptTail _ (PySem.Expr.Slice _ _ none _) (Value.ref _) (Value.ref _)) _ _ _); k_dflt (refine kmk_slice_ints (by k_asm) (by k_asm) (by is_list) (by kmk_part) (by kmk_part) (by l_ints) (by first | exact kmk_all (by l_ints) | exact kmk_from (by l_ints) (by omega) | exact kmk_upto (by l_ints) (by omega) | exact kmk_run (by l_ints) (by omega) (by omega)) (by kmk_len) ?_ (by with_unfolding_all rfl) (by kmk_pure) (by (refine kmk_sz (by l_ints) ?_; rw [sizeLine_eq]; omega))); intro D' ws' h' F' N' l1 hI' hC' hL'; (try k_lt l1); (try k_sweep))
  k_with "compareOp Eq ref ref" => (k_here; (with_reducible show wpAny _ _ (compareOp CmpOp.Eq (Value.ref _) (Value.ref _)) _ _ _); k_dflt (refine ke_eq_ints (by is_list) (by is_list) (by l_ints) (by l_ints) (by (dsimp only [ktrTop, Around.deeper]; omega)) ?_; k_whole))
  revert kX; k_fill; intro kX
  refine wpAny_call ?_
  k_dflt ktr_enter
  have e1 := even_fin hw hcA
  have e2 := even_nil hcA
  k_steps
  all_goals ((rename Fr _ _ _ _ => F9); (rename News _ _ _ _ => N9); first
    | (rw [e1, beq_dec]; exact hret _ _ F9 N9)
    | (rw [even_dec (by assumption) e2]; exact hret _ _ F9 N9))
end
-- F_shift_right
section
theorem shift_right_spec {w : World} {mean : ExcName → Option Value} {mg mb : Str → Option Value} {dp un : Nat} {gd : Option (List Code)} {cn : Str} {cs : Scope} {a : Addr} {ccd : Value} {cl : List (Str × Addr)} {outer : List Env} {A₀ : Around} {base h₀ : Heap} {L : Addr} {m : Str → Option Value} {news : List (Addr × Obj)} {s : Shared} {Q E : Value → Shared → Prop}
  (kB : Below A₀ base outer h₀) (kF : Fr h₀ L s.heap m) (kX : (KK w.params).In h₀) (kN : News h₀ L s.heap news) (kT : Top topProg LOOSE mean mg mb h₀) (hk : cs.kind = .function) (hdp : dp + 2 < recursionLimit) (hun : un + 16 < cLine)
  {w1 : Int} (hw : 0 < w1) (hw2 : w1 < 60)
  {lA : Addr} {uA : List Value} {cA : Nat} {A : List Int} {vA : Int} (hmA : (lA, listOf uA.toArray cA) ∈ news) (hiA : IntsAre uA A) (hcA : Can (2 ^ w1.toNat) A vA) (hvA : vA < 2 ^ 200)
  {k : Int} {tk : Tok}
  {tw : Tok}
  (hk0 : 0 ≤ k) (hk1 : k < 200)
  (hret : RetC h₀ L m news s Q (2 ^ w1.toNat) (vA / 2 ^ k.toNat)) :
  wpAny (model PySem.Challenge.rw_rr0057_01.row.prog w) (ktrTop dp un gd cn cs L a ccd cl outer) (call (.ref 102) [.ref lA, .int k tk, .int w1 tw]) Q E s := by
  have hnA : A.length < 1000 := Nat.lt_of_le_of_lt (can_len (base_ge hw) hcA hvA) (by decide)
  w_top off
  k_with_none
  k_with "m_mem" => (first | assumption | exact List.Mem.head _ | (refine List.Mem.tail _ ?_; k_extra "m_mem") | (refine List.mem_append.mpr (Or.inl ?_); k_extra "m_mem") | (refine List.mem_append.mpr (Or.inr ?_); k_extra "m_mem"))
  k_with "m_sub" => (first | exact fun _ h9 => h9 | exact List.forall_mem_nil _ | exact List.forall_mem_cons.mpr ⟨by k_extra "m_mem", by k_extra "m_sub"⟩ | exact List.forall_mem_append.mpr ⟨by k_extra "m_sub", by k_extra "m_sub"⟩ | (intro q9 h9; k_extra "m_mem"))
  k_with "m_lt" => (first | assumption | exact allLtOf (by assumption) | exact ltSub (by assumption) (by k_extra "m_sub") | (rename _ ∧ AllLt _ _ => l9; exact allLtOf l9.2) | (rename _ ∧ _ ∧ AllLt _ _ => l9; exact allLtOf l9.2.2) | (rename _ ∧ _ ∧ _ ∧ AllLt _ _ => l9; exact allLtOf l9.2.2.2) | (rename _ ∧ _ ∧ _ ∧ _ ∧ AllLt _ _ => l9; exact allLtOf l9.2.2.2.2))
  k_with "m_ne" => exact neOfLt (by k_extra "m_lt")
  k_with "m_keep" => (first | exact List.forall_mem_nil _ | (refine List.forall_mem_cons.mpr ⟨(by exact rfl), ?_⟩; k_extra "m_keep"))
  k_with "pyIter ref" => k_dflt (k_extra "loop")
  k_with "exec For Name Call cons nil" => (k_here; (rename Fr _ _ _ _ => lF'); (with_unfolding_all refine' For_invVF lF' (by exact rfl) (by exact rfl) ?_; k_whole))
  k_with "exec For Name Name cons nil" => (k_here; (rename Fr _ _ _ _ => lF'); (with_unfolding_all refine' For_invVF lF' (by exact rfl) (by exact rfl) ?_; k_whole))
  k_with "exec While" => k_dflt (k_extra "while")
  k_with "exec While Compare cons nil" => k_dflt (k_extra "while")
  k_with "exec While Compare" => k_dflt (k_extra "while")
  k_with "MPost" => dsimp only [MPost]
  k_with "MEnd" => k_dflt (k_extra "turn")
  k_with "m_fit" => (first | omega | (k_extra "fit"; omega))
  k_with "call builtin:list.append" => (k_here; (with_reducible show wpAny _ _ (call (Value.builtin _) [Value.ref _, Value.int _ _]) _ _ _); k_dflt (refine m_append (by k_asm) (by k_asm) (by k_upd) (by l_ints) (by k_extra "m_fit") ?_; k_whole); intro h' F' N'; (try k_sweep))
  k_with "m_fl_end" => refine fl_end (by assumption) (by assumption) (List.Mem.head _) (by k_extra "m_sub") (by k_extra "m_sub") (by first | assumption | exact List.forall_mem_nil _) (by first | assumption | exact fun _ _ => List.forall_mem_nil _) (by l_ints) (by exact rfl) (by k_extra "m_keep") ?_
  k_with "m_small" => exact small_one (by omega) (by omega) (by omega) (by omega)
  k_with "m_room" => ((try simp only [depth_under_make, depth_under_kw, depth_in1, depth_deeper, depth_caller, units_in1, units_deeper, Around.mark_units, units_caller]); dsimp only [ktrTop]; omega)
  k_with "m_units" => ((try simp only [depth_under_make, depth_under_kw, depth_in1, depth_deeper, depth_caller, units_in1, units_deeper, Around.mark_units, units_caller]); dsimp only [ktrTop]; omega)
  k_with "binaryOp Add ref ref" => (k_here; (with_reducible show wpAny _ _ (binaryOp _ (Value.ref _) (Value.ref _)) _ _ _); k_dflt (refine kmk_add_ints (by k_asm) (by k_asm) (by is_list) (by is_list) (by l_ints) (by l_ints) ?_ (by (rw [sizeLine_eq]; (try simp only [List.length_append, List.length_cons, List.length_nil]); omega))); intro D' ws' h' F' N' l1 hI'; (try k_lt l1); (try k_sweep))
  k_with "call ref" => (k_here; k_dflt (k_extra "call"))
  k_with "subscriptTail Name Slice ref ref" => (k_here; (with_reducible show wpAny _ _ (subscriptTail _ (PySem.Expr.Slice _ _ none _) (Value.ref _) (Value.ref _)) _ _ _); k_dflt (refine kmk_slice_ints (by k_asm) (by k_asm) (by is_list) (by kmk_part) (by kmk_part) (by l_ints) (by first | exact kmk_all (by l_ints) | exact kmk_from (by l_ints) (by omega) | exact kmk_upto (by l_ints) (by omega) | exact kmk_run (by l_ints) (by omega) (by omega)) (by kmk_len) ?_ (by with_unfolding_all rfl) (by kmk_pure) (by (refine kmk_sz (by l_ints) ?_; rw [sizeLine_eq]; omega))); intro D' ws' h' F' N' l1 hI' hC' hL'; (try k_lt l1); (try k_sweep))
  k_with "compareOp Eq ref ref" => (k_here; (with_reducible show wpAny _ _ (compareOp CmpOp.Eq (Value.ref _) (Value.ref _)) _ _ _); k_dflt (refine ke_eq_ints (by is_list) (by is_list) (by l_ints) (by l_ints) (by (dsimp only [ktrTop, Around.deeper]; omega)) ?_; k_whole))
  revert kX; k_fill; intro kX
  refine wpAny_call ?_
  k_dflt ktr_enter
  have hq := fdiv_facts hw hk0
  have hm := fmod_facts (k := k) hw
  have hrA := hcA.1
  k_with "fit" => have h9 := ShrInv.len (by assumption)
  k_with "call" => (((rename ShrInv _ _ _ _ _ => hI9); have hE := shr_end hw hk0 hcA rfl hI9; have hL := hI9.len; refine normal_spec (by assumption) (by assumption) (by assumption) (by assumption) (by assumption) (by exact rfl) (by dsimp only [ktrTop]; omega) (by dsimp only [ktrTop]; omega) (by k_extra "m_mem") (by l_ints) hw hE.1 (by omega) ?_; rw [hE.2]; intro r9 us9 n9 res9 h9 tk9 F9 N9 hi9 hc9 hlt9; (try dsimp only)))
  k_with "turn" => ((k_extra "m_fl_end"; (rename ShrInv _ _ _ _ _ => hI9); first
    | exact shr_step hm.1 hm.2 hq.1 hrA hI9 (by assumption) (by assumption) _ rfl
    | exact shr_step hm.1 hm.2 hq.1 hrA hI9 (by assumption) (by assumption) 0 (getD_out (by omega)).symm))
  k_with "loop" => ((
    (rename IsRange _ _ _ _ _ _ _ _ => rgX)
    (rename Fr _ _ _ _ => F1)
    (rename News _ _ _ _ => N1)
    refine fl_range (base := news) (y := "n") [("found", _), ("mask", _), ("a", _), ("few", _), ("w", _)] (fun i F _ => ShrInv (2 ^ w1.toNat) (2 ^ (k.fmod w1).toNat) (A.drop (k.fdiv w1).toNat) i F) rfl rgX (by k_extra "m_small") rfl F1 N1 (by exact rfl) (by k_extra "m_keep") (by k_extra "m_mem") (by k_extra "m_sub") (by k_extra "m_ne") (by l_ints) shr_start (fun i x tx us F n c t u h tk' own hk hlt h1 h2 h3 hi hI hF hN => ?_) (fun us F n c t u h tk' hi hI hF hN => ?_)
    all_goals (try (have hx := item_small hw2 hrA (x + 1).toNat))
    all_goals (try k_fold)))
  k_steps
  all_goals ((rename Fr _ _ _ _ => F9); (rename News _ _ _ _ => N9); first | exact hret _ _ _ _ _ _ F9 (newsDrop N9 (by k_extra "m_sub")) (by l_ints) (by assumption) (by k_extra "m_lt"))
end
-- F_joined_rests
section
theorem joined_rests_spec {w : World} {mean : ExcName → Option Value} {mg mb : Str → Option Value} {dp un : Nat} {gd : Option (List Code)} {cn : Str} {cs : Scope} {a : Addr} {ccd : Value} {cl : List (Str × Addr)} {outer : List Env} {A₀ : Around} {base h₀ : Heap} {L : Addr} {m : Str → Option Value} {news : List (Addr × Obj)} {s : Shared} {Q E : Value → Shared → Prop}
  (kB : Below A₀ base outer h₀) (kF : Fr h₀ L s.heap m) (kX : (KK w.params).In h₀) (kN : News h₀ L s.heap news) (kT : Top topProg LOOSE mean mg mb h₀) (hk : cs.kind = .function) (hdp : dp + 15 < recursionLimit) (hun : un + 120 < cLine)
  {w1 : Int} (hw : 0 < w1) (hw2 : w1 < 60)
  {lA : Addr} {uA : List Value} {cA : Nat} {A : List Int} {vA : Int} (hmA : (lA, listOf uA.toArray cA) ∈ news) (hiA : IntsAre uA A) (hcA : Can (2 ^ w1.toNat) A vA) (hvA : vA < 2 ^ 200)
  {lP : Addr} {uP : List Value} {cP : Nat} {P : List Int} {vP : Int} (hmP : (lP, listOf uP.toArray cP) ∈ news) (hiP : IntsAre uP P) (hcP : Can (2 ^ w1.toNat) P vP) (hvP : vP < 2 ^ 200)
  {k : Int} {tk : Tok}
  {tw : Tok}
  {X : Int} (hw3 : 1 < w1) (hk0 : 1 ≤ k) (hk1 : k < 50) (hBk : ((2 : Int) ^ w1.toNat) ^ k.toNat < 2 ^ 70) (hXm : vA = X % ((2 ^ w1.toNat) ^ k.toNat - 1)) (hXp : vP = X % ((2 ^ w1.toNat) ^ k.toNat + 1))
  (hret : RetC h₀ L m news s Q (2 ^ w1.toNat) (X % ((2 ^ w1.toNat) ^ (2 * k).toNat - 1))) :
  wpAny (model PySem.Challenge.rw_rr0057_01.row.prog w) (ktrTop dp un gd cn cs L a ccd cl outer) (call (.ref 144) [.ref lA, .ref lP, .int k tk, .int w1 tw]) Q E s := by
  have hB4 := pow_ge4 hw3 hk0
  have hBe := pow_even hw hk0
  have hBB := sq_pow (b := 2 ^ w1.toNat) (k := k) (by omega)
  have hbb := sq_bound (show (0 : Int) ≤ (2 ^ w1.toNat) ^ k.toNat by omega) hBk
  rw [← hBB] at hbb
  have hA0 := Int.emod_nonneg X (show ((2 : Int) ^ w1.toNat) ^ k.toNat - 1 ≠ 0 by omega)
  have hA1 := Int.emod_lt_of_pos X (show (0 : Int) < (2 ^ w1.toNat) ^ k.toNat - 1 by omega)
  rw [← hXm] at hA0 hA1
  have hP0 := Int.emod_nonneg X (show ((2 : Int) ^ w1.toNat) ^ k.toNat + 1 ≠ 0 by omega)
  have hP1 := Int.emod_lt_of_pos X (show (0 : Int) < (2 ^ w1.toNat) ^ k.toNat + 1 by omega)
  rw [← hXp] at hP0 hP1
  have hr0 := Int.emod_nonneg vP (show ((2 : Int) ^ w1.toNat) ^ k.toNat - 1 ≠ 0 by omega)
  have hr1 := Int.emod_lt_of_pos vP (show (0 : Int) < (2 ^ w1.toNat) ^ k.toNat - 1 by omega)
  have hmod := can_mod hw k.toNat
  w_top off
  k_with_none
  k_with "m_mem" => (first | assumption | exact List.Mem.head _ | (refine List.Mem.tail _ ?_; k_extra "m_mem") | (refine List.mem_append.mpr (Or.inl ?_); k_extra "m_mem") | (refine List.mem_append.mpr (Or.inr ?_); k_extra "m_mem"))
  k_with "m_sub" => (first | exact fun _ h9 => h9 | exact List.forall_mem_nil _ | exact List.forall_mem_cons.mpr ⟨by k_extra "m_mem", by k_extra "m_sub"⟩ | exact List.forall_mem_append.mpr ⟨by k_extra "m_sub", by k_extra "m_sub"⟩ | (intro q9 h9; k_extra "m_mem"))
  k_with "m_lt" => (first | assumption | exact allLtOf (by assumption) | exact ltSub (by assumption) (by k_extra "m_sub") | (rename _ ∧ AllLt _ _ => l9; exact allLtOf l9.2) | (rename _ ∧ _ ∧ AllLt _ _ => l9; exact allLtOf l9.2.2) | (rename _ ∧ _ ∧ _ ∧ AllLt _ _ => l9; exact allLtOf l9.2.2.2) | (rename _ ∧ _ ∧ _ ∧ _ ∧ AllLt _ _ => l9; exact allLtOf l9.2.2.2.2))
  k_with "m_ne" => exact neOfLt (by k_extra "m_lt")
  k_with "m_keep" => (first | exact List.forall_mem_nil _ | (refine List.forall_mem_cons.mpr ⟨(by exact rfl), ?_⟩; k_extra "m_keep"))
  k_with "pyIter ref" => k_dflt (k_extra "loop")
  k_with "exec For Name Call cons nil" => (k_here; (rename Fr _ _ _ _ => lF'); (with_unfolding_all refine' For_invVF lF' (by exact rfl) (by exact rfl) ?_; k_whole))
  k_with "exec For Name Name cons nil" => (k_here; (rename Fr _ _ _ _ => lF'); (with_unfolding_all refine' For_invVF lF' (by exact rfl) (by exact rfl) ?_; k_whole))
  k_with "exec While" => k_dflt (k_extra "while")
  k_with "exec While Compare cons nil" => k_dflt (k_extra "while")
  k_with "exec While Compare" => k_dflt (k_extra "while")
  k_with "MPost" => dsimp only [MPost]
  k_with "MEnd" => k_dflt (k_extra "turn")
  k_with "m_fit" => (first | omega | (k_extra "fit"; omega))
  k_with "call builtin:list.append" => (k_here; (with_reducible show wpAny _ _ (call (Value.builtin _) [Value.ref _, Value.int _ _]) _ _ _); k_dflt (refine m_append (by k_asm) (by k_asm) (by k_upd) (by l_ints) (by k_extra "m_fit") ?_; k_whole); intro h' F' N'; (try k_sweep))
  k_with "m_fl_end" => refine fl_end (by assumption) (by assumption) (List.Mem.head _) (by k_extra "m_sub") (by k_extra "m_sub") (by first | assumption | exact List.forall_mem_nil _) (by first | assumption | exact fun _ _ => List.forall_mem_nil _) (by l_ints) (by exact rfl) (by k_extra "m_keep") ?_
  k_with "m_small" => exact small_one (by omega) (by omega) (by omega) (by omega)
  k_with "m_room" => ((try simp only [depth_under_make, depth_under_kw, depth_in1, depth_deeper, depth_caller, units_in1, units_deeper, Around.mark_units, units_caller]); dsimp only [ktrTop]; omega)
  k_with "m_units" => ((try simp only [depth_under_make, depth_under_kw, depth_in1, depth_deeper, depth_caller, units_in1, units_deeper, Around.mark_units, units_caller]); dsimp only [ktrTop]; omega)
  k_with "binaryOp Add ref ref" => (k_here; (with_reducible show wpAny _ _ (binaryOp _ (Value.ref _) (Value.ref _)) _ _ _); k_dflt (refine kmk_add_ints (by k_asm) (by k_asm) (by is_list) (by is_list) (by l_ints) (by l_ints) ?_ (by (rw [sizeLine_eq]; (try simp only [List.length_append, List.length_cons, List.length_nil]); omega))); intro D' ws' h' F' N' l1 hI'; (try k_lt l1); (try k_sweep))
  k_with "call ref" => (k_here; k_dflt (k_extra "call"))
  k_with "subscriptTail Name Slice ref ref" => (k_here; (with_reducible show wpAny _ _ (subscriptTail _ (PySem.Expr.Slice _ _ none _) (Value.ref _) (Value.ref _)) _ _ _); k_dflt (refine kmk_slice_ints (by k_asm) (by k_asm) (by is_list) (by kmk_part) (by kmk_part) (by l_ints) (by first | exact kmk_all (by l_ints) | exact kmk_from (by l_ints) (by omega) | exact kmk_upto (by l_ints) (by omega) | exact kmk_run (by l_ints) (by omega) (by omega)) (by kmk_len) ?_ (by with_unfolding_all rfl) (by kmk_pure) (by (refine kmk_sz (by l_ints) ?_; rw [sizeLine_eq]; omega))); intro D' ws' h' F' N' l1 hI' hC' hL'; (try k_lt l1); (try k_sweep))
  k_with "compareOp Eq ref ref" => (k_here; (with_reducible show wpAny _ _ (compareOp CmpOp.Eq (Value.ref _) (Value.ref _)) _ _ _); k_dflt (refine ke_eq_ints (by is_list) (by is_list) (by l_ints) (by l_ints) (by (dsimp only [ktrTop, Around.deeper]; omega)) ?_; k_whole))
  revert kX; k_fill; intro kX
  refine wpAny_call ?_
  k_dflt ktr_enter
  k_with "call" => ((first
    | ((with_reducible show wpAny _ _ (PySem.call (Value.ref 67) _) _ _ _); refine compare_spec (by assumption) (by assumption) (by assumption) (by assumption) (by assumption) (by exact rfl) (by dsimp only [ktrTop]; omega) (by dsimp only [ktrTop]; omega) hw hw2 (by k_extra "m_mem") (by l_ints) (by assumption) (by omega) (by k_extra "m_mem") (by l_ints) (by assumption) (by omega) ?_; intro c9 t9 h9 tk9 hlt9 hgt9 F9 N9; (try dsimp only))
    | ((with_reducible show wpAny _ _ (PySem.call (Value.ref 81) _) _ _ _); refine sub_spec (by assumption) (by assumption) (by assumption) (by assumption) (by assumption) (by exact rfl) (by dsimp only [ktrTop]; omega) (by dsimp only [ktrTop]; omega) hw hw2 (by k_extra "m_mem") (by l_ints) (by assumption) (by omega) (by k_extra "m_mem") (by l_ints) (by assumption) (by omega) (by omega) ?_; intro r9 us9 n9 res9 h9 tk9 F9 N9 hi9 hc9 hlt9; (try dsimp only); (first | (have hx := jr_way0 (B := (2 ^ w1.toNat) ^ k.toNat) hc9 (by omega) (by omega) (by omega)) | (have hx := jr_way1 (B := (2 ^ w1.toNat) ^ k.toNat) hc9 (by omega) (by omega) (by omega))); clear hc9; obtain ⟨wv, q, hcw, hwq, hw0, hw1⟩ := hx)
    | ((with_reducible show wpAny _ _ (PySem.call (Value.ref 74) _) _ _ _); refine add_spec (by assumption) (by assumption) (by assumption) (by assumption) (by assumption) (by exact rfl) (by dsimp only [ktrTop]; omega) (by dsimp only [ktrTop]; omega) hw hw2 (by k_extra "m_mem") (by l_ints) (by assumption) (by omega) (by k_extra "m_mem") (by l_ints) (by assumption) (by omega) ?_; intro r9 us9 n9 res9 h9 tk9 F9 N9 hi9 hc9 hlt9; (try dsimp only))
    | ((with_reducible show wpAny _ _ (PySem.call (Value.ref 60) _) _ _ _); refine is_even_spec (by assumption) (by assumption) (by assumption) (by assumption) (by assumption) (by exact rfl) (by dsimp only [ktrTop]; omega) (by dsimp only [ktrTop]; omega) hw hw2 (by k_extra "m_mem") (by l_ints) (by assumption) (by omega) ?_; intro h9 tk9 F9 N9; (try dsimp only))
    | ((with_reducible show wpAny _ _ (PySem.call (Value.ref 102) _) _ _ _); refine shift_right_spec (by assumption) (by assumption) (by assumption) (by assumption) (by assumption) (by exact rfl) (by dsimp only [ktrTop]; omega) (by dsimp only [ktrTop]; omega) hw hw2 (by k_extra "m_mem") (by l_ints) (by assumption) (by omega) (by omega) (by omega) ?_; intro r9 us9 n9 res9 h9 tk9 F9 N9 hi9 hc9 hlt9; (try dsimp only); (first | (have hx := jr_half0 hB4 hBe hBB hXm hXp hwq hw0 hw1 hc9 (by omega)) | (have hx := jr_half1 hB4 hBe hBB hXm hXp hwq hw0 hw1 hc9 (by omega))); clear hc9; obtain ⟨hf, hch, hh0, hh1, hh2, hh3, hh4⟩ := hx)
    | ((with_reducible show wpAny _ _ (PySem.call (Value.ref 88) _) _ _ _); refine lifted_spec (by assumption) (by assumption) (by assumption) (by assumption) (by assumption) (by exact rfl) (by dsimp only [ktrTop]; omega) (by dsimp only [ktrTop]; omega) hw hw2 (by k_extra "m_mem") (by l_ints) (by assumption) (by omega) (by omega) (by omega) ?_; intro r9 us9 n9 res9 h9 tk9 F9 N9 hi9 hc9 hlt9; (try dsimp only))
    | ((with_reducible show wpAny _ _ (PySem.call (Value.ref 130) _) _ _ _); refine fold_minus_spec (by assumption) (by assumption) (by assumption) (by assumption) (by assumption) (by exact rfl) (by dsimp only [ktrTop]; omega) (by dsimp only [ktrTop]; omega) hw hw2 (by k_extra "m_mem") (by l_ints) (by assumption) (by omega) (by omega) (by omega) ?_; intro r9 us9 n9 res9 h9 tk9 F9 N9 hi9 hc9 hO9; (try dsimp only))))
  k_steps
  all_goals ((rename Fr _ _ _ _ => F9); (rename News _ _ _ _ => N9); rcases hO9 with e9 | e9; (try subst e9); all_goals (first | (rw [hh4] at hc9; exact hret _ _ _ _ _ _ F9 (newsDrop N9 (by k_extra "m_sub")) (by l_ints) (by assumption) (by k_extra "m_lt"))))
end
-- F_wrapped_product
section
noncomputable def WpC (N : Nat) : Prop := ∀ {w : World} {mean : ExcName → Option Value} {mg mb : Str → Option Value} {dp un : Nat} {gd : Option (List Code)} {cn : Str} {cs : Scope} {a : Addr} {ccd : Value} {cl : List (Str × Addr)} {outer : List Env} {A₀ : Around} {base h₀ : Heap} {L : Addr} {m : Str → Option Value} {news : List (Addr × Obj)} {s : Shared} {Q E : Value → Shared → Prop}
  (kB : Below A₀ base outer h₀) (kF : Fr h₀ L s.heap m) (kX : (KK w.params).In h₀) (kN : News h₀ L s.heap news) (kT : Top topProg LOOSE mean mg mb h₀) (hk : cs.kind = .function) (hdp : dp + (25 + N) < recursionLimit) (hun : un + 8 * (25 + N) < cLine)
  {w1 : Int} (hw : 0 < w1) (hw2 : w1 < 60)
  {lA : Addr} {uA : List Value} {cA : Nat} {A : List Int} {vA : Int} (hmA : (lA, listOf uA.toArray cA) ∈ news) (hiA : IntsAre uA A) (hcA : Can (2 ^ w1.toNat) A vA) (hvA : vA < 2 ^ 200)
  {lB : Addr} {uB : List Value} {cB : Nat} {B : List Int} {vB : Int} (hmB : (lB, listOf uB.toArray cB) ∈ news) (hiB : IntsAre uB B) (hcB : Can (2 ^ w1.toNat) B vB) (hvB : vB < 2 ^ 200)
  {k : Int} {tk : Tok}
  {tw : Tok}
  {least : Int} {tleast : Tok}
 
  (hw3 : 1 < w1) (hk0 : 1 ≤ k) (hkN : k < N) (hBk : ((2 : Int) ^ w1.toNat) ^ k.toNat < 2 ^ 70) (hN : N < 20)
  (hret : RetC h₀ L m news s Q (2 ^ w1.toNat) (vA * vB % ((2 ^ w1.toNat) ^ k.toNat - 1))),
  wpAny (model PySem.Challenge.rw_rr0057_01.row.prog w) (ktrTop dp un gd cn cs L a ccd cl outer) (call (.ref 151) [.ref lA, .ref lB, .int k tk, .int w1 tw, .int least tleast, .ref 226]) Q E s
theorem wp_step {N : Nat} (IH : WpC N) {w : World} {mean : ExcName → Option Value} {mg mb : Str → Option Value} {dp un : Nat} {gd : Option (List Code)} {cn : Str} {cs : Scope} {a : Addr} {ccd : Value} {cl : List (Str × Addr)} {outer : List Env} {A₀ : Around} {base h₀ : Heap} {L : Addr} {m : Str → Option Value} {news : List (Addr × Obj)} {s : Shared} {Q E : Value → Shared → Prop}
  (kB : Below A₀ base outer h₀) (kF : Fr h₀ L s.heap m) (kX : (KK w.params).In h₀) (kN : News h₀ L s.heap news) (kT : Top topProg LOOSE mean mg mb h₀) (hk : cs.kind = .function) (hdp : dp + (25 + (N + 1)) < recursionLimit) (hun : un + 8 * (25 + (N + 1)) < cLine)
  {w1 : Int} (hw : 0 < w1) (hw2 : w1 < 60)
  {lA : Addr} {uA : List Value} {cA : Nat} {A : List Int} {vA : Int} (hmA : (lA, listOf uA.toArray cA) ∈ news) (hiA : IntsAre uA A) (hcA : Can (2 ^ w1.toNat) A vA) (hvA : vA < 2 ^ 200)
  {lB : Addr} {uB : List Value} {cB : Nat} {B : List Int} {vB : Int} (hmB : (lB, listOf uB.toArray cB) ∈ news) (hiB : IntsAre uB B) (hcB : Can (2 ^ w1.toNat) B vB) (hvB : vB < 2 ^ 200)
  {k : Int} {tk : Tok}
  {tw : Tok}
  {least : Int} {tleast : Tok}
 
  (hw3 : 1 < w1) (hk0 : 1 ≤ k) (hkN : k < (N : Int) + 1) (hBk : ((2 : Int) ^ w1.toNat) ^ k.toNat < 2 ^ 70) (hN : N + 1 < 20)
  (hret : RetC h₀ L m news s Q (2 ^ w1.toNat) (vA * vB % ((2 ^ w1.toNat) ^ k.toNat - 1))) :
  wpAny (model PySem.Challenge.rw_rr0057_01.row.prog w) (ktrTop dp un gd cn cs L a ccd cl outer) (call (.ref 151) [.ref lA, .ref lB, .int k tk, .int w1 tw, .int least tleast, .ref 226]) Q E s := by
  unfold WpC at IH
  have hN : N < 20 := by omega
  have hB4 := pow_ge4 hw3 hk0
  have hfk := wp_facts (vA := vA) (vB := vB) hB4 hBk
  have hkm : (N : Int) < 20 := by omega
  w_top off
  k_with_none
  k_with "m_mem" => (first | assumption | exact List.Mem.head _ | (refine List.Mem.tail _ ?_; k_extra "m_mem") | (refine List.mem_append.mpr (Or.inl ?_); k_extra "m_mem") | (refine List.mem_append.mpr (Or.inr ?_); k_extra "m_mem"))
  k_with "m_sub" => (first | exact fun _ h9 => h9 | exact List.forall_mem_nil _ | exact List.forall_mem_cons.mpr ⟨by k_extra "m_mem", by k_extra "m_sub"⟩ | exact List.forall_mem_append.mpr ⟨by k_extra "m_sub", by k_extra "m_sub"⟩ | (intro q9 h9; k_extra "m_mem"))
  k_with "m_lt" => (first | assumption | exact allLtOf (by assumption) | exact ltSub (by assumption) (by k_extra "m_sub") | (rename _ ∧ AllLt _ _ => l9; exact allLtOf l9.2) | (rename _ ∧ _ ∧ AllLt _ _ => l9; exact allLtOf l9.2.2) | (rename _ ∧ _ ∧ _ ∧ AllLt _ _ => l9; exact allLtOf l9.2.2.2) | (rename _ ∧ _ ∧ _ ∧ _ ∧ AllLt _ _ => l9; exact allLtOf l9.2.2.2.2))
  k_with "m_ne" => exact neOfLt (by k_extra "m_lt")
  k_with "m_keep" => (first | exact List.forall_mem_nil _ | (refine List.forall_mem_cons.mpr ⟨(by exact rfl), ?_⟩; k_extra "m_keep"))
  k_with "pyIter ref" => k_dflt (k_extra "loop")
  k_with "exec For Name Call cons nil" => (k_here; (rename Fr _ _ _ _ => lF'); (with_unfolding_all refine' For_invVF lF' (by exact rfl) (by exact rfl) ?_; k_whole))
  k_with "exec For Name Name cons nil" => (k_here; (rename Fr _ _ _ _ => lF'); (with_unfolding_all refine' For_invVF lF' (by exact rfl) (by exact rfl) ?_; k_whole))
  k_with "exec While" => k_dflt (k_extra "while")
  k_with "exec While Compare cons nil" => k_dflt (k_extra "while")
  k_with "exec While Compare" => k_dflt (k_extra "while")
  k_with "MPost" => dsimp only [MPost]
  k_with "MEnd" => k_dflt (k_extra "turn")
  k_with "m_fit" => (first | omega | (k_extra "fit"; omega))
  k_with "call builtin:list.append" => (k_here; (with_reducible show wpAny _ _ (call (Value.builtin _) [Value.ref _, Value.int _ _]) _ _ _); k_dflt (refine m_append (by k_asm) (by k_asm) (by k_upd) (by l_ints) (by k_extra "m_fit") ?_; k_whole); intro h' F' N'; (try k_sweep))
  k_with "m_fl_end" => refine fl_end (by assumption) (by assumption) (List.Mem.head _) (by k_extra "m_sub") (by k_extra "m_sub") (by first | assumption | exact List.forall_mem_nil _) (by first | assumption | exact fun _ _ => List.forall_mem_nil _) (by l_ints) (by exact rfl) (by k_extra "m_keep") ?_
  k_with "m_small" => exact small_one (by omega) (by omega) (by omega) (by omega)
  k_with "m_room" => ((try simp only [depth_under_make, depth_under_kw, depth_in1, depth_deeper, depth_caller, units_in1, units_deeper, Around.mark_units, units_caller]); dsimp only [ktrTop]; omega)
  k_with "m_units" => ((try simp only [depth_under_make, depth_under_kw, depth_in1, depth_deeper, depth_caller, units_in1, units_deeper, Around.mark_units, units_caller]); dsimp only [ktrTop]; omega)
  k_with "binaryOp Add ref ref" => (k_here; (with_reducible show wpAny _ _ (binaryOp _ (Value.ref _) (Value.ref _)) _ _ _); k_dflt (refine kmk_add_ints (by k_asm) (by k_asm) (by is_list) (by is_list) (by l_ints) (by l_ints) ?_ (by (rw [sizeLine_eq]; (try simp only [List.length_append, List.length_cons, List.length_nil]); omega))); intro D' ws' h' F' N' l1 hI'; (try k_lt l1); (try k_sweep))
  k_with "call ref" => (k_here; k_dflt (k_extra "call"))
  k_with "subscriptTail Name Slice ref ref" => (k_here; (with_reducible show wpAny _ _ (subscriptTail _ (PySem.Expr.Slice _ _ none _) (Value.ref _) (Value.ref _)) _ _ _); k_dflt (refine kmk_slice_ints (by k_asm) (by k_asm) (by is_list) (by kmk_part) (by kmk_part) (by l_ints) (by first | exact kmk_all (by l_ints) | exact kmk_from (by l_ints) (by omega) | exact kmk_upto (by l_ints) (by omega) | exact kmk_run (by l_ints) (by omega) (by omega)) (by kmk_len) ?_ (by with_unfolding_all rfl) (by kmk_pure) (by (refine kmk_sz (by l_ints) ?_; rw [sizeLine_eq]; omega))); intro D' ws' h' F' N' l1 hI' hC' hL'; (try k_lt l1); (try k_sweep))
  k_with "compareOp Eq ref ref" => (k_here; (with_reducible show wpAny _ _ (compareOp CmpOp.Eq (Value.ref _) (Value.ref _)) _ _ _); k_dflt (refine ke_eq_ints (by is_list) (by is_list) (by l_ints) (by l_ints) (by (dsimp only [ktrTop, Around.deeper]; omega)) ?_; k_whole))
  revert kX; k_fill; intro kX
  refine wpAny_call ?_
  k_dflt ktr_enter
  k_with "call" => ((first
    | ((with_reducible show wpAny _ _ (PySem.call (Value.ref 130) [_, Value.int k _, _]) _ _ _); refine fold_minus_spec (by assumption) (by assumption) (by assumption) (by assumption) (by assumption) (by exact rfl) (by dsimp only [ktrTop]; omega) (by dsimp only [ktrTop]; omega) hw hw2 (by k_extra "m_mem") (by l_ints) (by assumption) (by omega) hk0 (by omega) ?_; intro r9 us9 n9 res9 h9 tk9 F9 N9 hi9 hc9 hO9; (try dsimp only))
    | ((with_reducible show wpAny _ _ (PySem.call (Value.ref 130) [_, Value.int (Int.fdiv k 2) _, _]) _ _ _); have he := half_eq (k := k) (by assumption); have hk2 : 1 ≤ k.fdiv 2 := (by omega); have hBh := wp_half (base_ge hw) (by omega) he hBk; have hf4 := pow_ge4 hw3 hk2; have hfh := wp_facts (vA := vA) (vB := vB) hf4 hBh; have hxm := Int.emod_lt_of_pos (vA % ((2 ^ w1.toNat) ^ (k.fdiv 2).toNat - 1) * (vB % ((2 ^ w1.toNat) ^ (k.fdiv 2).toNat - 1))) (show 0 < ((2 : Int) ^ w1.toNat) ^ (k.fdiv 2).toNat - 1 by omega); have hxp := Int.emod_lt_of_pos (vA % ((2 ^ w1.toNat) ^ (k.fdiv 2).toNat + 1) * (vB % ((2 ^ w1.toNat) ^ (k.fdiv 2).toNat + 1))) (show 0 < ((2 : Int) ^ w1.toNat) ^ (k.fdiv 2).toNat + 1 by omega); refine fold_minus_spec (by assumption) (by assumption) (by assumption) (by assumption) (by assumption) (by exact rfl) (by dsimp only [ktrTop]; omega) (by dsimp only [ktrTop]; omega) hw hw2 (by k_extra "m_mem") (by l_ints) (by assumption) (by omega) hk2 (by omega) ?_; intro r9 us9 n9 res9 h9 tk9 F9 N9 hi9 hc9 hO9; (try dsimp only))
    | ((with_reducible show wpAny _ _ (PySem.call (Value.ref 137) _) _ _ _); refine fold_plus_spec (by assumption) (by assumption) (by assumption) (by assumption) (by assumption) (by exact rfl) (by dsimp only [ktrTop]; omega) (by dsimp only [ktrTop]; omega) hw hw2 (by k_extra "m_mem") (by l_ints) (by assumption) (by omega) hk2 (by omega) (by omega) ?_; intro r9 us9 n9 res9 h9 tk9 F9 N9 hi9 hc9 hlt9; (try dsimp only))
    | ((with_reducible show wpAny _ _ (PySem.call (Value.ref 226) _) _ _ _); refine law_mul_spec (by assumption) (by assumption) (by assumption) (by assumption) (by assumption) (by exact rfl) (by dsimp only [ktrTop]; omega) (by dsimp only [ktrTop]; omega) hw hw2 (by k_extra "m_mem") (by l_ints) (by assumption) (by omega) (by k_extra "m_mem") (by l_ints) (by assumption) (by omega) (by omega) ?_; intro r9 us9 n9 res9 h9 tk9 F9 N9 hi9 hc9 hlt9; (try dsimp only))
    | ((with_reducible show wpAny _ _ (PySem.call (Value.ref 144) _) _ _ _); refine joined_rests_spec (by assumption) (by assumption) (by assumption) (by assumption) (by assumption) (by exact rfl) (by dsimp only [ktrTop]; omega) (by dsimp only [ktrTop]; omega) hw hw2 (by k_extra "m_mem") (by l_ints) (by assumption) (by omega) (by k_extra "m_mem") (by l_ints) (by assumption) (by omega) hw3 hk2 (by omega) hBh (X := vA * vB) (by exact (Int.mul_emod ..).symm) (by exact (Int.mul_emod ..).symm) ?_; intro r9 us9 n9 res9 h9 tk9 F9 N9 hi9 hc9 hlt9; (try dsimp only); rw [he] at hc9)
    | ((with_reducible show wpAny _ _ (PySem.call (Value.ref 151) _) _ _ _); refine IH (by assumption) (by assumption) (by assumption) (by assumption) (by assumption) (by exact rfl) (by dsimp only [ktrTop]; omega) (by dsimp only [ktrTop]; omega) hw hw2 (by k_extra "m_mem") (by l_ints) (by assumption) (by omega) (by k_extra "m_mem") (by l_ints) (by assumption) (by omega) hw3 hk2 (by omega) hBh hN ?_; intro r9 us9 n9 res9 h9 tk9 F9 N9 hi9 hc9 hlt9; (try dsimp only))))
  k_steps
  all_goals ((rename Fr _ _ _ _ => F9); (rename News _ _ _ _ => N9); first
    | exact hret _ _ _ _ _ _ F9 (newsDrop N9 (by k_extra "m_sub")) (by l_ints) (by assumption) (by k_extra "m_lt")
    | (rcases hO9 with e9 | e9; (try subst e9); all_goals (rw [← Int.mul_emod] at hc9; exact hret _ _ _ _ _ _ F9 (newsDrop N9 (by k_extra "m_sub")) (by l_ints) (by assumption) (by k_extra "m_lt")))
   )
theorem wp_all (N : Nat) : WpC N := by
  induction N with
  | zero => unfold WpC; intros; omega
  | succ N ih =>
    unfold WpC
    intro w mean mg mb dp un gd cn cs a ccd cl outer A₀ base h₀ L m news s Q E kB kF kX kN kT hk hdp hun w1 hw hw2 lA uA cA A vA hmA hiA hcA hvA lB uB cB B vB hmB hiB hcB hvB k tk tw least tleast hw3 hk0 hkN hBk hN hret
    exact wp_step ih kB kF kX kN kT hk hdp hun hw hw2 hmA hiA hcA hvA hmB hiB hcB hvB hw3 hk0 (by omega) hBk (by omega) hret
end
-- F_need_ring
section

theorem need_ring_spec {w : World} {mean : ExcName → Option Value} {mg mb : Str → Option Value} {dp un : Nat} {gd : Option (List Code)} {cn : Str} {cs : Scope} {a : Addr} {ccd : Value} {cl : List (Str × Addr)} {outer : List Env} {A₀ : Around} {base h₀ : Heap} {L : Addr} {m : Str → Option Value} {news : List (Addr × Obj)} {s : Shared} {Q E : Value → Shared → Prop}
  (kB : Below A₀ base outer h₀) (kF : Fr h₀ L s.heap m) (kX : (KK w.params).In h₀) (kN : News h₀ L s.heap news) (kT : Top topProg LOOSE mean mg mb h₀) (hk : cs.kind = .function) (hdp : dp + 1 < recursionLimit) (hun : un + 8 < cLine)
  {k : Int} {tk : Tok}
  (hk0 : 1 ≤ k)
  (hret : ∀ (h' : Heap) (tk' : Nat), Fr h₀ L h' m → News h₀ L h' news → Q .none { s with heap := h', toks := tk' }) :
  wpAny (model PySem.Challenge.rw_rr0057_01.row.prog w) (ktrTop dp un gd cn cs L a ccd cl outer) (call (.ref 186) [.int k tk]) Q E s := by
  w_top off
  k_with_none
  k_with "m_mem" => (first | assumption | exact List.Mem.head _ | (refine List.Mem.tail _ ?_; k_extra "m_mem") | (refine List.mem_append.mpr (Or.inl ?_); k_extra "m_mem") | (refine List.mem_append.mpr (Or.inr ?_); k_extra "m_mem"))
  k_with "m_sub" => (first | exact fun _ h9 => h9 | exact List.forall_mem_nil _ | exact List.forall_mem_cons.mpr ⟨by k_extra "m_mem", by k_extra "m_sub"⟩ | exact List.forall_mem_append.mpr ⟨by k_extra "m_sub", by k_extra "m_sub"⟩ | (intro q9 h9; k_extra "m_mem"))
  k_with "m_lt" => (first | assumption | exact allLtOf (by assumption) | exact ltSub (by assumption) (by k_extra "m_sub") | (rename _ ∧ AllLt _ _ => l9; exact allLtOf l9.2) | (rename _ ∧ _ ∧ AllLt _ _ => l9; exact allLtOf l9.2.2) | (rename _ ∧ _ ∧ _ ∧ AllLt _ _ => l9; exact allLtOf l9.2.2.2) | (rename _ ∧ _ ∧ _ ∧ _ ∧ AllLt _ _ => l9; exact allLtOf l9.2.2.2.2))
  k_with "m_ne" => exact neOfLt (by k_extra "m_lt")
  k_with "m_keep" => (first | exact List.forall_mem_nil _ | (refine List.forall_mem_cons.mpr ⟨(by exact rfl), ?_⟩; k_extra "m_keep"))
  k_with "pyIter ref" => k_dflt (k_extra "loop")
  k_with "exec For Name Call cons nil" => (k_here; (rename Fr _ _ _ _ => lF'); (with_unfolding_all refine' For_invVF lF' (by exact rfl) (by exact rfl) ?_; k_whole))
  k_with "exec For Name Name cons nil" => (k_here; (rename Fr _ _ _ _ => lF'); (with_unfolding_all refine' For_invVF lF' (by exact rfl) (by exact rfl) ?_; k_whole))
  k_with "exec While" => k_dflt (k_extra "while")
  k_with "exec While Compare cons nil" => k_dflt (k_extra "while")
  k_with "exec While Compare" => k_dflt (k_extra "while")
  k_with "MPost" => dsimp only [MPost]
  k_with "MEnd" => k_dflt (k_extra "turn")
  k_with "m_fit" => (first | omega | (k_extra "fit"; omega))
  k_with "call builtin:list.append" => (k_here; (with_reducible show wpAny _ _ (call (Value.builtin _) [Value.ref _, Value.int _ _]) _ _ _); k_dflt (refine m_append (by k_asm) (by k_asm) (by k_upd) (by l_ints) (by k_extra "m_fit") ?_; k_whole); intro h' F' N'; (try k_sweep))
  k_with "m_fl_end" => refine fl_end (by assumption) (by assumption) (List.Mem.head _) (by k_extra "m_sub") (by k_extra "m_sub") (by first | assumption | exact List.forall_mem_nil _) (by first | assumption | exact fun _ _ => List.forall_mem_nil _) (by l_ints) (by exact rfl) (by k_extra "m_keep") ?_
  k_with "m_small" => exact small_one (by omega) (by omega) (by omega) (by omega)
  k_with "m_room" => ((try simp only [depth_under_make, depth_under_kw, depth_in1, depth_deeper, depth_caller, units_in1, units_deeper, Around.mark_units, units_caller]); dsimp only [ktrTop]; omega)
  k_with "m_units" => ((try simp only [depth_under_make, depth_under_kw, depth_in1, depth_deeper, depth_caller, units_in1, units_deeper, Around.mark_units, units_caller]); dsimp only [ktrTop]; omega)
  k_with "binaryOp Add ref ref" => (k_here; (with_reducible show wpAny _ _ (binaryOp _ (Value.ref _) (Value.ref _)) _ _ _); k_dflt (refine kmk_add_ints (by k_asm) (by k_asm) (by is_list) (by is_list) (by l_ints) (by l_ints) ?_ (by (rw [sizeLine_eq]; (try simp only [List.length_append, List.length_cons, List.length_nil]); omega))); intro D' ws' h' F' N' l1 hI'; (try k_lt l1); (try k_sweep))
  k_with "call ref" => (k_here; k_dflt (k_extra "call"))
  k_with "subscriptTail Name Slice ref ref" => (k_here; (with_reducible show wpAny _ _ (subscriptTail _ (PySem.Expr.Slice _ _ none _) (Value.ref _) (Value.ref _)) _ _ _); k_dflt (refine kmk_slice_ints (by k_asm) (by k_asm) (by is_list) (by kmk_part) (by kmk_part) (by l_ints) (by first | exact kmk_all (by l_ints) | exact kmk_from (by l_ints) (by omega) | exact kmk_upto (by l_ints) (by omega) | exact kmk_run (by l_ints) (by omega) (by omega)) (by kmk_len) ?_ (by with_unfolding_all rfl) (by kmk_pure) (by (refine kmk_sz (by l_ints) ?_; rw [sizeLine_eq]; omega))); intro D' ws' h' F' N' l1 hI' hC' hL'; (try k_lt l1); (try k_sweep))
  k_with "compareOp Eq ref ref" => (k_here; (with_reducible show wpAny _ _ (compareOp CmpOp.Eq (Value.ref _) (Value.ref _)) _ _ _); k_dflt (refine ke_eq_ints (by is_list) (by is_list) (by l_ints) (by l_ints) (by (dsimp only [ktrTop, Around.deeper]; omega)) ?_; k_whole))
  revert kX; k_fill; intro kX
  refine wpAny_call ?_
  k_dflt ktr_enter
  k_steps
  all_goals ((rename Fr _ _ _ _ => F9); (rename News _ _ _ _ => N9); first | exact hret _ _ F9 (newsDrop N9 (by k_extra "m_sub")))
end
-- F_low
section
theorem low_spec {w : World} {mean : ExcName → Option Value} {mg mb : Str → Option Value} {dp un : Nat} {gd : Option (List Code)} {cn : Str} {cs : Scope} {a : Addr} {ccd : Value} {cl : List (Str × Addr)} {outer : List Env} {A₀ : Around} {base h₀ : Heap} {L : Addr} {m : Str → Option Value} {news : List (Addr × Obj)} {s : Shared} {Q E : Value → Shared → Prop}
  (kB : Below A₀ base outer h₀) (kF : Fr h₀ L s.heap m) (kX : (KK w.params).In h₀) (kN : News h₀ L s.heap news) (kT : Top topProg LOOSE mean mg mb h₀) (hk : cs.kind = .function) (hdp : dp + 2 < recursionLimit) (hun : un + 16 < cLine)
  {w1 : Int} (hw : 0 < w1) (hw2 : w1 < 60)
  {lA : Addr} {uA : List Value} {cA : Nat} {A : List Int} {vA : Int} (hmA : (lA, listOf uA.toArray cA) ∈ news) (hiA : IntsAre uA A) (hcA : Can (2 ^ w1.toNat) A vA) (hvA : vA < 2 ^ 200)
  {k : Int} {tk : Tok}
  {tw : Tok}
  (hk0 : 0 ≤ k) (hk1 : k < 200)
  (hret : RetC h₀ L m news s Q (2 ^ w1.toNat) (vA % 2 ^ k.toNat)) :
  wpAny (model PySem.Challenge.rw_rr0057_01.row.prog w) (ktrTop dp un gd cn cs L a ccd cl outer) (call (.ref 116) [.ref lA, .int k tk, .int w1 tw]) Q E s := by
  have hnA : A.length < 1000 := Nat.lt_of_le_of_lt (can_len (base_ge hw) hcA hvA) (by decide)
  w_top off
  k_with_none
  k_with "m_mem" => (first | assumption | exact List.Mem.head _ | (refine List.Mem.tail _ ?_; k_extra "m_mem") | (refine List.mem_append.mpr (Or.inl ?_); k_extra "m_mem") | (refine List.mem_append.mpr (Or.inr ?_); k_extra "m_mem"))
  k_with "m_sub" => (first | exact fun _ h9 => h9 | exact List.forall_mem_nil _ | exact List.forall_mem_cons.mpr ⟨by k_extra "m_mem", by k_extra "m_sub"⟩ | exact List.forall_mem_append.mpr ⟨by k_extra "m_sub", by k_extra "m_sub"⟩ | (intro q9 h9; k_extra "m_mem"))
  k_with "m_lt" => (first | assumption | exact allLtOf (by assumption) | exact ltSub (by assumption) (by k_extra "m_sub") | (rename _ ∧ AllLt _ _ => l9; exact allLtOf l9.2) | (rename _ ∧ _ ∧ AllLt _ _ => l9; exact allLtOf l9.2.2) | (rename _ ∧ _ ∧ _ ∧ AllLt _ _ => l9; exact allLtOf l9.2.2.2) | (rename _ ∧ _ ∧ _ ∧ _ ∧ AllLt _ _ => l9; exact allLtOf l9.2.2.2.2))
  k_with "m_ne" => exact neOfLt (by k_extra "m_lt")
  k_with "m_keep" => (first | exact List.forall_mem_nil _ | (refine List.forall_mem_cons.mpr ⟨(by exact rfl), ?_⟩; k_extra "m_keep"))
  k_with "pyIter ref" => k_dflt (k_extra "loop")
  k_with "exec For Name Call cons nil" => (k_here; (rename Fr _ _ _ _ => lF'); (with_unfolding_all refine' For_invVF lF' (by exact rfl) (by exact rfl) ?_; k_whole))
  k_with "exec For Name Name cons nil" => (k_here; (rename Fr _ _ _ _ => lF'); (with_unfolding_all refine' For_invVF lF' (by exact rfl) (by exact rfl) ?_; k_whole))
  k_with "exec While" => k_dflt (k_extra "while")
  k_with "exec While Compare cons nil" => k_dflt (k_extra "while")
  k_with "exec While Compare" => k_dflt (k_extra "while")
  k_with "MPost" => dsimp only [MPost]
  k_with "MEnd" => k_dflt (k_extra "turn")
  k_with "m_fit" => (first | omega | (k_extra "fit"; omega))
  k_with "call builtin:list.append" => (k_here; (with_reducible show wpAny _ _ (call (Value.builtin _) [Value.ref _, Value.int _ _]) _ _ _); k_dflt (refine m_append (by k_asm) (by k_asm) (by k_upd) (by l_ints) (by k_extra "m_fit") ?_; k_whole); intro h' F' N'; (try k_sweep))
  k_with "m_fl_end" => refine fl_end (by assumption) (by assumption) (List.Mem.head _) (by k_extra "m_sub") (by k_extra "m_sub") (by first | assumption | exact List.forall_mem_nil _) (by first | assumption | exact fun _ _ => List.forall_mem_nil _) (by l_ints) (by exact rfl) (by k_extra "m_keep") ?_
  k_with "m_small" => exact small_one (by omega) (by omega) (by omega) (by omega)
  k_with "m_room" => ((try simp only [depth_under_make, depth_under_kw, depth_in1, depth_deeper, depth_caller, units_in1, units_deeper, Around.mark_units, units_caller]); dsimp only [ktrTop]; omega)
  k_with "m_units" => ((try simp only [depth_under_make, depth_under_kw, depth_in1, depth_deeper, depth_caller, units_in1, units_deeper, Around.mark_units, units_caller]); dsimp only [ktrTop]; omega)
  k_with "binaryOp Add ref ref" => (k_here; (with_reducible show wpAny _ _ (binaryOp _ (Value.ref _) (Value.ref _)) _ _ _); k_dflt (refine kmk_add_ints (by k_asm) (by k_asm) (by is_list) (by is_list) (by l_ints) (by l_ints) ?_ (by (rw [sizeLine_eq]; (try simp only [List.length_append, List.length_cons, List.length_nil]); omega))); intro D' ws' h' F' N' l1 hI'; (try k_lt l1); (try k_sweep))
  k_with "call ref" => (k_here; k_dflt (k_extra "call"))
  k_with "subscriptTail Name Slice ref ref" => (k_here; (with_reducible show wpAny _ _ (subscriptTail _ (PySem.Expr.Slice _ _ none _) (Value.ref _) (Value.ref _)) _ _ _); k_dflt (refine kmk_slice_ints (by k_asm) (by k_asm) (by is_list) (by kmk_part) (by kmk_part) (by l_ints) (by first | exact kmk_all (by l_ints) | exact kmk_from (by l_ints) (by omega) | exact kmk_upto (by l_ints) (by omega) | exact kmk_run (by l_ints) (by omega) (by omega)) (by kmk_len) ?_ (by with_unfolding_all rfl) (by kmk_pure) (by (refine kmk_sz (by l_ints) ?_; rw [sizeLine_eq]; omega))); intro D' ws' h' F' N' l1 hI' hC' hL'; (try k_lt l1); (try k_sweep))
  k_with "compareOp Eq ref ref" => (k_here; (with_reducible show wpAny _ _ (compareOp CmpOp.Eq (Value.ref _) (Value.ref _)) _ _ _); k_dflt (refine ke_eq_ints (by is_list) (by is_list) (by l_ints) (by l_ints) (by (dsimp only [ktrTop, Around.deeper]; omega)) ?_; k_whole))
  revert kX; k_fill; intro kX
  refine wpAny_call ?_
  k_dflt ktr_enter
  have hq := fdiv_facts hw hk0
  have hm := fmod_facts (k := k) hw
  have hall := low_all hw hk0 hcA
  have hpart := low_part hw hk0 hcA
  k_with "call" => ((have hE := hpart (by omega); refine normal_spec (by assumption) (by assumption) (by assumption) (by assumption) (by assumption) (by exact rfl) (by dsimp only [ktrTop]; omega) (by dsimp only [ktrTop]; omega) (by k_extra "m_mem") (by l_ints) hw hE.1 (by simp only [List.length_append, List.length_singleton, List.length_take]; omega) ?_; rw [hE.2]; intro r9 us9 n9 res9 h9 tk9 F9 N9 hi9 hc9 hlt9; (try dsimp only)))
  k_steps
  all_goals ((rename Fr _ _ _ _ => F9); (rename News _ _ _ _ => N9); first | exact hret _ _ _ _ _ _ F9 (newsDrop N9 (by k_extra "m_sub")) (by l_ints) (by assumption) (by k_extra "m_lt") | (rw [hall (by omega)] at hret; exact hret _ _ _ _ _ _ F9 (newsDrop N9 (by k_extra "m_sub")) (by l_ints) (by assumption) (by k_extra "m_lt")))
end
-- F_bits
section
theorem bits_spec {w : World} {mean : ExcName → Option Value} {mg mb : Str → Option Value} {dp un : Nat} {gd : Option (List Code)} {cn : Str} {cs : Scope} {a : Addr} {ccd : Value} {cl : List (Str × Addr)} {outer : List Env} {A₀ : Around} {base h₀ : Heap} {L : Addr} {m : Str → Option Value} {news : List (Addr × Obj)} {s : Shared} {Q E : Value → Shared → Prop}
  (kB : Below A₀ base outer h₀) (kF : Fr h₀ L s.heap m) (kX : (KK w.params).In h₀) (kN : News h₀ L s.heap news) (kT : Top topProg LOOSE mean mg mb h₀) (hk : cs.kind = .function) (hdp : dp + 1 < recursionLimit) (hun : un + 8 < cLine)
  {w1 : Int} (hw : 0 < w1) (hw2 : w1 < 60)
  {lA : Addr} {uA : List Value} {cA : Nat} {A : List Int} {vA : Int} (hmA : (lA, listOf uA.toArray cA) ∈ news) (hiA : IntsAre uA A) (hcA : Can (2 ^ w1.toNat) A vA) (hvA : vA < 2 ^ 200)
  {tw : Tok}
  
  (hret : ∀ (c : Int) (t : Tok) (h' : Heap) (tk' : Nat), (∀ n : Nat, (n : Int) < c ↔ 2 ^ n ≤ vA) → Fr h₀ L h' m → News h₀ L h' news → Q (.int c t) { s with heap := h', toks := tk' }) :
  wpAny (model PySem.Challenge.rw_rr0057_01.row.prog w) (ktrTop dp un gd cn cs L a ccd cl outer) (call (.ref 109) [.ref lA, .int w1 tw]) Q E s := by
  have hnA : A.length < 1000 := Nat.lt_of_le_of_lt (can_len (base_ge hw) hcA hvA) (by decide)
  w_top off
  k_with_none
  k_with "m_mem" => (first | assumption | exact List.Mem.head _ | (refine List.Mem.tail _ ?_; k_extra "m_mem") | (refine List.mem_append.mpr (Or.inl ?_); k_extra "m_mem") | (refine List.mem_append.mpr (Or.inr ?_); k_extra "m_mem"))
  k_with "m_sub" => (first | exact fun _ h9 => h9 | exact List.forall_mem_nil _ | exact List.forall_mem_cons.mpr ⟨by k_extra "m_mem", by k_extra "m_sub"⟩ | exact List.forall_mem_append.mpr ⟨by k_extra "m_sub", by k_extra "m_sub"⟩ | (intro q9 h9; k_extra "m_mem"))
  k_with "m_lt" => (first | assumption | exact allLtOf (by assumption) | exact ltSub (by assumption) (by k_extra "m_sub") | (rename _ ∧ AllLt _ _ => l9; exact allLtOf l9.2) | (rename _ ∧ _ ∧ AllLt _ _ => l9; exact allLtOf l9.2.2) | (rename _ ∧ _ ∧ _ ∧ AllLt _ _ => l9; exact allLtOf l9.2.2.2) | (rename _ ∧ _ ∧ _ ∧ _ ∧ AllLt _ _ => l9; exact allLtOf l9.2.2.2.2))
  k_with "m_ne" => exact neOfLt (by k_extra "m_lt")
  k_with "m_keep" => (first | exact List.forall_mem_nil _ | (refine List.forall_mem_cons.mpr ⟨(by exact rfl), ?_⟩; k_extra "m_keep"))
  k_with "pyIter ref" => k_dflt (k_extra "loop")
  k_with "exec For Name Call cons nil" => (k_here; (rename Fr _ _ _ _ => lF'); (with_unfolding_all refine' For_invVF lF' (by exact rfl) (by exact rfl) ?_; k_whole))
  k_with "exec For Name Name cons nil" => (k_here; (rename Fr _ _ _ _ => lF'); (with_unfolding_all refine' For_invVF lF' (by exact rfl) (by exact rfl) ?_; k_whole))
  k_with "exec While" => k_dflt (k_extra "while")
  k_with "exec While Compare cons nil" => k_dflt (k_extra "while")
  k_with "exec While Compare" => k_dflt (k_extra "while")
  k_with "MPost" => dsimp only [MPost]
  k_with "MEnd" => k_dflt (k_extra "turn")
  k_with "m_fit" => (first | omega | (k_extra "fit"; omega))
  k_with "call builtin:list.append" => (k_here; (with_reducible show wpAny _ _ (call (Value.builtin _) [Value.ref _, Value.int _ _]) _ _ _); k_dflt (refine m_append (by k_asm) (by k_asm) (by k_upd) (by l_ints) (by k_extra "m_fit") ?_; k_whole); intro h' F' N'; (try k_sweep))
  k_with "m_fl_end" => refine fl_end (by assumption) (by assumption) (List.Mem.head _) (by k_extra "m_sub") (by k_extra "m_sub") (by first | assumption | exact List.forall_mem_nil _) (by first | assumption | exact fun _ _ => List.forall_mem_nil _) (by l_ints) (by exact rfl) (by k_extra "m_keep") ?_
  k_with "m_small" => exact small_one (by omega) (by omega) (by omega) (by omega)
  k_with "m_room" => ((try simp only [depth_under_make, depth_under_kw, depth_in1, depth_deeper, depth_caller, units_in1, units_deeper, Around.mark_units, units_caller]); dsimp only [ktrTop]; omega)
  k_with "m_units" => ((try simp only [depth_under_make, depth_under_kw, depth_in1, depth_deeper, depth_caller, units_in1, units_deeper, Around.mark_units, units_caller]); dsimp only [ktrTop]; omega)
  k_with "binaryOp Add ref ref" => (k_here; (with_reducible show wpAny _ _ (binaryOp _ (Value.ref _) (Value.ref _)) _ _ _); k_dflt (refine kmk_add_ints (by k_asm) (by k_asm) (by is_list) (by is_list) (by l_ints) (by l_ints) ?_ (by (rw [sizeLine_eq]; (try simp only [List.length_append, List.length_cons, List.length_nil]); omega))); intro D' ws' h' F' N' l1 hI'; (try k_lt l1); (try k_sweep))
  k_with "call ref" => (k_here; k_dflt (k_extra "call"))
  k_with "subscriptTail Name Slice ref ref" => (k_here; (with_reducible show wpAny _ _ (subscriptTail _ (PySem.Expr.Slice _ _ none _) (Value.ref _) (Value.ref _)) _ _ _); k_dflt (refine kmk_slice_ints (by k_asm) (by k_asm) (by is_list) (by kmk_part) (by kmk_part) (by l_ints) (by first | exact kmk_all (by l_ints) | exact kmk_from (by l_ints) (by omega) | exact kmk_upto (by l_ints) (by omega) | exact kmk_run (by l_ints) (by omega) (by omega)) (by kmk_len) ?_ (by with_unfolding_all rfl) (by kmk_pure) (by (refine kmk_sz (by l_ints) ?_; rw [sizeLine_eq]; omega))); intro D' ws' h' F' N' l1 hI' hC' hL'; (try k_lt l1); (try k_sweep))
  k_with "compareOp Eq ref ref" => (k_here; (with_reducible show wpAny _ _ (compareOp CmpOp.Eq (Value.ref _) (Value.ref _)) _ _ _); k_dflt (refine ke_eq_ints (by is_list) (by is_list) (by l_ints) (by l_ints) (by (dsimp only [ktrTop, Around.deeper]; omega)) ?_; k_whole))
  revert kX; k_fill; intro kX
  refine wpAny_call ?_
  k_dflt ktr_enter
  k_steps
  all_goals ((rename Fr _ _ _ _ => F9); (rename News _ _ _ _ => N9); first | exact hret _ _ _ _ (bits_fin hw hcA (by omega)) F9 N9 | exact hret _ _ _ _ (bits_fin0 hcA (by omega)) F9 N9)
end
-- F_shift_left
section
theorem shift_left_spec {w : World} {mean : ExcName → Option Value} {mg mb : Str → Option Value} {dp un : Nat} {gd : Option (List Code)} {cn : Str} {cs : Scope} {a : Addr} {ccd : Value} {cl : List (Str × Addr)} {outer : List Env} {A₀ : Around} {base h₀ : Heap} {L : Addr} {m : Str → Option Value} {news : List (Addr × Obj)} {s : Shared} {Q E : Value → Shared → Prop}
  (kB : Below A₀ base outer h₀) (kF : Fr h₀ L s.heap m) (kX : (KK w.params).In h₀) (kN : News h₀ L s.heap news) (kT : Top topProg LOOSE mean mg mb h₀) (hk : cs.kind = .function) (hdp : dp + 1 < recursionLimit) (hun : un + 8 < cLine)
  {w1 : Int} (hw : 0 < w1) (hw2 : w1 < 60)
  {lA : Addr} {uA : List Value} {cA : Nat} {A : List Int} {vA : Int} (hmA : (lA, listOf uA.toArray cA) ∈ news) (hiA : IntsAre uA A) (hcA : Can (2 ^ w1.toNat) A vA) (hvA : vA < 2 ^ 200)
  {k : Int} {tk : Tok}
  {tw : Tok}
  (hk0 : 0 ≤ k) (hk1 : k < 200)
  (hret : RetC h₀ L m news s Q (2 ^ w1.toNat) (vA * 2 ^ k.toNat)) :
  wpAny (model PySem.Challenge.rw_rr0057_01.row.prog w) (ktrTop dp un gd cn cs L a ccd cl outer) (call (.ref 95) [.ref lA, .int k tk, .int w1 tw]) Q E s := by
  have hnA : A.length < 1000 := Nat.lt_of_le_of_lt (can_len (base_ge hw) hcA hvA) (by decide)
  w_top off
  k_with_none
  k_with "m_mem" => (first | assumption | exact List.Mem.head _ | (refine List.Mem.tail _ ?_; k_extra "m_mem") | (refine List.mem_append.mpr (Or.inl ?_); k_extra "m_mem") | (refine List.mem_append.mpr (Or.inr ?_); k_extra "m_mem"))
  k_with "m_sub" => (first | exact fun _ h9 => h9 | exact List.forall_mem_nil _ | exact List.forall_mem_cons.mpr ⟨by k_extra "m_mem", by k_extra "m_sub"⟩ | exact List.forall_mem_append.mpr ⟨by k_extra "m_sub", by k_extra "m_sub"⟩ | (intro q9 h9; k_extra "m_mem"))
  k_with "m_lt" => (first | assumption | exact allLtOf (by assumption) | exact ltSub (by assumption) (by k_extra "m_sub") | (rename _ ∧ AllLt _ _ => l9; exact allLtOf l9.2) | (rename _ ∧ _ ∧ AllLt _ _ => l9; exact allLtOf l9.2.2) | (rename _ ∧ _ ∧ _ ∧ AllLt _ _ => l9; exact allLtOf l9.2.2.2) | (rename _ ∧ _ ∧ _ ∧ _ ∧ AllLt _ _ => l9; exact allLtOf l9.2.2.2.2))
  k_with "m_ne" => exact neOfLt (by k_extra "m_lt")
  k_with "m_keep" => (first | exact List.forall_mem_nil _ | (refine List.forall_mem_cons.mpr ⟨(by exact rfl), ?_⟩; k_extra "m_keep"))
  k_with "pyIter ref" => k_dflt (k_extra "loop")
  k_with "exec For Name Call cons nil" => (k_here; (rename Fr _ _ _ _ => lF'); (with_unfolding_all refine' For_invVF lF' (by exact rfl) (by exact rfl) ?_; k_whole))
  k_with "exec For Name Name cons nil" => (k_here; (rename Fr _ _ _ _ => lF'); (with_unfolding_all refine' For_invVF lF' (by exact rfl) (by exact rfl) ?_; k_whole))
  k_with "exec While" => k_dflt (k_extra "while")
  k_with "exec While Compare cons nil" => k_dflt (k_extra "while")
  k_with "exec While Compare" => k_dflt (k_extra "while")
  k_with "MPost" => dsimp only [MPost]
  k_with "MEnd" => k_dflt (k_extra "turn")
  k_with "m_fit" => (first | omega | (k_extra "fit"; omega))
  k_with "call builtin:list.append" => (k_here; (with_reducible show wpAny _ _ (call (Value.builtin _) [Value.ref _, Value.int _ _]) _ _ _); k_dflt (refine m_append (by k_asm) (by k_asm) (by k_upd) (by l_ints) (by k_extra "m_fit") ?_; k_whole); intro h' F' N'; (try k_sweep))
  k_with "m_fl_end" => refine fl_end (by assumption) (by assumption) (List.Mem.head _) (by k_extra "m_sub") (by k_extra "m_sub") (by first | assumption | exact List.forall_mem_nil _) (by first | assumption | exact fun _ _ => List.forall_mem_nil _) (by l_ints) (by exact rfl) (by k_extra "m_keep") ?_
  k_with "m_small" => exact small_one (by omega) (by omega) (by omega) (by omega)
  k_with "m_room" => ((try simp only [depth_under_make, depth_under_kw, depth_in1, depth_deeper, depth_caller, units_in1, units_deeper, Around.mark_units, units_caller]); dsimp only [ktrTop]; omega)
  k_with "m_units" => ((try simp only [depth_under_make, depth_under_kw, depth_in1, depth_deeper, depth_caller, units_in1, units_deeper, Around.mark_units, units_caller]); dsimp only [ktrTop]; omega)
  k_with "binaryOp Add ref ref" => (k_here; (with_reducible show wpAny _ _ (binaryOp _ (Value.ref _) (Value.ref _)) _ _ _); k_dflt (refine kmk_add_ints (by k_asm) (by k_asm) (by is_list) (by is_list) (by l_ints) (by l_ints) ?_ (by (rw [sizeLine_eq]; (try simp only [List.length_append, List.length_cons, List.length_nil]); omega))); intro D' ws' h' F' N' l1 hI'; (try k_lt l1); (try k_sweep))
  k_with "call ref" => (k_here; k_dflt (k_extra "call"))
  k_with "subscriptTail Name Slice ref ref" => (k_here; (with_reducible show wpAny _ _ (subscriptTail _ (PySem.Expr.Slice _ _ none _) (Value.ref _) (Value.ref _)) _ _ _); k_dflt (refine kmk_slice_ints (by k_asm) (by k_asm) (by is_list) (by kmk_part) (by kmk_part) (by l_ints) (by first | exact kmk_all (by l_ints) | exact kmk_from (by l_ints) (by omega) | exact kmk_upto (by l_ints) (by omega) | exact kmk_run (by l_ints) (by omega) (by omega)) (by kmk_len) ?_ (by with_unfolding_all rfl) (by kmk_pure) (by (refine kmk_sz (by l_ints) ?_; rw [sizeLine_eq]; omega))); intro D' ws' h' F' N' l1 hI' hC' hL'; (try k_lt l1); (try k_sweep))
  k_with "compareOp Eq ref ref" => (k_here; (with_reducible show wpAny _ _ (compareOp CmpOp.Eq (Value.ref _) (Value.ref _)) _ _ _); k_dflt (refine ke_eq_ints (by is_list) (by is_list) (by l_ints) (by l_ints) (by (dsimp only [ktrTop, Around.deeper]; omega)) ?_; k_whole))
  revert kX; k_fill; intro kX
  refine wpAny_call ?_
  k_dflt ktr_enter
  have hq := fdiv_facts hw hk0
  have hm := fmod_facts (k := k) hw
  have hrA := hcA.1
  k_with "fit" => have h9 := ShlInv.len (by assumption)
  k_with "turn" => ((k_extra "m_fl_end"; (rename ShlInv _ _ _ _ _ _ _ => hI9); exact shl_step hrA hI9 (by assumption) (by omega)))
  k_with "loop" => ((
    (rename Fr _ _ _ _ => F1)
    (rename News _ _ _ _ => N1)
    refine fl_list (base := news) (y := "carry") [("found", _), ("mask", _), ("few", _), ("w", _)] (fun i F c => ShlInv (2 ^ w1.toNat) (2 ^ (k.fmod w1).toNat) (k.fdiv w1).toNat A i F c) rfl (by k_extra "m_mem") (by l_ints) F1 N1 (by exact rfl) (by k_extra "m_keep") (by k_extra "m_mem") (by k_extra "m_sub") (by k_extra "m_ne") (by l_ints) (shl_start (twoPos _) (twoPos _)) (fun i x tx us F n c t u h tk' own hk hlt h1 h2 h3 hi hI hF hN => ?_) (fun us F n c t u h tk' hi hI hF hN => ?_)
    all_goals (try (have hx := item_small2 hw2 hrA hk))
    all_goals (try k_fold)))
  k_steps
  all_goals ((rename Fr _ _ _ _ => F9); (rename News _ _ _ _ => N9); first
    | exact hret _ _ _ _ _ _ F9 (newsDrop N9 (by k_extra "m_sub")) (by l_ints) (shl_nil hcA (by omega)) (by k_extra "m_lt")
    | ((rename ShlInv _ _ _ _ _ _ _ => hI9); have hE := shl_fin hw hk0 hcA (by omega) hI9; first | exact hret _ _ _ _ _ _ F9 (newsDrop N9 (by k_extra "m_sub")) (by l_ints) (hE.1 (by assumption)) (by k_extra "m_lt") | exact hret _ _ _ _ _ _ F9 (newsDrop N9 (by k_extra "m_sub")) (by l_ints) (hE.2 (by assumption)) (by k_extra "m_lt")))
end
-- F_ring_one
section
theorem ring_one_spec {w : World} {mean : ExcName → Option Value} {mg mb : Str → Option Value} {dp un : Nat} {gd : Option (List Code)} {cn : Str} {cs : Scope} {a : Addr} {ccd : Value} {cl : List (Str × Addr)} {outer : List Env} {A₀ : Around} {base h₀ : Heap} {L : Addr} {m : Str → Option Value} {news : List (Addr × Obj)} {s : Shared} {Q E : Value → Shared → Prop}
  (kB : Below A₀ base outer h₀) (kF : Fr h₀ L s.heap m) (kX : (KK w.params).In h₀) (kN : News h₀ L s.heap news) (kT : Top topProg LOOSE mean mg mb h₀) (hk : cs.kind = .function) (hdp : dp + 2 < recursionLimit) (hun : un + 16 < cLine)
  {w1 : Int} (hw : 0 < w1) (hw2 : w1 < 60)
  {k : Int} {tk : Tok}
  {tw : Tok}
  (hk0 : 0 ≤ k) (hk1 : k < 150)
  (hret : RetC h₀ L m news s Q (2 ^ w1.toNat) (2 ^ k.toNat + 1)) :
  wpAny (model PySem.Challenge.rw_rr0057_01.row.prog w) (ktrTop dp un gd cn cs L a ccd cl outer) (call (.ref 158) [.int k tk, .int w1 tw]) Q E s := by
  have hp := p150 hk1
  have hp1 := twoPos k.toNat
  w_top off
  k_with_none
  k_with "m_mem" => (first | assumption | exact List.Mem.head _ | (refine List.Mem.tail _ ?_; k_extra "m_mem") | (refine List.mem_append.mpr (Or.inl ?_); k_extra "m_mem") | (refine List.mem_append.mpr (Or.inr ?_); k_extra "m_mem"))
  k_with "m_sub" => (first | exact fun _ h9 => h9 | exact List.forall_mem_nil _ | exact List.forall_mem_cons.mpr ⟨by k_extra "m_mem", by k_extra "m_sub"⟩ | exact List.forall_mem_append.mpr ⟨by k_extra "m_sub", by k_extra "m_sub"⟩ | (intro q9 h9; k_extra "m_mem"))
  k_with "m_lt" => (first | assumption | exact allLtOf (by assumption) | exact ltSub (by assumption) (by k_extra "m_sub") | (rename _ ∧ AllLt _ _ => l9; exact allLtOf l9.2) | (rename _ ∧ _ ∧ AllLt _ _ => l9; exact allLtOf l9.2.2) | (rename _ ∧ _ ∧ _ ∧ AllLt _ _ => l9; exact allLtOf l9.2.2.2) | (rename _ ∧ _ ∧ _ ∧ _ ∧ AllLt _ _ => l9; exact allLtOf l9.2.2.2.2))
  k_with "m_ne" => exact neOfLt (by k_extra "m_lt")
  k_with "m_keep" => (first | exact List.forall_mem_nil _ | (refine List.forall_mem_cons.mpr ⟨(by exact rfl), ?_⟩; k_extra "m_keep"))
  k_with "pyIter ref" => k_dflt (k_extra "loop")
  k_with "exec For Name Call cons nil" => (k_here; (rename Fr _ _ _ _ => lF'); (with_unfolding_all refine' For_invVF lF' (by exact rfl) (by exact rfl) ?_; k_whole))
  k_with "exec For Name Name cons nil" => (k_here; (rename Fr _ _ _ _ => lF'); (with_unfolding_all refine' For_invVF lF' (by exact rfl) (by exact rfl) ?_; k_whole))
  k_with "exec While" => k_dflt (k_extra "while")
  k_with "exec While Compare cons nil" => k_dflt (k_extra "while")
  k_with "exec While Compare" => k_dflt (k_extra "while")
  k_with "MPost" => dsimp only [MPost]
  k_with "MEnd" => k_dflt (k_extra "turn")
  k_with "m_fit" => (first | omega | (k_extra "fit"; omega))
  k_with "call builtin:list.append" => (k_here; (with_reducible show wpAny _ _ (call (Value.builtin _) [Value.ref _, Value.int _ _]) _ _ _); k_dflt (refine m_append (by k_asm) (by k_asm) (by k_upd) (by l_ints) (by k_extra "m_fit") ?_; k_whole); intro h' F' N'; (try k_sweep))
  k_with "m_fl_end" => refine fl_end (by assumption) (by assumption) (List.Mem.head _) (by k_extra "m_sub") (by k_extra "m_sub") (by first | assumption | exact List.forall_mem_nil _) (by first | assumption | exact fun _ _ => List.forall_mem_nil _) (by l_ints) (by exact rfl) (by k_extra "m_keep") ?_
  k_with "m_small" => exact small_one (by omega) (by omega) (by omega) (by omega)
  k_with "m_room" => ((try simp only [depth_under_make, depth_under_kw, depth_in1, depth_deeper, depth_caller, units_in1, units_deeper, Around.mark_units, units_caller]); dsimp only [ktrTop]; omega)
  k_with "m_units" => ((try simp only [depth_under_make, depth_under_kw, depth_in1, depth_deeper, depth_caller, units_in1, units_deeper, Around.mark_units, units_caller]); dsimp only [ktrTop]; omega)
  k_with "binaryOp Add ref ref" => (k_here; (with_reducible show wpAny _ _ (binaryOp _ (Value.ref _) (Value.ref _)) _ _ _); k_dflt (refine kmk_add_ints (by k_asm) (by k_asm) (by is_list) (by is_list) (by l_ints) (by l_ints) ?_ (by (rw [sizeLine_eq]; (try simp only [List.length_append, List.length_cons, List.length_nil]); omega))); intro D' ws' h' F' N' l1 hI'; (try k_lt l1); (try k_sweep))
  k_with "call ref" => (k_here; k_dflt (k_extra "call"))
  k_with "subscriptTail Name Slice ref ref" => (k_here; (with_reducible show wpAny _ _ (subscriptTail _ (PySem.Expr.Slice _ _ none _) (Value.ref _) (Value.ref _)) _ _ _); k_dflt (refine kmk_slice_ints (by k_asm) (by k_asm) (by is_list) (by kmk_part) (by kmk_part) (by l_ints) (by first | exact kmk_all (by l_ints) | exact kmk_from (by l_ints) (by omega) | exact kmk_upto (by l_ints) (by omega) | exact kmk_run (by l_ints) (by omega) (by omega)) (by kmk_len) ?_ (by with_unfolding_all rfl) (by kmk_pure) (by (refine kmk_sz (by l_ints) ?_; rw [sizeLine_eq]; omega))); intro D' ws' h' F' N' l1 hI' hC' hL'; (try k_lt l1); (try k_sweep))
  k_with "compareOp Eq ref ref" => (k_here; (with_reducible show wpAny _ _ (compareOp CmpOp.Eq (Value.ref _) (Value.ref _)) _ _ _); k_dflt (refine ke_eq_ints (by is_list) (by is_list) (by l_ints) (by l_ints) (by (dsimp only [ktrTop, Around.deeper]; omega)) ?_; k_whole))
  revert kX; k_fill; intro kX
  refine wpAny_call ?_
  k_dflt ktr_enter
  k_with "call" => ((first
    | ((with_reducible show wpAny _ _ (PySem.call (Value.ref 95) _) _ _ _); refine shift_left_spec (by assumption) (by assumption) (by assumption) (by assumption) (by assumption) (by exact rfl) (by dsimp only [ktrTop]; omega) (by dsimp only [ktrTop]; omega) hw hw2 (by k_extra "m_mem") (by l_ints) (can_one hw) (by omega) hk0 (by omega) ?_; intro r9 us9 n9 res9 h9 tk9 F9 N9 hi9 hc9 hlt9; (try dsimp only))
    | ((with_reducible show wpAny _ _ (PySem.call (Value.ref 74) _) _ _ _); refine add_spec (by assumption) (by assumption) (by assumption) (by assumption) (by assumption) (by exact rfl) (by dsimp only [ktrTop]; omega) (by dsimp only [ktrTop]; omega) hw hw2 (by k_extra "m_mem") (by l_ints) (by assumption) (by omega) (by k_extra "m_mem") (by l_ints) (can_one hw) (by omega) ?_; intro r9 us9 n9 res9 h9 tk9 F9 N9 hi9 hc9 hlt9; (try dsimp only))))
  k_steps
  all_goals ((rename Fr _ _ _ _ => F9); (rename News _ _ _ _ => N9); rw [Int.one_mul] at hc9; first | exact hret _ _ _ _ _ _ F9 (newsDrop N9 (by k_extra "m_sub")) (by l_ints) (by assumption) (by k_extra "m_lt"))
end
-- F_ring_add
section
theorem ring_add_spec {w : World} {mean : ExcName → Option Value} {mg mb : Str → Option Value} {dp un : Nat} {gd : Option (List Code)} {cn : Str} {cs : Scope} {a : Addr} {ccd : Value} {cl : List (Str × Addr)} {outer : List Env} {A₀ : Around} {base h₀ : Heap} {L : Addr} {m : Str → Option Value} {news : List (Addr × Obj)} {s : Shared} {Q E : Value → Shared → Prop}
  (kB : Below A₀ base outer h₀) (kF : Fr h₀ L s.heap m) (kX : (KK w.params).In h₀) (kN : News h₀ L s.heap news) (kT : Top topProg LOOSE mean mg mb h₀) (hk : cs.kind = .function) (hdp : dp + 3 < recursionLimit) (hun : un + 24 < cLine)
  {w1 : Int} (hw : 0 < w1) (hw2 : w1 < 60)
  {lA : Addr} {uA : List Value} {cA : Nat} {A : List Int} {vA : Int} (hmA : (lA, listOf uA.toArray cA) ∈ news) (hiA : IntsAre uA A) (hcA : Can (2 ^ w1.toNat) A vA) (hvA : vA < 2 ^ 200)
  {lB : Addr} {uB : List Value} {cB : Nat} {B : List Int} {vB : Int} (hmB : (lB, listOf uB.toArray cB) ∈ news) (hiB : IntsAre uB B) (hcB : Can (2 ^ w1.toNat) B vB) (hvB : vB < 2 ^ 200)
  {k : Int} {tk : Tok}
  {tw : Tok}
  (hk0 : 1 ≤ k) (hk1 : k < 150) (hA1 : vA < 2 ^ k.toNat + 1) (hB1 : vB < 2 ^ k.toNat + 1)
  (hret : RetC h₀ L m news s Q (2 ^ w1.toNat) ((vA + vB) % (2 ^ k.toNat + 1))) :
  wpAny (model PySem.Challenge.rw_rr0057_01.row.prog w) (ktrTop dp un gd cn cs L a ccd cl outer) (call (.ref 165) [.ref lA, .ref lB, .int k tk, .int w1 tw]) Q E s := by
  have hp := p150 hk1
  have hp1 := twoPos k.toNat
  have hA0 := can_nonneg (base_ge hw) hcA
  have hB0 := can_nonneg (base_ge hw) hcB
  w_top off
  k_with_none
  k_with "m_mem" => (first | assumption | exact List.Mem.head _ | (refine List.Mem.tail _ ?_; k_extra "m_mem") | (refine List.mem_append.mpr (Or.inl ?_); k_extra "m_mem") | (refine List.mem_append.mpr (Or.inr ?_); k_extra "m_mem"))
  k_with "m_sub" => (first | exact fun _ h9 => h9 | exact List.forall_mem_nil _ | exact List.forall_mem_cons.mpr ⟨by k_extra "m_mem", by k_extra "m_sub"⟩ | exact List.forall_mem_append.mpr ⟨by k_extra "m_sub", by k_extra "m_sub"⟩ | (intro q9 h9; k_extra "m_mem"))
  k_with "m_lt" => (first | assumption | exact allLtOf (by assumption) | exact ltSub (by assumption) (by k_extra "m_sub") | (rename _ ∧ AllLt _ _ => l9; exact allLtOf l9.2) | (rename _ ∧ _ ∧ AllLt _ _ => l9; exact allLtOf l9.2.2) | (rename _ ∧ _ ∧ _ ∧ AllLt _ _ => l9; exact allLtOf l9.2.2.2) | (rename _ ∧ _ ∧ _ ∧ _ ∧ AllLt _ _ => l9; exact allLtOf l9.2.2.2.2))
  k_with "m_ne" => exact neOfLt (by k_extra "m_lt")
  k_with "m_keep" => (first | exact List.forall_mem_nil _ | (refine List.forall_mem_cons.mpr ⟨(by exact rfl), ?_⟩; k_extra "m_keep"))
  k_with "pyIter ref" => k_dflt (k_extra "loop")
  k_with "exec For Name Call cons nil" => (k_here; (rename Fr _ _ _ _ => lF'); (with_unfolding_all refine' For_invVF lF' (by exact rfl) (by exact rfl) ?_; k_whole))
  k_with "exec For Name Name cons nil" => (k_here; (rename Fr _ _ _ _ => lF'); (with_unfolding_all refine' For_invVF lF' (by exact rfl) (by exact rfl) ?_; k_whole))
  k_with "exec While" => k_dflt (k_extra "while")
  k_with "exec While Compare cons nil" => k_dflt (k_extra "while")
  k_with "exec While Compare" => k_dflt (k_extra "while")
  k_with "MPost" => dsimp only [MPost]
  k_with "MEnd" => k_dflt (k_extra "turn")
  k_with "m_fit" => (first | omega | (k_extra "fit"; omega))
  k_with "call builtin:list.append" => (k_here; (with_reducible show wpAny _ _ (call (Value.builtin _) [Value.ref _, Value.int _ _]) _ _ _); k_dflt (refine m_append (by k_asm) (by k_asm) (by k_upd) (by l_ints) (by k_extra "m_fit") ?_; k_whole); intro h' F' N'; (try k_sweep))
  k_with "m_fl_end" => refine fl_end (by assumption) (by assumption) (List.Mem.head _) (by k_extra "m_sub") (by k_extra "m_sub") (by first | assumption | exact List.forall_mem_nil _) (by first | assumption | exact fun _ _ => List.forall_mem_nil _) (by l_ints) (by exact rfl) (by k_extra "m_keep") ?_
  k_with "m_small" => exact small_one (by omega) (by omega) (by omega) (by omega)
  k_with "m_room" => ((try simp only [depth_under_make, depth_under_kw, depth_in1, depth_deeper, depth_caller, units_in1, units_deeper, Around.mark_units, units_caller]); dsimp only [ktrTop]; omega)
  k_with "m_units" => ((try simp only [depth_under_make, depth_under_kw, depth_in1, depth_deeper, depth_caller, units_in1, units_deeper, Around.mark_units, units_caller]); dsimp only [ktrTop]; omega)
  k_with "binaryOp Add ref ref" => (k_here; (with_reducible show wpAny _ _ (binaryOp _ (Value.ref _) (Value.ref _)) _ _ _); k_dflt (refine kmk_add_ints (by k_asm) (by k_asm) (by is_list) (by is_list) (by l_ints) (by l_ints) ?_ (by (rw [sizeLine_eq]; (try simp only [List.length_append, List.length_cons, List.length_nil]); omega))); intro D' ws' h' F' N' l1 hI'; (try k_lt l1); (try k_sweep))
  k_with "call ref" => (k_here; k_dflt (k_extra "call"))
  k_with "subscriptTail Name Slice ref ref" => (k_here; (with_reducible show wpAny _ _ (subscriptTail _ (PySem.Expr.Slice _ _ none _) (Value.ref _) (Value.ref _)) _ _ _); k_dflt (refine kmk_slice_ints (by k_asm) (by k_asm) (by is_list) (by kmk_part) (by kmk_part) (by l_ints) (by first | exact kmk_all (by l_ints) | exact kmk_from (by l_ints) (by omega) | exact kmk_upto (by l_ints) (by omega) | exact kmk_run (by l_ints) (by omega) (by omega)) (by kmk_len) ?_ (by with_unfolding_all rfl) (by kmk_pure) (by (refine kmk_sz (by l_ints) ?_; rw [sizeLine_eq]; omega))); intro D' ws' h' F' N' l1 hI' hC' hL'; (try k_lt l1); (try k_sweep))
  k_with "compareOp Eq ref ref" => (k_here; (with_reducible show wpAny _ _ (compareOp CmpOp.Eq (Value.ref _) (Value.ref _)) _ _ _); k_dflt (refine ke_eq_ints (by is_list) (by is_list) (by l_ints) (by l_ints) (by (dsimp only [ktrTop, Around.deeper]; omega)) ?_; k_whole))
  revert kX; k_fill; intro kX
  refine wpAny_call ?_
  k_dflt ktr_enter
  k_with "call" => ((first
    | ((with_reducible show wpAny _ _ (PySem.call (Value.ref 74) _) _ _ _); refine add_spec (by assumption) (by assumption) (by assumption) (by assumption) (by assumption) (by exact rfl) (by dsimp only [ktrTop]; omega) (by dsimp only [ktrTop]; omega) hw hw2 (by k_extra "m_mem") (by l_ints) (by assumption) (by omega) (by k_extra "m_mem") (by l_ints) (by assumption) (by omega) ?_; intro r9 us9 n9 res9 h9 tk9 F9 N9 hi9 hc9 hlt9; (try dsimp only))
    | ((with_reducible show wpAny _ _ (PySem.call (Value.ref 109) _) _ _ _); refine bits_spec (by assumption) (by assumption) (by assumption) (by assumption) (by assumption) (by exact rfl) (by dsimp only [ktrTop]; omega) (by dsimp only [ktrTop]; omega) hw hw2 (by k_extra "m_mem") (by l_ints) (by assumption) (by omega) ?_; intro c9 t9 h9 tk9 hb9 F9 N9; have hbk := hb9 k.toNat; (try dsimp only))
    | ((with_reducible show wpAny _ _ (PySem.call (Value.ref 67) _) _ _ _); refine compare_spec (by assumption) (by assumption) (by assumption) (by assumption) (by assumption) (by exact rfl) (by dsimp only [ktrTop]; omega) (by dsimp only [ktrTop]; omega) hw hw2 (by k_extra "m_mem") (by l_ints) (by assumption) (by omega) (by k_extra "m_mem") (by l_ints) (by assumption) (by omega) ?_; intro c9 t9 h9 tk9 hlt9 hgt9 F9 N9; (try dsimp only))
    | ((with_reducible show wpAny _ _ (PySem.call (Value.ref 81) _) _ _ _); refine sub_spec (by assumption) (by assumption) (by assumption) (by assumption) (by assumption) (by exact rfl) (by dsimp only [ktrTop]; omega) (by dsimp only [ktrTop]; omega) hw hw2 (by k_extra "m_mem") (by l_ints) (by assumption) (by omega) (by k_extra "m_mem") (by l_ints) (by assumption) (by omega) (by omega) ?_; intro r9 us9 n9 res9 h9 tk9 F9 N9 hi9 hc9 hlt9; (try dsimp only))
    | ((with_reducible show wpAny _ _ (PySem.call (Value.ref 158) _) _ _ _); refine ring_one_spec (by assumption) (by assumption) (by assumption) (by assumption) (by assumption) (by exact rfl) (by dsimp only [ktrTop]; omega) (by dsimp only [ktrTop]; omega) hw hw2 (by omega) hk1 ?_; intro r9 us9 n9 res9 h9 tk9 F9 N9 hi9 hc9 hlt9; (try dsimp only))))
  k_steps
  all_goals ((rename Fr _ _ _ _ => F9); (rename News _ _ _ _ => N9); first | (rw [radd_hi hA0 hA1 hB0 hB1 (by omega)] at hret; exact hret _ _ _ _ _ _ F9 (newsDrop N9 (by k_extra "m_sub")) (by l_ints) (by assumption) (by k_extra "m_lt")) | (rw [radd_lo hA0 hA1 hB0 hB1 (by omega)] at hret; exact hret _ _ _ _ _ _ F9 (newsDrop N9 (by k_extra "m_sub")) (by l_ints) (by assumption) (by k_extra "m_lt")))
end
-- F_ring_sub
section
theorem ring_sub_spec {w : World} {mean : ExcName → Option Value} {mg mb : Str → Option Value} {dp un : Nat} {gd : Option (List Code)} {cn : Str} {cs : Scope} {a : Addr} {ccd : Value} {cl : List (Str × Addr)} {outer : List Env} {A₀ : Around} {base h₀ : Heap} {L : Addr} {m : Str → Option Value} {news : List (Addr × Obj)} {s : Shared} {Q E : Value → Shared → Prop}
  (kB : Below A₀ base outer h₀) (kF : Fr h₀ L s.heap m) (kX : (KK w.params).In h₀) (kN : News h₀ L s.heap news) (kT : Top topProg LOOSE mean mg mb h₀) (hk : cs.kind = .function) (hdp : dp + 3 < recursionLimit) (hun : un + 24 < cLine)
  {w1 : Int} (hw : 0 < w1) (hw2 : w1 < 60)
  {lA : Addr} {uA : List Value} {cA : Nat} {A : List Int} {vA : Int} (hmA : (lA, listOf uA.toArray cA) ∈ news) (hiA : IntsAre uA A) (hcA : Can (2 ^ w1.toNat) A vA) (hvA : vA < 2 ^ 200)
  {lB : Addr} {uB : List Value} {cB : Nat} {B : List Int} {vB : Int} (hmB : (lB, listOf uB.toArray cB) ∈ news) (hiB : IntsAre uB B) (hcB : Can (2 ^ w1.toNat) B vB) (hvB : vB < 2 ^ 200)
  {k : Int} {tk : Tok}
  {tw : Tok}
  (hk0 : 1 ≤ k) (hk1 : k < 150) (hA1 : vA < 2 ^ k.toNat + 1) (hB1 : vB < 2 ^ k.toNat + 1)
  (hret : RetC h₀ L m news s Q (2 ^ w1.toNat) ((vA - vB) % (2 ^ k.toNat + 1))) :
  wpAny (model PySem.Challenge.rw_rr0057_01.row.prog w) (ktrTop dp un gd cn cs L a ccd cl outer) (call (.ref 172) [.ref lA, .ref lB, .int k tk, .int w1 tw]) Q E s := by
  have hp := p150 hk1
  have hp1 := twoPos k.toNat
  have hA0 := can_nonneg (base_ge hw) hcA
  have hB0 := can_nonneg (base_ge hw) hcB
  w_top off
  k_with_none
  k_with "m_mem" => (first | assumption | exact List.Mem.head _ | (refine List.Mem.tail _ ?_; k_extra "m_mem") | (refine List.mem_append.mpr (Or.inl ?_); k_extra "m_mem") | (refine List.mem_append.mpr (Or.inr ?_); k_extra "m_mem"))
  k_with "m_sub" => (first | exact fun _ h9 => h9 | exact List.forall_mem_nil _ | exact List.forall_mem_cons.mpr ⟨by k_extra "m_mem", by k_extra "m_sub"⟩ | exact List.forall_mem_append.mpr ⟨by k_extra "m_sub", by k_extra "m_sub"⟩ | (intro q9 h9; k_extra "m_mem"))
  k_with "m_lt" => (first | assumption | exact allLtOf (by assumption) | exact ltSub (by assumption) (by k_extra "m_sub") | (rename _ ∧ AllLt _ _ => l9; exact allLtOf l9.2) | (rename _ ∧ _ ∧ AllLt _ _ => l9; exact allLtOf l9.2.2) | (rename _ ∧ _ ∧ _ ∧ AllLt _ _ => l9; exact allLtOf l9.2.2.2) | (rename _ ∧ _ ∧ _ ∧ _ ∧ AllLt _ _ => l9; exact allLtOf l9.2.2.2.2))
  k_with "m_ne" => exact neOfLt (by k_extra "m_lt")
  k_with "m_keep" => (first | exact List.forall_mem_nil _ | (refine List.forall_mem_cons.mpr ⟨(by exact rfl), ?_⟩; k_extra "m_keep"))
  k_with "pyIter ref" => k_dflt (k_extra "loop")
  k_with "exec For Name Call cons nil" => (k_here; (rename Fr _ _ _ _ => lF'); (with_unfolding_all refine' For_invVF lF' (by exact rfl) (by exact rfl) ?_; k_whole))
  k_with "exec For Name Name cons nil" => (k_here; (rename Fr _ _ _ _ => lF'); (with_unfolding_all refine' For_invVF lF' (by exact rfl) (by exact rfl) ?_; k_whole))
  k_with "exec While" => k_dflt (k_extra "while")
  k_with "exec While Compare cons nil" => k_dflt (k_extra "while")
  k_with "exec While Compare" => k_dflt (k_extra "while")
  k_with "MPost" => dsimp only [MPost]
  k_with "MEnd" => k_dflt (k_extra "turn")
  k_with "m_fit" => (first | omega | (k_extra "fit"; omega))
  k_with "call builtin:list.append" => (k_here; (with_reducible show wpAny _ _ (call (Value.builtin _) [Value.ref _, Value.int _ _]) _ _ _); k_dflt (refine m_append (by k_asm) (by k_asm) (by k_upd) (by l_ints) (by k_extra "m_fit") ?_; k_whole); intro h' F' N'; (try k_sweep))
  k_with "m_fl_end" => refine fl_end (by assumption) (by assumption) (List.Mem.head _) (by k_extra "m_sub") (by k_extra "m_sub") (by first | assumption | exact List.forall_mem_nil _) (by first | assumption | exact fun _ _ => List.forall_mem_nil _) (by l_ints) (by exact rfl) (by k_extra "m_keep") ?_
  k_with "m_small" => exact small_one (by omega) (by omega) (by omega) (by omega)
  k_with "m_room" => ((try simp only [depth_under_make, depth_under_kw, depth_in1, depth_deeper, depth_caller, units_in1, units_deeper, Around.mark_units, units_caller]); dsimp only [ktrTop]; omega)
  k_with "m_units" => ((try simp only [depth_under_make, depth_under_kw, depth_in1, depth_deeper, depth_caller, units_in1, units_deeper, Around.mark_units, units_caller]); dsimp only [ktrTop]; omega)
  k_with "binaryOp Add ref ref" => (k_here; (with_reducible show wpAny _ _ (binaryOp _ (Value.ref _) (Value.ref _)) _ _ _); k_dflt (refine kmk_add_ints (by k_asm) (by k_asm) (by is_list) (by is_list) (by l_ints) (by l_ints) ?_ (by (rw [sizeLine_eq]; (try simp only [List.length_append, List.length_cons, List.length_nil]); omega))); intro D' ws' h' F' N' l1 hI'; (try k_lt l1); (try k_sweep))
  k_with "call ref" => (k_here; k_dflt (k_extra "call"))
  k_with "subscriptTail Name Slice ref ref" => (k_here; (with_reducible show wpAny _ _ (subscriptTail _ (PySem.Expr.Slice _ _ none _) (Value.ref _) (Value.ref _)) _ _ _); k_dflt (refine kmk_slice_ints (by k_asm) (by k_asm) (by is_list) (by kmk_part) (by kmk_part) (by l_ints) (by first | exact kmk_all (by l_ints) | exact kmk_from (by l_ints) (by omega) | exact kmk_upto (by l_ints) (by omega) | exact kmk_run (by l_ints) (by omega) (by omega)) (by kmk_len) ?_ (by with_unfolding_all rfl) (by kmk_pure) (by (refine kmk_sz (by l_ints) ?_; rw [sizeLine_eq]; omega))); intro D' ws' h' F' N' l1 hI' hC' hL'; (try k_lt l1); (try k_sweep))
  k_with "compareOp Eq ref ref" => (k_here; (with_reducible show wpAny _ _ (compareOp CmpOp.Eq (Value.ref _) (Value.ref _)) _ _ _); k_dflt (refine ke_eq_ints (by is_list) (by is_list) (by l_ints) (by l_ints) (by (dsimp only [ktrTop, Around.deeper]; omega)) ?_; k_whole))
  revert kX; k_fill; intro kX
  refine wpAny_call ?_
  k_dflt ktr_enter
  k_with "call" => ((first
    | ((with_reducible show wpAny _ _ (PySem.call (Value.ref 74) _) _ _ _); refine add_spec (by assumption) (by assumption) (by assumption) (by assumption) (by assumption) (by exact rfl) (by dsimp only [ktrTop]; omega) (by dsimp only [ktrTop]; omega) hw hw2 (by k_extra "m_mem") (by l_ints) (by assumption) (by omega) (by k_extra "m_mem") (by l_ints) (by assumption) (by omega) ?_; intro r9 us9 n9 res9 h9 tk9 F9 N9 hi9 hc9 hlt9; (try dsimp only))
    | ((with_reducible show wpAny _ _ (PySem.call (Value.ref 67) _) _ _ _); refine compare_spec (by assumption) (by assumption) (by assumption) (by assumption) (by assumption) (by exact rfl) (by dsimp only [ktrTop]; omega) (by dsimp only [ktrTop]; omega) hw hw2 (by k_extra "m_mem") (by l_ints) (by assumption) (by omega) (by k_extra "m_mem") (by l_ints) (by assumption) (by omega) ?_; intro c9 t9 h9 tk9 hlt9 hgt9 F9 N9; (try dsimp only))
    | ((with_reducible show wpAny _ _ (PySem.call (Value.ref 81) _) _ _ _); refine sub_spec (by assumption) (by assumption) (by assumption) (by assumption) (by assumption) (by exact rfl) (by dsimp only [ktrTop]; omega) (by dsimp only [ktrTop]; omega) hw hw2 (by k_extra "m_mem") (by l_ints) (by assumption) (by omega) (by k_extra "m_mem") (by l_ints) (by assumption) (by omega) (by omega) ?_; intro r9 us9 n9 res9 h9 tk9 F9 N9 hi9 hc9 hlt9; (try dsimp only))
    | ((with_reducible show wpAny _ _ (PySem.call (Value.ref 158) _) _ _ _); refine ring_one_spec (by assumption) (by assumption) (by assumption) (by assumption) (by assumption) (by exact rfl) (by dsimp only [ktrTop]; omega) (by dsimp only [ktrTop]; omega) hw hw2 (by omega) hk1 ?_; intro r9 us9 n9 res9 h9 tk9 F9 N9 hi9 hc9 hlt9; (try dsimp only))))
  k_steps
  all_goals ((rename Fr _ _ _ _ => F9); (rename News _ _ _ _ => N9); first | (rw [rsub_hi hA0 hA1 hB0 hB1 (by omega)] at hret; exact hret _ _ _ _ _ _ F9 (newsDrop N9 (by k_extra "m_sub")) (by l_ints) (by assumption) (by k_extra "m_lt")) | (rw [rsub_lo hA0 hA1 hB0 hB1 (by omega)] at hret; exact hret _ _ _ _ _ _ F9 (newsDrop N9 (by k_extra "m_sub")) (by l_ints) (by assumption) (by k_extra "m_lt")))
end
-- F_ring_fold
section
theorem ring_fold_spec {w : World} {mean : ExcName → Option Value} {mg mb : Str → Option Value} {dp un : Nat} {gd : Option (List Code)} {cn : Str} {cs : Scope} {a : Addr} {ccd : Value} {cl : List (Str × Addr)} {outer : List Env} {A₀ : Around} {base h₀ : Heap} {L : Addr} {m : Str → Option Value} {news : List (Addr × Obj)} {s : Shared} {Q E : Value → Shared → Prop}
  (kB : Below A₀ base outer h₀) (kF : Fr h₀ L s.heap m) (kX : (KK w.params).In h₀) (kN : News h₀ L s.heap news) (kT : Top topProg LOOSE mean mg mb h₀) (hk : cs.kind = .function) (hdp : dp + 4 < recursionLimit) (hun : un + 32 < cLine)
  {w1 : Int} (hw : 0 < w1) (hw2 : w1 < 60)
  {lA : Addr} {uA : List Value} {cA : Nat} {A : List Int} {vA : Int} (hmA : (lA, listOf uA.toArray cA) ∈ news) (hiA : IntsAre uA A) (hcA : Can (2 ^ w1.toNat) A vA) (hvA : vA < 2 ^ 200)
  {k : Int} {tk : Tok}
  {tw : Tok}
  (hk0 : 1 ≤ k) (hk1 : k < 150)
  (hret : RetC h₀ L m news s Q (2 ^ w1.toNat) (vA % (2 ^ k.toNat + 1))) :
  wpAny (model PySem.Challenge.rw_rr0057_01.row.prog w) (ktrTop dp un gd cn cs L a ccd cl outer) (call (.ref 193) [.ref lA, .int k tk, .int w1 tw]) Q E s := by
  have hp := p150 hk1
  have hp1 := twoPos k.toNat
  have hP2 : (2 : Int) ≤ 2 ^ k.toNat := base_ge (by omega)
  have hA0 := can_nonneg (base_ge hw) hcA
  w_top off
  k_with_none
  k_with "m_mem" => (first | assumption | exact List.Mem.head _ | (refine List.Mem.tail _ ?_; k_extra "m_mem") | (refine List.mem_append.mpr (Or.inl ?_); k_extra "m_mem") | (refine List.mem_append.mpr (Or.inr ?_); k_extra "m_mem"))
  k_with "m_sub" => (first | exact fun _ h9 => h9 | exact List.forall_mem_nil _ | exact List.forall_mem_cons.mpr ⟨by k_extra "m_mem", by k_extra "m_sub"⟩ | exact List.forall_mem_append.mpr ⟨by k_extra "m_sub", by k_extra "m_sub"⟩ | (intro q9 h9; k_extra "m_mem"))
  k_with "m_lt" => (first | assumption | exact allLtOf (by assumption) | exact ltSub (by assumption) (by k_extra "m_sub") | (rename _ ∧ AllLt _ _ => l9; exact allLtOf l9.2) | (rename _ ∧ _ ∧ AllLt _ _ => l9; exact allLtOf l9.2.2) | (rename _ ∧ _ ∧ _ ∧ AllLt _ _ => l9; exact allLtOf l9.2.2.2) | (rename _ ∧ _ ∧ _ ∧ _ ∧ AllLt _ _ => l9; exact allLtOf l9.2.2.2.2))
  k_with "m_ne" => exact neOfLt (by k_extra "m_lt")
  k_with "m_keep" => (first | exact List.forall_mem_nil _ | (refine List.forall_mem_cons.mpr ⟨(by exact rfl), ?_⟩; k_extra "m_keep"))
  k_with "pyIter ref" => k_dflt (k_extra "loop")
  k_with "exec For Name Call cons nil" => (k_here; (rename Fr _ _ _ _ => lF'); (with_unfolding_all refine' For_invVF lF' (by exact rfl) (by exact rfl) ?_; k_whole))
  k_with "exec For Name Name cons nil" => (k_here; (rename Fr _ _ _ _ => lF'); (with_unfolding_all refine' For_invVF lF' (by exact rfl) (by exact rfl) ?_; k_whole))
  k_with "exec While" => k_dflt (k_extra "while")
  k_with "exec While Compare cons nil" => k_dflt (k_extra "while")
  k_with "exec While Compare" => k_dflt (k_extra "while")
  k_with "MPost" => dsimp only [MPost]
  k_with "MEnd" => k_dflt (k_extra "turn")
  k_with "m_fit" => (first | omega | (k_extra "fit"; omega))
  k_with "call builtin:list.append" => (k_here; (with_reducible show wpAny _ _ (call (Value.builtin _) [Value.ref _, Value.int _ _]) _ _ _); k_dflt (refine m_append (by k_asm) (by k_asm) (by k_upd) (by l_ints) (by k_extra "m_fit") ?_; k_whole); intro h' F' N'; (try k_sweep))
  k_with "m_fl_end" => refine fl_end (by assumption) (by assumption) (List.Mem.head _) (by k_extra "m_sub") (by k_extra "m_sub") (by first | assumption | exact List.forall_mem_nil _) (by first | assumption | exact fun _ _ => List.forall_mem_nil _) (by l_ints) (by exact rfl) (by k_extra "m_keep") ?_
  k_with "m_small" => exact small_one (by omega) (by omega) (by omega) (by omega)
  k_with "m_room" => ((try simp only [depth_under_make, depth_under_kw, depth_in1, depth_deeper, depth_caller, units_in1, units_deeper, Around.mark_units, units_caller]); dsimp only [ktrTop]; omega)
  k_with "m_units" => ((try simp only [depth_under_make, depth_under_kw, depth_in1, depth_deeper, depth_caller, units_in1, units_deeper, Around.mark_units, units_caller]); dsimp only [ktrTop]; omega)
  k_with "binaryOp Add ref ref" => (k_here; (with_reducible show wpAny _ _ (binaryOp _ (Value.ref _) (Value.ref _)) _ _ _); k_dflt (refine kmk_add_ints (by k_asm) (by k_asm) (by is_list) (by is_list) (by l_ints) (by l_ints) ?_ (by (rw [sizeLine_eq]; (try simp only [List.length_append, List.length_cons, List.length_nil]); omega))); intro D' ws' h' F' N' l1 hI'; (try k_lt l1); (try k_sweep))
  k_with "call ref" => (k_here; k_dflt (k_extra "call"))
  k_with "subscriptTail Name Slice ref ref" => (k_here; (with_reducible show wpAny _ _ (subscriptTail _ (PySem.Expr.Slice _ _ none _) (Value.ref _) (Value.ref _)) _ _ _); k_dflt (refine kmk_slice_ints (by k_asm) (by k_asm) (by is_list) (by kmk_part) (by kmk_part) (by l_ints) (by first | exact kmk_all (by l_ints) | exact kmk_from (by l_ints) (by omega) | exact kmk_upto (by l_ints) (by omega) | exact kmk_run (by l_ints) (by omega) (by omega)) (by kmk_len) ?_ (by with_unfolding_all rfl) (by kmk_pure) (by (refine kmk_sz (by l_ints) ?_; rw [sizeLine_eq]; omega))); intro D' ws' h' F' N' l1 hI' hC' hL'; (try k_lt l1); (try k_sweep))
  k_with "compareOp Eq ref ref" => (k_here; (with_reducible show wpAny _ _ (compareOp CmpOp.Eq (Value.ref _) (Value.ref _)) _ _ _); k_dflt (refine ke_eq_ints (by is_list) (by is_list) (by l_ints) (by l_ints) (by (dsimp only [ktrTop, Around.deeper]; omega)) ?_; k_whole))
  revert kX; k_fill; intro kX
  refine wpAny_call ?_
  k_dflt ktr_enter
  k_with "call" => ((first
    | ((with_reducible show wpAny _ _ (PySem.call (Value.ref 186) _) _ _ _); refine need_ring_spec (by assumption) (by assumption) (by assumption) (by assumption) (by assumption) (by exact rfl) (by dsimp only [ktrTop]; omega) (by dsimp only [ktrTop]; omega) (by omega) ?_; intro h9 tk9 F9 N9; (try dsimp only))
    | ((with_reducible show wpAny _ _ (PySem.call (Value.ref 116) _) _ _ _); refine low_spec (by assumption) (by assumption) (by assumption) (by assumption) (by assumption) (by exact rfl) (by dsimp only [ktrTop]; omega) (by dsimp only [ktrTop]; omega) hw hw2 (by k_extra "m_mem") (by l_ints) (by assumption) (by omega) (by omega) (by omega) ?_; intro r9 us9 n9 res9 h9 tk9 F9 N9 hi9 hc9 hlt9; (try dsimp only))
    | ((with_reducible show wpAny _ _ (PySem.call (Value.ref 102) _) _ _ _); refine shift_right_spec (by assumption) (by assumption) (by assumption) (by assumption) (by assumption) (by exact rfl) (by dsimp only [ktrTop]; omega) (by dsimp only [ktrTop]; omega) hw hw2 (by k_extra "m_mem") (by l_ints) (by assumption) (by omega) (by omega) (by omega) ?_; intro r9 us9 n9 res9 h9 tk9 F9 N9 hi9 hc9 hlt9; (try dsimp only))
    | ((with_reducible show wpAny _ _ (PySem.call (Value.ref 165) _) _ _ _); refine ring_add_spec (by assumption) (by assumption) (by assumption) (by assumption) (by assumption) (by exact rfl) (by dsimp only [ktrTop]; omega) (by dsimp only [ktrTop]; omega) hw hw2 (by k_extra "m_mem") (by l_ints) (by assumption) (by omega) (by k_extra "m_mem") (by l_ints) (by assumption) (by omega) hk0 hk1 (by omega) (by omega) ?_; intro r9 us9 n9 res9 h9 tk9 F9 N9 hi9 hc9 hlt9; (try dsimp only))
    | ((with_reducible show wpAny _ _ (PySem.call (Value.ref 172) _) _ _ _); refine ring_sub_spec (by assumption) (by assumption) (by assumption) (by assumption) (by assumption) (by exact rfl) (by dsimp only [ktrTop]; omega) (by dsimp only [ktrTop]; omega) hw hw2 (by k_extra "m_mem") (by l_ints) (by assumption) (by omega) (by k_extra "m_mem") (by l_ints) (by assumption) (by omega) hk0 hk1 (by omega) (by omega) ?_; intro r9 us9 n9 res9 h9 tk9 F9 N9 hi9 hc9 hlt9; (try dsimp only))))
  k_with "turn" => ((have hv := len_pos (base_ge hw) hc (by omega); first
    | (have hs := rf_step0 hP2 hI hv; refine r2_end (by assumption) (by assumption) (by exact rfl) (by exact rfl) (by exact rfl) (by k_extra "m_mem") (by k_extra "m_mem") (by k_extra "m_sub") (by l_ints) (by l_ints) (by assumption) (by assumption) (by k_extra "m_keep") (by k_extra "m_lt") ?_; exact ⟨hs.1, hs.2.1⟩)
    | (have hs := rf_step1 hP2 hI hv; refine r2_end (by assumption) (by assumption) (by exact rfl) (by exact rfl) (by exact rfl) (by k_extra "m_mem") (by k_extra "m_mem") (by k_extra "m_sub") (by l_ints) (by l_ints) (by assumption) (by assumption) (by k_extra "m_keep") (by k_extra "m_lt") ?_; exact ⟨hs.1, hs.2.1⟩)))
  k_with "while" => ((
    (rename Fr _ _ _ _ => F1)
    (rename News _ _ _ _ => N1)
    refine r2_while (b := 2 ^ w1.toNat) (base := news) (y := "a") (z := "found") (q := "is_minus") [("n", _), ("w", _)] (fun l => ∀ q ∈ news, q.1 < l) (fun v f t => RfInv (2 ^ k.toNat) vA v f t) F1 N1 (by exact rfl) (by exact rfl) (by exact rfl) (by k_extra "m_mem") (by k_extra "m_mem") (by l_ints) (by l_ints) hcA can_nil (by k_extra "m_keep") (by k_extra "m_sub") (by k_extra "m_lt") (rf_start (by omega) hA0) (fun l us n F v l2 us2 n2 F2 v2 t u h tk' hi hc hi2 hc2 hO hI hF hN => ?_)
    have hv0 := hI.1
    have hv1 := hI.2.1
    have hf0 := hI.2.2.1
    have hf1 := hI.2.2.2.1
    have hnF : F.length < 1000 := Nat.lt_of_le_of_lt (can_len (base_ge hw) hc (show v < 2 ^ 200 by omega)) (by decide)
    have hm0 := Int.emod_nonneg v (show (2 : Int) ^ k.toNat ≠ 0 by omega)
    have hm1 := Int.emod_lt_of_pos v hp1
    cases t
    all_goals (try k_fold)))
  k_steps
  all_goals ((rename Fr _ _ _ _ => F9); (rename News _ _ _ _ => N9); first
    | (have e := rf_end hI (len_zero hc (by omega)).2; rw [e] at hret; exact hret _ _ _ _ _ _ F9 (newsDrop N9 (by k_extra "m_sub")) (by l_ints) (by assumption) (by k_extra "m_lt"))
   )
end
-- F_ring_shift_lo
section
theorem ring_shift_lo_spec {w : World} {mean : ExcName → Option Value} {mg mb : Str → Option Value} {dp un : Nat} {gd : Option (List Code)} {cn : Str} {cs : Scope} {a : Addr} {ccd : Value} {cl : List (Str × Addr)} {outer : List Env} {A₀ : Around} {base h₀ : Heap} {L : Addr} {m : Str → Option Value} {news : List (Addr × Obj)} {s : Shared} {Q E : Value → Shared → Prop}
  (kB : Below A₀ base outer h₀) (kF : Fr h₀ L s.heap m) (kX : (KK w.params).In h₀) (kN : News h₀ L s.heap news) (kT : Top topProg LOOSE mean mg mb h₀) (hk : cs.kind = .function) (hdp : dp + 5 < recursionLimit) (hun : un + 40 < cLine)
  {w1 : Int} (hw : 0 < w1) (hw2 : w1 < 60)
  {lA : Addr} {uA : List Value} {cA : Nat} {A : List Int} {vA : Int} (hmA : (lA, listOf uA.toArray cA) ∈ news) (hiA : IntsAre uA A) (hcA : Can (2 ^ w1.toNat) A vA) (hvA : vA < 2 ^ 200)
  {j : Int} {tj : Tok}
  {k : Int} {tk : Tok}
  {tw : Tok}
  (hk0 : 1 ≤ k) (hk1 : k < 150) (hj0 : 0 ≤ j) (hj1 : j < k) (hAB : vA * 2 ^ j.toNat < 2 ^ 200)
  (hret : RetC h₀ L m news s Q (2 ^ w1.toNat) (vA * 2 ^ j.toNat % (2 ^ k.toNat + 1))) :
  wpAny (model PySem.Challenge.rw_rr0057_01.row.prog w) (ktrTop dp un gd cn cs L a ccd cl outer) (call (.ref 200) [.ref lA, .int j tj, .int k tk, .int w1 tw]) Q E s := by
  have hp := p150 hk1
  have hp1 := twoPos k.toNat
  have hfm := fmod2_facts (j := j) (k := k) (by omega) hj0
  have hjk := fmod_small hj0 hj1
  have hAB' : vA * 2 ^ (j.fmod (2 * k)).toNat < 2 ^ 200 := by rw [hjk]; exact hAB
  w_top off
  k_with_none
  k_with "m_mem" => (first | assumption | exact List.Mem.head _ | (refine List.Mem.tail _ ?_; k_extra "m_mem") | (refine List.mem_append.mpr (Or.inl ?_); k_extra "m_mem") | (refine List.mem_append.mpr (Or.inr ?_); k_extra "m_mem"))
  k_with "m_sub" => (first | exact fun _ h9 => h9 | exact List.forall_mem_nil _ | exact List.forall_mem_cons.mpr ⟨by k_extra "m_mem", by k_extra "m_sub"⟩ | exact List.forall_mem_append.mpr ⟨by k_extra "m_sub", by k_extra "m_sub"⟩ | (intro q9 h9; k_extra "m_mem"))
  k_with "m_lt" => (first | assumption | exact allLtOf (by assumption) | exact ltSub (by assumption) (by k_extra "m_sub") | (rename _ ∧ AllLt _ _ => l9; exact allLtOf l9.2) | (rename _ ∧ _ ∧ AllLt _ _ => l9; exact allLtOf l9.2.2) | (rename _ ∧ _ ∧ _ ∧ AllLt _ _ => l9; exact allLtOf l9.2.2.2) | (rename _ ∧ _ ∧ _ ∧ _ ∧ AllLt _ _ => l9; exact allLtOf l9.2.2.2.2))
  k_with "m_ne" => exact neOfLt (by k_extra "m_lt")
  k_with "m_keep" => (first | exact List.forall_mem_nil _ | (refine List.forall_mem_cons.mpr ⟨(by exact rfl), ?_⟩; k_extra "m_keep"))
  k_with "pyIter ref" => k_dflt (k_extra "loop")
  k_with "exec For Name Call cons nil" => (k_here; (rename Fr _ _ _ _ => lF'); (with_unfolding_all refine' For_invVF lF' (by exact rfl) (by exact rfl) ?_; k_whole))
  k_with "exec For Name Name cons nil" => (k_here; (rename Fr _ _ _ _ => lF'); (with_unfolding_all refine' For_invVF lF' (by exact rfl) (by exact rfl) ?_; k_whole))
  k_with "exec While" => k_dflt (k_extra "while")
  k_with "exec While Compare cons nil" => k_dflt (k_extra "while")
  k_with "exec While Compare" => k_dflt (k_extra "while")
  k_with "MPost" => dsimp only [MPost]
  k_with "MEnd" => k_dflt (k_extra "turn")
  k_with "m_fit" => (first | omega | (k_extra "fit"; omega))
  k_with "call builtin:list.append" => (k_here; (with_reducible show wpAny _ _ (call (Value.builtin _) [Value.ref _, Value.int _ _]) _ _ _); k_dflt (refine m_append (by k_asm) (by k_asm) (by k_upd) (by l_ints) (by k_extra "m_fit") ?_; k_whole); intro h' F' N'; (try k_sweep))
  k_with "m_fl_end" => refine fl_end (by assumption) (by assumption) (List.Mem.head _) (by k_extra "m_sub") (by k_extra "m_sub") (by first | assumption | exact List.forall_mem_nil _) (by first | assumption | exact fun _ _ => List.forall_mem_nil _) (by l_ints) (by exact rfl) (by k_extra "m_keep") ?_
  k_with "m_small" => exact small_one (by omega) (by omega) (by omega) (by omega)
  k_with "m_room" => ((try simp only [depth_under_make, depth_under_kw, depth_in1, depth_deeper, depth_caller, units_in1, units_deeper, Around.mark_units, units_caller]); dsimp only [ktrTop]; omega)
  k_with "m_units" => ((try simp only [depth_under_make, depth_under_kw, depth_in1, depth_deeper, depth_caller, units_in1, units_deeper, Around.mark_units, units_caller]); dsimp only [ktrTop]; omega)
  k_with "binaryOp Add ref ref" => (k_here; (with_reducible show wpAny _ _ (binaryOp _ (Value.ref _) (Value.ref _)) _ _ _); k_dflt (refine kmk_add_ints (by k_asm) (by k_asm) (by is_list) (by is_list) (by l_ints) (by l_ints) ?_ (by (rw [sizeLine_eq]; (try simp only [List.length_append, List.length_cons, List.length_nil]); omega))); intro D' ws' h' F' N' l1 hI'; (try k_lt l1); (try k_sweep))
  k_with "call ref" => (k_here; k_dflt (k_extra "call"))
  k_with "subscriptTail Name Slice ref ref" => (k_here; (with_reducible show wpAny _ _ (subscriptTail _ (PySem.Expr.Slice _ _ none _) (Value.ref _) (Value.ref _)) _ _ _); k_dflt (refine kmk_slice_ints (by k_asm) (by k_asm) (by is_list) (by kmk_part) (by kmk_part) (by l_ints) (by first | exact kmk_all (by l_ints) | exact kmk_from (by l_ints) (by omega) | exact kmk_upto (by l_ints) (by omega) | exact kmk_run (by l_ints) (by omega) (by omega)) (by kmk_len) ?_ (by with_unfolding_all rfl) (by kmk_pure) (by (refine kmk_sz (by l_ints) ?_; rw [sizeLine_eq]; omega))); intro D' ws' h' F' N' l1 hI' hC' hL'; (try k_lt l1); (try k_sweep))
  k_with "compareOp Eq ref ref" => (k_here; (with_reducible show wpAny _ _ (compareOp CmpOp.Eq (Value.ref _) (Value.ref _)) _ _ _); k_dflt (refine ke_eq_ints (by is_list) (by is_list) (by l_ints) (by l_ints) (by (dsimp only [ktrTop, Around.deeper]; omega)) ?_; k_whole))
  revert kX; k_fill; intro kX
  refine wpAny_call ?_
  k_dflt ktr_enter
  k_with "call" => ((first
    | ((with_reducible show wpAny _ _ (PySem.call (Value.ref 186) _) _ _ _); refine need_ring_spec (by assumption) (by assumption) (by assumption) (by assumption) (by assumption) (by exact rfl) (by dsimp only [ktrTop]; omega) (by dsimp only [ktrTop]; omega) (by omega) ?_; intro h9 tk9 F9 N9; (try dsimp only))
    | ((with_reducible show wpAny _ _ (PySem.call (Value.ref 95) _) _ _ _); refine shift_left_spec (by assumption) (by assumption) (by assumption) (by assumption) (by assumption) (by exact rfl) (by dsimp only [ktrTop]; omega) (by dsimp only [ktrTop]; omega) hw hw2 (by k_extra "m_mem") (by l_ints) (by assumption) (by omega) (by omega) (by omega) ?_; intro r9 us9 n9 res9 h9 tk9 F9 N9 hi9 hc9 hlt9; (try dsimp only))
    | ((with_reducible show wpAny _ _ (PySem.call (Value.ref 193) _) _ _ _); refine ring_fold_spec (by assumption) (by assumption) (by assumption) (by assumption) (by assumption) (by exact rfl) (by dsimp only [ktrTop]; omega) (by dsimp only [ktrTop]; omega) hw hw2 (by k_extra "m_mem") (by l_ints) (by assumption) (by omega) hk0 hk1 ?_; intro r9 us9 n9 res9 h9 tk9 F9 N9 hi9 hc9 hlt9; (try dsimp only))))
  k_steps
  all_goals ((rename Fr _ _ _ _ => F9); (rename News _ _ _ _ => N9); rw [hjk] at hc9; first | exact hret _ _ _ _ _ _ F9 (newsDrop N9 (by k_extra "m_sub")) (by l_ints) (by assumption) (by k_extra "m_lt"))
end
-- F_ring_neg
section
theorem ring_neg_spec {w : World} {mean : ExcName → Option Value} {mg mb : Str → Option Value} {dp un : Nat} {gd : Option (List Code)} {cn : Str} {cs : Scope} {a : Addr} {ccd : Value} {cl : List (Str × Addr)} {outer : List Env} {A₀ : Around} {base h₀ : Heap} {L : Addr} {m : Str → Option Value} {news : List (Addr × Obj)} {s : Shared} {Q E : Value → Shared → Prop}
  (kB : Below A₀ base outer h₀) (kF : Fr h₀ L s.heap m) (kX : (KK w.params).In h₀) (kN : News h₀ L s.heap news) (kT : Top topProg LOOSE mean mg mb h₀) (hk : cs.kind = .function) (hdp : dp + 3 < recursionLimit) (hun : un + 24 < cLine)
  {w1 : Int} (hw : 0 < w1) (hw2 : w1 < 60)
  {lA : Addr} {uA : List Value} {cA : Nat} {A : List Int} {vA : Int} (hmA : (lA, listOf uA.toArray cA) ∈ news) (hiA : IntsAre uA A) (hcA : Can (2 ^ w1.toNat) A vA) (hvA : vA < 2 ^ 200)
  {k : Int} {tk : Tok}
  {tw : Tok}
  (hk0 : 1 ≤ k) (hk1 : k < 150) (hA1 : vA < 2 ^ k.toNat + 1)
  (hret : RetC h₀ L m news s Q (2 ^ w1.toNat) ((0 - vA) % (2 ^ k.toNat + 1))) :
  wpAny (model PySem.Challenge.rw_rr0057_01.row.prog w) (ktrTop dp un gd cn cs L a ccd cl outer) (call (.ref 179) [.ref lA, .int k tk, .int w1 tw]) Q E s := by
  have hp := p150 hk1
  have hp1 := twoPos k.toNat
  have hA0 := can_nonneg (base_ge hw) hcA
  have hnA : A.length < 1000 := Nat.lt_of_le_of_lt (can_len (base_ge hw) hcA hvA) (by decide)
  w_top off
  k_with_none
  k_with "m_mem" => (first | assumption | exact List.Mem.head _ | (refine List.Mem.tail _ ?_; k_extra "m_mem") | (refine List.mem_append.mpr (Or.inl ?_); k_extra "m_mem") | (refine List.mem_append.mpr (Or.inr ?_); k_extra "m_mem"))
  k_with "m_sub" => (first | exact fun _ h9 => h9 | exact List.forall_mem_nil _ | exact List.forall_mem_cons.mpr ⟨by k_extra "m_mem", by k_extra "m_sub"⟩ | exact List.forall_mem_append.mpr ⟨by k_extra "m_sub", by k_extra "m_sub"⟩ | (intro q9 h9; k_extra "m_mem"))
  k_with "m_lt" => (first | assumption | exact allLtOf (by assumption) | exact ltSub (by assumption) (by k_extra "m_sub") | (rename _ ∧ AllLt _ _ => l9; exact allLtOf l9.2) | (rename _ ∧ _ ∧ AllLt _ _ => l9; exact allLtOf l9.2.2) | (rename _ ∧ _ ∧ _ ∧ AllLt _ _ => l9; exact allLtOf l9.2.2.2) | (rename _ ∧ _ ∧ _ ∧ _ ∧ AllLt _ _ => l9; exact allLtOf l9.2.2.2.2))
  k_with "m_ne" => exact neOfLt (by k_extra "m_lt")
  k_with "m_keep" => (first | exact List.forall_mem_nil _ | (refine List.forall_mem_cons.mpr ⟨(by exact rfl), ?_⟩; k_extra "m_keep"))
  k_with "pyIter ref" => k_dflt (k_extra "loop")
  k_with "exec For Name Call cons nil" => (k_here; (rename Fr _ _ _ _ => lF'); (with_unfolding_all refine' For_invVF lF' (by exact rfl) (by exact rfl) ?_; k_whole))
  k_with "exec For Name Name cons nil" => (k_here; (rename Fr _ _ _ _ => lF'); (with_unfolding_all refine' For_invVF lF' (by exact rfl) (by exact rfl) ?_; k_whole))
  k_with "exec While" => k_dflt (k_extra "while")
  k_with "exec While Compare cons nil" => k_dflt (k_extra "while")
  k_with "exec While Compare" => k_dflt (k_extra "while")
  k_with "MPost" => dsimp only [MPost]
  k_with "MEnd" => k_dflt (k_extra "turn")
  k_with "m_fit" => (first | omega | (k_extra "fit"; omega))
  k_with "call builtin:list.append" => (k_here; (with_reducible show wpAny _ _ (call (Value.builtin _) [Value.ref _, Value.int _ _]) _ _ _); k_dflt (refine m_append (by k_asm) (by k_asm) (by k_upd) (by l_ints) (by k_extra "m_fit") ?_; k_whole); intro h' F' N'; (try k_sweep))
  k_with "m_fl_end" => refine fl_end (by assumption) (by assumption) (List.Mem.head _) (by k_extra "m_sub") (by k_extra "m_sub") (by first | assumption | exact List.forall_mem_nil _) (by first | assumption | exact fun _ _ => List.forall_mem_nil _) (by l_ints) (by exact rfl) (by k_extra "m_keep") ?_
  k_with "m_small" => exact small_one (by omega) (by omega) (by omega) (by omega)
  k_with "m_room" => ((try simp only [depth_under_make, depth_under_kw, depth_in1, depth_deeper, depth_caller, units_in1, units_deeper, Around.mark_units, units_caller]); dsimp only [ktrTop]; omega)
  k_with "m_units" => ((try simp only [depth_under_make, depth_under_kw, depth_in1, depth_deeper, depth_caller, units_in1, units_deeper, Around.mark_units, units_caller]); dsimp only [ktrTop]; omega)
  k_with "binaryOp Add ref ref" => (k_here; (with_reducible show wpAny _ _ (binaryOp _ (Value.ref _) (Value.ref _)) _ _ _); k_dflt (refine kmk_add_ints (by k_asm) (by k_asm) (by is_list) (by is_list) (by l_ints) (by l_ints) ?_ (by (rw [sizeLine_eq]; (try simp only [List.length_append, List.length_cons, List.length_nil]); omega))); intro D' ws' h' F' N' l1 hI'; (try k_lt l1); (try k_sweep))
  k_with "call ref" => (k_here; k_dflt (k_extra "call"))
  k_with "subscriptTail Name Slice ref ref" => (k_here; (with_reducible show wpAny _ _ (subscriptTail _ (PySem.Expr.Slice _ _ none _) (Value.ref _) (Value.ref _)) _ _ _); k_dflt (refine kmk_slice_ints (by k_asm) (by k_asm) (by is_list) (by kmk_part) (by kmk_part) (by l_ints) (by first | exact kmk_all (by l_ints) | exact kmk_from (by l_ints) (by omega) | exact kmk_upto (by l_ints) (by omega) | exact kmk_run (by l_ints) (by omega) (by omega)) (by kmk_len) ?_ (by with_unfolding_all rfl) (by kmk_pure) (by (refine kmk_sz (by l_ints) ?_; rw [sizeLine_eq]; omega))); intro D' ws' h' F' N' l1 hI' hC' hL'; (try k_lt l1); (try k_sweep))
  k_with "compareOp Eq ref ref" => (k_here; (with_reducible show wpAny _ _ (compareOp CmpOp.Eq (Value.ref _) (Value.ref _)) _ _ _); k_dflt (refine ke_eq_ints (by is_list) (by is_list) (by l_ints) (by l_ints) (by (dsimp only [ktrTop, Around.deeper]; omega)) ?_; k_whole))
  revert kX; k_fill; intro kX
  refine wpAny_call ?_
  k_dflt ktr_enter
  k_with "call" => ((first
    | ((with_reducible show wpAny _ _ (PySem.call (Value.ref 81) _) _ _ _); refine sub_spec (by assumption) (by assumption) (by assumption) (by assumption) (by assumption) (by exact rfl) (by dsimp only [ktrTop]; omega) (by dsimp only [ktrTop]; omega) hw hw2 (by k_extra "m_mem") (by l_ints) (by assumption) (by omega) (by k_extra "m_mem") (by l_ints) (by assumption) (by omega) (by omega) ?_; intro r9 us9 n9 res9 h9 tk9 F9 N9 hi9 hc9 hlt9; (try dsimp only))
    | ((with_reducible show wpAny _ _ (PySem.call (Value.ref 158) _) _ _ _); refine ring_one_spec (by assumption) (by assumption) (by assumption) (by assumption) (by assumption) (by exact rfl) (by dsimp only [ktrTop]; omega) (by dsimp only [ktrTop]; omega) hw hw2 (by omega) hk1 ?_; intro r9 us9 n9 res9 h9 tk9 F9 N9 hi9 hc9 hlt9; (try dsimp only))))
  k_steps
  all_goals ((rename Fr _ _ _ _ => F9); (rename News _ _ _ _ => N9); first
    | (rw [rneg_hi (len_pos (base_ge hw) hcA (by omega)) hA1] at hret; exact hret _ _ _ _ _ _ F9 (newsDrop N9 (by k_extra "m_sub")) (by l_ints) (by assumption) (by k_extra "m_lt"))
    | (rw [rneg_lo (len_zero hcA (by omega)).2] at hret; exact hret _ _ _ _ _ _ F9 (newsDrop N9 (by k_extra "m_sub")) (by l_ints) (can_nil) (by k_extra "m_lt"))
   )
end
-- F_ring_shift
section
theorem ring_shift_spec {w : World} {mean : ExcName → Option Value} {mg mb : Str → Option Value} {dp un : Nat} {gd : Option (List Code)} {cn : Str} {cs : Scope} {a : Addr} {ccd : Value} {cl : List (Str × Addr)} {outer : List Env} {A₀ : Around} {base h₀ : Heap} {L : Addr} {m : Str → Option Value} {news : List (Addr × Obj)} {s : Shared} {Q E : Value → Shared → Prop}
  (kB : Below A₀ base outer h₀) (kF : Fr h₀ L s.heap m) (kX : (KK w.params).In h₀) (kN : News h₀ L s.heap news) (kT : Top topProg LOOSE mean mg mb h₀) (hk : cs.kind = .function) (hdp : dp + 6 < recursionLimit) (hun : un + 48 < cLine)
  {w1 : Int} (hw : 0 < w1) (hw2 : w1 < 60)
  {lA : Addr} {uA : List Value} {cA : Nat} {A : List Int} {vA : Int} (hmA : (lA, listOf uA.toArray cA) ∈ news) (hiA : IntsAre uA A) (hcA : Can (2 ^ w1.toNat) A vA) (hvA : vA < 2 ^ 200)
  {j : Int} {tj : Tok}
  {k : Int} {tk : Tok}
  {tw : Tok}
  (hk0 : 1 ≤ k) (hk1 : k < 150) (hA1 : vA = 1) (hj0 : 0 ≤ j) (hj1 : j < 150)
  (hret : RetC h₀ L m news s Q (2 ^ w1.toNat) (2 ^ j.toNat % (2 ^ k.toNat + 1))) :
  wpAny (model PySem.Challenge.rw_rr0057_01.row.prog w) (ktrTop dp un gd cn cs L a ccd cl outer) (call (.ref 200) [.ref lA, .int j tj, .int k tk, .int w1 tw]) Q E s := by
  subst hA1
  have hp := p150 hk1
  have hp1 := twoPos k.toNat
  have hfm := fmod2_facts (j := j) (k := k) (by omega) hj0
  have hq1 : (1 : Int) * 2 ^ (j.fmod (2 * k)).toNat < 2 ^ 200 := by rw [Int.one_mul]; have := p150 (k := j.fmod (2 * k)) (by omega); omega
  have hq2 : (1 : Int) * 2 ^ (j.fmod (2 * k) - k).toNat < 2 ^ 200 := by rw [Int.one_mul]; have := p150 (k := j.fmod (2 * k) - k) (by omega); omega
  have hr1 := rs_period (j := j) (k := k) (by omega) hj0
  have hr2 := rs_top (j := j) (k := k) (by omega) hj0
  w_top off
  k_with_none
  k_with "m_mem" => (first | assumption | exact List.Mem.head _ | (refine List.Mem.tail _ ?_; k_extra "m_mem") | (refine List.mem_append.mpr (Or.inl ?_); k_extra "m_mem") | (refine List.mem_append.mpr (Or.inr ?_); k_extra "m_mem"))
  k_with "m_sub" => (first | exact fun _ h9 => h9 | exact List.forall_mem_nil _ | exact List.forall_mem_cons.mpr ⟨by k_extra "m_mem", by k_extra "m_sub"⟩ | exact List.forall_mem_append.mpr ⟨by k_extra "m_sub", by k_extra "m_sub"⟩ | (intro q9 h9; k_extra "m_mem"))
  k_with "m_lt" => (first | assumption | exact allLtOf (by assumption) | exact ltSub (by assumption) (by k_extra "m_sub") | (rename _ ∧ AllLt _ _ => l9; exact allLtOf l9.2) | (rename _ ∧ _ ∧ AllLt _ _ => l9; exact allLtOf l9.2.2) | (rename _ ∧ _ ∧ _ ∧ AllLt _ _ => l9; exact allLtOf l9.2.2.2) | (rename _ ∧ _ ∧ _ ∧ _ ∧ AllLt _ _ => l9; exact allLtOf l9.2.2.2.2))
  k_with "m_ne" => exact neOfLt (by k_extra "m_lt")
  k_with "m_keep" => (first | exact List.forall_mem_nil _ | (refine List.forall_mem_cons.mpr ⟨(by exact rfl), ?_⟩; k_extra "m_keep"))
  k_with "pyIter ref" => k_dflt (k_extra "loop")
  k_with "exec For Name Call cons nil" => (k_here; (rename Fr _ _ _ _ => lF'); (with_unfolding_all refine' For_invVF lF' (by exact rfl) (by exact rfl) ?_; k_whole))
  k_with "exec For Name Name cons nil" => (k_here; (rename Fr _ _ _ _ => lF'); (with_unfolding_all refine' For_invVF lF' (by exact rfl) (by exact rfl) ?_; k_whole))
  k_with "exec While" => k_dflt (k_extra "while")
  k_with "exec While Compare cons nil" => k_dflt (k_extra "while")
  k_with "exec While Compare" => k_dflt (k_extra "while")
  k_with "MPost" => dsimp only [MPost]
  k_with "MEnd" => k_dflt (k_extra "turn")
  k_with "m_fit" => (first | omega | (k_extra "fit"; omega))
  k_with "call builtin:list.append" => (k_here; (with_reducible show wpAny _ _ (call (Value.builtin _) [Value.ref _, Value.int _ _]) _ _ _); k_dflt (refine m_append (by k_asm) (by k_asm) (by k_upd) (by l_ints) (by k_extra "m_fit") ?_; k_whole); intro h' F' N'; (try k_sweep))
  k_with "m_fl_end" => refine fl_end (by assumption) (by assumption) (List.Mem.head _) (by k_extra "m_sub") (by k_extra "m_sub") (by first | assumption | exact List.forall_mem_nil _) (by first | assumption | exact fun _ _ => List.forall_mem_nil _) (by l_ints) (by exact rfl) (by k_extra "m_keep") ?_
  k_with "m_small" => exact small_one (by omega) (by omega) (by omega) (by omega)
  k_with "m_room" => ((try simp only [depth_under_make, depth_under_kw, depth_in1, depth_deeper, depth_caller, units_in1, units_deeper, Around.mark_units, units_caller]); dsimp only [ktrTop]; omega)
  k_with "m_units" => ((try simp only [depth_under_make, depth_under_kw, depth_in1, depth_deeper, depth_caller, units_in1, units_deeper, Around.mark_units, units_caller]); dsimp only [ktrTop]; omega)
  k_with "binaryOp Add ref ref" => (k_here; (with_reducible show wpAny _ _ (binaryOp _ (Value.ref _) (Value.ref _)) _ _ _); k_dflt (refine kmk_add_ints (by k_asm) (by k_asm) (by is_list) (by is_list) (by l_ints) (by l_ints) ?_ (by (rw [sizeLine_eq]; (try simp only [List.length_append, List.length_cons, List.length_nil]); omega))); intro D' ws' h' F' N' l1 hI'; (try k_lt l1); (try k_sweep))
  k_with "call ref" => (k_here; k_dflt (k_extra "call"))
  k_with "subscriptTail Name Slice ref ref" => (k_here; (with_reducible show wpAny _ _ (subscriptTail _ (PySem.Expr.Slice _ _ none _) (Value.ref _) (Value.ref _)) _ _ _); k_dflt (refine kmk_slice_ints (by k_asm) (by k_asm) (by is_list) (by kmk_part) (by kmk_part) (by l_ints) (by first | exact kmk_all (by l_ints) | exact kmk_from (by l_ints) (by omega) | exact kmk_upto (by l_ints) (by omega) | exact kmk_run (by l_ints) (by omega) (by omega)) (by kmk_len) ?_ (by with_unfolding_all rfl) (by kmk_pure) (by (refine kmk_sz (by l_ints) ?_; rw [sizeLine_eq]; omega))); intro D' ws' h' F' N' l1 hI' hC' hL'; (try k_lt l1); (try k_sweep))
  k_with "compareOp Eq ref ref" => (k_here; (with_reducible show wpAny _ _ (compareOp CmpOp.Eq (Value.ref _) (Value.ref _)) _ _ _); k_dflt (refine ke_eq_ints (by is_list) (by is_list) (by l_ints) (by l_ints) (by (dsimp only [ktrTop, Around.deeper]; omega)) ?_; k_whole))
  revert kX; k_fill; intro kX
  refine wpAny_call ?_
  k_dflt ktr_enter
  k_with "call" => ((first
    | ((with_reducible show wpAny _ _ (PySem.call (Value.ref 186) _) _ _ _); refine need_ring_spec (by assumption) (by assumption) (by assumption) (by assumption) (by assumption) (by exact rfl) (by dsimp only [ktrTop]; omega) (by dsimp only [ktrTop]; omega) (by omega) ?_; intro h9 tk9 F9 N9; (try dsimp only))
    | ((with_reducible show wpAny _ _ (PySem.call (Value.ref 95) _) _ _ _); refine shift_left_spec (by assumption) (by assumption) (by assumption) (by assumption) (by assumption) (by exact rfl) (by dsimp only [ktrTop]; omega) (by dsimp only [ktrTop]; omega) hw hw2 (by k_extra "m_mem") (by l_ints) (by assumption) (by omega) (by omega) (by omega) ?_; intro r9 us9 n9 res9 h9 tk9 F9 N9 hi9 hc9 hlt9; (try dsimp only))
    | ((with_reducible show wpAny _ _ (PySem.call (Value.ref 193) _) _ _ _); refine ring_fold_spec (by assumption) (by assumption) (by assumption) (by assumption) (by assumption) (by exact rfl) (by dsimp only [ktrTop]; omega) (by dsimp only [ktrTop]; omega) hw hw2 (by k_extra "m_mem") (by l_ints) (by assumption) (by omega) hk0 hk1 ?_; intro r9 us9 n9 res9 h9 tk9 F9 N9 hi9 hc9 hlt9; (try dsimp only))
    | ((with_reducible show wpAny _ _ (PySem.call (Value.ref 200) _) _ _ _); refine ring_shift_lo_spec (by assumption) (by assumption) (by assumption) (by assumption) (by assumption) (by exact rfl) (by dsimp only [ktrTop]; omega) (by dsimp only [ktrTop]; omega) hw hw2 (by k_extra "m_mem") (by l_ints) (by assumption) (by omega) hk0 hk1 (by omega) (by omega) hq2 ?_; intro r9 us9 n9 res9 h9 tk9 F9 N9 hi9 hc9 hlt9; (try dsimp only); have hm0 := Int.emod_nonneg (1 * 2 ^ (j.fmod (2 * k) - k).toNat : Int) (show (2 : Int) ^ k.toNat + 1 ≠ 0 by omega); have hm1 := Int.emod_lt_of_pos (1 * 2 ^ (j.fmod (2 * k) - k).toNat : Int) (show (0 : Int) < 2 ^ k.toNat + 1 by omega))
    | ((with_reducible show wpAny _ _ (PySem.call (Value.ref 179) _) _ _ _); refine ring_neg_spec (by assumption) (by assumption) (by assumption) (by assumption) (by assumption) (by exact rfl) (by dsimp only [ktrTop]; omega) (by dsimp only [ktrTop]; omega) hw hw2 (by k_extra "m_mem") (by l_ints) (by assumption) (by omega) hk0 hk1 (by omega) ?_; intro r9 us9 n9 res9 h9 tk9 F9 N9 hi9 hc9 hlt9; (try dsimp only))))
  k_steps
  all_goals ((rename Fr _ _ _ _ => F9); (rename News _ _ _ _ => N9); first | (rw [hr2 (by omega)] at hc9; exact hret _ _ _ _ _ _ F9 (newsDrop N9 (by k_extra "m_sub")) (by l_ints) (by assumption) (by k_extra "m_lt")) | (rw [Int.one_mul, ← hr1] at hc9; exact hret _ _ _ _ _ _ F9 (newsDrop N9 (by k_extra "m_sub")) (by l_ints) (by assumption) (by k_extra "m_lt")))
end
-- F_nat_of
section
theorem nat_of_spec {w : World} {mean : ExcName → Option Value} {mg mb : Str → Option Value} {dp un : Nat} {gd : Option (List Code)} {cn : Str} {cs : Scope} {a : Addr} {ccd : Value} {cl : List (Str × Addr)} {outer : List Env} {A₀ : Around} {base h₀ : Heap} {L : Addr} {m : Str → Option Value} {news : List (Addr × Obj)} {s : Shared} {Q E : Value → Shared → Prop}
  (kB : Below A₀ base outer h₀) (kF : Fr h₀ L s.heap m) (kX : (KK w.params).In h₀) (kN : News h₀ L s.heap news) (kT : Top topProg LOOSE mean mg mb h₀) (hk : cs.kind = .function) (hdp : dp + 1 < recursionLimit) (hun : un + 8 < cLine)
  {w1 : Int} (hw : 0 < w1) (hw2 : w1 < 60)
  {k : Int} {tk : Tok}
  {tw : Tok}
  (hk0 : 0 ≤ k) (hk1 : k < 2 ^ 200)
  (hret : RetC h₀ L m news s Q (2 ^ w1.toNat) (k)) :
  wpAny (model PySem.Challenge.rw_rr0057_01.row.prog w) (ktrTop dp un gd cn cs L a ccd cl outer) (call (.ref 53) [.int k tk, .int w1 tw]) Q E s := by
  w_top off
  k_with_none
  k_with "m_mem" => (first | assumption | exact List.Mem.head _ | (refine List.Mem.tail _ ?_; k_extra "m_mem") | (refine List.mem_append.mpr (Or.inl ?_); k_extra "m_mem") | (refine List.mem_append.mpr (Or.inr ?_); k_extra "m_mem"))
  k_with "m_sub" => (first | exact fun _ h9 => h9 | exact List.forall_mem_nil _ | exact List.forall_mem_cons.mpr ⟨by k_extra "m_mem", by k_extra "m_sub"⟩ | exact List.forall_mem_append.mpr ⟨by k_extra "m_sub", by k_extra "m_sub"⟩ | (intro q9 h9; k_extra "m_mem"))
  k_with "m_lt" => (first | assumption | exact allLtOf (by assumption) | exact ltSub (by assumption) (by k_extra "m_sub") | (rename _ ∧ AllLt _ _ => l9; exact allLtOf l9.2) | (rename _ ∧ _ ∧ AllLt _ _ => l9; exact allLtOf l9.2.2) | (rename _ ∧ _ ∧ _ ∧ AllLt _ _ => l9; exact allLtOf l9.2.2.2) | (rename _ ∧ _ ∧ _ ∧ _ ∧ AllLt _ _ => l9; exact allLtOf l9.2.2.2.2))
  k_with "m_ne" => exact neOfLt (by k_extra "m_lt")
  k_with "m_keep" => (first | exact List.forall_mem_nil _ | (refine List.forall_mem_cons.mpr ⟨(by exact rfl), ?_⟩; k_extra "m_keep"))
  k_with "pyIter ref" => k_dflt (k_extra "loop")
  k_with "exec For Name Call cons nil" => (k_here; (rename Fr _ _ _ _ => lF'); (with_unfolding_all refine' For_invVF lF' (by exact rfl) (by exact rfl) ?_; k_whole))
  k_with "exec For Name Name cons nil" => (k_here; (rename Fr _ _ _ _ => lF'); (with_unfolding_all refine' For_invVF lF' (by exact rfl) (by exact rfl) ?_; k_whole))
  k_with "exec While" => k_dflt (k_extra "while")
  k_with "exec While Compare cons nil" => k_dflt (k_extra "while")
  k_with "exec While Compare" => k_dflt (k_extra "while")
  k_with "MPost" => dsimp only [MPost]
  k_with "MEnd" => k_dflt (k_extra "turn")
  k_with "m_fit" => (first | omega | (k_extra "fit"; omega))
  k_with "call builtin:list.append" => (k_here; (with_reducible show wpAny _ _ (call (Value.builtin _) [Value.ref _, Value.int _ _]) _ _ _); k_dflt (refine m_append (by k_asm) (by k_asm) (by k_upd) (by l_ints) (by k_extra "m_fit") ?_; k_whole); intro h' F' N'; (try k_sweep))
  k_with "m_fl_end" => refine fl_end (by assumption) (by assumption) (List.Mem.head _) (by k_extra "m_sub") (by k_extra "m_sub") (by first | assumption | exact List.forall_mem_nil _) (by first | assumption | exact fun _ _ => List.forall_mem_nil _) (by l_ints) (by exact rfl) (by k_extra "m_keep") ?_
  k_with "m_small" => exact small_one (by omega) (by omega) (by omega) (by omega)
  k_with "m_room" => ((try simp only [depth_under_make, depth_under_kw, depth_in1, depth_deeper, depth_caller, units_in1, units_deeper, Around.mark_units, units_caller]); dsimp only [ktrTop]; omega)
  k_with "m_units" => ((try simp only [depth_under_make, depth_under_kw, depth_in1, depth_deeper, depth_caller, units_in1, units_deeper, Around.mark_units, units_caller]); dsimp only [ktrTop]; omega)
  k_with "binaryOp Add ref ref" => (k_here; (with_reducible show wpAny _ _ (binaryOp _ (Value.ref _) (Value.ref _)) _ _ _); k_dflt (refine kmk_add_ints (by k_asm) (by k_asm) (by is_list) (by is_list) (by l_ints) (by l_ints) ?_ (by (rw [sizeLine_eq]; (try simp only [List.length_append, List.length_cons, List.length_nil]); omega))); intro D' ws' h' F' N' l1 hI'; (try k_lt l1); (try k_sweep))
  k_with "call ref" => (k_here; k_dflt (k_extra "call"))
  k_with "subscriptTail Name Slice ref ref" => (k_here; (with_reducible show wpAny _ _ (subscriptTail _ (PySem.Expr.Slice _ _ none _) (Value.ref _) (Value.ref _)) _ _ _); k_dflt (refine kmk_slice_ints (by k_asm) (by k_asm) (by is_list) (by kmk_part) (by kmk_part) (by l_ints) (by first | exact kmk_all (by l_ints) | exact kmk_from (by l_ints) (by omega) | exact kmk_upto (by l_ints) (by omega) | exact kmk_run (by l_ints) (by omega) (by omega)) (by kmk_len) ?_ (by with_unfolding_all rfl) (by kmk_pure) (by (refine kmk_sz (by l_ints) ?_; rw [sizeLine_eq]; omega))); intro D' ws' h' F' N' l1 hI' hC' hL'; (try k_lt l1); (try k_sweep))
  k_with "compareOp Eq ref ref" => (k_here; (with_reducible show wpAny _ _ (compareOp CmpOp.Eq (Value.ref _) (Value.ref _)) _ _ _); k_dflt (refine ke_eq_ints (by is_list) (by is_list) (by l_ints) (by l_ints) (by (dsimp only [ktrTop, Around.deeper]; omega)) ?_; k_whole))
  revert kX; k_fill; intro kX
  refine wpAny_call ?_
  k_dflt ktr_enter
  have hbg := base_ge hw
  k_with "fit" => have h9 := LimInv.len (by assumption)
  k_with "turn" => ((k_extra "m_fl_end"; (rename LimInv _ _ _ _ => hI9); have hE := lim_step hbg hk1 hI9 (by assumption); first | exact hE | (simp only [maskW, fdivW, Int.fmod_eq_emod_of_nonneg _ (Int.le_of_lt (twoPos _))]; exact hE)))
  k_with "while" => ((
    (rename Fr _ _ _ _ => F1)
    (rename News _ _ _ _ => N1)
    refine fl_while (base := news) (y := "number") [("found", _), ("w", _), ("mask", _)] (fun F c => LimInv (2 ^ w1.toNat) k F c) (fun F c => c.toNat) F1 N1 (by exact rfl) (by k_extra "m_keep") (by k_extra "m_mem") (by k_extra "m_sub") (by k_extra "m_ne") (by l_ints) (lim_start hk0) (fun us F n c t u h tk' h1 hi hI hF hN => ?_)
    all_goals (try k_fold)))
  k_steps
  all_goals ((rename Fr _ _ _ _ => F9); (rename News _ _ _ _ => N9); (rename LimInv _ _ _ _ => hI9); first | exact hret _ _ _ _ _ _ F9 (newsDrop N9 (by k_extra "m_sub")) (by l_ints) (lim_end hI9 (by assumption)) (by k_extra "m_lt"))
end
-- F_element_of
section
theorem element_of_spec {w : World} {mean : ExcName → Option Value} {mg mb : Str → Option Value} {dp un : Nat} {gd : Option (List Code)} {cn : Str} {cs : Scope} {a : Addr} {ccd : Value} {cl : List (Str × Addr)} {outer : List Env} {A₀ : Around} {base h₀ : Heap} {L : Addr} {m : Str → Option Value} {news : List (Addr × Obj)} {s : Shared} {Q E : Value → Shared → Prop}
  (kB : Below A₀ base outer h₀) (kF : Fr h₀ L s.heap m) (kX : (KK w.params).In h₀) (kN : News h₀ L s.heap news) (kT : Top topProg LOOSE mean mg mb h₀) (hk : cs.kind = .function) (hdp : dp + 5 < recursionLimit) (hun : un + 40 < cLine)
  {w1 : Int} (hw : 0 < w1) (hw2 : w1 < 60)
  {e : Int} {te : Tok}
  {k : Int} {tk : Tok}
  {tw : Tok}
  (hk0 : 1 ≤ k) (hk1 : k < 150) (he0 : e ≤ 0) (he1 : -10 ≤ e)
  (hret : RetC h₀ L m news s Q (2 ^ w1.toNat) (e % (2 ^ k.toNat + 1))) :
  wpAny (model PySem.Challenge.rw_rr0057_01.row.prog w) (ktrTop dp un gd cn cs L a ccd cl outer) (call (.ref 207) [.int e te, .int k tk, .int w1 tw]) Q E s := by
  have hp := p150 hk1
  have hp1 := twoPos k.toNat
  have hab : (if e < 0 then -e else e) = -e := by split <;> omega
  have hm0 := Int.emod_nonneg (-e) (show (2 : Int) ^ k.toNat + 1 ≠ 0 by omega)
  have hm1 := Int.emod_lt_of_pos (-e) (show (0 : Int) < 2 ^ k.toNat + 1 by omega)
  have hr := elem_neg (e := e) (M := 2 ^ k.toNat + 1) (by omega) he0
  w_top off
  k_with_none
  k_with "m_mem" => (first | assumption | exact List.Mem.head _ | (refine List.Mem.tail _ ?_; k_extra "m_mem") | (refine List.mem_append.mpr (Or.inl ?_); k_extra "m_mem") | (refine List.mem_append.mpr (Or.inr ?_); k_extra "m_mem"))
  k_with "m_sub" => (first | exact fun _ h9 => h9 | exact List.forall_mem_nil _ | exact List.forall_mem_cons.mpr ⟨by k_extra "m_mem", by k_extra "m_sub"⟩ | exact List.forall_mem_append.mpr ⟨by k_extra "m_sub", by k_extra "m_sub"⟩ | (intro q9 h9; k_extra "m_mem"))
  k_with "m_lt" => (first | assumption | exact allLtOf (by assumption) | exact ltSub (by assumption) (by k_extra "m_sub") | (rename _ ∧ AllLt _ _ => l9; exact allLtOf l9.2) | (rename _ ∧ _ ∧ AllLt _ _ => l9; exact allLtOf l9.2.2) | (rename _ ∧ _ ∧ _ ∧ AllLt _ _ => l9; exact allLtOf l9.2.2.2) | (rename _ ∧ _ ∧ _ ∧ _ ∧ AllLt _ _ => l9; exact allLtOf l9.2.2.2.2))
  k_with "m_ne" => exact neOfLt (by k_extra "m_lt")
  k_with "m_keep" => (first | exact List.forall_mem_nil _ | (refine List.forall_mem_cons.mpr ⟨(by exact rfl), ?_⟩; k_extra "m_keep"))
  k_with "pyIter ref" => k_dflt (k_extra "loop")
  k_with "exec For Name Call cons nil" => (k_here; (rename Fr _ _ _ _ => lF'); (with_unfolding_all refine' For_invVF lF' (by exact rfl) (by exact rfl) ?_; k_whole))
  k_with "exec For Name Name cons nil" => (k_here; (rename Fr _ _ _ _ => lF'); (with_unfolding_all refine' For_invVF lF' (by exact rfl) (by exact rfl) ?_; k_whole))
  k_with "exec While" => k_dflt (k_extra "while")
  k_with "exec While Compare cons nil" => k_dflt (k_extra "while")
  k_with "exec While Compare" => k_dflt (k_extra "while")
  k_with "MPost" => dsimp only [MPost]
  k_with "MEnd" => k_dflt (k_extra "turn")
  k_with "m_fit" => (first | omega | (k_extra "fit"; omega))
  k_with "call builtin:list.append" => (k_here; (with_reducible show wpAny _ _ (call (Value.builtin _) [Value.ref _, Value.int _ _]) _ _ _); k_dflt (refine m_append (by k_asm) (by k_asm) (by k_upd) (by l_ints) (by k_extra "m_fit") ?_; k_whole); intro h' F' N'; (try k_sweep))
  k_with "m_fl_end" => refine fl_end (by assumption) (by assumption) (List.Mem.head _) (by k_extra "m_sub") (by k_extra "m_sub") (by first | assumption | exact List.forall_mem_nil _) (by first | assumption | exact fun _ _ => List.forall_mem_nil _) (by l_ints) (by exact rfl) (by k_extra "m_keep") ?_
  k_with "m_small" => exact small_one (by omega) (by omega) (by omega) (by omega)
  k_with "m_room" => ((try simp only [depth_under_make, depth_under_kw, depth_in1, depth_deeper, depth_caller, units_in1, units_deeper, Around.mark_units, units_caller]); dsimp only [ktrTop]; omega)
  k_with "m_units" => ((try simp only [depth_under_make, depth_under_kw, depth_in1, depth_deeper, depth_caller, units_in1, units_deeper, Around.mark_units, units_caller]); dsimp only [ktrTop]; omega)
  k_with "binaryOp Add ref ref" => (k_here; (with_reducible show wpAny _ _ (binaryOp _ (Value.ref _) (Value.ref _)) _ _ _); k_dflt (refine kmk_add_ints (by k_asm) (by k_asm) (by is_list) (by is_list) (by l_ints) (by l_ints) ?_ (by (rw [sizeLine_eq]; (try simp only [List.length_append, List.length_cons, List.length_nil]); omega))); intro D' ws' h' F' N' l1 hI'; (try k_lt l1); (try k_sweep))
  k_with "call ref" => (k_here; k_dflt (k_extra "call"))
  k_with "subscriptTail Name Slice ref ref" => (k_here; (with_reducible show wpAny _ _ (subscriptTail _ (PySem.Expr.Slice _ _ none _) (Value.ref _) (Value.ref _)) _ _ _); k_dflt (refine kmk_slice_ints (by k_asm) (by k_asm) (by is_list) (by kmk_part) (by kmk_part) (by l_ints) (by first | exact kmk_all (by l_ints) | exact kmk_from (by l_ints) (by omega) | exact kmk_upto (by l_ints) (by omega) | exact kmk_run (by l_ints) (by omega) (by omega)) (by kmk_len) ?_ (by with_unfolding_all rfl) (by kmk_pure) (by (refine kmk_sz (by l_ints) ?_; rw [sizeLine_eq]; omega))); intro D' ws' h' F' N' l1 hI' hC' hL'; (try k_lt l1); (try k_sweep))
  k_with "compareOp Eq ref ref" => (k_here; (with_reducible show wpAny _ _ (compareOp CmpOp.Eq (Value.ref _) (Value.ref _)) _ _ _); k_dflt (refine ke_eq_ints (by is_list) (by is_list) (by l_ints) (by l_ints) (by (dsimp only [ktrTop, Around.deeper]; omega)) ?_; k_whole))
  revert kX; k_fill; intro kX
  refine wpAny_call ?_
  k_dflt ktr_enter
  k_with "call" => ((first
    | ((with_reducible show wpAny _ _ (PySem.call (Value.ref 53) _) _ _ _); refine nat_of_spec (by assumption) (by assumption) (by assumption) (by assumption) (by assumption) (by exact rfl) (by dsimp only [ktrTop]; omega) (by dsimp only [ktrTop]; omega) hw hw2 (by omega) (by omega) ?_; intro r9 us9 n9 res9 h9 tk9 F9 N9 hi9 hc9 hlt9; (try dsimp only); rw [hab] at hc9)
    | ((with_reducible show wpAny _ _ (PySem.call (Value.ref 46) _) _ _ _); refine normal_spec (by assumption) (by assumption) (by assumption) (by assumption) (by assumption) (by exact rfl) (by dsimp only [ktrTop]; omega) (by dsimp only [ktrTop]; omega) (by k_extra "m_mem") (by l_ints) hw hc9.1 (by exact Nat.lt_of_le_of_lt (can_len (base_ge hw) hc9 (show _ < 2 ^ 200 by omega)) (by decide)) ?_; rw [hc9.2.2]; intro r8 us8 n8 res8 h8 tk8 F8 N8 hi8 hc8 hlt8; (try dsimp only))
    | ((with_reducible show wpAny _ _ (PySem.call (Value.ref 193) _) _ _ _); refine ring_fold_spec (by assumption) (by assumption) (by assumption) (by assumption) (by assumption) (by exact rfl) (by dsimp only [ktrTop]; omega) (by dsimp only [ktrTop]; omega) hw hw2 (by k_extra "m_mem") (by l_ints) (by assumption) (by omega) hk0 hk1 ?_; intro r9 us9 n9 res9 h9 tk9 F9 N9 hi9 hc9 hlt9; (try dsimp only))
    | ((with_reducible show wpAny _ _ (PySem.call (Value.ref 179) _) _ _ _); refine ring_neg_spec (by assumption) (by assumption) (by assumption) (by assumption) (by assumption) (by exact rfl) (by dsimp only [ktrTop]; omega) (by dsimp only [ktrTop]; omega) hw hw2 (by k_extra "m_mem") (by l_ints) (by assumption) (by omega) hk0 hk1 (by omega) ?_; intro r9 us9 n9 res9 h9 tk9 F9 N9 hi9 hc9 hlt9; (try dsimp only))))
  k_steps
  all_goals ((rename Fr _ _ _ _ => F9); (rename News _ _ _ _ => N9))
  · rw [hr] at hc9; exact hret _ _ _ _ _ _ F9 (newsDrop N9 (by k_extra "m_sub")) (by l_ints) (by assumption) (by k_extra "m_lt")
  · have e0 : e = 0 := by omega
    subst e0
    have hc7 : Can (2 ^ w1.toNat) res9 (0 % (2 ^ k.toNat + 1)) := by simpa using hc9
    exact hret r9 us9 n9 res9 _ _ F9 (newsDrop N9 (by k_extra "m_sub")) hi9 hc7 (by k_extra "m_lt")
end
-- LawR
section
open PyProof.Rows.LCg
/-- a list of refs, each to the canonical digits of its number -/
noncomputable def RefsAre (b : Int) (led : List (Addr × Obj)) : List Value → List Int → Prop
  | [], [] => True
  | y :: ys, x :: ns => (∃ (r : Addr) (us : List Value) (n : Nat) (res : List Int), y = .ref r ∧ (r, listOf us.toArray n) ∈ led ∧ IntsAre us res ∧ Can b res x) ∧ RefsAre b led ys ns
  | _, _ => False
theorem RefsAre.mono {b : Int} {l l' : List (Addr × Obj)} (hs : ∀ p ∈ l, p ∈ l') : ∀ {ys : List Value} {ns : List Int}, RefsAre b l ys ns → RefsAre b l' ys ns
  | [], [], _ => trivial
  | _ :: _, _ :: _, ⟨⟨r, us, n, res, h1, h2, h3, h4⟩, h⟩ => ⟨⟨r, us, n, res, h1, hs _ h2, h3, h4⟩, RefsAre.mono hs h⟩
  | [], _ :: _, h => h.elim
  | _ :: _, [], h => h.elim
theorem RefsAre.snoc {b : Int} {l : List (Addr × Obj)} {r : Addr} {us : List Value} {n : Nat} {res : List Int} {x : Int} (hm : (r, listOf us.toArray n) ∈ l) (hi : IntsAre us res) (hc : Can b res x) :
    ∀ {ys : List Value} {ns : List Int}, RefsAre b l ys ns → RefsAre b l (ys ++ [.ref r]) (ns ++ [x])
  | [], [], _ => ⟨⟨r, us, n, res, rfl, hm, hi, hc⟩, trivial⟩
  | _ :: _, _ :: _, ⟨h0, h⟩ => ⟨h0, RefsAre.snoc hm hi hc h⟩
  | [], _ :: _, h => h.elim
  | _ :: _, [], h => h.elim
theorem RefsAre.nil {b : Int} {l : List (Addr × Obj)} : RefsAre b l [] [] := trivial
theorem RefsAre.cons {b : Int} {l : List (Addr × Obj)} {r : Addr} {us : List Value} {n : Nat} {res : List Int} {x : Int} {ys : List Value} {ns : List Int} (hm : (r, listOf us.toArray n) ∈ l) (hi : IntsAre us res) (hc : Can b res x) (h : RefsAre b l ys ns) : RefsAre b l (.ref r :: ys) (x :: ns) := ⟨⟨r, us, n, res, rfl, hm, hi, hc⟩, h⟩
theorem can_eq {b : Int} {c : List Int} {x y : Int} (h : Can b c y) (e : x = y) : Can b c x := e ▸ h
theorem mod1 {q x R B : Int} (h : q = x % (R - 1)) (hR : R = B) : q = x % (B - 1) := hR ▸ h
theorem mod2 {q x R B : Int} (h : q = x % (R + 1)) (hR : R = B) : q = x % (B + 1) := hR ▸ h
theorem mod3 {q x y R B : Int} (h : q = x % (R + 1)) (hR : R = B) (hx : x = y) : q = y % (B + 1) := hx ▸ hR ▸ h
theorem append_any {prog : Program} {w : World} {A : Around} {E : Value → Shared → Prop} {s : Shared} {h₀ : Heap} {L D : Addr} {m : Str → Option Value} {news news' : List (Addr × Obj)} {us : List Value} {n : Nat} {x : Value} {Q : Value → Shared → Prop}
    (F : Fr h₀ L s.heap m) (N : News h₀ L s.heap news) (U : Upd D (listOf us.toArray n) (listOf (List.toArray (us ++ [x])) (n + 1)) news news') (hl : us.length < 2000)
    (h : ∀ h', Fr h₀ L h' m → News h₀ L h' news' → Q .none { s with heap := h' }) : wpAny (model prog w) A (call (.builtin "list.append") [.ref D, x]) Q E s := by
  have e : us.toArray.push x = List.toArray (us ++ [x]) := by simp
  refine append_K F N (its := us.toArray) (n := n) (news' := news') (by rw [e]; exact U) h ?_
  rw [List.size_toArray, sizeLine_eq]; omega
noncomputable def CansAre (b : Int) : List (List Int) → List Int → Prop
  | [], [] => True
  | c :: cs, x :: ns => Can b c x ∧ CansAre b cs ns
  | _, _ => False
theorem CansAre.uniq {b : Int} (hb : 2 ≤ b) : ∀ {cs ds : List (List Int)} {ns : List Int}, CansAre b cs ns → CansAre b ds ns → cs = ds
  | [], [], [], _, _ => rfl
  | c :: cs, d :: ds, x :: ns, h, k => by rw [can_unique hb h.1 k.1, CansAre.uniq hb h.2 k.2]
  | [], _ :: _, [], _, k => k.elim
  | _ :: _, _, [], h, _ => h.elim
  | [], _, _ :: _, h, _ => h.elim
  | _ :: _, [], _ :: _, _, k => k.elim
noncomputable abbrev lls (cs : List (List Int)) : PyData := .list (cs.map fun c => PyData.list (c.map PyData.int))
theorem RefsAre.reads {b : Int} {led : List (Addr × Obj)} {h : Heap} (hm : ∀ p ∈ led, h.get? p.1 = some p.2) :
    ∀ {ys : List Value} {ns : List Int}, RefsAre b led ys ns → ∃ cs as, CansAre b cs ns ∧ ReadsAll h ys (cs.map fun c => PyData.list (c.map PyData.int)) as
  | [], [], _ => ⟨[], [], trivial, .nil⟩
  | _ :: _, _ :: _, ⟨⟨r, us, n, res, h1, h2, h3, h4⟩, k⟩ => by
    obtain ⟨cs, as, a1, a2⟩ := RefsAre.reads hm k
    subst h1
    exact ⟨res :: cs, _, ⟨h4, a1⟩, .cons (reads_newData ⟨_, hm _ h2, rfl, _, rfl⟩ (ke_carried h3)) a2⟩
  | [], _ :: _, h => h.elim
  | _ :: _, [], h => h.elim
theorem lls_lay : ∀ cs : List (List Int), PyData.canLayAll0 (cs.map fun c => PyData.list (c.map PyData.int)) = true
  | [] => rfl
  | c :: cs => by simp [PyData.canLayAll0, PyData.canLay0, ke_canLayAll0 c, lls_lay cs]
theorem lls_depth : ∀ cs : List (List Int), PyData.depthAll (cs.map fun c => PyData.list (c.map PyData.int)) ≤ 1
  | [] => Nat.zero_le _
  | c :: cs => by
    have := lls_depth cs
    simp only [List.map_cons, PyData.depthAll, PyData.depth, ke_depthAll c]
    omega
theorem lls_shaped (cs : List (List Int)) : SeqAt.shaped (lls cs) = true := by
  have h := lls_depth cs
  have h2 : PyData.depthAll (cs.map fun c => PyData.list (c.map PyData.int)) + 1 ≤ 64 := by omega
  simp only [SeqAt.shaped, PyData.canLay0, PyData.depth, lls_lay cs, Bool.true_and]
  exact decide_eq_true h2
theorem lls_eqvAll : ∀ cs : List (List Int), PyData.eqvAll (cs.map fun c => PyData.list (c.map PyData.int)) (cs.map fun c => PyData.list (c.map PyData.int)) = true
  | [] => by simp [PyData.eqvAll]
  | c :: cs => by simp [PyData.eqvAll, PyData.eqv, ked_eqvAll, lls_eqvAll cs]
theorem lls_eqv (cs : List (List Int)) : PyData.eqv (lls cs) (lls cs) = true := by simp only [PyData.eqv]; exact lls_eqvAll cs
section
variable {prog : Program} {w : World} {A : Around} {E : Value → Shared → Prop} {s : Shared} {h₀ : Heap} {L : Addr} {m : Str → Option Value} {env : Env} {Q : Value → Shared → Prop}
theorem eq_refs {b : Int} (hb : 2 ≤ b) {l1 l2 : Addr} {ys zs : List Value} {k1 k2 : Nat} {ns : List Int} {news : List (Addr × Obj)} (N : News h₀ L s.heap news) (h1 : (l1, listOf ys.toArray k1) ∈ news) (h2 : (l2, listOf zs.toArray k2) ∈ news)
    (hz : RefsAre b news zs ns) (hy : RefsAre b news ys ns) (hu : A.units + 64 < cLine) (h : Q (.bool true) s) : wpAny (model prog w) A (compareOp .Eq (.ref l1) (.ref l2)) Q E s := by
  obtain ⟨cs, as, a1, a2⟩ := hy.reads fun p hp => (N p hp).1
  obtain ⟨ds, bs, b1, b2⟩ := hz.reads fun p hp => (N p hp).1
  have e := CansAre.uniq hb a1 b1
  subst e
  refine eq_dataH (.list (N _ h1).1 rfl rfl (by simpa using a2)) (.list (N _ h2).1 rfl rfl (by simpa using b2)) (lls_shaped cs) (lls_shaped cs) hu ?_
  rw [lls_eqv]
  exact h
/-- a turn of «[f(x) for x in ints]» whose answers are new lists of digits -/
noncomputable def LimTurn (prog : Program) (w : World) (A : Around) (h₀ : Heap) (L : Addr) (m : Str → Option Value) (env : Env) (elt : PySem.Expr) (x : Str) (scope : Scope) (cl : List (Str × Addr)) (b : Int) (s : Shared) (news : List (Addr × Obj)) : Prop :=
  ∀ (v : Int) (t : Tok) (own : List (Addr × Obj)) C oC m₂ h tk (E' : Value → Shared → Prop), 0 ≤ v → v < 2 ^ 200 → NsObj oC m₂ → m₂ x = some (.int v t) → Fr h₀ L h m → News h₀ L h ((C, oC) :: (own ++ news)) →
    wpAny (model prog w) A (eval elt (compEnvC scope cl C env)) (fun y s' => ∃ (r : Addr) (us : List Value) (n : Nat) (res : List Int) (h' : Heap) (tk' : Nat), y = .ref r ∧ s' = { s with heap := h', toks := tk' } ∧ Fr h₀ L h' m ∧ News h₀ L h' ((r, listOf us.toArray n) :: (C, oC) :: (own ++ news)) ∧
      IntsAre us res ∧ Can b res v ∧ ∀ q ∈ (C, oC) :: (own ++ news), q.1 < r) E' { s with heap := h, toks := tk }
theorem lim_rest {elt : PySem.Expr} {x : Str} {scope : Scope} {cl : List (Str × Addr)} {b : Int} {ax : Addr} {us : List Value} {ns : List Int} {k : Nat} {news : List (Addr × Obj)} (hm : (ax, listOf us.toArray k) ∈ news) (hi : IntsAre us ns) (hB : ∀ v ∈ ns, 0 ≤ v ∧ v < 2 ^ 200)
    (T : LimTurn prog w A h₀ L m env elt x scope cl b s news)
    (fin : ∀ (ys : List Value) D nx h tk, RefsAre b nx ys ns → Fr h₀ L h m → News h₀ L h ((D, lst ys) :: (nx ++ news)) → Q (.ref D) { s with heap := h, toks := tk }) :
    ∀ (j i : Nat) (ys : List Value) (nx : List (Addr × Obj)), j + i = ns.length → RefsAre b nx ys (ns.take i) → CompRest prog w A h₀ L m env elt x scope cl s (SrcAt h₀ ax us.toArray) (fun i v => us.toArray[i]? = some v) (FinE h₀ L m s Q) j i ys (nx ++ news)
  | 0, i, ys, nx, hj, hR => by
    refine CompRest.zero fun D h tk F N _ => fin ys D nx h tk ?_ F N
    rw [Nat.zero_add] at hj
    rw [hj, List.take_length] at hR
    exact hR
  | j + 1, i, ys, nx, hj, hR => by
    refine CompRest.succ fun v I oI C oC D m₂ h tk E' hv hC hx F N off ne => ?_
    have hlt : i < ns.length := by omega
    obtain ⟨t, ht⟩ := hi.get i ns[i] (by simp [hlt])
    have hv' : v = .int ns[i] t := by
      have hv2 : us[i]? = some v := by simpa using hv
      rw [ht] at hv2
      exact (Option.some.inj hv2).symm
    subst hv'
    have hb := hB ns[i] (List.getElem_mem hlt)
    have N₁ : News h₀ L h ((C, oC) :: (((I, oI) :: (D, lst ys) :: nx) ++ news)) := fun p hp => N p (by simp only [List.cons_append, List.mem_cons] at hp ⊢; rcases hp with q | q | q | q <;> simp [q])
    refine wpAny_mono (T ns[i] t ((I, oI) :: (D, lst ys) :: nx) C oC m₂ h tk E' hb.1 hb.2 hC hx F N₁) (fun y s' hy => ?_) fun _ _ e => e
    obtain ⟨r, us', n', res, h', tk', rfl, rfl, F', N', hi', hc', hlt'⟩ := hy
    refine ⟨h', tk', (r, listOf us'.toArray n') :: (nx ++ news), rfl, F', fun p hp => N' p ?_, ⟨⟨?_, ?_, ?_⟩, off⟩, .inr ⟨_, .tail _ (List.mem_append_right _ hm), rfl, _, rfl⟩, ?_⟩
    · simp only [List.cons_append, List.mem_cons] at hp ⊢
      rcases hp with q | q | q | q | q <;> simp [q]
    · exact Nat.ne_of_gt (hlt' (I, oI) (.tail _ (.head _)))
    · exact Nat.ne_of_gt (hlt' (C, oC) (.head _))
    · exact Nat.ne_of_gt (hlt' (D, lst ys) (.tail _ (.tail _ (.head _))))
    · refine lim_rest hm hi hB T fin j (i + 1) (ys ++ [.ref r]) ((r, listOf us'.toArray n') :: nx) (by omega) ?_
      rw [List.take_add_one, List.getElem?_eq_getElem hlt]
      exact RefsAre.snoc (.head _) hi' hc' (hR.mono fun p hp => .tail _ hp)
theorem lim_src {elt : PySem.Expr} {x : Str} {scope : Scope} {cl : List (Str × Addr)} {b : Int} {c₀ : List Int} {v₀ : Int} (_ : Can b c₀ v₀) {ax : Addr} {us : List Value} {ns : List Int} {k : Nat} {news : List (Addr × Obj)} (hh : A.handled = none) (F : Fr h₀ L s.heap m) (N : News h₀ L s.heap news)
    (hm : (ax, listOf us.toArray k) ∈ news) (hi : IntsAre us ns) (hsz : ns.length < 1000) (hB : ∀ v ∈ ns, 0 ≤ v ∧ v < 2 ^ 200) (T : ∀ g : Heap, LimTurn prog w A h₀ L m env elt x scope cl b { s with heap := g } news)
    (fin : ∀ (ys : List Value) D nx h tk, RefsAre b nx ys ns → Fr h₀ L h m → News h₀ L h ((D, lst ys) :: (nx ++ news)) → Q (.ref D) { s with heap := h, toks := tk }) :
    CompSrc prog w A h₀ L m env elt x scope cl (fun s₂ => FinE h₀ L m s₂ Q) (.ref ax) s := by
  have hl := hi.length
  refine CompSrc.ledger hh F N hm (by rw [List.size_toArray, hl, sizeLine_eq]; omega) fun g => ?_
  have := lim_rest (Q := Q) (s := { s with heap := g }) hm hi hB (T g) fin ns.length 0 [] [] (by omega) trivial
  rw [List.size_toArray, hl]
  exact this
end
end
-- LawL
theorem pow_ab {a b : Int} (ha : 0 ≤ a) (ha7 : a ≤ 7) (hb : b ≤ 5) : ((2 : Int) ^ a.toNat) ^ b.toNat ≤ 2 ^ 35 := by
  rw [← Int.pow_mul]
  have h : a.toNat * b.toNat ≤ 7 * 5 := Nat.mul_le_mul (by omega) (by omega)
  exact pow_le_pow' (b := 2) (by omega) h
theorem pow35 {a b : Int} (ha : 0 ≤ a) (ha7 : a ≤ 7) (hb : b ≤ 5) : ((2 : Int) ^ a.toNat) ^ b.toNat < 2 ^ 150 := Int.lt_of_le_of_lt (pow_ab ha ha7 hb) (by decide)
theorem pow35b {a b : Int} (ha : 0 ≤ a) (ha7 : a ≤ 7) (hb : b ≤ 5) : ((2 : Int) ^ a.toNat) ^ b.toNat < 2 ^ 70 := Int.lt_of_le_of_lt (pow_ab ha ha7 hb) (by decide)
theorem or_ne {r lA P : Addr} {o oA : Obj} {rest news : List (Addr × Obj)} (h : r = lA ∨ ∀ q ∈ news, q.1 < r) (hA : (lA, oA) ∈ rest) (h2 : ∀ p ∈ rest, p.1 ≠ P) (hm : (P, o) ∈ news) : r ≠ P := h.elim (fun e => e ▸ h2 _ hA) fun h => Nat.ne_of_gt (h _ hm)
noncomputable def Tab (n : Nat) (l : List Value) : Prop := TriplesOk l ∧ ∀ pos : Pos, n < pos.line → codeAmong pos l = none
theorem tri_append : ∀ {l m : List Value}, TriplesOk l → TriplesOk m → TriplesOk (l ++ m)
  | [], _, _, h => h
  | .int _ _ :: .int _ _ :: _ :: rest, _, h1, h2 => tri_append (l := rest) h1 h2
theorem code_append {pos : Pos} : ∀ {l m : List Value}, TriplesOk l → codeAmong pos l = none → codeAmong pos m = none → codeAmong pos (l ++ m) = none
  | [], _, _, _, h => h
  | .int i _ :: .int j _ :: c :: rest, m, h1, h2, h3 => by
    simp only [List.cons_append, codeAmong] at h2 ⊢
    by_cases hb : (i == (pos.line : Int) && j == (pos.col : Int)) = true
    · rw [if_pos hb] at h2; cases h2
    · rw [if_neg hb] at h2 ⊢
      exact code_append (l := rest) h1 h2 h3
theorem Tab.nil : Tab 0 (#[] : Array Value).toList := ⟨trivial, fun _ _ => rfl⟩
theorem Tab.push {n line : Nat} {col : Int} {v : Value} {ps : Array Value} (h : Tab n ps.toList) (hl : n < line) : Tab line (ps ++ #[rawInt (line : Int), rawInt col, v]).toList := by
  have e : (ps ++ #[rawInt (line : Int), rawInt col, v]).toList = ps.toList ++ [rawInt (line : Int), rawInt col, v] := by simp
  rw [e]
  refine ⟨tri_append h.1 trivial, fun pos hp => code_append h.1 (h.2 pos (Nat.lt_trans hl hp)) ?_⟩
  have hne : ¬ ((line : Int) == (pos.line : Int) && col == (pos.col : Int)) = true := by
    intro e
    have := (Bool.and_eq_true _ _ ▸ e).1
    have := eq_of_beq this
    omega
  simp only [rawInt, codeAmong]
  rw [if_neg hne]
theorem Tab.ok {n : Nat} {l : List Value} (h : Tab n l) : TriplesOk l := h.1
theorem Tab.no {n : Nat} {l : List Value} (h : Tab n l) {pos : Pos} (hp : n < pos.line) : codeAmong pos l = none := h.2 pos hp
theorem law_open {h₀ h : Heap} {L P : Addr} {t1 b a t2 j y ws cw cn cl cb ca : Addr × Obj} (N : News h₀ L h [t1, b, a, t2, j, y, ws, cw, cn, cl, cb, ca, (P, tabObj #[])]) (hne : ∀ p ∈ [t1, b, a, t2, j, y, ws, cw, cn, cl, cb, ca], p.1 ≠ P) :
    ∃ rest ps, Tab 0 (ps : Array Value).toList ∧ News h₀ L h ((P, tabObj ps) :: rest) ∧ (∀ p ∈ rest, p.1 ≠ P) ∧ b ∈ rest ∧ a ∈ rest ∧ cw ∈ rest ∧ cn ∈ rest ∧ cl ∈ rest ∧ cb ∈ rest ∧ ca ∈ rest :=
  ⟨[t1, b, a, t2, j, y, ws, cw, cn, cl, cb, ca], #[], Tab.nil, fun p hp => N p (by simp only [List.mem_cons, List.not_mem_nil, or_false] at hp ⊢; rcases hp with h | h | h | h | h | h | h | h | h | h | h | h | h <;> simp [h]), hne, by simp, by simp, by simp, by simp, by simp, by simp, by simp⟩
theorem tidyA {h₀ h : Heap} {L P : Addr} {ps : Array Value} {n line : Nat} {col : Int} {v : Value} {r f c : Addr × Obj} {rest : List (Addr × Obj)} (hl : n < line) (hT : Tab n ps.toList) (N : News h₀ L h (r :: f :: c :: (P, tabObj (ps ++ #[rawInt (line : Int), rawInt col, v])) :: rest)) :
    ∃ ps' : Array Value, Tab line ps'.toList ∧ News h₀ L h ((P, tabObj ps') :: r :: rest) := ⟨_, hT.push (col := col) (v := v) hl, fun p hp => N p (by simp only [List.mem_cons] at hp ⊢; rcases hp with h | h | h <;> simp [h])⟩
theorem tidyB {h₀ h : Heap} {L P D : Addr} {ps fs : Array Value} {k : Nat} {n line : Nat} {col : Int} {v : Value} {r f c : Addr × Obj} {rest : List (Addr × Obj)} (hl : n < line) (hT : Tab n ps.toList) (N : News h₀ L h (r :: f :: c :: (D, listOf fs k) :: (P, tabObj (ps ++ #[rawInt (line : Int), rawInt col, v])) :: rest)) :
    ∃ ps' : Array Value, Tab line ps'.toList ∧ News h₀ L h ((D, listOf fs k) :: (P, tabObj ps') :: r :: rest) := ⟨_, hT.push (col := col) (v := v) hl, fun p hp => N p (by simp only [List.mem_cons] at hp ⊢; rcases hp with h | h | h | h <;> simp [h])⟩
theorem tidyC {h₀ h : Heap} {L P D : Addr} {ps fs : Array Value} {k : Nat} {n line : Nat} {col : Int} {v : Value} {r e f c : Addr × Obj} {rest : List (Addr × Obj)} (hl : n < line) (hT : Tab n ps.toList) (N : News h₀ L h (r :: e :: f :: c :: (D, listOf fs k) :: (P, tabObj (ps ++ #[rawInt (line : Int), rawInt col, v])) :: rest)) :
    ∃ ps' : Array Value, Tab line ps'.toList ∧ News h₀ L h ((D, listOf fs k) :: (P, tabObj ps') :: r :: rest) := ⟨_, hT.push (col := col) (v := v) hl, fun p hp => N p (by simp only [List.mem_cons] at hp ⊢; rcases hp with h | h | h | h <;> simp [h])⟩
section
variable {prog : Program} {w : World} {A : Around} {E : Value → Shared → Prop} {s : Shared} {Q : Value → Shared → Prop}
theorem pow_ring {a b : Int} {t u : Tok} (ha : 2 ≤ a) (ha7 : a ≤ 7) (hb : 1 ≤ b) (hb5 : b ≤ 5)
    (h : ∀ R : Int, R = ((2 : Int) ^ a.toNat) ^ b.toNat → 4 ≤ R → R < 2 ^ 40 → Q (.int R s.toks) { s with toks := s.toks + 1 }) : wpAny (model prog w) A (binaryOp .Pow (.int 2 t) (.int (a * b) u)) Q E s := by
  have hab : 0 ≤ a * b := Int.mul_nonneg (by omega) (by omega)
  have hab2 : a * b ≤ 7 * 5 := Int.mul_le_mul ha7 hb5 (by omega) (by omega)
  have e : (2 : Int) ^ (a * b).toNat = ((2 : Int) ^ a.toNat) ^ b.toNat := by
    rw [← Int.pow_mul]
    congr 1
    apply Int.ofNat.inj
    show (((a * b).toNat : Nat) : Int) = ((a.toNat * b.toNat : Nat) : Int)
    rw [Int.natCast_mul, Int.toNat_of_nonneg hab, Int.toNat_of_nonneg (by omega), Int.toNat_of_nonneg (by omega)]
  refine pow_int_small hab (by omega) (by decide) ?_
  rw [e]
  have h1 : ((2 : Int) ^ a.toNat) ^ b.toNat ≤ 2 ^ 35 := pow_ab (by omega) ha7 hb5
  have h4 := pow_ge4 (w := a) (k := b) (by omega) hb
  exact h _ rfl h4 (by omega)
theorem pow_two {b : Int} {t u : Tok} (hb : 0 ≤ b) (hb5 : b ≤ 5)
    (h : ∀ R : Int, R = (2 : Int) ^ b.toNat → 1 ≤ R → R < 2 ^ 40 → Q (.int R s.toks) { s with toks := s.toks + 1 }) : wpAny (model prog w) A (binaryOp .Pow (.int 2 t) (.int b u)) Q E s := by
  refine pow_int_small hb (by omega) (by decide) ?_
  have h1 : (2 : Int) ^ b.toNat ≤ 2 ^ 5 := pow_le_pow' (b := 2) (by omega) (by omega)
  have h2 := twoPos b.toNat
  exact h _ rfl (by omega) (by omega)
theorem mod_pos {x y : Int} {t u : Tok} (hy : 0 < y) (h : ∀ r : Int, r = x % y → 0 ≤ r → r < y → Q (.int r s.toks) { s with toks := s.toks + 1 }) : wpAny (model prog w) A (binaryOp .Mod (.int x t) (.int y u)) Q E s := by
  refine mod_int' (by omega) ?_
  rw [Int.fmod_eq_emod_of_nonneg _ (by omega)]
  exact h _ rfl (Int.emod_nonneg _ (by omega)) (Int.emod_lt_of_pos _ hy)
end
theorem kts_memX {name : Str} {scope : Scope} {L a b : Addr} {cd : Value} {cl : List (Str × Addr)} {outer : List Env} (hm : b ∈ (envX name scope L a cd cl :: outer).filterMap (·.frame)) : b = L ∨ b ∈ outer.filterMap (·.frame) := by
  obtain ⟨env, he, hf⟩ := List.mem_filterMap.mp hm
  rcases List.mem_cons.mp he with rfl | he
  · exact .inl (Option.some.inj hf).symm
  · exact .inr (List.mem_filterMap.mpr ⟨env, he, hf⟩)
theorem leave_onXS {M : Model} {A : Around} {E : Value → Shared → Prop} {s' : Shared} {base g g₂ : Heap} {outer : List Env} {L a e t : Addr} {m : Str → Option Value} {name : Str} {scope : Scope} {cd : Value} {cl : List (Str × Addr)} {Q : Unit → Shared → Prop} {news : List (Addr × Obj)} {cls : Value} {vs : List Value}
    (R : RaisedS base g₂ (envX name scope L a cd cl :: outer) e cls t vs news s'.heap) (F : Fr g L g₂ m) (K : Below A base outer g) (hsm : g₂.UpToSlots s'.heap)
    (hQ : ∀ h', RaisedS base g outer e cls t vs news h' → RaisedK base outer e cls t vs news h' → g.UpToSlots h' → Q () { s' with heap := h' }) :
    wpAny M (A.deeper (envX name scope L a cd cl)) (leaving (envX name scope L a cd cl) (.ref e)) Q E s' := by
  obtain ⟨⟨B, hB, hBG, hl, hfl, hnew⟩, htup⟩ := R
  exact wpAny_leaves_onW (Around.frames_deeper K.stack) rfl hfl fun h' x1 x2 =>
    have R : RaisedS base g outer e cls t vs news h' := ⟨⟨B, hB, fun b o q nm => hBG b o (F.keep b o q) (fun hm => by
      rcases kts_memX hm with z | z
      · rw [z, kts_self F] at q
        cases q
      · exact nm z), fun q hq => ⟨(hl q hq).1, kts_none F.keep (hl q hq).2.1, (hl q hq).2.2⟩, x1, hnew⟩, htup.of_slots x2⟩
    hQ h' R R.toK ((Heap.UpToSlots.of_keeps F.keep).trans (hsm.trans x2))
theorem found_of {h₀ h : Heap} {L P D : Addr} {o o2 : Obj} {l : List (Addr × Obj)} (_ : News h₀ L h ((D, o) :: (P, o2) :: l)) (h1 : AllLt D ((P, o2) :: l)) : (∀ q ∈ l, q.1 ≠ D) ∧ P ≠ D := ⟨neOfLt (allLtOf h1.2), Nat.ne_of_lt h1.1⟩
theorem newsTl {h₀ h : Heap} {L : Addr} {x : Addr × Obj} {l : List (Addr × Obj)} (N : News h₀ L h (x :: l)) : News h₀ L h l := fun p hp => N p (.tail _ hp)
-- LawX
section
section
variable {prog : Program} {w : World} {A₀ A : Around} {s : Shared} {base h₀ : Heap} {L a : Addr} {m : Str → Option Value} {cn : Str} {cs : Scope} {ccd : Value} {cl : List (Str × Addr)} {news : List (Addr × Obj)} {K : Frag} {p : Program} {loose : List Str} {mean : ExcName → Option Value} {mg mb : Str → Option Value}
    {R : Result → Shared → Prop} {name qual : Str} {params : Arguments} {body : List Stmt} {scope : Scope} {dV kV doc pm cdv ct oc : Value} {an od : Option Addr} {osl : Array (Option Value)} {f : Addr} {args : Args} {binds : List (Str × Value)}
/-- a def whose body may catch, called from a frame that has cells -/
theorem call_catch (B : Below A₀ base [] h₀) (F : Fr h₀ L s.heap m) (X₀ : K.In h₀) (N : News h₀ L s.heap news) (T : Top p loose mean mg mb h₀) (hA : A.frames = some [envX cn cs L a ccd cl])
    (ho : K.lookup f = some ⟨oc, od, .func (fnOf name qual params body scope dV kV doc pm an cdv ct), osl⟩) (hcd : codeIn K cdv qual = true) (hroom : A.depth < recursionLimit)
    (hbind : BindsTo s (fnOf name qual params body scope dV kV doc pm an cdv ct) args binds) (hloc : ∀ y ∈ binds, scope.names.lookup y.1 = some .local)
    (h : ∀ g L' h₁, Fr h₀ L g m → Fr g L' h₁ (fun y => binds.reverse.lookup y) → News g L' h₁ news → Below A base [envX cn cs L a ccd cl] g → K.In g → Top p loose mean mg mb g → KtsDicts ([envX cn cs L a ccd cl].filterMap (·.frame)) g →
      wpAny (model prog w) (A.deeper (envOf qual scope L' f cdv)) (execs body (envOf qual scope L' f cdv))
        (fun fl s' => LeaveS0 ([envX cn cs L a ccd cl].filterMap (·.frame)) h₀ L m g R (match fl with | .ret v => v | _ => .none) s')
        (fun e s' => wpAny (model prog w) (A.deeper (envOf qual scope L' f cdv)) (leaving (envOf qual scope L' f cdv) e) (fun _ s'' => R (.error e) s'') (fun e' s'' => R (.error e') s'') s')
        { s with heap := h₁, toks := s.toks + binds.length })
    (hck : cs.kind = .function) (hco : scope.isCoroutine = false) (hgen : scope.isGenerator = false) (hk : scope.kind = .function)
    (hcell : ∀ x ∈ scope.names, x.2 ≠ .cell) : codeAny (model prog w) A (.call (.ref f) args) R s := by
  obtain ⟨FG, BG, st, -⟩ := groundX (R := R) B F N hA rfl hck
  have X := X₀.keeps F.keep
  have nL : h₀.get? L = none := kts_self F
  obtain ⟨oL, es, ep, hLg, hLd, hLk, hLf⟩ := FG.ns
  refine codeAny_call_def (fd := fnOf name qual params body scope dV kV doc pm an cdv ct) (body := body) (binds := binds) hroom (X _ _ ho) rfl (T.nolimit.keeps F.keep) (codeRec_of X hcd) rfl hbind hcell hloc (fun h₁ hns hk₁ => ?_) hco hgen hk
  have F₁ : Fr (hideAll s.heap (news.map (·.1))) s.heap.objs.size h₁ (fun y => binds.reverse.lookup y) := ⟨hns, fun b o e => hk₁ b o (of_hideAll _ e), by rw [hideAll_size]; exact Nat.le_refl _⟩
  have N₁ : News (hideAll s.heap (news.map (·.1))) s.heap.objs.size h₁ news := fun p hp =>
    ⟨hk₁ _ _ (N p hp).1, Nat.ne_of_lt (Heap.lt_size (N p hp).1), hideAll_none _ (List.mem_map_of_mem hp)⟩
  have D₁ : KtsDicts ([envX cn cs L a ccd cl].filterMap (·.frame)) (hideAll s.heap (news.map (·.1))) := fun b hb => by
    rcases kts_memX hb with rfl | z
    · exact ⟨oL, es, ep, hLg, hLd⟩
    · cases z
  refine wpAny_mono (h _ _ h₁ FG F₁ N₁ BG (X₀.keeps st) (T.keeps st) D₁) (fun fl s' hl => ?_) fun _ _ y => y
  obtain ⟨g', L', m', news', T', F', N', k⟩ := hl
  obtain ⟨sl, hs⟩ := T'.up hLg
  have keep : ∀ b o, h₀.get? b = some o → g'.get? b = some o := fun b o e => T'.other b o (st b o e) fun q => by
    rcases kts_memX q with rfl | z
    · rw [nL] at e; cases e
    · cases z
  refine k ⟨⟨_, es, ep, F'.keep _ _ hs, hLd, hLk, hLf⟩, fun b o e => F'.keep b o (keep b o e), F.above⟩ fun p hp => ?_
  obtain ⟨n1, _, n3⟩ := N' p hp
  refine ⟨n1, fun q => ?_, kts_none keep n3⟩
  rw [q, hs] at n3; cases n3
end
theorem tidyA0 {h₀ h : Heap} {L P : Addr} {ps : Array Value} {n line : Nat} {col : Int} {v : Value} {f c : Addr × Obj} {rest : List (Addr × Obj)} (hl : n < line) (hT : Tab n ps.toList) (N : News h₀ L h (f :: c :: (P, tabObj (ps ++ #[rawInt (line : Int), rawInt col, v])) :: rest)) :
    ∃ ps' : Array Value, Tab line ps'.toList ∧ News h₀ L h ((P, tabObj ps') :: rest) := ⟨_, hT.push (col := col) (v := v) hl, newsTl (newsTl N)⟩
theorem tidyB0 {h₀ h : Heap} {L P D : Addr} {ps fs : Array Value} {k : Nat} {n line : Nat} {col : Int} {v : Value} {f c : Addr × Obj} {rest : List (Addr × Obj)} (hl : n < line) (hT : Tab n ps.toList) (N : News h₀ L h (f :: c :: (D, listOf fs k) :: (P, tabObj (ps ++ #[rawInt (line : Int), rawInt col, v])) :: rest)) :
    ∃ ps' : Array Value, Tab line ps'.toList ∧ News h₀ L h ((D, listOf fs k) :: (P, tabObj ps') :: rest) := ⟨_, hT.push (col := col) (v := v) hl, newsTl (newsTl N)⟩
section
variable {prog : Program} {w : World} {A : Around} {E : Value → Shared → Prop} {s : Shared} {h₀ : Heap} {L : Addr} {m : Str → Option Value} {Q : Value → Shared → Prop} {news : List (Addr × Obj)}
theorem six_nones {l : Addr} {k : Nat} {u : Tok} (F : Fr h₀ L s.heap m) (N : News h₀ L s.heap news) (hm : (l, listOf #[.none] k) ∈ news)
    (h : ∀ D h', Fr h₀ L h' m → News h₀ L h' ((D, listOf (List.replicate 6 Value.none).toArray 0) :: news) → Q (.ref D) { s with heap := h' }) : wpAny (model prog w) A (binaryOp .Mult (.ref l) (.int 6 u)) Q E s :=
  KMa.mul (vs := [.none]) F N ⟨_, (N _ hm).1, rfl, _, rfl⟩ (by decide) (by decide) (by decide) rfl fun D h' a b _ => h D h' a b
theorem nones_read (h : Heap) : ∀ n : Nat, ReadsAll h (List.replicate n Value.none) (List.replicate n PyData.none) []
  | 0 => .nil
  | n + 1 => .cons .none (nones_read h n)
theorem eq_nones {l1 l2 : Addr} {us vs : List Value} {k1 k2 : Nat} (N : News h₀ L s.heap news) (h1 : (l1, listOf us.toArray k1) ∈ news) (h2 : (l2, listOf vs.toArray k2) ∈ news)
    (e1 : us = List.replicate 6 .none) (e2 : vs = List.replicate 6 .none) (hu : A.units + 64 < cLine) (h : Q (.bool true) s) : wpAny (model prog w) A (compareOp .Eq (.ref l1) (.ref l2)) Q E s := by
  subst e1 e2
  refine eq_dataH (.list (N _ h1).1 rfl rfl (by simpa using nones_read s.heap 6)) (.list (N _ h2).1 rfl rfl (by simpa using nones_read s.heap 6)) (by decide) (by decide) hu ?_
  exact h
end
end
-- LawZ
section
theorem law_true (args : List WData) : PySem.Challenge.rw_rr0057_01.row.claim.post args (.bool true) args = true := by
  refine postW_of (by wrow_shape) (w_eq_bool (w_res rfl) w_lit) ?_
  rfl
theorem law_none (args : List WData) (cls : ExcName) : PySem.Challenge.rw_rr0057_01.row.claim.raises args cls = false := by
  refine raisesW_false ?_ cls
  wrow_none_raised
theorem law_end {s₁ s' : Shared} {L P : Addr} {m : Str → Option Value} {cl : Str → Option Addr} {mean : ExcName → Option Value} {args : List WData} {ps : Array Value} {q : Addr} {news : List (Addr × Obj)}
    (F : Fr s₁.heap L s'.heap m) (N : News s₁.heap L s'.heap news) (hm : (P, tabObj ps) ∈ news) (hg : s'.gens = #[]) (ho : s'.os = s₁.os) :
    GoodW PySem.Challenge.rw_rr0057_01.row.claim cl mean args s₁ (.ok (.ret (.bool true))) s' ∧ GrownAll [(q, P)] s'.heap :=
  ⟨goodW_bool F hg (law_none args) (law_true args) ho, GrownAt.of N hm, trivial⟩
end
-- LawE
section
noncomputable abbrev RaiseX (base h₀ : Heap) (L : Addr) (m : Str → Option Value) (cn : Str) (cs : Scope) (a : Addr) (ccd : Value) (cl : List (Str × Addr)) (outer : List Env) (news : List (Addr × Obj)) (s : Shared) (E : Value → Shared → Prop) : Prop :=
  ∀ (G : Heap) (e t : Addr) (vs : List Value) (h' : Heap) (tk' : Nat), Fr h₀ L G m → RaisedS base G (envX cn cs L a ccd cl :: outer) e (.ref 37) t vs news h' → G.UpToSlots h' → E (.ref e) { s with heap := h', toks := tk' }
theorem raisedDrop {base G : Heap} {l : List Env} {e t : Addr} {cls : Value} {vs : List Value} {news news' : List (Addr × Obj)} {h : Heap} (R : RaisedS base G l e cls t vs news h) (hs : ∀ p ∈ news', p ∈ news) : RaisedS base G l e cls t vs news' h := by
  obtain ⟨⟨B, h1, h2, h3, h4⟩, h5⟩ := R
  exact ⟨⟨B, h1, h2, fun q hq => h3 q (hs q hq), h4⟩, h5⟩
end
-- F_fold_minus_low
section

theorem fold_minus_low {w : World} {mean : ExcName → Option Value} {mg mb : Str → Option Value} {dp un : Nat} {gd : Option (List Code)} {cn : Str} {cs : Scope} {a : Addr} {ccd : Value} {cl : List (Str × Addr)} {outer : List Env} {A₀ : Around} {base h₀ : Heap} {L : Addr} {m : Str → Option Value} {news : List (Addr × Obj)} {s : Shared} {Q E : Value → Shared → Prop}
  (kB : Below A₀ base outer h₀) (kF : Fr h₀ L s.heap m) (kX : (KK w.params).In h₀) (kN : News h₀ L s.heap news) (kT : Top topProg LOOSE mean mg mb h₀) (hk : cs.kind = .function) (hdp : dp + 5 < recursionLimit) (hun : un + 40 < cLine)
  {lA : Addr} {k w1 : Int} {tk tw : Tok} (hlow : k < 1)
  (hraise : RaiseX base h₀ L m cn cs a ccd cl outer news s E) :
  wpAny (model PySem.Challenge.rw_rr0057_01.row.prog w) (ktrTop dp un gd cn cs L a ccd cl outer) (call (.ref 130) [.ref lA, .int k tk, .int w1 tw]) Q E s := by
  have kd0 : KtsDicts [] h₀ := ktsDicts_nil
  w_top off
  k_with_none
  k_with "m_mem" => (first | assumption | exact List.Mem.head _ | (refine List.Mem.tail _ ?_; k_extra "m_mem") | (refine List.mem_append.mpr (Or.inl ?_); k_extra "m_mem") | (refine List.mem_append.mpr (Or.inr ?_); k_extra "m_mem"))
  k_with "m_sub" => (first | exact fun _ h9 => h9 | exact List.forall_mem_nil _ | exact List.forall_mem_cons.mpr ⟨by k_extra "m_mem", by k_extra "m_sub"⟩ | exact List.forall_mem_append.mpr ⟨by k_extra "m_sub", by k_extra "m_sub"⟩ | (intro q9 h9; k_extra "m_mem"))
  k_with "m_lt" => (first | assumption | exact allLtOf (by assumption) | exact ltSub (by assumption) (by k_extra "m_sub") | (rename _ ∧ AllLt _ _ => l9; exact allLtOf l9.2) | (rename _ ∧ _ ∧ AllLt _ _ => l9; exact allLtOf l9.2.2) | (rename _ ∧ _ ∧ _ ∧ AllLt _ _ => l9; exact allLtOf l9.2.2.2) | (rename _ ∧ _ ∧ _ ∧ _ ∧ AllLt _ _ => l9; exact allLtOf l9.2.2.2.2))
  k_with "m_ne" => exact neOfLt (by k_extra "m_lt")
  k_with "m_keep" => (first | exact List.forall_mem_nil _ | (refine List.forall_mem_cons.mpr ⟨(by exact rfl), ?_⟩; k_extra "m_keep"))
  k_with "pyIter ref" => k_dflt (k_extra "loop")
  k_with "exec For Name Call cons nil" => (k_here; (rename Fr _ _ _ _ => lF'); (with_unfolding_all refine' For_invVF lF' (by exact rfl) (by exact rfl) ?_; k_whole))
  k_with "exec For Name Name cons nil" => (k_here; (rename Fr _ _ _ _ => lF'); (with_unfolding_all refine' For_invVF lF' (by exact rfl) (by exact rfl) ?_; k_whole))
  k_with "exec While" => k_dflt (k_extra "while")
  k_with "exec While Compare cons nil" => k_dflt (k_extra "while")
  k_with "exec While Compare" => k_dflt (k_extra "while")
  k_with "MPost" => dsimp only [MPost]
  k_with "MEnd" => k_dflt (k_extra "turn")
  k_with "m_fit" => (first | omega | (k_extra "fit"; omega))
  k_with "call builtin:list.append" => (k_here; (with_reducible show wpAny _ _ (call (Value.builtin _) [Value.ref _, Value.int _ _]) _ _ _); k_dflt (refine m_append (by k_asm) (by k_asm) (by k_upd) (by l_ints) (by k_extra "m_fit") ?_; k_whole); intro h' F' N'; (try k_sweep))
  k_with "m_fl_end" => refine fl_end (by assumption) (by assumption) (List.Mem.head _) (by k_extra "m_sub") (by k_extra "m_sub") (by first | assumption | exact List.forall_mem_nil _) (by first | assumption | exact fun _ _ => List.forall_mem_nil _) (by l_ints) (by exact rfl) (by k_extra "m_keep") ?_
  k_with "m_small" => exact small_one (by omega) (by omega) (by omega) (by omega)
  k_with "m_room" => ((try simp only [depth_under_make, depth_under_kw, depth_in1, depth_deeper, depth_caller, units_in1, units_deeper, Around.mark_units, units_caller]); dsimp only [ktrTop]; omega)
  k_with "m_units" => ((try simp only [depth_under_make, depth_under_kw, depth_in1, depth_deeper, depth_caller, units_in1, units_deeper, Around.mark_units, units_caller]); dsimp only [ktrTop]; omega)
  k_with "binaryOp Add ref ref" => (k_here; (with_reducible show wpAny _ _ (binaryOp _ (Value.ref _) (Value.ref _)) _ _ _); k_dflt (refine kmk_add_ints (by k_asm) (by k_asm) (by is_list) (by is_list) (by l_ints) (by l_ints) ?_ (by (rw [sizeLine_eq]; (try simp only [List.length_append, List.length_cons, List.length_nil]); omega))); intro D' ws' h' F' N' l1 hI'; (try k_lt l1); (try k_sweep))
  k_with "call ref" => (k_here; k_dflt (k_extra "call"))
  k_with "subscriptTail Name Slice ref ref" => (k_here; (with_reducible show wpAny _ _ (subscriptTail _ (PySem.Expr.Slice _ _ none _) (Value.ref _) (Value.ref _)) _ _ _); k_dflt (refine kmk_slice_ints (by k_asm) (by k_asm) (by is_list) (by kmk_part) (by kmk_part) (by l_ints) (by first | exact kmk_all (by l_ints) | exact kmk_from (by l_ints) (by omega) | exact kmk_upto (by l_ints) (by omega) | exact kmk_run (by l_ints) (by omega) (by omega)) (by kmk_len) ?_ (by with_unfolding_all rfl) (by kmk_pure) (by (refine kmk_sz (by l_ints) ?_; rw [sizeLine_eq]; omega))); intro D' ws' h' F' N' l1 hI' hC' hL'; (try k_lt l1); (try k_sweep))
  k_with "compareOp Eq ref ref" => (k_here; (with_reducible show wpAny _ _ (compareOp CmpOp.Eq (Value.ref _) (Value.ref _)) _ _ _); k_dflt (refine ke_eq_ints (by is_list) (by is_list) (by l_ints) (by l_ints) (by (dsimp only [ktrTop, Around.deeper]; omega)) ?_; k_whole))
  revert kX; k_fill; intro kX
  refine wpAny_call ?_
  k_dflt ktr_enter
  k_with "call" => (((with_reducible show wpAny _ _ (PySem.call (Value.ref 123) _) _ _ _); refine wpAny_call ?_; refine code_def (by k_asm) (by k_asm) (by k_asm) (by k_asm) (by k_asm) rfl rfl rfl (by k_is) (by k_is) (by dsimp only [ktrTop, Around.deeper]; omega) (by exact BindsTo.of_eq rfl) (by exact locs rfl) ?_ (by exact rfl) (by exact rfl) (by exact rfl) (by decide); intro g1 L1 h1 FG1 F1 N1 B1 X1 T1; (try dsimp only); (try k_fold)))
  k_steps
  all_goals ((rename Fr _ _ _ _ => F9); (rename RaisedS _ _ _ _ _ _ _ _ _ => R9); (rename Heap.UpToSlots _ _ => U9); exact hraise _ _ _ _ _ _ (by assumption) (raisedDrop R9 (by k_extra "m_sub")) U9)
end
-- F_fold_plus_low
section

theorem fold_plus_low {w : World} {mean : ExcName → Option Value} {mg mb : Str → Option Value} {dp un : Nat} {gd : Option (List Code)} {cn : Str} {cs : Scope} {a : Addr} {ccd : Value} {cl : List (Str × Addr)} {outer : List Env} {A₀ : Around} {base h₀ : Heap} {L : Addr} {m : Str → Option Value} {news : List (Addr × Obj)} {s : Shared} {Q E : Value → Shared → Prop}
  (kB : Below A₀ base outer h₀) (kF : Fr h₀ L s.heap m) (kX : (KK w.params).In h₀) (kN : News h₀ L s.heap news) (kT : Top topProg LOOSE mean mg mb h₀) (hk : cs.kind = .function) (hdp : dp + 5 < recursionLimit) (hun : un + 40 < cLine)
  {lA : Addr} {k w1 : Int} {tk tw : Tok} (hlow : k < 1)
  (hraise : RaiseX base h₀ L m cn cs a ccd cl outer news s E) :
  wpAny (model PySem.Challenge.rw_rr0057_01.row.prog w) (ktrTop dp un gd cn cs L a ccd cl outer) (call (.ref 137) [.ref lA, .int k tk, .int w1 tw]) Q E s := by
  have kd0 : KtsDicts [] h₀ := ktsDicts_nil
  w_top off
  k_with_none
  k_with "m_mem" => (first | assumption | exact List.Mem.head _ | (refine List.Mem.tail _ ?_; k_extra "m_mem") | (refine List.mem_append.mpr (Or.inl ?_); k_extra "m_mem") | (refine List.mem_append.mpr (Or.inr ?_); k_extra "m_mem"))
  k_with "m_sub" => (first | exact fun _ h9 => h9 | exact List.forall_mem_nil _ | exact List.forall_mem_cons.mpr ⟨by k_extra "m_mem", by k_extra "m_sub"⟩ | exact List.forall_mem_append.mpr ⟨by k_extra "m_sub", by k_extra "m_sub"⟩ | (intro q9 h9; k_extra "m_mem"))
  k_with "m_lt" => (first | assumption | exact allLtOf (by assumption) | exact ltSub (by assumption) (by k_extra "m_sub") | (rename _ ∧ AllLt _ _ => l9; exact allLtOf l9.2) | (rename _ ∧ _ ∧ AllLt _ _ => l9; exact allLtOf l9.2.2) | (rename _ ∧ _ ∧ _ ∧ AllLt _ _ => l9; exact allLtOf l9.2.2.2) | (rename _ ∧ _ ∧ _ ∧ _ ∧ AllLt _ _ => l9; exact allLtOf l9.2.2.2.2))
  k_with "m_ne" => exact neOfLt (by k_extra "m_lt")
  k_with "m_keep" => (first | exact List.forall_mem_nil _ | (refine List.forall_mem_cons.mpr ⟨(by exact rfl), ?_⟩; k_extra "m_keep"))
  k_with "pyIter ref" => k_dflt (k_extra "loop")
  k_with "exec For Name Call cons nil" => (k_here; (rename Fr _ _ _ _ => lF'); (with_unfolding_all refine' For_invVF lF' (by exact rfl) (by exact rfl) ?_; k_whole))
  k_with "exec For Name Name cons nil" => (k_here; (rename Fr _ _ _ _ => lF'); (with_unfolding_all refine' For_invVF lF' (by exact rfl) (by exact rfl) ?_; k_whole))
  k_with "exec While" => k_dflt (k_extra "while")
  k_with "exec While Compare cons nil" => k_dflt (k_extra "while")
  k_with "exec While Compare" => k_dflt (k_extra "while")
  k_with "MPost" => dsimp only [MPost]
  k_with "MEnd" => k_dflt (k_extra "turn")
  k_with "m_fit" => (first | omega | (k_extra "fit"; omega))
  k_with "call builtin:list.append" => (k_here; (with_reducible show wpAny _ _ (call (Value.builtin _) [Value.ref _, Value.int _ _]) _ _ _); k_dflt (refine m_append (by k_asm) (by k_asm) (by k_upd) (by l_ints) (by k_extra "m_fit") ?_; k_whole); intro h' F' N'; (try k_sweep))
  k_with "m_fl_end" => refine fl_end (by assumption) (by assumption) (List.Mem.head _) (by k_extra "m_sub") (by k_extra "m_sub") (by first | assumption | exact List.forall_mem_nil _) (by first | assumption | exact fun _ _ => List.forall_mem_nil _) (by l_ints) (by exact rfl) (by k_extra "m_keep") ?_
  k_with "m_small" => exact small_one (by omega) (by omega) (by omega) (by omega)
  k_with "m_room" => ((try simp only [depth_under_make, depth_under_kw, depth_in1, depth_deeper, depth_caller, units_in1, units_deeper, Around.mark_units, units_caller]); dsimp only [ktrTop]; omega)
  k_with "m_units" => ((try simp only [depth_under_make, depth_under_kw, depth_in1, depth_deeper, depth_caller, units_in1, units_deeper, Around.mark_units, units_caller]); dsimp only [ktrTop]; omega)
  k_with "binaryOp Add ref ref" => (k_here; (with_reducible show wpAny _ _ (binaryOp _ (Value.ref _) (Value.ref _)) _ _ _); k_dflt (refine kmk_add_ints (by k_asm) (by k_asm) (by is_list) (by is_list) (by l_ints) (by l_ints) ?_ (by (rw [sizeLine_eq]; (try simp only [List.length_append, List.length_cons, List.length_nil]); omega))); intro D' ws' h' F' N' l1 hI'; (try k_lt l1); (try k_sweep))
  k_with "call ref" => (k_here; k_dflt (k_extra "call"))
  k_with "subscriptTail Name Slice ref ref" => (k_here; (with_reducible show wpAny _ _ (subscriptTail _ (PySem.Expr.Slice _ _ none _) (Value.ref _) (Value.ref _)) _ _ _); k_dflt (refine kmk_slice_ints (by k_asm) (by k_asm) (by is_list) (by kmk_part) (by kmk_part) (by l_ints) (by first | exact kmk_all (by l_ints) | exact kmk_from (by l_ints) (by omega) | exact kmk_upto (by l_ints) (by omega) | exact kmk_run (by l_ints) (by omega) (by omega)) (by kmk_len) ?_ (by with_unfolding_all rfl) (by kmk_pure) (by (refine kmk_sz (by l_ints) ?_; rw [sizeLine_eq]; omega))); intro D' ws' h' F' N' l1 hI' hC' hL'; (try k_lt l1); (try k_sweep))
  k_with "compareOp Eq ref ref" => (k_here; (with_reducible show wpAny _ _ (compareOp CmpOp.Eq (Value.ref _) (Value.ref _)) _ _ _); k_dflt (refine ke_eq_ints (by is_list) (by is_list) (by l_ints) (by l_ints) (by (dsimp only [ktrTop, Around.deeper]; omega)) ?_; k_whole))
  revert kX; k_fill; intro kX
  refine wpAny_call ?_
  k_dflt ktr_enter
  k_with "call" => (((with_reducible show wpAny _ _ (PySem.call (Value.ref 123) _) _ _ _); refine wpAny_call ?_; refine code_def (by k_asm) (by k_asm) (by k_asm) (by k_asm) (by k_asm) rfl rfl rfl (by k_is) (by k_is) (by dsimp only [ktrTop, Around.deeper]; omega) (by exact BindsTo.of_eq rfl) (by exact locs rfl) ?_ (by exact rfl) (by exact rfl) (by exact rfl) (by decide); intro g1 L1 h1 FG1 F1 N1 B1 X1 T1; (try dsimp only); (try k_fold)))
  k_steps
  all_goals ((rename Fr _ _ _ _ => F9); (rename RaisedS _ _ _ _ _ _ _ _ _ => R9); (rename Heap.UpToSlots _ _ => U9); exact hraise _ _ _ _ _ _ (by assumption) (raisedDrop R9 (by k_extra "m_sub")) U9)
end
-- F_wrapped_product_low
section

theorem wrapped_product_low {w : World} {mean : ExcName → Option Value} {mg mb : Str → Option Value} {dp un : Nat} {gd : Option (List Code)} {cn : Str} {cs : Scope} {a : Addr} {ccd : Value} {cl : List (Str × Addr)} {outer : List Env} {A₀ : Around} {base h₀ : Heap} {L : Addr} {m : Str → Option Value} {news : List (Addr × Obj)} {s : Shared} {Q E : Value → Shared → Prop}
  (kB : Below A₀ base outer h₀) (kF : Fr h₀ L s.heap m) (kX : (KK w.params).In h₀) (kN : News h₀ L s.heap news) (kT : Top topProg LOOSE mean mg mb h₀) (hk : cs.kind = .function) (hdp : dp + 20 < recursionLimit) (hun : un + 160 < cLine)
  {lA lB : Addr} {k w1 least : Int} {tk tw tl : Tok} (hlow : k < 1)
  (hraise : RaiseX base h₀ L m cn cs a ccd cl outer news s E) :
  wpAny (model PySem.Challenge.rw_rr0057_01.row.prog w) (ktrTop dp un gd cn cs L a ccd cl outer) (call (.ref 151) [.ref lA, .ref lB, .int k tk, .int w1 tw, .int least tl, .ref 226]) Q E s := by
  have kd0 : KtsDicts [] h₀ := ktsDicts_nil
  w_top off
  k_with_none
  k_with "m_mem" => (first | assumption | exact List.Mem.head _ | (refine List.Mem.tail _ ?_; k_extra "m_mem") | (refine List.mem_append.mpr (Or.inl ?_); k_extra "m_mem") | (refine List.mem_append.mpr (Or.inr ?_); k_extra "m_mem"))
  k_with "m_sub" => (first | exact fun _ h9 => h9 | exact List.forall_mem_nil _ | exact List.forall_mem_cons.mpr ⟨by k_extra "m_mem", by k_extra "m_sub"⟩ | exact List.forall_mem_append.mpr ⟨by k_extra "m_sub", by k_extra "m_sub"⟩ | (intro q9 h9; k_extra "m_mem"))
  k_with "m_lt" => (first | assumption | exact allLtOf (by assumption) | exact ltSub (by assumption) (by k_extra "m_sub") | (rename _ ∧ AllLt _ _ => l9; exact allLtOf l9.2) | (rename _ ∧ _ ∧ AllLt _ _ => l9; exact allLtOf l9.2.2) | (rename _ ∧ _ ∧ _ ∧ AllLt _ _ => l9; exact allLtOf l9.2.2.2) | (rename _ ∧ _ ∧ _ ∧ _ ∧ AllLt _ _ => l9; exact allLtOf l9.2.2.2.2))
  k_with "m_ne" => exact neOfLt (by k_extra "m_lt")
  k_with "m_keep" => (first | exact List.forall_mem_nil _ | (refine List.forall_mem_cons.mpr ⟨(by exact rfl), ?_⟩; k_extra "m_keep"))
  k_with "pyIter ref" => k_dflt (k_extra "loop")
  k_with "exec For Name Call cons nil" => (k_here; (rename Fr _ _ _ _ => lF'); (with_unfolding_all refine' For_invVF lF' (by exact rfl) (by exact rfl) ?_; k_whole))
  k_with "exec For Name Name cons nil" => (k_here; (rename Fr _ _ _ _ => lF'); (with_unfolding_all refine' For_invVF lF' (by exact rfl) (by exact rfl) ?_; k_whole))
  k_with "exec While" => k_dflt (k_extra "while")
  k_with "exec While Compare cons nil" => k_dflt (k_extra "while")
  k_with "exec While Compare" => k_dflt (k_extra "while")
  k_with "MPost" => dsimp only [MPost]
  k_with "MEnd" => k_dflt (k_extra "turn")
  k_with "m_fit" => (first | omega | (k_extra "fit"; omega))
  k_with "call builtin:list.append" => (k_here; (with_reducible show wpAny _ _ (call (Value.builtin _) [Value.ref _, Value.int _ _]) _ _ _); k_dflt (refine m_append (by k_asm) (by k_asm) (by k_upd) (by l_ints) (by k_extra "m_fit") ?_; k_whole); intro h' F' N'; (try k_sweep))
  k_with "m_fl_end" => refine fl_end (by assumption) (by assumption) (List.Mem.head _) (by k_extra "m_sub") (by k_extra "m_sub") (by first | assumption | exact List.forall_mem_nil _) (by first | assumption | exact fun _ _ => List.forall_mem_nil _) (by l_ints) (by exact rfl) (by k_extra "m_keep") ?_
  k_with "m_small" => exact small_one (by omega) (by omega) (by omega) (by omega)
  k_with "m_room" => ((try simp only [depth_under_make, depth_under_kw, depth_in1, depth_deeper, depth_caller, units_in1, units_deeper, Around.mark_units, units_caller]); dsimp only [ktrTop]; omega)
  k_with "m_units" => ((try simp only [depth_under_make, depth_under_kw, depth_in1, depth_deeper, depth_caller, units_in1, units_deeper, Around.mark_units, units_caller]); dsimp only [ktrTop]; omega)
  k_with "binaryOp Add ref ref" => (k_here; (with_reducible show wpAny _ _ (binaryOp _ (Value.ref _) (Value.ref _)) _ _ _); k_dflt (refine kmk_add_ints (by k_asm) (by k_asm) (by is_list) (by is_list) (by l_ints) (by l_ints) ?_ (by (rw [sizeLine_eq]; (try simp only [List.length_append, List.length_cons, List.length_nil]); omega))); intro D' ws' h' F' N' l1 hI'; (try k_lt l1); (try k_sweep))
  k_with "call ref" => (k_here; k_dflt (k_extra "call"))
  k_with "subscriptTail Name Slice ref ref" => (k_here; (with_reducible show wpAny _ _ (subscriptTail _ (PySem.Expr.Slice _ _ none _) (Value.ref _) (Value.ref _)) _ _ _); k_dflt (refine kmk_slice_ints (by k_asm) (by k_asm) (by is_list) (by kmk_part) (by kmk_part) (by l_ints) (by first | exact kmk_all (by l_ints) | exact kmk_from (by l_ints) (by omega) | exact kmk_upto (by l_ints) (by omega) | exact kmk_run (by l_ints) (by omega) (by omega)) (by kmk_len) ?_ (by with_unfolding_all rfl) (by kmk_pure) (by (refine kmk_sz (by l_ints) ?_; rw [sizeLine_eq]; omega))); intro D' ws' h' F' N' l1 hI' hC' hL'; (try k_lt l1); (try k_sweep))
  k_with "compareOp Eq ref ref" => (k_here; (with_reducible show wpAny _ _ (compareOp CmpOp.Eq (Value.ref _) (Value.ref _)) _ _ _); k_dflt (refine ke_eq_ints (by is_list) (by is_list) (by l_ints) (by l_ints) (by (dsimp only [ktrTop, Around.deeper]; omega)) ?_; k_whole))
  revert kX; k_fill; intro kX
  refine wpAny_call ?_
  k_dflt ktr_enter
  k_with "call" => (((with_reducible show wpAny _ _ (PySem.call (Value.ref 130) _) _ _ _); refine fold_minus_low (by assumption) (by assumption) (by assumption) (by assumption) (by assumption) (by exact rfl) (by dsimp only [ktrTop]; omega) (by dsimp only [ktrTop]; omega) (by omega) ?_; intro G' e' t' v' h' k' F' S' U'; (try dsimp only)))
  k_steps
  all_goals ((rename Fr _ _ _ _ => F9); (rename RaisedS _ _ _ _ _ _ _ _ _ => R9); (rename Heap.UpToSlots _ _ => U9); exact hraise _ _ _ _ _ _ (by assumption) (raisedDrop R9 (by k_extra "m_sub")) U9)
end
-- F_ring_fold_low
section

theorem ring_fold_low {w : World} {mean : ExcName → Option Value} {mg mb : Str → Option Value} {dp un : Nat} {gd : Option (List Code)} {cn : Str} {cs : Scope} {a : Addr} {ccd : Value} {cl : List (Str × Addr)} {outer : List Env} {A₀ : Around} {base h₀ : Heap} {L : Addr} {m : Str → Option Value} {news : List (Addr × Obj)} {s : Shared} {Q E : Value → Shared → Prop}
  (kB : Below A₀ base outer h₀) (kF : Fr h₀ L s.heap m) (kX : (KK w.params).In h₀) (kN : News h₀ L s.heap news) (kT : Top topProg LOOSE mean mg mb h₀) (hk : cs.kind = .function) (hdp : dp + 5 < recursionLimit) (hun : un + 40 < cLine)
  {lA : Addr} {k w1 : Int} {tk tw : Tok} (hlow : k < 1)
  (hraise : RaiseX base h₀ L m cn cs a ccd cl outer news s E) :
  wpAny (model PySem.Challenge.rw_rr0057_01.row.prog w) (ktrTop dp un gd cn cs L a ccd cl outer) (call (.ref 193) [.ref lA, .int k tk, .int w1 tw]) Q E s := by
  have kd0 : KtsDicts [] h₀ := ktsDicts_nil
  w_top off
  k_with_none
  k_with "m_mem" => (first | assumption | exact List.Mem.head _ | (refine List.Mem.tail _ ?_; k_extra "m_mem") | (refine List.mem_append.mpr (Or.inl ?_); k_extra "m_mem") | (refine List.mem_append.mpr (Or.inr ?_); k_extra "m_mem"))
  k_with "m_sub" => (first | exact fun _ h9 => h9 | exact List.forall_mem_nil _ | exact List.forall_mem_cons.mpr ⟨by k_extra "m_mem", by k_extra "m_sub"⟩ | exact List.forall_mem_append.mpr ⟨by k_extra "m_sub", by k_extra "m_sub"⟩ | (intro q9 h9; k_extra "m_mem"))
  k_with "m_lt" => (first | assumption | exact allLtOf (by assumption) | exact ltSub (by assumption) (by k_extra "m_sub") | (rename _ ∧ AllLt _ _ => l9; exact allLtOf l9.2) | (rename _ ∧ _ ∧ AllLt _ _ => l9; exact allLtOf l9.2.2) | (rename _ ∧ _ ∧ _ ∧ AllLt _ _ => l9; exact allLtOf l9.2.2.2) | (rename _ ∧ _ ∧ _ ∧ _ ∧ AllLt _ _ => l9; exact allLtOf l9.2.2.2.2))
  k_with "m_ne" => exact neOfLt (by k_extra "m_lt")
  k_with "m_keep" => (first | exact List.forall_mem_nil _ | (refine List.forall_mem_cons.mpr ⟨(by exact rfl), ?_⟩; k_extra "m_keep"))
  k_with "pyIter ref" => k_dflt (k_extra "loop")
  k_with "exec For Name Call cons nil" => (k_here; (rename Fr _ _ _ _ => lF'); (with_unfolding_all refine' For_invVF lF' (by exact rfl) (by exact rfl) ?_; k_whole))
  k_with "exec For Name Name cons nil" => (k_here; (rename Fr _ _ _ _ => lF'); (with_unfolding_all refine' For_invVF lF' (by exact rfl) (by exact rfl) ?_; k_whole))
  k_with "exec While" => k_dflt (k_extra "while")
  k_with "exec While Compare cons nil" => k_dflt (k_extra "while")
  k_with "exec While Compare" => k_dflt (k_extra "while")
  k_with "MPost" => dsimp only [MPost]
  k_with "MEnd" => k_dflt (k_extra "turn")
  k_with "m_fit" => (first | omega | (k_extra "fit"; omega))
  k_with "call builtin:list.append" => (k_here; (with_reducible show wpAny _ _ (call (Value.builtin _) [Value.ref _, Value.int _ _]) _ _ _); k_dflt (refine m_append (by k_asm) (by k_asm) (by k_upd) (by l_ints) (by k_extra "m_fit") ?_; k_whole); intro h' F' N'; (try k_sweep))
  k_with "m_fl_end" => refine fl_end (by assumption) (by assumption) (List.Mem.head _) (by k_extra "m_sub") (by k_extra "m_sub") (by first | assumption | exact List.forall_mem_nil _) (by first | assumption | exact fun _ _ => List.forall_mem_nil _) (by l_ints) (by exact rfl) (by k_extra "m_keep") ?_
  k_with "m_small" => exact small_one (by omega) (by omega) (by omega) (by omega)
  k_with "m_room" => ((try simp only [depth_under_make, depth_under_kw, depth_in1, depth_deeper, depth_caller, units_in1, units_deeper, Around.mark_units, units_caller]); dsimp only [ktrTop]; omega)
  k_with "m_units" => ((try simp only [depth_under_make, depth_under_kw, depth_in1, depth_deeper, depth_caller, units_in1, units_deeper, Around.mark_units, units_caller]); dsimp only [ktrTop]; omega)
  k_with "binaryOp Add ref ref" => (k_here; (with_reducible show wpAny _ _ (binaryOp _ (Value.ref _) (Value.ref _)) _ _ _); k_dflt (refine kmk_add_ints (by k_asm) (by k_asm) (by is_list) (by is_list) (by l_ints) (by l_ints) ?_ (by (rw [sizeLine_eq]; (try simp only [List.length_append, List.length_cons, List.length_nil]); omega))); intro D' ws' h' F' N' l1 hI'; (try k_lt l1); (try k_sweep))
  k_with "call ref" => (k_here; k_dflt (k_extra "call"))
  k_with "subscriptTail Name Slice ref ref" => (k_here; (with_reducible show wpAny _ _ (subscriptTail _ (PySem.Expr.Slice _ _ none _) (Value.ref _) (Value.ref _)) _ _ _); k_dflt (refine kmk_slice_ints (by k_asm) (by k_asm) (by is_list) (by kmk_part) (by kmk_part) (by l_ints) (by first | exact kmk_all (by l_ints) | exact kmk_from (by l_ints) (by omega) | exact kmk_upto (by l_ints) (by omega) | exact kmk_run (by l_ints) (by omega) (by omega)) (by kmk_len) ?_ (by with_unfolding_all rfl) (by kmk_pure) (by (refine kmk_sz (by l_ints) ?_; rw [sizeLine_eq]; omega))); intro D' ws' h' F' N' l1 hI' hC' hL'; (try k_lt l1); (try k_sweep))
  k_with "compareOp Eq ref ref" => (k_here; (with_reducible show wpAny _ _ (compareOp CmpOp.Eq (Value.ref _) (Value.ref _)) _ _ _); k_dflt (refine ke_eq_ints (by is_list) (by is_list) (by l_ints) (by l_ints) (by (dsimp only [ktrTop, Around.deeper]; omega)) ?_; k_whole))
  revert kX; k_fill; intro kX
  refine wpAny_call ?_
  k_dflt ktr_enter
  k_with "call" => (((with_reducible show wpAny _ _ (PySem.call (Value.ref 186) _) _ _ _); refine wpAny_call ?_; refine code_def (by k_asm) (by k_asm) (by k_asm) (by k_asm) (by k_asm) rfl rfl rfl (by k_is) (by k_is) (by dsimp only [ktrTop, Around.deeper]; omega) (by exact BindsTo.of_eq rfl) (by exact locs rfl) ?_ (by exact rfl) (by exact rfl) (by exact rfl) (by decide); intro g1 L1 h1 FG1 F1 N1 B1 X1 T1; (try dsimp only); (try k_fold)))
  k_steps
  all_goals ((rename Fr _ _ _ _ => F9); (rename RaisedS _ _ _ _ _ _ _ _ _ => R9); (rename Heap.UpToSlots _ _ => U9); exact hraise _ _ _ _ _ _ (by assumption) (raisedDrop R9 (by k_extra "m_sub")) U9)
end
-- F_element_of_low
section

theorem element_of_low {w : World} {mean : ExcName → Option Value} {mg mb : Str → Option Value} {dp un : Nat} {gd : Option (List Code)} {cn : Str} {cs : Scope} {a : Addr} {ccd : Value} {cl : List (Str × Addr)} {outer : List Env} {A₀ : Around} {base h₀ : Heap} {L : Addr} {m : Str → Option Value} {news : List (Addr × Obj)} {s : Shared} {Q E : Value → Shared → Prop}
  (kB : Below A₀ base outer h₀) (kF : Fr h₀ L s.heap m) (kX : (KK w.params).In h₀) (kN : News h₀ L s.heap news) (kT : Top topProg LOOSE mean mg mb h₀) (hk : cs.kind = .function) (hdp : dp + 20 < recursionLimit) (hun : un + 160 < cLine)
  {e k w1 : Int} {te tk tw : Tok} (hw : 0 < w1) (hw2 : w1 < 60) (hlow : k < 1) (he0 : e ≤ 0) (he1 : -10 ≤ e)
  (hraise : RaiseX base h₀ L m cn cs a ccd cl outer news s E) :
  wpAny (model PySem.Challenge.rw_rr0057_01.row.prog w) (ktrTop dp un gd cn cs L a ccd cl outer) (call (.ref 207) [.int e te, .int k tk, .int w1 tw]) Q E s := by
  have kd0 : KtsDicts [] h₀ := ktsDicts_nil
  w_top off
  k_with_none
  k_with "m_mem" => (first | assumption | exact List.Mem.head _ | (refine List.Mem.tail _ ?_; k_extra "m_mem") | (refine List.mem_append.mpr (Or.inl ?_); k_extra "m_mem") | (refine List.mem_append.mpr (Or.inr ?_); k_extra "m_mem"))
  k_with "m_sub" => (first | exact fun _ h9 => h9 | exact List.forall_mem_nil _ | exact List.forall_mem_cons.mpr ⟨by k_extra "m_mem", by k_extra "m_sub"⟩ | exact List.forall_mem_append.mpr ⟨by k_extra "m_sub", by k_extra "m_sub"⟩ | (intro q9 h9; k_extra "m_mem"))
  k_with "m_lt" => (first | assumption | exact allLtOf (by assumption) | exact ltSub (by assumption) (by k_extra "m_sub") | (rename _ ∧ AllLt _ _ => l9; exact allLtOf l9.2) | (rename _ ∧ _ ∧ AllLt _ _ => l9; exact allLtOf l9.2.2) | (rename _ ∧ _ ∧ _ ∧ AllLt _ _ => l9; exact allLtOf l9.2.2.2) | (rename _ ∧ _ ∧ _ ∧ _ ∧ AllLt _ _ => l9; exact allLtOf l9.2.2.2.2))
  k_with "m_ne" => exact neOfLt (by k_extra "m_lt")
  k_with "m_keep" => (first | exact List.forall_mem_nil _ | (refine List.forall_mem_cons.mpr ⟨(by exact rfl), ?_⟩; k_extra "m_keep"))
  k_with "pyIter ref" => k_dflt (k_extra "loop")
  k_with "exec For Name Call cons nil" => (k_here; (rename Fr _ _ _ _ => lF'); (with_unfolding_all refine' For_invVF lF' (by exact rfl) (by exact rfl) ?_; k_whole))
  k_with "exec For Name Name cons nil" => (k_here; (rename Fr _ _ _ _ => lF'); (with_unfolding_all refine' For_invVF lF' (by exact rfl) (by exact rfl) ?_; k_whole))
  k_with "exec While" => k_dflt (k_extra "while")
  k_with "exec While Compare cons nil" => k_dflt (k_extra "while")
  k_with "exec While Compare" => k_dflt (k_extra "while")
  k_with "MPost" => dsimp only [MPost]
  k_with "MEnd" => k_dflt (k_extra "turn")
  k_with "m_fit" => (first | omega | (k_extra "fit"; omega))
  k_with "call builtin:list.append" => (k_here; (with_reducible show wpAny _ _ (call (Value.builtin _) [Value.ref _, Value.int _ _]) _ _ _); k_dflt (refine m_append (by k_asm) (by k_asm) (by k_upd) (by l_ints) (by k_extra "m_fit") ?_; k_whole); intro h' F' N'; (try k_sweep))
  k_with "m_fl_end" => refine fl_end (by assumption) (by assumption) (List.Mem.head _) (by k_extra "m_sub") (by k_extra "m_sub") (by first | assumption | exact List.forall_mem_nil _) (by first | assumption | exact fun _ _ => List.forall_mem_nil _) (by l_ints) (by exact rfl) (by k_extra "m_keep") ?_
  k_with "m_small" => exact small_one (by omega) (by omega) (by omega) (by omega)
  k_with "m_room" => ((try simp only [depth_under_make, depth_under_kw, depth_in1, depth_deeper, depth_caller, units_in1, units_deeper, Around.mark_units, units_caller]); dsimp only [ktrTop]; omega)
  k_with "m_units" => ((try simp only [depth_under_make, depth_under_kw, depth_in1, depth_deeper, depth_caller, units_in1, units_deeper, Around.mark_units, units_caller]); dsimp only [ktrTop]; omega)
  k_with "binaryOp Add ref ref" => (k_here; (with_reducible show wpAny _ _ (binaryOp _ (Value.ref _) (Value.ref _)) _ _ _); k_dflt (refine kmk_add_ints (by k_asm) (by k_asm) (by is_list) (by is_list) (by l_ints) (by l_ints) ?_ (by (rw [sizeLine_eq]; (try simp only [List.length_append, List.length_cons, List.length_nil]); omega))); intro D' ws' h' F' N' l1 hI'; (try k_lt l1); (try k_sweep))
  k_with "call ref" => (k_here; k_dflt (k_extra "call"))
  k_with "subscriptTail Name Slice ref ref" => (k_here; (with_reducible show wpAny _ _ (subscriptTail _ (PySem.Expr.Slice _ _ none _) (Value.ref _) (Value.ref _)) _ _ _); k_dflt (refine kmk_slice_ints (by k_asm) (by k_asm) (by is_list) (by kmk_part) (by kmk_part) (by l_ints) (by first | exact kmk_all (by l_ints) | exact kmk_from (by l_ints) (by omega) | exact kmk_upto (by l_ints) (by omega) | exact kmk_run (by l_ints) (by omega) (by omega)) (by kmk_len) ?_ (by with_unfolding_all rfl) (by kmk_pure) (by (refine kmk_sz (by l_ints) ?_; rw [sizeLine_eq]; omega))); intro D' ws' h' F' N' l1 hI' hC' hL'; (try k_lt l1); (try k_sweep))
  k_with "compareOp Eq ref ref" => (k_here; (with_reducible show wpAny _ _ (compareOp CmpOp.Eq (Value.ref _) (Value.ref _)) _ _ _); k_dflt (refine ke_eq_ints (by is_list) (by is_list) (by l_ints) (by l_ints) (by (dsimp only [ktrTop, Around.deeper]; omega)) ?_; k_whole))
  revert kX; k_fill; intro kX
  refine wpAny_call ?_
  k_dflt ktr_enter
  have hab : (if e < 0 then -e else e) = -e := by split <;> omega
  k_with "call" => ((first
    | ((with_reducible show wpAny _ _ (PySem.call (Value.ref 53) _) _ _ _); refine nat_of_spec (by assumption) (by assumption) (by assumption) (by assumption) (by assumption) (by exact rfl) (by dsimp only [ktrTop]; omega) (by dsimp only [ktrTop]; omega) hw hw2 (by omega) (by omega) ?_; intro r9 us9 n9 res9 h9 tk9 F9 N9 hi9 hc9 hlt9; (try dsimp only); rw [hab] at hc9)
    | ((with_reducible show wpAny _ _ (PySem.call (Value.ref 46) _) _ _ _); refine normal_spec (by assumption) (by assumption) (by assumption) (by assumption) (by assumption) (by exact rfl) (by dsimp only [ktrTop]; omega) (by dsimp only [ktrTop]; omega) (by k_extra "m_mem") (by l_ints) hw hc9.1 (by exact Nat.lt_of_le_of_lt (can_len (base_ge hw) hc9 (show _ < 2 ^ 200 by omega)) (by decide)) ?_; rw [hc9.2.2]; intro r8 us8 n8 res8 h8 tk8 F8 N8 hi8 hc8 hlt8; (try dsimp only))
    | ((with_reducible show wpAny _ _ (PySem.call (Value.ref 193) _) _ _ _); refine ring_fold_low (by assumption) (by assumption) (by assumption) (by assumption) (by assumption) (by exact rfl) (by dsimp only [ktrTop]; omega) (by dsimp only [ktrTop]; omega) (by omega) ?_; intro G' e' t' v' h' k' F' S' U'; (try dsimp only))))
  k_steps
  all_goals ((rename Fr _ _ _ _ => F9); (rename RaisedS _ _ _ _ _ _ _ _ _ => R9); (rename Heap.UpToSlots _ _ => U9); exact hraise _ _ _ _ _ _ (by assumption) (raisedDrop R9 (by k_extra "m_sub")) U9)
end
-- F_ring_shift_low
section

theorem ring_shift_low {w : World} {mean : ExcName → Option Value} {mg mb : Str → Option Value} {dp un : Nat} {gd : Option (List Code)} {cn : Str} {cs : Scope} {a : Addr} {ccd : Value} {cl : List (Str × Addr)} {outer : List Env} {A₀ : Around} {base h₀ : Heap} {L : Addr} {m : Str → Option Value} {news : List (Addr × Obj)} {s : Shared} {Q E : Value → Shared → Prop}
  (kB : Below A₀ base outer h₀) (kF : Fr h₀ L s.heap m) (kX : (KK w.params).In h₀) (kN : News h₀ L s.heap news) (kT : Top topProg LOOSE mean mg mb h₀) (hk : cs.kind = .function) (hdp : dp + 5 < recursionLimit) (hun : un + 40 < cLine)
  {lA : Addr} {j k w1 : Int} {tj tk tw : Tok} (hlow : k < 1)
  (hraise : RaiseX base h₀ L m cn cs a ccd cl outer news s E) :
  wpAny (model PySem.Challenge.rw_rr0057_01.row.prog w) (ktrTop dp un gd cn cs L a ccd cl outer) (call (.ref 200) [.ref lA, .int j tj, .int k tk, .int w1 tw]) Q E s := by
  have kd0 : KtsDicts [] h₀ := ktsDicts_nil
  w_top off
  k_with_none
  k_with "m_mem" => (first | assumption | exact List.Mem.head _ | (refine List.Mem.tail _ ?_; k_extra "m_mem") | (refine List.mem_append.mpr (Or.inl ?_); k_extra "m_mem") | (refine List.mem_append.mpr (Or.inr ?_); k_extra "m_mem"))
  k_with "m_sub" => (first | exact fun _ h9 => h9 | exact List.forall_mem_nil _ | exact List.forall_mem_cons.mpr ⟨by k_extra "m_mem", by k_extra "m_sub"⟩ | exact List.forall_mem_append.mpr ⟨by k_extra "m_sub", by k_extra "m_sub"⟩ | (intro q9 h9; k_extra "m_mem"))
  k_with "m_lt" => (first | assumption | exact allLtOf (by assumption) | exact ltSub (by assumption) (by k_extra "m_sub") | (rename _ ∧ AllLt _ _ => l9; exact allLtOf l9.2) | (rename _ ∧ _ ∧ AllLt _ _ => l9; exact allLtOf l9.2.2) | (rename _ ∧ _ ∧ _ ∧ AllLt _ _ => l9; exact allLtOf l9.2.2.2) | (rename _ ∧ _ ∧ _ ∧ _ ∧ AllLt _ _ => l9; exact allLtOf l9.2.2.2.2))
  k_with "m_ne" => exact neOfLt (by k_extra "m_lt")
  k_with "m_keep" => (first | exact List.forall_mem_nil _ | (refine List.forall_mem_cons.mpr ⟨(by exact rfl), ?_⟩; k_extra "m_keep"))
  k_with "pyIter ref" => k_dflt (k_extra "loop")
  k_with "exec For Name Call cons nil" => (k_here; (rename Fr _ _ _ _ => lF'); (with_unfolding_all refine' For_invVF lF' (by exact rfl) (by exact rfl) ?_; k_whole))
  k_with "exec For Name Name cons nil" => (k_here; (rename Fr _ _ _ _ => lF'); (with_unfolding_all refine' For_invVF lF' (by exact rfl) (by exact rfl) ?_; k_whole))
  k_with "exec While" => k_dflt (k_extra "while")
  k_with "exec While Compare cons nil" => k_dflt (k_extra "while")
  k_with "exec While Compare" => k_dflt (k_extra "while")
  k_with "MPost" => dsimp only [MPost]
  k_with "MEnd" => k_dflt (k_extra "turn")
  k_with "m_fit" => (first | omega | (k_extra "fit"; omega))
  k_with "call builtin:list.append" => (k_here; (with_reducible show wpAny _ _ (call (Value.builtin _) [Value.ref _, Value.int _ _]) _ _ _); k_dflt (refine m_append (by k_asm) (by k_asm) (by k_upd) (by l_ints) (by k_extra "m_fit") ?_; k_whole); intro h' F' N'; (try k_sweep))
  k_with "m_fl_end" => refine fl_end (by assumption) (by assumption) (List.Mem.head _) (by k_extra "m_sub") (by k_extra "m_sub") (by first | assumption | exact List.forall_mem_nil _) (by first | assumption | exact fun _ _ => List.forall_mem_nil _) (by l_ints) (by exact rfl) (by k_extra "m_keep") ?_
  k_with "m_small" => exact small_one (by omega) (by omega) (by omega) (by omega)
  k_with "m_room" => ((try simp only [depth_under_make, depth_under_kw, depth_in1, depth_deeper, depth_caller, units_in1, units_deeper, Around.mark_units, units_caller]); dsimp only [ktrTop]; omega)
  k_with "m_units" => ((try simp only [depth_under_make, depth_under_kw, depth_in1, depth_deeper, depth_caller, units_in1, units_deeper, Around.mark_units, units_caller]); dsimp only [ktrTop]; omega)
  k_with "binaryOp Add ref ref" => (k_here; (with_reducible show wpAny _ _ (binaryOp _ (Value.ref _) (Value.ref _)) _ _ _); k_dflt (refine kmk_add_ints (by k_asm) (by k_asm) (by is_list) (by is_list) (by l_ints) (by l_ints) ?_ (by (rw [sizeLine_eq]; (try simp only [List.length_append, List.length_cons, List.length_nil]); omega))); intro D' ws' h' F' N' l1 hI'; (try k_lt l1); (try k_sweep))
  k_with "call ref" => (k_here; k_dflt (k_extra "call"))
  k_with "subscriptTail Name Slice ref ref" => (k_here; (with_reducible show wpAny _ _ (subscriptTail _ (PySem.Expr.Slice _ _ none _) (Value.ref _) (Value.ref _)) _ _ _); k_dflt (refine kmk_slice_ints (by k_asm) (by k_asm) (by is_list) (by kmk_part) (by kmk_part) (by l_ints) (by first | exact kmk_all (by l_ints) | exact kmk_from (by l_ints) (by omega) | exact kmk_upto (by l_ints) (by omega) | exact kmk_run (by l_ints) (by omega) (by omega)) (by kmk_len) ?_ (by with_unfolding_all rfl) (by kmk_pure) (by (refine kmk_sz (by l_ints) ?_; rw [sizeLine_eq]; omega))); intro D' ws' h' F' N' l1 hI' hC' hL'; (try k_lt l1); (try k_sweep))
  k_with "compareOp Eq ref ref" => (k_here; (with_reducible show wpAny _ _ (compareOp CmpOp.Eq (Value.ref _) (Value.ref _)) _ _ _); k_dflt (refine ke_eq_ints (by is_list) (by is_list) (by l_ints) (by l_ints) (by (dsimp only [ktrTop, Around.deeper]; omega)) ?_; k_whole))
  revert kX; k_fill; intro kX
  refine wpAny_call ?_
  k_dflt ktr_enter
  k_with "call" => (((with_reducible show wpAny _ _ (PySem.call (Value.ref 186) _) _ _ _); refine wpAny_call ?_; refine code_def (by k_asm) (by k_asm) (by k_asm) (by k_asm) (by k_asm) rfl rfl rfl (by k_is) (by k_is) (by dsimp only [ktrTop, Around.deeper]; omega) (by exact BindsTo.of_eq rfl) (by exact locs rfl) ?_ (by exact rfl) (by exact rfl) (by exact rfl) (by decide); intro g1 L1 h1 FG1 F1 N1 B1 X1 T1; (try dsimp only); (try k_fold)))
  k_steps
  all_goals ((rename Fr _ _ _ _ => F9); (rename RaisedS _ _ _ _ _ _ _ _ _ => R9); (rename Heap.UpToSlots _ _ => U9); exact hraise _ _ _ _ _ _ (by assumption) (raisedDrop R9 (by k_extra "m_sub")) U9)
end
-- LawAll
section
structure Hold (P : Prop) : Prop where
  out : P
theorem hold {P : Prop} (h : Hold P) : P := h.out
local macro_rules | `(tactic| k_mem) => `(tactic| k_extra "m_memL")
theorem main : PySem.Challenge.rw_rr0057_01.Holds := by
  w_on
  refine holds_law law_said fun said => ?_
  refine holds_open (q := view) (loose := []) (Xt := fun s => xlAt view [] s && recOk (RowW.records PySem.Challenge.rw_rr0057_01.row.toRowW) s) (XP := XL view []) (Yf := Hook.obs HK) (Ya := Hook.val HK) (YP := Hook.says HK) (N := 2934) left (Hook.of HK) (Hook.keeps HK) (fun s e => xl_of s (Bool.and_eq_true_iff.mp e).1) XL.keeps (by rfl) (by rfl) (by rfl) (fun s e => recFacts_of (Bool.and_eq_true_iff.mp e).2) (by rfl) (by assumption) (by decide +kernel) ⟨rfl, rfl, rfl, rfl, rfl, by decide +kernel⟩ ?hw ?hc
  case hw => w_witness2
  clear said
  delta HK
  w_top off
  k_with_none
  k_go0
  (all_goals try k_fold)
  k_with_none
  k_with "m_mem" => (first | assumption | exact List.Mem.head _ | (refine List.Mem.tail _ ?_; k_extra "m_mem") | (refine List.mem_append.mpr (Or.inl ?_); k_extra "m_mem") | (refine List.mem_append.mpr (Or.inr ?_); k_extra "m_mem"))
  k_with "m_sub" => (first | exact fun _ h9 => h9 | exact List.forall_mem_nil _ | exact List.forall_mem_cons.mpr ⟨by k_extra "m_mem", by k_extra "m_sub"⟩ | exact List.forall_mem_append.mpr ⟨by k_extra "m_sub", by k_extra "m_sub"⟩ | (intro q9 h9; k_extra "m_mem"))
  k_with "m_lt" => (first | assumption | exact allLtOf (by assumption) | exact ltSub (by assumption) (by k_extra "m_sub") | (rename _ ∧ AllLt _ _ => l9; exact allLtOf l9.2) | (rename _ ∧ _ ∧ AllLt _ _ => l9; exact allLtOf l9.2.2) | (rename _ ∧ _ ∧ _ ∧ AllLt _ _ => l9; exact allLtOf l9.2.2.2) | (rename _ ∧ _ ∧ _ ∧ _ ∧ AllLt _ _ => l9; exact allLtOf l9.2.2.2.2))
  k_with "m_ne" => exact neOfLt (by k_extra "m_lt")
  k_with "m_keep" => (first | exact List.forall_mem_nil _ | (refine List.forall_mem_cons.mpr ⟨(by exact rfl), ?_⟩; k_extra "m_keep"))
  k_with "pyIter ref" => k_dflt (k_extra "loop")
  k_with "exec For Name Call cons nil" => (k_here; (rename Fr _ _ _ _ => lF'); (with_unfolding_all refine' For_invVF lF' (by exact rfl) (by exact rfl) ?_; k_whole))
  k_with "exec For Name Name cons nil" => (k_here; (rename Fr _ _ _ _ => lF'); (with_unfolding_all refine' For_invVF lF' (by exact rfl) (by exact rfl) ?_; k_whole))
  k_with "exec While" => k_dflt (k_extra "while")
  k_with "exec While Compare cons nil" => k_dflt (k_extra "while")
  k_with "exec While Compare" => k_dflt (k_extra "while")
  k_with "MPost" => dsimp only [MPost]
  k_with "MEnd" => k_dflt (k_extra "turn")
  k_with "m_fit" => (first | omega | (k_extra "fit"; omega))
  k_with "call builtin:list.append" => (k_here; (with_reducible show wpAny _ _ (call (Value.builtin _) [Value.ref _, Value.int _ _]) _ _ _); k_dflt (refine m_append (by k_asm) (by k_asm) (by k_upd) (by l_ints) (by k_extra "m_fit") ?_; k_whole); intro h' F' N'; (try k_sweep))
  k_with "m_fl_end" => refine fl_end (by assumption) (by assumption) (List.Mem.head _) (by k_extra "m_sub") (by k_extra "m_sub") (by first | assumption | exact List.forall_mem_nil _) (by first | assumption | exact fun _ _ => List.forall_mem_nil _) (by l_ints) (by exact rfl) (by k_extra "m_keep") ?_
  k_with "m_small" => exact small_one (by omega) (by omega) (by omega) (by omega)
  k_with "m_room" => ((try simp only [depth_under_make, depth_under_kw, depth_in1, depth_deeper, depth_caller, units_in1, units_deeper, Around.mark_units, units_caller]); dsimp only [ktrTop]; omega)
  k_with "m_units" => ((try simp only [depth_under_make, depth_under_kw, depth_in1, depth_deeper, depth_caller, units_in1, units_deeper, Around.mark_units, units_caller]); dsimp only [ktrTop]; omega)
  k_with "binaryOp Add ref ref" => (k_here; (with_reducible show wpAny _ _ (binaryOp _ (Value.ref _) (Value.ref _)) _ _ _); k_dflt (refine kmk_add_ints (by k_asm) (by k_asm) (by is_list) (by is_list) (by l_ints) (by l_ints) ?_ (by (rw [sizeLine_eq]; (try simp only [List.length_append, List.length_cons, List.length_nil]); omega))); intro D' ws' h' F' N' l1 hI'; (try k_lt l1); (try k_sweep))
  k_with "call ref" => (k_here; k_dflt (k_extra "call"))
  k_with "subscriptTail Name Slice ref ref" => (k_here; (with_reducible show wpAny _ _ (subscriptTail _ (PySem.Expr.Slice _ _ none _) (Value.ref _) (Value.ref _)) _ _ _); k_dflt (refine kmk_slice_ints (by k_asm) (by k_asm) (by is_list) (by kmk_part) (by kmk_part) (by l_ints) (by first | exact kmk_all (by l_ints) | exact kmk_from (by l_ints) (by omega) | exact kmk_upto (by l_ints) (by omega) | exact kmk_run (by l_ints) (by omega) (by omega)) (by kmk_len) ?_ (by with_unfolding_all rfl) (by kmk_pure) (by (refine kmk_sz (by l_ints) ?_; rw [sizeLine_eq]; omega))); intro D' ws' h' F' N' l1 hI' hC' hL'; (try k_lt l1); (try k_sweep))
  k_with "compareOp Eq ref ref" => (k_here; (with_reducible show wpAny _ _ (compareOp CmpOp.Eq (Value.ref _) (Value.ref _)) _ _ _); k_dflt (refine ke_eq_ints (by is_list) (by is_list) (by l_ints) (by l_ints) (by (dsimp only [ktrTop, Around.deeper]; omega)) ?_; k_whole))
  k_with "m_neq" => (first | exact List.forall_mem_nil _ | (refine List.forall_mem_cons.mpr ⟨(by show @Ne Nat _ _; dsimp only; omega), ?_⟩; k_extra "m_neq"))
  k_with "m_deep" => ((try simp only [depth_under_make, depth_under_kw, depth_in1, depth_deeper, depth_caller, units_in1, units_deeper, Around.mark_units, units_caller]); decide)
  k_with "callWith ref" => (k_here; (first | (with_reducible show wpAny _ _ (callWith _ (Value.ref 240) _ _ _) _ _ _) | (with_reducible show wpAny _ _ (callWith _ (Value.ref 130) _ _ _) _ _ _) | (with_reducible show wpAny _ _ (callWith _ (Value.ref 137) _ _ _) _ _ _) | (with_reducible show wpAny _ _ (callWith _ (Value.ref 151) _ _ _) _ _ _) | (with_reducible show wpAny _ _ (callWith _ (Value.ref 193) _ _ _) _ _ _) | (with_reducible show wpAny _ _ (callWith _ (Value.ref 207) _ _ _) _ _ _) | (with_reducible show wpAny _ _ (callWith _ (Value.ref 200) _ _ _) _ _ _) | (with_reducible show wpAny _ _ (callWith _ (Value.ref 221) _ _ _) _ _ _) | (with_reducible show wpAny _ _ (callWith _ (Value.ref 214) _ _ _) _ _ _) | (with_reducible show wpAny _ _ (callWith _ (Value.ref 233) _ _ _) _ _ _) | (with_reducible show wpAny _ _ (callWith _ (Value.ref 123) _ _ _) _ _ _) | (with_reducible show wpAny _ _ (callWith _ (Value.ref 186) _ _ _) _ _ _) | (with_reducible show wpAny _ _ (callWith _ (Value.ref 53) _ _ _) _ _ _) | (with_reducible show wpAny _ _ (callWith _ (Value.ref 46) _ _ _) _ _ _)); k_dflt (first | (refine callWith_K (by k_asm) (by k_is) ?_; k_whole) | (refine callWith_K0 (by k_in) (by k_is) ?_; k_whole)))
  k_with "eval ListComp" => (k_here; k_dflt (k_extra "comp2"))
  k_with "CompSrc" => (k_here; k_dflt (k_extra "csrc"))
  k_with "compareOp Eq ref ref" => (k_here; k_dflt (k_extra "eqr"))
  k_with "m_bnd" => (first | exact List.forall_mem_nil _ | (refine List.forall_mem_cons.mpr ⟨⟨(by omega), (by omega)⟩, ?_⟩; k_extra "m_bnd") | (refine List.forall_mem_append.mpr ⟨(by k_extra "m_bnd"), ?_⟩; k_extra "m_bnd"))
  k_with "m_can" => (first | with_reducible assumption | exact can_eq (by with_reducible assumption) (mod1 (by assumption) (by assumption)) | exact can_eq (by with_reducible assumption) (mod2 (by assumption) (by assumption)) | exact can_eq (by with_reducible assumption) (mod3 (by assumption) (by assumption) (by assumption)))
  k_with "m_refs" => (first | exact RefsAre.nil | (refine RefsAre.cons (by k_mem) (by with_reducible assumption) (by k_extra "m_can") ?_; k_extra "m_refs"))
  k_with "binaryOp Mod int int" => (k_here; k_dflt (k_extra "mod"))
  k_with "binaryOp Pow int int" => (k_here; k_dflt (k_extra "pow"))
  k_with "m_memL" => (first | with_reducible exact List.mem_cons_self | with_reducible assumption | ((with_reducible refine List.mem_cons_of_mem _ ?_); k_extra "m_memL") | ((with_reducible refine List.mem_append_right _ ?_); k_extra "m_memL"))
  k_with "eval Lambda" => (k_here; (first | k_dflt (k_extra "lam") | (k_dflt (refine kla_eval (by exact rfl) ?_); k_dflt (refine kla_nest (by k_asm) (by k_asm) (by k_asm) (by kn_code) rfl (by k_updF) (by exact Tab.ok (by assumption)) (by exact Tab.no (by assumption) (by decide)) (by exact rfl) ?_; k_whole); intro f' c' oc' vs' t' ct' h' tk' F' N' d1' d2' l1 l2; (try dsimp only at N'); clear l1; clear l2)))
  k_with "call builtin:list.append" => (k_here; (with_reducible show wpAny _ _ (call (Value.builtin _) [Value.ref _, _]) _ _ _); k_dflt (k_extra "append"))
  k_with "leaving ref" => (k_here; k_dflt (k_extra "leave"))
  k_with "LeaveS0" => (k_here; k_dflt (k_extra "leaves0"))
  k_with "call ref" => (k_here; (with_reducible show wpAny _ _ (PySem.call (Value.ref 240) _) _ _ _); k_dflt (k_extra "c240"))
  k_with "binaryOp Mult ref int" => (k_here; k_dflt (k_extra "mult"))
  k_with "call" => (first
    | (((with_reducible show wpAny _ _ (PySem.call (Value.ref 214) [_, Value.int 8 _]) _ _ _); (rename News _ _ _ _ => N1); refine law_got_spec (by assumption) (by assumption) (by assumption) (by assumption) (by exact rfl) (by k_extra "m_deep") (by k_extra "m_deep") (by first | exact N1 | exact newsTl N1 | exact newsTl (newsTl N1)) (by k_extra "m_neq") (by k_extra "m_mem") (by assumption) (by simp only [List.length_map]; omega) (by omega) (by omega) (by decide) (by decide) ?_; intro xn9 t9 t8 n9 h9 tk9 hxn9 hxn8 F9 N9; (try dsimp only)))
    | (((with_reducible show wpAny _ _ (PySem.call (Value.ref 214) _) _ _ _); (fail_if_success (have h0 := xw9)); (rename News _ _ _ _ => N1); refine law_got_spec (by assumption) (by assumption) (by assumption) (by assumption) (by exact rfl) (by k_extra "m_deep") (by k_extra "m_deep") (by first | exact N1 | exact newsTl N1 | exact newsTl (newsTl N1)) (by k_extra "m_neq") (by k_extra "m_mem") (by assumption) (by simp only [List.length_map]; omega) (by omega) (by omega) (by decide) (by decide) ?_; intro xw9 t9 t8 n9 h9 tk9 hxw9 hxw8 F9 N9; (try dsimp only)))
    | (((with_reducible show wpAny _ _ (PySem.call (Value.ref 214) _) _ _ _); (rename News _ _ _ _ => N1); refine law_got_spec (by assumption) (by assumption) (by assumption) (by assumption) (by exact rfl) (by k_extra "m_deep") (by k_extra "m_deep") (by first | exact N1 | exact newsTl N1 | exact newsTl (newsTl N1)) (by k_extra "m_neq") (by k_extra "m_mem") (by assumption) (by simp only [List.length_map]; omega) (by omega) (by omega) (by decide) (by decide) ?_; intro x9 t9 t8 n9 h9 tk9 hx9 hx8 F9 N9; (try dsimp only)))
    | (((with_reducible show wpAny _ _ (PySem.call (Value.ref 233) _) _ _ _); (rename News _ _ _ _ => N1); refine law_number_spec (by assumption) (by assumption) (by assumption) (by assumption) (by exact rfl) (by k_extra "m_deep") (by k_extra "m_deep") (by first | exact N1 | exact newsTl N1 | exact newsTl (newsTl N1)) (by k_extra "m_neq") (by k_extra "m_mem") (by assumption) (by simp only [List.length_map]; omega) (by omega) (by omega) (by omega) (by omega) ?_; intro x9 t9 c9 t8 n9 h9 tk9 hx9 hx8 hc9 hc8 F9 N9; (try dsimp only)))
    | (((with_reducible show wpAny _ _ (PySem.call (Value.ref 221) _) _ _ _); refine law_limbs_spec (by assumption) (by assumption) (by assumption) (by assumption) (by assumption) (by exact rfl) (by k_extra "m_deep") (by k_extra "m_deep") (by omega) (by omega) (by omega) (by omega) ?_; intro r9 us9 n9 res9 h9 tk9 F9 N9 hi9 hc9 hlt9; (try k_lt hlt9); (try dsimp only))))
  k_with "lam" => (refine hold ?_)
  k_steps
  refine ⟨?_⟩
  (with_reducible rename News _ _ _ _ => N1); (obtain ⟨rest, ps9, hTab, N2, h242, hm1, hm2, hm3, hm4, hm5, hm6, hm7⟩ := law_open N1 (by k_extra "m_neq")); clear N1; (repeat ((with_reducible rename _ ∧ _ => z9); clear z9))
  refine (Int.lt_or_le xn9 3).elim (fun hn9 => ?_) (fun hn9 => ?_)
  · k_with_none
    k_with "m_mem" => (first | assumption | exact List.Mem.head _ | (refine List.Mem.tail _ ?_; k_extra "m_mem") | (refine List.mem_append.mpr (Or.inl ?_); k_extra "m_mem") | (refine List.mem_append.mpr (Or.inr ?_); k_extra "m_mem"))
    k_with "m_sub" => (first | exact fun _ h9 => h9 | exact List.forall_mem_nil _ | exact List.forall_mem_cons.mpr ⟨by k_extra "m_mem", by k_extra "m_sub"⟩ | exact List.forall_mem_append.mpr ⟨by k_extra "m_sub", by k_extra "m_sub"⟩ | (intro q9 h9; k_extra "m_mem"))
    k_with "m_lt" => (first | assumption | exact allLtOf (by assumption) | exact ltSub (by assumption) (by k_extra "m_sub") | (rename _ ∧ AllLt _ _ => l9; exact allLtOf l9.2) | (rename _ ∧ _ ∧ AllLt _ _ => l9; exact allLtOf l9.2.2) | (rename _ ∧ _ ∧ _ ∧ AllLt _ _ => l9; exact allLtOf l9.2.2.2) | (rename _ ∧ _ ∧ _ ∧ _ ∧ AllLt _ _ => l9; exact allLtOf l9.2.2.2.2))
    k_with "m_ne" => exact neOfLt (by k_extra "m_lt")
    k_with "m_keep" => (first | exact List.forall_mem_nil _ | (refine List.forall_mem_cons.mpr ⟨(by exact rfl), ?_⟩; k_extra "m_keep"))
    k_with "pyIter ref" => k_dflt (k_extra "loop")
    k_with "exec For Name Call cons nil" => (k_here; (rename Fr _ _ _ _ => lF'); (with_unfolding_all refine' For_invVF lF' (by exact rfl) (by exact rfl) ?_; k_whole))
    k_with "exec For Name Name cons nil" => (k_here; (rename Fr _ _ _ _ => lF'); (with_unfolding_all refine' For_invVF lF' (by exact rfl) (by exact rfl) ?_; k_whole))
    k_with "exec While" => k_dflt (k_extra "while")
    k_with "exec While Compare cons nil" => k_dflt (k_extra "while")
    k_with "exec While Compare" => k_dflt (k_extra "while")
    k_with "MPost" => dsimp only [MPost]
    k_with "MEnd" => k_dflt (k_extra "turn")
    k_with "m_fit" => (first | omega | (k_extra "fit"; omega))
    k_with "call builtin:list.append" => (k_here; (with_reducible show wpAny _ _ (call (Value.builtin _) [Value.ref _, Value.int _ _]) _ _ _); k_dflt (refine m_append (by k_asm) (by k_asm) (by k_upd) (by l_ints) (by k_extra "m_fit") ?_; k_whole); intro h' F' N'; (try k_sweep))
    k_with "m_fl_end" => refine fl_end (by assumption) (by assumption) (List.Mem.head _) (by k_extra "m_sub") (by k_extra "m_sub") (by first | assumption | exact List.forall_mem_nil _) (by first | assumption | exact fun _ _ => List.forall_mem_nil _) (by l_ints) (by exact rfl) (by k_extra "m_keep") ?_
    k_with "m_small" => exact small_one (by omega) (by omega) (by omega) (by omega)
    k_with "m_room" => ((try simp only [depth_under_make, depth_under_kw, depth_in1, depth_deeper, depth_caller, units_in1, units_deeper, Around.mark_units, units_caller]); dsimp only [ktrTop]; omega)
    k_with "m_units" => ((try simp only [depth_under_make, depth_under_kw, depth_in1, depth_deeper, depth_caller, units_in1, units_deeper, Around.mark_units, units_caller]); dsimp only [ktrTop]; omega)
    k_with "binaryOp Add ref ref" => (k_here; (with_reducible show wpAny _ _ (binaryOp _ (Value.ref _) (Value.ref _)) _ _ _); k_dflt (refine kmk_add_ints (by k_asm) (by k_asm) (by is_list) (by is_list) (by l_ints) (by l_ints) ?_ (by (rw [sizeLine_eq]; (try simp only [List.length_append, List.length_cons, List.length_nil]); omega))); intro D' ws' h' F' N' l1 hI'; (try k_lt l1); (try k_sweep))
    k_with "call ref" => (k_here; k_dflt (k_extra "call"))
    k_with "subscriptTail Name Slice ref ref" => (k_here; (with_reducible show wpAny _ _ (subscriptTail _ (PySem.Expr.Slice _ _ none _) (Value.ref _) (Value.ref _)) _ _ _); k_dflt (refine kmk_slice_ints (by k_asm) (by k_asm) (by is_list) (by kmk_part) (by kmk_part) (by l_ints) (by first | exact kmk_all (by l_ints) | exact kmk_from (by l_ints) (by omega) | exact kmk_upto (by l_ints) (by omega) | exact kmk_run (by l_ints) (by omega) (by omega)) (by kmk_len) ?_ (by with_unfolding_all rfl) (by kmk_pure) (by (refine kmk_sz (by l_ints) ?_; rw [sizeLine_eq]; omega))); intro D' ws' h' F' N' l1 hI' hC' hL'; (try k_lt l1); (try k_sweep))
    k_with "compareOp Eq ref ref" => (k_here; (with_reducible show wpAny _ _ (compareOp CmpOp.Eq (Value.ref _) (Value.ref _)) _ _ _); k_dflt (refine ke_eq_ints (by is_list) (by is_list) (by l_ints) (by l_ints) (by (dsimp only [ktrTop, Around.deeper]; omega)) ?_; k_whole))
    k_with "m_neq" => (first | exact List.forall_mem_nil _ | (refine List.forall_mem_cons.mpr ⟨(by show @Ne Nat _ _; dsimp only; omega), ?_⟩; k_extra "m_neq"))
    k_with "m_deep" => ((try simp only [depth_under_make, depth_under_kw, depth_in1, depth_deeper, depth_caller, units_in1, units_deeper, Around.mark_units, units_caller]); decide)
    k_with "callWith ref" => (k_here; (first | (with_reducible show wpAny _ _ (callWith _ (Value.ref 240) _ _ _) _ _ _) | (with_reducible show wpAny _ _ (callWith _ (Value.ref 130) _ _ _) _ _ _) | (with_reducible show wpAny _ _ (callWith _ (Value.ref 137) _ _ _) _ _ _) | (with_reducible show wpAny _ _ (callWith _ (Value.ref 151) _ _ _) _ _ _) | (with_reducible show wpAny _ _ (callWith _ (Value.ref 193) _ _ _) _ _ _) | (with_reducible show wpAny _ _ (callWith _ (Value.ref 207) _ _ _) _ _ _) | (with_reducible show wpAny _ _ (callWith _ (Value.ref 200) _ _ _) _ _ _) | (with_reducible show wpAny _ _ (callWith _ (Value.ref 221) _ _ _) _ _ _) | (with_reducible show wpAny _ _ (callWith _ (Value.ref 214) _ _ _) _ _ _) | (with_reducible show wpAny _ _ (callWith _ (Value.ref 233) _ _ _) _ _ _) | (with_reducible show wpAny _ _ (callWith _ (Value.ref 123) _ _ _) _ _ _) | (with_reducible show wpAny _ _ (callWith _ (Value.ref 186) _ _ _) _ _ _) | (with_reducible show wpAny _ _ (callWith _ (Value.ref 53) _ _ _) _ _ _) | (with_reducible show wpAny _ _ (callWith _ (Value.ref 46) _ _ _) _ _ _)); k_dflt (first | (refine callWith_K (by k_asm) (by k_is) ?_; k_whole) | (refine callWith_K0 (by k_in) (by k_is) ?_; k_whole)))
    k_with "eval ListComp" => (k_here; k_dflt (k_extra "comp2"))
    k_with "CompSrc" => (k_here; k_dflt (k_extra "csrc"))
    k_with "compareOp Eq ref ref" => (k_here; k_dflt (k_extra "eqr"))
    k_with "m_bnd" => (first | exact List.forall_mem_nil _ | (refine List.forall_mem_cons.mpr ⟨⟨(by omega), (by omega)⟩, ?_⟩; k_extra "m_bnd") | (refine List.forall_mem_append.mpr ⟨(by k_extra "m_bnd"), ?_⟩; k_extra "m_bnd"))
    k_with "m_can" => (first | with_reducible assumption | exact can_eq (by with_reducible assumption) (mod1 (by assumption) (by assumption)) | exact can_eq (by with_reducible assumption) (mod2 (by assumption) (by assumption)) | exact can_eq (by with_reducible assumption) (mod3 (by assumption) (by assumption) (by assumption)))
    k_with "m_refs" => (first | exact RefsAre.nil | (refine RefsAre.cons (by k_mem) (by with_reducible assumption) (by k_extra "m_can") ?_; k_extra "m_refs"))
    k_with "binaryOp Mod int int" => (k_here; k_dflt (k_extra "mod"))
    k_with "binaryOp Pow int int" => (k_here; k_dflt (k_extra "pow"))
    k_with "m_memL" => (first | with_reducible exact List.mem_cons_self | with_reducible assumption | ((with_reducible refine List.mem_cons_of_mem _ ?_); k_extra "m_memL") | ((with_reducible refine List.mem_append_right _ ?_); k_extra "m_memL"))
    k_with "eval Lambda" => (k_here; (first | k_dflt (k_extra "lam") | (k_dflt (refine kla_eval (by exact rfl) ?_); k_dflt (refine kla_nest (by k_asm) (by k_asm) (by k_asm) (by kn_code) rfl (by k_updF) (by exact Tab.ok (by assumption)) (by exact Tab.no (by assumption) (by decide)) (by exact rfl) ?_; k_whole); intro f' c' oc' vs' t' ct' h' tk' F' N' d1' d2' l1 l2; (try dsimp only at N'); clear l1; clear l2)))
    k_with "call builtin:list.append" => (k_here; (with_reducible show wpAny _ _ (call (Value.builtin _) [Value.ref _, _]) _ _ _); k_dflt (k_extra "append"))
    k_with "leaving ref" => (k_here; k_dflt (k_extra "leave"))
    k_with "LeaveS0" => (k_here; k_dflt (k_extra "leaves0"))
    k_with "call ref" => (k_here; (with_reducible show wpAny _ _ (PySem.call (Value.ref 240) _) _ _ _); k_dflt (k_extra "c240"))
    k_with "binaryOp Mult ref int" => (k_here; k_dflt (k_extra "mult"))
    k_with "call" => (first
      | (((with_reducible show wpAny _ _ (PySem.call (Value.ref 130) _) _ _ _); refine fold_minus_low (by assumption) (by assumption) (by assumption) (by assumption) (by assumption) (by exact rfl) (by k_extra "m_deep") (by k_extra "m_deep") (by omega) ?_; intro G9 e9 t9 v9 h9 k9 F9 S9 U9; (try dsimp only)))
      | (((with_reducible show wpAny _ _ (PySem.call (Value.ref 137) _) _ _ _); refine fold_plus_low (by assumption) (by assumption) (by assumption) (by assumption) (by assumption) (by exact rfl) (by k_extra "m_deep") (by k_extra "m_deep") (by omega) ?_; intro G9 e9 t9 v9 h9 k9 F9 S9 U9; (try dsimp only)))
      | (((with_reducible show wpAny _ _ (PySem.call (Value.ref 151) _) _ _ _); refine wrapped_product_low (by assumption) (by assumption) (by assumption) (by assumption) (by assumption) (by exact rfl) (by k_extra "m_deep") (by k_extra "m_deep") (by omega) ?_; intro G9 e9 t9 v9 h9 k9 F9 S9 U9; (try dsimp only)))
      | (((with_reducible show wpAny _ _ (PySem.call (Value.ref 193) _) _ _ _); refine ring_fold_low (by assumption) (by assumption) (by assumption) (by assumption) (by assumption) (by exact rfl) (by k_extra "m_deep") (by k_extra "m_deep") (by omega) ?_; intro G9 e9 t9 v9 h9 k9 F9 S9 U9; (try dsimp only)))
      | (((with_reducible show wpAny _ _ (PySem.call (Value.ref 207) _) _ _ _); refine element_of_low (by assumption) (by assumption) (by assumption) (by assumption) (by assumption) (by exact rfl) (by k_extra "m_deep") (by k_extra "m_deep") (by omega) (by omega) (by omega) (by omega) (by omega) ?_; intro G9 e9 t9 v9 h9 k9 F9 S9 U9; (try dsimp only)))
      | (((with_reducible show wpAny _ _ (PySem.call (Value.ref 200) _) _ _ _); refine ring_shift_low (by assumption) (by assumption) (by assumption) (by assumption) (by assumption) (by exact rfl) (by k_extra "m_deep") (by k_extra "m_deep") (by omega) ?_; intro G9 e9 t9 v9 h9 k9 F9 S9 U9; (try dsimp only))))
    k_with "c240" => (refine wpAny_call ?_; refine Mine.call_catch (by k_asm) (by k_asm) (by k_asm) (by k_asm) (by k_asm) rfl (by k_is) (by k_is) (by k_room) (by exact BindsTo.of_eq rfl) (by exact locs rfl) ?_ (by exact rfl) (by exact rfl) (by exact rfl) (by exact rfl) (by decide); intro g1 L1 h1 FG1 F1 N1 B1 X1 T1 D1; (try dsimp only); (try k_lift B1); (try k_fold))
    k_with "append" => ((with_reducible rename Fr _ _ _ _ => F1); (with_reducible rename News _ _ _ _ => N1); refine append_any F1 N1 (Upd.head (List.forall_mem_cons.mpr ⟨hf2, hfnd⟩)) (by exact Nat.le_of_ble_eq_true rfl) ?_; intro h' F' N'; (try k_sweep); (try dsimp only))
    k_with "lam" => ((fail_if_success (have h0 := hfnd)); (with_reducible rename News _ _ _ _ => N1); (with_reducible rename _ ∧ _ => l9); (obtain ⟨hfnd, hf2⟩ := found_of N1 l9))
    k_with "leave" => ((with_reducible rename KtsDicts _ _ => kdX); refine leave_onXS (by assumption) (by assumption) (by assumption) (by assumption) ?_; intro h1 S1 R1 U1; (try dsimp only at S1 R1 U1 ⊢))
    k_with "leaves0" => (refine leaveS0_ (by k_asm) (by k_asm) (by first | assumption | exact KtsTurn.refl) ?_; intro kF kN; ground_anew kF; (have kX := kFor kF (by k_asm)); k_dflt (k_extra "tidy"); kts_tail)
    k_with "tidy" => ((with_reducible rename News _ _ _ _ => N9); (first | (have hx9 := tidyB0 (by decide) hTab N9) | (have hx9 := tidyA0 (by decide) hTab N9) | (have hx9 := tidyB0 (by decide) hTab (newsTl N9)) | (have hx9 := tidyB0 (by decide) hTab (newsTl (newsTl N9)))); clear hTab; clear N9; obtain ⟨ps9, hTab, N9⟩ := hx9; (repeat ((with_reducible rename RaisedS _ _ _ _ _ _ _ _ _ => z9); clear z9)); (repeat ((with_reducible rename RaisedK _ _ _ _ _ _ _ _ => z9); clear z9)); (repeat ((with_reducible rename KtsDicts _ _ => z9); clear z9)); (repeat ((with_reducible rename KtsTurn _ _ _ => z9); clear z9)); (repeat ((with_reducible rename Got _ _ _ _ _ => z9); clear z9)); (repeat ((with_reducible rename Below _ _ (_ :: _) _ => z9); clear z9)); (repeat ((with_reducible rename Heap.UpToSlots _ _ => z9); clear z9)); (repeat ((with_reducible rename Heap.MadeExcOf _ _ _ _ _ => z9); clear z9)); (with_reducible rename Fr _ _ _ _ => F9); (with_reducible rename Frag.In _ _ => X9); (with_reducible rename Top _ _ _ _ _ _ => T9); revert F9 X9 T9 N9; (repeat ((with_reducible rename Fr _ _ _ _ => z9); clear z9)); (repeat ((with_reducible rename News _ _ _ _ => z9); clear z9)); (repeat ((with_reducible rename Frag.In _ _ => z9); clear z9)); (repeat ((with_reducible rename Top _ _ _ _ _ _ => z9); clear z9)); (repeat ((with_reducible rename Heap.IsList _ _ _ => z9); clear z9)); intro F9 X9 T9 N9; (try dsimp only))
    k_with "mult" => ((with_reducible rename News _ _ _ _ => N9); refine six_nones (by assumption) N9 (by exact List.mem_cons_self) ?_; intro D9 h9 F9 N9; (try dsimp only))
    k_with "eqr" => ((with_reducible rename News _ _ _ _ => N9); refine eq_nones N9 (by k_mem) (by k_mem) rfl rfl (by k_extra "m_deep") ?_; (try dsimp only); exact law_end F9 N9 (by k_mem) (by assumption) (by exact rfl))
    k_steps
  · k_with_none
    k_with "m_mem" => (first | assumption | exact List.Mem.head _ | (refine List.Mem.tail _ ?_; k_extra "m_mem") | (refine List.mem_append.mpr (Or.inl ?_); k_extra "m_mem") | (refine List.mem_append.mpr (Or.inr ?_); k_extra "m_mem"))
    k_with "m_sub" => (first | exact fun _ h9 => h9 | exact List.forall_mem_nil _ | exact List.forall_mem_cons.mpr ⟨by k_extra "m_mem", by k_extra "m_sub"⟩ | exact List.forall_mem_append.mpr ⟨by k_extra "m_sub", by k_extra "m_sub"⟩ | (intro q9 h9; k_extra "m_mem"))
    k_with "m_lt" => (first | assumption | exact allLtOf (by assumption) | exact ltSub (by assumption) (by k_extra "m_sub") | (rename _ ∧ AllLt _ _ => l9; exact allLtOf l9.2) | (rename _ ∧ _ ∧ AllLt _ _ => l9; exact allLtOf l9.2.2) | (rename _ ∧ _ ∧ _ ∧ AllLt _ _ => l9; exact allLtOf l9.2.2.2) | (rename _ ∧ _ ∧ _ ∧ _ ∧ AllLt _ _ => l9; exact allLtOf l9.2.2.2.2))
    k_with "m_ne" => exact neOfLt (by k_extra "m_lt")
    k_with "m_keep" => (first | exact List.forall_mem_nil _ | (refine List.forall_mem_cons.mpr ⟨(by exact rfl), ?_⟩; k_extra "m_keep"))
    k_with "pyIter ref" => k_dflt (k_extra "loop")
    k_with "exec For Name Call cons nil" => (k_here; (rename Fr _ _ _ _ => lF'); (with_unfolding_all refine' For_invVF lF' (by exact rfl) (by exact rfl) ?_; k_whole))
    k_with "exec For Name Name cons nil" => (k_here; (rename Fr _ _ _ _ => lF'); (with_unfolding_all refine' For_invVF lF' (by exact rfl) (by exact rfl) ?_; k_whole))
    k_with "exec While" => k_dflt (k_extra "while")
    k_with "exec While Compare cons nil" => k_dflt (k_extra "while")
    k_with "exec While Compare" => k_dflt (k_extra "while")
    k_with "MPost" => dsimp only [MPost]
    k_with "MEnd" => k_dflt (k_extra "turn")
    k_with "m_fit" => (first | omega | (k_extra "fit"; omega))
    k_with "call builtin:list.append" => (k_here; (with_reducible show wpAny _ _ (call (Value.builtin _) [Value.ref _, Value.int _ _]) _ _ _); k_dflt (refine m_append (by k_asm) (by k_asm) (by k_upd) (by l_ints) (by k_extra "m_fit") ?_; k_whole); intro h' F' N'; (try k_sweep))
    k_with "m_fl_end" => refine fl_end (by assumption) (by assumption) (List.Mem.head _) (by k_extra "m_sub") (by k_extra "m_sub") (by first | assumption | exact List.forall_mem_nil _) (by first | assumption | exact fun _ _ => List.forall_mem_nil _) (by l_ints) (by exact rfl) (by k_extra "m_keep") ?_
    k_with "m_small" => exact small_one (by omega) (by omega) (by omega) (by omega)
    k_with "m_room" => ((try simp only [depth_under_make, depth_under_kw, depth_in1, depth_deeper, depth_caller, units_in1, units_deeper, Around.mark_units, units_caller]); dsimp only [ktrTop]; omega)
    k_with "m_units" => ((try simp only [depth_under_make, depth_under_kw, depth_in1, depth_deeper, depth_caller, units_in1, units_deeper, Around.mark_units, units_caller]); dsimp only [ktrTop]; omega)
    k_with "binaryOp Add ref ref" => (k_here; (with_reducible show wpAny _ _ (binaryOp _ (Value.ref _) (Value.ref _)) _ _ _); k_dflt (refine kmk_add_ints (by k_asm) (by k_asm) (by is_list) (by is_list) (by l_ints) (by l_ints) ?_ (by (rw [sizeLine_eq]; (try simp only [List.length_append, List.length_cons, List.length_nil]); omega))); intro D' ws' h' F' N' l1 hI'; (try k_lt l1); (try k_sweep))
    k_with "call ref" => (k_here; k_dflt (k_extra "call"))
    k_with "subscriptTail Name Slice ref ref" => (k_here; (with_reducible show wpAny _ _ (subscriptTail _ (PySem.Expr.Slice _ _ none _) (Value.ref _) (Value.ref _)) _ _ _); k_dflt (refine kmk_slice_ints (by k_asm) (by k_asm) (by is_list) (by kmk_part) (by kmk_part) (by l_ints) (by first | exact kmk_all (by l_ints) | exact kmk_from (by l_ints) (by omega) | exact kmk_upto (by l_ints) (by omega) | exact kmk_run (by l_ints) (by omega) (by omega)) (by kmk_len) ?_ (by with_unfolding_all rfl) (by kmk_pure) (by (refine kmk_sz (by l_ints) ?_; rw [sizeLine_eq]; omega))); intro D' ws' h' F' N' l1 hI' hC' hL'; (try k_lt l1); (try k_sweep))
    k_with "compareOp Eq ref ref" => (k_here; (with_reducible show wpAny _ _ (compareOp CmpOp.Eq (Value.ref _) (Value.ref _)) _ _ _); k_dflt (refine ke_eq_ints (by is_list) (by is_list) (by l_ints) (by l_ints) (by (dsimp only [ktrTop, Around.deeper]; omega)) ?_; k_whole))
    k_with "m_neq" => (first | exact List.forall_mem_nil _ | (refine List.forall_mem_cons.mpr ⟨(by show @Ne Nat _ _; dsimp only; omega), ?_⟩; k_extra "m_neq"))
    k_with "m_deep" => ((try simp only [depth_under_make, depth_under_kw, depth_in1, depth_deeper, depth_caller, units_in1, units_deeper, Around.mark_units, units_caller]); decide)
    k_with "callWith ref" => (k_here; (first | (with_reducible show wpAny _ _ (callWith _ (Value.ref 240) _ _ _) _ _ _) | (with_reducible show wpAny _ _ (callWith _ (Value.ref 130) _ _ _) _ _ _) | (with_reducible show wpAny _ _ (callWith _ (Value.ref 137) _ _ _) _ _ _) | (with_reducible show wpAny _ _ (callWith _ (Value.ref 151) _ _ _) _ _ _) | (with_reducible show wpAny _ _ (callWith _ (Value.ref 193) _ _ _) _ _ _) | (with_reducible show wpAny _ _ (callWith _ (Value.ref 207) _ _ _) _ _ _) | (with_reducible show wpAny _ _ (callWith _ (Value.ref 200) _ _ _) _ _ _) | (with_reducible show wpAny _ _ (callWith _ (Value.ref 221) _ _ _) _ _ _) | (with_reducible show wpAny _ _ (callWith _ (Value.ref 214) _ _ _) _ _ _) | (with_reducible show wpAny _ _ (callWith _ (Value.ref 233) _ _ _) _ _ _) | (with_reducible show wpAny _ _ (callWith _ (Value.ref 123) _ _ _) _ _ _) | (with_reducible show wpAny _ _ (callWith _ (Value.ref 186) _ _ _) _ _ _) | (with_reducible show wpAny _ _ (callWith _ (Value.ref 53) _ _ _) _ _ _) | (with_reducible show wpAny _ _ (callWith _ (Value.ref 46) _ _ _) _ _ _)); k_dflt (first | (refine callWith_K (by k_asm) (by k_is) ?_; k_whole) | (refine callWith_K0 (by k_in) (by k_is) ?_; k_whole)))
    k_with "eval ListComp" => (k_here; k_dflt (k_extra "comp2"))
    k_with "CompSrc" => (k_here; k_dflt (k_extra "csrc"))
    k_with "compareOp Eq ref ref" => (k_here; k_dflt (k_extra "eqr"))
    k_with "m_bnd" => (first | exact List.forall_mem_nil _ | (refine List.forall_mem_cons.mpr ⟨⟨(by omega), (by omega)⟩, ?_⟩; k_extra "m_bnd") | (refine List.forall_mem_append.mpr ⟨(by k_extra "m_bnd"), ?_⟩; k_extra "m_bnd"))
    k_with "m_can" => (first | with_reducible assumption | exact can_eq (by with_reducible assumption) (mod1 (by assumption) (by assumption)) | exact can_eq (by with_reducible assumption) (mod2 (by assumption) (by assumption)) | exact can_eq (by with_reducible assumption) (mod3 (by assumption) (by assumption) (by assumption)))
    k_with "m_refs" => (first | exact RefsAre.nil | (refine RefsAre.cons (by k_mem) (by with_reducible assumption) (by k_extra "m_can") ?_; k_extra "m_refs"))
    k_with "binaryOp Mod int int" => (k_here; k_dflt (k_extra "mod"))
    k_with "binaryOp Pow int int" => (k_here; k_dflt (k_extra "pow"))
    k_with "m_memL" => (first | with_reducible exact List.mem_cons_self | with_reducible assumption | ((with_reducible refine List.mem_cons_of_mem _ ?_); k_extra "m_memL") | ((with_reducible refine List.mem_append_right _ ?_); k_extra "m_memL"))
    k_with "eval Lambda" => (k_here; (first | k_dflt (k_extra "lam") | (k_dflt (refine kla_eval (by exact rfl) ?_); k_dflt (refine kla_nest (by k_asm) (by k_asm) (by k_asm) (by kn_code) rfl (by k_updF) (by exact Tab.ok (by assumption)) (by exact Tab.no (by assumption) (by decide)) (by exact rfl) ?_; k_whole); intro f' c' oc' vs' t' ct' h' tk' F' N' d1' d2' l1 l2; (try dsimp only at N'); clear l1; clear l2)))
    k_with "call builtin:list.append" => (k_here; (with_reducible show wpAny _ _ (call (Value.builtin _) [Value.ref _, _]) _ _ _); k_dflt (k_extra "append"))
    k_with "leaving ref" => (k_here; k_dflt (k_extra "leave"))
    k_with "LeaveS0" => (k_here; k_dflt (k_extra "leaves0"))
    k_with "call ref" => (k_here; (with_reducible show wpAny _ _ (PySem.call (Value.ref 240) _) _ _ _); k_dflt (k_extra "c240"))
    k_with "binaryOp Mult ref int" => (k_here; k_dflt (k_extra "mult"))
    k_with "call" => (first
      | (((with_reducible show wpAny _ _ (PySem.call (Value.ref 221) _) _ _ _); (have h0 := hfnd); clear h0; refine law_limbs_spec (by assumption) (by assumption) (by assumption) (by assumption) (by assumption) (by exact rfl) (by k_extra "m_deep") (by k_extra "m_deep") (by omega) (by omega) (by omega) (by omega) ?_; intro r9 us9 n9 res9 h9 tk9 F9 N9 hi9 hc9 hlt9; (first | exact ⟨r9, us9, n9, res9, h9, tk9, rfl, rfl, F9, N9, hi9, hc9, hlt9⟩ | (clear hlt9; (try dsimp only)))))
      | (((with_reducible show wpAny _ _ (PySem.call (Value.ref 221) _) _ _ _); refine law_limbs_spec (by assumption) (by assumption) (by assumption) (by assumption) (by assumption) (by exact rfl) (by k_extra "m_deep") (by k_extra "m_deep") (by omega) (by omega) (by omega) (by omega) ?_; intro r9 us9 n9 res9 h9 tk9 F9 N9 hi9 hc9 hlt9; (try k_lt hlt9); (try dsimp only)))
      | (((with_reducible show wpAny _ _ (PySem.call (Value.ref 130) _) _ _ _); refine fold_minus_spec (by assumption) (by assumption) (by assumption) (by assumption) (by assumption) (by exact rfl) (by k_extra "m_deep") (by k_extra "m_deep") (by omega) (by omega) (by k_extra "m_mem") (by l_ints) (by assumption) (by omega) (by omega) (by omega) ?_; intro r9 us9 n9 res9 h9 tk9 F9 N9 hi9 hc9 hO9; replace h242 : ∀ p ∈ (r9, listOf us9.toArray n9) :: _, p.1 ≠ 242 := List.forall_mem_cons.mpr ⟨or_ne hO9 (by assumption) h242 (by k_extra "m_mem"), h242⟩; clear hO9; have hx9 := tidyA (by decide) hTab N9; clear hTab; clear N9; obtain ⟨ps9, hTab, N9⟩ := hx9; (try dsimp only)))
      | (((with_reducible show wpAny _ _ (PySem.call (Value.ref 137) _) _ _ _); refine fold_plus_spec (by assumption) (by assumption) (by assumption) (by assumption) (by assumption) (by exact rfl) (by k_extra "m_deep") (by k_extra "m_deep") (by omega) (by omega) (by k_extra "m_mem") (by l_ints) (by assumption) (by omega) (by omega) (by omega) (by exact pow35 (by omega) (by omega) (by omega)) ?_; intro r9 us9 n9 res9 h9 tk9 F9 N9 hi9 hc9 hlt9; replace h242 : ∀ p ∈ (r9, listOf us9.toArray n9) :: _, p.1 ≠ 242 := List.forall_mem_cons.mpr ⟨Nat.ne_of_gt (hlt9 (242, _) (by k_extra "m_mem")), h242⟩; (first | (have hx9 := tidyC (by decide) hTab N9; clear hTab; clear N9; obtain ⟨ps9, hTab, N9⟩ := hx9; have hfr := hlt9 _ (.tail _ (.tail _ (.tail _ (.head _)))); replace hfnd : ∀ p ∈ (r9, listOf us9.toArray n9) :: _, p.1 ≠ _ := List.forall_mem_cons.mpr ⟨Nat.ne_of_gt hfr, hfnd⟩; clear hfr) | (have hx9 := tidyB (by decide) hTab N9; clear hTab; clear N9; obtain ⟨ps9, hTab, N9⟩ := hx9; have hfr := hlt9 _ (.tail _ (.tail _ (.head _))); replace hfnd : ∀ p ∈ (r9, listOf us9.toArray n9) :: _, p.1 ≠ _ := List.forall_mem_cons.mpr ⟨Nat.ne_of_gt hfr, hfnd⟩; clear hfr) | (have hx9 := tidyA (by decide) hTab N9; clear hTab; clear N9; obtain ⟨ps9, hTab, N9⟩ := hx9)); clear hlt9; (try dsimp only)))
      | (((with_reducible show wpAny _ _ (PySem.call (Value.ref 151) _) _ _ _); refine wp_all 6 (by assumption) (by assumption) (by assumption) (by assumption) (by assumption) (by exact rfl) (by k_extra "m_deep") (by k_extra "m_deep") (by omega) (by omega) (by k_extra "m_mem") (by l_ints) (by assumption) (by omega) (by k_extra "m_mem") (by l_ints) (by assumption) (by omega) (by omega) (by omega) (by omega) (by exact pow35b (by omega) (by omega) (by omega)) (by decide) ?_; intro r9 us9 n9 res9 h9 tk9 F9 N9 hi9 hc9 hlt9; replace h242 : ∀ p ∈ (r9, listOf us9.toArray n9) :: _, p.1 ≠ 242 := List.forall_mem_cons.mpr ⟨Nat.ne_of_gt (hlt9 (242, _) (by k_extra "m_mem")), h242⟩; (first | (have hx9 := tidyC (by decide) hTab N9; clear hTab; clear N9; obtain ⟨ps9, hTab, N9⟩ := hx9; have hfr := hlt9 _ (.tail _ (.tail _ (.tail _ (.head _)))); replace hfnd : ∀ p ∈ (r9, listOf us9.toArray n9) :: _, p.1 ≠ _ := List.forall_mem_cons.mpr ⟨Nat.ne_of_gt hfr, hfnd⟩; clear hfr) | (have hx9 := tidyB (by decide) hTab N9; clear hTab; clear N9; obtain ⟨ps9, hTab, N9⟩ := hx9; have hfr := hlt9 _ (.tail _ (.tail _ (.head _))); replace hfnd : ∀ p ∈ (r9, listOf us9.toArray n9) :: _, p.1 ≠ _ := List.forall_mem_cons.mpr ⟨Nat.ne_of_gt hfr, hfnd⟩; clear hfr) | (have hx9 := tidyA (by decide) hTab N9; clear hTab; clear N9; obtain ⟨ps9, hTab, N9⟩ := hx9)); clear hlt9; (try dsimp only)))
      | (((with_reducible show wpAny _ _ (PySem.call (Value.ref 193) _) _ _ _); refine ring_fold_spec (by assumption) (by assumption) (by assumption) (by assumption) (by assumption) (by exact rfl) (by k_extra "m_deep") (by k_extra "m_deep") (by omega) (by omega) (by k_extra "m_mem") (by l_ints) (by assumption) (by omega) (by omega) (by omega) ?_; intro r9 us9 n9 res9 h9 tk9 F9 N9 hi9 hc9 hlt9; replace h242 : ∀ p ∈ (r9, listOf us9.toArray n9) :: _, p.1 ≠ 242 := List.forall_mem_cons.mpr ⟨Nat.ne_of_gt (hlt9 (242, _) (by k_extra "m_mem")), h242⟩; (first | (have hx9 := tidyC (by decide) hTab N9; clear hTab; clear N9; obtain ⟨ps9, hTab, N9⟩ := hx9; have hfr := hlt9 _ (.tail _ (.tail _ (.tail _ (.head _)))); replace hfnd : ∀ p ∈ (r9, listOf us9.toArray n9) :: _, p.1 ≠ _ := List.forall_mem_cons.mpr ⟨Nat.ne_of_gt hfr, hfnd⟩; clear hfr) | (have hx9 := tidyB (by decide) hTab N9; clear hTab; clear N9; obtain ⟨ps9, hTab, N9⟩ := hx9; have hfr := hlt9 _ (.tail _ (.tail _ (.head _))); replace hfnd : ∀ p ∈ (r9, listOf us9.toArray n9) :: _, p.1 ≠ _ := List.forall_mem_cons.mpr ⟨Nat.ne_of_gt hfr, hfnd⟩; clear hfr) | (have hx9 := tidyA (by decide) hTab N9; clear hTab; clear N9; obtain ⟨ps9, hTab, N9⟩ := hx9)); clear hlt9; (try dsimp only)))
      | (((with_reducible show wpAny _ _ (PySem.call (Value.ref 207) _) _ _ _); refine element_of_spec (by assumption) (by assumption) (by assumption) (by assumption) (by assumption) (by exact rfl) (by k_extra "m_deep") (by k_extra "m_deep") (by omega) (by omega) (by omega) (by omega) (by omega) (by omega) ?_; intro r9 us9 n9 res9 h9 tk9 F9 N9 hi9 hc9 hlt9; replace h242 : ∀ p ∈ (r9, listOf us9.toArray n9) :: _, p.1 ≠ 242 := List.forall_mem_cons.mpr ⟨Nat.ne_of_gt (hlt9 (242, _) (by k_extra "m_mem")), h242⟩; (first | (have hx9 := tidyC (by decide) hTab N9; clear hTab; clear N9; obtain ⟨ps9, hTab, N9⟩ := hx9; have hfr := hlt9 _ (.tail _ (.tail _ (.tail _ (.head _)))); replace hfnd : ∀ p ∈ (r9, listOf us9.toArray n9) :: _, p.1 ≠ _ := List.forall_mem_cons.mpr ⟨Nat.ne_of_gt hfr, hfnd⟩; clear hfr) | (have hx9 := tidyB (by decide) hTab N9; clear hTab; clear N9; obtain ⟨ps9, hTab, N9⟩ := hx9; have hfr := hlt9 _ (.tail _ (.tail _ (.head _))); replace hfnd : ∀ p ∈ (r9, listOf us9.toArray n9) :: _, p.1 ≠ _ := List.forall_mem_cons.mpr ⟨Nat.ne_of_gt hfr, hfnd⟩; clear hfr) | (have hx9 := tidyA (by decide) hTab N9; clear hTab; clear N9; obtain ⟨ps9, hTab, N9⟩ := hx9)); clear hlt9; (try dsimp only)))
      | (((with_reducible show wpAny _ _ (PySem.call (Value.ref 200) _) _ _ _); refine ring_shift_spec (by assumption) (by assumption) (by assumption) (by assumption) (by assumption) (by exact rfl) (by k_extra "m_deep") (by k_extra "m_deep") (by omega) (by omega) (by k_extra "m_mem") (by l_ints) (by exact can_one (by omega)) (by omega) (by omega) (by omega) (by rfl) (by omega) (by omega) ?_; intro r9 us9 n9 res9 h9 tk9 F9 N9 hi9 hc9 hlt9; replace h242 : ∀ p ∈ (r9, listOf us9.toArray n9) :: _, p.1 ≠ 242 := List.forall_mem_cons.mpr ⟨Nat.ne_of_gt (hlt9 (242, _) (by k_extra "m_mem")), h242⟩; (first | (have hx9 := tidyC (by decide) hTab N9; clear hTab; clear N9; obtain ⟨ps9, hTab, N9⟩ := hx9; have hfr := hlt9 _ (.tail _ (.tail _ (.tail _ (.head _)))); replace hfnd : ∀ p ∈ (r9, listOf us9.toArray n9) :: _, p.1 ≠ _ := List.forall_mem_cons.mpr ⟨Nat.ne_of_gt hfr, hfnd⟩; clear hfr) | (have hx9 := tidyB (by decide) hTab N9; clear hTab; clear N9; obtain ⟨ps9, hTab, N9⟩ := hx9; have hfr := hlt9 _ (.tail _ (.tail _ (.head _))); replace hfnd : ∀ p ∈ (r9, listOf us9.toArray n9) :: _, p.1 ≠ _ := List.forall_mem_cons.mpr ⟨Nat.ne_of_gt hfr, hfnd⟩; clear hfr) | (have hx9 := tidyA (by decide) hTab N9; clear hTab; clear N9; obtain ⟨ps9, hTab, N9⟩ := hx9)); clear hlt9; (try dsimp only))))
    k_with "call" => ((with_reducible show wpAny _ _ (PySem.call (Value.ref 240) _) _ _ _); refine wpAny_call ?_; k_enter)
    k_with "comp2" => ((have h0 := hfnd); clear h0; refine LCg.ListComp_U (F₀ := by k_asm) (by with_unfolding_all rfl) (by decide) (by rfl) (by decide) (by rfl) ?_)
    k_with "csrc" => (((with_reducible rename Fr _ _ _ _ => F1); (with_reducible rename News _ _ _ _ => N1); refine lim_src (by assumption) (by exact rfl) F1 N1 (by k_mem) (by l_ints) (by exact Nat.le_of_ble_eq_true rfl) (by k_extra "m_bnd") (fun g v9 t9 own C9 oC m2 h tk E2 hv0 hv1 hC hx F2 N2 => ?_) (fun ys9 D9 nx9 h9 tk9 hR9 F2 N2 => ?_); all_goals (try dsimp only); all_goals (try k_fold)))
    k_with "eqr" => ((with_reducible rename News _ _ _ _ => N1); first
      | ((have h0 := eqd9); clear h0; refine eq_refs (b := 2 ^ (2 + xw9).toNat) (ns := [_, _]) (base_ge (by omega)) N1 (by k_mem) (by k_mem) (by k_extra "m_refs") (by k_extra "m_refs") (by k_extra "m_deep") ?_; (try dsimp only); exact law_end (by assumption) N1 (by k_mem) (by assumption) (by exact rfl))
      | (refine eq_refs (b := 2 ^ (2 + xw9).toNat) (base_ge (by omega)) N1 (by k_mem) (by k_mem) (RefsAre.mono (fun _ hp => List.mem_cons_of_mem _ (List.mem_append_left _ hp)) (by assumption)) (by k_extra "m_refs") (by k_extra "m_deep") ?_; (have eqd9 : True := trivial)))
    k_with "pow" => (first | ((with_reducible show wpAny _ _ (binaryOp _ _ (Value.int (_ * _) _)) _ _ _); refine pow_ring (by omega) (by omega) (by omega) (by omega) ?_; intro R9 hR9 hR8 hR7; (try dsimp only)) | (refine pow_two (by omega) (by omega) ?_; intro R9 hR9 hR8 hR7; (try dsimp only)))
    k_with "mod" => (refine mod_pos (by omega) ?_; intro q9 hq9 hq8 hq7; (try dsimp only))
    k_with "append" => ((with_reducible rename Fr _ _ _ _ => F1); (with_reducible rename News _ _ _ _ => N1); refine append_any F1 N1 (Upd.head (List.forall_mem_cons.mpr ⟨hf2, hfnd⟩)) (by exact Nat.le_of_ble_eq_true rfl) ?_; intro h' F' N'; (try k_sweep))
    k_with "lam" => ((fail_if_success (have h0 := hfnd)); (with_reducible rename News _ _ _ _ => N1); (with_reducible rename _ ∧ _ => l9); (obtain ⟨hfnd, hf2⟩ := found_of N1 l9))
    k_steps
end
end Mine
theorem PySem.Challenge.cw_rr0057_01_holds : PySem.Challenge.rw_rr0057_01.Holds := by
  exact Mine.main
