import PyProof.Rows.All
import Wide.All
import OpenK.AllK
import Wide.FinOn
import PySem.Challenge.RW_nz0084_01
set_option Elab.async false
set_option maxRecDepth 100000
set_option maxHeartbeats 8000000
section
open PySem PySem.W PyProof.Rows
namespace Mine
noncomputable def defAt (i : Nat) : Option (Arguments × FuncBody) := match PySem.Challenge.pw_nz0084_01.main.body.drop i with
  | .FunctionDef _ p b _ _ _ _ _ _ _ :: _ => some (p, .stmts b)
  | _ => none
namespace hd
noncomputable def heap_39 : Params → Frag := by
  refine (?f : ∀ {p0 : Arguments} {b0 : FuncBody} {p1 : Arguments} {b1 : FuncBody} {p2 : Arguments} {b2 : FuncBody} {p3 : Arguments} {b3 : FuncBody} {p4 : Arguments} {b4 : FuncBody} {p5 : Arguments} {b5 : FuncBody} {p6 : Arguments} {b6 : FuncBody} {p7 : Arguments} {b7 : FuncBody} {p8 : Arguments} {b8 : FuncBody} {p9 : Arguments} {b9 : FuncBody} {p10 : Arguments} {b10 : FuncBody} {p11 : Arguments} {b11 : FuncBody} {p12 : Arguments} {b12 : FuncBody} {p13 : Arguments} {b13 : FuncBody} {p14 : Arguments} {b14 : FuncBody} {p15 : Arguments} {b15 : FuncBody} {p16 : Arguments} {b16 : FuncBody} {p17 : Arguments} {b17 : FuncBody} {p18 : Arguments} {b18 : FuncBody} {p19 : Arguments} {b19 : FuncBody} {p20 : Arguments} {b20 : FuncBody} {p21 : Arguments} {b21 : FuncBody} {p22 : Arguments} {b22 : FuncBody} {p23 : Arguments} {b23 : FuncBody} {p24 : Arguments} {b24 : FuncBody} {p25 : Arguments} {b25 : FuncBody} {p26 : Arguments} {b26 : FuncBody}, defAt 4 = some (p0, b0) → defAt 5 = some (p1, b1) → defAt 6 = some (p2, b2) → defAt 7 = some (p3, b3) → defAt 8 = some (p4, b4) → defAt 9 = some (p5, b5) → defAt 10 = some (p6, b6) → defAt 11 = some (p7, b7) → defAt 12 = some (p8, b8) → defAt 14 = some (p9, b9) → defAt 15 = some (p10, b10) → defAt 16 = some (p11, b11) → defAt 17 = some (p12, b12) → defAt 19 = some (p13, b13) → defAt 20 = some (p14, b14) → defAt 21 = some (p15, b15) → defAt 22 = some (p16, b16) → defAt 23 = some (p17, b17) → defAt 24 = some (p18, b18) → defAt 26 = some (p19, b19) → defAt 27 = some (p20, b20) → defAt 28 = some (p21, b21) → defAt 29 = some (p22, b22) → defAt 30 = some (p23, b23) → defAt 31 = some (p24, b24) → defAt 32 = some (p25, b25) → defAt 33 = some (p26, b26) → (Params → Frag)) rfl rfl rfl rfl rfl rfl rfl rfl rfl rfl rfl rfl rfl rfl rfl rfl rfl rfl rfl rfl rfl rfl rfl rfl rfl rfl rfl
  exact fun {p0 b0} {p1 b1} {p2 b2} {p3 b3} {p4 b4} {p5 b5} {p6 b6} {p7 b7} {p8 b8} {p9 b9} {p10 b10} {p11 b11} {p12 b12} {p13 b13} {p14 b14} {p15 b15} {p16 b16} {p17 b17} {p18 b18} {p19 b19} {p20 b20} {p21 b21} {p22 b22} {p23 b23} {p24 b24} {p25 b25} {p26 b26} _ _ _ _ _ _ _ _ _ _ _ _ _ _ _ _ _ _ _ _ _ _ _ _ _ _ _ => fun P => ((nat_lit 2, { cls := Value.none, data := Data.dict #[{ hash := PyData.keyHash P (Str.ofString "type.__subclasses__.Exception.0"), key := Value.str (Str.ofString "type.__subclasses__.Exception.0") 205, val := Value.int 24 0 }, { hash := PyData.keyHash P (Str.ofString "type.__subclasses__.Exception.n"), key := Value.str (Str.ofString "type.__subclasses__.Exception.n") 206, val := Value.int 1 0 }] 2 }) :: (nat_lit 3, { cls := Value.type "dict", data := Data.dict (List.toArray ({ hash := PyData.keyHash P (Str.ofString "__name__"), key := Value.str (Str.ofString "__name__") 165, val := Value.str (Str.ofString "law_nz0084_01") 460 } :: { hash := PyData.keyHash P (Str.ofString "__doc__"), key := Value.str (Str.ofString "__doc__") 166, val := Value.none } :: { hash := PyData.keyHash P (Str.ofString "__package__"), key := Value.str (Str.ofString "__package__") 167, val := Value.none } :: { hash := PyData.keyHash P (Str.ofString "__loader__"), key := Value.str (Str.ofString "__loader__") 168, val := Value.builtin "__main__.__loader__#opaque" } :: { hash := PyData.keyHash P (Str.ofString "__spec__"), key := Value.str (Str.ofString "__spec__") 169, val := Value.none } :: { hash := PyData.keyHash P (Str.ofString "__annotations__"), key := Value.str (Str.ofString "__annotations__") 170, val := Value.ref 6 } :: { hash := PyData.keyHash P (Str.ofString "__builtins__"), key := Value.str (Str.ofString "__builtins__") 171, val := Value.ref 4 } :: { hash := PyData.keyHash P (Str.ofString "__file__"), key := Value.str (Str.ofString "__file__") 173, val := Value.str (Str.ofString "/claim/cut.py") 172 } :: { hash := PyData.keyHash P (Str.ofString "__cached__"), key := Value.str (Str.ofString "__cached__") 174, val := Value.none } :: { hash := PyData.keyHash P (Str.ofString "GmpError"), key := Value.str (Str.ofString "GmpError") 208, val := Value.ref 24 } :: { hash := PyData.keyHash P (Str.ofString "DivisionByZero"), key := Value.str (Str.ofString "DivisionByZero") 224, val := Value.ref 37 } :: { hash := PyData.keyHash P (Str.ofString "OutOfRange"), key := Value.str (Str.ofString "OutOfRange") 240, val := Value.ref 49 } :: { hash := PyData.keyHash P (Str.ofString "normal"), key := Value.str (Str.ofString "normal") 248, val := Value.ref 58 } :: { hash := PyData.keyHash P (Str.ofString "is_even"), key := Value.str (Str.ofString "is_even") 255, val := Value.ref 65 } :: { hash := PyData.keyHash P (Str.ofString "compare"), key := Value.str (Str.ofString "compare") 264, val := Value.ref 72 } :: { hash := PyData.keyHash P (Str.ofString "divrem_limb"), key := Value.str (Str.ofString "divrem_limb") 276, val := Value.ref 79 } :: { hash := PyData.keyHash P (Str.ofString "shift_left"), key := Value.str (Str.ofString "shift_left") 291, val := Value.ref 86 } :: { hash := PyData.keyHash P (Str.ofString "shift_right"), key := Value.str (Str.ofString "shift_right") 306, val := Value.ref 93 } :: { hash := PyData.keyHash P (Str.ofString "bits"), key := Value.str (Str.ofString "bits") 314, val := Value.ref 100 } :: { hash := PyData.keyHash P (Str.ofString "bit"), key := Value.str (Str.ofString "bit") 323, val := Value.ref 107 } :: { hash := PyData.keyHash P (Str.ofString "trailing"), key := Value.str (Str.ofString "trailing") 333, val := Value.ref 114 } :: { hash := PyData.keyHash P (Str.ofString "last_bits"), key := Value.str (Str.ofString "last_bits") 341, val := Value.ref 119 } :: { hash := PyData.keyHash P (Str.ofString "two_sign"), key := Value.str (Str.ofString "two_sign") 350, val := Value.ref 126 } :: { hash := PyData.keyHash P (Str.ofString "jacobi"), key := Value.str (Str.ofString "jacobi") 362, val := Value.ref 133 } :: { hash := PyData.keyHash P (Str.ofString "kronecker"), key := Value.str (Str.ofString "kronecker") 376, val := Value.ref 140 } :: { hash := PyData.keyHash P (Str.ofString "divrem_small"), key := Value.str (Str.ofString "divrem_small") 389, val := Value.ref 147 } :: { hash := PyData.keyHash P (Str.ofString "guessed_limb"), key := Value.str (Str.ofString "guessed_limb") 403, val := Value.ref 154 } :: { hash := PyData.keyHash P (Str.ofString "take_away"), key := Value.str (Str.ofString "take_away") 419, val := Value.ref 161 } :: { hash := PyData.keyHash P (Str.ofString "put_back"), key := Value.str (Str.ofString "put_back") 433, val := Value.ref 168 } :: { hash := PyData.keyHash P (Str.ofString "divide_rows"), key := Value.str (Str.ofString "divide_rows") 446, val := Value.ref 175 } :: { hash := PyData.keyHash P (Str.ofString "divrem_school"), key := Value.str (Str.ofString "divrem_school") 459, val := Value.ref 182 } :: { hash := PyData.keyHash P (Str.ofString "_law_take"), key := Value.str (Str.ofString "_law_take") 469, val := Value.ref 189 } :: { hash := PyData.keyHash P (Str.ofString "_law_box"), key := Value.str (Str.ofString "_law_box") 475, val := Value.ref 194 } :: { hash := PyData.keyHash P (Str.ofString "_law_row"), key := Value.str (Str.ofString "_law_row") 484, val := Value.ref 201 } :: { hash := PyData.keyHash P (Str.ofString "_law_gcd"), key := Value.str (Str.ofString "_law_gcd") 492, val := Value.ref 208 } :: { hash := PyData.keyHash P (Str.ofString "_law_symbol"), key := Value.str (Str.ofString "_law_symbol") 501, val := Value.ref 215 } :: { hash := PyData.keyHash P (Str.ofString "_law_wide"), key := Value.str (Str.ofString "_law_wide") 510, val := Value.ref 222 } :: { hash := PyData.keyHash P (Str.ofString "_law_signed"), key := Value.str (Str.ofString "_law_signed") 518, val := Value.ref 229 } :: { hash := PyData.keyHash P (Str.ofString "law"), key := Value.str (Str.ofString "law") 538, val := Value.ref 236 } :: [])) 39 }) :: (nat_lit 15, { cls := Value.type "tuple", data := Data.seq #[Value.type "Exception"] }) :: (nat_lit 22, { cls := Value.type "tuple", data := Data.seq #[] }) :: (nat_lit 23, { cls := Value.type "dict", data := Data.dict #[{ hash := PyData.keyHash P (Str.ofString "__module__"), key := Value.str (Str.ofString "__module__") 196, val := Value.str (Str.ofString "gmp.limbs") 187 }, { hash := PyData.keyHash P (Str.ofString "__firstlineno__"), key := Value.str (Str.ofString "__firstlineno__") 200, val := Value.int 2 199 }, { hash := PyData.keyHash P (Str.ofString "__static_attributes__"), key := Value.str (Str.ofString "__static_attributes__") 201, val := Value.ref 22 }, { hash := PyData.keyHash P (Str.ofString "__weakref__"), key := Value.str (Str.ofString "__weakref__") 203, val := Value.ref 25 }, { hash := PyData.keyHash P (Str.ofString "__doc__"), key := Value.str (Str.ofString "__doc__") 204, val := Value.none }] 3 }) :: (nat_lit 24, { cls := Value.type "type", data := Data.cls { name := Str.ofString "GmpError", bases := [Value.type "Exception"], mro := [Value.ref 24, Value.type "Exception", Value.type "BaseException", Value.type "object"], ns := 23, qualname := Str.ofString "GmpError", subclasses := [Value.ref 37, Value.ref 49] }, slots := (List.toArray (some (Value.ref 15) :: none :: some (Value.str (Str.ofString "GmpError") 189) :: some (Value.str (Str.ofString "GmpError") 197) :: some (Value.builtin "Exception.__new__") :: some (Value.bool true) :: [])) }) :: (nat_lit 25, { cls := Value.type "getset_descriptor", data := Data.fields #[Value.str (Str.ofString "__weakref__") 202, Value.ref 24, Value.builtin "ExceptionGroup.__weakref__", Value.none] }) :: (nat_lit 28, { cls := Value.type "tuple", data := Data.seq #[Value.ref 24] }) :: (nat_lit 35, { cls := Value.type "tuple", data := Data.seq #[] }) :: (nat_lit 36, { cls := Value.type "dict", data := Data.dict #[{ hash := PyData.keyHash P (Str.ofString "__module__"), key := Value.str (Str.ofString "__module__") 216, val := Value.str (Str.ofString "gmp.limbs") 187 }, { hash := PyData.keyHash P (Str.ofString "__firstlineno__"), key := Value.str (Str.ofString "__firstlineno__") 220, val := Value.int 4 219 }, { hash := PyData.keyHash P (Str.ofString "__static_attributes__"), key := Value.str (Str.ofString "__static_attributes__") 221, val := Value.ref 35 }, { hash := PyData.keyHash P (Str.ofString "__doc__"), key := Value.str (Str.ofString "__doc__") 222, val := Value.none }] 2 }) :: (nat_lit 37, { cls := Value.type "type", data := Data.cls { name := Str.ofString "DivisionByZero", bases := [Value.ref 24], mro := [Value.ref 37, Value.ref 24, Value.type "Exception", Value.type "BaseException", Value.type "object"], ns := 36, qualname := Str.ofString "DivisionByZero" }, slots := (List.toArray (some (Value.ref 28) :: none :: some (Value.str (Str.ofString "DivisionByZero") 209) :: some (Value.str (Str.ofString "DivisionByZero") 217) :: some (Value.builtin "Exception.__new__") :: some (Value.bool true) :: [])) }) :: (nat_lit 40, { cls := Value.type "tuple", data := Data.seq #[Value.ref 24] }) :: (nat_lit 47, { cls := Value.type "tuple", data := Data.seq #[] }) :: (nat_lit 48, { cls := Value.type "dict", data := Data.dict #[{ hash := PyData.keyHash P (Str.ofString "__module__"), key := Value.str (Str.ofString "__module__") 232, val := Value.str (Str.ofString "gmp.limbs") 187 }, { hash := PyData.keyHash P (Str.ofString "__firstlineno__"), key := Value.str (Str.ofString "__firstlineno__") 236, val := Value.int 6 235 }, { hash := PyData.keyHash P (Str.ofString "__static_attributes__"), key := Value.str (Str.ofString "__static_attributes__") 237, val := Value.ref 47 }, { hash := PyData.keyHash P (Str.ofString "__doc__"), key := Value.str (Str.ofString "__doc__") 238, val := Value.none }] 2 }) :: (nat_lit 49, { cls := Value.type "type", data := Data.cls { name := Str.ofString "OutOfRange", bases := [Value.ref 24], mro := [Value.ref 49, Value.ref 24, Value.type "Exception", Value.type "BaseException", Value.type "object"], ns := 48, qualname := Str.ofString "OutOfRange" }, slots := (List.toArray (some (Value.ref 40) :: none :: some (Value.str (Str.ofString "OutOfRange") 225) :: some (Value.str (Str.ofString "OutOfRange") 233) :: some (Value.builtin "Exception.__new__") :: some (Value.bool true) :: [])) }) :: (nat_lit 52, { cls := Value.type "tuple", data := Data.seq #[] }) :: (nat_lit 54, { cls := Value.type "tuple", data := Data.seq #[Value.str (Str.ofString "a") 244, Value.str (Str.ofString "end") 245] }) :: (nat_lit 55, { cls := Value.type "tuple", data := Data.seq #[] }) :: (nat_lit 57, { cls := Value.type "code", data := Data.fields (List.toArray (Value.str (Str.ofString "normal") 241 :: Value.str (Str.ofString "normal") 242 :: Value.str (Str.ofString "/claim/cut.py") 243 :: Value.int 8 0 :: Value.int 1 0 :: Value.int 0 0 :: Value.int 0 0 :: Value.int 3 0 :: Value.ref 52 :: Value.bool true :: Value.int 181 0 :: Value.ref 53 :: Value.none :: Value.ref 54 :: Value.ref 55 :: Value.ref 56 :: Value.int 246 0 :: Value.int 8 0 :: Value.str (Str.ofString "/claim/cut.py") 247 :: [])) }) :: (nat_lit 58, { cls := Value.type "function", data := Data.func { name := Str.ofString "normal", qualname := Str.ofString "normal", params := p0, body := b0, scope := { kind := ScopeKind.function, names := [(Str.ofString "a", NameKind.local), (Str.ofString "end", NameKind.local), (Str.ofString "len", NameKind.globalImplicit)], isGenerator := false, isCoroutine := false }, globals := 3, closure := [], defaults := Value.none, kwdefaults := Value.none, pyModule := Value.str (Str.ofString "gmp.limbs") 187, code := Value.ref 57 } }) :: (nat_lit 59, { cls := Value.type "tuple", data := Data.seq #[] }) :: (nat_lit 61, { cls := Value.type "tuple", data := Data.seq #[Value.str (Str.ofString "a") 252] }) :: (nat_lit 62, { cls := Value.type "tuple", data := Data.seq #[] }) :: (nat_lit 64, { cls := Value.type "code", data := Data.fields (List.toArray (Value.str (Str.ofString "is_even") 249 :: Value.str (Str.ofString "is_even") 250 :: Value.str (Str.ofString "/claim/cut.py") 251 :: Value.int 13 0 :: Value.int 1 0 :: Value.int 0 0 :: Value.int 0 0 :: Value.int 3 0 :: Value.ref 59 :: Value.bool true :: Value.int 181 0 :: Value.ref 60 :: Value.none :: Value.ref 61 :: Value.ref 62 :: Value.ref 63 :: Value.int 253 0 :: Value.int 13 0 :: Value.str (Str.ofString "/claim/cut.py") 254 :: [])) }) :: (nat_lit 65, { cls := Value.type "function", data := Data.func { name := Str.ofString "is_even", qualname := Str.ofString "is_even", params := p1, body := b1, scope := { kind := ScopeKind.function, names := [(Str.ofString "a", NameKind.local), (Str.ofString "len", NameKind.globalImplicit)], isGenerator := false, isCoroutine := false }, globals := 3, closure := [], defaults := Value.none, kwdefaults := Value.none, pyModule := Value.str (Str.ofString "gmp.limbs") 187, code := Value.ref 64 } }) :: (nat_lit 66, { cls := Value.type "tuple", data := Data.seq #[] }) :: (nat_lit 68, { cls := Value.type "tuple", data := Data.seq #[Value.str (Str.ofString "a") 259, Value.str (Str.ofString "b") 260, Value.str (Str.ofString "at") 261] }) :: (nat_lit 69, { cls := Value.type "tuple", data := Data.seq #[] }) :: (nat_lit 71, { cls := Value.type "code", data := Data.fields (List.toArray (Value.str (Str.ofString "compare") 256 :: Value.str (Str.ofString "compare") 257 :: Value.str (Str.ofString "/claim/cut.py") 258 :: Value.int 15 0 :: Value.int 2 0 :: Value.int 0 0 :: Value.int 0 0 :: Value.int 3 0 :: Value.ref 66 :: Value.bool true :: Value.int 181 0 :: Value.ref 67 :: Value.none :: Value.ref 68 :: Value.ref 69 :: Value.ref 70 :: Value.int 262 0 :: Value.int 15 0 :: Value.str (Str.ofString "/claim/cut.py") 263 :: [])) }) :: (nat_lit 72, { cls := Value.type "function", data := Data.func { name := Str.ofString "compare", qualname := Str.ofString "compare", params := p2, body := b2, scope := { kind := ScopeKind.function, names := [(Str.ofString "a", NameKind.local), (Str.ofString "b", NameKind.local), (Str.ofString "at", NameKind.local), (Str.ofString "len", NameKind.globalImplicit), (Str.ofString "range", NameKind.globalImplicit)], isGenerator := false, isCoroutine := false }, globals := 3, closure := [], defaults := Value.none, kwdefaults := Value.none, pyModule := Value.str (Str.ofString "gmp.limbs") 187, code := Value.ref 71 } }) :: (nat_lit 73, { cls := Value.type "tuple", data := Data.seq #[] }) :: (nat_lit 75, { cls := Value.type "tuple", data := Data.seq (List.toArray (Value.str (Str.ofString "a") 268 :: Value.str (Str.ofString "limb") 269 :: Value.str (Str.ofString "w") 270 :: Value.str (Str.ofString "found") 271 :: Value.str (Str.ofString "rest") 272 :: Value.str (Str.ofString "at") 273 :: [])) }) :: (nat_lit 76, { cls := Value.type "tuple", data := Data.seq #[] }) :: (nat_lit 78, { cls := Value.type "code", data := Data.fields (List.toArray (Value.str (Str.ofString "divrem_limb") 265 :: Value.str (Str.ofString "divrem_limb") 266 :: Value.str (Str.ofString "/claim/cut.py") 267 :: Value.int 22 0 :: Value.int 3 0 :: Value.int 0 0 :: Value.int 0 0 :: Value.int 3 0 :: Value.ref 73 :: Value.bool true :: Value.int 181 0 :: Value.ref 74 :: Value.none :: Value.ref 75 :: Value.ref 76 :: Value.ref 77 :: Value.int 274 0 :: Value.int 22 0 :: Value.str (Str.ofString "/claim/cut.py") 275 :: [])) }) :: (nat_lit 79, { cls := Value.type "function", data := Data.func { name := Str.ofString "divrem_limb", qualname := Str.ofString "divrem_limb", params := p3, body := b3, scope := { kind := ScopeKind.function, names := ((Str.ofString "a", NameKind.local) :: (Str.ofString "limb", NameKind.local) :: (Str.ofString "w", NameKind.local) :: (Str.ofString "found", NameKind.local) :: (Str.ofString "rest", NameKind.local) :: (Str.ofString "at", NameKind.local) :: (Str.ofString "DivisionByZero", NameKind.globalImplicit) :: (Str.ofString "len", NameKind.globalImplicit) :: (Str.ofString "range", NameKind.globalImplicit) :: (Str.ofString "normal", NameKind.globalImplicit) :: []), isGenerator := false, isCoroutine := false }, globals := 3, closure := [], defaults := Value.none, kwdefaults := Value.none, pyModule := Value.str (Str.ofString "gmp.limbs") 187, code := Value.ref 78 } }) :: (nat_lit 80, { cls := Value.type "tuple", data := Data.seq #[] }) :: (nat_lit 82, { cls := Value.type "tuple", data := Data.seq (List.toArray (Value.str (Str.ofString "a") 280 :: Value.str (Str.ofString "n") 281 :: Value.str (Str.ofString "w") 282 :: Value.str (Str.ofString "spots") 283 :: Value.str (Str.ofString "few") 284 :: Value.str (Str.ofString "found") 285 :: Value.str (Str.ofString "carry") 286 :: Value.str (Str.ofString "mask") 287 :: Value.str (Str.ofString "one") 288 :: [])) }) :: (nat_lit 83, { cls := Value.type "tuple", data := Data.seq #[] }) :: (nat_lit 85, { cls := Value.type "code", data := Data.fields (List.toArray (Value.str (Str.ofString "shift_left") 277 :: Value.str (Str.ofString "shift_left") 278 :: Value.str (Str.ofString "/claim/cut.py") 279 :: Value.int 31 0 :: Value.int 3 0 :: Value.int 0 0 :: Value.int 0 0 :: Value.int 3 0 :: Value.ref 80 :: Value.bool true :: Value.int 181 0 :: Value.ref 81 :: Value.none :: Value.ref 82 :: Value.ref 83 :: Value.ref 84 :: Value.int 289 0 :: Value.int 31 0 :: Value.str (Str.ofString "/claim/cut.py") 290 :: [])) }) :: (nat_lit 86, { cls := Value.type "function", data := Data.func { name := Str.ofString "shift_left", qualname := Str.ofString "shift_left", params := p4, body := b4, scope := { kind := ScopeKind.function, names := ((Str.ofString "a", NameKind.local) :: (Str.ofString "n", NameKind.local) :: (Str.ofString "w", NameKind.local) :: (Str.ofString "spots", NameKind.local) :: (Str.ofString "few", NameKind.local) :: (Str.ofString "found", NameKind.local) :: (Str.ofString "carry", NameKind.local) :: (Str.ofString "mask", NameKind.local) :: (Str.ofString "one", NameKind.local) :: (Str.ofString "len", NameKind.globalImplicit) :: []), isGenerator := false, isCoroutine := false }, globals := 3, closure := [], defaults := Value.none, kwdefaults := Value.none, pyModule := Value.str (Str.ofString "gmp.limbs") 187, code := Value.ref 85 } }) :: (nat_lit 87, { cls := Value.type "tuple", data := Data.seq #[] }) :: (nat_lit 89, { cls := Value.type "tuple", data := Data.seq (List.toArray (Value.str (Str.ofString "a") 295 :: Value.str (Str.ofString "n") 296 :: Value.str (Str.ofString "w") 297 :: Value.str (Str.ofString "spots") 298 :: Value.str (Str.ofString "few") 299 :: Value.str (Str.ofString "found") 300 :: Value.str (Str.ofString "mask") 301 :: Value.str (Str.ofString "at") 302 :: Value.str (Str.ofString "above") 303 :: [])) }) :: (nat_lit 90, { cls := Value.type "tuple", data := Data.seq #[] }) :: (nat_lit 92, { cls := Value.type "code", data := Data.fields (List.toArray (Value.str (Str.ofString "shift_right") 292 :: Value.str (Str.ofString "shift_right") 293 :: Value.str (Str.ofString "/claim/cut.py") 294 :: Value.int 43 0 :: Value.int 3 0 :: Value.int 0 0 :: Value.int 0 0 :: Value.int 3 0 :: Value.ref 87 :: Value.bool true :: Value.int 181 0 :: Value.ref 88 :: Value.none :: Value.ref 89 :: Value.ref 90 :: Value.ref 91 :: Value.int 304 0 :: Value.int 43 0 :: Value.str (Str.ofString "/claim/cut.py") 305 :: [])) }) :: (nat_lit 93, { cls := Value.type "function", data := Data.func { name := Str.ofString "shift_right", qualname := Str.ofString "shift_right", params := p5, body := b5, scope := { kind := ScopeKind.function, names := ((Str.ofString "a", NameKind.local) :: (Str.ofString "n", NameKind.local) :: (Str.ofString "w", NameKind.local) :: (Str.ofString "spots", NameKind.local) :: (Str.ofString "few", NameKind.local) :: (Str.ofString "found", NameKind.local) :: (Str.ofString "mask", NameKind.local) :: (Str.ofString "at", NameKind.local) :: (Str.ofString "above", NameKind.local) :: (Str.ofString "range", NameKind.globalImplicit) :: (Str.ofString "len", NameKind.globalImplicit) :: (Str.ofString "normal", NameKind.globalImplicit) :: []), isGenerator := false, isCoroutine := false }, globals := 3, closure := [], defaults := Value.none, kwdefaults := Value.none, pyModule := Value.str (Str.ofString "gmp.limbs") 187, code := Value.ref 92 } }) :: (nat_lit 94, { cls := Value.type "tuple", data := Data.seq #[] }) :: (nat_lit 96, { cls := Value.type "tuple", data := Data.seq #[Value.str (Str.ofString "a") 310, Value.str (Str.ofString "w") 311] }) :: (nat_lit 97, { cls := Value.type "tuple", data := Data.seq #[] }) :: (nat_lit 99, { cls := Value.type "code", data := Data.fields (List.toArray (Value.str (Str.ofString "bits") 307 :: Value.str (Str.ofString "bits") 308 :: Value.str (Str.ofString "/claim/cut.py") 309 :: Value.int 50 0 :: Value.int 2 0 :: Value.int 0 0 :: Value.int 0 0 :: Value.int 3 0 :: Value.ref 94 :: Value.bool true :: Value.int 181 0 :: Value.ref 95 :: Value.none :: Value.ref 96 :: Value.ref 97 :: Value.ref 98 :: Value.int 312 0 :: Value.int 50 0 :: Value.str (Str.ofString "/claim/cut.py") 313 :: [])) }) :: (nat_lit 100, { cls := Value.type "function", data := Data.func { name := Str.ofString "bits", qualname := Str.ofString "bits", params := p6, body := b6, scope := { kind := ScopeKind.function, names := [(Str.ofString "a", NameKind.local), (Str.ofString "w", NameKind.local), (Str.ofString "len", NameKind.globalImplicit)], isGenerator := false, isCoroutine := false }, globals := 3, closure := [], defaults := Value.none, kwdefaults := Value.none, pyModule := Value.str (Str.ofString "gmp.limbs") 187, code := Value.ref 99 } }) :: (nat_lit 101, { cls := Value.type "tuple", data := Data.seq #[] }) :: (nat_lit 103, { cls := Value.type "tuple", data := Data.seq #[Value.str (Str.ofString "a") 318, Value.str (Str.ofString "n") 319, Value.str (Str.ofString "w") 320] }) :: (nat_lit 104, { cls := Value.type "tuple", data := Data.seq #[] }) :: (nat_lit 106, { cls := Value.type "code", data := Data.fields (List.toArray (Value.str (Str.ofString "bit") 315 :: Value.str (Str.ofString "bit") 316 :: Value.str (Str.ofString "/claim/cut.py") 317 :: Value.int 52 0 :: Value.int 3 0 :: Value.int 0 0 :: Value.int 0 0 :: Value.int 3 0 :: Value.ref 101 :: Value.bool true :: Value.int 181 0 :: Value.ref 102 :: Value.none :: Value.ref 103 :: Value.ref 104 :: Value.ref 105 :: Value.int 321 0 :: Value.int 52 0 :: Value.str (Str.ofString "/claim/cut.py") 322 :: [])) }) :: (nat_lit 107, { cls := Value.type "function", data := Data.func { name := Str.ofString "bit", qualname := Str.ofString "bit", params := p7, body := b7, scope := { kind := ScopeKind.function, names := [(Str.ofString "a", NameKind.local), (Str.ofString "n", NameKind.local), (Str.ofString "w", NameKind.local), (Str.ofString "len", NameKind.globalImplicit)], isGenerator := false, isCoroutine := false }, globals := 3, closure := [], defaults := Value.none, kwdefaults := Value.none, pyModule := Value.str (Str.ofString "gmp.limbs") 187, code := Value.ref 106 } }) :: (nat_lit 108, { cls := Value.type "tuple", data := Data.seq #[] }) :: (nat_lit 110, { cls := Value.type "tuple", data := Data.seq #[Value.str (Str.ofString "a") 327, Value.str (Str.ofString "w") 328, Value.str (Str.ofString "at") 329, Value.str (Str.ofString "limb") 330] }) :: (nat_lit 111, { cls := Value.type "tuple", data := Data.seq #[] }) :: (nat_lit 113, { cls := Value.type "code", data := Data.fields (List.toArray (Value.str (Str.ofString "trailing") 324 :: Value.str (Str.ofString "trailing") 325 :: Value.str (Str.ofString "/claim/cut.py") 326 :: Value.int 54 0 :: Value.int 2 0 :: Value.int 0 0 :: Value.int 0 0 :: Value.int 3 0 :: Value.ref 108 :: Value.bool true :: Value.int 181 0 :: Value.ref 109 :: Value.none :: Value.ref 110 :: Value.ref 111 :: Value.ref 112 :: Value.int 331 0 :: Value.int 54 0 :: Value.str (Str.ofString "/claim/cut.py") 332 :: [])) }) :: (nat_lit 114, { cls := Value.type "function", data := Data.func { name := Str.ofString "trailing", qualname := Str.ofString "trailing", params := p8, body := b8, scope := { kind := ScopeKind.function, names := ((Str.ofString "a", NameKind.local) :: (Str.ofString "w", NameKind.local) :: (Str.ofString "at", NameKind.local) :: (Str.ofString "limb", NameKind.local) :: (Str.ofString "enumerate", NameKind.globalImplicit) :: (Str.ofString "OutOfRange", NameKind.globalImplicit) :: []), isGenerator := false, isCoroutine := false }, globals := 3, closure := [], defaults := Value.none, kwdefaults := Value.none, pyModule := Value.str (Str.ofString "gmp.limbs") 187, code := Value.ref 113 } }) :: (nat_lit 115, { cls := Value.type "tuple", data := Data.seq #[] }) :: (nat_lit 118, { cls := Value.type "code", data := Data.fields (List.toArray (Value.str (Str.ofString "last_bits") 336 :: Value.str (Str.ofString "last_bits") 337 :: Value.str (Str.ofString "/claim/cut.py") 338 :: Value.int 60 0 :: Value.int 3 0 :: Value.int 0 0 :: Value.int 0 0 :: Value.int 3 0 :: Value.ref 115 :: Value.bool true :: Value.int 181 0 :: Value.ref 116 :: Value.none :: Value.none :: Value.none :: Value.ref 117 :: Value.int 339 0 :: Value.int 60 0 :: Value.str (Str.ofString "/claim/cut.py") 340 :: [])) }) :: (nat_lit 119, { cls := Value.type "function", data := Data.func { name := Str.ofString "last_bits", qualname := Str.ofString "last_bits", params := p9, body := b9, scope := { kind := ScopeKind.function, names := [(Str.ofString "a", NameKind.cell), (Str.ofString "many", NameKind.local), (Str.ofString "w", NameKind.cell), (Str.ofString "sum", NameKind.globalImplicit), (Str.ofString "range", NameKind.globalImplicit)], isGenerator := false, isCoroutine := false, more := [(Str.ofString "fast", Const.str (Str.ofString "a")), (Str.ofString "fast", Const.str (Str.ofString "many")), (Str.ofString "fast", Const.str (Str.ofString "w")), (Str.ofString "fast", Const.str (Str.ofString "n"))] }, globals := 3, closure := [], defaults := Value.none, kwdefaults := Value.none, pyModule := Value.str (Str.ofString "gmp.residues") 334, code := Value.ref 118 } }) :: (nat_lit 120, { cls := Value.type "tuple", data := Data.seq #[] }) :: (nat_lit 122, { cls := Value.type "tuple", data := Data.seq #[Value.str (Str.ofString "twos") 345, Value.str (Str.ofString "a") 346, Value.str (Str.ofString "w") 347] }) :: (nat_lit 123, { cls := Value.type "tuple", data := Data.seq #[] }) :: (nat_lit 125, { cls := Value.type "code", data := Data.fields (List.toArray (Value.str (Str.ofString "two_sign") 342 :: Value.str (Str.ofString "two_sign") 343 :: Value.str (Str.ofString "/claim/cut.py") 344 :: Value.int 62 0 :: Value.int 3 0 :: Value.int 0 0 :: Value.int 0 0 :: Value.int 3 0 :: Value.ref 120 :: Value.bool true :: Value.int 181 0 :: Value.ref 121 :: Value.none :: Value.ref 122 :: Value.ref 123 :: Value.ref 124 :: Value.int 348 0 :: Value.int 62 0 :: Value.str (Str.ofString "/claim/cut.py") 349 :: [])) }) :: (nat_lit 126, { cls := Value.type "function", data := Data.func { name := Str.ofString "two_sign", qualname := Str.ofString "two_sign", params := p10, body := b10, scope := { kind := ScopeKind.function, names := [(Str.ofString "twos", NameKind.local), (Str.ofString "a", NameKind.local), (Str.ofString "w", NameKind.local), (Str.ofString "last_bits", NameKind.globalImplicit)], isGenerator := false, isCoroutine := false }, globals := 3, closure := [], defaults := Value.none, kwdefaults := Value.none, pyModule := Value.str (Str.ofString "gmp.residues") 334, code := Value.ref 125 } }) :: (nat_lit 127, { cls := Value.type "tuple", data := Data.seq #[] }) :: (nat_lit 129, { cls := Value.type "tuple", data := Data.seq (List.toArray (Value.str (Str.ofString "a") 354 :: Value.str (Str.ofString "n") 355 :: Value.str (Str.ofString "w") 356 :: Value.str (Str.ofString "divrem") 357 :: Value.str (Str.ofString "found") 358 :: Value.str (Str.ofString "twos") 359 :: [])) }) :: (nat_lit 130, { cls := Value.type "tuple", data := Data.seq #[] }) :: (nat_lit 132, { cls := Value.type "code", data := Data.fields (List.toArray (Value.str (Str.ofString "jacobi") 351 :: Value.str (Str.ofString "jacobi") 352 :: Value.str (Str.ofString "/claim/cut.py") 353 :: Value.int 64 0 :: Value.int 4 0 :: Value.int 0 0 :: Value.int 0 0 :: Value.int 3 0 :: Value.ref 127 :: Value.bool true :: Value.int 181 0 :: Value.ref 128 :: Value.none :: Value.ref 129 :: Value.ref 130 :: Value.ref 131 :: Value.int 360 0 :: Value.int 64 0 :: Value.str (Str.ofString "/claim/cut.py") 361 :: [])) }) :: (nat_lit 133, { cls := Value.type "function", data := Data.func { name := Str.ofString "jacobi", qualname := Str.ofString "jacobi", params := p11, body := b11, scope := { kind := ScopeKind.function, names := ((Str.ofString "a", NameKind.local) :: (Str.ofString "n", NameKind.local) :: (Str.ofString "w", NameKind.local) :: (Str.ofString "divrem", NameKind.local) :: (Str.ofString "found", NameKind.local) :: (Str.ofString "twos", NameKind.local) :: (Str.ofString "is_even", NameKind.globalImplicit) :: (Str.ofString "OutOfRange", NameKind.globalImplicit) :: (Str.ofString "len", NameKind.globalImplicit) :: (Str.ofString "trailing", NameKind.globalImplicit) :: (Str.ofString "shift_right", NameKind.globalImplicit) :: (Str.ofString "two_sign", NameKind.globalImplicit) :: (Str.ofString "last_bits", NameKind.globalImplicit) :: (Str.ofString "compare", NameKind.globalImplicit) :: []), isGenerator := false, isCoroutine := false }, globals := 3, closure := [], defaults := Value.none, kwdefaults := Value.none, pyModule := Value.str (Str.ofString "gmp.residues") 334, code := Value.ref 132 } }) :: (nat_lit 134, { cls := Value.type "tuple", data := Data.seq #[] }) :: (nat_lit 136, { cls := Value.type "tuple", data := Data.seq (List.toArray (Value.str (Str.ofString "x") 366 :: Value.str (Str.ofString "y") 367 :: Value.str (Str.ofString "w") 368 :: Value.str (Str.ofString "divrem") 369 :: Value.str (Str.ofString "a") 370 :: Value.str (Str.ofString "n") 371 :: Value.str (Str.ofString "found") 372 :: Value.str (Str.ofString "twos") 373 :: [])) }) :: (nat_lit 137, { cls := Value.type "tuple", data := Data.seq #[] }) :: (nat_lit 139, { cls := Value.type "code", data := Data.fields (List.toArray (Value.str (Str.ofString "kronecker") 363 :: Value.str (Str.ofString "kronecker") 364 :: Value.str (Str.ofString "/claim/cut.py") 365 :: Value.int 76 0 :: Value.int 4 0 :: Value.int 0 0 :: Value.int 0 0 :: Value.int 3 0 :: Value.ref 134 :: Value.bool true :: Value.int 181 0 :: Value.ref 135 :: Value.none :: Value.ref 136 :: Value.ref 137 :: Value.ref 138 :: Value.int 374 0 :: Value.int 76 0 :: Value.str (Str.ofString "/claim/cut.py") 375 :: [])) }) :: (nat_lit 140, { cls := Value.type "function", data := Data.func { name := Str.ofString "kronecker", qualname := Str.ofString "kronecker", params := p12, body := b12, scope := { kind := ScopeKind.function, names := ((Str.ofString "x", NameKind.local) :: (Str.ofString "y", NameKind.local) :: (Str.ofString "w", NameKind.local) :: (Str.ofString "divrem", NameKind.local) :: (Str.ofString "a", NameKind.local) :: (Str.ofString "n", NameKind.local) :: (Str.ofString "found", NameKind.local) :: (Str.ofString "twos", NameKind.local) :: (Str.ofString "len", NameKind.globalImplicit) :: (Str.ofString "compare", NameKind.globalImplicit) :: (Str.ofString "is_even", NameKind.globalImplicit) :: (Str.ofString "trailing", NameKind.globalImplicit) :: (Str.ofString "shift_right", NameKind.globalImplicit) :: (Str.ofString "two_sign", NameKind.globalImplicit) :: (Str.ofString "last_bits", NameKind.globalImplicit) :: (Str.ofString "jacobi", NameKind.globalImplicit) :: []), isGenerator := false, isCoroutine := false }, globals := 3, closure := [], defaults := Value.none, kwdefaults := Value.none, pyModule := Value.str (Str.ofString "gmp.residues") 334, code := Value.ref 139 } }) :: (nat_lit 141, { cls := Value.type "tuple", data := Data.seq #[] }) :: (nat_lit 143, { cls := Value.type "tuple", data := Data.seq #[Value.str (Str.ofString "a") 382, Value.str (Str.ofString "b") 383, Value.str (Str.ofString "w") 384, Value.str (Str.ofString "quotient") 385, Value.str (Str.ofString "rest") 386] }) :: (nat_lit 144, { cls := Value.type "tuple", data := Data.seq #[] }) :: (nat_lit 146, { cls := Value.type "code", data := Data.fields (List.toArray (Value.str (Str.ofString "divrem_small") 379 :: Value.str (Str.ofString "divrem_small") 380 :: Value.str (Str.ofString "/claim/cut.py") 381 :: Value.int 91 0 :: Value.int 3 0 :: Value.int 0 0 :: Value.int 0 0 :: Value.int 3 0 :: Value.ref 141 :: Value.bool true :: Value.int 181 0 :: Value.ref 142 :: Value.none :: Value.ref 143 :: Value.ref 144 :: Value.ref 145 :: Value.int 387 0 :: Value.int 91 0 :: Value.str (Str.ofString "/claim/cut.py") 388 :: [])) }) :: (nat_lit 147, { cls := Value.type "function", data := Data.func { name := Str.ofString "divrem_small", qualname := Str.ofString "divrem_small", params := p13, body := b13, scope := { kind := ScopeKind.function, names := ((Str.ofString "a", NameKind.local) :: (Str.ofString "b", NameKind.local) :: (Str.ofString "w", NameKind.local) :: (Str.ofString "quotient", NameKind.local) :: (Str.ofString "rest", NameKind.local) :: (Str.ofString "divrem_limb", NameKind.globalImplicit) :: []), isGenerator := false, isCoroutine := false }, globals := 3, closure := [], defaults := Value.none, kwdefaults := Value.none, pyModule := Value.str (Str.ofString "gmp.school") 377, code := Value.ref 146 } }) :: (nat_lit 148, { cls := Value.type "tuple", data := Data.seq #[] }) :: (nat_lit 150, { cls := Value.type "tuple", data := Data.seq (List.toArray (Value.str (Str.ofString "top") 393 :: Value.str (Str.ofString "first") 394 :: Value.str (Str.ofString "second") 395 :: Value.str (Str.ofString "w") 396 :: Value.str (Str.ofString "high") 397 :: Value.str (Str.ofString "base") 398 :: Value.str (Str.ofString "limb") 399 :: Value.str (Str.ofString "rest") 400 :: [])) }) :: (nat_lit 151, { cls := Value.type "tuple", data := Data.seq #[] }) :: (nat_lit 153, { cls := Value.type "code", data := Data.fields (List.toArray (Value.str (Str.ofString "guessed_limb") 390 :: Value.str (Str.ofString "guessed_limb") 391 :: Value.str (Str.ofString "/claim/cut.py") 392 :: Value.int 94 0 :: Value.int 4 0 :: Value.int 0 0 :: Value.int 0 0 :: Value.int 3 0 :: Value.ref 148 :: Value.bool true :: Value.int 181 0 :: Value.ref 149 :: Value.none :: Value.ref 150 :: Value.ref 151 :: Value.ref 152 :: Value.int 401 0 :: Value.int 94 0 :: Value.str (Str.ofString "/claim/cut.py") 402 :: [])) }) :: (nat_lit 154, { cls := Value.type "function", data := Data.func { name := Str.ofString "guessed_limb", qualname := Str.ofString "guessed_limb", params := p14, body := b14, scope := { kind := ScopeKind.function, names := ((Str.ofString "top", NameKind.local) :: (Str.ofString "first", NameKind.local) :: (Str.ofString "second", NameKind.local) :: (Str.ofString "w", NameKind.local) :: (Str.ofString "high", NameKind.local) :: (Str.ofString "base", NameKind.local) :: (Str.ofString "limb", NameKind.local) :: (Str.ofString "rest", NameKind.local) :: (Str.ofString "min", NameKind.globalImplicit) :: []), isGenerator := false, isCoroutine := false }, globals := 3, closure := [], defaults := Value.none, kwdefaults := Value.none, pyModule := Value.str (Str.ofString "gmp.school") 377, code := Value.ref 153 } }) :: (nat_lit 155, { cls := Value.type "tuple", data := Data.seq #[] }) :: (nat_lit 157, { cls := Value.type "tuple", data := Data.seq (List.toArray (Value.str (Str.ofString "rest") 407 :: Value.str (Str.ofString "b") 408 :: Value.str (Str.ofString "limb") 409 :: Value.str (Str.ofString "at") 410 :: Value.str (Str.ofString "w") 411 :: Value.str (Str.ofString "carry") 412 :: Value.str (Str.ofString "base") 413 :: Value.str (Str.ofString "spot") 414 :: Value.str (Str.ofString "other") 415 :: Value.str (Str.ofString "here") 416 :: [])) }) :: (nat_lit 158, { cls := Value.type "tuple", data := Data.seq #[] }) :: (nat_lit 160, { cls := Value.type "code", data := Data.fields (List.toArray (Value.str (Str.ofString "take_away") 404 :: Value.str (Str.ofString "take_away") 405 :: Value.str (Str.ofString "/claim/cut.py") 406 :: Value.int 102 0 :: Value.int 5 0 :: Value.int 0 0 :: Value.int 0 0 :: Value.int 3 0 :: Value.ref 155 :: Value.bool true :: Value.int 181 0 :: Value.ref 156 :: Value.none :: Value.ref 157 :: Value.ref 158 :: Value.ref 159 :: Value.int 417 0 :: Value.int 102 0 :: Value.str (Str.ofString "/claim/cut.py") 418 :: [])) }) :: (nat_lit 161, { cls := Value.type "function", data := Data.func { name := Str.ofString "take_away", qualname := Str.ofString "take_away", params := p15, body := b15, scope := { kind := ScopeKind.function, names := ((Str.ofString "rest", NameKind.local) :: (Str.ofString "b", NameKind.local) :: (Str.ofString "limb", NameKind.local) :: (Str.ofString "at", NameKind.local) :: (Str.ofString "w", NameKind.local) :: (Str.ofString "carry", NameKind.local) :: (Str.ofString "base", NameKind.local) :: (Str.ofString "spot", NameKind.local) :: (Str.ofString "other", NameKind.local) :: (Str.ofString "here", NameKind.local) :: (Str.ofString "enumerate", NameKind.globalImplicit) :: (Str.ofString "len", NameKind.globalImplicit) :: []), isGenerator := false, isCoroutine := false }, globals := 3, closure := [], defaults := Value.none, kwdefaults := Value.none, pyModule := Value.str (Str.ofString "gmp.school") 377, code := Value.ref 160 } }) :: (nat_lit 162, { cls := Value.type "tuple", data := Data.seq #[] }) :: (nat_lit 164, { cls := Value.type "tuple", data := Data.seq (List.toArray (Value.str (Str.ofString "rest") 423 :: Value.str (Str.ofString "b") 424 :: Value.str (Str.ofString "at") 425 :: Value.str (Str.ofString "w") 426 :: Value.str (Str.ofString "carry") 427 :: Value.str (Str.ofString "mask") 428 :: Value.str (Str.ofString "spot") 429 :: Value.str (Str.ofString "other") 430 :: [])) }) :: (nat_lit 165, { cls := Value.type "tuple", data := Data.seq #[] }) :: (nat_lit 167, { cls := Value.type "code", data := Data.fields (List.toArray (Value.str (Str.ofString "put_back") 420 :: Value.str (Str.ofString "put_back") 421 :: Value.str (Str.ofString "/claim/cut.py") 422 :: Value.int 111 0 :: Value.int 4 0 :: Value.int 0 0 :: Value.int 0 0 :: Value.int 3 0 :: Value.ref 162 :: Value.bool true :: Value.int 181 0 :: Value.ref 163 :: Value.none :: Value.ref 164 :: Value.ref 165 :: Value.ref 166 :: Value.int 431 0 :: Value.int 111 0 :: Value.str (Str.ofString "/claim/cut.py") 432 :: [])) }) :: (nat_lit 168, { cls := Value.type "function", data := Data.func { name := Str.ofString "put_back", qualname := Str.ofString "put_back", params := p16, body := b16, scope := { kind := ScopeKind.function, names := ((Str.ofString "rest", NameKind.local) :: (Str.ofString "b", NameKind.local) :: (Str.ofString "at", NameKind.local) :: (Str.ofString "w", NameKind.local) :: (Str.ofString "carry", NameKind.local) :: (Str.ofString "mask", NameKind.local) :: (Str.ofString "spot", NameKind.local) :: (Str.ofString "other", NameKind.local) :: (Str.ofString "enumerate", NameKind.globalImplicit) :: (Str.ofString "len", NameKind.globalImplicit) :: []), isGenerator := false, isCoroutine := false }, globals := 3, closure := [], defaults := Value.none, kwdefaults := Value.none, pyModule := Value.str (Str.ofString "gmp.school") 377, code := Value.ref 167 } }) :: (nat_lit 169, { cls := Value.type "tuple", data := Data.seq #[] }) :: (nat_lit 171, { cls := Value.type "tuple", data := Data.seq (List.toArray (Value.str (Str.ofString "rest") 437 :: Value.str (Str.ofString "b") 438 :: Value.str (Str.ofString "w") 439 :: Value.str (Str.ofString "size") 440 :: Value.str (Str.ofString "quotient") 441 :: Value.str (Str.ofString "at") 442 :: Value.str (Str.ofString "limb") 443 :: [])) }) :: (nat_lit 172, { cls := Value.type "tuple", data := Data.seq #[] }) :: (nat_lit 174, { cls := Value.type "code", data := Data.fields (List.toArray (Value.str (Str.ofString "divide_rows") 434 :: Value.str (Str.ofString "divide_rows") 435 :: Value.str (Str.ofString "/claim/cut.py") 436 :: Value.int 118 0 :: Value.int 3 0 :: Value.int 0 0 :: Value.int 0 0 :: Value.int 3 0 :: Value.ref 169 :: Value.bool true :: Value.int 181 0 :: Value.ref 170 :: Value.none :: Value.ref 171 :: Value.ref 172 :: Value.ref 173 :: Value.int 444 0 :: Value.int 118 0 :: Value.str (Str.ofString "/claim/cut.py") 445 :: [])) }) :: (nat_lit 175, { cls := Value.type "function", data := Data.func { name := Str.ofString "divide_rows", qualname := Str.ofString "divide_rows", params := p17, body := b17, scope := { kind := ScopeKind.function, names := ((Str.ofString "rest", NameKind.local) :: (Str.ofString "b", NameKind.local) :: (Str.ofString "w", NameKind.local) :: (Str.ofString "size", NameKind.local) :: (Str.ofString "quotient", NameKind.local) :: (Str.ofString "at", NameKind.local) :: (Str.ofString "limb", NameKind.local) :: (Str.ofString "len", NameKind.globalImplicit) :: (Str.ofString "range", NameKind.globalImplicit) :: (Str.ofString "guessed_limb", NameKind.globalImplicit) :: (Str.ofString "take_away", NameKind.globalImplicit) :: (Str.ofString "put_back", NameKind.globalImplicit) :: []), isGenerator := false, isCoroutine := false }, globals := 3, closure := [], defaults := Value.none, kwdefaults := Value.none, pyModule := Value.str (Str.ofString "gmp.school") 377, code := Value.ref 174 } }) :: (nat_lit 176, { cls := Value.type "tuple", data := Data.seq #[] }) :: (nat_lit 178, { cls := Value.type "tuple", data := Data.seq (List.toArray (Value.str (Str.ofString "a") 450 :: Value.str (Str.ofString "b") 451 :: Value.str (Str.ofString "w") 452 :: Value.str (Str.ofString "shift") 453 :: Value.str (Str.ofString "divisor") 454 :: Value.str (Str.ofString "rest") 455 :: Value.str (Str.ofString "quotient") 456 :: [])) }) :: (nat_lit 179, { cls := Value.type "tuple", data := Data.seq #[] }) :: (nat_lit 181, { cls := Value.type "code", data := Data.fields (List.toArray (Value.str (Str.ofString "divrem_school") 447 :: Value.str (Str.ofString "divrem_school") 448 :: Value.str (Str.ofString "/claim/cut.py") 449 :: Value.int 128 0 :: Value.int 3 0 :: Value.int 0 0 :: Value.int 0 0 :: Value.int 3 0 :: Value.ref 176 :: Value.bool true :: Value.int 181 0 :: Value.ref 177 :: Value.none :: Value.ref 178 :: Value.ref 179 :: Value.ref 180 :: Value.int 457 0 :: Value.int 128 0 :: Value.str (Str.ofString "/claim/cut.py") 458 :: [])) }) :: (nat_lit 182, { cls := Value.type "function", data := Data.func { name := Str.ofString "divrem_school", qualname := Str.ofString "divrem_school", params := p18, body := b18, scope := { kind := ScopeKind.function, names := ((Str.ofString "a", NameKind.local) :: (Str.ofString "b", NameKind.local) :: (Str.ofString "w", NameKind.local) :: (Str.ofString "shift", NameKind.local) :: (Str.ofString "divisor", NameKind.local) :: (Str.ofString "rest", NameKind.local) :: (Str.ofString "quotient", NameKind.local) :: (Str.ofString "len", NameKind.globalImplicit) :: (Str.ofString "DivisionByZero", NameKind.globalImplicit) :: (Str.ofString "compare", NameKind.globalImplicit) :: (Str.ofString "divrem_small", NameKind.globalImplicit) :: (Str.ofString "bits", NameKind.globalImplicit) :: (Str.ofString "shift_left", NameKind.globalImplicit) :: (Str.ofString "divide_rows", NameKind.globalImplicit) :: (Str.ofString "normal", NameKind.globalImplicit) :: (Str.ofString "shift_right", NameKind.globalImplicit) :: []), isGenerator := false, isCoroutine := false }, globals := 3, closure := [], defaults := Value.none, kwdefaults := Value.none, pyModule := Value.str (Str.ofString "gmp.school") 377, code := Value.ref 181 } }) :: (nat_lit 183, { cls := Value.type "tuple", data := Data.seq #[] }) :: (nat_lit 185, { cls := Value.type "tuple", data := Data.seq #[Value.str (Str.ofString "box") 465, Value.str (Str.ofString "many") 466] }) :: (nat_lit 186, { cls := Value.type "tuple", data := Data.seq #[] }) :: (nat_lit 188, { cls := Value.type "code", data := Data.fields (List.toArray (Value.str (Str.ofString "_law_take") 462 :: Value.str (Str.ofString "_law_take") 463 :: Value.str (Str.ofString "/claim/cut.py") 464 :: Value.int 142 0 :: Value.int 2 0 :: Value.int 0 0 :: Value.int 0 0 :: Value.int 3 0 :: Value.ref 183 :: Value.bool true :: Value.int 181 0 :: Value.ref 184 :: Value.none :: Value.ref 185 :: Value.ref 186 :: Value.ref 187 :: Value.int 467 0 :: Value.int 142 0 :: Value.str (Str.ofString "/claim/cut.py") 468 :: [])) }) :: (nat_lit 189, { cls := Value.type "function", data := Data.func { name := Str.ofString "_law_take", qualname := Str.ofString "_law_take", params := p19, body := b19, scope := { kind := ScopeKind.function, names := [(Str.ofString "box", NameKind.local), (Str.ofString "many", NameKind.local), (Str.ofString "len", NameKind.globalImplicit)], isGenerator := false, isCoroutine := false }, globals := 3, closure := [], defaults := Value.none, kwdefaults := Value.none, pyModule := Value.str (Str.ofString "law_nz0084_01") 460, code := Value.ref 188 } }) :: (nat_lit 190, { cls := Value.type "tuple", data := Data.seq #[] }) :: (nat_lit 193, { cls := Value.type "code", data := Data.fields (List.toArray (Value.str (Str.ofString "_law_box") 470 :: Value.str (Str.ofString "_law_box") 471 :: Value.str (Str.ofString "/claim/cut.py") 472 :: Value.int 147 0 :: Value.int 1 0 :: Value.int 0 0 :: Value.int 0 0 :: Value.int 3 0 :: Value.ref 190 :: Value.bool true :: Value.int 181 0 :: Value.ref 191 :: Value.none :: Value.none :: Value.none :: Value.ref 192 :: Value.int 473 0 :: Value.int 147 0 :: Value.str (Str.ofString "/claim/cut.py") 474 :: [])) }) :: (nat_lit 194, { cls := Value.type "function", data := Data.func { name := Str.ofString "_law_box", qualname := Str.ofString "_law_box", params := p20, body := b20, scope := { kind := ScopeKind.function, names := [(Str.ofString "script", NameKind.local), (Str.ofString "number", NameKind.local), (Str.ofString "box", NameKind.local), (Str.ofString "abs", NameKind.globalImplicit), (Str.ofString "int", NameKind.globalImplicit)], isGenerator := false, isCoroutine := false, more := [(Str.ofString "fast", Const.str (Str.ofString "script")), (Str.ofString "fast", Const.str (Str.ofString "number")), (Str.ofString "fast", Const.str (Str.ofString "box"))] }, globals := 3, closure := [], defaults := Value.none, kwdefaults := Value.none, pyModule := Value.str (Str.ofString "law_nz0084_01") 460, code := Value.ref 193 } }) :: (nat_lit 195, { cls := Value.type "tuple", data := Data.seq #[] }) :: (nat_lit 197, { cls := Value.type "tuple", data := Data.seq #[Value.str (Str.ofString "number") 479, Value.str (Str.ofString "w") 480, Value.str (Str.ofString "found") 481] }) :: (nat_lit 198, { cls := Value.type "tuple", data := Data.seq #[] }) :: (nat_lit 200, { cls := Value.type "code", data := Data.fields (List.toArray (Value.str (Str.ofString "_law_row") 476 :: Value.str (Str.ofString "_law_row") 477 :: Value.str (Str.ofString "/claim/cut.py") 478 :: Value.int 152 0 :: Value.int 2 0 :: Value.int 0 0 :: Value.int 0 0 :: Value.int 3 0 :: Value.ref 195 :: Value.bool true :: Value.int 181 0 :: Value.ref 196 :: Value.none :: Value.ref 197 :: Value.ref 198 :: Value.ref 199 :: Value.int 482 0 :: Value.int 152 0 :: Value.str (Str.ofString "/claim/cut.py") 483 :: [])) }) :: (nat_lit 201, { cls := Value.type "function", data := Data.func { name := Str.ofString "_law_row", qualname := Str.ofString "_law_row", params := p21, body := b21, scope := { kind := ScopeKind.function, names := [(Str.ofString "number", NameKind.local), (Str.ofString "w", NameKind.local), (Str.ofString "found", NameKind.local)], isGenerator := false, isCoroutine := false }, globals := 3, closure := [], defaults := Value.none, kwdefaults := Value.none, pyModule := Value.str (Str.ofString "law_nz0084_01") 460, code := Value.ref 200 } }) :: (nat_lit 202, { cls := Value.type "tuple", data := Data.seq #[] }) :: (nat_lit 204, { cls := Value.type "tuple", data := Data.seq #[Value.str (Str.ofString "a") 488, Value.str (Str.ofString "b") 489] }) :: (nat_lit 205, { cls := Value.type "tuple", data := Data.seq #[] }) :: (nat_lit 207, { cls := Value.type "code", data := Data.fields (List.toArray (Value.str (Str.ofString "_law_gcd") 485 :: Value.str (Str.ofString "_law_gcd") 486 :: Value.str (Str.ofString "/claim/cut.py") 487 :: Value.int 158 0 :: Value.int 2 0 :: Value.int 0 0 :: Value.int 0 0 :: Value.int 3 0 :: Value.ref 202 :: Value.bool true :: Value.int 181 0 :: Value.ref 203 :: Value.none :: Value.ref 204 :: Value.ref 205 :: Value.ref 206 :: Value.int 490 0 :: Value.int 158 0 :: Value.str (Str.ofString "/claim/cut.py") 491 :: [])) }) :: (nat_lit 208, { cls := Value.type "function", data := Data.func { name := Str.ofString "_law_gcd", qualname := Str.ofString "_law_gcd", params := p22, body := b22, scope := { kind := ScopeKind.function, names := [(Str.ofString "a", NameKind.local), (Str.ofString "b", NameKind.local)], isGenerator := false, isCoroutine := false }, globals := 3, closure := [], defaults := Value.none, kwdefaults := Value.none, pyModule := Value.str (Str.ofString "law_nz0084_01") 460, code := Value.ref 207 } }) :: (nat_lit 209, { cls := Value.type "tuple", data := Data.seq #[] }) :: (nat_lit 211, { cls := Value.type "tuple", data := Data.seq #[Value.str (Str.ofString "a") 496, Value.str (Str.ofString "n") 497, Value.str (Str.ofString "found") 498] }) :: (nat_lit 212, { cls := Value.type "tuple", data := Data.seq #[] }) :: (nat_lit 214, { cls := Value.type "code", data := Data.fields (List.toArray (Value.str (Str.ofString "_law_symbol") 493 :: Value.str (Str.ofString "_law_symbol") 494 :: Value.str (Str.ofString "/claim/cut.py") 495 :: Value.int 165 0 :: Value.int 2 0 :: Value.int 0 0 :: Value.int 0 0 :: Value.int 3 0 :: Value.ref 209 :: Value.bool true :: Value.int 181 0 :: Value.ref 210 :: Value.none :: Value.ref 211 :: Value.ref 212 :: Value.ref 213 :: Value.int 499 0 :: Value.int 165 0 :: Value.str (Str.ofString "/claim/cut.py") 500 :: [])) }) :: (nat_lit 215, { cls := Value.type "function", data := Data.func { name := Str.ofString "_law_symbol", qualname := Str.ofString "_law_symbol", params := p23, body := b23, scope := { kind := ScopeKind.function, names := [(Str.ofString "a", NameKind.local), (Str.ofString "n", NameKind.local), (Str.ofString "found", NameKind.local)], isGenerator := false, isCoroutine := false }, globals := 3, closure := [], defaults := Value.none, kwdefaults := Value.none, pyModule := Value.str (Str.ofString "law_nz0084_01") 460, code := Value.ref 214 } }) :: (nat_lit 216, { cls := Value.type "tuple", data := Data.seq #[] }) :: (nat_lit 218, { cls := Value.type "tuple", data := Data.seq #[Value.str (Str.ofString "x") 505, Value.str (Str.ofString "y") 506, Value.str (Str.ofString "found") 507] }) :: (nat_lit 219, { cls := Value.type "tuple", data := Data.seq #[] }) :: (nat_lit 221, { cls := Value.type "code", data := Data.fields (List.toArray (Value.str (Str.ofString "_law_wide") 502 :: Value.str (Str.ofString "_law_wide") 503 :: Value.str (Str.ofString "/claim/cut.py") 504 :: Value.int 178 0 :: Value.int 2 0 :: Value.int 0 0 :: Value.int 0 0 :: Value.int 3 0 :: Value.ref 216 :: Value.bool true :: Value.int 181 0 :: Value.ref 217 :: Value.none :: Value.ref 218 :: Value.ref 219 :: Value.ref 220 :: Value.int 508 0 :: Value.int 178 0 :: Value.str (Str.ofString "/claim/cut.py") 509 :: [])) }) :: (nat_lit 222, { cls := Value.type "function", data := Data.func { name := Str.ofString "_law_wide", qualname := Str.ofString "_law_wide", params := p24, body := b24, scope := { kind := ScopeKind.function, names := [(Str.ofString "x", NameKind.local), (Str.ofString "y", NameKind.local), (Str.ofString "found", NameKind.local), (Str.ofString "abs", NameKind.globalImplicit), (Str.ofString "_law_symbol", NameKind.globalImplicit)], isGenerator := false, isCoroutine := false }, globals := 3, closure := [], defaults := Value.none, kwdefaults := Value.none, pyModule := Value.str (Str.ofString "law_nz0084_01") 460, code := Value.ref 221 } }) :: (nat_lit 223, { cls := Value.type "tuple", data := Data.seq #[] }) :: (nat_lit 225, { cls := Value.type "tuple", data := Data.seq #[Value.str (Str.ofString "number") 514, Value.str (Str.ofString "w") 515] }) :: (nat_lit 226, { cls := Value.type "tuple", data := Data.seq #[] }) :: (nat_lit 228, { cls := Value.type "code", data := Data.fields (List.toArray (Value.str (Str.ofString "_law_signed") 511 :: Value.str (Str.ofString "_law_signed") 512 :: Value.str (Str.ofString "/claim/cut.py") 513 :: Value.int 184 0 :: Value.int 2 0 :: Value.int 0 0 :: Value.int 0 0 :: Value.int 3 0 :: Value.ref 223 :: Value.bool true :: Value.int 181 0 :: Value.ref 224 :: Value.none :: Value.ref 225 :: Value.ref 226 :: Value.ref 227 :: Value.int 516 0 :: Value.int 184 0 :: Value.str (Str.ofString "/claim/cut.py") 517 :: [])) }) :: (nat_lit 229, { cls := Value.type "function", data := Data.func { name := Str.ofString "_law_signed", qualname := Str.ofString "_law_signed", params := p25, body := b25, scope := { kind := ScopeKind.function, names := [(Str.ofString "number", NameKind.local), (Str.ofString "w", NameKind.local), (Str.ofString "_law_row", NameKind.globalImplicit), (Str.ofString "abs", NameKind.globalImplicit)], isGenerator := false, isCoroutine := false }, globals := 3, closure := [], defaults := Value.none, kwdefaults := Value.none, pyModule := Value.str (Str.ofString "law_nz0084_01") 460, code := Value.ref 228 } }) :: (nat_lit 230, { cls := Value.type "tuple", data := Data.seq #[] }) :: (nat_lit 232, { cls := Value.type "tuple", data := Data.seq (List.toArray (Value.str (Str.ofString "script") 522 :: Value.str (Str.ofString "box") 523 :: Value.str (Str.ofString "w") 524 :: Value.str (Str.ofString "n") 525 :: Value.str (Str.ofString "a") 526 :: Value.str (Str.ofString "m") 527 :: Value.str (Str.ofString "b") 528 :: Value.str (Str.ofString "told") 529 :: Value.str (Str.ofString "other") 530 :: Value.str (Str.ofString "below") 531 :: Value.str (Str.ofString "square") 532 :: Value.str (Str.ofString "turned") 533 :: Value.str (Str.ofString "x") 534 :: Value.str (Str.ofString "y") 535 :: [])) }) :: (nat_lit 233, { cls := Value.type "tuple", data := Data.seq #[] }) :: (nat_lit 235, { cls := Value.type "code", data := Data.fields (List.toArray (Value.str (Str.ofString "law") 519 :: Value.str (Str.ofString "law") 520 :: Value.str (Str.ofString "/claim/cut.py") 521 :: Value.int 186 0 :: Value.int 1 0 :: Value.int 0 0 :: Value.int 0 0 :: Value.int 3 0 :: Value.ref 230 :: Value.bool true :: Value.int 181 0 :: Value.ref 231 :: Value.none :: Value.ref 232 :: Value.ref 233 :: Value.ref 234 :: Value.int 536 0 :: Value.int 186 0 :: Value.str (Str.ofString "/claim/cut.py") 537 :: [])) }) :: (nat_lit 236, { cls := Value.type "function", data := Data.func { name := Str.ofString "law", qualname := Str.ofString "law", params := p26, body := b26, scope := { kind := ScopeKind.function, names := ((Str.ofString "script", NameKind.local) :: (Str.ofString "box", NameKind.local) :: (Str.ofString "w", NameKind.local) :: (Str.ofString "n", NameKind.local) :: (Str.ofString "a", NameKind.local) :: (Str.ofString "m", NameKind.local) :: (Str.ofString "b", NameKind.local) :: (Str.ofString "told", NameKind.local) :: (Str.ofString "other", NameKind.local) :: (Str.ofString "below", NameKind.local) :: (Str.ofString "square", NameKind.local) :: (Str.ofString "turned", NameKind.local) :: (Str.ofString "x", NameKind.local) :: (Str.ofString "y", NameKind.local) :: (Str.ofString "_law_box", NameKind.globalImplicit) :: (Str.ofString "_law_take", NameKind.globalImplicit) :: (Str.ofString "jacobi", NameKind.globalImplicit) :: (Str.ofString "_law_row", NameKind.globalImplicit) :: (Str.ofString "divrem_school", NameKind.globalImplicit) :: (Str.ofString "_law_symbol", NameKind.globalImplicit) :: (Str.ofString "_law_gcd", NameKind.globalImplicit) :: (Str.ofString "kronecker", NameKind.globalImplicit) :: (Str.ofString "_law_signed", NameKind.globalImplicit) :: (Str.ofString "_law_wide", NameKind.globalImplicit) :: []), isGenerator := false, isCoroutine := false }, globals := 3, closure := [], defaults := Value.none, kwdefaults := Value.none, pyModule := Value.str (Str.ofString "law_nz0084_01") 460, code := Value.ref 235 } }) :: [])
noncomputable def view_39 : Program := by
  refine (?f : ∀ {s0 : Stmt} {s1 : Stmt} {s2 : Stmt} {s3 : Stmt} {s4 : Stmt} {s5 : Stmt} {s6 : Stmt} {s7 : Stmt} {s8 : Stmt} {s9 : Stmt} {s10 : Stmt} {s11 : Stmt} {s12 : Stmt} {s13 : Stmt} {s14 : Stmt} {s15 : Stmt} {s16 : Stmt} {s17 : Stmt} {s18 : Stmt} {s19 : Stmt} {s20 : Stmt} {s21 : Stmt} {s22 : Stmt} {s23 : Stmt} {s24 : Stmt} {s25 : Stmt} {s26 : Stmt} {s27 : Stmt} {s28 : Stmt} {s29 : Stmt} {s30 : Stmt} {s31 : Stmt} {s32 : Stmt} {s33 : Stmt}, PySem.Challenge.pw_nz0084_01.main.body = (s0 :: s1 :: s2 :: s3 :: s4 :: s5 :: s6 :: s7 :: s8 :: s9 :: s10 :: s11 :: s12 :: s13 :: s14 :: s15 :: s16 :: s17 :: s18 :: s19 :: s20 :: s21 :: s22 :: s23 :: s24 :: s25 :: s26 :: s27 :: s28 :: s29 :: s30 :: s31 :: s32 :: s33 :: []) → Program) rfl
  exact fun {s0} {s1} {s2} {s3} {s4} {s5} {s6} {s7} {s8} {s9} {s10} {s11} {s12} {s13} {s14} {s15} {s16} {s17} {s18} {s19} {s20} {s21} {s22} {s23} {s24} {s25} {s26} {s27} {s28} {s29} {s30} {s31} {s32} {s33} _ => { PySem.Challenge.rw_nz0084_01.row.toRowW.prog with main := { PySem.Challenge.rw_nz0084_01.row.toRowW.prog.main with body := (s1 :: s2 :: s3 :: s4 :: s5 :: s6 :: s7 :: s8 :: s9 :: s10 :: s11 :: s12 :: s14 :: s15 :: s16 :: s17 :: s19 :: s20 :: s21 :: s22 :: s23 :: s24 :: s26 :: s27 :: s28 :: s29 :: s30 :: s31 :: s32 :: s33 :: []) } }
end hd
noncomputable def hook : Hook := kHook hd.heap_39 (nat_lit 2 :: nat_lit 3 :: nat_lit 15 :: nat_lit 22 :: nat_lit 23 :: nat_lit 24 :: nat_lit 25 :: nat_lit 28 :: nat_lit 35 :: nat_lit 36 :: nat_lit 37 :: nat_lit 40 :: nat_lit 47 :: nat_lit 48 :: nat_lit 49 :: nat_lit 52 :: nat_lit 54 :: nat_lit 55 :: nat_lit 57 :: nat_lit 58 :: nat_lit 59 :: nat_lit 61 :: nat_lit 62 :: nat_lit 64 :: nat_lit 65 :: nat_lit 66 :: nat_lit 68 :: nat_lit 69 :: nat_lit 71 :: nat_lit 72 :: nat_lit 73 :: nat_lit 75 :: nat_lit 76 :: nat_lit 78 :: nat_lit 79 :: nat_lit 80 :: nat_lit 82 :: nat_lit 83 :: nat_lit 85 :: nat_lit 86 :: nat_lit 87 :: nat_lit 89 :: nat_lit 90 :: nat_lit 92 :: nat_lit 93 :: nat_lit 94 :: nat_lit 96 :: nat_lit 97 :: nat_lit 99 :: nat_lit 100 :: nat_lit 101 :: nat_lit 103 :: nat_lit 104 :: nat_lit 106 :: nat_lit 107 :: nat_lit 108 :: nat_lit 110 :: nat_lit 111 :: nat_lit 113 :: nat_lit 114 :: nat_lit 115 :: nat_lit 118 :: nat_lit 119 :: nat_lit 120 :: nat_lit 122 :: nat_lit 123 :: nat_lit 125 :: nat_lit 126 :: nat_lit 127 :: nat_lit 129 :: nat_lit 130 :: nat_lit 132 :: nat_lit 133 :: nat_lit 134 :: nat_lit 136 :: nat_lit 137 :: nat_lit 139 :: nat_lit 140 :: nat_lit 141 :: nat_lit 143 :: nat_lit 144 :: nat_lit 146 :: nat_lit 147 :: nat_lit 148 :: nat_lit 150 :: nat_lit 151 :: nat_lit 153 :: nat_lit 154 :: nat_lit 155 :: nat_lit 157 :: nat_lit 158 :: nat_lit 160 :: nat_lit 161 :: nat_lit 162 :: nat_lit 164 :: nat_lit 165 :: nat_lit 167 :: nat_lit 168 :: nat_lit 169 :: nat_lit 171 :: nat_lit 172 :: nat_lit 174 :: nat_lit 175 :: nat_lit 176 :: nat_lit 178 :: nat_lit 179 :: nat_lit 181 :: nat_lit 182 :: nat_lit 183 :: nat_lit 185 :: nat_lit 186 :: nat_lit 188 :: nat_lit 189 :: nat_lit 190 :: nat_lit 193 :: nat_lit 194 :: nat_lit 195 :: nat_lit 197 :: nat_lit 198 :: nat_lit 200 :: nat_lit 201 :: nat_lit 202 :: nat_lit 204 :: nat_lit 205 :: nat_lit 207 :: nat_lit 208 :: nat_lit 209 :: nat_lit 211 :: nat_lit 212 :: nat_lit 214 :: nat_lit 215 :: nat_lit 216 :: nat_lit 218 :: nat_lit 219 :: nat_lit 221 :: nat_lit 222 :: nat_lit 223 :: nat_lit 225 :: nat_lit 226 :: nat_lit 228 :: nat_lit 229 :: nat_lit 230 :: nat_lit 232 :: nat_lit 233 :: nat_lit 235 :: nat_lit 236 :: []) (fun _ => by kernel_rfl)
theorem said_all : OpenLaw.wellSaid PySem.Challenge.rw_nz0084_01 = true := by
  unfold OpenLaw.wellSaid
  repeat' with_reducible refine Bool.and_eq_true_iff.mpr ⟨?_, ?_⟩
  all_goals try (conv => lhs; delta OpenRow.wellSaid OpenRow.partSaid looksOpen)
  all_goals try dsimp only
  repeat' with_reducible refine Bool.and_eq_true_iff.mpr ⟨?_, ?_⟩
  all_goals decide +kernel
theorem left_all : LeftO PySem.Challenge.rw_nz0084_01.row.prog hd.view_39 [] (fun s => xlAt hd.view_39 [] s && recOk (RowW.records PySem.Challenge.rw_nz0084_01.row.toRowW) s) (Hook.obs hook) (Hook.val hook) 3206 := fun w => by
  first
  | (unfold openEnds fencedOpening topFrom
     rw [PySem.W.Fast.te10274390034422433532, PySem.W.Fast.te14082659384304107361, PySem.W.Fast.te14289696077712309145, PySem.W.Fast.te4187177175401517315, PySem.W.Fast.te14364793385576792824, PySem.W.Fast.te1435165496053646825, PySem.W.Fast.te8920871248978507458, PySem.W.Fast.te5923862056798008813]
     kernel_rfl)
  | kernel_rfl
theorem hd {d : DefRec} {kwd : List (Str × Expr)} (hdef : defOf hd.view_39 PySem.Challenge.rw_nz0084_01.row.name = some (d, kwd)) (hp : PySem.Challenge.rw_nz0084_01.row.prog.theDef PySem.Challenge.rw_nz0084_01.row.name = some (d.params, d.body, d.scope)) (hk : kwWritten? d.params.kwonlyargs d.params.kw_defaults = some kwd)
    (walk : WalkO hd.view_39 [] (XL hd.view_39 []) (kHook hd.heap_39 (nat_lit 2 :: nat_lit 3 :: nat_lit 15 :: nat_lit 22 :: nat_lit 23 :: nat_lit 24 :: nat_lit 25 :: nat_lit 28 :: nat_lit 35 :: nat_lit 36 :: nat_lit 37 :: nat_lit 40 :: nat_lit 47 :: nat_lit 48 :: nat_lit 49 :: nat_lit 52 :: nat_lit 54 :: nat_lit 55 :: nat_lit 57 :: nat_lit 58 :: nat_lit 59 :: nat_lit 61 :: nat_lit 62 :: nat_lit 64 :: nat_lit 65 :: nat_lit 66 :: nat_lit 68 :: nat_lit 69 :: nat_lit 71 :: nat_lit 72 :: nat_lit 73 :: nat_lit 75 :: nat_lit 76 :: nat_lit 78 :: nat_lit 79 :: nat_lit 80 :: nat_lit 82 :: nat_lit 83 :: nat_lit 85 :: nat_lit 86 :: nat_lit 87 :: nat_lit 89 :: nat_lit 90 :: nat_lit 92 :: nat_lit 93 :: nat_lit 94 :: nat_lit 96 :: nat_lit 97 :: nat_lit 99 :: nat_lit 100 :: nat_lit 101 :: nat_lit 103 :: nat_lit 104 :: nat_lit 106 :: nat_lit 107 :: nat_lit 108 :: nat_lit 110 :: nat_lit 111 :: nat_lit 113 :: nat_lit 114 :: nat_lit 115 :: nat_lit 118 :: nat_lit 119 :: nat_lit 120 :: nat_lit 122 :: nat_lit 123 :: nat_lit 125 :: nat_lit 126 :: nat_lit 127 :: nat_lit 129 :: nat_lit 130 :: nat_lit 132 :: nat_lit 133 :: nat_lit 134 :: nat_lit 136 :: nat_lit 137 :: nat_lit 139 :: nat_lit 140 :: nat_lit 141 :: nat_lit 143 :: nat_lit 144 :: nat_lit 146 :: nat_lit 147 :: nat_lit 148 :: nat_lit 150 :: nat_lit 151 :: nat_lit 153 :: nat_lit 154 :: nat_lit 155 :: nat_lit 157 :: nat_lit 158 :: nat_lit 160 :: nat_lit 161 :: nat_lit 162 :: nat_lit 164 :: nat_lit 165 :: nat_lit 167 :: nat_lit 168 :: nat_lit 169 :: nat_lit 171 :: nat_lit 172 :: nat_lit 174 :: nat_lit 175 :: nat_lit 176 :: nat_lit 178 :: nat_lit 179 :: nat_lit 181 :: nat_lit 182 :: nat_lit 183 :: nat_lit 185 :: nat_lit 186 :: nat_lit 188 :: nat_lit 189 :: nat_lit 190 :: nat_lit 193 :: nat_lit 194 :: nat_lit 195 :: nat_lit 197 :: nat_lit 198 :: nat_lit 200 :: nat_lit 201 :: nat_lit 202 :: nat_lit 204 :: nat_lit 205 :: nat_lit 207 :: nat_lit 208 :: nat_lit 209 :: nat_lit 211 :: nat_lit 212 :: nat_lit 214 :: nat_lit 215 :: nat_lit 216 :: nat_lit 218 :: nat_lit 219 :: nat_lit 221 :: nat_lit 222 :: nat_lit 223 :: nat_lit 225 :: nat_lit 226 :: nat_lit 228 :: nat_lit 229 :: nat_lit 230 :: nat_lit 232 :: nat_lit 233 :: nat_lit 235 :: nat_lit 236 :: []) (fun _ => by kernel_rfl)).says PySem.Challenge.rw_nz0084_01.row.toRowW d kwd fun f vs => PySem.call f vs) : PySem.Challenge.rw_nz0084_01.Holds := by
  w_on
  refine holds_law said_all fun said => ?_
  refine holds_open (q := hd.view_39) (loose := []) (Xt := fun s => xlAt hd.view_39 [] s && recOk (RowW.records PySem.Challenge.rw_nz0084_01.row.toRowW) s) (XP := XL hd.view_39 []) (Yf := Hook.obs hook) (Ya := Hook.val hook) (YP := Hook.says hook) (N := 3206) left_all (Hook.of hook) (Hook.keeps hook) (fun s e => xl_of s (Bool.and_eq_true_iff.mp e).1) XL.keeps hdef hp hk (fun s e => recFacts_of (Bool.and_eq_true_iff.mp e).2) (by rfl) (by first | assumption | decide +kernel) (by decide +kernel) ⟨rfl, rfl, rfl, rfl, rfl, by decide +kernel⟩ ?hw walk
  w_witness2
end Mine
end
section
namespace Mine
open PySem PySem.W PyProof.Rows
def val (β : Int) : List Int → Int
  | [] => 0
  | x :: xs => x + β * val β xs
def Dig (β : Int) (l : List Int) : Prop := ∀ x ∈ l, 0 ≤ x ∧ x < β
def Norm (l : List Int) : Prop := ∀ i : Nat, l.length = i + 1 → l.getD i 0 ≠ 0
structure Row (β v : Int) (l : List Int) : Prop where
  dig : Dig β l
  norm : Norm l
  eq : val β l = v
theorem getD_ge {l : List Int} {j : Nat} (h : l.length ≤ j) : l.getD j 0 = 0 := by
  rw [List.getD_eq_getElem?_getD, List.getElem?_eq_none h]; rfl
theorem getD_mem {l : List Int} {j : Nat} (h : j < l.length) : l.getD j 0 ∈ l := by
  rw [List.getD_eq_getElem?_getD, List.getElem?_eq_getElem h]; exact List.getElem_mem h
theorem split_at {l pre post : List Int} {n : Int} (h : l = pre ++ n :: post) : pre.length < l.length ∧ l.getD pre.length 0 = n ∧ ∀ j < pre.length, l.getD j 0 = pre.getD j 0 := by
  subst h
  refine ⟨by simp, by simp [List.getD_eq_getElem?_getD], fun j hj => ?_⟩
  simp [List.getD_eq_getElem?_getD, List.getElem?_append_left hj]
theorem two_odd : ∀ (k : Nat) (x : Int), x.toNat = k → 0 < x → ∃ (e : Nat) (o : Int), x = 2 ^ e * (2 * o + 1) ∧ 0 ≤ o := by
  intro k
  induction k using Nat.strongRecOn with
  | ind k ih =>
    intro x hk hx
    by_cases h : x % 2 = 1
    · exact ⟨0, x / 2, by lia, by lia⟩
    · obtain ⟨e, o, h1, h2⟩ := ih (x / 2).toNat (by lia) (x / 2) rfl (by lia)
      refine ⟨e + 1, o, ?_, h2⟩
      rw [Int.pow_succ, Int.mul_comm (2 ^ e) 2, Int.mul_assoc, ← h1]
      lia
theorem intBits_pow (k : Nat) : Builtin.Int.intBits ((2 : Int) ^ k) = k + 1 := by
  have hc := kbt_cast k
  have hp := kbt_pos k
  have h1 : Builtin.Int.intBits ((2 : Int) ^ k) ≤ k + 1 := intBits_le_iff.mpr (by
    have : (2:Nat) ^ (k + 1) = 2 * 2 ^ k := by rw [Nat.pow_succ]; lia
    have : 0 < 2 ^ k := Nat.two_pow_pos k
    lia)
  have h2 : ¬ Builtin.Int.intBits ((2 : Int) ^ k) ≤ k := fun h => by
    have := intBits_le_iff.mp h
    lia
  lia
theorem Dig.getD {β : Int} {l : List Int} (h : Dig β l) (hβ : 0 < β) (i : Nat) : 0 ≤ l.getD i 0 ∧ l.getD i 0 < β := by
  by_cases hi : i < l.length
  · exact h _ (getD_mem hi)
  · rw [getD_ge (by lia)]; lia
theorem or_shift {k : Nat} {β a x : Int} (hβ : (2 : Int) ^ k = β) (ha : 0 ≤ a) (hx : 0 ≤ x ∧ x < β) : Builtin.bitOr (a * β) x = a * β + x := by
  subst hβ
  have hp := kbt_pos k
  have hc := kbt_cast k
  have h0 : 0 ≤ a * 2 ^ k := Int.mul_nonneg ha (Int.le_of_lt hp)
  rw [bitOr_and, bitAnd_pp h0 hx.1]
  have e1 : (a * 2 ^ k).toNat = 2 ^ k * a.toNat := by
    have : ((2 ^ k * a.toNat : Nat) : Int) = a * 2 ^ k := by
      rw [Int.natCast_mul, hc, Int.toNat_of_nonneg ha, Int.mul_comm]
    lia
  have h2 : x.toNat < 2 ^ k := by lia
  have h3 := nat_or_add_and (2 ^ k * a.toNat) x.toNat
  have h4 := Nat.two_pow_add_eq_or_of_lt h2 a.toNat
  rw [e1]
  lia
theorem and_mask {k : Nat} {β x : Int} (hβ : (2 : Int) ^ k = β) : Builtin.bitAnd x (β - 1) = x % β := by
  subst hβ; exact kbt_mask x k
section
variable {β : Int}
theorem val_append (xs ys : List Int) : val β (xs ++ ys) = val β xs + β ^ xs.length * val β ys := by
  induction xs with
  | nil => simp [val]
  | cons x xs ih => simp only [List.cons_append, val, ih, List.length_cons, Int.pow_succ]; rw [Int.mul_add, Int.mul_comm (β ^ xs.length) β, Int.mul_assoc]; lia
theorem val_nil : val β [] = 0 := rfl
theorem val_one (x : Int) : val β [x] = x := by simp [val]
theorem drop_step {l : List Int} {j : Nat} (h : j < l.length) : l.drop j = l.getD j 0 :: l.drop (j + 1) := by
  rw [List.getD_eq_getElem?_getD, List.getElem?_eq_getElem h]; exact List.drop_eq_getElem_cons h
theorem take_step {l : List Int} {j : Nat} (h : j < l.length) : l.take (j + 1) = l.take j ++ [l.getD j 0] := by
  rw [List.getD_eq_getElem?_getD, List.getElem?_eq_getElem h]; exact (List.take_append_getElem h).symm
theorem val_drop {l : List Int} {j : Nat} (h : j < l.length) : val β (l.drop j) = l.getD j 0 + β * val β (l.drop (j + 1)) := by
  rw [drop_step h]; rfl
theorem val_take {l : List Int} {j : Nat} (h : j < l.length) : val β (l.take (j + 1)) = val β (l.take j) + β ^ j * l.getD j 0 := by
  rw [take_step h, val_append, val_one, List.length_take, Nat.min_eq_left (by lia)]
theorem val_split (l : List Int) (j : Nat) (h : j ≤ l.length) : val β l = val β (l.take j) + β ^ j * val β (l.drop j) := by
  conv => lhs; rw [← List.take_append_drop j l]
  rw [val_append, List.length_take, Nat.min_eq_left h]
theorem Dig.drop {l : List Int} (h : Dig β l) (j : Nat) : Dig β (l.drop j) := fun x hx => h x (List.mem_of_mem_drop hx)
theorem Dig.take {l : List Int} (h : Dig β l) (j : Nat) : Dig β (l.take j) := fun x hx => h x (List.mem_of_mem_take hx)
theorem Dig.append {l l' : List Int} (h : Dig β l) (h' : Dig β l') : Dig β (l ++ l') := fun x hx => (List.mem_append.mp hx).elim (h x) (h' x)
theorem Dig.set {l : List Int} (h : Dig β l) {x : Int} (hx : 0 ≤ x ∧ x < β) (i : Nat) : Dig β (l.set i x) := fun y hy => by
  rcases List.mem_or_eq_of_mem_set hy with h1 | h1
  · exact h y h1
  · rw [h1]; exact hx
theorem val_nonneg {l : List Int} (hβ : 0 < β) (h : Dig β l) : 0 ≤ val β l := by
  induction l with
  | nil => exact Int.le_refl _
  | cons x xs ih =>
    have h1 := h x (.head _)
    have h2 := ih fun y hy => h y (.tail _ hy)
    have h3 := Int.mul_nonneg (Int.le_of_lt hβ) h2
    simp only [val]; lia
theorem val_lt {l : List Int} (hβ : 0 < β) (h : Dig β l) : val β l < β ^ l.length := by
  induction l with
  | nil => simp [val]
  | cons x xs ih =>
    have h1 := h x (.head _)
    have h2 := ih fun y hy => h y (.tail _ hy)
    have h3 : β * (val β xs + 1) ≤ β * β ^ xs.length := Int.mul_le_mul_of_nonneg_left (by lia) (Int.le_of_lt hβ)
    simp only [val, List.length_cons, Int.pow_succ]
    rw [Int.mul_comm (β ^ xs.length) β]
    rw [Int.mul_add, Int.mul_one] at h3
    lia
theorem val_zeros {l : List Int} (h : ∀ i, l.getD i 0 = 0) : val β l = 0 := by
  induction l with
  | nil => rfl
  | cons x xs ih =>
    have h1 : x = 0 := by simpa using h 0
    have h2 := ih fun i => by simpa using h (i + 1)
    simp [val, h1, h2]
theorem getD_drop (l : List Int) (k i : Nat) : (l.drop k).getD i 0 = l.getD (k + i) 0 := by
  simp [List.getD_eq_getElem?_getD]
theorem getD_take {l : List Int} {k i : Nat} (h : i < k) : (l.take k).getD i 0 = l.getD i 0 := by
  simp [List.getD_eq_getElem?_getD, h]
theorem val_take_zeros {l : List Int} {k : Nat} (hk : k ≤ l.length) (h : ∀ i, k ≤ i → l.getD i 0 = 0) : val β (l.take k) = val β l := by
  rw [val_split l k hk, val_zeros (l := l.drop k) fun i => by rw [getD_drop]; exact h _ (by lia)]; simp
theorem Norm.take {l : List Int} {k : Nat} (hk : k ≤ l.length) (h : ∀ i, k = i + 1 → l.getD i 0 ≠ 0) : Norm (l.take k) := fun i hi => by
  rw [List.length_take, Nat.min_eq_left hk] at hi
  rw [getD_take (by lia)]
  exact h i hi
end
theorem divlimb_step {β d r x : Int} {ns : List Int} {j : Nat} {k : Int} (hd : 0 < d) (hr : r = val β (ns.drop (ns.length - j)) % d) (hj : j < ns.length) (hk : k = ns.length - 1 - j) (hx : x = ns.getD k.toNat 0) :
    (r * β + x).fmod d = val β (ns.drop (ns.length - (j + 1))) % d := by
  rw [Int.fmod_eq_emod_of_nonneg _ (by lia), val_drop (j := ns.length - (j + 1)) (by lia), show ns.length - (j + 1) + 1 = ns.length - j from by lia, hx, show k.toNat = ns.length - (j + 1) from by lia, hr,
    Int.add_comm _ (ns.getD _ 0), Int.mul_comm β, Int.add_emod, Int.mul_emod, Int.emod_emod, ← Int.mul_emod, ← Int.add_emod]
theorem divlimb_turn {β d r : Int} {ns pre f : List Int} {k n : Int} {N : Nat} (hd : 0 < d) (hr : r = val β (ns.drop (ns.length - pre.length)) % d) (hj : pre.length < ns.length) (hk : k = ns.length - 1 - pre.length) (hf : f.length = N) :
    (0 ≤ (r * β + ns.getD k.toNat 0).fmod d ∧ (r * β + ns.getD k.toNat 0).fmod d < d ∧ (r * β + ns.getD k.toNat 0).fmod d = val β (ns.drop (ns.length - (pre ++ [n]).length)) % d) ∧ f.length = N := by
  have h := divlimb_step (β := β) hd hr hj hk rfl
  refine ⟨⟨?_, ?_, ?_⟩, hf⟩
  · rw [h]; exact Int.emod_nonneg _ (by lia)
  · rw [h]; exact Int.emod_lt_of_pos _ hd
  · rw [h]; simp
theorem divlimb_start {β d : Int} {ns f : List Int} (hd : 0 < d) (hf : f.length = ns.length) :
    ((0 : Int) ≤ 0 ∧ 0 < d ∧ 0 = val β (ns.drop (ns.length - ([] : List Int).length)) % d) ∧ f.length = ns.length :=
  ⟨⟨Int.le_refl _, hd, by simp [val]⟩, hf⟩
end Mine
end
section
namespace Mine
open PySem PySem.W PyProof.Rows
theorem two_sign1 {k v : Int} (hk : k % 2 = 1) (h : ([3, 5].any fun x => x == v) = true) : (-1 : Int) = if k % 2 = 1 ∧ (v = 3 ∨ v = 5) then -1 else 1 := by
  simp only [List.any_cons, List.any_nil, Bool.or_false, Bool.or_eq_true, beq_iff_eq] at h
  rw [if_pos ⟨hk, by lia⟩]
theorem two_sign2 {k v : Int} (h : ([3, 5].any fun x => x == v) = false) : (1 : Int) = if k % 2 = 1 ∧ (v = 3 ∨ v = 5) then -1 else 1 := by
  simp only [List.any_cons, List.any_nil, Bool.or_false, Bool.or_eq_false_iff, beq_eq_false_iff_ne] at h
  rw [if_neg (fun q => by lia)]
theorem two_sign3 {k v : Int} (h : k % 2 ≠ 1) : (1 : Int) = if k % 2 = 1 ∧ (v = 3 ∨ v = 5) then -1 else 1 := by
  rw [if_neg (fun q => h q.1)]
section
variable {β γ δ : Int}
theorem shl_start (hγ : 1 ≤ γ) {f : List Int} (hf : f = []) : Dig β f ∧ f.length = ([] : List Int).length ∧ (0 : Int) ≤ 0 ∧ (0 : Int) < γ ∧ val β f + β ^ ([] : List Int).length * 0 = val β [] * γ := by
  subst hf; exact ⟨(fun x hx => nomatch hx), rfl, Int.le_refl _, by lia, by simp [val]⟩
theorem shl_turn {c n : Int} {f pre : List Int} (hβ : 0 < β) (hγ : 1 ≤ γ) (hn : 0 ≤ n ∧ n < β) (h1 : Dig β f) (h2 : f.length = pre.length) (h3 : 0 ≤ c) (h4 : c < γ) (h5 : val β f + β ^ pre.length * c = val β pre * γ) :
    Dig β (f ++ [(n * γ + c) % β]) ∧ (f ++ [(n * γ + c) % β]).length = (pre ++ [n]).length ∧ 0 ≤ (n * γ + c) / β ∧ (n * γ + c) / β < γ ∧ val β (f ++ [(n * γ + c) % β]) + β ^ (pre ++ [n]).length * ((n * γ + c) / β) = val β (pre ++ [n]) * γ := by
  have h0 : 0 ≤ n * γ := Int.mul_nonneg hn.1 (by lia)
  refine ⟨h1.append ?_, by simp [h2], Int.ediv_nonneg (by lia) (by lia), ?_, ?_⟩
  · intro x hx
    rw [List.mem_singleton.mp hx]
    exact ⟨Int.emod_nonneg _ (by lia), Int.emod_lt_of_pos _ hβ⟩
  · refine Int.ediv_lt_of_lt_mul hβ ?_
    have : n * γ ≤ (β - 1) * γ := Int.mul_le_mul_of_nonneg_right (by lia) (by lia)
    rw [Int.sub_mul, Int.one_mul] at this
    rw [Int.mul_comm γ β]; lia
  · rw [val_append, val_append, val_one, val_one, h2, List.length_append, List.length_singleton, Int.pow_succ, Int.mul_assoc, Int.add_assoc, ← Int.mul_add, Int.emod_add_mul_ediv, Int.add_mul, ← h5, Int.mul_add, Int.mul_assoc]
    lia
theorem shl_end {c : Int} {f ns : List Int} (hβ : 0 < β) (hγ2 : γ ≤ β) (h1 : Dig β f) (h2 : f.length = ns.length) (h3 : 0 < c) (h4 : c < γ) (h5 : val β f + β ^ ns.length * c = val β ns * γ) :
    Dig β (f ++ [c]) ∧ val β (f ++ [c]) = val β ns * γ ∧ ((f ++ [c]).length = ns.length ∨ (f ++ [c]).length = ns.length + 1 ∧ β ^ ns.length ≤ val β (f ++ [c])) := by
  have e : val β (f ++ [c]) = val β ns * γ := by rw [val_append, val_one, h2, h5]
  refine ⟨h1.append fun x hx => ?_, e, Or.inr ⟨by simp [h2], ?_⟩⟩
  · rw [List.mem_singleton.mp hx]; lia
  · rw [val_append, val_one, h2]
    have := val_nonneg hβ h1
    have hp : 0 < β ^ ns.length := Int.pow_pos hβ
    have : β ^ ns.length * 1 ≤ β ^ ns.length * c := Int.mul_le_mul_of_nonneg_left (by lia) (by lia)
    lia
theorem shl_end0 {c : Int} {f ns : List Int} (h1 : Dig β f) (h2 : f.length = ns.length) (h3 : 0 ≤ c) (h4 : ¬ 0 < c) (h5 : val β f + β ^ ns.length * c = val β ns * γ) :
    Dig β f ∧ val β f = val β ns * γ ∧ (f.length = ns.length ∨ f.length = ns.length + 1 ∧ β ^ ns.length ≤ val β f) := by
  have : c = 0 := by lia
  subst this
  exact ⟨h1, by simpa using h5, Or.inl h2⟩
/-- one limb of a shift to the right -/
theorem shr_digit {x y B : Int} (hγ : 0 < γ) (hδ : 0 < δ) (hβ : β = γ * δ) (hx : 0 ≤ x ∧ x < β) (hy : y % γ = B % γ) (hB : 0 ≤ B) :
    (y * δ + x / γ) % β + β * (B / γ) = (x + β * B) / γ ∧ 0 ≤ (y * δ + x / γ) % β ∧ (y * δ + x / γ) % β < β := by
  have hb : 0 < β := by rw [hβ]; exact Int.mul_pos hγ hδ
  have e1 : (x + β * B) / γ = x / γ + δ * B := by
    rw [hβ, Int.mul_assoc, Int.add_mul_ediv_left _ _ (by lia)]
  have hxd : 0 ≤ x / γ := Int.ediv_nonneg hx.1 (by lia)
  have hxd2 : x / γ < δ := Int.ediv_lt_of_lt_mul hγ (by rw [Int.mul_comm]; lia)
  have hr := Int.emod_nonneg y (show γ ≠ 0 by lia)
  have hr2 := Int.emod_lt_of_pos y hγ
  have e2 : y * δ + x / γ = (y % γ * δ + x / γ) + β * (y / γ) := by
    have h := Int.emod_add_mul_ediv y γ
    have : y * δ = (y % γ + γ * (y / γ)) * δ := by rw [h]
    rw [this, Int.add_mul, hβ, Int.mul_assoc γ (y / γ) δ, Int.mul_comm (y / γ) δ, ← Int.mul_assoc γ δ]; lia
  have h0 : 0 ≤ y % γ * δ := Int.mul_nonneg hr (by lia)
  have h1 : y % γ * δ ≤ (γ - 1) * δ := Int.mul_le_mul_of_nonneg_right (by lia) (by lia)
  rw [Int.sub_mul, Int.one_mul, ← hβ] at h1
  have e3 : (y * δ + x / γ) % β = y % γ * δ + x / γ := by
    rw [e2, Int.add_mul_emod_self_left, Int.emod_eq_of_lt (by lia) (by lia)]
  refine ⟨?_, Int.emod_nonneg _ (by lia), Int.emod_lt_of_pos _ hb⟩
  rw [e3, e1, hy]
  have h := Int.emod_add_mul_ediv B γ
  have : δ * B = δ * (B % γ + γ * (B / γ)) := by rw [h]
  rw [this, Int.mul_add, ← Int.mul_assoc, Int.mul_comm δ γ, ← hβ, Int.mul_comm δ]; lia
theorem shr_start {f ns : List Int} {sp : Nat} (hf : f = []) : f.length = ([] : List Int).length ∧ Dig β f ∧ val β f + β ^ ([] : List Int).length * (val β (ns.drop (sp + ([] : List Int).length)) / γ) = val β (ns.drop sp) / γ := by
  subst hf; exact ⟨rfl, (fun x hx => nomatch hx), by simp [val]⟩
theorem shr_turn {f ns pre : List Int} {sp : Nat} {k y n : Int} (hγ : 0 < γ) (hδ : 0 < δ) (hβ : β = γ * δ) (hns : Dig β ns) (hk : k = sp + pre.length) (hlt : sp + pre.length < ns.length) (hy : y = ns.getD (sp + pre.length + 1) 0)
    (h1 : f.length = pre.length) (h2 : Dig β f) (h3 : val β f + β ^ pre.length * (val β (ns.drop (sp + pre.length)) / γ) = val β (ns.drop sp) / γ) :
    (f ++ [(y * δ + ns.getD k.toNat 0 / γ) % β]).length = (pre ++ [n]).length ∧ Dig β (f ++ [(y * δ + ns.getD k.toNat 0 / γ) % β]) ∧ val β (f ++ [(y * δ + ns.getD k.toNat 0 / γ) % β]) + β ^ (pre ++ [n]).length * (val β (ns.drop (sp + (pre ++ [n]).length)) / γ) = val β (ns.drop sp) / γ := by
  have hb : 0 < β := by rw [hβ]; exact Int.mul_pos hγ hδ
  have ek : k.toNat = sp + pre.length := by lia
  have hB := val_nonneg hb (hns.drop (sp + pre.length + 1))
  have hyB : y % γ = val β (ns.drop (sp + pre.length + 1)) % γ := by
    rw [hy]
    by_cases hc : sp + pre.length + 1 < ns.length
    · rw [val_drop hc, hβ, Int.mul_assoc, Int.add_mul_emod_self_left]
    · rw [getD_ge (by lia), List.drop_of_length_le (by lia)]; rfl
  obtain ⟨q1, q2, q3⟩ := shr_digit hγ hδ hβ (hns.getD hb (sp + pre.length)) hyB hB
  rw [ek]
  refine ⟨by simp [h1], h2.append fun x hx => ?_, ?_⟩
  · rw [List.mem_singleton.mp hx]; exact ⟨q2, q3⟩
  · rw [val_append, val_one, h1, List.length_append, List.length_singleton, Int.pow_succ, Int.mul_assoc, Int.add_assoc, ← Int.mul_add, ← Nat.add_assoc, q1, ← val_drop hlt, h3]
end
end Mine
namespace Mine
theorem shr_lo {β γ δ x : Int} (hx : 0 ≤ x ∧ x < β) (hγ : 1 ≤ γ) (hβ : β = γ * δ) : 0 ≤ x / γ ∧ x / γ < δ :=
  ⟨Int.ediv_nonneg hx.1 (by lia), Int.ediv_lt_of_lt_mul (by lia) (by rw [Int.mul_comm]; lia)⟩
end Mine
namespace Mine
theorem Dig.mem {β x : Int} {l : List Int} (h : Dig β l) (hx : x ∈ l) : 0 ≤ x ∧ x < β := h x hx
end Mine
namespace Mine
open PySem PySem.W PyProof.Rows
theorem shr_end {β γ sp : Int} {f ns : List Int} {k N : Nat} (hβ : 0 < β) (hN : N = (rangeKs sp (ns.length - sp).toNat).length) (hsp : 0 ≤ sp) (h1 : f.length = N) (h2 : Dig β f)
    (h3 : val β f + β ^ N * (val β (ns.drop (sp.toNat + N)) / γ) = val β (ns.drop sp.toNat) / γ)
    (hk : k ≤ f.length) (hz : ∀ i, k ≤ i → f.getD i 0 = 0) (hnz : ∀ i, k = i + 1 → f.getD i 0 ≠ 0) : (f.take k).length ≤ ns.length ∧ Row β (val β (ns.drop sp.toNat) / γ) (f.take k) := by
  rw [rangeKs_length] at hN
  refine ⟨by rw [List.length_take]; lia, h2.take k, Norm.take hk hnz, ?_⟩
  rw [val_take_zeros hk hz, ← h3, List.drop_of_length_le (by lia)]
  simp [val]
theorem nil_of_len {ns : List Int} (h : (ns.length : Int) = 0) : ns = [] := by cases ns with | nil => rfl | cons => simp at h; lia
theorem shl_nil {β γ : Int} {ns : List Int} (h : (ns.length : Int) = 0) : Dig β [] ∧ val β [] = val β ns * γ ∧ (([] : List Int).length = ns.length ∨ ([] : List Int).length = ns.length + 1 ∧ β ^ ns.length ≤ val β []) := by
  rw [nil_of_len h]; exact ⟨(fun x hx => nomatch hx), by simp [val], Or.inl rfl⟩
end Mine
end
section
namespace Mine
open PySem PySem.W PyProof.Rows
section
variable {β : Int}
theorem val_set {l : List Int} {i : Nat} (h : i < l.length) (x : Int) : val β (l.set i x) = val β l + β ^ i * (x - l.getD i 0) := by
  induction l generalizing i with
  | nil => simp at h
  | cons y ys ih =>
    cases i with
    | zero => simp [val]; lia
    | succ i =>
      have h2 := ih (i := i) (by simpa using h)
      simp only [List.set_cons_succ, val, h2, List.getD_cons_succ, Int.pow_succ]
      grind
theorem drop_set {l : List Int} {i k : Nat} (h : i < k) (x : Int) : (l.set i x).drop k = l.drop k := List.drop_set_of_lt h
theorem getD_of_drop {l l' : List Int} {k : Nat} (h : l.drop k = l'.drop k) {i : Nat} (hi : k ≤ i) : l.getD i 0 = l'.getD i 0 := by
  have := congrArg (fun z => List.getD z (i - k) 0) h
  simp only [getD_drop] at this
  rwa [show k + (i - k) = i from by lia] at this
theorem drop_of_drop {l l' : List Int} {k : Nat} (h : l.drop k = l'.drop k) {i : Nat} (hi : k ≤ i) : l.drop i = l'.drop i := by
  have := congrArg (fun z => List.drop (i - k) z) h
  simp only [List.drop_drop] at this
  rwa [show k + (i - k) = i from by lia] at this
/-- the guess -/
theorem guess_start {H t0 fi se : Int} (hf : 1 ≤ fi) (hs : 0 ≤ se) (hβ : 1 ≤ β) (hH : 0 ≤ H) (h0 : t0 < β) :
    (0 ≤ if β - 1 < H / fi then β - 1 else H / fi) ∧ (if β - 1 < H / fi then β - 1 else H / fi) < β ∧ H - (if β - 1 < H / fi then β - 1 else H / fi) * fi = H - (if β - 1 < H / fi then β - 1 else H / fi) * fi ∧
      0 ≤ H - (if β - 1 < H / fi then β - 1 else H / fi) * fi ∧ ∀ z : Int, 0 ≤ z → z < β → z * (fi * β + se) ≤ H * β + t0 → z ≤ if β - 1 < H / fi then β - 1 else H / fi := by
  have h1 : 0 ≤ H / fi := Int.ediv_nonneg hH (by lia)
  have h2 : H / fi * fi ≤ H := Int.ediv_mul_le _ (by lia)
  have h3 : (if β - 1 < H / fi then β - 1 else H / fi) ≤ H / fi := by split <;> lia
  have h4 : (if β - 1 < H / fi then β - 1 else H / fi) * fi ≤ H / fi * fi := Int.mul_le_mul_of_nonneg_right h3 (by lia)
  refine ⟨by split <;> lia, by split <;> lia, rfl, by lia, fun z z0 z1 hz => ?_⟩
  have h5 : z * fi ≤ H := by
    have e : z * (fi * β + se) = z * fi * β + z * se := by grind
    have e2 : 0 ≤ z * se := Int.mul_nonneg z0 hs
    have e3 : z * fi * β < (H + 1) * β := by rw [Int.add_mul, Int.one_mul]; lia
    have := Int.lt_of_mul_lt_mul_right e3 (by lia)
    lia
  have h6 : z ≤ H / fi := (Int.le_ediv_iff_mul_le (by lia)).mpr h5
  split <;> lia
theorem guess_turn {H t0 fi se l r : Int} (hf : 1 ≤ fi) (_hs : 0 ≤ se) (h0 : 0 ≤ t0) (hβ : 1 ≤ β) (l0 : 0 ≤ l) (l1 : l < β) (hr : r = H - l * fi) (r0 : 0 ≤ r) (hz : ∀ z : Int, 0 ≤ z → z < β → z * (fi * β + se) ≤ H * β + t0 → z ≤ l) (ht : r * β + t0 < l * se) :
    0 ≤ l - 1 ∧ l - 1 < β ∧ r + fi = H - (l - 1) * fi ∧ 0 ≤ r + fi ∧ ∀ z : Int, 0 ≤ z → z < β → z * (fi * β + se) ≤ H * β + t0 → z ≤ l - 1 := by
  have hl : l ≠ 0 := fun e => by
    subst e
    have := Int.mul_nonneg r0 (show 0 ≤ β by lia)
    lia
  refine ⟨by lia, by lia, by grind, by lia, fun z z0 z1 hzz => ?_⟩
  have h1 := hz z z0 z1 hzz
  by_cases e : z = l
  · exfalso
    subst e
    have e1 : z * (fi * β + se) = z * fi * β + z * se := by grind
    have e2 : r * β = H * β - z * fi * β := by rw [hr]; grind
    lia
  · lia
theorem guess_end {H t0 fi se l r : Int} (hr : r = H - l * fi) (ht : ¬ r * β + t0 < l * se) : l * (fi * β + se) ≤ H * β + t0 := by
  have e1 : l * (fi * β + se) = l * fi * β + l * se := by grind
  have e2 : r * β = H * β - l * fi * β := by rw [hr]; grind
  lia
theorem guess_end2 {H t0 fi se l r : Int} (hβ : 1 ≤ β) (h0 : 0 ≤ t0) (l0 : 0 ≤ l) (l1 : l < β) (hs : 0 ≤ se) (hs2 : se < β) (hr : r = H - l * fi) (ht : ¬ r < β) : l * (fi * β + se) ≤ H * β + t0 := by
  refine guess_end hr fun h => ?_
  have h1 : l * se ≤ β * β := Int.mul_le_mul (by lia) (by lia) hs (by lia)
  have h2 : β * β ≤ r * β := Int.mul_le_mul_of_nonneg_right (by lia) (by lia)
  lia
/-- one limb taken away -/
def TakeP (β : Int) (R : List Int) (at' : Nat) (q : Int) (pre : List Int) (c : Int) (R1 : List Int) : Prop :=
  0 ≤ c ∧ c < β ∧ Dig β R1 ∧ R1.length = R.length ∧ val β R1 = val β R - β ^ at' * (q * val β pre) + β ^ (at' + pre.length) * c ∧ R1.drop (at' + pre.length) = R.drop (at' + pre.length)
theorem take_start {R : List Int} {at' : Nat} {q : Int} (hβ : 1 ≤ β) (hR : Dig β R) : TakeP β R at' q [] 0 R :=
  ⟨Int.le_refl _, by lia, hR, rfl, by simp [val], rfl⟩
theorem take_turn {R R1 pre : List Int} {pt q x c e hv : Int} {i : Nat} (hβ : 1 ≤ β) (hpt : 0 ≤ pt) (hq : 0 ≤ q ∧ q < β) (hx : 0 ≤ x ∧ x < β) (hi : pre.length = i) (hlt : pt + i < R.length) (h : TakeP β R pt.toNat q pre c R1)
    (he : hv = R1.getD (pt + i).toNat 0 - (q * x + c) % β) (hee : hv < 0 ∧ e = 1 ∨ ¬ hv < 0 ∧ e = 0) : TakeP β R pt.toNat q (pre ++ [x]) ((q * x + c) / β + e) (R1.set (pt + i).toNat (hv + β * e)) := by
  obtain ⟨c0, c1, hd, hl, hv1, hdr⟩ := h
  have hidx : (pt + i).toNat = pt.toNat + pre.length := by lia
  rw [hidx] at he ⊢
  have hr0 := Int.emod_nonneg (q * x + c) (show β ≠ 0 by lia)
  have hr1 := Int.emod_lt_of_pos (q * x + c) (show 0 < β by lia)
  have hdm := Int.emod_add_mul_ediv (q * x + c) β
  have hdg := hd.getD (by lia) (pt.toNat + pre.length)
  have hp0 : 0 ≤ q * x := Int.mul_nonneg hq.1 hx.1
  have hp1 : q * x ≤ (β - 1) * (β - 1) := Int.mul_le_mul (by lia) (by lia) hx.1 (by lia)
  have hp2 : (β - 1) * (β - 1) = β * (β - 1) - (β - 1) := by grind
  have hq0 : 0 ≤ (q * x + c) / β := Int.ediv_nonneg (by lia) (by lia)
  have hq1 : (q * x + c) / β ≤ β - 1 := by
    have : (q * x + c) / β * β ≤ q * x + c := Int.ediv_mul_le _ (by lia)
    have h2 : (q * x + c) / β * β ≤ (β - 1) * β := by rw [Int.mul_comm (β - 1) β]; lia
    exact Int.le_of_mul_le_mul_right h2 (by lia)
  refine ⟨by lia, ?_, hd.set ?_ _, by simp [hl], ?_, ?_⟩
  · rcases hee with ⟨h1, h2⟩ | ⟨h1, h2⟩
    · subst h2
      by_cases hc : (q * x + c) / β = β - 1
      · exfalso
        rw [hc] at hdm
        have : (q * x + c) % β = 0 := by lia
        lia
      · lia
    · lia
  · rcases hee with ⟨h1, h2⟩ | ⟨h1, h2⟩ <;> subst h2 <;> lia
  · rw [val_set (by lia), hv1, val_append, val_one, List.length_append, List.length_singleton, ← Nat.add_assoc, Int.pow_succ, Int.pow_add, he]
    have hdm' : q * x + c = (q * x + c) % β + β * ((q * x + c) / β) := hdm.symm
    generalize (q * x + c) % β = m at *
    generalize (q * x + c) / β = d at *
    have hc : c = m + β * d - q * x := by lia
    rw [hc]
    grind
  · rw [List.length_append, List.length_singleton, drop_set (by lia)]
    exact drop_of_drop hdr (by lia)
theorem take_end {R R1 bs : List Int} {pt q c e hv : Int} (hβ : 1 ≤ β) (hpt : 0 ≤ pt) (hlt : pt + bs.length < R.length) (h : TakeP β R pt.toNat q bs c R1)
    (he : hv = R1.getD (pt + bs.length).toNat 0 - c) (hee : hv < 0 ∧ e = 1 ∨ ¬ hv < 0 ∧ e = 0) :
    Dig β (R1.set (pt + bs.length).toNat (hv + β * e)) ∧ (R1.set (pt + bs.length).toNat (hv + β * e)).length = R.length ∧ val β (R1.set (pt + bs.length).toNat (hv + β * e)) = val β R - β ^ pt.toNat * (q * val β bs) + β ^ (pt.toNat + bs.length + 1) * e ∧
      (R1.set (pt + bs.length).toNat (hv + β * e)).drop (pt.toNat + bs.length + 1) = R.drop (pt.toNat + bs.length + 1) := by
  obtain ⟨c0, c1, hd, hl, hv1, hdr⟩ := h
  have hidx : (pt + bs.length).toNat = pt.toNat + bs.length := by lia
  rw [hidx] at he ⊢
  have hdg := hd.getD (by lia) (pt.toNat + bs.length)
  refine ⟨hd.set ?_ _, by simp [hl], ?_, ?_⟩
  · rcases hee with ⟨h1, h2⟩ | ⟨h1, h2⟩ <;> subst h2 <;> lia
  · rw [val_set (by lia), hv1, he, Int.pow_succ]; grind
  · rw [drop_set (by lia)]; exact drop_of_drop hdr (by lia)
/-- one limb put back -/
def PutP (β : Int) (R : List Int) (at' : Nat) (pre : List Int) (c : Int) (R1 : List Int) : Prop :=
  0 ≤ c ∧ c < 2 ∧ Dig β R1 ∧ R1.length = R.length ∧ val β R1 = val β R + β ^ at' * val β pre - β ^ (at' + pre.length) * c ∧ R1.drop (at' + pre.length) = R.drop (at' + pre.length)
theorem put_start {R : List Int} {at' : Nat} (hR : Dig β R) : PutP β R at' [] 0 R :=
  ⟨Int.le_refl _, by lia, hR, rfl, by simp [val], rfl⟩
theorem put_turn {R R1 pre : List Int} {pt x c : Int} {i : Nat} (hβ : 1 ≤ β) (hpt : 0 ≤ pt) (hx : 0 ≤ x ∧ x < β) (hi : pre.length = i) (hlt : pt + i < R.length) (h : PutP β R pt.toNat pre c R1) :
    PutP β R pt.toNat (pre ++ [x]) ((c + (R1.getD (pt + i).toNat 0 + x)) / β) (R1.set (pt + i).toNat ((c + (R1.getD (pt + i).toNat 0 + x)) % β)) := by
  obtain ⟨c0, c1, hd, hl, hv1, hdr⟩ := h
  have hidx : (pt + i).toNat = pt.toNat + pre.length := by lia
  rw [hidx]
  have hdg := hd.getD (by lia) (pt.toNat + pre.length)
  generalize hdd : R1.getD (pt.toNat + pre.length) 0 = d at *
  have hr0 := Int.emod_nonneg (c + (d + x)) (show β ≠ 0 by lia)
  have hr1 := Int.emod_lt_of_pos (c + (d + x)) (show 0 < β by lia)
  have hdm := Int.emod_add_mul_ediv (c + (d + x)) β
  refine ⟨Int.ediv_nonneg (by lia) (by lia), Int.ediv_lt_of_lt_mul (by lia) (by lia), hd.set ⟨hr0, hr1⟩ _, by simp [hl], ?_, ?_⟩
  · rw [val_set (by lia), hv1, hdd, val_append, val_one, List.length_append, List.length_singleton, ← Nat.add_assoc, Int.pow_succ, Int.pow_add]
    generalize (c + (d + x)) % β = m at *
    generalize (c + (d + x)) / β = z at *
    have hc : c = m + β * z - (d + x) := by lia
    rw [hc]; grind
  · rw [List.length_append, List.length_singleton, drop_set (by lia)]
    exact drop_of_drop hdr (by lia)
theorem put_end {R R1 bs : List Int} {pt c : Int} (hβ : 8 ≤ β) (hpt : 0 ≤ pt) (hlt : pt + bs.length < R.length) (h : PutP β R pt.toNat bs c R1) :
    ∃ e : Int, (e = 0 ∨ e = 1) ∧ Dig β (R1.set (pt + bs.length).toNat ((R1.getD (pt + bs.length).toNat 0 + c) % β)) ∧ (R1.set (pt + bs.length).toNat ((R1.getD (pt + bs.length).toNat 0 + c) % β)).length = R.length ∧
      val β (R1.set (pt + bs.length).toNat ((R1.getD (pt + bs.length).toNat 0 + c) % β)) = val β R + β ^ pt.toNat * val β bs - β ^ (pt.toNat + bs.length + 1) * e ∧
      (R1.set (pt + bs.length).toNat ((R1.getD (pt + bs.length).toNat 0 + c) % β)).drop (pt.toNat + bs.length + 1) = R.drop (pt.toNat + bs.length + 1) := by
  obtain ⟨c0, c1, hd, hl, hv1, hdr⟩ := h
  have hidx : (pt + bs.length).toNat = pt.toNat + bs.length := by lia
  rw [hidx]
  have hdg := hd.getD (by lia) (pt.toNat + bs.length)
  generalize hdd : R1.getD (pt.toNat + bs.length) 0 = d at *
  have hr0 := Int.emod_nonneg (d + c) (show β ≠ 0 by lia)
  have hr1 := Int.emod_lt_of_pos (d + c) (show 0 < β by lia)
  have hdm := Int.emod_add_mul_ediv (d + c) β
  have z0 : 0 ≤ (d + c) / β := Int.ediv_nonneg (by lia) (by lia)
  have z1 : (d + c) / β < 2 := Int.ediv_lt_of_lt_mul (by lia) (by lia)
  refine ⟨(d + c) / β, by lia, hd.set ⟨hr0, hr1⟩ _, by simp [hl], ?_, ?_⟩
  · rw [val_set (by lia), hv1, hdd, Int.pow_succ]
    generalize (d + c) % β = m at *
    generalize (d + c) / β = z at *
    have hc : c = m + β * z - d := by lia
    rw [hc]; grind
  · rw [drop_set (by lia)]; exact drop_of_drop hdr (by lia)
end
end Mine
namespace Mine
open PySem PySem.W PyProof.Rows
theorem slice3 {l : List Int} {ws : List Value} {x y : Int} (hx : 0 ≤ x ∧ y = x + 3) (hy : y ≤ l.length) (h : IntsAre ws ((l.drop x.toNat).take (min y.toNat l.length - x.toNat))) : IntsAre ws [l.getD x.toNat 0, l.getD (x.toNat + 1) 0, l.getD (x.toNat + 2) 0] := by
  have e : min y.toNat l.length - x.toNat = 3 := by lia
  rw [e, drop_step (by lia), drop_step (by lia), drop_step (by lia)] at h
  simpa using h
end Mine
namespace Mine
def GuessOut (β H t0 fi se q : Int) : Prop := q * (fi * β + se) ≤ H * β + t0 ∧ ∀ z : Int, 0 ≤ z → z < β → z * (fi * β + se) ≤ H * β + t0 → z ≤ q
def TakeOut (β : Int) (R Bs : List Int) (pt q e : Int) (R' : List Int) : Prop :=
  val β R' = val β R - β ^ pt.toNat * (q * val β Bs) + β ^ (pt.toNat + Bs.length + 1) * e ∧ R'.drop (pt.toNat + Bs.length + 1) = R.drop (pt.toNat + Bs.length + 1)
def PutOut (β : Int) (R Bs : List Int) (pt : Int) (R' : List Int) : Prop :=
  ∃ e : Int, (e = 0 ∨ e = 1) ∧ val β R' = val β R + β ^ pt.toNat * val β Bs - β ^ (pt.toNat + Bs.length + 1) * e ∧ R'.drop (pt.toNat + Bs.length + 1) = R.drop (pt.toNat + Bs.length + 1)
theorem take_end' {β : Int} {R R1 bs : List Int} {pt q c e hv : Int} (hβ : 1 ≤ β) (hpt : 0 ≤ pt) (hlt : pt + bs.length < R.length) (h : TakeP β R pt.toNat q bs c R1)
    (he : hv = R1.getD (pt + bs.length).toNat 0 - c) (hee : hv < 0 ∧ e = 1 ∨ ¬ hv < 0 ∧ e = 0) :
    Dig β (R1.set (pt + bs.length).toNat (hv + β * e)) ∧ (R1.set (pt + bs.length).toNat (hv + β * e)).length = R.length ∧ TakeOut β R bs pt q e (R1.set (pt + bs.length).toNat (hv + β * e)) :=
  let ⟨a, b, c, d⟩ := take_end hβ hpt hlt h he hee
  ⟨a, b, c, d⟩
theorem put_end' {β : Int} {R R1 bs : List Int} {pt c : Int} (hβ : 8 ≤ β) (hpt : 0 ≤ pt) (hlt : pt + bs.length < R.length) (h : PutP β R pt.toNat bs c R1) :
    Dig β (R1.set (pt + bs.length).toNat ((R1.getD (pt + bs.length).toNat 0 + c) % β)) ∧ (R1.set (pt + bs.length).toNat ((R1.getD (pt + bs.length).toNat 0 + c) % β)).length = R.length ∧ PutOut β R bs pt (R1.set (pt + bs.length).toNat ((R1.getD (pt + bs.length).toNat 0 + c) % β)) :=
  let ⟨e, h0, a, b, c, d⟩ := put_end hβ hpt hlt h
  ⟨a, b, e, h0, c, d⟩
end Mine
namespace Mine
def RowsP (β : Int) (R Bs : List Int) (j : Nat) (X : List Int) : Prop := val β X % val β Bs = val β R % val β Bs ∧ val β X < val β Bs * β ^ (R.length - Bs.length - j)
end Mine
end
section
namespace Mine
open PySem PySem.W PyProof.Rows
section
variable {β : Int}
theorem val_bounds {l : List Int} (hβ : 0 < β) (h : Dig β l) (k : Nat) (hk : k ≤ l.length) : β ^ k * val β (l.drop k) ≤ val β l ∧ val β l < β ^ k * (val β (l.drop k) + 1) := by
  have e := val_split (β := β) l k hk
  have h1 := val_nonneg hβ (h.take k)
  have h2 := val_lt hβ (h.take k)
  rw [List.length_take, Nat.min_eq_left hk] at h2
  rw [Int.mul_add, Int.mul_one]
  lia
theorem rows_core {X Bs : List Int} {k q : Int} (hβ : 2 ≤ β) (hX : Dig β X) (hB : Dig β Bs) (hB2 : 2 ≤ Bs.length) (hk : 0 ≤ k) (hlen : k + Bs.length < X.length) (htop : 1 ≤ Bs.getD ((Bs.length : Int) - 1).toNat 0)
    (hV : val β X < val β Bs * β ^ (k.toNat + 1)) (hq : 0 ≤ q ∧ q < β)
    (hg : GuessOut β (X.getD ((k + Bs.length - 2).toNat + 2) 0 * β + X.getD ((k + Bs.length - 2).toNat + 1) 0) (X.getD (k + Bs.length - 2).toNat 0) (Bs.getD ((Bs.length : Int) - 1).toNat 0) (Bs.getD ((Bs.length : Int) - 2).toNat 0) q) :
    ∃ W : Int, β ^ k.toNat * W ≤ val β X ∧ val β X < β ^ k.toNat * (W + 1) ∧ q * val β Bs < W + val β Bs ∧ W < (q + 1) * val β Bs ∧ val β (X.drop (k.toNat + Bs.length + 1)) = 0 := by
  have hb : 0 < β := by lia
  obtain ⟨n, hn⟩ : ∃ n, Bs.length = n + 2 := ⟨Bs.length - 2, by lia⟩
  have e1 : ((Bs.length : Int) - 1).toNat = n + 1 := by lia
  have e2 : ((Bs.length : Int) - 2).toNat = n := by lia
  have e3 : (k + Bs.length - 2).toNat = k.toNat + n := by lia
  rw [e1] at htop hg
  rw [e2, e3] at hg
  rw [hn]
  obtain ⟨W, hW⟩ : ∃ W, W = val β (X.drop k.toNat) := ⟨_, rfl⟩
  obtain ⟨b1, b2⟩ := val_bounds hb hX k.toNat (by lia)
  rw [← hW] at b1 b2
  have hP : 0 < β ^ k.toNat := Int.pow_pos hb
  have hG : 0 < β ^ n := Int.pow_pos hb
  -- the divisor
  have hD : β ^ n * val β (Bs.drop n) ≤ val β Bs ∧ val β Bs < β ^ n * (val β (Bs.drop n) + 1) := val_bounds hb hB n (by lia)
  have hDd : val β (Bs.drop n) = Bs.getD n 0 + β * Bs.getD (n + 1) 0 := by
    rw [val_drop (by lia), val_drop (by lia), List.drop_of_length_le (by lia)]; simp [val]
  have hDlt : val β Bs < β ^ (n + 2) := hn ▸ val_lt hb hB
  -- the window
  have hWd := val_bounds hb (hX.drop k.toNat) n (by rw [List.length_drop]; lia)
  rw [← hW, List.drop_drop] at hWd
  have hWe : val β (X.drop (k.toNat + n)) = X.getD (k.toNat + n) 0 + β * (X.getD (k.toNat + n + 1) 0 + β * (X.getD (k.toNat + n + 2) 0 + β * val β (X.drop (k.toNat + (n + 2) + 1)))) := by
    rw [val_drop (by lia), val_drop (by lia), val_drop (by lia)]; rfl
  have hr0 := val_nonneg hb (hX.drop (k.toNat + (n + 2) + 1))
  have t0 := hX.getD hb (k.toNat + n)
  have t1 := hX.getD hb (k.toNat + n + 1)
  have t2 := hX.getD hb (k.toNat + n + 2)
  have s0 := hB.getD hb n
  have s1 := hB.getD hb (n + 1)
  generalize val β (X.drop (k.toNat + (n + 2) + 1)) = ρ at *
  generalize X.getD (k.toNat + n) 0 = u0 at *
  generalize X.getD (k.toNat + n + 1) 0 = u1 at *
  generalize X.getD (k.toNat + n + 2) 0 = u2 at *
  generalize Bs.getD n 0 = se at *
  generalize Bs.getD (n + 1) 0 = fi at *
  generalize val β Bs = D at *
  generalize val β (Bs.drop n) = D2 at *
  generalize val β (X.drop (k.toNat + n)) = W2 at *
  generalize val β X = V at *
  have hGe : β ^ (n + 2) = β ^ n * β * β := by rw [Int.pow_succ, Int.pow_succ]
  rw [hGe] at hDlt
  have hPe : β ^ (k.toNat + 1) = β ^ k.toNat * β := Int.pow_succ ..
  rw [hPe] at hV
  generalize β ^ n = G at *
  generalize β ^ k.toNat = P at *
  have D0 : 0 < D := by
    have h1 : 0 < D2 := by
      have : 0 < β * fi := Int.mul_pos hb (by lia)
      lia
    have := Int.mul_pos hG h1
    lia
  have hWD : W < D * β := by
    have : P * W < P * (D * β) := by
      have e : D * (P * β) = P * (D * β) := by grind
      lia
    exact Int.lt_of_mul_lt_mul_left this (by lia)
  have W0 : 0 ≤ W := by
    have h2 : 0 ≤ W2 := by
      have h3 : 0 ≤ β * ρ := Int.mul_nonneg (by lia) hr0
      have h4 : 0 ≤ β * (u2 + β * ρ) := Int.mul_nonneg (by lia) (by lia)
      have h5 : 0 ≤ β * (u1 + β * (u2 + β * ρ)) := Int.mul_nonneg (by lia) (by lia)
      lia
    have := Int.mul_nonneg (Int.le_of_lt hG) h2
    lia
  have hρ : ρ = 0 := by
    have h1 : G * W2 < G * (β * β * β) := by
      have : D * β ≤ G * β * β * β := Int.mul_le_mul_of_nonneg_right (by lia) (by lia)
      have e : G * (β * β * β) = G * β * β * β := by grind
      lia
    have h2 : W2 < β * β * β := Int.lt_of_mul_lt_mul_left h1 (by lia)
    have e : W2 = u0 + β * u1 + β * β * u2 + β * β * β * ρ := by rw [hWe]; grind
    have h3 : 0 ≤ β * u1 := Int.mul_nonneg (by lia) t1.1
    have h4 : 0 ≤ β * β * u2 := Int.mul_nonneg (Int.mul_nonneg (by lia) (by lia)) t2.1
    have h5 : β * β * β * ρ < β * β * β * 1 := by lia
    have h6 := Int.lt_of_mul_lt_mul_left h5 (Int.mul_nonneg (Int.mul_nonneg (by lia) (by lia)) (by lia))
    lia
  subst hρ
  have hWe' : W2 = (u2 * β + u1) * β + u0 := by rw [hWe]; grind
  have hDd' : D2 = fi * β + se := by rw [hDd]; grind
  obtain ⟨g1, g2⟩ := hg
  rw [← hWe', ← hDd'] at g1
  refine ⟨W, b1, b2, ?_, ?_, rfl⟩
  · have h1 : q * D ≤ q * (G * (D2 + 1)) := Int.mul_le_mul_of_nonneg_left (by lia) hq.1
    have h2 : q * (G * (D2 + 1)) = G * (q * D2) + q * G := by grind
    have h3 : G * (q * D2) ≤ G * W2 := Int.mul_le_mul_of_nonneg_left g1 (by lia)
    have h4 : q * G < β * G := Int.mul_lt_mul_of_pos_right hq.2 hG
    have h5 : β * G ≤ G * D2 := by
      have : G * β ≤ G * D2 := Int.mul_le_mul_of_nonneg_left (by
        have : 1 * β ≤ fi * β := Int.mul_le_mul_of_nonneg_right (by lia) (by lia)
        lia) (by lia)
      rw [Int.mul_comm β G]; exact this
    lia
  · have hz := Int.mul_ediv_add_emod W D
    have hz1 := Int.emod_lt_of_pos W D0
    have hz2 := Int.emod_nonneg W (show D ≠ 0 by lia)
    have z0 : 0 ≤ W / D := Int.ediv_nonneg W0 (by lia)
    have z1 : W / D < β := Int.ediv_lt_of_lt_mul D0 (by rw [Int.mul_comm]; exact hWD)
    have z2 : (W / D) * D2 ≤ W2 := by
      have h1 : (W / D) * (G * D2) ≤ (W / D) * D := Int.mul_le_mul_of_nonneg_left hD.1 z0
      have h2 : (W / D) * D = D * (W / D) := Int.mul_comm _ _
      have h3 : G * ((W / D) * D2) = (W / D) * (G * D2) := by grind
      have h4 : G * ((W / D) * D2) < G * (W2 + 1) := by lia
      have := Int.lt_of_mul_lt_mul_left h4 (by lia)
      lia
    have z3 := g2 (W / D) z0 z1 (by rw [← hWe', ← hDd']; exact z2)
    have h5 : (W / D) * D ≤ q * D := Int.mul_le_mul_of_nonneg_right z3 (by lia)
    rw [Int.add_mul, Int.one_mul]
    have h2 : (W / D) * D = D * (W / D) := Int.mul_comm _ _
    lia
theorem top_zero {X Y : List Int} {k : Nat} (hβ : 0 < β) (hY : Dig β Y) (hl : k ≤ Y.length) (h : Y.drop k = X.drop k) (hz : val β (X.drop k) = 0) : val β Y < β ^ k := by
  have := (val_bounds hβ hY k hl).2
  rw [h, hz] at this
  simpa using this
theorem rows_start {R Bs f : List Int} (hR : Dig β R) (hf : f.length = R.length - Bs.length) (hval : val β R < val β Bs * β ^ (R.length - Bs.length)) :
    (Dig β R ∧ R.length = R.length ∧ f.length = R.length - Bs.length) ∧ RowsP β R Bs ([] : List Int).length R := ⟨⟨hR, rfl, hf⟩, rfl, by simpa using hval⟩
theorem rows_turn0 {R X Y f Bs pre : List Int} {k q v n : Int} (hβ : 2 ≤ β) (hB : Dig β Bs) (hB2 : 2 ≤ Bs.length) (htop : 1 ≤ Bs.getD ((Bs.length : Int) - 1).toNat 0)
    (hX : Dig β X) (hXl : X.length = R.length) (hf : f.length = R.length - Bs.length) (hp : RowsP β R Bs pre.length X) (hk : k = (R.length : Int) - Bs.length - 1 - pre.length) (hlt : pre.length < ((R.length : Int) - Bs.length - 1 - -1).toNat)
    (hq : 0 ≤ q) (hq2 : q < β) (hg : GuessOut β (X.getD ((k + Bs.length - 2).toNat + 2) 0 * β + X.getD ((k + Bs.length - 2).toNat + 1) 0) (X.getD (k + Bs.length - 2).toNat 0) (Bs.getD ((Bs.length : Int) - 1).toNat 0) (Bs.getD ((Bs.length : Int) - 2).toNat 0) q)
    (hY : Dig β Y) (hYl : Y.length = X.length) (ht : TakeOut β X Bs k q 0 Y) :
    (Dig β Y ∧ Y.length = R.length ∧ (f.set k.toNat v).length = R.length - Bs.length) ∧ RowsP β R Bs (pre ++ [n]).length Y := by
  obtain ⟨p1, p2⟩ := hp
  obtain ⟨t1, t2⟩ := ht
  have hb : 0 < β := by lia
  rw [show R.length - Bs.length - pre.length = k.toNat + 1 from by lia] at p2
  obtain ⟨W, w1, w2, w3, w4, w5⟩ := rows_core hβ hX hB hB2 (by lia) (by lia) htop p2 ⟨hq, hq2⟩ hg
  rw [Int.mul_zero, Int.add_zero] at t1
  refine ⟨⟨hY, by lia, by simp [hf]⟩, ?_, ?_⟩
  · rw [← p1, t1, show val β X - β ^ k.toNat * (q * val β Bs) = val β X + val β Bs * (- (β ^ k.toNat * q)) from by grind, Int.add_mul_emod_self_left]
  · rw [List.length_append, List.length_singleton, show R.length - Bs.length - (pre.length + 1) = k.toNat from by lia, t1]
    have hP : 0 < β ^ k.toNat := Int.pow_pos hb
    generalize β ^ k.toNat = P at *
    generalize val β Bs = D at *
    have h1 : P * (W + 1) ≤ P * ((q + 1) * D) := Int.mul_le_mul_of_nonneg_left (by lia) (by lia)
    have h2 : P * ((q + 1) * D) = P * (q * D) + D * P := by grind
    lia
theorem rows_turn1 {R X Y Z f Bs pre : List Int} {k q v n : Int} (hβ : 2 ≤ β) (hB : Dig β Bs) (hB2 : 2 ≤ Bs.length) (htop : 1 ≤ Bs.getD ((Bs.length : Int) - 1).toNat 0)
    (hX : Dig β X) (hXl : X.length = R.length) (hf : f.length = R.length - Bs.length) (hp : RowsP β R Bs pre.length X) (hk : k = (R.length : Int) - Bs.length - 1 - pre.length) (hlt : pre.length < ((R.length : Int) - Bs.length - 1 - -1).toNat)
    (hq : 0 ≤ q) (hq2 : q < β) (hg : GuessOut β (X.getD ((k + Bs.length - 2).toNat + 2) 0 * β + X.getD ((k + Bs.length - 2).toNat + 1) 0) (X.getD (k + Bs.length - 2).toNat 0) (Bs.getD ((Bs.length : Int) - 1).toNat 0) (Bs.getD ((Bs.length : Int) - 2).toNat 0) q)
    (hY : Dig β Y) (hYl : Y.length = X.length) (ht : TakeOut β X Bs k q 1 Y) (hZ : Dig β Z) (hZl : Z.length = Y.length) (hpu : PutOut β Y Bs k Z) :
    (Dig β Z ∧ Z.length = R.length ∧ (f.set k.toNat v).length = R.length - Bs.length) ∧ RowsP β R Bs (pre ++ [n]).length Z := by
  obtain ⟨p1, p2⟩ := hp
  obtain ⟨t1, t2⟩ := ht
  obtain ⟨e, he, u1, u2⟩ := hpu
  have hb : 0 < β := by lia
  rw [show R.length - Bs.length - pre.length = k.toNat + 1 from by lia] at p2
  obtain ⟨W, w1, w2, w3, w4, w5⟩ := rows_core hβ hX hB hB2 (by lia) (by lia) htop p2 ⟨hq, hq2⟩ hg
  have y1 := top_zero hb hY (by lia) t2 w5
  have z1 := top_zero hb hZ (by lia) (u2.trans t2) w5
  have z0 := val_nonneg hb hZ
  rw [Int.mul_one] at t1
  have hP : 0 < β ^ k.toNat := Int.pow_pos hb
  have hV : val β X < β ^ k.toNat * (q * val β Bs) := by lia
  have h3 : β ^ k.toNat * ((q - 1) * val β Bs) ≤ β ^ k.toNat * W := Int.mul_le_mul_of_nonneg_left (by rw [Int.sub_mul, Int.one_mul]; lia) (by lia)
  have e1 : β ^ k.toNat * ((q - 1) * val β Bs) = β ^ k.toNat * (q * val β Bs) - β ^ k.toNat * val β Bs := by grind
  have ee : e = 1 := by
    rcases he with he | he
    · exfalso
      rw [he, Int.mul_zero] at u1
      lia
    · exact he
  rw [ee, Int.mul_one] at u1
  have uz : val β Z = val β X - β ^ k.toNat * ((q - 1) * val β Bs) := by lia
  refine ⟨⟨hZ, by lia, by simp [hf]⟩, ?_, ?_⟩
  · rw [← p1, uz, show val β X - β ^ k.toNat * ((q - 1) * val β Bs) = val β X + val β Bs * (- (β ^ k.toNat * (q - 1))) from by grind, Int.add_mul_emod_self_left]
  · rw [List.length_append, List.length_singleton, show R.length - Bs.length - (pre.length + 1) = k.toNat from by lia, uz]
    rw [Int.mul_comm (val β Bs)]
    lia
theorem rows_end {R X Bs : List Int} {N : Nat} (hβ : 0 < β) (hX : Dig β X) (hp : RowsP β R Bs N X) (hN : N = R.length - Bs.length) (hl : Bs.length ≤ R.length) : val β X = val β R % val β Bs := by
  obtain ⟨p1, p2⟩ := hp
  subst hN
  rw [show R.length - Bs.length - (R.length - Bs.length) = 0 from by lia, Int.pow_zero, Int.mul_one] at p2
  rw [← p1, Int.emod_eq_of_lt (val_nonneg hβ hX) p2]
end
end Mine
end
section
namespace Mine
open PySem PySem.W PyProof.Rows
section
variable {β : Int}
theorem row_one {v : Int} (h0 : 0 < v) (h1 : v < β) : Row β v [v] :=
  ⟨fun x hx => by rw [List.mem_singleton.mp hx]; lia, fun i hi => by simp at hi; subst hi; simp; lia, val_one v⟩
theorem row_nil {v : Int} (h : v = 0) : Row β v [] := ⟨fun x hx => (nomatch hx), fun i hi => by simp at hi, by simp [val, h]⟩
theorem Row.low {v : Int} {l : List Int} (hβ : 0 < β) (h : Row β v l) {m : Nat} (hm : l.length = m + 1) : β ^ m ≤ v := by
  have h1 := val_take (β := β) (l := l) (j := m) (by lia)
  have h2 := val_nonneg hβ (h.dig.take m)
  have h3 := h.dig _ (getD_mem (l := l) (j := m) (by lia))
  have h4 := h.norm m hm
  have h5 := h.eq
  have h6 : l.take (m + 1) = l := List.take_of_length_le (by lia)
  rw [h6, h5] at h1
  have h7 : β ^ m * 1 ≤ β ^ m * l.getD m 0 := Int.mul_le_mul_of_nonneg_left (by lia) (Int.le_of_lt (Int.pow_pos hβ))
  lia
theorem Row.lt {v : Int} {l : List Int} (hβ : 0 < β) (h : Row β v l) : v < β ^ l.length := h.eq ▸ val_lt hβ h.dig
theorem Row.nonneg {v : Int} {l : List Int} (hβ : 0 < β) (h : Row β v l) : 0 ≤ v := h.eq ▸ val_nonneg hβ h.dig
theorem pow_le {a b : Nat} (hβ : 1 ≤ β) (h : a ≤ b) : β ^ a ≤ β ^ b := by
  obtain ⟨c, rfl⟩ : ∃ c, b = a + c := ⟨b - a, by lia⟩
  rw [Int.pow_add]
  have h1 : 0 < β ^ a := Int.pow_pos (by lia)
  have h2 : 0 < β ^ c := Int.pow_pos (by lia)
  have : β ^ a * 1 ≤ β ^ a * β ^ c := Int.mul_le_mul_of_nonneg_left (by lia) (by lia)
  lia
theorem row_len {v : Int} {l : List Int} {k : Nat} (hβ : 1 < β) (h : Row β v l) (hv : v < β ^ k) : l.length ≤ k := by
  by_cases hl : l.length ≤ k
  · exact hl
  · exfalso
    obtain ⟨m, hm⟩ : ∃ m, l.length = m + 1 := ⟨l.length - 1, by lia⟩
    have h1 := h.low (by lia) hm
    have h2 := pow_le (β := β) (by lia) (show k ≤ m by lia)
    lia
theorem Row.pos {v : Int} {l : List Int} (hβ : 0 < β) (h : Row β v l) : 0 < v ↔ 0 < l.length := by
  constructor
  · intro h1
    cases l with
    | nil => have := h.eq; simp [val] at this; lia
    | cons => simp
  · intro h1
    have h2 := h.low hβ (m := l.length - 1) (by lia)
    have h3 : 0 < β ^ (l.length - 1) := Int.pow_pos hβ
    lia
theorem dig_cmp {xs ys : List Int} (hβ : 0 < β) (hx : Dig β xs) (hy : Dig β ys) (hl : xs.length = ys.length) {i : Nat} (hi : i < xs.length) (h1 : xs.getD i 0 < ys.getD i 0) (h2 : ∀ j, i < j → xs.getD j 0 = ys.getD j 0) : val β xs < val β ys := by
  have e : xs.drop (i + 1) = ys.drop (i + 1) := by
    apply List.ext_getElem?
    intro k
    have := h2 (i + 1 + k) (by lia)
    rw [List.getElem?_drop, List.getElem?_drop]
    simp only [List.getD_eq_getElem?_getD] at this
    by_cases hk : i + 1 + k < xs.length
    · rw [List.getElem?_eq_getElem hk, List.getElem?_eq_getElem (by lia)] at this ⊢
      simpa using this
    · rw [List.getElem?_eq_none (by lia), List.getElem?_eq_none (by lia)]
  have a1 := val_split (β := β) xs i (by lia)
  have a2 := val_split (β := β) ys i (by lia)
  rw [val_drop hi] at a1
  rw [val_drop (by lia), ← e] at a2
  have b1 := val_lt hβ (hx.take i)
  have b2 := val_nonneg hβ (hy.take i)
  rw [List.length_take, Nat.min_eq_left (by lia)] at b1
  have hp : 0 < β ^ i := Int.pow_pos hβ
  have c1 : β ^ i * (xs.getD i 0 + β * val β (xs.drop (i + 1))) + β ^ i ≤ β ^ i * (ys.getD i 0 + β * val β (xs.drop (i + 1))) := by
    have : β ^ i * (xs.getD i 0 + β * val β (xs.drop (i + 1)) + 1) ≤ β ^ i * (ys.getD i 0 + β * val β (xs.drop (i + 1))) := Int.mul_le_mul_of_nonneg_left (by lia) (by lia)
    rw [Int.mul_add _ _ 1, Int.mul_one] at this
    exact this
  lia
theorem row_short {A B : Int} {xs ys : List Int} (hβ : 1 < β) (hx : Row β A xs) (hy : Row β B ys) (hl : xs.length < ys.length) : A < B := by
  have h1 := hx.lt (by lia)
  have h2 := hy.low (by lia) (m := ys.length - 1) (by lia)
  have h3 := pow_le (β := β) (by lia) (show xs.length ≤ ys.length - 1 by lia)
  lia
def CmpOut (A B k : Int) : Prop := k = -1 ∧ A < B ∨ k = 0 ∧ A = B ∨ k = 1 ∧ B < A
theorem cmp_of {A B k : Int} {xs ys : List Int} (hβ : 1 < β) (hx : Row β A xs) (hy : Row β B ys)
    (h : k = -1 ∧ (xs.length < ys.length ∨ xs.length = ys.length ∧ ∃ i < xs.length, xs.getD i 0 < ys.getD i 0 ∧ ∀ j, i < j → xs.getD j 0 = ys.getD j 0) ∨
       k = 0 ∧ xs.length = ys.length ∧ (∀ j, xs.getD j 0 = ys.getD j 0) ∨
       k = 1 ∧ (ys.length < xs.length ∨ xs.length = ys.length ∧ ∃ i < xs.length, ys.getD i 0 < xs.getD i 0 ∧ ∀ j, i < j → xs.getD j 0 = ys.getD j 0)) : k = -1 ∧ A < B ∨ k = 0 ∧ A = B ∨ k = 1 ∧ B < A := by
  rcases h with ⟨h0, h1 | ⟨h1, i, h2, h3, h4⟩⟩ | ⟨h0, h1, h2⟩ | ⟨h0, h1 | ⟨h1, i, h2, h3, h4⟩⟩
  · exact .inl ⟨h0, row_short hβ hx hy h1⟩
  · exact .inl ⟨h0, hx.eq ▸ hy.eq ▸ dig_cmp (by lia) hx.dig hy.dig h1 h2 h3 h4⟩
  · refine .inr (.inl ⟨h0, ?_⟩)
    have e : xs = ys := by
      apply List.ext_getElem?
      intro j
      have := h2 j
      simp only [List.getD_eq_getElem?_getD] at this
      by_cases hk : j < xs.length
      · rw [List.getElem?_eq_getElem hk, List.getElem?_eq_getElem (by lia)] at this ⊢
        simpa using this
      · rw [List.getElem?_eq_none (by lia), List.getElem?_eq_none (by lia)]
    rw [← hx.eq, ← hy.eq, e]
  · exact .inr (.inr ⟨h0, row_short hβ hy hx h1⟩)
  · exact .inr (.inr ⟨h0, hx.eq ▸ hy.eq ▸ dig_cmp (by lia) hy.dig hx.dig h1.symm (by lia) h3 (fun j hj => (h4 j hj).symm)⟩)
/-- what the school's division sets up -/
theorem school_top {B x γ κ : Int} {ys : List Int} (hβ : 1 < β) (hy : Row β B ys) (hl : 0 < ys.length) (hx : x = ys.getD (ys.length - 1) 0) (hκ : x < κ) (hκγ : κ * γ = β) (hγ : 0 < γ) : B * γ < β ^ ys.length := by
  have h1 := val_take (β := β) (l := ys) (j := ys.length - 1) (by lia)
  have h2 := val_lt (by lia) (hy.dig.take (ys.length - 1))
  rw [List.length_take, Nat.min_eq_left (by lia)] at h2
  rw [show ys.length - 1 + 1 = ys.length from by lia, List.take_length, hy.eq, ← hx] at h1
  have hp : 0 < β ^ (ys.length - 1) := Int.pow_pos (by lia)
  have h3 : B < β ^ (ys.length - 1) * (x + 1) := by rw [Int.mul_add, Int.mul_one]; lia
  have h4 : β ^ (ys.length - 1) * (x + 1) ≤ β ^ (ys.length - 1) * κ := Int.mul_le_mul_of_nonneg_left (by lia) (by lia)
  have h5 : B * γ < β ^ (ys.length - 1) * κ * γ := Int.mul_lt_mul_of_pos_right (by lia) hγ
  have h6 : β ^ ys.length = β ^ (ys.length - 1) * β := by
    have h7 : ys.length = (ys.length - 1) + 1 := by lia
    have h8 : β ^ ((ys.length - 1) + 1) = β ^ (ys.length - 1) * β := Int.pow_succ ..
    rwa [← h7] at h8
  rw [h6, ← hκγ]
  rw [Int.mul_assoc] at h5
  rw [hκγ] at h5 ⊢
  exact h5
theorem school_len {v : Int} {f : List Int} {m : Nat} (hv : val β f = v) (hlt : v < β ^ m) (h : f.length = m ∨ f.length = m + 1 ∧ β ^ m ≤ val β f) : f.length = m := by
  rcases h with h | ⟨_, h⟩
  · exact h
  · lia
theorem top_ne {f : List Int} {m : Nat} (hβ : 0 < β) (hf : Dig β f) (hl : f.length = m + 1) (hv : β ^ m ≤ val β f) : f.getD m 0 ≠ 0 := fun h0 => by
  have h1 := val_take (β := β) (l := f) (j := m) (by lia)
  rw [List.take_of_length_le (by lia), h0, Int.mul_zero, Int.add_zero] at h1
  have h2 := val_lt hβ (hf.take m)
  rw [List.length_take, Nat.min_eq_left (by lia)] at h2
  lia
theorem school_val {A B γ : Int} {xs ys : List Int} (hβ : 1 < β) (hx : Row β A xs) (hy : Row β B ys) (hl : 0 < ys.length) (hle : ys.length ≤ xs.length) (hγ : 0 < γ) : A * γ < B * γ * β ^ (xs.length + 1 - ys.length) := by
  have h1 := hx.lt (by lia)
  have h2 := hy.low (by lia) (m := ys.length - 1) (by lia)
  have hp : 0 < β ^ (xs.length + 1 - ys.length) := Int.pow_pos (by lia)
  have h3 : β ^ (ys.length - 1) * β ^ (xs.length + 1 - ys.length) ≤ B * β ^ (xs.length + 1 - ys.length) := Int.mul_le_mul_of_nonneg_right h2 (by lia)
  rw [← Int.pow_add, show ys.length - 1 + (xs.length + 1 - ys.length) = xs.length from by lia] at h3
  have h4 : A * γ < B * β ^ (xs.length + 1 - ys.length) * γ := Int.mul_lt_mul_of_pos_right (by lia) hγ
  have e : B * β ^ (xs.length + 1 - ys.length) * γ = B * γ * β ^ (xs.length + 1 - ys.length) := by grind
  lia
theorem val_pad (f : List Int) (k : Nat) : val β (f ++ List.replicate k 0) = val β f := by
  rw [val_append, val_zeros (l := List.replicate k 0) fun i => ?_]
  · simp
  · rw [List.getD_eq_getElem?_getD, List.getElem?_replicate]; split <;> rfl
theorem mul_mod_cancel {A B γ : Int} (hγ : 0 < γ) : (A * γ) % (B * γ) / γ = A % B := by
  rw [Int.mul_comm A, Int.mul_comm B, Int.mul_emod_mul_of_pos _ _ hγ, Int.mul_ediv_cancel_left _ (by lia)]
end
end Mine
end
section
namespace Mine
open PySem PySem.W PyProof.Rows
theorem one_of_len {β vb : Int} {ys : List Int} (h : Row β vb ys) (hl : ys.length = 1) : ys = [vb] := by
  cases ys with
  | nil => simp at hl
  | cons y r =>
    cases r with
    | nil => have := h.eq; rw [val_one] at this; rw [this]
    | cons => simp at hl
theorem pow_split {w k : Int} (h0 : 0 ≤ k) (h1 : k ≤ w) : (2 : Int) ^ k.toNat * 2 ^ (w - k).toNat = 2 ^ w.toNat := by
  rw [← Int.pow_add, show k.toNat + (w - k).toNat = w.toNat from by lia]
theorem two_pow_pos (k : Nat) : (1 : Int) ≤ 2 ^ k := by have := kbt_pos k; lia
theorem two_pow_le {a b : Nat} (h : a ≤ b) : (2 : Int) ^ a ≤ 2 ^ b := pow_le (by lia) h
/-- the shift of the school's division -/
structure SchoolG (β w kb γ vb : Int) (n : Nat) : Prop where
  g : (2 : Int) ^ (w - kb).toNat = γ
  lo : 1 ≤ γ
  hi : γ ≤ β
  top : vb * γ < β ^ n
theorem schoolG {β w kb x vb : Int} {ys : List Int} (hβ : (2 : Int) ^ w.toNat = β) (hβ1 : 8 ≤ β) (h : Row β vb ys) (hl : 0 < ys.length) (hx : x = ys.getD (ys.length - 1) 0) (h1 : 1 ≤ kb) (h2 : kb ≤ w) (h3 : x < 2 ^ kb.toNat) : ∃ γ, SchoolG β w kb γ vb ys.length := by
  refine ⟨_, rfl, two_pow_pos _, ?_, ?_⟩
  · rw [← hβ]; exact two_pow_le (by lia)
  · exact school_top (by lia) h hl hx h3 (by rw [pow_split (by lia) h2, hβ]) (by have := two_pow_pos (w - kb).toNat; lia)
end Mine
namespace Mine
structure SchoolD (β vb γ : Int) (n : Nat) (fd : List Int) : Prop where
  dig : Dig β fd
  eq : val β fd = vb * γ
  len : fd.length = n
  top : fd.getD (fd.length - 1) 0 ≠ 0
theorem schoolD {β w kb γ vb : Int} {ys fd : List Int} (hβ1 : 8 ≤ β) (h : Row β vb ys) (hl : 0 < ys.length) (SG : SchoolG β w kb γ vb ys.length)
    (y : Dig β fd ∧ val β fd = val β ys * γ ∧ (fd.length = ys.length ∨ fd.length = ys.length + 1 ∧ β ^ ys.length ≤ val β fd)) : SchoolD β vb γ ys.length fd := by
  obtain ⟨y1, y2, y3⟩ := y
  rw [h.eq] at y2
  have hlen := school_len y2 SG.top y3
  refine ⟨y1, y2, hlen, ?_⟩
  refine top_ne (β := β) (by lia) y1 (by lia) ?_
  have h1 := h.low (by lia) (m := ys.length - 1) (by lia)
  rw [hlen, y2]
  have h2 : vb * 1 ≤ vb * γ := Int.mul_le_mul_of_nonneg_left SG.lo (h.nonneg (by lia))
  lia
structure SchoolA (β va γ : Int) (n : Nat) (fa : List Int) : Prop where
  dig : Dig β fa
  eq : val β fa = va * γ
  len : fa.length ≤ n + 1
theorem schoolA {β γ va : Int} {xs fa : List Int} (h : Row β va xs) (y : Dig β fa ∧ val β fa = val β xs * γ ∧ (fa.length = xs.length ∨ fa.length = xs.length + 1 ∧ β ^ xs.length ≤ val β fa)) : SchoolA β va γ xs.length fa :=
  ⟨y.1, h.eq ▸ y.2.1, by have := y.2.2; lia⟩
theorem flat_rep (k : Nat) : (List.replicate k [(0 : Int)]).flatten = List.replicate k 0 := by
  induction k with
  | zero => rfl
  | succ k ih => rw [List.replicate_succ, List.flatten_cons, ih, List.replicate_succ]; rfl
theorem SchoolA.pad {β va γ : Int} {n : Nat} {fa : List Int} (hβ : 0 < β) (h : SchoolA β va γ n fa) : Dig β (fa ++ (List.replicate ((n : Int) + 1 - fa.length).toNat [(0 : Int)]).flatten) ∧ val β (fa ++ (List.replicate ((n : Int) + 1 - fa.length).toNat [(0 : Int)]).flatten) = va * γ ∧ (fa ++ (List.replicate ((n : Int) + 1 - fa.length).toNat [(0 : Int)]).flatten).length = n + 1 := by
  have := h.len
  rw [flat_rep]
  refine ⟨h.dig.append fun x hx => ?_, by rw [val_pad, h.eq], by rw [List.length_append, List.length_replicate]; lia⟩
  rw [List.eq_of_mem_replicate hx]; lia
theorem row_le {β va vb : Int} {xs ys : List Int} (hβ1 : 8 ≤ β) (hx : Row β va xs) (hy : Row β vb ys) (h : vb ≤ va) : ys.length ≤ xs.length := by
  by_cases hl : ys.length ≤ xs.length
  · exact hl
  · have := row_short (by lia) hx hy (by lia); lia
/-- the shift back -/
structure SchoolB (β w kb γ δ : Int) : Prop where
  d : (2 : Int) ^ (w - (w - kb)).toNat = δ
  eq : β = γ * δ
  lo : 1 ≤ δ
  hi : δ ≤ 512
theorem schoolB {β w kb γ vb : Int} {n : Nat} (hβ : (2 : Int) ^ w.toNat = β) (hβ2 : β ≤ 512) (h1 : 1 ≤ kb) (h2 : kb ≤ w) (SG : SchoolG β w kb γ vb n) : ∃ δ, SchoolB β w kb γ δ := by
  refine ⟨_, rfl, ?_, two_pow_pos _, ?_⟩
  · rw [← hβ, ← SG.g, pow_split (by lia) (by lia)]
  · have : (2 : Int) ^ (w - (w - kb)).toNat ≤ 2 ^ w.toNat := two_pow_le (by lia)
    lia
theorem school_end {β va vb γ : Int} {n : Nat} {R R' fd f : List Int} {k : Nat} (hγ : 1 ≤ γ) (hR : val β R = va * γ) (hd : SchoolD β vb γ n fd) (hr : val β R' = val β R % val β fd) (hk : k ≤ R'.length) (hz : ∀ i, k ≤ i → R'.getD i 0 = 0) (h : Row β (val β ((R'.take k).drop (Int.toNat 0)) / γ) f) : Row β (va % vb) f := by
  rw [show Int.toNat 0 = 0 from rfl, List.drop_zero, val_take_zeros hk hz, hr, hR, hd.eq, mul_mod_cancel (by lia)] at h
  exact h
theorem row_mod_lt {β va vb : Int} {xs : List Int} (hβ : 0 < β) (h : Row β va xs) (hlt : va < vb) : Row β (va % vb) xs := by
  rw [Int.emod_eq_of_lt (h.nonneg hβ) hlt]; exact h
end Mine
end
section
/- The plain law: a symbol by counts (Gauss, Schering); no primes are used. -/
namespace Mine
def half (n : Int) : List Nat := List.range' 1 (n.toNat / 2)
def bad (a n : Int) (k : Nat) : Bool := decide (n < 2 * ((a * k) % n))
def cnt (a n : Int) : Nat := (half n).countP (bad a n)
/-- the symbol of a over n, n odd and above nought -/
def J (a n : Int) : Int := if Int.gcd a n = 1 then (if cnt a n % 2 = 0 then 1 else -1) else 0
def fld (n x : Int) : Nat := if n < 2 * (x % n) then (n - x % n).toNat else (x % n).toNat
theorem mem_half {n : Int} {k : Nat} : k ∈ half n ↔ 1 ≤ k ∧ k ≤ n.toNat / 2 := by
  unfold half; rw [List.mem_range'_1]; lia
theorem nodup_half (n : Int) : (half n).Nodup := List.nodup_range'
theorem bezout : ∀ (b a : Nat), ∃ x y : Int, (a : Int) * x + b * y = Nat.gcd a b := by
  intro b
  induction b using Nat.strongRecOn with
  | ind b ih =>
    intro a
    by_cases hb : b = 0
    · subst hb; exact ⟨1, 0, by simp⟩
    · obtain ⟨x, y, h⟩ := ih (a % b) (Nat.mod_lt _ (by lia)) b
      refine ⟨y, x - (a / b : Nat) * y, ?_⟩
      have e : Nat.gcd a b = Nat.gcd b (a % b) := by rw [Nat.gcd_comm a b, Nat.gcd_rec b a, Nat.gcd_comm]
      rw [e, ← h]
      have hm : (a : Int) = b * (a / b : Nat) + (a % b : Nat) := by exact_mod_cast (Nat.div_add_mod a b).symm
      generalize ((a / b : Nat) : Int) = q at *
      generalize ((a % b : Nat) : Int) = r at *
      rw [hm]; grind
theorem inverse {a n : Int} (hn : 0 < n) (h : Int.gcd a n = 1) : ∃ c, n ∣ a * c - 1 := by
  obtain ⟨x, y, e⟩ := bezout n.natAbs a.natAbs
  have hg : Nat.gcd a.natAbs n.natAbs = 1 := h
  rw [hg] at e
  by_cases ha : 0 ≤ a
  · exact ⟨x, -y, by rw [show (a.natAbs : Int) = a from by lia, show (n.natAbs : Int) = n from by lia] at e; grind⟩
  · exact ⟨-x, -y, by rw [show (a.natAbs : Int) = -a from by lia, show (n.natAbs : Int) = n from by lia] at e; grind⟩
theorem fld_congr {n x y : Int} (h : n ∣ x - y) : fld n x = fld n y := by
  have : x % n = y % n := Int.emod_eq_emod_iff_emod_sub_eq_zero.mpr (Int.emod_eq_zero_of_dvd h)
  unfold fld; rw [this]
end Mine
end
section
namespace Mine
section
variable {n : Int}
theorem emod_neg {x : Int} (hn : 0 < n) (h : ¬ n ∣ x) : (-x) % n = n - x % n := by
  have h0 := Int.emod_nonneg x (show n ≠ 0 by lia)
  have h1 := Int.emod_lt_of_pos x hn
  have h2 : x % n ≠ 0 := fun e => h (Int.dvd_of_emod_eq_zero e)
  have e : (-x) % n = (n - x % n) % n := by
    refine Int.emod_eq_emod_iff_emod_sub_eq_zero.mpr (Int.emod_eq_zero_of_dvd ⟨-(x / n) - 1, ?_⟩)
    have := Int.mul_ediv_add_emod x n
    grind
  rw [e, Int.emod_eq_of_lt (by lia) (by lia)]
theorem fld_spec {x : Int} (hn : 0 < n) : (n < 2 * (x % n) → n ∣ x + fld n x) ∧ (¬ n < 2 * (x % n) → n ∣ x - fld n x) ∧ fld n x ≤ n.toNat / 2 ∧ (¬ n ∣ x → 1 ≤ fld n x) := by
  have h0 := Int.emod_nonneg x (show n ≠ 0 by lia)
  have h1 := Int.emod_lt_of_pos x hn
  have hd := Int.mul_ediv_add_emod x n
  unfold fld
  refine ⟨fun h => ?_, fun h => ?_, by split <;> lia, fun h => ?_⟩
  · rw [if_pos h]
    refine ⟨x / n + 1, ?_⟩
    rw [Int.toNat_of_nonneg (by lia), Int.mul_add, Int.mul_one]; lia
  · rw [if_neg h]
    refine ⟨x / n, ?_⟩
    rw [Int.toNat_of_nonneg (by lia)]; lia
  · have h2 : x % n ≠ 0 := fun e => h (Int.dvd_of_emod_eq_zero e)
    split <;> lia
theorem fld_neg {x : Int} (hn : 0 < n) (ho : n % 2 = 1) : fld n (-x) = fld n x := by
  by_cases h : n ∣ x
  · have e1 := Int.emod_eq_zero_of_dvd h
    have e2 := Int.emod_eq_zero_of_dvd (Int.dvd_neg.mpr h)
    unfold fld; rw [e1, e2]
  · have e := emod_neg hn h
    have h0 := Int.emod_nonneg x (show n ≠ 0 by lia)
    have h1 := Int.emod_lt_of_pos x hn
    unfold fld; rw [e]
    split <;> split <;> lia
theorem fld_mul {x c : Int} (hn : 0 < n) (ho : n % 2 = 1) : fld n (c * fld n x) = fld n (c * x) := by
  obtain ⟨h1, h2, _, _⟩ := fld_spec (x := x) hn
  by_cases h : n < 2 * (x % n)
  · rw [← fld_neg (x := c * x) hn ho]
    refine fld_congr ?_
    obtain ⟨z, hz⟩ := h1 h
    exact ⟨c * z, by rw [← Int.mul_assoc, Int.mul_comm n c, Int.mul_assoc, ← hz]; grind⟩
  · refine fld_congr ?_
    obtain ⟨z, hz⟩ := h2 h
    exact ⟨-(c * z), by rw [Int.mul_neg, ← Int.mul_assoc, Int.mul_comm n c, Int.mul_assoc, ← hz]; grind⟩
theorem fld_self {k : Nat} (hn : 0 < n) (hk : k ∈ half n) : fld n k = k := by
  have h := mem_half.mp hk
  have e : (k : Int) % n = k := Int.emod_eq_of_lt (by lia) (by lia)
  unfold fld; rw [e, if_neg (by lia)]; lia
theorem not_dvd_half {k : Nat} (hn : 0 < n) (hk : k ∈ half n) : ¬ n ∣ (k : Int) := fun h => by
  have h1 := mem_half.mp hk
  have := Int.le_of_dvd (by lia) h
  lia
theorem not_dvd_mul {a x : Int} (hn : 0 < n) (ha : Int.gcd a n = 1) (hx : ¬ n ∣ x) : ¬ n ∣ a * x := fun h => by
  obtain ⟨c, hc⟩ := inverse hn ha
  refine hx ?_
  have e : x = c * (a * x) - (a * c - 1) * x := by grind
  rw [e]
  exact Int.dvd_sub (Int.dvd_mul_of_dvd_right h) (Int.dvd_mul_of_dvd_left hc)
theorem fld_mem {b : Int} {k : Nat} (hn : 0 < n) (hb : Int.gcd b n = 1) (hk : k ∈ half n) : fld n (b * k) ∈ half n := by
  obtain ⟨_, _, h3, h4⟩ := fld_spec (x := b * k) hn
  exact mem_half.mpr ⟨h4 (not_dvd_mul hn hb (not_dvd_half hn hk)), h3⟩
theorem fld_back {b c : Int} {k : Nat} (hn : 0 < n) (ho : n % 2 = 1) (hc : n ∣ b * c - 1) (hk : k ∈ half n) : fld n (c * fld n (b * k)) = k := by
  rw [fld_mul hn ho]
  have : fld n (c * (b * k)) = fld n k := fld_congr (by
    have e : c * (b * k) - (k : Int) = (b * c - 1) * k := by grind
    rw [e]; exact Int.dvd_mul_of_dvd_left hc)
  rw [this, fld_self hn hk]
theorem perm_half {b : Int} (hn : 0 < n) (ho : n % 2 = 1) (hb : Int.gcd b n = 1) : ((half n).map fun (k : Nat) => fld n (b * k)).Perm (half n) := by
  obtain ⟨c, hc⟩ := inverse hn hb
  have hc' : n ∣ c * b - 1 := by rwa [Int.mul_comm c b]
  have hcg : Int.gcd c n = 1 := by
    have h1 : (Int.gcd c n : Int) ∣ c := Int.gcd_dvd_left ..
    have h2 : (Int.gcd c n : Int) ∣ n := Int.gcd_dvd_right ..
    have h3 : (Int.gcd c n : Int) ∣ 1 := by
      have e : (1 : Int) = b * c - (b * c - 1) := by lia
      rw [e]
      exact Int.dvd_sub (Int.dvd_mul_of_dvd_right h1) (Int.dvd_trans h2 hc)
    have := Int.le_of_dvd (by lia) h3
    have h4 : 0 < Int.gcd c n := Int.gcd_pos_of_ne_zero_right _ (by lia)
    lia
  refine (List.perm_ext_iff_of_nodup ?_ (nodup_half n)).mpr fun j => ⟨fun h => ?_, fun h => ?_⟩
  · refine List.pairwise_map.mpr (List.Pairwise.imp_of_mem (fun {x y} hx hy hne he => hne ?_) (nodup_half n))
    rw [← fld_back hn ho hc hx, ← fld_back hn ho hc hy, he]
  · obtain ⟨k, hk, rfl⟩ := List.mem_map.mp h
    exact fld_mem hn hb hk
  · exact List.mem_map.mpr ⟨fld n (c * j), fld_mem hn hcg h, fld_back hn ho hc' h⟩
theorem bad_congr {a b : Int} {k j : Nat} (h : n ∣ a * k - b * j) : bad a n k = bad b n j := by
  have : (a * k) % n = (b * j) % n := Int.emod_eq_emod_iff_emod_sub_eq_zero.mpr (Int.emod_eq_zero_of_dvd h)
  unfold bad; rw [this]
theorem bad_mul {a b : Int} {k : Nat} (hn : 0 < n) (ho : n % 2 = 1) (ha : Int.gcd a n = 1) (hb : Int.gcd b n = 1) (hk : k ∈ half n) :
    bad (a * b) n k = (bad a n (fld n (b * k)) ^^ bad b n k) := by
  obtain ⟨h1, h2, _, _⟩ := fld_spec (x := b * k) hn
  by_cases h : n < 2 * ((b * k) % n)
  · have hb1 : bad b n k = true := by unfold bad; simpa using h
    rw [hb1]
    obtain ⟨z, hz⟩ := h1 h
    have e : (a * b * k) % n = (-(a * fld n (b * k))) % n := Int.emod_eq_emod_iff_emod_sub_eq_zero.mpr (Int.emod_eq_zero_of_dvd ⟨a * z, by
      have q : n * (a * z) = a * (n * z) := by grind
      rw [q, ← hz]; grind⟩)
    have hnd := not_dvd_mul hn ha (not_dvd_half hn (fld_mem hn hb hk))
    rw [emod_neg hn hnd] at e
    have g0 := Int.emod_nonneg (a * fld n (b * k)) (show n ≠ 0 by lia)
    have g1 := Int.emod_lt_of_pos (a * fld n (b * k)) hn
    unfold bad
    rw [e]
    by_cases q : n < 2 * (a * ↑(fld n (b * ↑k)) % n)
    · rw [decide_eq_true q, decide_eq_false (by lia)]; rfl
    · rw [decide_eq_false q, decide_eq_true (by lia)]; rfl
  · have hb1 : bad b n k = false := by unfold bad; simpa using h
    rw [hb1, Bool.xor_false]
    obtain ⟨z, hz⟩ := h2 h
    exact bad_congr ⟨a * z, by
      have q : n * (a * z) = a * (n * z) := by grind
      rw [q, ← hz]; grind⟩
theorem countP_xor (p q : Nat → Bool) (l : List Nat) : l.countP (fun k => p k ^^ q k) % 2 = (l.countP p + l.countP q) % 2 := by
  induction l with
  | nil => rfl
  | cons x r ih =>
    simp only [List.countP_cons]
    cases p x <;> cases q x <;> simp <;> lia
theorem countP_of_mem {p q : Nat → Bool} {l : List Nat} (h : ∀ k ∈ l, p k = q k) : l.countP p = l.countP q := by
  induction l with
  | nil => rfl
  | cons x r ih =>
    simp only [List.countP_cons]
    rw [h x (.head _), ih fun k hk => h k (.tail _ hk)]
theorem cnt_mul {a b : Int} (hn : 0 < n) (ho : n % 2 = 1) (ha : Int.gcd a n = 1) (hb : Int.gcd b n = 1) : cnt (a * b) n % 2 = (cnt a n + cnt b n) % 2 := by
  unfold cnt
  rw [countP_of_mem fun k hk => bad_mul hn ho ha hb hk, countP_xor]
  have e : (half n).countP (fun (k : Nat) => bad a n (fld n (b * k))) = (half n).countP (bad a n) := by
    rw [← (perm_half hn ho hb).countP_eq (bad a n), List.countP_map]; rfl
  rw [e]
theorem gcd_mul_one {a b : Int} : Int.gcd (a * b) n = 1 ↔ Int.gcd a n = 1 ∧ Int.gcd b n = 1 := by
  unfold Int.gcd
  rw [Int.natAbs_mul]
  exact ⟨fun h => ⟨Nat.Coprime.coprime_mul_right h, Nat.Coprime.coprime_mul_left h⟩, fun h => Nat.Coprime.mul_left h.1 h.2⟩
theorem J_mul (a b : Int) (hn : 0 < n) (ho : n % 2 = 1) : J (a * b) n = J a n * J b n := by
  unfold J
  by_cases ha : Int.gcd a n = 1
  · by_cases hb : Int.gcd b n = 1
    · rw [if_pos (gcd_mul_one.mpr ⟨ha, hb⟩), if_pos ha, if_pos hb]
      have := cnt_mul hn ho ha hb
      split <;> split <;> split <;> lia
    · rw [if_neg (fun h => hb (gcd_mul_one.mp h).2), if_neg hb, Int.mul_zero]
  · rw [if_neg (fun h => ha (gcd_mul_one.mp h).1), if_neg ha, Int.zero_mul]
theorem J_congr {a b : Int} (h : n ∣ a - b) : J a n = J b n := by
  have hg : Int.gcd a n = Int.gcd b n := by
    obtain ⟨z, hz⟩ := h
    have e : a = b + n * z := by lia
    rw [e, Int.mul_comm n z, Int.gcd_add_mul_right_left]
  unfold J cnt
  rw [hg, countP_of_mem fun k _ => bad_congr (a := a) (b := b) (by
    have e : a * k - b * k = (a - b) * k := by grind
    rw [e]; exact Int.dvd_mul_of_dvd_left h)]
end
end Mine
end
section
namespace Mine
section
variable {n : Int}
theorem J_one_below (a : Int) : J a 1 = 1 := by
  unfold J cnt half
  rw [Int.gcd_one, if_pos rfl]; rfl
theorem J_zero (hn : 1 < n) : J 0 n = 0 := by
  unfold J
  rw [if_neg]
  rw [Int.gcd_zero_left]; lia
theorem J_sign (a n : Int) : J a n = 0 ∨ J a n = 1 ∨ J a n = -1 := by
  unfold J; split
  · split
    · exact .inr (.inl rfl)
    · exact .inr (.inr rfl)
  · exact .inl rfl
theorem J_eq_zero {a : Int} : J a n = 0 ↔ Int.gcd a n ≠ 1 := by
  unfold J; split
  · rename_i h; split <;> simp [h]
  · rename_i h; simp [h]
theorem J_sq (b : Int) (hn : 0 < n) (ho : n % 2 = 1) : J (b * b) n = if Int.gcd b n = 1 then 1 else 0 := by
  rw [J_mul b b hn ho]
  split
  · rename_i h
    rcases J_sign b n with e | e | e
    · exact absurd h (J_eq_zero.mp e)
    · rw [e]; rfl
    · rw [e]; rfl
  · rename_i h
    rw [J_eq_zero.mpr h]; rfl
theorem J_one (hn : 0 < n) (ho : n % 2 = 1) : J 1 n = 1 := by
  have h := J_sq 1 hn ho
  rw [Int.one_gcd, if_pos rfl] at h
  exact h
theorem countP_ge (t : Nat) : ∀ (len s : Nat), (List.range' s len).countP (fun k => decide (t < k)) = (s + len) - max s (t + 1) := by
  intro len
  induction len with
  | zero => intro s; simp; lia
  | succ len ih =>
    intro s
    rw [List.range'_succ, List.countP_cons, ih]
    by_cases h : t < s
    · rw [decide_eq_true h]; simp; lia
    · rw [decide_eq_false h]; simp; lia
theorem J_two (hn : 0 < n) (ho : n % 2 = 1) : J 2 n = if n % 8 = 3 ∨ n % 8 = 5 then -1 else 1 := by
  have hg : Int.gcd 2 n = 1 := by
    have h1 : (Int.gcd 2 n : Int) ∣ 2 := Int.gcd_dvd_left ..
    have h2 : (Int.gcd 2 n : Int) ∣ n := Int.gcd_dvd_right ..
    have h3 : (Int.gcd 2 n : Int) ∣ 1 := by
      have e : (1 : Int) = n - 2 * (n / 2) := by lia
      rw [e]; exact Int.dvd_sub h2 (Int.dvd_mul_of_dvd_left h1)
    have h4 := Int.le_of_dvd (by lia) h3
    have h5 : 0 < Int.gcd 2 n := Int.gcd_pos_of_ne_zero_right _ (by lia)
    lia
  have hc : cnt 2 n = n.toNat / 2 - n.toNat / 2 / 2 := by
    unfold cnt
    rw [countP_of_mem (q := fun k => decide (n.toNat / 2 / 2 < k)) fun k hk => ?_]
    · unfold half; rw [countP_ge]; lia
    · have h := mem_half.mp hk
      have e : (2 * (k : Int)) % n = 2 * k := Int.emod_eq_of_lt (by lia) (by lia)
      unfold bad; rw [e]
      by_cases q : n < 2 * (2 * (k : Int))
      · rw [decide_eq_true q, decide_eq_true (by lia)]
      · rw [decide_eq_false q, decide_eq_false (by lia)]
  unfold J
  rw [if_pos hg, hc]
  split <;> split <;> lia
theorem J_neg (hn : 0 < n) (ho : n % 2 = 1) : J (-1) n = if n % 4 = 3 then -1 else 1 := by
  have hg : Int.gcd (-1) n = 1 := by rw [Int.neg_gcd, Int.one_gcd]
  have hc : cnt (-1) n = n.toNat / 2 := by
    unfold cnt
    rw [countP_of_mem (q := fun _ => true) fun k hk => ?_]
    · rw [List.countP_true]; unfold half; rw [List.length_range']
    · have h := mem_half.mp hk
      have e : (-1 * (k : Int)) % n = n - k := by
        rw [show -1 * (k : Int) = -k from by lia, emod_neg hn (not_dvd_half hn hk), Int.emod_eq_of_lt (by lia) (by lia)]
      unfold bad; rw [e]; exact decide_eq_true (by lia)
  unfold J
  rw [if_pos hg, hc]
  split <;> split <;> lia
/-! reciprocity: Eisenstein's sum -/
def flo (a n : Int) : Nat := ((half n).map fun (k : Nat) => (a * k / n).toNat).sum
theorem sum_swap (p : Nat → Nat → Bool) (l l' : List Nat) : (l.map fun k => l'.countP (p k)).sum = (l'.map fun j => l.countP (fun k => p k j)).sum := by
  induction l with
  | nil =>
    simp only [List.map_nil, List.sum_nil, List.countP_nil]
    induction l' with
    | nil => rfl
    | cons x r ih => simpa using ih
  | cons x r ih =>
    simp only [List.map_cons, List.sum_cons, ih, List.countP_cons]
    clear ih
    induction l' with
    | nil => rfl
    | cons y s ih2 =>
      simp only [List.map_cons, List.sum_cons, List.countP_cons]
      lia
theorem countP_le (q : Nat) : ∀ (len s : Nat), (List.range' s len).countP (fun j => decide (j ≤ q)) = min (s + len) (q + 1) - s := by
  intro len
  induction len with
  | zero => intro s; simp; lia
  | succ len ih =>
    intro s
    rw [List.range'_succ, List.countP_cons, ih]
    by_cases h : s ≤ q
    · rw [decide_eq_true h]; simp; lia
    · rw [decide_eq_false h]; simp; lia
theorem sum_map_add (f g : Nat → Nat) (l : List Nat) : (l.map fun k => f k + g k).sum = (l.map f).sum + (l.map g).sum := by
  induction l with
  | nil => rfl
  | cons x r ih => simp only [List.map_cons, List.sum_cons, ih]; lia
theorem sum_map_congr {f g : Nat → Nat} {l : List Nat} (h : ∀ k ∈ l, f k = g k) : (l.map f).sum = (l.map g).sum := by
  rw [List.map_congr_left h]
/-- the points below the line -/
theorem flo_count {a : Int} (hn : 0 < n) (ho : n % 2 = 1) (ha : 0 < a) (ha2 : a % 2 = 1) (hg : Int.gcd a n = 1) : flo a n = ((half n).map fun (k : Nat) => (half a).countP fun (j : Nat) => decide (n * j < a * k)).sum := by
  unfold flo
  refine sum_map_congr fun k hk => ?_
  have h := mem_half.mp hk
  have hnd := not_dvd_mul hn hg (not_dvd_half hn hk)
  have d := Int.mul_ediv_add_emod (a * k) n
  have m0 := Int.emod_nonneg (a * k) (show n ≠ 0 by lia)
  have m1 := Int.emod_lt_of_pos (a * k) hn
  have m2 : (a * k) % n ≠ 0 := fun e => hnd (Int.dvd_of_emod_eq_zero e)
  have q0 : 0 ≤ a * k / n := Int.ediv_nonneg (Int.mul_nonneg (by lia) (by lia)) (by lia)
  have q1 : a * k / n ≤ a / 2 := by
    have h1 : a * (2 * (k : Int)) < a * n := Int.mul_lt_mul_of_pos_left (by lia) ha
    have h2 : n * (2 * (a * k / n)) ≤ a * (2 * (k : Int)) := by
      have e1 : n * (2 * (a * k / n)) = 2 * (n * (a * k / n)) := by grind
      have e2 : a * (2 * (k : Int)) = 2 * (a * k) := by grind
      lia
    have h3 : n * (2 * (a * k / n)) < n * a := by rw [Int.mul_comm n a]; lia
    have := Int.lt_of_mul_lt_mul_left h3 (by lia)
    lia
  rw [countP_of_mem (q := fun j => decide (j ≤ (a * k / n).toNat)) fun j _ => ?_]
  · unfold half; rw [countP_le]; lia
  · by_cases q : n * (j : Int) < a * k
    · rw [decide_eq_true q, decide_eq_true]
      have : n * (j : Int) < n * (a * k / n + 1) := by rw [Int.mul_add, Int.mul_one]; lia
      have := Int.lt_of_mul_lt_mul_left this (by lia)
      lia
    · rw [decide_eq_false q, decide_eq_false]
      intro hj
      have : n * (j : Int) ≤ n * (a * k / n) := Int.mul_le_mul_of_nonneg_left (by lia) (by lia)
      lia
theorem sum_const (c : Nat) (l : List Nat) : (l.map fun _ => c).sum = l.length * c := by
  induction l with
  | nil => simp
  | cons x r ih => simp only [List.map_cons, List.sum_cons, ih, List.length_cons, Nat.succ_mul]; lia
theorem length_half (n : Int) : (half n).length = n.toNat / 2 := by unfold half; rw [List.length_range']
theorem countP_both {p q : Nat → Bool} {l : List Nat} (h : ∀ k ∈ l, p k = !q k) : l.countP p + l.countP q = l.length := by
  induction l with
  | nil => rfl
  | cons x r ih =>
    have h1 := h x (.head _)
    have h2 := ih fun k hk => h k (.tail _ hk)
    simp only [List.countP_cons, List.length_cons, h1]
    cases q x <;> simp <;> lia
theorem flo_flo {a : Int} (hn : 0 < n) (ho : n % 2 = 1) (ha : 0 < a) (ha2 : a % 2 = 1) (hg : Int.gcd a n = 1) : flo a n + flo n a = (n.toNat / 2) * (a.toNat / 2) := by
  rw [flo_count hn ho ha ha2 hg, flo_count ha ha2 hn ho (by rwa [Int.gcd_comm])]
  rw [sum_swap (fun (j k : Nat) => decide (a * k < n * j)) (half a) (half n), ← sum_map_add]
  rw [← length_half n, ← length_half a, ← sum_const]
  refine sum_map_congr fun k hk => countP_both fun j hj => ?_
  have hnd := not_dvd_mul hn hg (not_dvd_half hn hk)
  by_cases q : n * (j : Int) < a * k
  · rw [decide_eq_true q, decide_eq_false (by lia)]; rfl
  · rw [decide_eq_false q, decide_eq_true]; rfl
    have : n * (j : Int) ≠ a * k := fun e => hnd ⟨j, e.symm⟩
    lia
theorem sum_mod2 {f g : Nat → Nat} {l : List Nat} (h : ∀ k ∈ l, f k % 2 = g k % 2) : (l.map f).sum % 2 = (l.map g).sum % 2 := by
  induction l with
  | nil => rfl
  | cons x r ih =>
    have h1 := h x (.head _)
    have h2 := ih fun k hk => h k (.tail _ hk)
    simp only [List.map_cons, List.sum_cons]; lia
theorem countP_sum (p : Nat → Bool) (l : List Nat) : l.countP p = (l.map fun k => if p k then 1 else 0).sum := by
  induction l with
  | nil => rfl
  | cons x r ih => simp only [List.countP_cons, List.map_cons, List.sum_cons, ih]; lia
theorem cnt_flo {a : Int} (hn : 0 < n) (ho : n % 2 = 1) (ha : 0 < a) (ha2 : a % 2 = 1) (hg : Int.gcd a n = 1) : cnt a n % 2 = flo a n % 2 := by
  have h1 : ((half n).map fun (k : Nat) => fld n (a * k)).sum = (half n).sum := (perm_half hn ho hg).sum_nat
  have h2 : ∀ k ∈ half n, (fld n (a * k) + k) % 2 = ((a * k / n).toNat + (if bad a n k then 1 else 0)) % 2 := by
    intro k hk
    have h := mem_half.mp hk
    have d := Int.mul_ediv_add_emod (a * k) n
    have m0 := Int.emod_nonneg (a * k) (show n ≠ 0 by lia)
    have m1 := Int.emod_lt_of_pos (a * k) hn
    have q0 : 0 ≤ a * k / n := Int.ediv_nonneg (Int.mul_nonneg (by lia) (by lia)) (by lia)
    have p1 : (a * k) % 2 = (k : Int) % 2 := by rw [Int.mul_emod, ha2, Int.one_mul, Int.emod_emod]
    have p2 : (n * (a * k / n)) % 2 = (a * k / n) % 2 := by rw [Int.mul_emod, ho, Int.one_mul, Int.emod_emod]
    unfold fld bad
    by_cases q : n < 2 * ((a * k) % n)
    · rw [if_pos q, decide_eq_true q, if_pos rfl]; lia
    · rw [if_neg q, decide_eq_false q, if_neg (by decide)]; lia
  have h3 := sum_mod2 h2
  rw [sum_map_add, sum_map_add, ← countP_sum, h1, List.map_id'] at h3
  unfold cnt flo
  lia
theorem J_recip {a : Int} (hn : 0 < n) (ho : n % 2 = 1) (ha : 0 < a) (ha2 : a % 2 = 1) : J a n = J n a * (if a % 4 = 3 ∧ n % 4 = 3 then -1 else 1) := by
  unfold J
  by_cases hg : Int.gcd a n = 1
  · have hg' : Int.gcd n a = 1 := by rwa [Int.gcd_comm]
    rw [if_pos hg, if_pos hg']
    have e1 := cnt_flo hn ho ha ha2 hg
    have e2 := cnt_flo ha ha2 hn ho hg'
    have e3 := flo_flo hn ho ha ha2 hg
    have e4 : ((n.toNat / 2) * (a.toNat / 2)) % 2 = if a % 4 = 3 ∧ n % 4 = 3 then 1 else 0 := by
      rw [Nat.mul_mod]
      by_cases h1 : n % 4 = 3
      · rw [show n.toNat / 2 % 2 = 1 from by lia]
        by_cases h2 : a % 4 = 3
        · rw [show a.toNat / 2 % 2 = 1 from by lia, if_pos ⟨h2, h1⟩]
        · rw [show a.toNat / 2 % 2 = 0 from by lia, if_neg (fun h => h2 h.1)]
      · rw [show n.toNat / 2 % 2 = 0 from by lia, if_neg (fun h => h1 h.2)]; simp
    split <;> split <;> split <;> simp_all <;> lia
  · have hg' : ¬ Int.gcd n a = 1 := by rwa [Int.gcd_comm]
    rw [if_neg hg, if_neg hg', Int.zero_mul]
theorem odd_rep (a : Int) {N : Int} (hN : 0 < N) (ho : N % 2 = 1) : ∃ b, 0 < b ∧ b % 2 = 1 ∧ N ∣ a - b := by
  have h0 := Int.emod_nonneg a (show N ≠ 0 by lia)
  have d := Int.mul_ediv_add_emod a N
  by_cases h : (a % N) % 2 = 1
  · exact ⟨a % N, by lia, h, a / N, by lia⟩
  · exact ⟨a % N + N, by lia, by lia, a / N - 1, by rw [Int.mul_sub, Int.mul_one]; lia⟩
theorem J_mul_below (a : Int) {m : Int} (hn : 0 < n) (ho : n % 2 = 1) (hm : 0 < m) (hm2 : m % 2 = 1) : J a (n * m) = J a n * J a m := by
  have hN : 0 < n * m := Int.mul_pos hn hm
  have hNo : (n * m) % 2 = 1 := by rw [Int.mul_emod, ho, hm2]; rfl
  obtain ⟨b, b0, b1, b2⟩ := odd_rep a hN hNo
  have d1 : n ∣ a - b := Int.dvd_trans (Int.dvd_mul_right ..) b2
  have d2 : m ∣ a - b := Int.dvd_trans (Int.dvd_mul_left ..) b2
  rw [J_congr b2, J_congr d1, J_congr d2, J_recip hN hNo b0 b1, J_recip hn ho b0 b1, J_recip hm hm2 b0 b1, J_mul n m b0 b1]
  have e : (n * m) % 4 = 3 ↔ ¬ (n % 4 = 3 ↔ m % 4 = 3) := by
    rw [Int.mul_emod]
    have h1 : n % 4 = 1 ∨ n % 4 = 3 := by lia
    have h2 : m % 4 = 1 ∨ m % 4 = 3 := by lia
    rcases h1 with h1 | h1 <;> rcases h2 with h2 | h2 <;> rw [h1, h2] <;> decide
  generalize J n b = x
  generalize J m b = y
  by_cases h : b % 4 = 3
  · by_cases h1 : n % 4 = 3
    · by_cases h2 : m % 4 = 3
      · rw [if_neg (fun q => (e.mp q.2) ⟨fun _ => h2, fun _ => h1⟩), if_pos ⟨h, h1⟩, if_pos ⟨h, h2⟩]; grind
      · rw [if_pos ⟨h, e.mpr (fun q => h2 (q.mp h1))⟩, if_pos ⟨h, h1⟩, if_neg (fun q => h2 q.2)]; grind
    · by_cases h2 : m % 4 = 3
      · rw [if_pos ⟨h, e.mpr (fun q => h1 (q.mpr h2))⟩, if_neg (fun q => h1 q.2), if_pos ⟨h, h2⟩]; grind
      · rw [if_neg (fun q => (e.mp q.2) ⟨fun z => absurd z h1, fun z => absurd z h2⟩), if_neg (fun q => h1 q.2), if_neg (fun q => h2 q.2)]; grind
  · rw [if_neg (fun q => h q.1), if_neg (fun q => h q.1), if_neg (fun q => h q.1)]; grind
end
end Mine
end
section
namespace Mine
open PySem PySem.W PyProof.Rows
theorem beta8 {w β : Int} (hw : 3 ≤ w) (hβ : (2 : Int) ^ w.toNat = β) : ∃ z, β = 8 * z := by
  refine ⟨2 ^ (w.toNat - 3), ?_⟩
  have h : (2 : Int) ^ (3 + (w.toNat - 3)) = 2 ^ 3 * 2 ^ (w.toNat - 3) := Int.pow_add ..
  rw [show 3 + (w.toNat - 3) = w.toNat from by lia] at h
  rw [← hβ, h]; rfl
theorem val_mod8 {w β : Int} (hw : 3 ≤ w) (hβ : (2 : Int) ^ w.toNat = β) (l : List Int) : val β l % 8 = l.getD 0 0 % 8 := by
  obtain ⟨z, rfl⟩ := beta8 hw hβ
  cases l with
  | nil => rfl
  | cons x r => simp only [val, List.getD_cons_zero]; rw [Int.mul_assoc, Int.add_mul_emod_self_left]
/-- what trailing finds -/
theorem trail_val {w β k o : Int} {ns : List Int} {i e : Nat} (hw : 3 ≤ w) (hw2 : w ≤ 9) (hβ : (2 : Int) ^ w.toNat = β) (hns : Dig β ns) (hlen : ns.length < 1000) (hk : k = i * w + e) (hi : i < ns.length) (hz : ∀ j < i, ns.getD j 0 = 0) (hx : ns.getD i 0 = 2 ^ e * (2 * o + 1)) (ho : 0 ≤ o) :
    0 ≤ k ∧ k < 100000 ∧ ∃ q, 0 ≤ q ∧ val β ns = 2 ^ k.toNat * (2 * q + 1) := by
  have hb : 0 < β := by rw [← hβ]; exact kbt_pos _
  have hd := hns.getD hb i
  have he : e < w.toNat := by
    by_cases h : e < w.toNat
    · exact h
    · exfalso
      have h1 : (2 : Int) ^ w.toNat ≤ 2 ^ e := two_pow_le (by lia)
      have h2 : (2 : Int) ^ e * 1 ≤ 2 ^ e * (2 * o + 1) := Int.mul_le_mul_of_nonneg_left (by lia) (by have := kbt_pos e; lia)
      lia
  have hiw : (i : Int) * w ≤ 1000 * 9 := Int.mul_le_mul (by lia) hw2 (by lia) (by lia)
  have hiw0 : 0 ≤ (i : Int) * w := Int.mul_nonneg (by lia) (by lia)
  refine ⟨by lia, by lia, ?_⟩
  have h1 := val_split (β := β) ns i (by lia)
  rw [val_zeros (l := ns.take i) fun j => ?_, val_drop hi, hx] at h1
  · have h2 := val_nonneg hb (hns.drop (i + 1))
    have ek : k.toNat = i * w.toNat + e := by
      have : ((i * w.toNat + e : Nat) : Int) = k := by
        rw [hk, Int.natCast_add, Int.natCast_mul, Int.toNat_of_nonneg (by lia)]
      lia
    have eb : β ^ i = 2 ^ (i * w.toNat) := by rw [← hβ, ← Int.pow_mul, Nat.mul_comm]
    have eβ : β = 2 ^ e * (2 * 2 ^ (w.toNat - e - 1)) := by
      rw [← hβ, ← Int.pow_succ', ← Int.pow_add]; congr 1; lia
    refine ⟨o + 2 ^ (w.toNat - e - 1) * val β (ns.drop (i + 1)), ?_, ?_⟩
    · have := Int.mul_nonneg (Int.le_of_lt (kbt_pos (w.toNat - e - 1))) h2
      lia
    · rw [h1, eb, ek, Int.pow_add]
      generalize val β (ns.drop (i + 1)) = V at *
      generalize (2 : Int) ^ (w.toNat - e - 1) = u at *
      generalize (2 : Int) ^ (i * w.toNat) = y at *
      generalize (2 : Int) ^ e = x at *
      rw [eβ]; grind
  · by_cases hj : j < i
    · rw [getD_take hj]; exact hz j hj
    · exact getD_ge (by rw [List.length_take]; lia)
theorem shr_val {w β k sp few γ : Int} {ns : List Int} (hβ : (2 : Int) ^ w.toNat = β) (hw : 3 ≤ w) (hns : Dig β ns) (hk : 0 ≤ k) (hsp : k / w = sp) (hfew : k % w = few) (hγ : (2 : Int) ^ few.toNat = γ) : val β (ns.drop sp.toNat) / γ = val β ns / 2 ^ k.toNat := by
  have hb : 0 < β := by rw [← hβ]; exact kbt_pos _
  have s0 : 0 ≤ sp := by rw [← hsp]; exact Int.ediv_nonneg hk (by lia)
  have f0 : 0 ≤ few := by rw [← hfew]; exact Int.emod_nonneg _ (by lia)
  have hd := Int.mul_ediv_add_emod k w
  rw [hsp, hfew] at hd
  have ek : k.toNat = w.toNat * sp.toNat + few.toNat := by
    have : ((w.toNat * sp.toNat + few.toNat : Nat) : Int) = k := by
      rw [Int.natCast_add, Int.natCast_mul, Int.toNat_of_nonneg (by lia), Int.toNat_of_nonneg s0, Int.toNat_of_nonneg f0]; exact hd
    lia
  have e2 : (2 : Int) ^ k.toNat = β ^ sp.toNat * γ := by rw [ek, Int.pow_add, Int.pow_mul, hβ, hγ]
  have hp : 0 < β ^ sp.toNat := Int.pow_pos hb
  rw [e2, ← Int.ediv_ediv_of_nonneg (Int.le_of_lt hp)]
  congr 1
  by_cases h : sp.toNat ≤ ns.length
  · have h1 := val_split (β := β) ns sp.toNat h
    have h2 := val_nonneg hb (hns.take sp.toNat)
    have h3 := val_lt hb (hns.take sp.toNat)
    rw [List.length_take, Nat.min_eq_left h] at h3
    rw [h1, Int.add_mul_ediv_left _ _ (by lia), Int.ediv_eq_zero_of_lt h2 h3, Int.zero_add]
  · rw [List.drop_of_length_le (by lia)]
    have h2 := val_nonneg hb hns
    have h3 := val_lt hb hns
    have h4 := pow_le (β := β) (by lia) (show ns.length ≤ sp.toNat by lia)
    rw [Int.ediv_eq_zero_of_lt h2 (by lia)]; rfl
theorem odd_shift {v q : Int} {t : Nat} (h : v = 2 ^ t * (2 * q + 1)) : v / 2 ^ t = 2 * q + 1 := by
  rw [h]; exact Int.mul_ediv_cancel_left _ (by have := kbt_pos t; lia)
/-! the symbol's turn -/
def eps (a n : Int) : Int := if a % 4 = 3 ∧ n % 4 = 3 then -1 else 1
def two (k v : Int) : Int := if k % 2 = 1 ∧ (v % 8 = 3 ∨ v % 8 = 5) then -1 else 1
theorem J_twos {n x : Int} (hn : 0 < n) (ho : n % 2 = 1) : ∀ t : Nat, J (2 ^ t * x) n = two t n * J x n := by
  intro t
  induction t with
  | zero => simp [two]
  | succ t ih =>
    rw [Int.pow_succ, Int.mul_comm (2 ^ t) 2, Int.mul_assoc, J_mul _ _ hn ho, ih, J_two hn ho]
    generalize J x n = y
    unfold two
    by_cases h : n % 8 = 3 ∨ n % 8 = 5
    · rw [if_pos h]
      by_cases ht : ((t : Int)) % 2 = 1
      · rw [if_pos ⟨ht, h⟩, if_neg (fun q => by have := q.1; lia)]; lia
      · rw [if_neg (fun q => ht q.1), if_pos ⟨by lia, h⟩]; lia
    · rw [if_neg h, if_neg (fun q => h q.2), if_neg (fun q => h q.2)]; lia
theorem J_turn {n q : Int} {t : Nat} (hn : 0 < n) (ho : n % 2 = 1) (hq : 0 ≤ q) : J (2 ^ t * (2 * q + 1)) n = two t n * eps (2 * q + 1) n * J (n % (2 * q + 1)) (2 * q + 1) := by
  rw [J_twos hn ho, J_recip hn ho (by lia) (by lia)]
  have : J n (2 * q + 1) = J (n % (2 * q + 1)) (2 * q + 1) := J_congr ⟨n / (2 * q + 1), by
    have := Int.mul_ediv_add_emod n (2 * q + 1); lia⟩
  rw [this]; unfold eps; grind
theorem J_mod (a n : Int) : J (a % n) n = J a n := J_congr ⟨-(a / n), by have := Int.mul_ediv_add_emod a n; rw [Int.mul_neg]; lia⟩
theorem two_sign_abs (k v : Int) : two k v = 1 ∨ two k v = -1 := by unfold two; split <;> simp
theorem eps_abs (k v : Int) : eps k v = 1 ∨ eps k v = -1 := by unfold eps; split <;> simp
/-- the state of jacobi's loop -/
structure JacP (β A0 N0 : Int) (K : Nat) (f : Int) (xs ys : List Int) : Prop where
  rx : Row β (val β xs) xs
  ry : Row β (val β ys) ys
  pos : 0 < val β ys
  odd : val β ys % 2 = 1
  lx : xs.length ≤ K
  ly : ys.length ≤ K
  eq : f * J (val β xs) (val β ys) = J A0 N0
  fs : f = 1 ∨ f = -1
theorem jac_start {β A0 N0 : Int} {K : Nat} {xs ys : List Int} (hβ : 8 ≤ β) (hx : Row β (A0 % N0) xs) (hy : Row β N0 ys) (hpos : 0 < N0) (hodd : N0 % 2 = 1) (hK : ys.length = K) : JacP β A0 N0 K 1 xs ys := by
  refine ⟨hx.eq.symm ▸ hx, hy.eq.symm ▸ hy, hy.eq.symm ▸ hpos, hy.eq.symm ▸ hodd, ?_, by lia, ?_, Or.inl rfl⟩
  · refine row_len (by lia) hx ?_
    have h1 := hy.lt (by lia)
    have h2 := Int.emod_lt_of_pos A0 hpos
    rw [← hK]; lia
  · rw [hx.eq, hy.eq, J_mod, Int.one_mul]
theorem jac_turn {β A0 N0 f k q s : Int} {K : Nat} {xs ys ms zs : List Int} (hβ : 8 ≤ β) (h : JacP β A0 N0 K f xs ys) (hk : 0 ≤ k) (hq : 0 ≤ q) (hv : val β xs = 2 ^ k.toNat * (2 * q + 1)) (hm : Row β (2 * q + 1) ms) (hz : Row β (val β ys % (2 * q + 1)) zs) (hs : s = eps (2 * q + 1) (val β ys)) :
    JacP β A0 N0 K (f * two k (val β ys) * s) zs ms := by
  have hle : 2 * q + 1 ≤ val β xs := by
    have h1 := two_pow_pos k.toNat
    have : 1 * (2 * q + 1) ≤ 2 ^ k.toNat * (2 * q + 1) := Int.mul_le_mul_of_nonneg_right h1 (by lia)
    lia
  have hlt := h.rx.lt (by lia)
  have hp := pow_le (β := β) (by lia) h.lx
  have hzlt := Int.emod_lt_of_pos (val β ys) (show 0 < 2 * q + 1 by lia)
  refine ⟨hz.eq.symm ▸ hz, hm.eq.symm ▸ hm, by rw [hm.eq]; lia, by rw [hm.eq]; lia, row_len (by lia) hz (by lia), row_len (by lia) hm (by lia), ?_, ?_⟩
  · rw [hz.eq, hm.eq, ← h.eq, hv, J_turn h.pos h.odd hq, hs, Int.toNat_of_nonneg hk]; grind
  · have h1 := h.fs
    have h2 := two_sign_abs k (val β ys)
    have h3 := eps_abs (2 * q + 1) (val β ys)
    rw [← hs] at h3
    rcases h1 with h1 | h1 <;> rcases h2 with h2 | h2 <;> rcases h3 with h3 | h3 <;> rw [h1, h2, h3] <;> decide
theorem jac_end {β A0 N0 f : Int} {K : Nat} {xs ys : List Int} (hβ : 8 ≤ β) (h : JacP β A0 N0 K f xs ys) (hl : xs.length = 0) : J A0 N0 = if val β ys = 1 then f else 0 := by
  have e : xs = [] := List.eq_nil_of_length_eq_zero hl
  have h1 := h.eq
  have h2 := h.pos
  rw [e, show val β ([] : List Int) = 0 from rfl] at h1
  rw [← h1]
  split
  · rename_i h3; rw [h3, J_one_below, Int.mul_one]
  · rw [J_zero (by lia), Int.mul_zero]
end Mine
namespace Mine
theorem row_ex {β : Int} {xs : List Int} (h : Row β (val β xs) xs) (hl : 0 < xs.length) : ∃ x ∈ xs, x ≠ 0 :=
  ⟨_, getD_mem (j := xs.length - 1) (by lia), h.norm _ (by lia)⟩
end Mine
namespace Mine
open PySem PySem.W PyProof.Rows
theorem val_mod4 {w β : Int} (hw : 3 ≤ w) (hβ : (2 : Int) ^ w.toNat = β) (l : List Int) : val β l % 4 = l.getD 0 0 % 4 := by
  have := val_mod8 hw hβ l; lia
theorem jac_way1 {w β A0 N0 f k q t : Int} {K : Nat} {xs ys ms zs : List Int} (hw : 3 ≤ w) (hβ : (2 : Int) ^ w.toNat = β) (hβ1 : 8 ≤ β) (h : JacP β A0 N0 K f xs ys) (hk : 0 ≤ k) (hq : 0 ≤ q) (hv : val β xs = 2 ^ k.toNat * (2 * q + 1)) (hm : Row β (2 * q + 1) ms) (hz : Row β (val β ys % (2 * q + 1)) zs)
    (ht : two k (val β ys) = t) (h1 : ms.getD 0 0 % 4 = 3) (h2 : ys.getD 0 0 % 4 = 3) : JacP β A0 N0 K (-(f * t)) zs ms := by
  have e : -(f * t) = f * two k (val β ys) * -1 := by rw [ht]; lia
  rw [e]
  refine jac_turn hβ1 h hk hq hv hm hz ?_
  have e1 := val_mod4 hw hβ ms
  have e2 := val_mod4 hw hβ ys
  rw [hm.eq] at e1
  unfold eps; rw [if_pos ⟨by lia, by lia⟩]
theorem jac_way2 {w β A0 N0 f k q t : Int} {K : Nat} {xs ys ms zs : List Int} (hw : 3 ≤ w) (hβ : (2 : Int) ^ w.toNat = β) (hβ1 : 8 ≤ β) (h : JacP β A0 N0 K f xs ys) (hk : 0 ≤ k) (hq : 0 ≤ q) (hv : val β xs = 2 ^ k.toNat * (2 * q + 1)) (hm : Row β (2 * q + 1) ms) (hz : Row β (val β ys % (2 * q + 1)) zs)
    (ht : two k (val β ys) = t) (h1 : ¬ (ms.getD 0 0 % 4 = 3 ∧ ys.getD 0 0 % 4 = 3)) : JacP β A0 N0 K (f * t) zs ms := by
  have e : f * t = f * two k (val β ys) * 1 := by rw [ht]; lia
  rw [e]
  refine jac_turn hβ1 h hk hq hv hm hz ?_
  have e1 := val_mod4 hw hβ ms
  have e2 := val_mod4 hw hβ ys
  rw [hm.eq] at e1
  unfold eps; rw [if_neg (fun g => h1 ⟨by lia, by lia⟩)]
theorem jac_less {β k q : Int} {xs ys zs : List Int} (hq : 0 ≤ q) (hv : val β xs = 2 ^ k.toNat * (2 * q + 1)) (hz : Row β (val β ys % (2 * q + 1)) zs) : (val β zs).toNat < (val β xs).toNat := by
  have h1 := two_pow_pos k.toNat
  have h2 : 1 * (2 * q + 1) ≤ 2 ^ k.toNat * (2 * q + 1) := Int.mul_le_mul_of_nonneg_right h1 (by lia)
  have h3 := Int.emod_lt_of_pos (val β ys) (show 0 < 2 * q + 1 by lia)
  have h4 := Int.emod_nonneg (val β ys) (show 2 * q + 1 ≠ 0 by lia)
  rw [hz.eq]; lia
end Mine
end
section
namespace Mine
open PySem PySem.W PyProof.Rows
/-! _law_row -/
def RowP (β v : Int) (x : Int) (f : List Int) : Prop := Dig β f ∧ val β f + β ^ f.length * x = v ∧ (x = 0 → Norm f)
theorem rowp_start {β v : Int} {f : List Int} (hf : f = []) (hv : 0 ≤ v) : (0 ≤ v ∧ f.length ≤ 11) ∧ RowP β v v f := by
  subst hf
  exact ⟨⟨hv, by simp⟩, fun x hx => (nomatch hx), by simp [val], fun _ i hi => by simp at hi⟩
theorem rowp_len {β v x : Int} {f : List Int} (hβ : 8 ≤ β) (h : RowP β v x f) (hx : 0 < x) (hv : v < 8589934592) : f.length ≤ 10 := by
  have e8 : (8 : Int) ^ 11 = 8589934592 := by decide
  by_cases hl : f.length ≤ 10
  · exact hl
  · exfalso
    obtain ⟨h1, h2, _⟩ := h
    have h3 := val_nonneg (by lia) h1
    have h4 := pow_le (β := β) (by lia) (show 11 ≤ f.length by lia)
    have h5 : β ^ f.length * 1 ≤ β ^ f.length * x := Int.mul_le_mul_of_nonneg_left (by lia) (Int.le_of_lt (Int.pow_pos (by lia)))
    have h6 : (8 : Int) ^ 11 ≤ β ^ 11 := by
      have e : ∀ n : Nat, (8 : Int) ^ n ≤ β ^ n := by
        intro n
        induction n with
        | zero => simp
        | succ n ih => rw [Int.pow_succ, Int.pow_succ]; exact Int.mul_le_mul ih hβ (by lia) (Int.le_of_lt (Int.pow_pos (by lia)))
      exact e 11
    lia
theorem rowp_turn {β v x : Int} {f : List Int} (hβ : 8 ≤ β) (hv : v < 8589934592) (hx : 0 < x) (h : RowP β v x f) : (0 ≤ x / β ∧ (f ++ [x % β]).length ≤ 11) ∧ RowP β v (x / β) (f ++ [x % β]) := by
  have hl := rowp_len hβ h hx hv
  obtain ⟨h1, h2, _⟩ := h
  have m0 := Int.emod_nonneg x (show β ≠ 0 by lia)
  have m1 := Int.emod_lt_of_pos x (show 0 < β by lia)
  have d := Int.emod_add_mul_ediv x β
  refine ⟨⟨Int.ediv_nonneg (by lia) (by lia), by simp; lia⟩, h1.append fun y hy => by rw [List.mem_singleton.mp hy]; lia, ?_, fun hz => ?_⟩
  · rw [val_append, val_one, List.length_append, List.length_singleton, Int.pow_succ, Int.mul_assoc, Int.add_assoc, ← Int.mul_add, d, h2]
  · intro i hi
    rw [List.length_append, List.length_singleton] at hi
    rw [hz] at d
    have : (f ++ [x % β]).getD i 0 = x % β := by
      rw [show i = f.length from by lia]; simp [List.getD_eq_getElem?_getD]
    rw [this]; lia
theorem rowp_less {β x : Int} (hβ : 8 ≤ β) (hx : 0 < x) : (x / β).toNat < x.toNat := by
  have : x / β < x := Int.ediv_lt_self_of_pos_of_ne_one hx (by lia) |> fun h => h
  lia
theorem rowp_end {β v x : Int} {f : List Int} (h : RowP β v x f) (hx : x = 0) : Row β v f := by
  obtain ⟨h1, h2, h3⟩ := h
  subst hx
  exact ⟨h1, h3 rfl, by simpa using h2⟩
/-! _law_gcd -/
def GcdP (G a b : Int) : Prop := (Int.gcd a b : Int) = G
theorem gcd_mod (a b : Int) : Int.gcd (a % b) b = Int.gcd a b := by
  have e : a = a % b + a / b * b := by have := Int.emod_add_mul_ediv a b; rw [Int.mul_comm b] at this; lia
  conv => rhs; rw [e]
  rw [Int.gcd_add_mul_right_left]
theorem gcd_turn1 {G a b : Int} (h : GcdP G a b) : GcdP G (a % b) b := by
  unfold GcdP at *; rw [← h, gcd_mod]
theorem gcd_turn2 {G a b : Int} (h : GcdP G a b) : GcdP G a (b % a) := by
  unfold GcdP at *; rw [← h, Int.gcd_comm, gcd_mod, Int.gcd_comm]
theorem gcd_end {G a b : Int} (h : GcdP G a b) (ha : 0 ≤ a) (hb : 0 ≤ b) (h0 : a = 0 ∨ b = 0) : a + b = G := by
  unfold GcdP at h
  rcases h0 with h0 | h0 <;> subst h0
  · rw [Int.gcd_zero_left] at h; lia
  · rw [Int.gcd_zero_right] at h; lia
/-! _law_symbol -/
def SymP (S a n f : Int) : Prop := f * J a n = S ∧ (f = 1 ∨ f = -1)
theorem sym_start (a n : Int) : SymP (J a n) a n 1 := ⟨Int.one_mul _, .inl rfl⟩
theorem sym_mod {S a n f r : Int} (h : SymP S a n f) (hr : a % n = r) : SymP S r n f := by
  obtain ⟨h1, h2⟩ := h
  exact ⟨by rw [← hr, J_mod]; exact h1, h2⟩
theorem sym_fold {S r n f s : Int} (hn : 0 < n) (ho : n % 2 = 1) (h : SymP S r n f) (hs : s = if n % 4 = 3 then -1 else 1) : SymP S (n - r) n (f * s) := by
  obtain ⟨h1, h2⟩ := h
  have e : J (n - r) n = J (-1) n * J r n := by
    rw [← J_mul _ _ hn ho]
    exact J_congr ⟨1, by lia⟩
  refine ⟨?_, ?_⟩
  · rw [e, J_neg hn ho, ← h1, hs]; split <;> grind
  · rw [hs]; split <;> lia
theorem sym_two {S a n f s : Int} (hn : 0 < n) (ho : n % 2 = 1) (ha : a % 2 = 0) (h : SymP S a n f) (hs : s = if n % 8 = 3 ∨ n % 8 = 5 then -1 else 1) : SymP S (a / 2) n (f * s) := by
  obtain ⟨h1, h2⟩ := h
  have e : a = 2 * (a / 2) := by lia
  rw [e, J_mul _ _ hn ho, J_two hn ho, ← hs] at h1
  refine ⟨by rw [← h1]; grind, ?_⟩
  rw [hs]; split <;> lia
theorem sym_turn {S a n f s : Int} (hn : 0 < n) (ho : n % 2 = 1) (ha : 0 < a) (ha2 : a % 2 = 1) (h : SymP S a n f) (hs : s = if a % 4 = 3 ∧ n % 4 = 3 then -1 else 1) : SymP S n a (f * s) := by
  obtain ⟨h1, h2⟩ := h
  rw [J_recip hn ho ha ha2, ← hs] at h1
  refine ⟨by rw [← h1]; grind, ?_⟩
  rw [hs]; split <;> lia
theorem sym_zero {S n f : Int} (hn : 1 < n) (h : SymP S 0 n f) : S = 0 := by
  rw [← h.1, J_zero hn, Int.mul_zero]
theorem sym_end {S a n f : Int} (h : SymP S a n f) (h1 : 0 < n) (h2 : ¬ 1 < n) : f = S := by
  have : n = 1 := by lia
  subst this
  rw [← h.1, J_one_below, Int.mul_one]
/-! two powers -/
theorem odd_unique : ∀ (t t' : Nat) {q q' : Int}, (2 : Int) ^ t * (2 * q + 1) = 2 ^ t' * (2 * q' + 1) → t = t' ∧ q = q' := by
  intro t
  induction t with
  | zero =>
    intro t' q q' h
    cases t' with
    | zero => simp at h; lia
    | succ t' => rw [Int.pow_succ, Int.mul_comm (2 ^ t') 2, Int.mul_assoc] at h; simp at h; lia
  | succ t ih =>
    intro t' q q' h
    cases t' with
    | zero => rw [Int.pow_succ, Int.mul_comm (2 ^ t) 2, Int.mul_assoc] at h; simp at h; lia
    | succ t' =>
      rw [Int.pow_succ, Int.pow_succ, Int.mul_comm (2 ^ t) 2, Int.mul_comm (2 ^ t') 2, Int.mul_assoc, Int.mul_assoc] at h
      obtain ⟨h1, h2⟩ := ih t' (q := q) (q' := q') (by (first | lia | omega))
      exact ⟨by lia, h2⟩
end Mine
namespace Mine
theorem any35 {v : Int} (h : ([3, 5].any fun x => x == v) = true) : v = 3 ∨ v = 5 := by
  simp only [List.any_cons, List.any_nil, Bool.or_false, Bool.or_eq_true, beq_iff_eq] at h; lia
theorem not_any35 {v : Int} (h : ([3, 5].any fun x => x == v) = false) : ¬ (v = 3 ∨ v = 5) := by
  simp only [List.any_cons, List.any_nil, Bool.or_false, Bool.or_eq_false_iff, beq_eq_false_iff_ne] at h; lia
theorem sy_fold1 {S x r n f : Int} (hn : 0 < n) (ho : n % 2 = 1) (h : SymP S x n f) (hr : x % n = r) (hs : n % 4 = 3) : SymP S (n - r) n (f * (0 - 1)) := sym_fold hn ho (sym_mod h hr) (by rw [if_pos hs]; rfl)
theorem sy_fold2 {S x r n f : Int} (hn : 0 < n) (ho : n % 2 = 1) (h : SymP S x n f) (hr : x % n = r) (hs : n % 4 ≠ 3) : SymP S (n - r) n (f * 1) := sym_fold hn ho (sym_mod h hr) (by rw [if_neg hs])
theorem sy_two1 {S a n f : Int} (hn : 0 < n) (ho : n % 2 = 1) (ha : a % 2 = 0) (h : SymP S a n f) (hs : ([3, 5].any fun x => x == n % 8) = true) : SymP S (a / 2) n (f * (0 - 1)) := sym_two hn ho ha h (by rw [if_pos (any35 hs)]; rfl)
theorem sy_two2 {S a n f : Int} (hn : 0 < n) (ho : n % 2 = 1) (ha : a % 2 = 0) (h : SymP S a n f) (hs : ([3, 5].any fun x => x == n % 8) = false) : SymP S (a / 2) n (f * 1) := sym_two hn ho ha h (by rw [if_neg (not_any35 hs)])
theorem sy_turn1 {S a n f : Int} (hn : 0 < n) (ho : n % 2 = 1) (ha : 0 < a) (ha2 : a % 2 ≠ 0) (h : SymP S a n f) (h1 : a % 4 = 3) (h2 : n % 4 = 3) : SymP S n a (f * (0 - 1)) := sym_turn hn ho ha (by lia) h (by rw [if_pos ⟨h1, h2⟩]; rfl)
theorem sy_turn2 {S a n f : Int} (hn : 0 < n) (ho : n % 2 = 1) (ha : 0 < a) (ha2 : a % 2 ≠ 0) (h : SymP S a n f) (h1 : a % 4 ≠ 3) : SymP S n a (f * 1) := sym_turn hn ho ha (by lia) h (by rw [if_neg (fun q => h1 q.1)])
theorem sy_turn3 {S a n f : Int} (hn : 0 < n) (ho : n % 2 = 1) (ha : 0 < a) (ha2 : a % 2 ≠ 0) (h : SymP S a n f) (h1 : n % 4 ≠ 3) : SymP S n a (f * 1) := sym_turn hn ho ha (by lia) h (by rw [if_neg (fun q => h1 q.2)])
theorem sy_zero {S x r n f : Int} (hn : 1 < n) (h : SymP S x n f) (hr : x % n = r) (h0 : r = 0) : S = 0 := sym_zero hn (h0 ▸ sym_mod h hr)
end Mine
end
section
namespace Mine
open PySem PySem.W PyProof.Rows
/-- what the law's own wide symbol takes for t twos below -/
def wf (t : Nat) (x : Int) : Int := if x % 2 = 0 then (if t = 0 then 1 else 0) else two t x
def WideP (s0 x Y0 y f : Int) : Prop := ∃ t : Nat, Y0 = 2 ^ t * y ∧ f = s0 * wf t x
theorem wide_start (s0 x Y0 : Int) : WideP s0 x Y0 Y0 s0 := by
  refine ⟨0, by simp, ?_⟩
  unfold wf two; split
  · rw [if_pos rfl, Int.mul_one]
  · rw [if_neg (fun h => by have := h.1; simp at this), Int.mul_one]
theorem wide_step {s0 x Y0 y f s : Int} (h : WideP s0 x Y0 y f) (hy : y % 2 = 0) (hs : s = if x % 2 = 0 then 0 else if x % 8 = 3 ∨ x % 8 = 5 then -1 else 1) : WideP s0 x Y0 (y / 2) (f * s) := by
  obtain ⟨t, h1, h2⟩ := h
  refine ⟨t + 1, ?_, ?_⟩
  · rw [h1, Int.pow_succ, Int.mul_assoc]; congr 1; lia
  · rw [h2, hs]
    unfold wf
    by_cases hx : x % 2 = 0
    · rw [if_pos hx, if_pos hx, if_pos hx]; simp
    · rw [if_neg hx, if_neg hx, if_neg hx]
      unfold two
      by_cases h8 : x % 8 = 3 ∨ x % 8 = 5
      · rw [if_pos h8]
        by_cases ht : ((t : Int)) % 2 = 1
        · rw [if_pos ⟨ht, h8⟩, if_neg (fun q => by have := q.1; lia)]; lia
        · rw [if_neg (fun q => ht q.1), if_pos ⟨by lia, h8⟩]; lia
      · rw [if_neg h8, if_neg (fun q => h8 q.2), if_neg (fun q => h8 q.2)]; lia
theorem wd1 {s0 x Y0 y f : Int} (h : WideP s0 x Y0 y f) (hy : y % 2 = 0) (hx : x % 2 = 0) : WideP s0 x Y0 (y / 2) (f * 0) := wide_step h hy (by rw [if_pos hx])
theorem wd2 {s0 x Y0 y f : Int} (h : WideP s0 x Y0 y f) (hy : y % 2 = 0) (hx : x % 2 ≠ 0) (h8 : ([3, 5].any fun z => z == x % 8) = true) : WideP s0 x Y0 (y / 2) (f * (0 - 1)) := wide_step h hy (by rw [if_neg hx, if_pos (any35 h8)]; rfl)
theorem wd3 {s0 x Y0 y f : Int} (h : WideP s0 x Y0 y f) (hy : y % 2 = 0) (hx : x % 2 ≠ 0) (h8 : ([3, 5].any fun z => z == x % 8) = false) : WideP s0 x Y0 (y / 2) (f * 1) := wide_step h hy (by rw [if_neg hx, if_neg (not_any35 h8)])
/-- the wide symbol -/
def KW (x y : Int) (r : Int) : Prop := ∃ (t : Nat) (q : Int), 0 ≤ q ∧ (y.natAbs : Int) = 2 ^ t * (2 * q + 1) ∧ r = (if x < 0 ∧ y < 0 then -1 else 1) * wf t x * J x (2 * q + 1)
theorem wide_end {s0 x y yy f : Int} (h : WideP s0 x (y.natAbs : Int) yy f) (hs : s0 = if x < 0 ∧ y < 0 then -1 else 1) (h0 : 0 < yy) (ho : yy % 2 ≠ 0) : KW x y (f * J x yy) := by
  obtain ⟨t, h1, h2⟩ := h
  have e : 2 * (yy / 2) + 1 = yy := by lia
  exact ⟨t, yy / 2, by lia, by rw [e]; exact h1, by rw [e, h2, hs]⟩
/-- kronecker's answer -/
def KR (sx sy : Bool) (A N : Int) (r : Int) : Prop :=
  (A % 2 = 0 ∧ N % 2 = 0 ∧ r = 0) ∨ (¬ (A % 2 = 0 ∧ N % 2 = 0) ∧ ∃ (t : Nat) (q : Int), 0 ≤ q ∧ N = 2 ^ t * (2 * q + 1) ∧
    r = (if sx = true ∧ sy = true then -1 else 1) * two t A * (if sx = true ∧ (2 * q + 1) % 4 = 3 then -1 else 1) * J A (2 * q + 1))
theorem two_zero (A : Int) : two 0 A = 1 := by unfold two; rw [if_neg (fun h => by have := h.1; simp at this)]
theorem J_signed {A : Int} {n : Int} (hn : 0 < n) (ho : n % 2 = 1) : J (-A) n = (if n % 4 = 3 then -1 else 1) * J A n := by
  rw [show -A = -1 * A from by lia, J_mul _ _ hn ho, J_neg hn ho]
theorem kr_kw {x y A N r r' : Int} {sx sy : Bool} (hx : sx = decide (x < 0)) (hy : sy = decide (y < 0)) (hA : A = (x.natAbs : Int)) (hN : N = (y.natAbs : Int)) (h : KR sx sy A N r) (h' : KW x y r') : r = r' := by
  obtain ⟨t', q', q0, e1, e2⟩ := h'
  rw [← hN] at e1
  rcases h with ⟨a1, a2, a3⟩ | ⟨a1, t, q, b0, b1, b2⟩
  · have ht : t' ≠ 0 := fun h0 => by rw [h0] at e1; simp at e1; lia
    have hx2 : x % 2 = 0 := by lia
    rw [a3, e2]
    unfold wf
    rw [if_pos hx2, if_neg ht]; simp
  · obtain ⟨h1, h2⟩ := odd_unique t t' (b1.symm.trans e1)
    subst h1; subst h2
    rw [b2, e2, hx, hy]
    simp only [decide_eq_true_eq]
    have ho : (2 * q + 1) % 2 = 1 := by lia
    have hn : 0 < 2 * q + 1 := by lia
    have hw : wf t x = two t A := by
      unfold wf
      by_cases hp : x % 2 = 0
      · have ht : t = 0 := by
          cases t with
          | zero => rfl
          | succ t =>
            exfalso
            refine a1 ⟨by lia, ?_⟩
            rw [b1, Int.pow_succ, Int.mul_comm (2 ^ t) 2, Int.mul_assoc]; lia
        rw [if_pos hp, if_pos ht, ht]; exact (two_zero A).symm
      · rw [if_neg hp]
        unfold two
        by_cases h8 : x % 8 = 3 ∨ x % 8 = 5
        · have h8' : A % 8 = 3 ∨ A % 8 = 5 := by lia
          by_cases hk : ((t : Int)) % 2 = 1
          · rw [if_pos ⟨hk, h8⟩, if_pos ⟨hk, h8'⟩]
          · rw [if_neg (fun z => hk z.1), if_neg (fun z => hk z.1)]
        · have h8' : ¬ (A % 8 = 3 ∨ A % 8 = 5) := by lia
          rw [if_neg (fun z => h8 z.2), if_neg (fun z => h8' z.2)]
    rw [hw]
    by_cases hneg : x < 0
    · have ex : x = -A := by lia
      have eJ : J x (2 * q + 1) = (if (2 * q + 1) % 4 = 3 then -1 else 1) * J A (2 * q + 1) := by rw [ex, J_signed hn ho]
      rw [eJ]
      by_cases h4 : (2 * q + 1) % 4 = 3
      · rw [if_pos (show x < 0 ∧ (2 * q + 1) % 4 = 3 from ⟨hneg, h4⟩), if_pos h4]; grind
      · rw [if_neg (show ¬ (x < 0 ∧ (2 * q + 1) % 4 = 3) from fun z => h4 z.2), if_neg h4]; grind
    · have ex : x = A := by lia
      rw [if_neg (show ¬ (x < 0 ∧ y < 0) from fun z => hneg z.1), if_neg (show ¬ (x < 0 ∧ (2 * q + 1) % 4 = 3) from fun z => hneg z.1), ex]; grind
theorem val_mod2 {w β : Int} (hw : 3 ≤ w) (hβ : (2 : Int) ^ w.toNat = β) (l : List Int) : val β l % 2 = l.getD 0 0 % 2 := by
  have := val_mod8 hw hβ l; lia
end Mine
namespace Mine
open PySem PySem.W PyProof.Rows
theorem J_fits (a n : Int) : Builtin.Int.intBits (J a n) ≤ 64 := by
  rcases J_sign a n with h | h | h <;> rw [h] <;> exact PySem.intBits_le_64 (by decide) (by decide)
theorem two_upd {news : List (Addr × Obj)} {g1 : Obj → List (Addr × Obj)} {g2 : Obj → Obj → List (Addr × Obj)} {a b : Addr} {o p : Obj} (hab : a ≠ b) (U1 : UpdF a o news g1) (U2 : ∀ q, UpdF b p (g1 q) (g2 q)) :
    ∃ tl : List (Addr × Obj), (∀ x ∈ tl, x.1 ≠ a ∧ x.1 ≠ b) ∧ (∀ x ∈ (a, o) :: (b, p) :: tl, x ∈ news) ∧ ∀ o' p' x, x ∈ g2 o' p' → x ∈ (a, o') :: (b, p') :: tl := by
  obtain ⟨own, rst, e1, e2, u1, u2⟩ := U1.split
  have hne : ∀ x ∈ own ++ rst, x.1 ≠ a := fun x hx => (List.mem_append.mp hx).elim (u1 x) (u2 x)
  refine ⟨(own ++ rst).filter fun x => x.1 != b, fun x hx => ?_, fun x hx => ?_, fun o' p' x hx => ?_⟩
  · obtain ⟨h1, h2⟩ := List.mem_filter.mp hx
    exact ⟨hne x h1, by simpa using h2⟩
  · obtain ⟨own2, rst2, f1, _, _, _⟩ := (U2 o).split
    rw [e2] at f1
    rw [e1]
    rcases List.mem_cons.mp hx with rfl | hx
    · exact List.mem_append_right _ (.head _)
    · rcases List.mem_cons.mp hx with rfl | hx
      · rw [f1]; exact List.mem_append_right _ (.head _)
      · obtain ⟨h1, _⟩ := List.mem_filter.mp hx
        exact (List.mem_append.mp h1).elim (fun h => List.mem_append_left _ h) (fun h => List.mem_append_right _ (.tail _ h))
  · obtain ⟨own2, rst2, f1, f2, v1, v2⟩ := (U2 o').split
    rw [f2] at hx
    have key : x ∈ own2 ++ rst2 → x ∈ (a, o') :: (b, p') :: (own ++ rst).filter fun x => x.1 != b := by
      intro h
      have hb : x.1 ≠ b := (List.mem_append.mp h).elim (v1 x) (v2 x)
      have hg : x ∈ g1 o' := by
        rw [f1]
        exact (List.mem_append.mp h).elim (fun h => List.mem_append_left _ h) (fun h => List.mem_append_right _ (.tail _ h))
      rw [e2] at hg
      rcases List.mem_append.mp hg with hg | hg
      · exact .tail _ (.tail _ (List.mem_filter.mpr ⟨List.mem_append_left _ hg, by simpa using hb⟩))
      · rcases List.mem_cons.mp hg with rfl | hg
        · exact .head _
        · exact .tail _ (.tail _ (List.mem_filter.mpr ⟨List.mem_append_right _ hg, by simpa using hb⟩))
    rcases List.mem_append.mp hx with hx | hx
    · exact key (List.mem_append_left _ hx)
    · rcases List.mem_cons.mp hx with rfl | hx
      · exact .tail _ (.head _)
      · exact key (List.mem_append_right _ hx)
end Mine
namespace Mine
theorem kr_way {sx sy : Bool} {A N k q f0 s2 fv : Int} (hne : ¬ (A % 2 = 0 ∧ N % 2 = 0)) (hq : 0 ≤ q) (hN : N = 2 ^ k.toNat * (2 * q + 1)) (hk : 0 ≤ k) (h0 : f0 = if sx = true ∧ sy = true then -1 else 1)
    (h2 : s2 = if sx = true ∧ (2 * q + 1) % 4 = 3 then -1 else 1) (hf : fv = f0 * two k A * s2) : KR sx sy A N (fv * J A (2 * q + 1)) := by
  refine .inr ⟨hne, k.toNat, q, hq, hN, ?_⟩
  rw [hf, h0, h2, Int.toNat_of_nonneg hk]
theorem ite_tf {p : Prop} [Decidable p] (h : (if ¬p then false else true) = true) : p := by
  by_cases q : p
  · exact q
  · rw [if_pos q] at h; cases h
theorem ite_ff {p : Prop} [Decidable p] (h : (if ¬p then false else true) = false) : ¬p := by
  intro q
  rw [if_neg (fun z => z q)] at h; cases h
end Mine
end
section
open PySem PySem.W PyProof.Rows
namespace Mine
abbrev Led := List (Addr × Obj)
/-- a call of the def at f: from every frame of a def whose ledger is news, it comes back with r over the ledger news' -/
def Call (w : World) (f : Addr) (dep : Nat) (vs : List Value) (news : Led) (Post : Value → Led → Prop) : Prop :=
  ∀ (mean : ExcName → Option Value) (mg mb : Str → Option Value) (dp un : Nat) (gd : Option (List Code)) (cn : Str) (cs : Scope) (a : Addr) (ccd : Value) (cl : List (Str × Addr)) (outer : List Env) (A₀ : Around) (base h₀ : Heap) (L : Addr) (m : Str → Option Value) (s : Shared)
    (Q E : Value → Shared → Prop),
    Below A₀ base outer h₀ → Fr h₀ L s.heap m → (hd.heap_39 w.params).In h₀ → News h₀ L s.heap news → Top hd.view_39 (looseW hd.view_39 []) mean mg mb h₀ → cs.kind = .function → dp + dep < recursionLimit → un + 8 * dep < cLine →
    (∀ r news' h' tk', Fr h₀ L h' m → News h₀ L h' news' → Post r news' → Q r { s with heap := h', toks := tk' }) →
    wpAny (model PySem.Challenge.rw_nz0084_01.row.prog w) (ktrTop dp un gd cn cs L a ccd cl outer) (call (.ref f) vs) Q E s
theorem use_call {w : World} {f : Addr} {dep : Nat} {vs : List Value} {news : Led} {Post : Value → Led → Prop} (C : Call w f dep vs news Post)
    {mean : ExcName → Option Value} {mg mb : Str → Option Value} {dp un : Nat} {gd : Option (List Code)} {cn : Str} {cs : Scope} {a : Addr} {ccd : Value} {cl : List (Str × Addr)} {outer : List Env} {A₀ : Around} {base h₀ : Heap} {L : Addr} {m : Str → Option Value} {s : Shared}
    {Q E : Value → Shared → Prop} (B : Below A₀ base outer h₀) (F : Fr h₀ L s.heap m) (X : (hd.heap_39 w.params).In h₀) (N : News h₀ L s.heap news) (T : Top hd.view_39 (looseW hd.view_39 []) mean mg mb h₀) (hk : cs.kind = .function) (hd : dp + dep < recursionLimit) (hu : un + 8 * dep < cLine)
    (k : ∀ r news' h' tk', Fr h₀ L h' m → News h₀ L h' news' → Post r news' → Q r { s with heap := h', toks := tk' }) :
    wpAny (model PySem.Challenge.rw_nz0084_01.row.prog w) (ktrTop dp un gd cn cs L a ccd cl outer) (call (.ref f) vs) Q E s := C _ _ _ _ _ _ _ _ _ _ _ _ _ _ _ _ _ _ _ _ B F X N T hk hd hu k
theorem room_d {dp dep d' : Nat} (h : dp + dep < recursionLimit) (h2 : d' + 1 ≤ dep) : dp + 1 + d' < recursionLimit := by omega
theorem room_u3 {un dep d' : Nat} (h : un + 8 * dep < cLine) (h2 : d' + 1 ≤ dep) : un + 3 + 8 * d' < cLine := by omega
theorem room_u4 {un dep d' : Nat} (h : un + 8 * dep < cLine) (h2 : d' + 1 ≤ dep) : un + 3 + 1 + 8 * d' < cLine := by omega
theorem room_u5 {un dep d' : Nat} (h : un + 8 * dep < cLine) (h2 : d' + 1 ≤ dep) : un + 3 + 1 + 1 + 8 * d' < cLine := by omega
theorem sub_refl {l : Led} : ∀ p ∈ l, p ∈ l := fun _ h => h
theorem sub_keep {x : Addr × Obj} {l l' : Led} (h : ∀ p ∈ l, p ∈ l') : ∀ p ∈ x :: l, p ∈ x :: l' := fun _ hp => (List.mem_cons.mp hp).elim (fun e => List.mem_cons.mpr (.inl e)) fun e => List.mem_cons_of_mem _ (h _ e)
theorem sub_tail {x : Addr × Obj} {l l' : Led} (h : ∀ p ∈ l, p ∈ l') : ∀ p ∈ l, p ∈ x :: l' := fun p hp => List.mem_cons_of_mem _ (h p hp)
theorem news_dup {h₀ h : Heap} {L : Addr} {news : Led} {x : Addr × Obj} (N : News h₀ L h news) (hm : x ∈ news) : News h₀ L h (x :: news) := by
  intro p hp
  rcases List.mem_cons.mp hp with rfl | hp
  · exact N _ hm
  · exact N _ hp
section
variable {prog : Program} {w : World} {A : Around} {E : Value → Shared → Prop} {s : Shared} {a b q : Int} {t u : Tok} {Q : Value → Shared → Prop}
theorem step_fd (q : Int) (hb : b ≠ 0) (hsm : b.natAbs < 1073741824) (e : a.fdiv b = q) (h : Q (.int q s.toks) { s with toks := s.toks + 1 }) : wpAny (model prog w) A (binaryOp .FloorDiv (.int a t) (.int b u)) Q E s := by
  subst e; exact floordiv_int hb h (Or.inl (PyProof.noPylong_small hsm))
theorem step_fm (q : Int) (hb : b ≠ 0) (e : a.fmod b = q) (h : Q (.int q s.toks) { s with toks := s.toks + 1 }) : wpAny (model prog w) A (binaryOp .Mod (.int a t) (.int b u)) Q E s := by
  subst e; exact mod_int' hb h
theorem step_modr (hb : 0 < b) (h : ∀ r, a % b = r → 0 ≤ r → r < b → Q (.int r s.toks) { s with toks := s.toks + 1 }) : wpAny (model prog w) A (binaryOp .Mod (.int a t) (.int b u)) Q E s :=
  step_fm _ (by lia) (Int.fmod_eq_emod_of_nonneg _ (by lia)) (h _ rfl (Int.emod_nonneg _ (by lia)) (Int.emod_lt_of_pos _ hb))
theorem step_ifm (q : Int) (hb : b ≠ 0) (e : a.fmod b = q) (h : Q (.int q s.toks) { s with toks := s.toks + 1 }) : wpAny (model prog w) A (inplaceOp .Mod (.int a t) (.int b u)) Q E s := by
  subst e; exact imod_int hb h
theorem step_irs (q : Int) (hb : 0 ≤ b) (e : a / 2 ^ b.toNat = q) (h : Q (.int q s.toks) { s with toks := s.toks + 1 }) : wpAny (model prog w) A (inplaceOp .RShift (.int a t) (.int b u)) Q E s := by
  subst e; refine irshift_int hb ?_; rw [Int.fdiv_eq_ediv_of_nonneg _ (Int.le_of_lt (kbt_pos _))]; exact h
theorem step_ior (q : Int) (e : Builtin.bitOr a b = q) (h : Q (.int q s.toks) { s with toks := s.toks + 1 }) : wpAny (model prog w) A (inplaceOp .BitOr (.int a t) (.int b u)) Q E s := by
  subst e; exact ior_int h
theorem step_mul (q : Int) (hm : IntMulOk a b) (e : a * b = q) (h : Q (.int q s.toks) { s with toks := s.toks + 1 }) : wpAny (model prog w) A (binaryOp .Mult (.int a t) (.int b u)) Q E s := by
  subst e; exact mul_int h hm
theorem step_rs (q : Int) (hb : 0 ≤ b) (e : a / 2 ^ b.toNat = q) (h : Q (.int q s.toks) { s with toks := s.toks + 1 }) : wpAny (model prog w) A (binaryOp .RShift (.int a t) (.int b u)) Q E s := by
  subst e; refine rshift_int hb ?_; rw [Int.fdiv_eq_ediv_of_nonneg _ (Int.le_of_lt (kbt_pos _))]; exact h
theorem step_ls (q : Int) (hb : 0 ≤ b) (hb2 : b ≤ 1000000) (ha : a.natAbs < 2 ^ 64) (e : a * 2 ^ b.toNat = q) (h : Q (.int q s.toks) { s with toks := s.toks + 1 }) : wpAny (model prog w) A (binaryOp .LShift (.int a t) (.int b u)) Q E s := by
  subst e; exact lshift_int_small hb hb2 ha h
theorem step_and (q : Int) (e : Builtin.bitAnd a b = q) (h : Q (.int q s.toks) { s with toks := s.toks + 1 }) : wpAny (model prog w) A (binaryOp .BitAnd (.int a t) (.int b u)) Q E s := by
  subst e; exact and_int h
theorem step_or (q : Int) (e : Builtin.bitOr a b = q) (h : Q (.int q s.toks) { s with toks := s.toks + 1 }) : wpAny (model prog w) A (binaryOp .BitOr (.int a t) (.int b u)) Q E s := by
  subst e; exact or_int h
end
end Mine
end
section
open PySem PySem.W PyProof.Rows PySem.Spec PySem.Calls
namespace Mine
theorem news_g {h₀ h : Heap} {L r : Addr} {o' : Obj} {own rst nl : Led} {g : Obj → Led} (e : ∀ o', g o' = own ++ (r, o') :: rst) (N1 : News h₀ L h nl) (hm : (r, o') ∈ nl) (N2 : News h₀ L h (own ++ rst)) : News h₀ L h (g o') := by
  rw [e]
  intro p hp
  rcases List.mem_append.mp hp with hp | hp
  · exact N2 p (List.mem_append_left _ hp)
  · rcases List.mem_cons.mp hp with rfl | hp
    · exact N1 _ hm
    · exact N2 p (List.mem_append_right _ hp)
theorem rows_ledger {h₀ h : Heap} {L q r : Addr} {oq o' : Obj} {x y : Addr × Obj} {tl : Led} {g : Obj → Led} (N : News h₀ L h ((q, oq) :: x :: (r, o') :: y :: tl)) (hb : ∀ p ∈ g o', p ∈ (r, o') :: tl) : News h₀ L h ((q, oq) :: g o') := by
  intro p hp
  rcases List.mem_cons.mp hp with rfl | hp
  · exact N _ (.head _)
  · rcases List.mem_cons.mp (hb p hp) with rfl | hp
    · exact N _ (.tail _ (.tail _ (.head _)))
    · exact N p (.tail _ (.tail _ (.tail _ (.tail _ hp))))
section
variable {prog : Program} {w : World} {A A₀ : Around} {E : Value → Shared → Prop} {s : Shared} {K : Frag} {L : Addr} {h₀ base : Heap} {m mg mb : Str → Option Value} {nw ot : Led} {p : Program} {loose : List Str} {mean : ExcName → Option Value}
/-- a def is entered with the ledger nw alone; what else the caller has made (ot) lies in the callee's base -/
theorem code_defB {env : Env} {outer : List Env} {R : Result → Shared → Prop} {name qual : Str} {params : Arguments} {body : List Stmt} {scope : Scope} {dV kV doc pm cdv ct oc : Value} {an od : Option Addr} {osl : Array (Option Value)} {f : Addr} {args : Args} {binds : List (Str × Value)}
    (B : Below A₀ base outer h₀) (F : Fr h₀ L s.heap m) (X₀ : K.In h₀) (N : News h₀ L s.heap nw) (O : News h₀ L s.heap ot) (hdis : ∀ q ∈ ot, q.1 ∉ nw.map (·.1)) (T : Top p loose mean mg mb h₀) (hA : A.frames = some (env :: outer)) (hf : env.frame = some L) (hke : env.scope.kind = .function)
    (ho : K.lookup f = some ⟨oc, od, .func (fnOf name qual params body scope dV kV doc pm an cdv ct), osl⟩) (hcd : codeIn K cdv qual = true) (hroom : A.depth < recursionLimit)
    (hbind : BindsTo s (fnOf name qual params body scope dV kV doc pm an cdv ct) args binds) (hloc : ∀ y ∈ binds, scope.names.lookup y.1 = some .local)
    (h : ∀ g L' h₁, Fr h₀ L g m → Fr g L' h₁ (fun y => binds.reverse.lookup y) → News g L' h₁ nw → (∀ q ∈ ot, g.get? q.1 = some q.2) → Below A base (env :: outer) g → K.In g → Top p loose mean mg mb g →
      wpAny (model prog w) (A.deeper (envOf qual scope L' f cdv)) (execs body (envOf qual scope L' f cdv))
        (fun fl s' => LeaveK h₀ L m g (fun r s'' => News h₀ L s''.heap ot → R r s'') (match fl with | .ret v => v | _ => .none) s')
        (fun e s' => wpAny (model prog w) (A.deeper (envOf qual scope L' f cdv)) (leaving (envOf qual scope L' f cdv) e) (fun _ s'' => R (.error e) s'') (fun e' s'' => R (.error e') s'') s')
        { s with heap := h₁, toks := s.toks + binds.length })
    (hco : scope.isCoroutine = false) (hgen : scope.isGenerator = false) (hk : scope.kind = .function)
    (hcell : ∀ x ∈ scope.names, x.2 ≠ .cell) : codeAny (model prog w) A (.call (.ref f) args) R s := by
  obtain ⟨FG, BG, st, lv⟩ := groundX (R := fun r s'' => News h₀ L s''.heap ot → R r s'') B F N hA hf hke
  have hog : ∀ q ∈ ot, (hideAll s.heap (nw.map (·.1))).get? q.1 = some q.2 := fun q hq => hideAll_get _ (O q hq).1 (hdis q hq)
  refine codeAny_call_def (fd := fnX name qual params body scope [] dV kV doc pm an cdv ct) (body := body) (binds := binds) hroom (X₀.keeps F.keep _ _ ho) rfl (T.nolimit.keeps F.keep) (codeRec_of (X₀.keeps F.keep) hcd) rfl hbind hcell hloc (fun h₁ hns hk₁ => ?_) hco hgen hk
  refine wpAny_mono (h _ s.heap.objs.size h₁ FG ⟨hns, fun b o e => hk₁ b o (of_hideAll _ e), Nat.le_of_eq (hideAll_size _ _)⟩
    (fun p hp => ⟨hk₁ _ _ (N p hp).1, Nat.ne_of_lt (Heap.lt_size (N p hp).1), hideAll_none _ (List.mem_map_of_mem hp)⟩) hog BG (X₀.keeps st) (T.keeps st)) (fun fl s' hl => ?_) fun _ _ y => y
  have hl' := hl
  obtain ⟨L', m', news', F', _, _⟩ := hl'
  exact lv _ _ hl fun q hq => ⟨F'.keep _ _ (hog q hq), (O q hq).2⟩
end

section
variable {prog : Program} {w : World} {A : Around} {E : Value → Shared → Prop} {s : Shared} {env : Env} {h₀ : Heap} {xi xc : Str} {body : List Stmt} {Q : Flow → Shared → Prop}
/-- «for i, x in enumerate(xs)» by an invariant over what the loop turns -/
theorem kst_enum {σ : Type} {xv : Value} {ns : List Int} {m₀ : Str → Option Value} (Led' : σ → Led) (ps : σ → List (Str × Value)) (Facts : σ → Prop) (stored : List Str) (P : List Int → σ → Prop) (c₀ : σ)
    (S : PairSrc prog w A E h₀ env ItemKind.int ns xv s m₀ (Led' c₀)) (hf : Facts c₀) (hk : ∀ p ∈ ps c₀, m₀ p.1 = some p.2) (hp : P [] c₀)
    (turn : ∀ (c : σ) (pre post : List Int) (n : Int) (i : Nat) t t' (u : Str → Option Value) h tk own, ns = pre ++ n :: post → pre.length = i → OwnOff own ((Led' c₀).map (·.1)) → Facts c → P pre c →
      Fr h₀ env.locals h (fun y => if y = xc then some (.int n t') else if y = xi then some (.int i t) else kstB (fun z => if (xc :: stored).contains z then u z else m₀ z) (ps c) y) → News h₀ env.locals h (Led' c ++ own) →
      wpAny (model prog w) A (execs body env) (InvPostN h₀ env.locals (KstS Led' ps Facts xi (xc :: stored) m₀ P (pre ++ [n])) own ((Led' c₀).map (·.1)) { s with heap := h, toks := tk } Q) E { s with heap := h, toks := tk })
    (done : ∀ (c : σ) (u : Str → Option Value) h tk, Facts c → P ns c → Fr h₀ env.locals h (fun y => if y = xi then u y else kstB (fun z => if (xc :: stored).contains z then u z else m₀ z) (ps c) y) → News h₀ env.locals h (Led' c) → Q .next { s with heap := h, toks := tk }) :
    wpAny (model prog w) A (pyIter xv) (fun it s₂ => PairAt3 prog w A h₀ env xi xc body Q E it s₂) E s := by
  refine S xi xc body Q (fun i m nx => KstS Led' ps Facts xi (xc :: stored) m₀ P (ns.take i) m nx ∧ nx.map (·.1) = (Led' c₀).map (·.1)) ⟨⟨c₀, rfl, hf, hk, fun _ _ _ _ => rfl, by simpa using hp⟩, rfl⟩ ?_ ?_
  · rintro i n t v m₁ nx s₁ own ⟨h, tk, rfl⟩ hn hv ⟨⟨c, rfl, hf', h1, h2, hp'⟩, hadr⟩ _ hoff F₁ N₁
    obtain ⟨t', rfl⟩ := ItemKind.int_is hv
    have hs : ns.take (i + 1) = ns.take i ++ [n] := by simp [List.take_add_one, hn]
    have e : ns = ns.take i ++ n :: ns.drop (i + 1) := by
      have ht := List.take_append_drop (i + 1) ns
      rw [hs, List.append_assoc] at ht
      exact ht.symm
    have hl : (ns.take i).length = i := by
      have hi := (List.getElem?_eq_some_iff.mp hn).1
      rw [List.length_take]; lia
    have hoff' : OwnOff own ((Led' c₀).map (·.1)) := by
      intro p hp b hb
      obtain ⟨q, hq, rfl⟩ := List.mem_map.mp hb
      exact hoff p hp q hq
    have em : (fun y => if y = xc then some (Value.int n t') else if y = xi then some (.int i t) else kstB (fun z => if (xc :: stored).contains z then m₁ z else m₀ z) (ps c) y) = fun y => if y = xc then some (.int n t') else if y = xi then some (.int i t) else m₁ y := by
      funext y
      by_cases hy : y = xc
      · rw [if_pos hy, if_pos hy]
      · rw [if_neg hy, if_neg hy]
        by_cases hy2 : y = xi
        · rw [if_pos hy2, if_pos hy2]
        · rw [if_neg hy2, if_neg hy2]
          exact kst_off (x := xi) h1 h2 hy2
    have N₂ : News h₀ env.locals h (Led' c ++ own) := fun p hp => N₁ p ((List.mem_append.mp hp).elim (fun h => List.mem_append.mpr (.inr h)) fun h => List.mem_append.mpr (.inl h))
    rw [hs]
    refine wpAny_mono (turn c _ _ n i t t' m₁ h tk own e hl hoff' hf' hp' (em ▸ F₁) N₂) (fun f s₂ q => ?_) fun _ _ x => x
    have up : InvEndN h₀ env.locals (KstS Led' ps Facts xi (xc :: stored) m₀ P (ns.take i ++ [n])) own ((Led' c₀).map (·.1)) { s with heap := h, toks := tk } s₂ →
        LoopStep2 h₀ env.locals own (Led' c) (fun m nx => KstS Led' ps Facts xi (xc :: stored) m₀ P (ns.take i ++ [n]) m nx ∧ nx.map (·.1) = (Led' c₀).map (·.1)) { s with heap := h, toks := tk } .next s₂ := by
      rintro ⟨h', tk', m', news', nx', e', F', N', hn', ho', ha, hS⟩
      exact ⟨rfl, h', tk', m', nx', e', F', fun p hp => N' p ((List.mem_append.mp hp).elim (ho' p) (hn' p)), ha.trans hadr.symm, hS, ha⟩
    cases f with
    | ret v => exact q
    | brk => exact q
    | next => exact up q
    | cont => exact up q
  · rintro h tk m₁ nx F₁ N₁ _ ⟨⟨c, rfl, hf', h1, h2, hp'⟩, _⟩
    rw [List.take_length] at hp'
    exact done c m₁ h tk hf' hp' (kst_frOut h1 h2 F₁) N₁
end
end Mine
end
section
open PySem PySem.W PyProof.Rows
namespace Mine
/-- an int is handed on; names and ledger as before -/
structure IntOut (a : Int) (h₀ : Heap) (L : Addr) (m : Str → Option Value) (news : Led) (s : Shared) (v : Value) (s' : Shared) : Prop where
  val : ∃ t, v = .int a t
  here : ∃ (h : Heap) (tk : Nat), s' = { s with heap := h, toks := tk } ∧ Fr h₀ L h m ∧ News h₀ L h news
structure BoolOut (c : Bool) (h₀ : Heap) (L : Addr) (m : Str → Option Value) (news : Led) (s : Shared) (k : Bool) (s' : Shared) : Prop where
  val : k = c
  here : ∃ (h : Heap) (tk : Nat), s' = { s with heap := h, toks := tk } ∧ Fr h₀ L h m ∧ News h₀ L h news
/-- an expression whose value is an int, at any time while the names hold what they hold -/
def IntAt (M : Model) (A : Around) (E : Value → Shared → Prop) (env : Env) (s : Shared) (h₀ : Heap) (L : Addr) (m : Str → Option Value) (e : Expr) (a : Int) : Prop :=
  ∀ (news : Led) (h : Heap) (tk : Nat), Fr h₀ L h m → News h₀ L h news → wpAny M A (eval e env) (fun v s' => IntOut a h₀ L m news s v s') E { s with heap := h, toks := tk }
/-- a test -/
def TestAt (M : Model) (A : Around) (E : Value → Shared → Prop) (env : Env) (s : Shared) (h₀ : Heap) (L : Addr) (m : Str → Option Value) (e : Expr) (c : Bool) : Prop :=
  ∀ (news : Led) (h : Heap) (tk : Nat), Fr h₀ L h m → News h₀ L h news → wpAny M A (isTrue e env (eval e env)) (fun k s' => BoolOut c h₀ L m news s k s') E { s with heap := h, toks := tk }
section
variable {M : Model} {A : Around} {E : Value → Shared → Prop} {env : Env} {s : Shared} {h₀ : Heap} {L : Addr} {m : Str → Option Value} {news : Led} {a b : Int} {c d : Bool} {e e1 e2 e3 : Expr} {h : Heap} {tk : Nat} {pos : Pos}
theorem int_step {Q : Value → Shared → Prop} (H : IntAt M A E env s h₀ L m e a) (F : Fr h₀ L h m) (N : News h₀ L h news) (k : ∀ h tk t, Fr h₀ L h m → News h₀ L h news → Q (.int a t) { s with heap := h, toks := tk }) : wpAny M A (eval e env) Q E { s with heap := h, toks := tk } := by
  refine wpAny_mono (H news h tk F N) (fun v s' => ?_) fun _ _ x => x
  rintro ⟨⟨t, rfl⟩, h', tk', rfl, F', N'⟩
  exact k h' tk' t F' N'
theorem test_step {Q : Bool → Shared → Prop} (H : TestAt M A E env s h₀ L m e c) (F : Fr h₀ L h m) (N : News h₀ L h news) (k : ∀ h tk, Fr h₀ L h m → News h₀ L h news → Q c { s with heap := h, toks := tk }) : wpAny M A (isTrue e env (eval e env)) Q E { s with heap := h, toks := tk } := by
  refine wpAny_mono (H news h tk F N) (fun v s' => ?_) fun _ _ x => x
  rintro ⟨rfl, h', tk', rfl, F', N'⟩
  exact k h' tk' F' N'
theorem int_name {name : Str} {scope : Scope} {a' : Addr} {cd : Value} {x : Str} {v : Int} {t : Tok} (hv : m x = some (.int v t))
    (hk : scope.kind = .function := by rfl) (hl : (envOf name scope L a' cd).kindOf x = some .local := by rfl) (hd : (x == ("__debug__" : Str)) = false := by decide) : IntAt M A E (envOf name scope L a' cd) s h₀ L m (.Name x pos) v :=
  fun _ h tk F N => ld (M := M) F hv ⟨⟨t, rfl⟩, h, tk, rfl, F, N⟩ hk hl hd
theorem int_const {i : Int} {k : Nat} : IntAt M A E env s h₀ L m (.Constant (.int i) k pos) i :=
  fun _ h tk F N => wpAny_Constant_int ⟨⟨_, rfl⟩, h, tk + 1, rfl, F, N⟩
theorem int_if (T : TestAt M A E env s h₀ L m e c) (H1 : IntAt M A E env s h₀ L m e1 a) (H2 : IntAt M A E env s h₀ L m e2 b) : IntAt M A E env s h₀ L m (.IfExp e e1 e2 pos) (if c = true then a else b) :=
  fun _ _ _ F N => wpAny_IfExp (test_step T F N fun _ _ F1 N1 => by
    cases c
    · exact int_step H2 F1 N1 fun h2 tk2 t F2 N2 => ⟨⟨t, rfl⟩, h2, tk2, rfl, F2, N2⟩
    · exact int_step H1 F1 N1 fun h2 tk2 t F2 N2 => ⟨⟨t, rfl⟩, h2, tk2, rfl, F2, N2⟩)
theorem test_and_nil {op : Pos} : TestAt M A E env s h₀ L m (.BoolOp .And [] op) true :=
  fun _ h tk F N => wpAny_isTrue_BoolOp (wpAny_allTrue_And_nil ⟨rfl, h, tk, rfl, F, N⟩)
theorem test_and {rest : List Expr} (T : TestAt M A E env s h₀ L m e c) (R : TestAt M A E env s h₀ L m (.BoolOp .And rest pos) d) : TestAt M A E env s h₀ L m (.BoolOp .And (e :: rest) pos) (c && d) :=
  fun news _ _ F N => wpAny_isTrue_BoolOp (wpAny_allTrue_And_cons (test_step T F N fun h1 tk1 F1 N1 => by
    cases c
    · exact ⟨rfl, h1, tk1, rfl, F1, N1⟩
    · have := R news h1 tk1 F1 N1
      rw [arm_isTrue_BoolOp] at this
      exact this))
end
section
variable {prog : Program} {w : World} {A : Around} {E : Value → Shared → Prop} {env : Env} {s : Shared} {h₀ : Heap} {L : Addr} {m : Str → Option Value} {e1 e2 : Expr} {a b : Int} {pos : Pos}
theorem int_mul (H1 : IntAt (model prog w) A E env s h₀ L m e1 a) (H2 : IntAt (model prog w) A E env s h₀ L m e2 b) (ok : IntMulOk a b) : IntAt (model prog w) A E env s h₀ L m (.BinOp e1 .Mult e2 pos) (a * b) :=
  fun _ _ _ F N => wpAny_BinOp (int_step H1 F N fun _ _ _ F1 N1 => int_step H2 F1 N1 fun h2 tk2 _ F2 N2 => mul_int ⟨⟨_, rfl⟩, h2, tk2 + 1, rfl, F2, N2⟩ ok)
theorem int_add (H1 : IntAt (model prog w) A E env s h₀ L m e1 a) (H2 : IntAt (model prog w) A E env s h₀ L m e2 b) : IntAt (model prog w) A E env s h₀ L m (.BinOp e1 .Add e2 pos) (a + b) :=
  fun _ _ _ F N => wpAny_BinOp (int_step H1 F N fun _ _ _ F1 N1 => int_step H2 F1 N1 fun h2 tk2 _ F2 N2 => add_int ⟨⟨_, rfl⟩, h2, tk2 + 1, rfl, F2, N2⟩)
theorem int_sub (H1 : IntAt (model prog w) A E env s h₀ L m e1 a) (H2 : IntAt (model prog w) A E env s h₀ L m e2 b) : IntAt (model prog w) A E env s h₀ L m (.BinOp e1 .Sub e2 pos) (a - b) :=
  fun _ _ _ F N => wpAny_BinOp (int_step H1 F N fun _ _ _ F1 N1 => int_step H2 F1 N1 fun h2 tk2 _ F2 N2 => sub_int ⟨⟨_, rfl⟩, h2, tk2 + 1, rfl, F2, N2⟩)
theorem int_mod (H1 : IntAt (model prog w) A E env s h₀ L m e1 a) (H2 : IntAt (model prog w) A E env s h₀ L m e2 b) (hb : 0 < b) : IntAt (model prog w) A E env s h₀ L m (.BinOp e1 .Mod e2 pos) (a % b) :=
  fun _ _ _ F N => wpAny_BinOp (int_step H1 F N fun _ _ _ F1 N1 => int_step H2 F1 N1 fun h2 tk2 _ F2 N2 => step_fm _ (by lia) (Int.fmod_eq_emod_of_nonneg _ (by lia)) ⟨⟨_, rfl⟩, h2, tk2 + 1, rfl, F2, N2⟩)
theorem int_div (H1 : IntAt (model prog w) A E env s h₀ L m e1 a) (H2 : IntAt (model prog w) A E env s h₀ L m e2 b) (hb : 0 < b) (hs : b.natAbs < 1073741824) : IntAt (model prog w) A E env s h₀ L m (.BinOp e1 .FloorDiv e2 pos) (a / b) :=
  fun _ _ _ F N => wpAny_BinOp (int_step H1 F N fun _ _ _ F1 N1 => int_step H2 F1 N1 fun h2 tk2 _ F2 N2 => step_fd _ (by lia) hs (Int.fdiv_eq_ediv_of_nonneg _ (by lia)) ⟨⟨_, rfl⟩, h2, tk2 + 1, rfl, F2, N2⟩)
theorem test_eq (H1 : IntAt (model prog w) A E env s h₀ L m e1 a) (H2 : IntAt (model prog w) A E env s h₀ L m e2 b) (hm : behindInMarks .Eq e2 = false := by with_unfolding_all rfl) : TestAt (model prog w) A E env s h₀ L m (.Compare e1 [.Eq] [e2] pos) (a == b) :=
  fun _ _ _ F N => wpAny_isTrue_Compare1 (int_step H1 F N fun _ _ _ F1 N1 => int_step H2 F1 N1 fun h2 tk2 _ F2 N2 => eq_int (wpAny_truthy_bool ⟨rfl, h2, tk2, rfl, F2, N2⟩)) hm
theorem test_lt (H1 : IntAt (model prog w) A E env s h₀ L m e1 a) (H2 : IntAt (model prog w) A E env s h₀ L m e2 b) (hm : behindInMarks .Lt e2 = false := by with_unfolding_all rfl) : TestAt (model prog w) A E env s h₀ L m (.Compare e1 [.Lt] [e2] pos) (decide (a < b)) :=
  fun _ _ _ F N => wpAny_isTrue_Compare1 (int_step H1 F N fun _ _ _ F1 N1 => int_step H2 F1 N1 fun h2 tk2 _ F2 N2 => lt_int (wpAny_truthy_bool ⟨rfl, h2, tk2, rfl, F2, N2⟩)) hm
theorem test_gt (H1 : IntAt (model prog w) A E env s h₀ L m e1 a) (H2 : IntAt (model prog w) A E env s h₀ L m e2 b) (hm : behindInMarks .Gt e2 = false := by with_unfolding_all rfl) : TestAt (model prog w) A E env s h₀ L m (.Compare e1 [.Gt] [e2] pos) (decide (a > b)) :=
  fun _ _ _ F N => wpAny_isTrue_Compare1 (int_step H1 F N fun _ _ _ F1 N1 => int_step H2 F1 N1 fun h2 tk2 _ F2 N2 => gt_int (wpAny_truthy_bool ⟨rfl, h2, tk2, rfl, F2, N2⟩)) hm
theorem mul_sg {f : Int} {c : Bool} : IntMulOk f (if c = true then 0 - 1 else 1) := IntMulOk.of_right (by cases c <;> exact PySem.intBits_le_64 (by decide) (by decide))
end
theorem news_sub {h₀ h : Heap} {L : Addr} {news news' : Led} (N : News h₀ L h news) (s : ∀ p ∈ news', p ∈ news) : News h₀ L h news' := fun p hp => N p (s p hp)
structure IfOut (h₀ : Heap) (L : Addr) (m : Str → Option Value) (news : Led) (s : Shared) (f : Flow) (s' : Shared) : Prop where
  next : f = .next
  here : ∃ (h : Heap) (tk : Nat), s' = { s with heap := h, toks := tk } ∧ Fr h₀ L h m ∧ News h₀ L h news
theorem if_cut {test : Expr} {a b : List Stmt} {pos : Pos} {prog : Program} {w : World} {A : Around} {E : Value → Shared → Prop} {s : Shared} {env : Env} {h₀ : Heap} {L : Addr} {m : Str → Option Value} {news : Led} {Q : Flow → Shared → Prop} (F : Fr h₀ L s.heap m) (N : News h₀ L s.heap news)
    (h1 : wpAny (model prog w) A (isTrue test env (eval test env)) (fun k s₂ => if k then wpAny (model prog w) A (execs a env) (fun f s' => IfOut h₀ L m news s f s') E s₂ else wpAny (model prog w) A (execs b env) (fun f s' => IfOut h₀ L m news s f s') E s₂) E s)
    (h2 : ∀ h tk, Fr h₀ L h m → News h₀ L h news → Q .next { s with heap := h, toks := tk }) : wpAny (model prog w) A (exec (.If test a b pos) env) Q E s := by
  refine wpAny_mono (wpAny_If h1) (fun f s' => ?_) fun _ _ x => x
  rintro ⟨rfl, h, tk, rfl, F', N'⟩
  exact h2 h tk F' N'

/-- an int with a property is handed on -/
structure ExInt (P : Int → Prop) (h₀ : Heap) (L : Addr) (m : Str → Option Value) (news : Led) (s : Shared) (v : Value) (s' : Shared) : Prop where
  out : ∃ (a : Int) (t : Tok) (h : Heap) (tk : Nat), v = .int a t ∧ P a ∧ s' = { s with heap := h, toks := tk } ∧ Fr h₀ L h m ∧ News h₀ L h news
/-- a name holds an int with a property -/
structure VarOut (x : Str) (P : Int → Prop) (h₀ : Heap) (L : Addr) (m : Str → Option Value) (news : Led) (s : Shared) (f : Flow) (s' : Shared) : Prop where
  next : f = .next
  out : ∃ (a : Int) (t : Tok) (h : Heap) (tk : Nat), P a ∧ s' = { s with heap := h, toks := tk } ∧ Fr h₀ L h (fun y => if y = x then some (.int a t) else m y) ∧ News h₀ L h news
theorem fr_same {h₀ h : Heap} {L : Addr} {m : Str → Option Value} {x : Str} {v : Value} (F : Fr h₀ L h m) (e : m x = some v) : Fr h₀ L h (fun y => if y = x then some v else m y) := by
  have : (fun y => if y = x then some v else m y) = m := by
    funext y
    by_cases hy : y = x
    · rw [if_pos hy, hy, e]
    · rw [if_neg hy]
  rw [this]; exact F
theorem fr_twice {h₀ h : Heap} {L : Addr} {m : Str → Option Value} {x : Str} {u v : Value} (F : Fr h₀ L h (fun y => if y = x then some v else if y = x then some u else m y)) : Fr h₀ L h (fun y => if y = x then some v else m y) := by
  have : (fun y => if y = x then some v else if y = x then some u else m y) = (fun y => if y = x then some v else m y) := by
    funext y
    by_cases hy : y = x
    · rw [if_pos hy, if_pos hy]
    · rw [if_neg hy, if_neg hy, if_neg hy]
  rw [← this]; exact F
section
variable {M : Model} {A : Around} {E : Value → Shared → Prop} {s : Shared} {env : Env} {h₀ : Heap} {L : Addr} {m : Str → Option Value} {news : Led}
theorem ex_int (P : Int → Prop) {e : Expr} {Q : Value → Shared → Prop} (_F : Fr h₀ L s.heap m) (_N : News h₀ L s.heap news) (h1 : wpAny M A (eval e env) (fun v s' => ExInt P h₀ L m news s v s') E s)
    (h2 : ∀ a h tk t, P a → Fr h₀ L h m → News h₀ L h news → Q (.int a t) { s with heap := h, toks := tk }) : wpAny M A (eval e env) Q E s := by
  refine wpAny_mono h1 (fun v s' => ?_) fun _ _ x => x
  rintro ⟨a, t, h, tk, rfl, p, rfl, F', N'⟩
  exact h2 a h tk t p F' N'
theorem var_cut (x : Str) (P : Int → Prop) {st : Stmt} {Q : Flow → Shared → Prop} (_F : Fr h₀ L s.heap m) (_N : News h₀ L s.heap news) (h1 : wpAny M A (exec st env) (fun f s' => VarOut x P h₀ L m news s f s') E s)
    (h2 : ∀ a h tk t, P a → Fr h₀ L h (fun y => if y = x then some (.int a t) else m y) → News h₀ L h news → Q .next { s with heap := h, toks := tk }) : wpAny M A (exec st env) Q E s := by
  refine wpAny_mono h1 (fun v s' => ?_) fun _ _ x => x
  rintro ⟨rfl, a, t, h, tk, p, rfl, F', N'⟩
  exact h2 a h tk t p F' N'
end
/-- an if that goes on, or gives 0 back -/
structure IfR (P : Prop) (h₀ : Heap) (L : Addr) (m : Str → Option Value) (news : Led) (s : Shared) (f : Flow) (s' : Shared) : Prop where
  out : ∃ (h : Heap) (tk : Nat), s' = { s with heap := h, toks := tk } ∧ Fr h₀ L h m ∧ News h₀ L h news ∧ ((f = .next ∧ ¬P) ∨ ∃ t, f = .ret (.int 0 t) ∧ P)
theorem if_ret (P : Prop) {test : Expr} {a b : List Stmt} {pos : Pos} {M : Model} {A : Around} {E : Value → Shared → Prop} {s : Shared} {env : Env} {h₀ : Heap} {L : Addr} {m : Str → Option Value} {news : Led} {Q : Flow → Shared → Prop} (_F : Fr h₀ L s.heap m) (_N : News h₀ L s.heap news)
    (h1 : wpAny M A (isTrue test env (eval test env)) (fun k s₂ => if k then wpAny M A (execs a env) (fun f s' => IfR P h₀ L m news s f s') E s₂ else wpAny M A (execs b env) (fun f s' => IfR P h₀ L m news s f s') E s₂) E s)
    (h2 : ∀ h tk, ¬P → Fr h₀ L h m → News h₀ L h news → Q .next { s with heap := h, toks := tk })
    (h3 : ∀ h tk t, P → Fr h₀ L h m → News h₀ L h news → Q (.ret (.int 0 t)) { s with heap := h, toks := tk }) : wpAny M A (exec (.If test a b pos) env) Q E s := by
  refine wpAny_mono (wpAny_If h1) (fun f s' => ?_) fun _ _ x => x
  rintro ⟨h, tk, rfl, F', N', ⟨rfl, p⟩ | ⟨t, rfl, p⟩⟩
  · exact h2 h tk p F' N'
  · exact h3 h tk t p F' N'
end Mine
end
section
open PySem PySem.W PyProof.Rows
namespace Mine
section
variable {prog : Program} {w : World} {A : Around} {E : Value → Shared → Prop} {s : Shared} {env : Env} {h₀ : Heap} {x : Str} {body : List Stmt} {Q : Flow → Shared → Prop}
/-- the loop of the law's box: its second place holds an int below a bound -/
theorem kst_box {l D D1 : Addr} {vs : List Value} {ns : List Int} {nn n0 : Nat} {tk0 : Tok} {rest : Led} {m₀ : Str → Option Value}
    (hh : A.handled = none) (hi : IntsAre vs ns) (F : Fr h₀ env.locals s.heap m₀) (N : News h₀ env.locals s.heap ((l, listOf vs.toArray nn) :: (D, listOf [Value.ref D1, Value.int 19 tk0].toArray n0) :: rest))
    (turn : ∀ (c : Int) (tc : Tok) (k : Nat) (pre : List Int) (n : Int) t (u : Str → Option Value) h tk own, n ∈ ns → OwnOff own (((l, listOf vs.toArray nn) :: (D, listOf [Value.ref D1, Value.int 19 tk0].toArray n0) :: rest).map (·.1)) → 0 ≤ c → c < 1000003 →
      Fr h₀ env.locals h (fun y => if y = x then some (.int n t) else m₀ y) → News h₀ env.locals h ((l, listOf vs.toArray nn) :: (D, listOf [Value.ref D1, Value.int c tc].toArray k) :: rest ++ own) →
      wpAny (model prog w) A (execs body env) (InvPostN h₀ env.locals (KstS (σ := Int × Tok × Nat) (fun c => (l, listOf vs.toArray nn) :: (D, listOf [Value.ref D1, Value.int c.1 c.2.1].toArray c.2.2) :: rest) (fun _ => []) (fun c => 0 ≤ c.1 ∧ c.1 < 1000003) x [] m₀ (fun _ _ => True) (pre ++ [n])) own (((l, listOf vs.toArray nn) :: (D, listOf [Value.ref D1, Value.int 19 tk0].toArray n0) :: rest).map (·.1)) { s with heap := h, toks := tk } Q) E { s with heap := h, toks := tk })
    (done : ∀ (c : Int) (tc : Tok) (k : Nat) (u : Str → Option Value) h tk, 0 ≤ c → c < 1000003 → Fr h₀ env.locals h (fun y => if y = x then u y else m₀ y) → News h₀ env.locals h ((l, listOf vs.toArray nn) :: (D, listOf [Value.ref D1, Value.int c tc].toArray k) :: rest) → Q .next { s with heap := h, toks := tk }) :
    wpAny (model prog w) A (pyIter (.ref l)) (fun it s₂ => LoopAtV prog w A h₀ env x body Q E it s₂) E s := by
  refine kst_listL (σ := Int × Tok × Nat) (fun c => (l, listOf vs.toArray nn) :: (D, listOf [Value.ref D1, Value.int c.1 c.2.1].toArray c.2.2) :: rest) (fun _ => []) (fun c => 0 ≤ c.1 ∧ c.1 < 1000003) [] (fun _ _ => True) (19, tk0, n0) hh (fun c => .head _) hi F N ⟨(by decide : (0 : Int) ≤ 19), (by decide : (19 : Int) < 1000003)⟩ (by intro p hp; cases hp) trivial ?_ ?_
  · rintro ⟨c, tc, k⟩ pre post n t u h tk own e hm hoff hf hp F1 N1
    exact turn c tc k pre n t u h tk own hm hoff hf.1 hf.2 F1 N1
  · rintro ⟨c, tc, k⟩ u h tk hf hp F1 N1
    exact done c tc k u h tk hf.1 hf.2 F1 N1
end
end Mine
end
section
namespace Mine
open PySem PySem.W PyProof.Rows
theorem beta_law {q : Int} (h0 : 0 ≤ q) (h1 : q < 7) : ∃ β : Int, (2 : Int) ^ (3 + q).toNat = β ∧ 8 ≤ β ∧ β ≤ 512 := by
  have : q = 0 ∨ q = 1 ∨ q = 2 ∨ q = 3 ∨ q = 4 ∨ q = 5 ∨ q = 6 := by lia
  rcases this with h | h | h | h | h | h | h <;> subst h <;> exact ⟨_, rfl, by decide, by decide⟩
theorem mulb {a b : Int} (ha : 0 ≤ a) (ha1 : a < 1048576) (hb : 0 ≤ b) (hb1 : b < 1024) : 0 ≤ a * b ∧ a * b < 8589934592 := by
  refine ⟨Int.mul_nonneg ha hb, ?_⟩
  have h1 : a * b ≤ 1048575 * b := Int.mul_le_mul_of_nonneg_right (by lia) hb
  lia
theorem mulb1 {a b : Int} (ha : 0 ≤ a) (hb : 0 ≤ b) : 0 ≤ a * b := Int.mul_nonneg ha hb
theorem mulb2 {a b : Int} (ha : 0 ≤ a) (ha1 : a < 1048576) (hb : 0 ≤ b) (hb1 : b < 1024) : a * b < 8589934592 := (mulb ha ha1 hb hb1).2
theorem news_tl {h₀ h : Heap} {L : Addr} {x : Addr × Obj} {news : Led} (N : News h₀ L h (x :: news)) : News h₀ L h news := fun p hp => N p (.tail _ hp)
theorem news_mid {h₀ h : Heap} {L : Addr} {p1 p2 p3 p4 : Addr × Obj} (N : News h₀ L h [p1, p2, p3, p4]) : News h₀ L h [p2, p3] := news_sub N (by intro p hp; simp only [List.mem_cons, List.not_mem_nil, or_false] at hp ⊢; rcases hp with h | h <;> simp [h])
theorem shl_law {m t : Int} (hm : 0 < m) (hm1 : m < 1024) (ht : 0 ≤ t) (ht1 : t < 4) : ∃ y, m * 2 ^ t.toNat = y ∧ 0 < y ∧ y < 8192 := by
  have : t = 0 ∨ t = 1 ∨ t = 2 ∨ t = 3 := by lia
  rcases this with h | h | h | h <;> subst h <;> refine ⟨_, rfl, ?_, ?_⟩ <;> (simp only [show Int.toNat 0 = 0 from rfl, show Int.toNat 1 = 1 from rfl, show Int.toNat 2 = 2 from rfl, show Int.toNat 3 = 3 from rfl]; lia)
theorem lst_list (ys : List Value) : LCg.lst ys = listOf ys.toArray ys.length := rfl
theorem odd_mul {a b : Int} (ha : a % 2 = 1) (hb : b % 2 = 1) : (a * b) % 2 = 1 := by
  rw [Int.mul_emod, ha, hb]; rfl
theorem gcd_ge {a n : Int} (hn : 0 < n) : 1 ≤ (Int.gcd a n : Int) := by
  have : 0 < Int.gcd a n := Int.gcd_pos_of_ne_zero_right _ (by lia)
  lia
theorem lw_sq0 {b n : Int} (hn : 0 < n) (ho : n % 2 = 1) (hg : 1 < (Int.gcd b n : Int)) : J (b * b) n = 0 := by
  rw [J_sq b hn ho, if_neg (by lia)]
theorem lw_sq1 {b n : Int} (hn : 0 < n) (ho : n % 2 = 1) (hg : ¬ 1 < (Int.gcd b n : Int)) : J (b * b) n = 1 := by
  have := gcd_ge (a := b) hn
  rw [J_sq b hn ho, if_pos (by lia)]
theorem lw_zero {a n : Int} (hn : 0 < n) : (J a n == 0) = decide (1 < (Int.gcd a n : Int)) := by
  have h1 := gcd_ge (a := a) hn
  have h2 : J a n = 0 ↔ Int.gcd a n ≠ 1 := J_eq_zero
  by_cases h : J a n = 0
  · have := h2.mp h
    rw [h, decide_eq_true (by lia)]; rfl
  · have h3 : Int.gcd a n = 1 := by
      by_cases q : Int.gcd a n = 1
      · exact q
      · exact absurd (h2.mpr q) h
    rw [decide_eq_false (by lia)]; simpa using h
theorem lw_rec0 {n m : Int} (hm : 0 < m) (hg : 1 < (Int.gcd n m : Int)) : J n m * J m n = 0 := by
  have : J n m = 0 := J_eq_zero.mpr (by lia)
  rw [this, Int.zero_mul]
theorem lw_rec {n m : Int} (hn : 0 < n) (ho : n % 2 = 1) (hm : 0 < m) (hm2 : m % 2 = 1) (hg : ¬ 1 < (Int.gcd n m : Int)) : J n m * J m n = if n % 4 = 3 ∧ m % 4 = 3 then -1 else 1 := by
  have h1 := gcd_ge (a := n) hm
  have h0 : J m n ≠ 0 := fun h => (J_eq_zero.mp h) (by rw [Int.gcd_comm]; lia)
  have e : J n m = J m n * (if n % 4 = 3 ∧ m % 4 = 3 then -1 else 1) := J_recip hm hm2 hn ho
  rw [e]
  generalize (if n % 4 = 3 ∧ m % 4 = 3 then (-1 : Int) else 1) = z
  rcases J_sign m n with h | h | h
  · exact absurd h h0
  · rw [h]; lia
  · rw [h]; lia
theorem lw_rec1 {n m : Int} (hn : 0 < n) (ho : n % 2 = 1) (hm : 0 < m) (hm2 : m % 2 = 1) (hg : ¬ 1 < (Int.gcd n m : Int)) (h1 : n % 4 = 3) (h2 : m % 4 = 3) : J n m * J m n = 0 - 1 := by
  rw [lw_rec hn ho hm hm2 hg, if_pos ⟨h1, h2⟩]; rfl
theorem lw_rec2 {n m : Int} (hn : 0 < n) (ho : n % 2 = 1) (hm : 0 < m) (hm2 : m % 2 = 1) (hg : ¬ 1 < (Int.gcd n m : Int)) (h1 : n % 4 ≠ 3) : J n m * J m n = 1 := by
  rw [lw_rec hn ho hm hm2 hg, if_neg (fun z => h1 z.1)]
theorem lw_rec3 {n m : Int} (hn : 0 < n) (ho : n % 2 = 1) (hm : 0 < m) (hm2 : m % 2 = 1) (hg : ¬ 1 < (Int.gcd n m : Int)) (h1 : m % 4 ≠ 3) : J n m * J m n = 1 := by
  rw [lw_rec hn ho hm hm2 hg, if_neg (fun z => h1 z.2)]
theorem lw_three {a n : Int} : J (a + 3 * n) n = J a n := J_congr ⟨3, by rw [Int.mul_comm n 3]; lia⟩
/-- a sign drawn from a row of two -/
theorem sgn_law {a q : Int} (h0 : 0 ≤ q) (h1 : q < 2) (ha : 0 ≤ a) (ha1 : a < 1048576) : ∃ x, ([1, 0 - 1] : List Int).getD q.toNat 0 * a = x ∧ -1048576 < x ∧ x < 1048576 := by
  have : q = 0 ∨ q = 1 := by lia
  rcases this with h | h <;> subst h
  · exact ⟨a, by show (1 : Int) * a = a; lia, by lia, by lia⟩
  · exact ⟨-a, by show (0 - 1 : Int) * a = -a; lia, by lia, by lia⟩
theorem sgn_law0 {a q : Int} (h0 : 0 ≤ q) (h1 : q < 2) (ha : 0 < a) (ha1 : a < 8192) : ∃ x, ([1, 0 - 1] : List Int).getD q.toNat 0 * a = x ∧ -8192 < x ∧ x < 8192 ∧ x ≠ 0 := by
  have : q = 0 ∨ q = 1 := by lia
  rcases this with h | h <;> subst h
  · exact ⟨a, by show (1 : Int) * a = a; lia, by lia, by lia, by lia⟩
  · exact ⟨-a, by show (0 - 1 : Int) * a = -a; lia, by lia, by lia, by lia⟩
structure RowOut (a β : Int) (h₀ : Heap) (L : Addr) (m : Str → Option Value) (news : Led) (s : Shared) (v : Value) (s' : Shared) : Prop where
  out : ∃ (b : Addr) (vs : List Value) (nn : Nat) (f : List Int) (h : Heap) (tk : Nat), v = .ref b ∧ s' = { s with heap := h, toks := tk } ∧ Fr h₀ L h m ∧ News h₀ L h ((b, listOf vs.toArray nn) :: news) ∧ AllLt b news ∧ IntsAre vs f ∧ f.length ≤ 11 ∧ Row β a f
/-- an expression whose value is a fresh row -/
def RowAt (M : Model) (A : Around) (E : Value → Shared → Prop) (env : Env) (s : Shared) (h₀ : Heap) (L : Addr) (m : Str → Option Value) (β : Int) (e : Expr) (a : Int) : Prop :=
  ∀ (news : Led) (h : Heap) (tk : Nat), Fr h₀ L h m → News h₀ L h news → wpAny M A (eval e env) (fun v s' => RowOut a β h₀ L m news s v s') E { s with heap := h, toks := tk }
theorem row_step {M : Model} {A : Around} {E : Value → Shared → Prop} {env : Env} {s : Shared} {h₀ : Heap} {L : Addr} {m : Str → Option Value} {news : Led} {a β : Int} {e : Expr} {h : Heap} {tk : Nat} {Q : Value → Shared → Prop}
    (H : RowAt M A E env s h₀ L m β e a) (F : Fr h₀ L h m) (N : News h₀ L h news) (k : ∀ (b : Addr) (vs : List Value) (nn : Nat) (f : List Int) (h : Heap) (tk : Nat), Fr h₀ L h m → News h₀ L h ((b, listOf vs.toArray nn) :: news) → AllLt b news → IntsAre vs f → f.length ≤ 11 → Row β a f → Q (.ref b) { s with heap := h, toks := tk }) : wpAny M A (eval e env) Q E { s with heap := h, toks := tk } := by
  refine wpAny_mono (H news h tk F N) (fun v s' => ?_) fun _ _ x => x
  rintro ⟨b, vs, nn, f, h', tk', rfl, rfl, F', N', x1, x2, x3, x4⟩
  exact k b vs nn f h' tk' F' N' x1 x2 x3 x4
section
variable (M : Model) (A : Around) (env : Env) (s : Shared) (h₀ : Heap) (L : Addr) (w0 : Int) (tw : Tok) (β : Int)
def RowN : Prop := ∀ (x : Str) (p p2 p3 p4 : Pos) (E : Value → Shared → Prop) (a : Int) (m : Str → Option Value), m (Str.ofString "w") = some (.int w0 tw) → 0 ≤ a → a < 8589934592 → IntAt M A E env s h₀ L m (.Name x p) a →
  RowAt M A E env s h₀ L m β (.Call (.Name (Str.ofString "_law_row") p2) [.Name x p, .Name (Str.ofString "w") p3] [] p4) a
def RowB : Prop := ∀ (l r : Expr) (o : Operator) (p p2 p3 p4 : Pos) (E : Value → Shared → Prop) (a : Int) (m : Str → Option Value), m (Str.ofString "w") = some (.int w0 tw) → 0 ≤ a → a < 8589934592 → IntAt M A E env s h₀ L m (.BinOp l o r p) a →
  RowAt M A E env s h₀ L m β (.Call (.Name (Str.ofString "_law_row") p2) [.BinOp l o r p, .Name (Str.ofString "w") p3] [] p4) a
def JJ : Prop := ∀ (f1 f2 : Expr) (as1 as2 : List Expr) (k1 k2 : List Keyword) (p1 p2 p3 p4 p5 p6 : Pos) (E : Value → Shared → Prop) (a n : Int) (m : Str → Option Value), m (Str.ofString "w") = some (.int w0 tw) → 0 < n → n % 2 = 1 →
  RowAt M A E env s h₀ L m β (.Call f1 as1 k1 p1) a → RowAt M A E env s h₀ L m β (.Call f2 as2 k2 p2) n →
  IntAt M A E env s h₀ L m (.Call (.Name (Str.ofString "jacobi") p3) [.Call f1 as1 k1 p1, .Call f2 as2 k2 p2, .Name (Str.ofString "w") p4, .Name (Str.ofString "divrem_school") p5] [] p6) (J a n)
end
structure JMark : Prop where
  mk ::
section
variable {M : Model} {A : Around} {E : Value → Shared → Prop} {env : Env} {s : Shared} {h₀ : Heap} {L : Addr} {m : Str → Option Value} {w0 : Int} {tw : Tok} {β : Int} {e : Expr} {h : Heap} {tk : Nat} {Q : Value → Shared → Prop}
theorem jj_make (_F : Fr h₀ L h m) (_hm : m (Str.ofString "w") = some (.int w0 tw)) (_hβ : (2 : Int) ^ w0.toNat = β) (m1 : RowN M A env s h₀ L w0 tw β) (m2 : RowB M A env s h₀ L w0 tw β) (m3 : JJ M A env s h₀ L w0 tw β)
    (k : RowN M A env s h₀ L w0 tw β → RowB M A env s h₀ L w0 tw β → JJ M A env s h₀ L w0 tw β → wpAny M A (eval e env) Q E { s with heap := h, toks := tk }) : wpAny M A (eval e env) Q E { s with heap := h, toks := tk } := k m1 m2 m3
theorem jj_use {f1 f2 : Expr} {as1 as2 : List Expr} {k1 k2 : List Keyword} {p1 p2 p3 p4 p5 p6 : Pos} {a n : Int} {news : Led}
    (jj : JJ M A env s h₀ L w0 tw β) (F : Fr h₀ L h m) (N : News h₀ L h news) (hm : m (Str.ofString "w") = some (.int w0 tw)) (H1 : RowAt M A E env s h₀ L m β (.Call f1 as1 k1 p1) a) (H2 : RowAt M A E env s h₀ L m β (.Call f2 as2 k2 p2) n) (n0 : 0 < n) (n2 : n % 2 = 1)
    (k : ∀ h tk t, Fr h₀ L h m → News h₀ L h news → Q (.int (J a n) t) { s with heap := h, toks := tk }) :
    wpAny M A (eval (.Call (.Name (Str.ofString "jacobi") p3) [.Call f1 as1 k1 p1, .Call f2 as2 k2 p2, .Name (Str.ofString "w") p4, .Name (Str.ofString "divrem_school") p5] [] p6) env) Q E { s with heap := h, toks := tk } :=
  int_step (jj f1 f2 as1 as2 k1 k2 p1 p2 p3 p4 p5 p6 E a n m hm n0 n2 H1 H2) F N k
theorem rown_use {x : Str} {p p2 p3 p4 : Pos} {a : Int} (r : RowN M A env s h₀ L w0 tw β) (hm : m (Str.ofString "w") = some (.int w0 tw)) (H : IntAt M A E env s h₀ L m (.Name x p) a) (a0 : 0 ≤ a) (a1 : a < 8589934592) :
    RowAt M A E env s h₀ L m β (.Call (.Name (Str.ofString "_law_row") p2) [.Name x p, .Name (Str.ofString "w") p3] [] p4) a := r x p p2 p3 p4 E a m hm a0 a1 H
theorem rowb_use {l r : Expr} {o : Operator} {p p2 p3 p4 : Pos} {a : Int} (b : RowB M A env s h₀ L w0 tw β) (hm : m (Str.ofString "w") = some (.int w0 tw)) (H : IntAt M A E env s h₀ L m (.BinOp l o r p) a) (a0 : 0 ≤ a) (a1 : a < 8589934592) :
    RowAt M A E env s h₀ L m β (.Call (.Name (Str.ofString "_law_row") p2) [.BinOp l o r p, .Name (Str.ofString "w") p3] [] p4) a := b l r o p p2 p3 p4 E a m hm a0 a1 H
end
section
variable {prog : Program} {w : World} {A : Around} {E : Value → Shared → Prop} {s : Shared} {a b q : Int} {t u : Tok} {Q : Value → Shared → Prop}
theorem step_ne {a b : Int} (e : a = b) (h : Q (.bool false) s) : wpAny (model prog w) A (compareOp .NotEq (.int a t) (.int b u)) Q E s := by
  subst e; exact ne_int (by rwa [bne_self_eq_false])
theorem step_eq {a b : Int} (e : a = b) (h : Q (.bool true) s) : wpAny (model prog w) A (compareOp .Eq (.int a t) (.int b u)) Q E s := by
  subst e; exact eq_int (by rwa [beq_self_eq_true])
theorem step_neb {a b : Bool} (e : a = b) (h : Q (.bool false) s) : wpAny (model prog w) A (compareOp .NotEq (.bool a) (.bool b)) Q E s := by
  subst e; exact ne_bool (by rwa [bne_self_eq_false])
theorem step_ls_law {m d : Int} (hm : 0 < m) (hm1 : m < 1024) (ht : 0 ≤ d) (ht1 : d < 4) (h : ∀ y, m * 2 ^ d.toNat = y → 0 < y → y < 8192 → Q (.int y s.toks) { s with toks := s.toks + 1 }) : wpAny (model prog w) A (binaryOp .LShift (.int m t) (.int d u)) Q E s := by
  obtain ⟨y, e, h0, h1⟩ := shl_law hm hm1 ht ht1
  exact step_ls y ht (by lia) (by lia) e (h y e h0 h1)
theorem step_sgn {a q : Int} (h0 : 0 ≤ q) (h1 : q < 2) (ha : 0 ≤ a) (ha1 : a < 1048576) (h : ∀ x, -1048576 < x → x < 1048576 → Q (.int x s.toks) { s with toks := s.toks + 1 }) : wpAny (model prog w) A (binaryOp .Mult (.int (([1, 0 - 1] : List Int).getD q.toNat 0) t) (.int a u)) Q E s := by
  obtain ⟨x, e, h2, h3⟩ := sgn_law h0 h1 ha ha1
  exact step_mul x (IntMulOk.of_right (PySem.intBits_le_64 (by lia) (by lia))) e (h x h2 h3)
theorem step_sgn0 {a q : Int} (h0 : 0 ≤ q) (h1 : q < 2) (ha : 0 < a) (ha1 : a < 8192) (h : ∀ x, -8192 < x → x < 8192 → x ≠ 0 → Q (.int x s.toks) { s with toks := s.toks + 1 }) : wpAny (model prog w) A (binaryOp .Mult (.int (([1, 0 - 1] : List Int).getD q.toNat 0) t) (.int a u)) Q E s := by
  obtain ⟨x, e, h2, h3, h4⟩ := sgn_law0 h0 h1 ha ha1
  exact step_mul x (IntMulOk.of_right (PySem.intBits_le_64 (by lia) (by lia))) e (h x h2 h3 h4)
end
end Mine
end
section
open PySem PySem.W PyProof.Rows
namespace Mine
local macro_rules | `(tactic| walk_at "execs cons") => `(tactic| k_fold)
local macro_rules | `(tactic| walk_at "binaryOp LShift int int") => `(tactic| k_dflt (k_extra "mLS"))
local macro_rules | `(tactic| walk_at "binaryOp RShift int int") => `(tactic| k_dflt (k_extra "mRS"))
local macro_rules | `(tactic| walk_at "binaryOp BitAnd int int") => `(tactic| k_dflt (k_extra "mAnd"))
local macro_rules | `(tactic| walk_at "binaryOp BitOr int int") => `(tactic| k_dflt (k_extra "mOr"))
local macro_rules | `(tactic| walk_at "binaryOp Mod int int") => `(tactic| k_dflt (k_extra "mMod"))
local macro_rules | `(tactic| walk_at "binaryOp FloorDiv int int") => `(tactic| k_dflt (k_extra "mDiv"))
local macro_rules | `(tactic| walk_at "binaryOp Mult int int") => `(tactic| k_dflt (k_extra "mMul"))
local macro_rules | `(tactic| walk_at "inplaceOp RShift int int") => `(tactic| k_dflt (k_extra "mIRS"))
local macro_rules | `(tactic| walk_at "inplaceOp BitOr int int") => `(tactic| k_dflt (k_extra "mIOr"))
local macro_rules | `(tactic| walk_at "inplaceOp Mod int int") => `(tactic| k_dflt (k_extra "mIMod"))
local macro_rules | `(tactic| walk_at "call type:enumerate") => `(tactic| k_dflt (k_extra "mEnum"))
local macro_rules | `(tactic| walk_at "exec While") => `(tactic| k_dflt (k_extra "mWhile"))
local macro_rules | `(tactic| k_all) => `(tactic| with_reducible assumption)
local macro_rules | `(tactic| walk_at "call ref") => `(tactic| k_dflt (k_extra "mCall"))
local macro_rules | `(tactic| walk_at "InvEndN") => `(tactic| k_dflt (k_extra "mInv"))
local macro_rules | `(tactic| walk_at "KswEnd") => `(tactic| k_dflt (k_extra "mKsw"))
theorem fill_all : hd.heap_39 = hd.heap_39 ∧ PySem.Challenge.rw_nz0084_01 = PySem.Challenge.rw_nz0084_01 := by
  k_fill; exact ⟨rfl, rfl⟩
section
theorem normal_step {ns : List Int} {e : Int} (h0 : 0 < e) (h1 : e ≤ ns.length) (hz : ∀ i : Nat, e ≤ i → ns.getD i 0 = 0) (hy : ns.getD (e - 1).toNat 0 = 0) : 0 ≤ e - 1 ∧ e - 1 ≤ ns.length ∧ ∀ i : Nat, e - 1 ≤ i → ns.getD i 0 = 0 := by
  refine ⟨by lia, by lia, fun i hi => ?_⟩
  by_cases hc : i = (e - 1).toNat
  · rw [hc]; exact hy
  · exact hz i (by lia)
theorem normal_end {ns : List Int} {e : Int} (h0 : 0 < e) (hy : ns.getD (e - 1).toNat 0 ≠ 0) {i : Nat} (hi : e.toNat = i + 1) : ns.getD i 0 ≠ 0 := by
  rwa [show (e - 1).toNat = i from by lia] at hy
theorem c_normal (wd : World) (a : Addr) (us : List Value) (ns : List Int) (n : Nat) (news : Led) (hm : (a, listOf us.toArray n) ∈ news) (hi : IntsAre us ns) (hlen : ns.length < 1000) :
    Call wd 58 1 [.ref a] news (fun r news' => ∃ (b : Addr) (vs : List Value) (k : Nat), news' = (b, listOf (List.toArray vs) 0) :: news ∧ r = .ref b ∧ AllLt b news ∧ IntsAre vs (ns.take k) ∧ k ≤ ns.length ∧ (∀ i, k ≤ i → ns.getD i 0 = 0) ∧ (∀ i, k = i + 1 → ns.getD i 0 ≠ 0)) := by
  k_with_none
  k_with "mInv" => ((rename News _ _ _ _ => nE'); (try simp only [List.push_toArray] at nE'); first | ((refine' kst_end ⟨_, _, _, _, _⟩ ?f1 ?f2 ?ka ?kb ?kr ?kc ?kd ?ke ?kf); (case f1 => assumption); (case f2 => exact nE'); (case ka => first | kst_in | kst_inAny); (case kb => first | (intro p hp; kst_mem) | kst_anyIn); (case kr => rfl); (case kc => kst_facts); (case kd => kst_all); (case ke => kst_same); (case kf => kst_p)) | ((refine' kst_end ⟨_, _, _, _, _, _⟩ ?f1 ?f2 ?ka ?kb ?kr ?kc ?kd ?ke ?kf); (case f1 => assumption); (case f2 => exact nE'); (case ka => first | kst_in | kst_inAny); (case kb => first | (intro p hp; kst_mem) | kst_anyIn); (case kr => rfl); (case kc => kst_facts); (case kd => kst_all); (case ke => kst_same); (case kf => kst_p)) | ((refine' kst_end ⟨_, _, _⟩ ?f1 ?f2 ?ka ?kb ?kr ?kc ?kd ?ke ?kf); (case f1 => assumption); (case f2 => exact nE'); (case ka => first | kst_in | kst_inAny); (case kb => first | (intro p hp; kst_mem) | kst_anyIn); (case kr => rfl); (case kc => kst_facts); (case kd => kst_all); (case ke => kst_same); (case kf => kst_p)) | ((refine' kst_end _ ?f1 ?f2 ?ka ?kb ?kr ?kc ?kd ?ke ?kf); (case f1 => assumption); (case f2 => exact nE'); (case ka => first | kst_in | kst_inAny); (case kb => first | (intro p hp; kst_mem) | kst_anyIn); (case kr => rfl); (case kc => kst_facts); (case kd => kst_all); (case ke => kst_same); (case kf => kst_p)) | ((refine' kst_end ⟨_, _⟩ ?f1 ?f2 ?ka ?kb ?kr ?kc ?kd ?ke ?kf); (case f1 => assumption); (case f2 => exact nE'); (case ka => first | kst_in | kst_inAny); (case kb => first | (intro p hp; kst_mem) | kst_anyIn); (case kr => rfl); (case kc => kst_facts); (case kd => kst_all); (case ke => kst_same); (case kf => kst_p)) | ((refine' kst_end ⟨_, _, _, _, _, _, _, _⟩ ?f1 ?f2 ?ka ?kb ?kr ?kc ?kd ?ke ?kf); (case f1 => assumption); (case f2 => exact nE'); (case ka => first | kst_in | kst_inAny); (case kb => first | (intro p hp; kst_mem) | kst_anyIn); (case kr => rfl); (case kc => kst_facts); (case kd => kst_all); (case ke => kst_same); (case kf => kst_p)))
  k_with "mKsw" => ((rename News _ _ _ _ => nE'); (try simp only [List.push_toArray] at nE'); first | ((refine' ksw_end ⟨_, _, _, _, _, _, _, _, _, _⟩ ?f1 ?f2 ?ka ?kc ?kd ?ke ?kf ?kg); (case f1 => assumption); (case f2 => exact nE'); (case kd => kst_all); (case ka => first | kst_in | kst_inAny); (case kc => kst_facts); (case ke => ksw_same); (case kf => kst_p); (case kg => ksw_less)) | ((refine' ksw_end ⟨_, _⟩ ?f1 ?f2 ?ka ?kc ?kd ?ke ?kf ?kg); (case f1 => assumption); (case f2 => exact nE'); (case kd => kst_all); (case ka => first | kst_in | kst_inAny); (case kc => kst_facts); (case ke => ksw_same); (case kf => kst_p); (case kg => ksw_less)) | ((refine' ksw_end ⟨_, _, _, _⟩ ?f1 ?f2 ?ka ?kc ?kd ?ke ?kf ?kg); (case f1 => assumption); (case f2 => exact nE'); (case kd => kst_all); (case ka => first | kst_in | kst_inAny); (case kc => kst_facts); (case ke => ksw_same); (case kf => kst_p); (case kg => ksw_less)))
  k_with "exec While BoolOp cons nil" => k_while_given ["a"] (fun (xs : List Int) script (e : Int) => 0 ≤ e ∧ e ≤ xs.length ∧ ∀ i : Nat, e ≤ i → xs.getD i 0 = 0) (fun (xs : List Int) script (e : Int) => e.toNat) "end"
  k_with "state" => first | exact normal_step (by assumption) (by assumption) (by assumption) (by assumption) | (refine ⟨by lia, by lia, ?_⟩; intro i hi; exact getD_ge (by lia))
  w_top off
  unfold Call
  intro mean mg mb dp un gd cn cs a1 ccd cl outer A₀ base h₀ L m s Q E B F X N T hk hd hu hret
  replace N := news_dup N hm
  refine wpAny_call ?_
  k_dflt cell_enter
  k_steps
  · rename ∀ i : Nat, _ ≤ (i : Int) → ns.getD i 0 = 0 => hz
    rename _ ∧ AllLt _ _ => hl
    refine hret _ _ _ _ (by assumption) (cb_drop (by assumption) (by kst_in)) ⟨_, _, _, rfl, rfl, hl.2, by assumption, by lia, fun i hi => hz i (by lia), fun i hi => normal_end (by assumption) (by assumption) hi⟩
  · rename ∀ i : Nat, _ ≤ (i : Int) → ns.getD i 0 = 0 => hz
    rename _ ∧ AllLt _ _ => hl
    refine hret _ _ _ _ (by assumption) (cb_drop (by assumption) (by kst_in)) ⟨_, _, _, rfl, rfl, hl.2, by assumption, by lia, fun i hi => hz i (by lia), fun i hi => by lia⟩
end
section
theorem c_is_even (wd : World) (a : Addr) (us : List Value) (ns : List Int) (n : Nat) (news : Led) (hm : (a, listOf us.toArray n) ∈ news) (hi : IntsAre us ns) (hlen : ns.length < 1000) :
    Call wd 65 1 [.ref a] news (fun r news' => news' = news ∧ ∃ b : Bool, r = .bool b ∧ (b = true ↔ ns.getD 0 0 % 2 = 0)) := by
  k_with_none
  k_with "mInv" => ((rename News _ _ _ _ => nE'); (try simp only [List.push_toArray] at nE'); first | ((refine' kst_end ⟨_, _, _, _, _⟩ ?f1 ?f2 ?ka ?kb ?kr ?kc ?kd ?ke ?kf); (case f1 => assumption); (case f2 => exact nE'); (case ka => first | kst_in | kst_inAny); (case kb => first | (intro p hp; kst_mem) | kst_anyIn); (case kr => rfl); (case kc => kst_facts); (case kd => kst_all); (case ke => kst_same); (case kf => kst_p)) | ((refine' kst_end ⟨_, _, _, _, _, _⟩ ?f1 ?f2 ?ka ?kb ?kr ?kc ?kd ?ke ?kf); (case f1 => assumption); (case f2 => exact nE'); (case ka => first | kst_in | kst_inAny); (case kb => first | (intro p hp; kst_mem) | kst_anyIn); (case kr => rfl); (case kc => kst_facts); (case kd => kst_all); (case ke => kst_same); (case kf => kst_p)) | ((refine' kst_end ⟨_, _, _⟩ ?f1 ?f2 ?ka ?kb ?kr ?kc ?kd ?ke ?kf); (case f1 => assumption); (case f2 => exact nE'); (case ka => first | kst_in | kst_inAny); (case kb => first | (intro p hp; kst_mem) | kst_anyIn); (case kr => rfl); (case kc => kst_facts); (case kd => kst_all); (case ke => kst_same); (case kf => kst_p)) | ((refine' kst_end _ ?f1 ?f2 ?ka ?kb ?kr ?kc ?kd ?ke ?kf); (case f1 => assumption); (case f2 => exact nE'); (case ka => first | kst_in | kst_inAny); (case kb => first | (intro p hp; kst_mem) | kst_anyIn); (case kr => rfl); (case kc => kst_facts); (case kd => kst_all); (case ke => kst_same); (case kf => kst_p)) | ((refine' kst_end ⟨_, _⟩ ?f1 ?f2 ?ka ?kb ?kr ?kc ?kd ?ke ?kf); (case f1 => assumption); (case f2 => exact nE'); (case ka => first | kst_in | kst_inAny); (case kb => first | (intro p hp; kst_mem) | kst_anyIn); (case kr => rfl); (case kc => kst_facts); (case kd => kst_all); (case ke => kst_same); (case kf => kst_p)) | ((refine' kst_end ⟨_, _, _, _, _, _, _, _⟩ ?f1 ?f2 ?ka ?kb ?kr ?kc ?kd ?ke ?kf); (case f1 => assumption); (case f2 => exact nE'); (case ka => first | kst_in | kst_inAny); (case kb => first | (intro p hp; kst_mem) | kst_anyIn); (case kr => rfl); (case kc => kst_facts); (case kd => kst_all); (case ke => kst_same); (case kf => kst_p)))
  k_with "mAnd" => (refine step_and _ (bitAnd_m1 _) ?_)
  w_top off
  unfold Call
  intro mean mg mb dp un gd cn cs a1 ccd cl outer A₀ base h₀ L m s Q E B F X N T hk hd hu hret
  replace N := news_dup N hm
  refine wpAny_call ?_
  k_dflt cell_enter
  k_steps
  · refine hret _ _ _ _ (by assumption) (cb_drop (by assumption) (by kst_in)) ⟨rfl, _, rfl, by
      rename_i h _ _ _ _
      have e : ns = [] := by cases ns with | nil => rfl | cons => simp at h; lia
      subst e; simp⟩
  · refine hret _ _ _ _ (by assumption) (cb_drop (by assumption) (by kst_in)) ⟨rfl, _, rfl, by simp⟩
end
section
theorem c_bit (wd : World) (a : Addr) (us : List Value) (ns : List Int) (n : Nat) (news : Led) (k w : Int) (tk tw : Tok) (hm : (a, listOf us.toArray n) ∈ news) (hi : IntsAre us ns) (hlen : ns.length < 1000)(hw : 3 ≤ w) (hw2 : w ≤ 9) (hk0 : 0 ≤ k) (hk2 : k < 3) :
    Call wd 107 1 [.ref a, .int k tk, .int w tw] news (fun r news' => news' = news ∧ ∃ t, r = .int (ns.getD 0 0 / 2 ^ k.toNat % 2) t) := by
  k_with_none
  k_with "mInv" => ((rename News _ _ _ _ => nE'); (try simp only [List.push_toArray] at nE'); first | ((refine' kst_end ⟨_, _, _, _, _⟩ ?f1 ?f2 ?ka ?kb ?kr ?kc ?kd ?ke ?kf); (case f1 => assumption); (case f2 => exact nE'); (case ka => first | kst_in | kst_inAny); (case kb => first | (intro p hp; kst_mem) | kst_anyIn); (case kr => rfl); (case kc => kst_facts); (case kd => kst_all); (case ke => kst_same); (case kf => kst_p)) | ((refine' kst_end ⟨_, _, _, _, _, _⟩ ?f1 ?f2 ?ka ?kb ?kr ?kc ?kd ?ke ?kf); (case f1 => assumption); (case f2 => exact nE'); (case ka => first | kst_in | kst_inAny); (case kb => first | (intro p hp; kst_mem) | kst_anyIn); (case kr => rfl); (case kc => kst_facts); (case kd => kst_all); (case ke => kst_same); (case kf => kst_p)) | ((refine' kst_end ⟨_, _, _⟩ ?f1 ?f2 ?ka ?kb ?kr ?kc ?kd ?ke ?kf); (case f1 => assumption); (case f2 => exact nE'); (case ka => first | kst_in | kst_inAny); (case kb => first | (intro p hp; kst_mem) | kst_anyIn); (case kr => rfl); (case kc => kst_facts); (case kd => kst_all); (case ke => kst_same); (case kf => kst_p)) | ((refine' kst_end _ ?f1 ?f2 ?ka ?kb ?kr ?kc ?kd ?ke ?kf); (case f1 => assumption); (case f2 => exact nE'); (case ka => first | kst_in | kst_inAny); (case kb => first | (intro p hp; kst_mem) | kst_anyIn); (case kr => rfl); (case kc => kst_facts); (case kd => kst_all); (case ke => kst_same); (case kf => kst_p)) | ((refine' kst_end ⟨_, _⟩ ?f1 ?f2 ?ka ?kb ?kr ?kc ?kd ?ke ?kf); (case f1 => assumption); (case f2 => exact nE'); (case ka => first | kst_in | kst_inAny); (case kb => first | (intro p hp; kst_mem) | kst_anyIn); (case kr => rfl); (case kc => kst_facts); (case kd => kst_all); (case ke => kst_same); (case kf => kst_p)) | ((refine' kst_end ⟨_, _, _, _, _, _, _, _⟩ ?f1 ?f2 ?ka ?kb ?kr ?kc ?kd ?ke ?kf); (case f1 => assumption); (case f2 => exact nE'); (case ka => first | kst_in | kst_inAny); (case kb => first | (intro p hp; kst_mem) | kst_anyIn); (case kr => rfl); (case kc => kst_facts); (case kd => kst_all); (case ke => kst_same); (case kf => kst_p)))
  k_with "mDiv" => (refine step_fd 0 (by lia) (by lia) (by rw [Int.fdiv_eq_ediv_of_nonneg _ (by lia)]; exact Int.ediv_eq_zero_of_lt (by lia) (by lia)) ?_)
  k_with "mMod" => (refine step_fm k (by lia) (by rw [Int.fmod_eq_emod_of_nonneg _ (by lia)]; exact Int.emod_eq_of_lt (by lia) (by lia)) ?_)
  k_with "mAnd" => (refine step_and _ (bitAnd_m1 _) ?_)
  k_with "mRS" => (refine step_rs _ (by lia) rfl ?_)
  w_top off
  unfold Call
  intro mean mg mb dp un gd cn cs a1 ccd cl outer A₀ base h₀ L m s Q E B F X N T hk hd hu hret
  replace N := news_dup N hm
  refine wpAny_call ?_
  k_dflt cell_enter
  k_steps
  · refine hret _ _ _ _ (by assumption) (cb_drop (by assumption) (by kst_in)) ⟨rfl, _, rfl⟩
  · have e : ns.getD 0 0 = 0 := getD_ge (by lia)
    refine hret _ _ _ _ (by assumption) (cb_drop (by assumption) (by kst_in)) ⟨rfl, _, by rw [e]; simp; rfl⟩
end
section
theorem c_bits (wd : World) (a : Addr) (x : Int) (tx : Tok) (n : Nat) (news : Led) (w : Int) (tw : Tok) (hm : (a, listOf [Value.int x tx].toArray n) ∈ news) (hw : 3 ≤ w) (hw2 : w ≤ 9) (hx : 0 < x) (hx2 : x < 2 ^ w.toNat) :
    Call wd 100 1 [.ref a, .int w tw] news (fun r news' => news' = news ∧ ∃ k t, r = .int k t ∧ 1 ≤ k ∧ k ≤ w ∧ x < 2 ^ k.toNat) := by
  k_with_none
  k_with "mInv" => ((rename News _ _ _ _ => nE'); (try simp only [List.push_toArray] at nE'); first | ((refine' kst_end ⟨_, _, _, _, _⟩ ?f1 ?f2 ?ka ?kb ?kr ?kc ?kd ?ke ?kf); (case f1 => assumption); (case f2 => exact nE'); (case ka => first | kst_in | kst_inAny); (case kb => first | (intro p hp; kst_mem) | kst_anyIn); (case kr => rfl); (case kc => kst_facts); (case kd => kst_all); (case ke => kst_same); (case kf => kst_p)) | ((refine' kst_end ⟨_, _, _, _, _, _⟩ ?f1 ?f2 ?ka ?kb ?kr ?kc ?kd ?ke ?kf); (case f1 => assumption); (case f2 => exact nE'); (case ka => first | kst_in | kst_inAny); (case kb => first | (intro p hp; kst_mem) | kst_anyIn); (case kr => rfl); (case kc => kst_facts); (case kd => kst_all); (case ke => kst_same); (case kf => kst_p)) | ((refine' kst_end ⟨_, _, _⟩ ?f1 ?f2 ?ka ?kb ?kr ?kc ?kd ?ke ?kf); (case f1 => assumption); (case f2 => exact nE'); (case ka => first | kst_in | kst_inAny); (case kb => first | (intro p hp; kst_mem) | kst_anyIn); (case kr => rfl); (case kc => kst_facts); (case kd => kst_all); (case ke => kst_same); (case kf => kst_p)) | ((refine' kst_end _ ?f1 ?f2 ?ka ?kb ?kr ?kc ?kd ?ke ?kf); (case f1 => assumption); (case f2 => exact nE'); (case ka => first | kst_in | kst_inAny); (case kb => first | (intro p hp; kst_mem) | kst_anyIn); (case kr => rfl); (case kc => kst_facts); (case kd => kst_all); (case ke => kst_same); (case kf => kst_p)) | ((refine' kst_end ⟨_, _⟩ ?f1 ?f2 ?ka ?kb ?kr ?kc ?kd ?ke ?kf); (case f1 => assumption); (case f2 => exact nE'); (case ka => first | kst_in | kst_inAny); (case kb => first | (intro p hp; kst_mem) | kst_anyIn); (case kr => rfl); (case kc => kst_facts); (case kd => kst_all); (case ke => kst_same); (case kf => kst_p)) | ((refine' kst_end ⟨_, _, _, _, _, _, _, _⟩ ?f1 ?f2 ?ka ?kb ?kr ?kc ?kd ?ke ?kf); (case f1 => assumption); (case f2 => exact nE'); (case ka => first | kst_in | kst_inAny); (case kb => first | (intro p hp; kst_mem) | kst_anyIn); (case kr => rfl); (case kc => kst_facts); (case kd => kst_all); (case ke => kst_same); (case kf => kst_p)))
  k_with "mMul" => (refine mul_int ?_ (PySem.IntMulOk.of_left (PySem.intBits_le_64 (by lia) (by lia))))
  w_top off
  unfold Call
  intro mean mg mb dp un gd cn cs a1 ccd cl outer A₀ base h₀ L m s Q E B F X N T hk hd hu hret
  replace N := news_dup N hm
  refine wpAny_call ?_
  k_dflt cell_enter
  k_steps
  refine hret _ _ _ _ (by assumption) (cb_drop (by assumption) (by kst_in)) ⟨rfl, _, _, rfl, ?_⟩
  have h1 : Builtin.Int.intBits x ≤ w.toNat := intBits_le_iff.mpr (by
    have := kbt_cast w.toNat
    lia)
  have h2 : 0 < Builtin.Int.intBits x := by
    unfold Builtin.Int.intBits
    have : (x == 0) = false := by simp; lia
    simp [this]
  have h3 := kbt_cast (Builtin.Int.intBits x)
  have h4 := intBits_le_iff.mp (Nat.le_refl (Builtin.Int.intBits x))
  have h5 : ((1 : Int) - 1) * w + (Builtin.Int.intBits x : Nat) = (Builtin.Int.intBits x : Nat) := by lia
  rw [h5, Int.toNat_natCast]
  refine ⟨by lia, by lia, by lia⟩
end
section
theorem c_trailing (wd : World) (a : Addr) (us : List Value) (ns : List Int) (n : Nat) (news : Led) (w : Int) (tw : Tok) (hm : (a, listOf us.toArray n) ∈ news) (hi : IntsAre us ns) (hlen : ns.length < 1000)(hw : 3 ≤ w) (hw2 : w ≤ 9) (h0 : ∀ x ∈ ns, 0 ≤ x) (hex : ∃ x ∈ ns, x ≠ 0) :
    Call wd 114 1 [.ref a, .int w tw] news (fun r news' => news' = news ∧ ∃ (k : Int) (t : Tok) (i e : Nat) (o : Int), r = .int k t ∧ k = i * w + e ∧ i < ns.length ∧ (∀ j < i, ns.getD j 0 = 0) ∧ ns.getD i 0 = 2 ^ e * (2 * o + 1) ∧ 0 ≤ o) := by
  k_with_none
  k_with "mInv" => ((rename News _ _ _ _ => nE'); (try simp only [List.push_toArray] at nE'); first | ((refine' kst_end ⟨_, _, _, _, _⟩ ?f1 ?f2 ?ka ?kb ?kr ?kc ?kd ?ke ?kf); (case f1 => assumption); (case f2 => exact nE'); (case ka => first | kst_in | kst_inAny); (case kb => first | (intro p hp; kst_mem) | kst_anyIn); (case kr => rfl); (case kc => kst_facts); (case kd => kst_all); (case ke => kst_same); (case kf => kst_p)) | ((refine' kst_end ⟨_, _, _, _, _, _⟩ ?f1 ?f2 ?ka ?kb ?kr ?kc ?kd ?ke ?kf); (case f1 => assumption); (case f2 => exact nE'); (case ka => first | kst_in | kst_inAny); (case kb => first | (intro p hp; kst_mem) | kst_anyIn); (case kr => rfl); (case kc => kst_facts); (case kd => kst_all); (case ke => kst_same); (case kf => kst_p)) | ((refine' kst_end ⟨_, _, _⟩ ?f1 ?f2 ?ka ?kb ?kr ?kc ?kd ?ke ?kf); (case f1 => assumption); (case f2 => exact nE'); (case ka => first | kst_in | kst_inAny); (case kb => first | (intro p hp; kst_mem) | kst_anyIn); (case kr => rfl); (case kc => kst_facts); (case kd => kst_all); (case ke => kst_same); (case kf => kst_p)) | ((refine' kst_end _ ?f1 ?f2 ?ka ?kb ?kr ?kc ?kd ?ke ?kf); (case f1 => assumption); (case f2 => exact nE'); (case ka => first | kst_in | kst_inAny); (case kb => first | (intro p hp; kst_mem) | kst_anyIn); (case kr => rfl); (case kc => kst_facts); (case kd => kst_all); (case ke => kst_same); (case kf => kst_p)) | ((refine' kst_end ⟨_, _⟩ ?f1 ?f2 ?ka ?kb ?kr ?kc ?kd ?ke ?kf); (case f1 => assumption); (case f2 => exact nE'); (case ka => first | kst_in | kst_inAny); (case kb => first | (intro p hp; kst_mem) | kst_anyIn); (case kr => rfl); (case kc => kst_facts); (case kd => kst_all); (case ke => kst_same); (case kf => kst_p)) | ((refine' kst_end ⟨_, _, _, _, _, _, _, _⟩ ?f1 ?f2 ?ka ?kb ?kr ?kc ?kd ?ke ?kf); (case f1 => assumption); (case f2 => exact nE'); (case ka => first | kst_in | kst_inAny); (case kb => first | (intro p hp; kst_mem) | kst_anyIn); (case kr => rfl); (case kc => kst_facts); (case kd => kst_all); (case ke => kst_same); (case kf => kst_p)))
  k_with "mAnd" => (refine and_int ?_)
  k_with "mMul" => (refine mul_int ?_ (PySem.IntMulOk.of_right (PySem.intBits_le_64 (by lia) (by lia))))
  k_with "pyIter ref" => ((with_reducible show wpAny _ _ _ (fun it s₂ => PairAt3 _ _ _ _ _ _ _ _ _ _ it s₂) _ _); (with_unfolding_all refine' kst_enum (σ := Unit) (fun _ => []) (fun _ => []) (fun _ => True) [] (fun pre _ => ∀ x ∈ pre, x = 0) () (PairSrcL.at (by assumption) _ rfl) trivial ?kk ?kp ?_ ?_); (case kk => intro p hp; exact nomatch hp); (case kp => intro p hp; exact nomatch hp); rotate_left; (intro c u h tk _ hp; exfalso; obtain ⟨x, hx, hx0⟩ := hex; exact hx0 (hp x hx)); (intro c pre post kN i t t' u h tk own hns hpre hoff hfa hinv kFr kNews; have kMark := kstMark; (try dsimp only [kstB] at kFr); (try simp only [List.nil_append] at kNews)); (try k_fold))
  k_with "state" => (intro x hx; rcases List.mem_append.mp hx with h | h; exact hinv x h; (rw [List.mem_singleton.mp h]; have := h0 kN (by rw [hns]; simp); lia))
  w_top off
  unfold Call
  intro mean mg mb dp un gd cn cs a1 ccd cl outer A₀ base h₀ L m s Q E B F X N T hk hd hu hret
  replace N := news_dup N hm
  refine wpAny_call ?_
  k_dflt (refine' code_defB (nw := []) (ot := (a, listOf us.toArray n) :: news) ?k1 ?k2 ?k3 ?k4 ?kO ?kD ?k5 ?kA ?kF ?kK ?k6 ?k7 ?k8 ?k9 ?kB ?_ ?c2 ?c3 ?c4 ?c5; (case kA => exact rfl); (case kF => exact rfl); (case kK => assumption); (case k1 => k_asm); (case k2 => k_asm); (case k3 => k_asm); (case k4 => exact News.nil); (case kO => exact N); (case kD => simp); (case k5 => k_asm); (case k6 => k_is); (case k7 => k_is); (case k8 => ktr_room); (case k9 => exact BindsTo.of_eq rfl); (case c5 => decide); (case kB => exact locs rfl); (case c2 => exact rfl); (case c3 => exact rfl); (case c4 => exact rfl); k_whole; intro g' L' h' FG' F' N' O' B' X' T'; (try dsimp only); (try k_lift B'); (try k_fold))

  have hl : g'.IsList a us.toArray := ⟨_, O' _ (.head _), rfl, n, rfl⟩
  k_steps
  rename_i hpos _ _ _ _ _
  obtain ⟨s1, s2, s3⟩ := split_at hns
  obtain ⟨e, o, e1, e2⟩ := two_odd _ kN rfl hpos
  refine hret _ _ _ _ (by assumption) (cb_drop (by assumption) (by kst_in)) ⟨rfl, _, _, i, e, o, rfl, ?_, by lia, fun j hj => ?_, by rw [← hpre, s2, e1], e2⟩
  · rw [e1, kbt_low, intBits_pow]; lia
  · rw [s3 j (by lia)]; exact hinv _ (getD_mem (by lia))
end
section
theorem c_compare (wd : World) (a b : Addr) (us vs : List Value) (xs ys : List Int) (n k : Nat) (news : Led) (hm : (a, listOf us.toArray n) ∈ news) (hm2 : (b, listOf vs.toArray k) ∈ news) (hi : IntsAre us xs) (hj : IntsAre vs ys) (hlen : xs.length < 1000) (hlen2 : ys.length < 1000) (β va vb : Int) (hβ1 : 1 < β) (hx : Row β va xs) (hy : Row β vb ys) :
    Call wd 72 1 [.ref a, .ref b] news (fun r news' => news' = news ∧ ∃ k t, r = .int k t ∧
      (k = -1 ∧ va < vb ∨ k = 0 ∧ va = vb ∨ k = 1 ∧ vb < va)) := by
  k_with_none
  k_with "mInv" => ((rename News _ _ _ _ => nE'); (try simp only [List.push_toArray] at nE'); first | ((refine' kst_end ⟨_, _, _, _, _⟩ ?f1 ?f2 ?ka ?kb ?kr ?kc ?kd ?ke ?kf); (case f1 => assumption); (case f2 => exact nE'); (case ka => first | kst_in | kst_inAny); (case kb => first | (intro p hp; kst_mem) | kst_anyIn); (case kr => rfl); (case kc => kst_facts); (case kd => kst_all); (case ke => kst_same); (case kf => kst_p)) | ((refine' kst_end ⟨_, _, _, _, _, _⟩ ?f1 ?f2 ?ka ?kb ?kr ?kc ?kd ?ke ?kf); (case f1 => assumption); (case f2 => exact nE'); (case ka => first | kst_in | kst_inAny); (case kb => first | (intro p hp; kst_mem) | kst_anyIn); (case kr => rfl); (case kc => kst_facts); (case kd => kst_all); (case ke => kst_same); (case kf => kst_p)) | ((refine' kst_end ⟨_, _, _⟩ ?f1 ?f2 ?ka ?kb ?kr ?kc ?kd ?ke ?kf); (case f1 => assumption); (case f2 => exact nE'); (case ka => first | kst_in | kst_inAny); (case kb => first | (intro p hp; kst_mem) | kst_anyIn); (case kr => rfl); (case kc => kst_facts); (case kd => kst_all); (case ke => kst_same); (case kf => kst_p)) | ((refine' kst_end _ ?f1 ?f2 ?ka ?kb ?kr ?kc ?kd ?ke ?kf); (case f1 => assumption); (case f2 => exact nE'); (case ka => first | kst_in | kst_inAny); (case kb => first | (intro p hp; kst_mem) | kst_anyIn); (case kr => rfl); (case kc => kst_facts); (case kd => kst_all); (case ke => kst_same); (case kf => kst_p)) | ((refine' kst_end ⟨_, _⟩ ?f1 ?f2 ?ka ?kb ?kr ?kc ?kd ?ke ?kf); (case f1 => assumption); (case f2 => exact nE'); (case ka => first | kst_in | kst_inAny); (case kb => first | (intro p hp; kst_mem) | kst_anyIn); (case kr => rfl); (case kc => kst_facts); (case kd => kst_all); (case ke => kst_same); (case kf => kst_p)) | ((refine' kst_end ⟨_, _, _, _, _, _, _, _⟩ ?f1 ?f2 ?ka ?kb ?kr ?kc ?kd ?ke ?kf); (case f1 => assumption); (case f2 => exact nE'); (case ka => first | kst_in | kst_inAny); (case kb => first | (intro p hp; kst_mem) | kst_anyIn); (case kr => rfl); (case kc => kst_facts); (case kd => kst_all); (case ke => kst_same); (case kf => kst_p)))
  k_with "pyIter ref" => ((with_reducible show wpAny _ _ (pyIter (Value.ref _)) (fun it s₂ => LoopAtV _ _ _ _ _ _ _ _ _ it s₂) _ _); (rename Fr _ _ _ _ => lF'); (rename News _ _ _ _ => lN'); (rename IsRange _ _ _ _ _ _ _ _ => rgX); (with_unfolding_all refine' kst_rangeD (σ := Unit) (fun _ => (a, listOf us.toArray n) :: (b, listOf vs.toArray k) :: news) (fun _ => []) (fun _ => True) [] (fun pre _ => ∀ j : Nat, xs.length ≤ j + pre.length → xs.getD j 0 = ys.getD j 0) () (by rfl) rgX (by exact small_down (by lia) (by lia) (by lia) (by lia)) (by exact rangeSize_downNat _ _) lF' lN' trivial ?kk ?kp ?_ ?_); (case kk => intro p hp; exact nomatch hp); (case kp => (intro j hj; simp at hj; rw [getD_ge hj, getD_ge (by lia)])); (all_goals (try clear lF' lN')); rotate_left; (intro c u h tk _ kInv kFr kNews; have kMark := kstMark; (try dsimp only [kstB] at kFr)); rotate_left; (intro c kPre kN kT kU kH kTk kOwn kEq kLt kOff kFacts kInv kFr kNews; have kMark := kstMark; (try dsimp only [kstB] at kFr); (try simp only [List.nil_append, List.cons_append] at kNews)); (all_goals (try k_fold)))
  k_with "state" => (intro j hj; simp only [List.length_append, List.length_cons, List.length_nil] at hj; by_cases hjj : xs.length ≤ j + kPre.length; exact kInv j hjj; (have e : j = kN.toNat := by lia); subst e; lia)
  w_top off
  unfold Call
  intro mean mg mb dp un gd cn cs a1 ccd cl outer A₀ base h₀ L m s Q E B F X N T hk hd hu hret
  replace N := news_dup N hm2
  replace N := news_dup N (List.mem_cons_of_mem _ hm)
  refine wpAny_call ?_
  k_dflt cell_enter
  k_steps
  · refine hret _ _ _ _ (by assumption) (cb_drop (by assumption) (by kst_in)) ⟨rfl, _, _, rfl, cmp_of hβ1 hx hy (Or.inl ⟨rfl, Or.inl (by lia)⟩)⟩
  · refine hret _ _ _ _ (by assumption) (cb_drop (by assumption) (by kst_in)) ⟨rfl, _, _, rfl, cmp_of hβ1 hx hy (Or.inr (Or.inr ⟨rfl, Or.inl (by lia)⟩))⟩
  · refine hret _ _ _ _ (by assumption) (cb_drop (by assumption) (by kst_in)) ⟨rfl, _, _, rfl, cmp_of hβ1 hx hy (Or.inl ⟨rfl, Or.inr ⟨by lia, kN.toNat, by lia, by assumption, fun j hj => kInv j (by lia)⟩⟩)⟩
  · refine hret _ _ _ _ (by assumption) (cb_drop (by assumption) (by kst_in)) ⟨rfl, _, _, rfl, cmp_of hβ1 hx hy (Or.inr (Or.inr ⟨rfl, Or.inr ⟨by lia, kN.toNat, by lia, by lia, fun j hj => kInv j (by lia)⟩⟩))⟩
  · refine hret _ _ _ _ (by assumption) (cb_drop (by assumption) (by kst_in)) ⟨rfl, _, _, rfl, cmp_of hβ1 hx hy (Or.inr (Or.inl ⟨rfl, by lia, fun j => kInv j (by rw [downKs_length]; lia)⟩))⟩
end
section
theorem c_last2 (wd : World) (a : Addr) (us : List Value) (ns : List Int) (n : Nat) (news : Led) (w : Int) (tm tw : Tok) (hm : (a, listOf us.toArray n) ∈ news) (hi : IntsAre us ns) (hlen : ns.length < 1000)(hw : 3 ≤ w) (hw2 : w ≤ 9) :
    Call wd 119 2 [.ref a, .int 2 tm, .int w tw] news (fun r news' => news' = news ∧ ∃ t, r = .int (ns.getD 0 0 % 4) t) := by
  k_with_none
  k_with "mInv" => ((rename News _ _ _ _ => nE'); (try simp only [List.push_toArray] at nE'); first | ((refine' kst_end ⟨_, _, _, _, _⟩ ?f1 ?f2 ?ka ?kb ?kr ?kc ?kd ?ke ?kf); (case f1 => assumption); (case f2 => exact nE'); (case ka => first | kst_in | kst_inAny); (case kb => first | (intro p hp; kst_mem) | kst_anyIn); (case kr => rfl); (case kc => kst_facts); (case kd => kst_all); (case ke => kst_same); (case kf => kst_p)) | ((refine' kst_end ⟨_, _, _, _, _, _⟩ ?f1 ?f2 ?ka ?kb ?kr ?kc ?kd ?ke ?kf); (case f1 => assumption); (case f2 => exact nE'); (case ka => first | kst_in | kst_inAny); (case kb => first | (intro p hp; kst_mem) | kst_anyIn); (case kr => rfl); (case kc => kst_facts); (case kd => kst_all); (case ke => kst_same); (case kf => kst_p)) | ((refine' kst_end ⟨_, _, _⟩ ?f1 ?f2 ?ka ?kb ?kr ?kc ?kd ?ke ?kf); (case f1 => assumption); (case f2 => exact nE'); (case ka => first | kst_in | kst_inAny); (case kb => first | (intro p hp; kst_mem) | kst_anyIn); (case kr => rfl); (case kc => kst_facts); (case kd => kst_all); (case ke => kst_same); (case kf => kst_p)) | ((refine' kst_end _ ?f1 ?f2 ?ka ?kb ?kr ?kc ?kd ?ke ?kf); (case f1 => assumption); (case f2 => exact nE'); (case ka => first | kst_in | kst_inAny); (case kb => first | (intro p hp; kst_mem) | kst_anyIn); (case kr => rfl); (case kc => kst_facts); (case kd => kst_all); (case ke => kst_same); (case kf => kst_p)) | ((refine' kst_end ⟨_, _⟩ ?f1 ?f2 ?ka ?kb ?kr ?kc ?kd ?ke ?kf); (case f1 => assumption); (case f2 => exact nE'); (case ka => first | kst_in | kst_inAny); (case kb => first | (intro p hp; kst_mem) | kst_anyIn); (case kr => rfl); (case kc => kst_facts); (case kd => kst_all); (case ke => kst_same); (case kf => kst_p)) | ((refine' kst_end ⟨_, _, _, _, _, _, _, _⟩ ?f1 ?f2 ?ka ?kb ?kr ?kc ?kd ?ke ?kf); (case f1 => assumption); (case f2 => exact nE'); (case ka => first | kst_in | kst_inAny); (case kb => first | (intro p hp; kst_mem) | kst_anyIn); (case kr => rfl); (case kc => kst_facts); (case kd => kst_all); (case ke => kst_same); (case kf => kst_p)))
  k_with "mCall" => (k_dflt (refine' use_call (c_bit _ _ _ _ _ _ _ _ _ _ ?h0 ?h1 ?h2 ?h3 ?h4 ?h5 ?h6) ?B ?F ?X ?N ?T ?K ?d ?u ?_; (case B => k_asm); (case F => k_asm); (case X => k_asm); (case N => k_asm); (case T => k_asm); (case K => first | exact rfl | assumption); (case d => first | exact room_d hd (by decide) | ktr_room); (case u => first | exact room_u3 hu (by decide) | exact room_u4 hu (by decide) | exact room_u5 hu (by decide) | decide | ktr_units); (case h0 => first | k_mem | k_memK | kst_mem); (case h1 => assumption); (case h2 => assumption); (case h3 => assumption); (case h4 => assumption); (case h5 => lia); (case h6 => lia)); k_whole; intro r9 nw9 h9 tk9 F9 N9 hp9; (try dsimp only at hp9); obtain ⟨e9, t9, e8⟩ := hp9; subst e9; subst e8; (all_goals ((try dsimp only); (try k_sweep); (try k_fold))))
  k_with "mLS" => (refine step_ls _ (by lia) (by lia) (by lia) rfl ?_)
  w_top off
  unfold Call
  intro mean mg mb dp un gd cn cs a1 ccd cl outer A₀ base h₀ L m s Q E B F X N T hk hd hu hret
  replace N := news_dup N hm
  refine wpAny_call ?_
  k_dflt (refine' code_defC ?k1 ?k2 ?k3 ?k4 ?k5 ?kA ?kF ?kK ?k6 ?k7 ?k8 ?k9 ?kB ?kD ?_ ?c2 ?c3 ?c4; (case kA => exact rfl); (case kF => exact rfl); (case kK => assumption); (case k1 => k_asm); (case k2 => k_asm); (case k3 => k_asm); (case k4 => k_asm); (case k5 => k_asm); (case k6 => k_is); (case k7 => k_is); (case k8 => ktr_room); (case k9 => exact BindsTo.of_eq rfl); (case kB => exact rfl); (case kD => decide +kernel); (case c2 => exact rfl); (case c3 => exact rfl); (case c4 => exact rfl); k_whole; intro g' L' h' tk' cells' FG' F' N' Y' B' X' T' l1; (try k_lt l1); k_cells Y'; (try simp only [List.cons_append, List.nil_append] at N'); (try dsimp only); (try k_lift B'); (try k_fold))
  k_steps
  refine hret _ _ _ _ (by assumption) (cb_drop (by assumption) (by kst_in)) ⟨rfl, _, congrArg (fun z => Value.int z _) ?_⟩
  rw [show rangeKs 0 ((2 : Int) - 0).toNat = [0, 1] from by decide]
  simp only [List.map_cons, List.map_nil, List.sum_cons, List.sum_nil]
  rw [show (Int.toNat 0) = 0 from rfl, show (Int.toNat 1) = 1 from rfl]
  generalize ns.getD 0 0 = d
  lia
end
section
theorem c_last3 (wd : World) (a : Addr) (us : List Value) (ns : List Int) (n : Nat) (news : Led) (w : Int) (tm tw : Tok) (hm : (a, listOf us.toArray n) ∈ news) (hi : IntsAre us ns) (hlen : ns.length < 1000)(hw : 3 ≤ w) (hw2 : w ≤ 9) :
    Call wd 119 2 [.ref a, .int 3 tm, .int w tw] news (fun r news' => news' = news ∧ ∃ t, r = .int (ns.getD 0 0 % 8) t) := by
  k_with_none
  k_with "mInv" => ((rename News _ _ _ _ => nE'); (try simp only [List.push_toArray] at nE'); first | ((refine' kst_end ⟨_, _, _, _, _⟩ ?f1 ?f2 ?ka ?kb ?kr ?kc ?kd ?ke ?kf); (case f1 => assumption); (case f2 => exact nE'); (case ka => first | kst_in | kst_inAny); (case kb => first | (intro p hp; kst_mem) | kst_anyIn); (case kr => rfl); (case kc => kst_facts); (case kd => kst_all); (case ke => kst_same); (case kf => kst_p)) | ((refine' kst_end ⟨_, _, _, _, _, _⟩ ?f1 ?f2 ?ka ?kb ?kr ?kc ?kd ?ke ?kf); (case f1 => assumption); (case f2 => exact nE'); (case ka => first | kst_in | kst_inAny); (case kb => first | (intro p hp; kst_mem) | kst_anyIn); (case kr => rfl); (case kc => kst_facts); (case kd => kst_all); (case ke => kst_same); (case kf => kst_p)) | ((refine' kst_end ⟨_, _, _⟩ ?f1 ?f2 ?ka ?kb ?kr ?kc ?kd ?ke ?kf); (case f1 => assumption); (case f2 => exact nE'); (case ka => first | kst_in | kst_inAny); (case kb => first | (intro p hp; kst_mem) | kst_anyIn); (case kr => rfl); (case kc => kst_facts); (case kd => kst_all); (case ke => kst_same); (case kf => kst_p)) | ((refine' kst_end _ ?f1 ?f2 ?ka ?kb ?kr ?kc ?kd ?ke ?kf); (case f1 => assumption); (case f2 => exact nE'); (case ka => first | kst_in | kst_inAny); (case kb => first | (intro p hp; kst_mem) | kst_anyIn); (case kr => rfl); (case kc => kst_facts); (case kd => kst_all); (case ke => kst_same); (case kf => kst_p)) | ((refine' kst_end ⟨_, _⟩ ?f1 ?f2 ?ka ?kb ?kr ?kc ?kd ?ke ?kf); (case f1 => assumption); (case f2 => exact nE'); (case ka => first | kst_in | kst_inAny); (case kb => first | (intro p hp; kst_mem) | kst_anyIn); (case kr => rfl); (case kc => kst_facts); (case kd => kst_all); (case ke => kst_same); (case kf => kst_p)) | ((refine' kst_end ⟨_, _, _, _, _, _, _, _⟩ ?f1 ?f2 ?ka ?kb ?kr ?kc ?kd ?ke ?kf); (case f1 => assumption); (case f2 => exact nE'); (case ka => first | kst_in | kst_inAny); (case kb => first | (intro p hp; kst_mem) | kst_anyIn); (case kr => rfl); (case kc => kst_facts); (case kd => kst_all); (case ke => kst_same); (case kf => kst_p)))
  k_with "mCall" => (k_dflt (refine' use_call (c_bit _ _ _ _ _ _ _ _ _ _ ?h0 ?h1 ?h2 ?h3 ?h4 ?h5 ?h6) ?B ?F ?X ?N ?T ?K ?d ?u ?_; (case B => k_asm); (case F => k_asm); (case X => k_asm); (case N => k_asm); (case T => k_asm); (case K => first | exact rfl | assumption); (case d => first | exact room_d hd (by decide) | ktr_room); (case u => first | exact room_u3 hu (by decide) | exact room_u4 hu (by decide) | exact room_u5 hu (by decide) | decide | ktr_units); (case h0 => first | k_mem | k_memK | kst_mem); (case h1 => assumption); (case h2 => assumption); (case h3 => assumption); (case h4 => assumption); (case h5 => lia); (case h6 => lia)); k_whole; intro r9 nw9 h9 tk9 F9 N9 hp9; (try dsimp only at hp9); obtain ⟨e9, t9, e8⟩ := hp9; subst e9; subst e8; (all_goals ((try dsimp only); (try k_sweep); (try k_fold))))
  k_with "mLS" => (refine step_ls _ (by lia) (by lia) (by lia) rfl ?_)
  w_top off
  unfold Call
  intro mean mg mb dp un gd cn cs a1 ccd cl outer A₀ base h₀ L m s Q E B F X N T hk hd hu hret
  replace N := news_dup N hm
  refine wpAny_call ?_
  k_dflt (refine' code_defC ?k1 ?k2 ?k3 ?k4 ?k5 ?kA ?kF ?kK ?k6 ?k7 ?k8 ?k9 ?kB ?kD ?_ ?c2 ?c3 ?c4; (case kA => exact rfl); (case kF => exact rfl); (case kK => assumption); (case k1 => k_asm); (case k2 => k_asm); (case k3 => k_asm); (case k4 => k_asm); (case k5 => k_asm); (case k6 => k_is); (case k7 => k_is); (case k8 => ktr_room); (case k9 => exact BindsTo.of_eq rfl); (case kB => exact rfl); (case kD => decide +kernel); (case c2 => exact rfl); (case c3 => exact rfl); (case c4 => exact rfl); k_whole; intro g' L' h' tk' cells' FG' F' N' Y' B' X' T' l1; (try k_lt l1); k_cells Y'; (try simp only [List.cons_append, List.nil_append] at N'); (try dsimp only); (try k_lift B'); (try k_fold))
  k_steps
  refine hret _ _ _ _ (by assumption) (cb_drop (by assumption) (by kst_in)) ⟨rfl, _, congrArg (fun z => Value.int z _) ?_⟩
  rw [show rangeKs 0 ((3 : Int) - 0).toNat = [0, 1, 2] from by decide]
  simp only [List.map_cons, List.map_nil, List.sum_cons, List.sum_nil]
  rw [show (Int.toNat 0) = 0 from rfl, show (Int.toNat 1) = 1 from rfl, show (Int.toNat 2) = 2 from rfl]
  generalize ns.getD 0 0 = d
  lia
end
section
theorem c_two (wd : World) (a : Addr) (us : List Value) (ns : List Int) (n : Nat) (news : Led) (k w : Int) (tk tw : Tok) (hm : (a, listOf us.toArray n) ∈ news) (hi : IntsAre us ns) (hlen : ns.length < 1000)(hw : 3 ≤ w) (hw2 : w ≤ 9) :
    Call wd 126 3 [.int k tk, .ref a, .int w tw] news (fun r news' => news' = news ∧ ∃ t, r = .int (if k % 2 = 1 ∧ (ns.getD 0 0 % 8 = 3 ∨ ns.getD 0 0 % 8 = 5) then -1 else 1) t) := by
  k_with_none
  k_with "mInv" => ((rename News _ _ _ _ => nE'); (try simp only [List.push_toArray] at nE'); first | ((refine' kst_end ⟨_, _, _, _, _⟩ ?f1 ?f2 ?ka ?kb ?kr ?kc ?kd ?ke ?kf); (case f1 => assumption); (case f2 => exact nE'); (case ka => first | kst_in | kst_inAny); (case kb => first | (intro p hp; kst_mem) | kst_anyIn); (case kr => rfl); (case kc => kst_facts); (case kd => kst_all); (case ke => kst_same); (case kf => kst_p)) | ((refine' kst_end ⟨_, _, _, _, _, _⟩ ?f1 ?f2 ?ka ?kb ?kr ?kc ?kd ?ke ?kf); (case f1 => assumption); (case f2 => exact nE'); (case ka => first | kst_in | kst_inAny); (case kb => first | (intro p hp; kst_mem) | kst_anyIn); (case kr => rfl); (case kc => kst_facts); (case kd => kst_all); (case ke => kst_same); (case kf => kst_p)) | ((refine' kst_end ⟨_, _, _⟩ ?f1 ?f2 ?ka ?kb ?kr ?kc ?kd ?ke ?kf); (case f1 => assumption); (case f2 => exact nE'); (case ka => first | kst_in | kst_inAny); (case kb => first | (intro p hp; kst_mem) | kst_anyIn); (case kr => rfl); (case kc => kst_facts); (case kd => kst_all); (case ke => kst_same); (case kf => kst_p)) | ((refine' kst_end _ ?f1 ?f2 ?ka ?kb ?kr ?kc ?kd ?ke ?kf); (case f1 => assumption); (case f2 => exact nE'); (case ka => first | kst_in | kst_inAny); (case kb => first | (intro p hp; kst_mem) | kst_anyIn); (case kr => rfl); (case kc => kst_facts); (case kd => kst_all); (case ke => kst_same); (case kf => kst_p)) | ((refine' kst_end ⟨_, _⟩ ?f1 ?f2 ?ka ?kb ?kr ?kc ?kd ?ke ?kf); (case f1 => assumption); (case f2 => exact nE'); (case ka => first | kst_in | kst_inAny); (case kb => first | (intro p hp; kst_mem) | kst_anyIn); (case kr => rfl); (case kc => kst_facts); (case kd => kst_all); (case ke => kst_same); (case kf => kst_p)) | ((refine' kst_end ⟨_, _, _, _, _, _, _, _⟩ ?f1 ?f2 ?ka ?kb ?kr ?kc ?kd ?ke ?kf); (case f1 => assumption); (case f2 => exact nE'); (case ka => first | kst_in | kst_inAny); (case kb => first | (intro p hp; kst_mem) | kst_anyIn); (case kr => rfl); (case kc => kst_facts); (case kd => kst_all); (case ke => kst_same); (case kf => kst_p)))
  k_with "mCall" => (k_dflt (refine' use_call (c_last3 _ _ _ _ _ _ _ _ _ ?h0 ?h1 ?h2 ?h3 ?h4) ?B ?F ?X ?N ?T ?K ?d ?u ?_; (case B => k_asm); (case F => k_asm); (case X => k_asm); (case N => k_asm); (case T => k_asm); (case K => first | exact rfl | assumption); (case d => first | exact room_d hd (by decide) | ktr_room); (case u => first | exact room_u3 hu (by decide) | exact room_u4 hu (by decide) | exact room_u5 hu (by decide) | decide | ktr_units); (case h0 => first | k_mem | k_memK | kst_mem); (case h1 => assumption); (case h2 => assumption); (case h3 => assumption); (case h4 => assumption)); k_whole; intro r9 nw9 h9 tk9 F9 N9 hp9; (try dsimp only at hp9); obtain ⟨e9, t9, e8⟩ := hp9; subst e9; subst e8; (all_goals ((try dsimp only); (try k_sweep); (try k_fold))))
  k_with "mMod" => (refine step_fm _ (by lia) (by rw [Int.fmod_eq_emod_of_nonneg _ (by lia)]) ?_)
  w_top off
  unfold Call
  intro mean mg mb dp un gd cn cs a1 ccd cl outer A₀ base h₀ L m s Q E B F X N T hk hd hu hret
  replace N := news_dup N hm
  refine wpAny_call ?_
  k_dflt cell_enter
  k_steps
  · refine hret _ _ _ _ (by assumption) (cb_drop (by assumption) (by kst_in)) ⟨rfl, _, congrArg (fun z => Value.int z _) (two_sign1 (by assumption) (by assumption))⟩
  · refine hret _ _ _ _ (by assumption) (cb_drop (by assumption) (by kst_in)) ⟨rfl, _, congrArg (fun z => Value.int z _) (two_sign2 (by assumption))⟩
  · refine hret _ _ _ _ (by assumption) (cb_drop (by assumption) (by kst_in)) ⟨rfl, _, congrArg (fun z => Value.int z _) (two_sign3 (by assumption))⟩
end
section
theorem c_divlimb (wd : World) (a : Addr) (us : List Value) (ns : List Int) (n : Nat) (news : Led) (d w : Int) (td tw : Tok) (hm : (a, listOf us.toArray n) ∈ news) (hi : IntsAre us ns) (hlen : ns.length < 1000)(hw : 3 ≤ w) (hw2 : w ≤ 9)(β : Int) (hβ : (2 : Int) ^ w.toNat = β) (hβ1 : 8 ≤ β) (hβ2 : β ≤ 512)  (hd0 : 0 < d) (hd2 : d < β) (hns : Dig β ns) :
    Call wd 79 2 [.ref a, .int d td, .int w tw] news (fun r news' => ∃ (t q : Addr) (vq : List Value) (nq : Nat) (tr : Tok), news' = (t, { cls := .type "tuple", data := .seq #[.ref q, .int (val β ns % d) tr] }) :: (q, listOf (List.toArray vq) nq) :: news ∧ r = .ref t ∧ AllLt t news ∧ AllLt q news) := by
  k_with_none
  k_with "mInv" => ((rename News _ _ _ _ => nE'); (try simp only [List.push_toArray] at nE'); first | ((refine' kst_end ⟨_, _, _, _, _⟩ ?f1 ?f2 ?ka ?kb ?kr ?kc ?kd ?ke ?kf); (case f1 => assumption); (case f2 => exact nE'); (case ka => first | kst_in | kst_inAny); (case kb => first | (intro p hp; kst_mem) | kst_anyIn); (case kr => rfl); (case kc => kst_facts); (case kd => kst_all); (case ke => kst_same); (case kf => kst_p)) | ((refine' kst_end ⟨_, _, _, _, _, _⟩ ?f1 ?f2 ?ka ?kb ?kr ?kc ?kd ?ke ?kf); (case f1 => assumption); (case f2 => exact nE'); (case ka => first | kst_in | kst_inAny); (case kb => first | (intro p hp; kst_mem) | kst_anyIn); (case kr => rfl); (case kc => kst_facts); (case kd => kst_all); (case ke => kst_same); (case kf => kst_p)) | ((refine' kst_end ⟨_, _, _⟩ ?f1 ?f2 ?ka ?kb ?kr ?kc ?kd ?ke ?kf); (case f1 => assumption); (case f2 => exact nE'); (case ka => first | kst_in | kst_inAny); (case kb => first | (intro p hp; kst_mem) | kst_anyIn); (case kr => rfl); (case kc => kst_facts); (case kd => kst_all); (case ke => kst_same); (case kf => kst_p)) | ((refine' kst_end _ ?f1 ?f2 ?ka ?kb ?kr ?kc ?kd ?ke ?kf); (case f1 => assumption); (case f2 => exact nE'); (case ka => first | kst_in | kst_inAny); (case kb => first | (intro p hp; kst_mem) | kst_anyIn); (case kr => rfl); (case kc => kst_facts); (case kd => kst_all); (case ke => kst_same); (case kf => kst_p)) | ((refine' kst_end ⟨_, _⟩ ?f1 ?f2 ?ka ?kb ?kr ?kc ?kd ?ke ?kf); (case f1 => assumption); (case f2 => exact nE'); (case ka => first | kst_in | kst_inAny); (case kb => first | (intro p hp; kst_mem) | kst_anyIn); (case kr => rfl); (case kc => kst_facts); (case kd => kst_all); (case ke => kst_same); (case kf => kst_p)) | ((refine' kst_end ⟨_, _, _, _, _, _, _, _⟩ ?f1 ?f2 ?ka ?kb ?kr ?kc ?kd ?ke ?kf); (case f1 => assumption); (case f2 => exact nE'); (case ka => first | kst_in | kst_inAny); (case kb => first | (intro p hp; kst_mem) | kst_anyIn); (case kr => rfl); (case kc => kst_facts); (case kd => kst_all); (case ke => kst_same); (case kf => kst_p)))
  k_with "mCall" => (k_dflt (refine' use_call (c_normal _ _ _ _ _ _ ?h0 ?h1 ?h2) ?B ?F ?X ?N ?T ?K ?d ?u ?_; (case B => k_asm); (case F => k_asm); (case X => k_asm); (case N => k_asm); (case T => k_asm); (case K => first | exact rfl | assumption); (case d => first | exact room_d hd (by decide) | ktr_room); (case u => first | exact room_u3 hu (by decide) | exact room_u4 hu (by decide) | exact room_u5 hu (by decide) | decide | ktr_units); (case h0 => first | k_mem | k_memK | kst_mem); (case h1 => assumption); (case h2 => first | assumption | lia | (simp only [rangeKs_length] at *; lia))); k_whole; intro r9 nw9 h9 tk9 F9 N9 hp9; (try dsimp only at hp9); obtain ⟨b9, vs9, k9, e9, e8, l9, i9, q1, q2, q3⟩ := hp9; subst e9; subst e8; (try simp only [AllLt, and_true] at l9); (all_goals ((try dsimp only); (try k_sweep); (try k_fold))))
  k_with "mLS" => (refine step_ls (_ * β) (by lia) (by lia) (by lia) (by rw [hβ]) ?_)
  k_with "mOr" => (refine step_or _ (or_shift hβ (by lia) (hns.getD (by lia) _)) ?_)
  k_with "mDiv" => (refine step_fd _ (by lia) (by lia) rfl ?_)
  k_with "mIMod" => (refine step_ifm _ (by lia) rfl ?_)
  k_with "state" => first | exact divlimb_start hd0 (by simp) | exact divlimb_turn hd0 (by assumption) (by lia) kEq (by first | assumption | (simp; assumption))
  k_with "pyIter ref" => k_state_given ["a"] (fun (xs : List Int) (pre : List Int) (r : Int) (f : List Int) => (0 ≤ r ∧ r < d ∧ r = val β (xs.drop (xs.length - pre.length)) % d) ∧ f.length = xs.length) "rest" "found"
  w_top off
  unfold Call
  intro mean mg mb dp un gd cn cs a1 ccd cl outer A₀ base h₀ L m s Q E B F X N T hk hd hu hret
  replace N := news_dup N hm
  refine wpAny_call ?_
  k_dflt cell_enter
  k_steps
  · exfalso; lia
  · rename _ = val β (List.drop _ ns) % d => he
    rename _ ∧ _ ∧ _ ∧ _ ∧ _ ∧ AllLt _ _ => lt9
    rw [downKs_length, show ns.length - ((ns.length : Int) - 1 - -1).toNat = 0 from by lia, List.drop_zero] at he
    subst he
    refine hret _ _ _ _ (by assumption) (cb_drop (by assumption) (by kst_in)) ⟨_, _, _, _, _, rfl, rfl, lt9.2.2.2.2.2, l9.2.2.2.2⟩
end
section
theorem c_shl (wd : World) (a : Addr) (us : List Value) (ns : List Int) (n : Nat) (news : Led) (k w : Int) (tk tw : Tok) (hm : (a, listOf us.toArray n) ∈ news) (hi : IntsAre us ns) (hlen : ns.length < 1000)(hw : 3 ≤ w) (hw2 : w ≤ 9)(β : Int) (hβ : (2 : Int) ^ w.toNat = β) (hβ1 : 8 ≤ β) (hβ2 : β ≤ 512) (γ : Int) (hγ : (2 : Int) ^ k.toNat = γ) (hγ1 : 1 ≤ γ) (hγ2 : γ ≤ β) (hk0 : 0 ≤ k) (hk2 : k < w) (hns : Dig β ns) :
    Call wd 86 2 [.ref a, .int k tk, .int w tw] news (fun r news' => ∃ (b : Addr) (vs : List Value) (nn : Nat) (f : List Int), news' = (b, listOf (List.toArray vs) nn) :: news ∧ r = .ref b ∧ AllLt b news ∧ IntsAre vs f ∧ (Dig β f ∧ val β f = val β ns * γ ∧ (f.length = ns.length ∨ f.length = ns.length + 1 ∧ β ^ ns.length ≤ val β f))) := by
  k_with_none
  k_with "mInv" => ((rename News _ _ _ _ => nE'); (try simp only [List.push_toArray] at nE'); first | ((refine' kst_end ⟨_, _, _, _, _⟩ ?f1 ?f2 ?ka ?kb ?kr ?kc ?kd ?ke ?kf); (case f1 => assumption); (case f2 => exact nE'); (case ka => first | kst_in | kst_inAny); (case kb => first | (intro p hp; kst_mem) | kst_anyIn); (case kr => rfl); (case kc => kst_facts); (case kd => kst_all); (case ke => kst_same); (case kf => kst_p)) | ((refine' kst_end ⟨_, _, _, _, _, _⟩ ?f1 ?f2 ?ka ?kb ?kr ?kc ?kd ?ke ?kf); (case f1 => assumption); (case f2 => exact nE'); (case ka => first | kst_in | kst_inAny); (case kb => first | (intro p hp; kst_mem) | kst_anyIn); (case kr => rfl); (case kc => kst_facts); (case kd => kst_all); (case ke => kst_same); (case kf => kst_p)) | ((refine' kst_end ⟨_, _, _⟩ ?f1 ?f2 ?ka ?kb ?kr ?kc ?kd ?ke ?kf); (case f1 => assumption); (case f2 => exact nE'); (case ka => first | kst_in | kst_inAny); (case kb => first | (intro p hp; kst_mem) | kst_anyIn); (case kr => rfl); (case kc => kst_facts); (case kd => kst_all); (case ke => kst_same); (case kf => kst_p)) | ((refine' kst_end _ ?f1 ?f2 ?ka ?kb ?kr ?kc ?kd ?ke ?kf); (case f1 => assumption); (case f2 => exact nE'); (case ka => first | kst_in | kst_inAny); (case kb => first | (intro p hp; kst_mem) | kst_anyIn); (case kr => rfl); (case kc => kst_facts); (case kd => kst_all); (case ke => kst_same); (case kf => kst_p)) | ((refine' kst_end ⟨_, _⟩ ?f1 ?f2 ?ka ?kb ?kr ?kc ?kd ?ke ?kf); (case f1 => assumption); (case f2 => exact nE'); (case ka => first | kst_in | kst_inAny); (case kb => first | (intro p hp; kst_mem) | kst_anyIn); (case kr => rfl); (case kc => kst_facts); (case kd => kst_all); (case ke => kst_same); (case kf => kst_p)) | ((refine' kst_end ⟨_, _, _, _, _, _, _, _⟩ ?f1 ?f2 ?ka ?kb ?kr ?kc ?kd ?ke ?kf); (case f1 => assumption); (case f2 => exact nE'); (case ka => first | kst_in | kst_inAny); (case kb => first | (intro p hp; kst_mem) | kst_anyIn); (case kr => rfl); (case kc => kst_facts); (case kd => kst_all); (case ke => kst_same); (case kf => kst_p)))
  k_with "mDiv" => (refine step_fd 0 (by lia) (by lia) (by rw [Int.fdiv_eq_ediv_of_nonneg _ (by lia)]; exact Int.ediv_eq_zero_of_lt (by lia) (by lia)) ?_)
  k_with "mMod" => (refine step_fm k (by lia) (by rw [Int.fmod_eq_emod_of_nonneg _ (by lia)]; exact Int.emod_eq_of_lt (by lia) (by lia)) ?_)
  k_with "mLS" => first | (refine step_ls β (by lia) (by lia) (by lia) (by rw [Int.one_mul, hβ]) ?_) | (refine step_ls (_ * γ) (by lia) (by lia) (by have := hns.mem kMem; lia) (by rw [hγ]) ?_)
  k_with "mIOr" => (refine step_ior _ ((bitOr_comm _ _).trans (or_shift hγ (hns.mem kMem).1 ⟨by lia, by lia⟩)) ?_)
  k_with "mAnd" => (refine step_and _ (and_mask hβ) ?_)
  k_with "mIRS" => (refine step_irs (_ / β) (by lia) (by rw [hβ]) ?_)
  k_with "state" => first | exact shl_start hγ1 (by simp) | exact shl_turn (by lia) hγ1 (hns.mem kMem) (by assumption) (by assumption) (by assumption) (by assumption) (by assumption)
  k_with "pyIter ref" => k_state (fun (pre : List Int) (c : Int) (f : List Int) => Dig β f ∧ f.length = pre.length ∧ 0 ≤ c ∧ c < γ ∧ val β f + β ^ pre.length * c = val β pre * γ) "carry" "found"
  w_top off
  unfold Call
  intro mean mg mb dp un gd cn cs a1 ccd cl outer A₀ base h₀ L m s Q E B F X N T hk hd hu hret
  replace N := news_dup N hm
  refine wpAny_call ?_
  k_dflt cell_enter
  k_steps
  · refine hret _ _ _ _ (by assumption) (cb_drop (by assumption) (by kst_in)) ⟨_, _, _, _, rfl, rfl, by first | assumption | (apply And.right; assumption) | (apply And.right; apply And.right; assumption) | (apply And.right; apply And.right; apply And.right; assumption) | (apply And.right; apply And.right; apply And.right; apply And.right; assumption) | (apply And.right; apply And.right; apply And.right; apply And.right; apply And.right; assumption) | (apply And.right; apply And.right; apply And.right; apply And.right; apply And.right; apply And.right; assumption) | (apply And.right; apply And.right; apply And.right; apply And.right; apply And.right; apply And.right; apply And.right; assumption) | (apply And.right; apply And.right; apply And.right; apply And.right; apply And.right; apply And.right; apply And.right; apply And.right; assumption) | (apply And.right; apply And.right; apply And.right; apply And.right; apply And.right; apply And.right; apply And.right; apply And.right; apply And.right; assumption) | (apply And.right; apply And.right; apply And.right; apply And.right; apply And.right; apply And.right; apply And.right; apply And.right; apply And.right; apply And.right; assumption) | (apply And.right; apply And.right; apply And.right; apply And.right; apply And.right; apply And.right; apply And.right; apply And.right; apply And.right; apply And.right; apply And.right; assumption), .nil, shl_nil (by assumption)⟩
  · rename News h₀ L _ _ => NN
    simp only [List.push_toArray] at NN
    refine hret _ _ _ _ (by assumption) (cb_drop (by assumption) (by kst_in)) ⟨_, _, _, _, rfl, rfl, by first | assumption | (apply And.right; assumption) | (apply And.right; apply And.right; assumption) | (apply And.right; apply And.right; apply And.right; assumption) | (apply And.right; apply And.right; apply And.right; apply And.right; assumption) | (apply And.right; apply And.right; apply And.right; apply And.right; apply And.right; assumption) | (apply And.right; apply And.right; apply And.right; apply And.right; apply And.right; apply And.right; assumption) | (apply And.right; apply And.right; apply And.right; apply And.right; apply And.right; apply And.right; apply And.right; assumption) | (apply And.right; apply And.right; apply And.right; apply And.right; apply And.right; apply And.right; apply And.right; apply And.right; assumption) | (apply And.right; apply And.right; apply And.right; apply And.right; apply And.right; apply And.right; apply And.right; apply And.right; apply And.right; assumption) | (apply And.right; apply And.right; apply And.right; apply And.right; apply And.right; apply And.right; apply And.right; apply And.right; apply And.right; apply And.right; assumption) | (apply And.right; apply And.right; apply And.right; apply And.right; apply And.right; apply And.right; apply And.right; apply And.right; apply And.right; apply And.right; apply And.right; assumption), IntsAre.append (by assumption) (.cons _ _ .nil), shl_end (by lia) hγ2 (by assumption) (by assumption) (by assumption) (by assumption) (by assumption)⟩
  · refine hret _ _ _ _ (by assumption) (cb_drop (by assumption) (by kst_in)) ⟨_, _, _, _, rfl, rfl, by first | assumption | (apply And.right; assumption) | (apply And.right; apply And.right; assumption) | (apply And.right; apply And.right; apply And.right; assumption) | (apply And.right; apply And.right; apply And.right; apply And.right; assumption) | (apply And.right; apply And.right; apply And.right; apply And.right; apply And.right; assumption) | (apply And.right; apply And.right; apply And.right; apply And.right; apply And.right; apply And.right; assumption) | (apply And.right; apply And.right; apply And.right; apply And.right; apply And.right; apply And.right; apply And.right; assumption) | (apply And.right; apply And.right; apply And.right; apply And.right; apply And.right; apply And.right; apply And.right; apply And.right; assumption) | (apply And.right; apply And.right; apply And.right; apply And.right; apply And.right; apply And.right; apply And.right; apply And.right; apply And.right; assumption) | (apply And.right; apply And.right; apply And.right; apply And.right; apply And.right; apply And.right; apply And.right; apply And.right; apply And.right; apply And.right; assumption) | (apply And.right; apply And.right; apply And.right; apply And.right; apply And.right; apply And.right; apply And.right; apply And.right; apply And.right; apply And.right; apply And.right; assumption), by assumption, shl_end0 (by assumption) (by assumption) (by assumption) (by assumption) (by assumption)⟩
end
section
theorem c_shr0 (wd : World) (a : Addr) (us : List Value) (ns : List Int) (n : Nat) (news : Led) (k w : Int) (tk tw : Tok) (hm : (a, listOf us.toArray n) ∈ news) (hi : IntsAre us ns) (hlen : ns.length < 1000)(hw : 3 ≤ w) (hw2 : w ≤ 9)(β : Int) (hβ : (2 : Int) ^ w.toNat = β) (hβ1 : 8 ≤ β) (hβ2 : β ≤ 512) (sp few γ δ : Int) (hsp : k / w = sp) (hfew : k % w = few) (hγ : (2 : Int) ^ few.toNat = γ) (hδ : (2 : Int) ^ (w - few).toNat = δ) (hγδ : β = γ * δ) (hγ1 : 1 ≤ γ) (hδ1 : 1 ≤ δ) (hδ2 : δ ≤ 512) (hsp0 : 0 ≤ sp) (hsp1 : sp < 1000000) (hf0 : 0 ≤ few) (hf1 : few < w) (hk0 : 0 ≤ k) (hns : Dig β ns) :
    Call wd 93 2 [.ref a, .int k tk, .int w tw] news (fun r news' => ∃ (b : Addr) (vs : List Value) (f : List Int), news' = (b, listOf (List.toArray vs) 0) :: news ∧ r = .ref b ∧ AllLt b news ∧ IntsAre vs f ∧ f.length ≤ ns.length ∧ Row β (val β (ns.drop sp.toNat) / γ) f) := by
  k_with_none
  k_with "mInv" => ((rename News _ _ _ _ => nE'); (try simp only [List.push_toArray] at nE'); first | ((refine' kst_end ⟨_, _, _, _, _⟩ ?f1 ?f2 ?ka ?kb ?kr ?kc ?kd ?ke ?kf); (case f1 => assumption); (case f2 => exact nE'); (case ka => first | kst_in | kst_inAny); (case kb => first | (intro p hp; kst_mem) | kst_anyIn); (case kr => rfl); (case kc => kst_facts); (case kd => kst_all); (case ke => kst_same); (case kf => kst_p)) | ((refine' kst_end ⟨_, _, _, _, _, _⟩ ?f1 ?f2 ?ka ?kb ?kr ?kc ?kd ?ke ?kf); (case f1 => assumption); (case f2 => exact nE'); (case ka => first | kst_in | kst_inAny); (case kb => first | (intro p hp; kst_mem) | kst_anyIn); (case kr => rfl); (case kc => kst_facts); (case kd => kst_all); (case ke => kst_same); (case kf => kst_p)) | ((refine' kst_end ⟨_, _, _⟩ ?f1 ?f2 ?ka ?kb ?kr ?kc ?kd ?ke ?kf); (case f1 => assumption); (case f2 => exact nE'); (case ka => first | kst_in | kst_inAny); (case kb => first | (intro p hp; kst_mem) | kst_anyIn); (case kr => rfl); (case kc => kst_facts); (case kd => kst_all); (case ke => kst_same); (case kf => kst_p)) | ((refine' kst_end _ ?f1 ?f2 ?ka ?kb ?kr ?kc ?kd ?ke ?kf); (case f1 => assumption); (case f2 => exact nE'); (case ka => first | kst_in | kst_inAny); (case kb => first | (intro p hp; kst_mem) | kst_anyIn); (case kr => rfl); (case kc => kst_facts); (case kd => kst_all); (case ke => kst_same); (case kf => kst_p)) | ((refine' kst_end ⟨_, _⟩ ?f1 ?f2 ?ka ?kb ?kr ?kc ?kd ?ke ?kf); (case f1 => assumption); (case f2 => exact nE'); (case ka => first | kst_in | kst_inAny); (case kb => first | (intro p hp; kst_mem) | kst_anyIn); (case kr => rfl); (case kc => kst_facts); (case kd => kst_all); (case ke => kst_same); (case kf => kst_p)) | ((refine' kst_end ⟨_, _, _, _, _, _, _, _⟩ ?f1 ?f2 ?ka ?kb ?kr ?kc ?kd ?ke ?kf); (case f1 => assumption); (case f2 => exact nE'); (case ka => first | kst_in | kst_inAny); (case kb => first | (intro p hp; kst_mem) | kst_anyIn); (case kr => rfl); (case kc => kst_facts); (case kd => kst_all); (case ke => kst_same); (case kf => kst_p)))
  k_with "mCall" => (k_dflt (refine' use_call (c_normal _ _ _ _ _ _ ?h0 ?h1 ?h2) ?B ?F ?X ?N ?T ?K ?d ?u ?_; (case B => k_asm); (case F => k_asm); (case X => k_asm); (case N => k_asm); (case T => k_asm); (case K => first | exact rfl | assumption); (case d => first | exact room_d hd (by decide) | ktr_room); (case u => first | exact room_u3 hu (by decide) | exact room_u4 hu (by decide) | exact room_u5 hu (by decide) | decide | ktr_units); (case h0 => first | k_mem | k_memK | kst_mem); (case h1 => assumption); (case h2 => first | assumption | lia | (simp only [rangeKs_length] at *; lia))); k_whole; intro r9 nw9 h9 tk9 F9 N9 hp9; (try dsimp only at hp9); obtain ⟨b9, vs9, k9, e9, e8, l9, i9, q1, q2, q3⟩ := hp9; subst e9; subst e8; (try simp only [AllLt, and_true] at l9); (all_goals ((try dsimp only); (try k_sweep); (try k_fold))))
  k_with "mDiv" => (refine step_fd sp (by lia) (by lia) (by rw [Int.fdiv_eq_ediv_of_nonneg _ (by lia)]; exact hsp) ?_)
  k_with "mMod" => (refine step_fm few (by lia) (by rw [Int.fmod_eq_emod_of_nonneg _ (by lia)]; exact hfew) ?_)
  k_with "mLS" => first | (refine step_ls β (by lia) (by lia) (by lia) (by rw [Int.one_mul, hβ]) ?_) | (refine step_ls (_ * δ) (by lia) (by lia) (by have := hns.getD (by lia) (kN + 1).toNat; lia) (by rw [hδ]) ?_)
  k_with "mRS" => (refine step_rs (_ / γ) (by lia) (by rw [hγ]) ?_)
  k_with "mOr" => (refine step_or _ ((bitOr_comm _ _).trans (or_shift hδ (by first | lia | exact (hns.getD (by lia) _).1) (shr_lo (hns.getD (by lia) _) hγ1 hγδ))) ?_)
  k_with "mAnd" => (refine step_and _ (and_mask hβ) ?_)
  k_with "state" => first | exact shr_start (by simp) | exact shr_turn (by lia) (by lia) hγδ hns (by lia) (by lia) (by first | rfl | (rw [show (kN + 1).toNat = sp.toNat + kPre.length + 1 from by lia]) | (rw [getD_ge]; lia)) (by assumption) (by assumption) (by assumption)
  k_with "pyIter ref" => k_state (fun (pre : List Int) (f : List Int) => f.length = pre.length ∧ Dig β f ∧ val β f + β ^ pre.length * (val β (ns.drop (sp.toNat + pre.length)) / γ) = val β (ns.drop sp.toNat) / γ) "found"
  w_top off
  unfold Call
  intro mean mg mb dp un gd cn cs a1 ccd cl outer A₀ base h₀ L m s Q E B F X N T hk hd hu hret
  replace N := news_dup N hm
  refine wpAny_call ?_
  k_dflt cell_enter
  k_steps
  obtain ⟨z1, z2⟩ := shr_end (β := β) (γ := γ) (by lia) rfl hsp0 (by assumption) (by assumption) (by assumption) q1 q2 q3
  refine hret _ _ _ _ (by assumption) (cb_drop (by assumption) (by kst_in)) ⟨_, _, _, rfl, rfl, by first | assumption | (apply And.right; assumption) | (apply And.right; apply And.right; assumption) | (apply And.right; apply And.right; apply And.right; assumption) | (apply And.right; apply And.right; apply And.right; apply And.right; assumption) | (apply And.right; apply And.right; apply And.right; apply And.right; apply And.right; assumption) | (apply And.right; apply And.right; apply And.right; apply And.right; apply And.right; apply And.right; assumption) | (apply And.right; apply And.right; apply And.right; apply And.right; apply And.right; apply And.right; apply And.right; assumption) | (apply And.right; apply And.right; apply And.right; apply And.right; apply And.right; apply And.right; apply And.right; apply And.right; assumption) | (apply And.right; apply And.right; apply And.right; apply And.right; apply And.right; apply And.right; apply And.right; apply And.right; apply And.right; assumption) | (apply And.right; apply And.right; apply And.right; apply And.right; apply And.right; apply And.right; apply And.right; apply And.right; apply And.right; apply And.right; assumption) | (apply And.right; apply And.right; apply And.right; apply And.right; apply And.right; apply And.right; apply And.right; apply And.right; apply And.right; apply And.right; apply And.right; assumption), i9, z1, z2⟩
end
section
theorem c_guess (wd : World) (a : Addr) (us : List Value) (t0 t1 t2 : Int) (n : Nat) (news : Led) (fi se w : Int) (tf ts tw : Tok) (hm : (a, listOf us.toArray n) ∈ news) (hi : IntsAre us [t0, t1, t2]) (hw : 3 ≤ w) (hw2 : w ≤ 9)(β : Int) (hβ : (2 : Int) ^ w.toNat = β) (hβ1 : 8 ≤ β) (hβ2 : β ≤ 512) (h0 : 0 ≤ t0) (h01 : t0 < β) (h1 : 0 ≤ t1) (h11 : t1 < β) (h2 : 0 ≤ t2) (h21 : t2 < β) (hf : 1 ≤ fi) (hf2 : fi < β) (hs : 0 ≤ se) (hs2 : se < β) :
    Call wd 154 1 [.ref a, .int fi tf, .int se ts, .int w tw] news (fun r news' => news' = news ∧ ∃ q t, r = .int q t ∧ 0 ≤ q ∧ q < β ∧ GuessOut β (t2 * β + t1) t0 fi se q) := by
  have hh0 : t2 * β ≤ 511 * 512 := Int.mul_le_mul (by lia) (by lia) (by lia) (by lia)
  have hh1 : 0 ≤ t2 * β := Int.mul_nonneg h2 (by lia)
  have g0 : [t0, t1, t2].getD (Int.toNat 0) 0 = t0 := rfl
  have g1 : [t0, t1, t2].getD (Int.toNat 1) 0 = t1 := rfl
  have g2 : [t0, t1, t2].getD (Int.toNat 2) 0 = t2 := rfl
  k_with_none
  k_with "mInv" => ((rename News _ _ _ _ => nE'); (try simp only [List.push_toArray] at nE'); first | ((refine' kst_end ⟨_, _, _, _, _⟩ ?f1 ?f2 ?ka ?kb ?kr ?kc ?kd ?ke ?kf); (case f1 => assumption); (case f2 => exact nE'); (case ka => first | kst_in | kst_inAny); (case kb => first | (intro p hp; kst_mem) | kst_anyIn); (case kr => rfl); (case kc => kst_facts); (case kd => kst_all); (case ke => kst_same); (case kf => kst_p)) | ((refine' kst_end ⟨_, _, _, _, _, _⟩ ?f1 ?f2 ?ka ?kb ?kr ?kc ?kd ?ke ?kf); (case f1 => assumption); (case f2 => exact nE'); (case ka => first | kst_in | kst_inAny); (case kb => first | (intro p hp; kst_mem) | kst_anyIn); (case kr => rfl); (case kc => kst_facts); (case kd => kst_all); (case ke => kst_same); (case kf => kst_p)) | ((refine' kst_end ⟨_, _, _⟩ ?f1 ?f2 ?ka ?kb ?kr ?kc ?kd ?ke ?kf); (case f1 => assumption); (case f2 => exact nE'); (case ka => first | kst_in | kst_inAny); (case kb => first | (intro p hp; kst_mem) | kst_anyIn); (case kr => rfl); (case kc => kst_facts); (case kd => kst_all); (case ke => kst_same); (case kf => kst_p)) | ((refine' kst_end _ ?f1 ?f2 ?ka ?kb ?kr ?kc ?kd ?ke ?kf); (case f1 => assumption); (case f2 => exact nE'); (case ka => first | kst_in | kst_inAny); (case kb => first | (intro p hp; kst_mem) | kst_anyIn); (case kr => rfl); (case kc => kst_facts); (case kd => kst_all); (case ke => kst_same); (case kf => kst_p)) | ((refine' kst_end ⟨_, _⟩ ?f1 ?f2 ?ka ?kb ?kr ?kc ?kd ?ke ?kf); (case f1 => assumption); (case f2 => exact nE'); (case ka => first | kst_in | kst_inAny); (case kb => first | (intro p hp; kst_mem) | kst_anyIn); (case kr => rfl); (case kc => kst_facts); (case kd => kst_all); (case ke => kst_same); (case kf => kst_p)) | ((refine' kst_end ⟨_, _, _, _, _, _, _, _⟩ ?f1 ?f2 ?ka ?kb ?kr ?kc ?kd ?ke ?kf); (case f1 => assumption); (case f2 => exact nE'); (case ka => first | kst_in | kst_inAny); (case kb => first | (intro p hp; kst_mem) | kst_anyIn); (case kr => rfl); (case kc => kst_facts); (case kd => kst_all); (case ke => kst_same); (case kf => kst_p)))
  k_with "mKsw" => ((rename News _ _ _ _ => nE'); (try simp only [List.push_toArray] at nE'); first | ((refine' ksw_end ⟨_, _, _, _, _, _, _, _, _, _⟩ ?f1 ?f2 ?ka ?kc ?kd ?ke ?kf ?kg); (case f1 => assumption); (case f2 => exact nE'); (case ka => first | kst_in | kst_inAny); (case kc => kst_facts); (case kd => kst_all); (case ke => ksw_same); (case kf => kst_p); (case kg => ksw_less)) | ((refine' ksw_end ⟨_, _⟩ ?f1 ?f2 ?ka ?kc ?kd ?ke ?kf ?kg); (case f1 => assumption); (case f2 => exact nE'); (case ka => first | kst_in | kst_inAny); (case kc => kst_facts); (case kd => kst_all); (case ke => ksw_same); (case kf => kst_p); (case kg => ksw_less)) | ((refine' ksw_end ⟨_, _, _, _⟩ ?f1 ?f2 ?ka ?kc ?kd ?ke ?kf ?kg); (case f1 => assumption); (case f2 => exact nE'); (case ka => first | kst_in | kst_inAny); (case kc => kst_facts); (case kd => kst_all); (case ke => ksw_same); (case kf => kst_p); (case kg => ksw_less)))
  k_with "mLS" => first | (refine step_ls β (by lia) (by lia) (by lia) (by rw [Int.one_mul, hβ]) ?_) | (refine step_ls (t2 * β) (by lia) (by lia) (by lia) (by rw [hβ, g2]) ?_) | (refine step_ls (_ * β) (by lia) (by lia) (by lia) (by rw [hβ]) ?_)
  k_with "mOr" => first | (refine step_or (t2 * β + t1) (by rw [g1]; exact or_shift hβ h2 ⟨h1, h11⟩) ?_) | (refine step_or (_ + t0) (by rw [g0]; exact or_shift hβ (by lia) ⟨h0, h01⟩) ?_)
  k_with "mDiv" => (refine step_fd _ (by lia) (by lia) (Int.fdiv_eq_ediv_of_nonneg _ (by lia)) ?_)
  k_with "mMul" => (refine mul_int ?_ (PySem.IntMulOk.of_right (PySem.intBits_le_64 (by lia) (by lia))))
  k_with "mWhile" => first | k_while_given ["first"] (fun (_ : Int) (_ : List Int) (l : Int) (r : Int) => 0 ≤ l ∧ l < β ∧ r = (t2 * β + t1) - l * fi ∧ 0 ≤ r ∧ ∀ z, 0 ≤ z → z < β → z * (fi * β + se) ≤ (t2 * β + t1) * β + t0 → z ≤ l) (fun (_ : Int) (_ : List Int) (l : Int) (r : Int) => (β - r).toNat) "limb" "rest"
  k_with "state" => first | exact guess_start hf hs (by lia) (by lia) h01 | exact guess_turn hf hs h0 (by lia) (by assumption) (by assumption) (by assumption) (by assumption) (by assumption) (by assumption)
  w_top off
  unfold Call
  intro mean mg mb dp un gd cn cs a1 ccd cl outer A₀ base h₀ L m s Q E B F X N T hk hd hu hret
  replace N := news_dup N hm
  refine wpAny_call ?_
  k_dflt cell_enter
  k_steps
  · refine hret _ _ _ _ (by assumption) (cb_drop (by assumption) (by kst_in)) ⟨rfl, _, _, rfl, by assumption, by assumption, ⟨guess_end (by assumption) (by assumption), by assumption⟩⟩
  · refine hret _ _ _ _ (by assumption) (cb_drop (by assumption) (by kst_in)) ⟨rfl, _, _, rfl, by assumption, by assumption, ⟨guess_end2 (by lia) h0 (by assumption) (by assumption) hs hs2 (by assumption) (by assumption), by assumption⟩⟩
end
section
theorem c_takeaway (wd : World) (r bb : Addr) (us vs : List Value) (R Bs : List Int) (n k : Nat) (news : Led) (g : Obj → Led) (q : Int) (tq : Tok) (pt w : Int) (tp tw : Tok) (U : UpdF r (listOf us.toArray n) news g) (hm : (bb, listOf vs.toArray k) ∈ news) (hne : bb ≠ r) (hi : IntsAre us R) (hj : IntsAre vs Bs) (hlen : R.length < 1000) (hlen2 : Bs.length < 1000) (hw : 3 ≤ w) (hw2 : w ≤ 9)(β : Int) (hβ : (2 : Int) ^ w.toNat = β) (hβ1 : 8 ≤ β) (hβ2 : β ≤ 512) (hp0 : 0 ≤ pt) (hp1 : pt + Bs.length < R.length) (hR : Dig β R) (hB : Dig β Bs) (hq : 0 ≤ q) (hq2 : q < β) :
    Call wd 161 1 [.ref r, .ref bb, .int q tq, .int pt tp, .int w tw] news (fun rv news' => ∃ us' R' n' e t, news' = g (listOf (List.toArray us') n') ∧ rv = .int e t ∧ IntsAre us' R' ∧ (e = 0 ∨ e = 1) ∧ Dig β R' ∧ R'.length = R.length ∧ TakeOut β R Bs pt q e R') := by
  k_with_none
  k_with "mInv" => ((rename News _ _ _ _ => nE'); (try simp only [List.push_toArray] at nE'); first | ((refine' kst_end ⟨_, _, _, _, _⟩ ?f1 ?f2 ?ka ?kb ?kr ?kc ?kd ?ke ?kf); (case f1 => assumption); (case f2 => exact nE'); (case ka => first | kst_in | kst_inAny); (case kb => first | (intro p hp; kst_mem) | kst_anyIn); (case kr => rfl); (case kc => kst_facts); (case kd => kst_all); (case ke => kst_same); (case kf => kst_p)) | ((refine' kst_end ⟨_, _, _, _, _, _⟩ ?f1 ?f2 ?ka ?kb ?kr ?kc ?kd ?ke ?kf); (case f1 => assumption); (case f2 => exact nE'); (case ka => first | kst_in | kst_inAny); (case kb => first | (intro p hp; kst_mem) | kst_anyIn); (case kr => rfl); (case kc => kst_facts); (case kd => kst_all); (case ke => kst_same); (case kf => kst_p)) | ((refine' kst_end ⟨_, _, _⟩ ?f1 ?f2 ?ka ?kb ?kr ?kc ?kd ?ke ?kf); (case f1 => assumption); (case f2 => exact nE'); (case ka => first | kst_in | kst_inAny); (case kb => first | (intro p hp; kst_mem) | kst_anyIn); (case kr => rfl); (case kc => kst_facts); (case kd => kst_all); (case ke => kst_same); (case kf => kst_p)) | ((refine' kst_end _ ?f1 ?f2 ?ka ?kb ?kr ?kc ?kd ?ke ?kf); (case f1 => assumption); (case f2 => exact nE'); (case ka => first | kst_in | kst_inAny); (case kb => first | (intro p hp; kst_mem) | kst_anyIn); (case kr => rfl); (case kc => kst_facts); (case kd => kst_all); (case ke => kst_same); (case kf => kst_p)) | ((refine' kst_end ⟨_, _⟩ ?f1 ?f2 ?ka ?kb ?kr ?kc ?kd ?ke ?kf); (case f1 => assumption); (case f2 => exact nE'); (case ka => first | kst_in | kst_inAny); (case kb => first | (intro p hp; kst_mem) | kst_anyIn); (case kr => rfl); (case kc => kst_facts); (case kd => kst_all); (case ke => kst_same); (case kf => kst_p)) | ((refine' kst_end ⟨_, _, _, _, _, _, _, _⟩ ?f1 ?f2 ?ka ?kb ?kr ?kc ?kd ?ke ?kf); (case f1 => assumption); (case f2 => exact nE'); (case ka => first | kst_in | kst_inAny); (case kb => first | (intro p hp; kst_mem) | kst_anyIn); (case kr => rfl); (case kc => kst_facts); (case kd => kst_all); (case ke => kst_same); (case kf => kst_p)))
  k_with "mLS" => (refine step_ls β (by lia) (by lia) (by lia) (by rw [Int.one_mul, hβ]) ?_)
  k_with "mMul" => (refine mul_int ?_ (PySem.IntMulOk.of_left (PySem.intBits_le_64 (by lia) (by lia))))
  k_with "mMod" => (refine step_fm _ (by lia) (Int.fmod_eq_emod_of_nonneg _ (by lia)) ?_)
  k_with "mDiv" => (refine step_fd _ (by lia) (by lia) (Int.fdiv_eq_ediv_of_nonneg _ (by lia)) ?_)
  k_with "state" => first | (simpa only [Int.mul_one] using take_turn (e := 1) (by lia) hp0 ⟨hq, hq2⟩ (hB.mem (by rw [hns]; exact List.mem_append_right _ (.head _))) hpre (by lia) hinv rfl (Or.inl ⟨by assumption, rfl⟩)) | (simpa only [Int.mul_zero, Int.add_zero] using take_turn (e := 0) (by lia) hp0 ⟨hq, hq2⟩ (hB.mem (by rw [hns]; exact List.mem_append_right _ (.head _))) hpre (by lia) hinv rfl (Or.inr ⟨by assumption, rfl⟩))
  k_with "mEnum" => ((with_unfolding_all refine call_enum_list rfl hl (IntsAre.areOf hj) (by assumption) (cb_drop (news := [(r, listOf us.toArray n)]) (by assumption) (by intro p hp; rw [List.mem_singleton.mp hp]; first | exact .head _ | exact .tail _ (.head _))) ?_); intro _ _ _ _ _)
  k_with "pyIter ref" => ((with_reducible show wpAny _ _ _ (fun it s₂ => PairAt3 _ _ _ _ _ _ _ _ _ _ it s₂) _ _); (with_unfolding_all refine' kst_enum (σ := Int × Tok × List Value × List Int × Nat) (fun c => [(r, listOf c.2.2.1.toArray c.2.2.2.2)]) (fun c => [(Str.ofString "carry", Value.int c.1 c.2.1)]) (fun c => IntsAre c.2.2.1 c.2.2.2.1) [Str.ofString "here"] (fun pre c => TakeP β R pt.toNat q pre c.1 c.2.2.2.1) (0, _, us, R, n) (PairSrcL.at (by assumption) _ rfl) hi ?kk ?kp ?_ ?_); (case kk => (intro p hp; rw [List.mem_singleton.mp hp]; with_unfolding_all rfl)); (case kp => exact take_start (by lia) hR); (intro c; obtain ⟨c, tc, us1, R1, n1⟩ := c; (try dsimp only); intro pre post kN i t t' u h tk own hns hpre hoff hfa hinv kFr kNews; have kMark := kstMark; have hlt := (split_at hns).1; (try dsimp only [kstB] at kFr); (try dsimp only at hinv); obtain ⟨c0, c1, v1, v2, v3, v4⟩ := id hinv; (try simp only [List.singleton_append, List.cons_append, List.nil_append] at kNews)); rotate_left; (intro c; obtain ⟨c, tc, us1, R1, n1⟩ := c; (try dsimp only); intro u h tk hfa hinv kFr kNews; have kMark := kstMark; (try dsimp only [kstB] at kFr); (try dsimp only at hinv); obtain ⟨c0, c1, v1, v2, v3, v4⟩ := id hinv); rotate_left; (all_goals (try k_fold)))
  w_top off
  unfold Call
  intro mean mg mb dp un gd cn cs a1 ccd cl outer A₀ base h₀ L m s Q E B F X N T hk hd hu hret
  skip
  obtain ⟨own, rst, e1, e2, u1, u2⟩ := U.split
  subst e1
  refine wpAny_call ?_
  k_dflt (refine' code_defB (nw := [(r, listOf us.toArray n)]) (ot := own ++ rst) ?k1 ?k2 ?k3 ?k4 ?kO ?kD ?k5 ?kA ?kF ?kK ?k6 ?k7 ?k8 ?k9 ?kB ?_ ?c2 ?c3 ?c4 ?c5; (case kA => exact rfl); (case kF => exact rfl); (case kK => assumption); (case k1 => k_asm); (case k2 => k_asm); (case k3 => k_asm); (case k4 => (intro p hp; rw [List.mem_singleton.mp hp]; exact N _ (List.mem_append_right _ (.head _)))); (case kO => (intro p hp; exact N p ((List.mem_append.mp hp).elim (fun h => List.mem_append_left _ h) (fun h => List.mem_append_right _ (.tail _ h))))); (case kD => (intro q hq h9; simp only [List.map_cons, List.map_nil, List.mem_singleton] at h9; exact (List.mem_append.mp hq).elim (fun h => u1 q h h9) (fun h => u2 q h h9))); (case k5 => k_asm); (case k6 => k_is); (case k7 => k_is); (case k8 => ktr_room); (case k9 => exact BindsTo.of_eq rfl); (case c5 => decide); (case kB => exact locs rfl); (case c2 => exact rfl); (case c3 => exact rfl); (case c4 => exact rfl); k_whole; intro g' L' h' FG' F' N' O' B' X' T'; (try dsimp only); (try k_lift B'); (try k_fold))
  have hbo : (bb, listOf vs.toArray k) ∈ own ++ rst := by
    rcases List.mem_append.mp hm with h | h
    · exact List.mem_append_left _ h
    · rcases List.mem_cons.mp h with h | h
      · exact absurd (congrArg Prod.fst h) hne
      · exact List.mem_append_right _ h
  have hl : g'.IsList bb vs.toArray := ⟨_, O' _ hbo, rfl, k, rfl⟩
  k_steps
  · obtain ⟨z1, z2, z3⟩ := take_end' (e := 1) (by lia) hp0 hp1 hinv rfl (Or.inl ⟨by assumption, rfl⟩)
    simp only [Int.mul_one] at z1 z2 z3
    refine hret _ _ _ _ (by assumption) (news_g e2 (nl := _ :: _) (by assumption) (.head _) (by assumption)) ⟨_, _, _, _, _, rfl, rfl, by assumption, Or.inr rfl, z1, z2, z3⟩
  · obtain ⟨z1, z2, z3⟩ := take_end' (e := 0) (by lia) hp0 hp1 hinv rfl (Or.inr ⟨by assumption, rfl⟩)
    simp only [Int.mul_zero, Int.add_zero] at z1 z2 z3
    refine hret _ _ _ _ (by assumption) (news_g e2 (nl := _ :: _) (by assumption) (.head _) (by assumption)) ⟨_, _, _, _, _, rfl, rfl, by assumption, Or.inl rfl, z1, z2, z3⟩
end
section
theorem c_putback (wd : World) (r bb : Addr) (us vs : List Value) (R Bs : List Int) (n k : Nat) (news : Led) (g : Obj → Led) (pt w : Int) (tp tw : Tok) (U : UpdF r (listOf us.toArray n) news g) (hm : (bb, listOf vs.toArray k) ∈ news) (hne : bb ≠ r) (hi : IntsAre us R) (hj : IntsAre vs Bs) (hlen : R.length < 1000) (hlen2 : Bs.length < 1000) (hw : 3 ≤ w) (hw2 : w ≤ 9)(β : Int) (hβ : (2 : Int) ^ w.toNat = β) (hβ1 : 8 ≤ β) (hβ2 : β ≤ 512) (hp0 : 0 ≤ pt) (hp1 : pt + Bs.length < R.length) (hR : Dig β R) (hB : Dig β Bs) :
    Call wd 168 1 [.ref r, .ref bb, .int pt tp, .int w tw] news (fun rv news' => ∃ us' R' n', news' = g (listOf (List.toArray us') n') ∧ rv = .none ∧ IntsAre us' R' ∧ Dig β R' ∧ R'.length = R.length ∧ PutOut β R Bs pt R') := by
  k_with_none
  k_with "mInv" => ((rename News _ _ _ _ => nE'); (try simp only [List.push_toArray] at nE'); first | ((refine' kst_end ⟨_, _, _, _, _⟩ ?f1 ?f2 ?ka ?kb ?kr ?kc ?kd ?ke ?kf); (case f1 => assumption); (case f2 => exact nE'); (case ka => first | kst_in | kst_inAny); (case kb => first | (intro p hp; kst_mem) | kst_anyIn); (case kr => rfl); (case kc => kst_facts); (case kd => kst_all); (case ke => kst_same); (case kf => kst_p)) | ((refine' kst_end ⟨_, _, _, _, _, _⟩ ?f1 ?f2 ?ka ?kb ?kr ?kc ?kd ?ke ?kf); (case f1 => assumption); (case f2 => exact nE'); (case ka => first | kst_in | kst_inAny); (case kb => first | (intro p hp; kst_mem) | kst_anyIn); (case kr => rfl); (case kc => kst_facts); (case kd => kst_all); (case ke => kst_same); (case kf => kst_p)) | ((refine' kst_end ⟨_, _, _⟩ ?f1 ?f2 ?ka ?kb ?kr ?kc ?kd ?ke ?kf); (case f1 => assumption); (case f2 => exact nE'); (case ka => first | kst_in | kst_inAny); (case kb => first | (intro p hp; kst_mem) | kst_anyIn); (case kr => rfl); (case kc => kst_facts); (case kd => kst_all); (case ke => kst_same); (case kf => kst_p)) | ((refine' kst_end _ ?f1 ?f2 ?ka ?kb ?kr ?kc ?kd ?ke ?kf); (case f1 => assumption); (case f2 => exact nE'); (case ka => first | kst_in | kst_inAny); (case kb => first | (intro p hp; kst_mem) | kst_anyIn); (case kr => rfl); (case kc => kst_facts); (case kd => kst_all); (case ke => kst_same); (case kf => kst_p)) | ((refine' kst_end ⟨_, _⟩ ?f1 ?f2 ?ka ?kb ?kr ?kc ?kd ?ke ?kf); (case f1 => assumption); (case f2 => exact nE'); (case ka => first | kst_in | kst_inAny); (case kb => first | (intro p hp; kst_mem) | kst_anyIn); (case kr => rfl); (case kc => kst_facts); (case kd => kst_all); (case ke => kst_same); (case kf => kst_p)) | ((refine' kst_end ⟨_, _, _, _, _, _, _, _⟩ ?f1 ?f2 ?ka ?kb ?kr ?kc ?kd ?ke ?kf); (case f1 => assumption); (case f2 => exact nE'); (case ka => first | kst_in | kst_inAny); (case kb => first | (intro p hp; kst_mem) | kst_anyIn); (case kr => rfl); (case kc => kst_facts); (case kd => kst_all); (case ke => kst_same); (case kf => kst_p)))
  k_with "mLS" => (refine step_ls β (by lia) (by lia) (by lia) (by rw [Int.one_mul, hβ]) ?_)
  k_with "mAnd" => (refine step_and _ (and_mask hβ) ?_)
  k_with "mIRS" => (refine step_irs (_ / β) (by lia) (by rw [hβ]) ?_)
  k_with "state" => first | exact put_turn (by lia) hp0 (hB.mem (by rw [hns]; exact List.mem_append_right _ (.head _))) hpre (by lia) hinv
  k_with "mEnum" => ((with_unfolding_all refine call_enum_list rfl hl (IntsAre.areOf hj) (by assumption) (cb_drop (news := [(r, listOf us.toArray n)]) (by assumption) (by intro p hp; rw [List.mem_singleton.mp hp]; first | exact .head _ | exact .tail _ (.head _))) ?_); intro _ _ _ _ _)
  k_with "pyIter ref" => ((with_reducible show wpAny _ _ _ (fun it s₂ => PairAt3 _ _ _ _ _ _ _ _ _ _ it s₂) _ _); (with_unfolding_all refine' kst_enum (σ := Int × Tok × List Value × List Int × Nat) (fun c => [(r, listOf c.2.2.1.toArray c.2.2.2.2)]) (fun c => [(Str.ofString "carry", Value.int c.1 c.2.1)]) (fun c => IntsAre c.2.2.1 c.2.2.2.1) [] (fun pre c => PutP β R pt.toNat pre c.1 c.2.2.2.1) (0, _, us, R, n) (PairSrcL.at (by assumption) _ rfl) hi ?kk ?kp ?_ ?_); (case kk => (intro p hp; rw [List.mem_singleton.mp hp]; with_unfolding_all rfl)); (case kp => exact put_start hR); (intro c; obtain ⟨c, tc, us1, R1, n1⟩ := c; (try dsimp only); intro pre post kN i t t' u h tk own hns hpre hoff hfa hinv kFr kNews; have kMark := kstMark; have hlt := (split_at hns).1; (try dsimp only [kstB] at kFr); (try dsimp only at hinv); obtain ⟨c0, c1, v1, v2, v3, v4⟩ := id hinv; (try simp only [List.singleton_append, List.cons_append, List.nil_append] at kNews)); rotate_left; (intro c; obtain ⟨c, tc, us1, R1, n1⟩ := c; (try dsimp only); intro u h tk hfa hinv kFr kNews; have kMark := kstMark; (try dsimp only [kstB] at kFr); (try dsimp only at hinv); obtain ⟨c0, c1, v1, v2, v3, v4⟩ := id hinv); rotate_left; (all_goals (try k_fold)))
  w_top off
  unfold Call
  intro mean mg mb dp un gd cn cs a1 ccd cl outer A₀ base h₀ L m s Q E B F X N T hk hd hu hret
  skip
  obtain ⟨own, rst, e1, e2, u1, u2⟩ := U.split
  subst e1
  refine wpAny_call ?_
  k_dflt (refine' code_defB (nw := [(r, listOf us.toArray n)]) (ot := own ++ rst) ?k1 ?k2 ?k3 ?k4 ?kO ?kD ?k5 ?kA ?kF ?kK ?k6 ?k7 ?k8 ?k9 ?kB ?_ ?c2 ?c3 ?c4 ?c5; (case kA => exact rfl); (case kF => exact rfl); (case kK => assumption); (case k1 => k_asm); (case k2 => k_asm); (case k3 => k_asm); (case k4 => (intro p hp; rw [List.mem_singleton.mp hp]; exact N _ (List.mem_append_right _ (.head _)))); (case kO => (intro p hp; exact N p ((List.mem_append.mp hp).elim (fun h => List.mem_append_left _ h) (fun h => List.mem_append_right _ (.tail _ h))))); (case kD => (intro q hq h9; simp only [List.map_cons, List.map_nil, List.mem_singleton] at h9; exact (List.mem_append.mp hq).elim (fun h => u1 q h h9) (fun h => u2 q h h9))); (case k5 => k_asm); (case k6 => k_is); (case k7 => k_is); (case k8 => ktr_room); (case k9 => exact BindsTo.of_eq rfl); (case c5 => decide); (case kB => exact locs rfl); (case c2 => exact rfl); (case c3 => exact rfl); (case c4 => exact rfl); k_whole; intro g' L' h' FG' F' N' O' B' X' T'; (try dsimp only); (try k_lift B'); (try k_fold))
  have hbo : (bb, listOf vs.toArray k) ∈ own ++ rst := by
    rcases List.mem_append.mp hm with h | h
    · exact List.mem_append_left _ h
    · rcases List.mem_cons.mp h with h | h
      · exact absurd (congrArg Prod.fst h) hne
      · exact List.mem_append_right _ h
  have hl : g'.IsList bb vs.toArray := ⟨_, O' _ hbo, rfl, k, rfl⟩
  k_steps
  refine hret _ _ _ _ (by assumption) (news_g e2 (nl := _ :: _) (by assumption) (.head _) (by assumption)) ⟨_, _, _, rfl, rfl, by assumption, put_end' (by lia) hp0 hp1 hinv⟩
end
section
theorem c_gcd (wd : World) (news : Led) (a0 b0 : Int) (ta tb : Tok) (ha0 : 0 ≤ a0) (hb0 : 0 ≤ b0) (ha1 : a0 < 2 ^ 60) (hb1 : b0 < 2 ^ 60) :
    Call wd 208 1 [.int a0 ta, .int b0 tb] news (fun r news' => news' = news ∧ ∃ t, r = .int (Int.gcd a0 b0) t) := by
  k_with_none
  k_with "mInv" => ((rename News _ _ _ _ => nE'); (try simp only [List.push_toArray] at nE'); first | ((refine' kst_end ⟨_, _, _, _, _⟩ ?f1 ?f2 ?ka ?kb ?kr ?kc ?kd ?ke ?kf); (case f1 => assumption); (case f2 => exact nE'); (case ka => first | kst_in | kst_inAny); (case kb => first | (intro p hp; kst_mem) | kst_anyIn); (case kr => rfl); (case kc => kst_facts); (case kd => kst_all); (case ke => kst_same); (case kf => kst_p)) | ((refine' kst_end ⟨_, _, _, _, _, _⟩ ?f1 ?f2 ?ka ?kb ?kr ?kc ?kd ?ke ?kf); (case f1 => assumption); (case f2 => exact nE'); (case ka => first | kst_in | kst_inAny); (case kb => first | (intro p hp; kst_mem) | kst_anyIn); (case kr => rfl); (case kc => kst_facts); (case kd => kst_all); (case ke => kst_same); (case kf => kst_p)) | ((refine' kst_end ⟨_, _, _⟩ ?f1 ?f2 ?ka ?kb ?kr ?kc ?kd ?ke ?kf); (case f1 => assumption); (case f2 => exact nE'); (case ka => first | kst_in | kst_inAny); (case kb => first | (intro p hp; kst_mem) | kst_anyIn); (case kr => rfl); (case kc => kst_facts); (case kd => kst_all); (case ke => kst_same); (case kf => kst_p)) | ((refine' kst_end _ ?f1 ?f2 ?ka ?kb ?kr ?kc ?kd ?ke ?kf); (case f1 => assumption); (case f2 => exact nE'); (case ka => first | kst_in | kst_inAny); (case kb => first | (intro p hp; kst_mem) | kst_anyIn); (case kr => rfl); (case kc => kst_facts); (case kd => kst_all); (case ke => kst_same); (case kf => kst_p)) | ((refine' kst_end ⟨_, _⟩ ?f1 ?f2 ?ka ?kb ?kr ?kc ?kd ?ke ?kf); (case f1 => assumption); (case f2 => exact nE'); (case ka => first | kst_in | kst_inAny); (case kb => first | (intro p hp; kst_mem) | kst_anyIn); (case kr => rfl); (case kc => kst_facts); (case kd => kst_all); (case ke => kst_same); (case kf => kst_p)) | ((refine' kst_end ⟨_, _, _, _, _, _, _, _⟩ ?f1 ?f2 ?ka ?kb ?kr ?kc ?kd ?ke ?kf); (case f1 => assumption); (case f2 => exact nE'); (case ka => first | kst_in | kst_inAny); (case kb => first | (intro p hp; kst_mem) | kst_anyIn); (case kr => rfl); (case kc => kst_facts); (case kd => kst_all); (case ke => kst_same); (case kf => kst_p)))
  k_with "mKsw" => ((rename News _ _ _ _ => nE'); (try simp only [List.push_toArray] at nE'); first | ((refine' ksw_end ⟨_, _, _, _, _, _, _, _, _, _⟩ ?f1 ?f2 ?ka ?kc ?kd ?ke ?kf ?kg); (case f1 => assumption); (case f2 => exact nE'); (case kd => kst_all); (case ka => first | kst_in | kst_inAny); (case kc => kst_facts); (case ke => ksw_same); (case kf => kst_p); (case kg => ksw_less)) | ((refine' ksw_end ⟨_, _⟩ ?f1 ?f2 ?ka ?kc ?kd ?ke ?kf ?kg); (case f1 => assumption); (case f2 => exact nE'); (case kd => kst_all); (case ka => first | kst_in | kst_inAny); (case kc => kst_facts); (case ke => ksw_same); (case kf => kst_p); (case kg => ksw_less)) | ((refine' ksw_end ⟨_, _, _, _⟩ ?f1 ?f2 ?ka ?kc ?kd ?ke ?kf ?kg); (case f1 => assumption); (case f2 => exact nE'); (case kd => kst_all); (case ka => first | kst_in | kst_inAny); (case kc => kst_facts); (case ke => ksw_same); (case kf => kst_p); (case kg => ksw_less)))
  k_with "mMod" => (refine step_modr (by lia) ?_; intro rm hrm hrm0 hrm1)
  k_with "mWhile" => (k_while (fun (_ : List Int) (x : Int) (y : Int) => (0 ≤ x ∧ 0 ≤ y) ∧ GcdP (Int.gcd a0 b0) x y) (fun (_ : List Int) (x : Int) (y : Int) => (x + y).toNat) "a" "b")
  k_with "state" => first | exact ⟨⟨ha0, hb0⟩, rfl⟩ | exact ⟨⟨hrm0, by assumption⟩, hrm ▸ gcd_turn1 (by assumption)⟩ | exact ⟨⟨by assumption, hrm0⟩, hrm ▸ gcd_turn2 (by assumption)⟩
  w_top off
  unfold Call
  intro mean mg mb dp un gd cn cs a1 ccd cl outer A₀ base h₀ L m s Q E B F X N T hk hd hu hret
  skip
  refine wpAny_call ?_
  k_dflt cell_enter
  k_steps
  · refine hret _ _ _ _ (by assumption) (cb_drop (by assumption) (by kst_in)) ⟨rfl, _, congrArg (fun z => Value.int z _) (gcd_end (by assumption) (by assumption) (by assumption) (by lia))⟩
  · refine hret _ _ _ _ (by assumption) (cb_drop (by assumption) (by kst_in)) ⟨rfl, _, congrArg (fun z => Value.int z _) (gcd_end (by assumption) (by assumption) (by assumption) (by lia))⟩
end
section
theorem c_row (wd : World) (news : Led) (v w : Int) (tv tw : Tok) (hw : 3 ≤ w) (hw2 : w ≤ 9)(β : Int) (hβ : (2 : Int) ^ w.toNat = β) (hβ1 : 8 ≤ β) (hβ2 : β ≤ 512) (hv0 : 0 ≤ v) (hv1 : v < 8589934592) :
    Call wd 201 1 [.int v tv, .int w tw] news (fun r news' => ∃ (b : Addr) (vs : List Value) (nn : Nat) (f : List Int), news' = (b, listOf (List.toArray vs) nn) :: news ∧ r = .ref b ∧ AllLt b news ∧ IntsAre vs f ∧ f.length ≤ 11 ∧ Row β v f) := by
  have hdum : IntsAre [] [] := .nil
  k_with_none
  k_with "mInv" => ((rename News _ _ _ _ => nE'); (try simp only [List.push_toArray] at nE'); first | ((refine' kst_end ⟨_, _, _, _, _⟩ ?f1 ?f2 ?ka ?kb ?kr ?kc ?kd ?ke ?kf); (case f1 => assumption); (case f2 => exact nE'); (case ka => first | kst_in | kst_inAny); (case kb => first | (intro p hp; kst_mem) | kst_anyIn); (case kr => rfl); (case kc => kst_facts); (case kd => kst_all); (case ke => kst_same); (case kf => kst_p)) | ((refine' kst_end ⟨_, _, _, _, _, _⟩ ?f1 ?f2 ?ka ?kb ?kr ?kc ?kd ?ke ?kf); (case f1 => assumption); (case f2 => exact nE'); (case ka => first | kst_in | kst_inAny); (case kb => first | (intro p hp; kst_mem) | kst_anyIn); (case kr => rfl); (case kc => kst_facts); (case kd => kst_all); (case ke => kst_same); (case kf => kst_p)) | ((refine' kst_end ⟨_, _, _⟩ ?f1 ?f2 ?ka ?kb ?kr ?kc ?kd ?ke ?kf); (case f1 => assumption); (case f2 => exact nE'); (case ka => first | kst_in | kst_inAny); (case kb => first | (intro p hp; kst_mem) | kst_anyIn); (case kr => rfl); (case kc => kst_facts); (case kd => kst_all); (case ke => kst_same); (case kf => kst_p)) | ((refine' kst_end _ ?f1 ?f2 ?ka ?kb ?kr ?kc ?kd ?ke ?kf); (case f1 => assumption); (case f2 => exact nE'); (case ka => first | kst_in | kst_inAny); (case kb => first | (intro p hp; kst_mem) | kst_anyIn); (case kr => rfl); (case kc => kst_facts); (case kd => kst_all); (case ke => kst_same); (case kf => kst_p)) | ((refine' kst_end ⟨_, _⟩ ?f1 ?f2 ?ka ?kb ?kr ?kc ?kd ?ke ?kf); (case f1 => assumption); (case f2 => exact nE'); (case ka => first | kst_in | kst_inAny); (case kb => first | (intro p hp; kst_mem) | kst_anyIn); (case kr => rfl); (case kc => kst_facts); (case kd => kst_all); (case ke => kst_same); (case kf => kst_p)) | ((refine' kst_end ⟨_, _, _, _, _, _, _, _⟩ ?f1 ?f2 ?ka ?kb ?kr ?kc ?kd ?ke ?kf); (case f1 => assumption); (case f2 => exact nE'); (case ka => first | kst_in | kst_inAny); (case kb => first | (intro p hp; kst_mem) | kst_anyIn); (case kr => rfl); (case kc => kst_facts); (case kd => kst_all); (case ke => kst_same); (case kf => kst_p)))
  k_with "mKsw" => ((rename News _ _ _ _ => nE'); (try simp only [List.push_toArray] at nE'); first | ((refine' ksw_end ⟨_, _, _, _, _, _, _, _, _, _⟩ ?f1 ?f2 ?ka ?kc ?kd ?ke ?kf ?kg); (case f1 => assumption); (case f2 => exact nE'); (case kd => kst_all); (case ka => first | kst_in | kst_inAny); (case kc => kst_facts); (case ke => ksw_same); (case kf => kst_p); (case kg => ksw_less)) | ((refine' ksw_end ⟨_, _⟩ ?f1 ?f2 ?ka ?kc ?kd ?ke ?kf ?kg); (case f1 => assumption); (case f2 => exact nE'); (case kd => kst_all); (case ka => first | kst_in | kst_inAny); (case kc => kst_facts); (case ke => ksw_same); (case kf => kst_p); (case kg => ksw_less)) | ((refine' ksw_end ⟨_, _, _, _⟩ ?f1 ?f2 ?ka ?kc ?kd ?ke ?kf ?kg); (case f1 => assumption); (case f2 => exact nE'); (case kd => kst_all); (case ka => first | kst_in | kst_inAny); (case kc => kst_facts); (case ke => ksw_same); (case kf => kst_p); (case kg => ksw_less)))
  k_with "mLS" => (refine step_ls β (by lia) (by lia) (by lia) (by rw [Int.one_mul, hβ]) ?_)
  k_with "mMod" => (refine step_fm _ (by lia) (Int.fmod_eq_emod_of_nonneg _ (by lia)) ?_)
  k_with "mDiv" => (refine step_fd _ (by lia) (by lia) (Int.fdiv_eq_ediv_of_nonneg _ (by lia)) ?_)
  k_with "mWhile" => (k_while (fun (_ : List Int) (x : Int) (f : List Int) => (0 ≤ x ∧ f.length ≤ 11) ∧ RowP β v x f) (fun (_ : List Int) (x : Int) (f : List Int) => x.toNat) "number" "found")
  k_with "state" => first | exact rowp_start (by first | rfl | simp) hv0 | exact rowp_turn hβ1 hv1 (by assumption) (by assumption)
  k_with "measure" => exact rowp_less hβ1 (by assumption)
  w_top off
  unfold Call
  intro mean mg mb dp un gd cn cs a1 ccd cl outer A₀ base h₀ L m s Q E B F X N T hk hd hu hret
  skip
  refine wpAny_call ?_
  k_dflt cell_enter
  k_steps
  refine hret _ _ _ _ (by assumption) (cb_drop (by assumption) (by kst_in)) ⟨_, _, _, _, rfl, rfl, by first | assumption | exact allLt_of (by assumption) | (apply And.right; assumption) | (apply And.right; apply And.right; assumption) | (apply And.right; apply And.right; apply And.right; assumption) | (apply And.right; apply And.right; apply And.right; apply And.right; assumption) | (apply And.right; apply And.right; apply And.right; apply And.right; apply And.right; assumption) | (apply And.right; apply And.right; apply And.right; apply And.right; apply And.right; apply And.right; assumption) | (apply And.right; apply And.right; apply And.right; apply And.right; apply And.right; apply And.right; apply And.right; assumption) | (apply And.right; apply And.right; apply And.right; apply And.right; apply And.right; apply And.right; apply And.right; apply And.right; assumption) | (apply And.right; apply And.right; apply And.right; apply And.right; apply And.right; apply And.right; apply And.right; apply And.right; apply And.right; assumption) | (apply And.right; apply And.right; apply And.right; apply And.right; apply And.right; apply And.right; apply And.right; apply And.right; apply And.right; apply And.right; assumption) | (apply And.right; apply And.right; apply And.right; apply And.right; apply And.right; apply And.right; apply And.right; apply And.right; apply And.right; apply And.right; apply And.right; assumption), by assumption, by assumption, rowp_end (by assumption) (by lia)⟩
end
section
theorem c_small (wd : World) (a b : Addr) (us vs : List Value) (ns : List Int) (y : Int) (n k : Nat) (news : Led) (w : Int) (tw : Tok) (hm : (a, listOf us.toArray n) ∈ news) (hm2 : (b, listOf vs.toArray k) ∈ news) (hi : IntsAre us ns) (hj : IntsAre vs [y]) (hlen : ns.length < 1000) (hw : 3 ≤ w) (hw2 : w ≤ 9)(β : Int) (hβ : (2 : Int) ^ w.toNat = β) (hβ1 : 8 ≤ β) (hβ2 : β ≤ 512) (hy0 : 0 < y) (hy1 : y < β) (hns : Dig β ns) :
    Call wd 147 3 [.ref a, .ref b, .int w tw] news (fun r news' => ∃ (t q c : Addr) (vq vr : List Value) (nq nr : Nat) (f : List Int), news' = (t, { cls := .type "tuple", data := .seq #[.ref q, .ref c] }) :: (c, listOf (List.toArray vr) nr) :: (q, listOf (List.toArray vq) nq) :: news ∧ r = .ref t ∧ AllLt c news ∧ IntsAre vr f ∧ f.length ≤ 1 ∧ Row β (val β ns % y) f) := by
  have hg : [y].getD (Int.toNat 0) 0 = y := rfl
  k_with_none
  k_with "mInv" => ((rename News _ _ _ _ => nE'); (try simp only [List.push_toArray] at nE'); first | ((refine' kst_end ⟨_, _, _, _, _⟩ ?f1 ?f2 ?ka ?kb ?kr ?kc ?kd ?ke ?kf); (case f1 => assumption); (case f2 => exact nE'); (case ka => first | kst_in | kst_inAny); (case kb => first | (intro p hp; kst_mem) | kst_anyIn); (case kr => rfl); (case kc => kst_facts); (case kd => kst_all); (case ke => kst_same); (case kf => kst_p)) | ((refine' kst_end ⟨_, _, _, _, _, _⟩ ?f1 ?f2 ?ka ?kb ?kr ?kc ?kd ?ke ?kf); (case f1 => assumption); (case f2 => exact nE'); (case ka => first | kst_in | kst_inAny); (case kb => first | (intro p hp; kst_mem) | kst_anyIn); (case kr => rfl); (case kc => kst_facts); (case kd => kst_all); (case ke => kst_same); (case kf => kst_p)) | ((refine' kst_end ⟨_, _, _⟩ ?f1 ?f2 ?ka ?kb ?kr ?kc ?kd ?ke ?kf); (case f1 => assumption); (case f2 => exact nE'); (case ka => first | kst_in | kst_inAny); (case kb => first | (intro p hp; kst_mem) | kst_anyIn); (case kr => rfl); (case kc => kst_facts); (case kd => kst_all); (case ke => kst_same); (case kf => kst_p)) | ((refine' kst_end _ ?f1 ?f2 ?ka ?kb ?kr ?kc ?kd ?ke ?kf); (case f1 => assumption); (case f2 => exact nE'); (case ka => first | kst_in | kst_inAny); (case kb => first | (intro p hp; kst_mem) | kst_anyIn); (case kr => rfl); (case kc => kst_facts); (case kd => kst_all); (case ke => kst_same); (case kf => kst_p)) | ((refine' kst_end ⟨_, _⟩ ?f1 ?f2 ?ka ?kb ?kr ?kc ?kd ?ke ?kf); (case f1 => assumption); (case f2 => exact nE'); (case ka => first | kst_in | kst_inAny); (case kb => first | (intro p hp; kst_mem) | kst_anyIn); (case kr => rfl); (case kc => kst_facts); (case kd => kst_all); (case ke => kst_same); (case kf => kst_p)) | ((refine' kst_end ⟨_, _, _, _, _, _, _, _⟩ ?f1 ?f2 ?ka ?kb ?kr ?kc ?kd ?ke ?kf); (case f1 => assumption); (case f2 => exact nE'); (case ka => first | kst_in | kst_inAny); (case kb => first | (intro p hp; kst_mem) | kst_anyIn); (case kr => rfl); (case kc => kst_facts); (case kd => kst_all); (case ke => kst_same); (case kf => kst_p)))
  k_with "mCall" => (k_dflt (refine' use_call (c_divlimb wd _ _ _ _ _ _ _ _ _ ?hm ?hi ?hl hw hw2 β hβ hβ1 hβ2 ?h1 ?h2 ?h3) ?B ?F ?X ?N ?T ?K ?d ?u ?_; (case B => k_asm); (case F => k_asm); (case X => k_asm); (case N => k_asm); (case T => k_asm); (case K => first | exact rfl | assumption); (case d => first | exact room_d hd (by decide) | ktr_room); (case u => first | exact room_u3 hu (by decide) | exact room_u4 hu (by decide) | exact room_u5 hu (by decide) | decide | ktr_units); (case hm => first | k_mem | k_memK | kst_mem); (case hi => assumption); (case hl => first | assumption | lia); (case h1 => lia); (case h2 => lia); (case h3 => assumption)); k_whole; intro r9 nw9 h9 tk9 F9 N9 hp9; (try dsimp only at hp9); obtain ⟨ta, qa, vq, nq, tr, e9, e8, l9, l8⟩ := hp9; subst e9; subst e8; (try simp only [AllLt, and_true] at l9 l8); (all_goals ((try dsimp only); (try k_sweep); (try k_fold))))
  w_top off
  unfold Call
  intro mean mg mb dp un gd cn cs a1 ccd cl outer A₀ base h₀ L m s Q E B F X N T hk hd hu hret
  replace N := news_dup N hm2
  replace N := news_dup N (List.mem_cons_of_mem _ hm)
  refine wpAny_call ?_
  k_dflt cell_enter
  k_steps
  · rename 0 < _ => hpos
    refine hret _ _ _ _ (by assumption) (cb_drop (by assumption) (by kst_in)) ⟨_, _, _, _, [_], _, _, _, rfl, rfl, by first | assumption | (apply And.right; assumption) | (apply And.right; apply And.right; assumption) | (apply And.right; apply And.right; apply And.right; assumption) | (apply And.right; apply And.right; apply And.right; apply And.right; assumption) | (apply And.right; apply And.right; apply And.right; apply And.right; apply And.right; assumption) | (apply And.right; apply And.right; apply And.right; apply And.right; apply And.right; apply And.right; assumption) | (apply And.right; apply And.right; apply And.right; apply And.right; apply And.right; apply And.right; apply And.right; assumption) | (apply And.right; apply And.right; apply And.right; apply And.right; apply And.right; apply And.right; apply And.right; apply And.right; assumption) | (apply And.right; apply And.right; apply And.right; apply And.right; apply And.right; apply And.right; apply And.right; apply And.right; apply And.right; assumption) | (apply And.right; apply And.right; apply And.right; apply And.right; apply And.right; apply And.right; apply And.right; apply And.right; apply And.right; apply And.right; assumption) | (apply And.right; apply And.right; apply And.right; apply And.right; apply And.right; apply And.right; apply And.right; apply And.right; apply And.right; apply And.right; apply And.right; assumption), .cons _ _ .nil, Nat.le_refl _, row_one hpos (by have := Int.emod_lt_of_pos (val β ns) hy0; exact Int.lt_trans this hy1)⟩
  · rename ¬ 0 < _ => hpos
    refine hret _ _ _ _ (by assumption) (cb_drop (by assumption) (by kst_in)) ⟨_, _, _, _, [], _, _, _, rfl, rfl, by first | assumption | (apply And.right; assumption) | (apply And.right; apply And.right; assumption) | (apply And.right; apply And.right; apply And.right; assumption) | (apply And.right; apply And.right; apply And.right; apply And.right; assumption) | (apply And.right; apply And.right; apply And.right; apply And.right; apply And.right; assumption) | (apply And.right; apply And.right; apply And.right; apply And.right; apply And.right; apply And.right; assumption) | (apply And.right; apply And.right; apply And.right; apply And.right; apply And.right; apply And.right; apply And.right; assumption) | (apply And.right; apply And.right; apply And.right; apply And.right; apply And.right; apply And.right; apply And.right; apply And.right; assumption) | (apply And.right; apply And.right; apply And.right; apply And.right; apply And.right; apply And.right; apply And.right; apply And.right; apply And.right; assumption) | (apply And.right; apply And.right; apply And.right; apply And.right; apply And.right; apply And.right; apply And.right; apply And.right; apply And.right; apply And.right; assumption) | (apply And.right; apply And.right; apply And.right; apply And.right; apply And.right; apply And.right; apply And.right; apply And.right; apply And.right; apply And.right; apply And.right; assumption), .nil, Nat.zero_le _, row_nil (by have := Int.emod_nonneg (val β ns) (show y ≠ 0 by lia); rw [hg] at hpos; lia)⟩
end
section
theorem c_rows (wd : World) (r bb : Addr) (us vs : List Value) (R Bs : List Int) (n k : Nat) (news : Led) (g : Obj → Led) (w : Int) (tw : Tok) (U : UpdF r (listOf us.toArray n) news g) (hm : (bb, listOf vs.toArray k) ∈ news) (hne : bb ≠ r) (hi : IntsAre us R) (hj : IntsAre vs Bs) (hlen : R.length < 1000) (hw : 3 ≤ w) (hw2 : w ≤ 9)(β : Int) (hβ : (2 : Int) ^ w.toNat = β) (hβ1 : 8 ≤ β) (hβ2 : β ≤ 512) (hB2 : 2 ≤ Bs.length) (hBR : Bs.length < R.length) (hR : Dig β R) (hB : Dig β Bs) (htop : Bs.getD (Bs.length - 1) 0 ≠ 0) (hval : val β R < val β Bs * β ^ (R.length - Bs.length)) :
    Call wd 175 2 [.ref r, .ref bb, .int w tw] news (fun rv news' => ∃ qa vq nq us' R' n', news' = (qa, listOf (List.toArray vq) nq) :: g (listOf (List.toArray us') n') ∧ rv = .ref qa ∧ (∃ Y, IntsAre vq Y ∧ Y.length < 1000) ∧ IntsAre us' R' ∧ Dig β R' ∧ R'.length = R.length ∧ val β R' = val β R % val β Bs) := by
  have htop1 : 1 ≤ Bs.getD ((Bs.length : Int) - 1).toNat 0 := by
    have h := hB.getD (by lia) (Bs.length - 1)
    rw [show ((Bs.length : Int) - 1).toNat = Bs.length - 1 from by lia]; lia
  obtain ⟨own, rst, e1, e2, u1, u2⟩ := U.split
  have hm3 : (bb, listOf vs.toArray k) ∈ own ++ rst := by
    rw [e1] at hm
    rcases List.mem_append.mp hm with h | h
    · exact List.mem_append_left _ h
    · rcases List.mem_cons.mp h with h | h
      · exact absurd (congrArg Prod.fst h) hne
      · exact List.mem_append_right _ h
  have htl : ∀ p ∈ own ++ rst, p.1 ≠ r := fun p hp => (List.mem_append.mp hp).elim (u1 p) (u2 p)
  have hsub : ∀ p ∈ (r, listOf us.toArray n) :: (bb, listOf vs.toArray k) :: (own ++ rst), p ∈ news := by
    intro p hp
    rw [e1]
    rcases List.mem_cons.mp hp with rfl | hp
    · exact List.mem_append_right _ (.head _)
    · rcases List.mem_cons.mp hp with rfl | hp
      · exact e1 ▸ hm
      · exact (List.mem_append.mp hp).elim (fun h => List.mem_append_left _ h) (fun h => List.mem_append_right _ (.tail _ h))
  have hback : ∀ (o' : Obj) (b : Addr), b = bb → ∀ p ∈ g o', p ∈ (r, o') :: (own ++ rst) := by
    intro o' b _ p hp
    rw [e2] at hp
    rcases List.mem_append.mp hp with hp | hp
    · exact .tail _ (List.mem_append_left _ hp)
    · rcases List.mem_cons.mp hp with rfl | hp
      · exact .head _
      · exact .tail _ (List.mem_append_right _ hp)
  generalize own ++ rst = tl at *
  k_with_none
  k_with "mInv" => ((rename News _ _ _ _ => nE'); (try simp only [List.push_toArray] at nE'); first | ((refine' kst_end ⟨_, _, _, _, _⟩ ?f1 ?f2 ?ka ?kb ?kr ?kc ?kd ?ke ?kf); (case f1 => assumption); (case f2 => exact nE'); (case ka => first | kst_in | kst_inAny); (case kb => first | (intro p hp; kst_mem) | kst_anyIn); (case kr => rfl); (case kc => kst_facts); (case kd => kst_all); (case ke => kst_same); (case kf => kst_p)) | ((refine' kst_end ⟨_, _, _, _, _, _⟩ ?f1 ?f2 ?ka ?kb ?kr ?kc ?kd ?ke ?kf); (case f1 => assumption); (case f2 => exact nE'); (case ka => first | kst_in | kst_inAny); (case kb => first | (intro p hp; kst_mem) | kst_anyIn); (case kr => rfl); (case kc => kst_facts); (case kd => kst_all); (case ke => kst_same); (case kf => kst_p)) | ((refine' kst_end ⟨_, _, _⟩ ?f1 ?f2 ?ka ?kb ?kr ?kc ?kd ?ke ?kf); (case f1 => assumption); (case f2 => exact nE'); (case ka => first | kst_in | kst_inAny); (case kb => first | (intro p hp; kst_mem) | kst_anyIn); (case kr => rfl); (case kc => kst_facts); (case kd => kst_all); (case ke => kst_same); (case kf => kst_p)) | ((refine' kst_end _ ?f1 ?f2 ?ka ?kb ?kr ?kc ?kd ?ke ?kf); (case f1 => assumption); (case f2 => exact nE'); (case ka => first | kst_in | kst_inAny); (case kb => first | (intro p hp; kst_mem) | kst_anyIn); (case kr => rfl); (case kc => kst_facts); (case kd => kst_all); (case ke => kst_same); (case kf => kst_p)) | ((refine' kst_end ⟨_, _⟩ ?f1 ?f2 ?ka ?kb ?kr ?kc ?kd ?ke ?kf); (case f1 => assumption); (case f2 => exact nE'); (case ka => first | kst_in | kst_inAny); (case kb => first | (intro p hp; kst_mem) | kst_anyIn); (case kr => rfl); (case kc => kst_facts); (case kd => kst_all); (case ke => kst_same); (case kf => kst_p)) | ((refine' kst_end ⟨_, _, _, _, _, _, _, _⟩ ?f1 ?f2 ?ka ?kb ?kr ?kc ?kd ?ke ?kf); (case f1 => assumption); (case f2 => exact nE'); (case ka => first | kst_in | kst_inAny); (case kb => first | (intro p hp; kst_mem) | kst_anyIn); (case kr => rfl); (case kc => kst_facts); (case kd => kst_all); (case ke => kst_same); (case kf => kst_p)))
  k_with "mCall" => (k_dflt (refine' use_call (c_guess wd _ _ _ _ _ _ _ _ _ _ _ _ _ ?hm ?hi hw hw2 β hβ hβ1 hβ2 ?g0 ?g1 ?g2 ?g3 ?g4 ?g5 ?g6 ?g7 ?g8 ?g9) ?B ?F ?X ?N ?T ?K ?d ?u ?_; (case B => k_asm); (case F => k_asm); (case X => k_asm); (case N => k_asm); (case T => k_asm); (case K => first | exact rfl | assumption); (case d => first | exact room_d hd (by decide) | ktr_room); (case u => first | exact room_u3 hu (by decide) | exact room_u4 hu (by decide) | exact room_u5 hu (by decide) | decide | ktr_units); (case hm => first | k_mem | k_memK | kst_mem); (case hi => (refine slice3 ?_ ?_ (by assumption) <;> lia)); (case g0 => exact (Dig.getD (by assumption) (by lia) _).1); (case g1 => exact (Dig.getD (by assumption) (by lia) _).2); (case g2 => exact (Dig.getD (by assumption) (by lia) _).1); (case g3 => exact (Dig.getD (by assumption) (by lia) _).2); (case g4 => exact (Dig.getD (by assumption) (by lia) _).1); (case g5 => exact (Dig.getD (by assumption) (by lia) _).2); (case g6 => exact htop1); (case g7 => exact (Dig.getD hB (by lia) _).2); (case g8 => exact (Dig.getD hB (by lia) _).1); (case g9 => exact (Dig.getD hB (by lia) _).2)); k_whole; intro r9 nw9 h9 tk9 F9 N9 hp9; (try dsimp only at hp9); obtain ⟨e9, q9, t9, e8, y0, y1, y2⟩ := hp9; subst e9; subst e8; (rename List.length (List.take _ _) = _ => hz1; clear hz1); (rename List.length (List.take _ _) ≤ _ => hz2; clear hz2); (rename IntsAre _ (List.take _ _) => hz3; clear hz3); (all_goals ((try dsimp only); (try k_sweep); (try k_fold))))
  k_with "mCall" => (k_dflt (refine' use_call (c_takeaway wd _ _ _ _ _ _ _ _ _ _ _ _ _ _ _ _ ?U ?hm ?hne ?hi ?hj ?hl ?hl2 hw hw2 β hβ hβ1 hβ2 ?p0 ?p1 ?dR hB ?z0 ?z1) ?B ?F ?X ?N ?T ?K ?d ?u ?_; (case B => k_asm); (case F => k_asm); (case X => k_asm); (case N => k_asm); (case T => k_asm); (case K => first | exact rfl | assumption); (case d => first | exact room_d hd (by decide) | ktr_room); (case u => first | exact room_u3 hu (by decide) | exact room_u4 hu (by decide) | exact room_u5 hu (by decide) | decide | ktr_units); (case U => k_updF); (case hm => first | k_mem | k_memK | kst_mem); (case hne => assumption); (case hi => assumption); (case hj => assumption); (case hl => lia); (case hl2 => lia); (case p0 => lia); (case p1 => lia); (case dR => assumption); (case z0 => assumption); (case z1 => assumption)); k_whole; intro r9 nw9 h9 tk9 F9 N9 hp9; (try dsimp only at hp9); obtain ⟨us9, R9, n9, e9, t9, x1, x2, x3, x4, x5, x6, x7⟩ := hp9; subst x1; subst x2; (try dsimp only at N9); (rcases x4 with x4 | x4 <;> subst x4); (all_goals ((try dsimp only); (try k_sweep); (try k_fold))))
  k_with "mCall" => (k_dflt (refine' use_call (c_putback wd _ _ _ _ _ _ _ _ _ _ _ _ _ _ ?U ?hm ?hne ?hi ?hj ?hl ?hl2 hw hw2 β hβ hβ1 hβ2 ?p0 ?p1 ?dR hB) ?B ?F ?X ?N ?T ?K ?d ?u ?_; (case B => k_asm); (case F => k_asm); (case X => k_asm); (case N => k_asm); (case T => k_asm); (case K => first | exact rfl | assumption); (case d => first | exact room_d hd (by decide) | ktr_room); (case u => first | exact room_u3 hu (by decide) | exact room_u4 hu (by decide) | exact room_u5 hu (by decide) | decide | ktr_units); (case U => k_updF); (case hm => first | k_mem | k_memK | kst_mem); (case hne => assumption); (case hi => assumption); (case hj => assumption); (case hl => lia); (case hl2 => lia); (case p0 => lia); (case p1 => lia); (case dR => assumption)); k_whole; intro r9 nw9 h9 tk9 F9 N9 hp9; (try dsimp only at hp9); obtain ⟨us8, R8, n8, w1, w2, w3, w4, w5, w6⟩ := hp9; subst w1; subst w2; (try dsimp only at N9); (all_goals ((try dsimp only); (try k_sweep); (try k_fold))))
  k_with "state" => first | exact rows_start hR (by first | (simp; done) | (simp; lia)) hval | exact rows_turn0 (by lia) hB hB2 htop1 (by assumption) (by assumption) (by assumption) (by assumption) kEq kLt (by assumption) (by assumption) y2 (by assumption) (by assumption) x7 | exact rows_turn1 (by lia) hB hB2 htop1 (by assumption) (by assumption) (by assumption) (by assumption) kEq kLt (by assumption) (by assumption) y2 x5 x6 x7 w4 w5 w6
  k_with "pyIter ref" => k_state_given ["b"] (fun (_ : List Int) (pre : List Int) (X : List Int) (Y : List Int) => (Dig β X ∧ X.length = R.length ∧ Y.length = R.length - Bs.length) ∧ RowsP β R Bs pre.length X) "rest" "quotient"
  w_top off
  unfold Call
  intro mean mg mb dp un gd cn cs a1 ccd cl outer A₀ base h₀ L m s Q E B F X N T hk hd hu hret
  replace N := cb_drop N hsub
  refine wpAny_call ?_
  k_dflt cell_enter
  k_steps

  rename RowsP _ _ _ _ _ => hend
  rw [downKs_length] at hend
  refine hret _ _ _ _ (by assumption) (rows_ledger (by assumption) (hback _ bb rfl)) ⟨_, _, _, _, _, _, rfl, rfl, ⟨_, by assumption, by lia⟩, by assumption, by assumption, by assumption, rows_end (by lia) (by assumption) hend (by lia) (by lia)⟩
end
section
local macro_rules | `(tactic| walk_at "subscriptTail Name Slice ref ref") => `(tactic| k_dflt (k_extra "mSl"))
theorem c_school (wd : World) (a b : Addr) (us vs : List Value) (xs ys : List Int) (n k : Nat) (news : Led) (w : Int) (tw : Tok) (hm : (a, listOf us.toArray n) ∈ news) (hm2 : (b, listOf vs.toArray k) ∈ news) (hi : IntsAre us xs) (hj : IntsAre vs ys) (hlen : xs.length < 500) (hlen2 : ys.length < 500) (hw : 3 ≤ w) (hw2 : w ≤ 9)(β : Int) (hβ : (2 : Int) ^ w.toNat = β) (hβ1 : 8 ≤ β) (hβ2 : β ≤ 512) (va vb : Int) (hA : Row β va xs) (hBr : Row β vb ys) (hpos : 0 < vb) :
    Call wd 182 4 [.ref a, .ref b, .int w tw] news (fun r news' => ∃ (t q c : Addr) (vr : List Value) (nr : Nat) (f : List Int), news' = (t, { cls := .type "tuple", data := .seq #[.ref q, .ref c] }) :: (c, listOf (List.toArray vr) nr) :: news ∧ r = .ref t ∧ IntsAre vr f ∧ Row β (va % vb) f) := by
  have hyl := (hBr.pos (by lia)).mp hpos
  have kMark := kstMark
  k_with_none
  k_with "mInv" => ((rename News _ _ _ _ => nE'); (try simp only [List.push_toArray] at nE'); first | ((refine' kst_end ⟨_, _, _, _, _⟩ ?f1 ?f2 ?ka ?kb ?kr ?kc ?kd ?ke ?kf); (case f1 => assumption); (case f2 => exact nE'); (case ka => first | kst_in | kst_inAny); (case kb => first | (intro p hp; kst_mem) | kst_anyIn); (case kr => rfl); (case kc => kst_facts); (case kd => kst_all); (case ke => kst_same); (case kf => kst_p)) | ((refine' kst_end ⟨_, _, _, _, _, _⟩ ?f1 ?f2 ?ka ?kb ?kr ?kc ?kd ?ke ?kf); (case f1 => assumption); (case f2 => exact nE'); (case ka => first | kst_in | kst_inAny); (case kb => first | (intro p hp; kst_mem) | kst_anyIn); (case kr => rfl); (case kc => kst_facts); (case kd => kst_all); (case ke => kst_same); (case kf => kst_p)) | ((refine' kst_end ⟨_, _, _⟩ ?f1 ?f2 ?ka ?kb ?kr ?kc ?kd ?ke ?kf); (case f1 => assumption); (case f2 => exact nE'); (case ka => first | kst_in | kst_inAny); (case kb => first | (intro p hp; kst_mem) | kst_anyIn); (case kr => rfl); (case kc => kst_facts); (case kd => kst_all); (case ke => kst_same); (case kf => kst_p)) | ((refine' kst_end _ ?f1 ?f2 ?ka ?kb ?kr ?kc ?kd ?ke ?kf); (case f1 => assumption); (case f2 => exact nE'); (case ka => first | kst_in | kst_inAny); (case kb => first | (intro p hp; kst_mem) | kst_anyIn); (case kr => rfl); (case kc => kst_facts); (case kd => kst_all); (case ke => kst_same); (case kf => kst_p)) | ((refine' kst_end ⟨_, _⟩ ?f1 ?f2 ?ka ?kb ?kr ?kc ?kd ?ke ?kf); (case f1 => assumption); (case f2 => exact nE'); (case ka => first | kst_in | kst_inAny); (case kb => first | (intro p hp; kst_mem) | kst_anyIn); (case kr => rfl); (case kc => kst_facts); (case kd => kst_all); (case ke => kst_same); (case kf => kst_p)) | ((refine' kst_end ⟨_, _, _, _, _, _, _, _⟩ ?f1 ?f2 ?ka ?kb ?kr ?kc ?kd ?ke ?kf); (case f1 => assumption); (case f2 => exact nE'); (case ka => first | kst_in | kst_inAny); (case kb => first | (intro p hp; kst_mem) | kst_anyIn); (case kr => rfl); (case kc => kst_facts); (case kd => kst_all); (case ke => kst_same); (case kf => kst_p)))
  k_with "mSl" => (k_here; refine' kmk_slice_ints ?zF ?zN ?zl ?zp ?zq ?zi ?zm ?zc ?_ ?zs ?zt ?zz; (case zF => k_asm); (case zN => k_asm); (case zl => kmk_list); (case zp => kmk_part); (case zq => kmk_part); (case zi => exact hi); (case zm => exact kmk_all hi); (case zc => kmk_len); (case zs => with_unfolding_all rfl); (case zt => kmk_pure); (case zz => kmk_size); intro D' ws' h' F' N' l1 hI' hC' hL'; (try simp only [Int.reduceNeg, Int.neg_neg, Int.reduceToNat] at hI' hC' hL'); (try k_lt l1); (try k_sweep))
  k_with "mCall" => (k_dflt (refine' use_call (c_compare wd _ _ _ _ _ _ _ _ _ ?hm ?hm2 ?hi ?hj ?hl ?hl2 β va vb ?b1 hA hBr) ?B ?F ?X ?N ?T ?K ?d ?u ?_; (case B => k_asm); (case F => k_asm); (case X => k_asm); (case N => k_asm); (case T => k_asm); (case K => first | exact rfl | assumption); (case d => first | exact room_d hd (by decide) | ktr_room); (case u => first | exact room_u3 hu (by decide) | exact room_u4 hu (by decide) | exact room_u5 hu (by decide) | decide | ktr_units); (case hm => first | k_mem | k_memK | kst_mem); (case hm2 => first | k_mem | k_memK | kst_mem); (case hi => assumption); (case hj => assumption); (case hl => lia); (case hl2 => lia); (case b1 => lia)); k_whole; intro r9 nw9 h9 tk9 F9 N9 hp9; (try dsimp only at hp9); obtain ⟨e9, k9, t9, e8, c9⟩ := hp9; subst e9; subst e8; (have c8 : (k9 < 0 → va < vb) ∧ (¬ k9 < 0 → vb ≤ va) := (by lia)); clear c9; (all_goals ((try dsimp only); (try k_sweep); (try k_fold))))
  k_with "mCall" => (k_dflt (refine' use_call (c_small wd _ _ _ _ _ vb _ _ _ _ _ ?hm ?hm2 ?hi ?hj ?hl hw hw2 β hβ hβ1 hβ2 ?y0 ?y1 ?dn) ?B ?F ?X ?N ?T ?K ?d ?u ?_; (case B => k_asm); (case F => k_asm); (case X => k_asm); (case N => k_asm); (case T => k_asm); (case K => first | exact rfl | assumption); (case d => first | exact room_d hd (by decide) | ktr_room); (case u => first | exact room_u3 hu (by decide) | exact room_u4 hu (by decide) | exact room_u5 hu (by decide) | decide | ktr_units); (case hm => first | k_mem | k_memK | kst_mem); (case hm2 => first | k_mem | k_memK | kst_mem); (case hi => assumption); (case hj => (have h := one_of_len hBr (by lia); rw [h] at hj; exact hj)); (case hl => lia); (case y0 => lia); (case y1 => (have h := hBr.lt (by lia); rw [show ys.length = 1 from by lia, Int.pow_one] at h; exact h)); (case dn => exact hA.dig)); k_whole; intro r9 nw9 h9 tk9 F9 N9 hp9; (try dsimp only at hp9); obtain ⟨t9, q9, d9, vq9, vr9, nq9, nr9, f9, e9, e8, l9, i9, f8, r9w⟩ := hp9; subst e9; subst e8; (try simp only [AllLt, and_true] at l9); (all_goals ((try dsimp only); (try k_sweep); (try k_fold))))
  k_with "mCall" => (k_dflt (refine' use_call (c_bits wd _ _ _ _ _ w _ ?hm hw hw2 ?x0 ?x1) ?B ?F ?X ?N ?T ?K ?d ?u ?_; (case B => k_asm); (case F => k_asm); (case X => k_asm); (case N => k_asm); (case T => k_asm); (case K => first | exact rfl | assumption); (case d => first | exact room_d hd (by decide) | ktr_room); (case u => first | exact room_u3 hu (by decide) | exact room_u4 hu (by decide) | exact room_u5 hu (by decide) | decide | ktr_units); (case hm => first | k_mem | k_memK | kst_mem); (case x0 => (have h := hBr.norm (ys.length - 1) (by lia); have h2 := hBr.dig.getD (by lia) (ys.length - 1); first | lia | (rw [show (-1 + (ys.length : Int)).toNat = ys.length - 1 from by lia]; lia))); (case x1 => (rw [hβ]; exact (hBr.dig.getD (by lia) _).2))); k_whole; intro r9 nw9 h9 tk9 F9 N9 hp9; (try dsimp only at hp9); obtain ⟨e9, kb, tb, e8, g1, g2, g3⟩ := hp9; subst e9; subst e8; obtain ⟨γ, SG⟩ := schoolG hβ hβ1 hBr (by lia) (by first | rfl | (congr 1; lia)) g1 g2 g3; clear g3; have hg1 := SG.lo; have hg2 := SG.hi; obtain ⟨δ, SB⟩ := schoolB hβ hβ2 g1 g2 SG; have hle := row_le hβ1 hA hBr (c8.2 (by assumption)); (all_goals ((try dsimp only); (try k_sweep); (try k_fold))))
  k_with "mCall" => (k_dflt (refine' use_call (c_shl wd _ _ _ _ _ _ w _ _ ?hm ?hi ?hl hw hw2 β hβ hβ1 hβ2 γ SG.g SG.lo SG.hi ?k0 ?k2 ?dn) ?B ?F ?X ?N ?T ?K ?d ?u ?_; (case B => k_asm); (case F => k_asm); (case X => k_asm); (case N => k_asm); (case T => k_asm); (case K => first | exact rfl | assumption); (case d => first | exact room_d hd (by decide) | ktr_room); (case u => first | exact room_u3 hu (by decide) | exact room_u4 hu (by decide) | exact room_u5 hu (by decide) | decide | ktr_units); (case hm => first | k_mem | k_memK | kst_mem); (case hi => assumption); (case hl => lia); (case k0 => lia); (case k2 => lia); (case dn => exact hA.dig)); k_whole; intro r9 nw9 h9 tk9 F9 N9 hp9; (try dsimp only at hp9); obtain ⟨ba, vsa, nna, fa, e9, e8, l9, ia, ya⟩ := hp9; subst e9; subst e8; (try simp only [AllLt, and_true] at l9); have SA := schoolA hA ya; clear ya; have hfa := SA.len; (all_goals ((try dsimp only); (try k_sweep); (try k_fold))))
  k_with "mCall" => (k_dflt (refine' use_call (c_shl wd _ _ _ _ _ _ w _ _ ?hm ?hi ?hl hw hw2 β hβ hβ1 hβ2 γ SG.g SG.lo SG.hi ?k0 ?k2 ?dn) ?B ?F ?X ?N ?T ?K ?d ?u ?_; (case B => k_asm); (case F => k_asm); (case X => k_asm); (case N => k_asm); (case T => k_asm); (case K => first | exact rfl | assumption); (case d => first | exact room_d hd (by decide) | ktr_room); (case u => first | exact room_u3 hu (by decide) | exact room_u4 hu (by decide) | exact room_u5 hu (by decide) | decide | ktr_units); (case hm => first | k_mem | k_memK | kst_mem); (case hi => assumption); (case hl => lia); (case k0 => lia); (case k2 => lia); (case dn => exact hBr.dig)); k_whole; intro r9 nw9 h9 tk9 F9 N9 hp9; (try dsimp only at hp9); obtain ⟨bd, vsd, nnd, fd, e9, e8, l9, idd, yd⟩ := hp9; subst e9; subst e8; (try simp only [AllLt, and_true] at l9); have SD := schoolD hβ1 hBr hyl SG yd; clear yd; have hfd := SD.len; (all_goals ((try dsimp only); (try k_sweep); (try k_fold))))
  k_with "mCall" => (k_dflt (refine' use_call (c_rows wd _ _ _ _ _ _ _ _ _ _ w _ ?U ?hm ?hne ?hi ?hj ?hl hw hw2 β hβ hβ1 hβ2 ?h2 ?hBR ?dR SD.dig SD.top ?hv) ?B ?F ?X ?N ?T ?K ?d ?u ?_; (case B => k_asm); (case F => k_asm); (case X => k_asm); (case N => k_asm); (case T => k_asm); (case K => first | exact rfl | assumption); (case d => first | exact room_d hd (by decide) | ktr_room); (case u => first | exact room_u3 hu (by decide) | exact room_u4 hu (by decide) | exact room_u5 hu (by decide) | decide | ktr_units); (case U => k_updF); (case hm => first | k_mem | k_memK | kst_mem); (case hne => k_ne); (case hi => assumption); (case hj => assumption); (case hl => (rw [(SA.pad (by lia)).2.2]; lia)); (case h2 => (rw [SD.len]; lia)); (case hBR => (rw [(SA.pad (by lia)).2.2, SD.len]; lia)); (case dR => exact (SA.pad (by lia)).1); (case hv => (rw [(SA.pad (by lia)).2.2, (SA.pad (by lia)).2.1, SD.len, SD.eq]; exact school_val (by lia) hA hBr hyl hle (by lia)))); k_whole; intro r9 nw9 h9 tk9 F9 N9 hp9; (try dsimp only at hp9); obtain ⟨qa, vq, nq, usr, R9, nr, e9, e8, ⟨Y9, iY, lY⟩, ir, dr, lr, vr⟩ := hp9; subst e9; subst e8; rw [(SA.pad (by lia)).2.2] at lr; (try dsimp only at N9); (all_goals ((try dsimp only); (try k_sweep); (try k_fold))))
  k_with "mCall" => (k_dflt (refine' use_call (c_normal _ _ _ _ _ _ ?h0 ?h1 ?h2) ?B ?F ?X ?N ?T ?K ?d ?u ?_; (case B => k_asm); (case F => k_asm); (case X => k_asm); (case N => k_asm); (case T => k_asm); (case K => first | exact rfl | assumption); (case d => first | exact room_d hd (by decide) | ktr_room); (case u => first | exact room_u3 hu (by decide) | exact room_u4 hu (by decide) | exact room_u5 hu (by decide) | decide | ktr_units); (case h0 => first | k_mem | k_memK | kst_mem); (case h1 => assumption); (case h2 => first | assumption | lia | (simp only [rangeKs_length] at *; lia))); k_whole; intro r9 nw9 h9 tk9 F9 N9 hp9; (try dsimp only at hp9); obtain ⟨b9, vs9, k9, e9, e8, l9, i9, q1, q2, q3⟩ := hp9; subst e9; subst e8; (try simp only [AllLt, and_true] at l9); (all_goals ((try dsimp only); (try k_sweep); (try k_fold))))
  k_with "mCall" => (k_dflt (refine' use_call (c_shr0 wd _ _ _ _ _ _ w _ _ ?hm ?hi ?hl hw hw2 β hβ hβ1 hβ2 0 (w - kb) γ δ ?s0 ?s1 SG.g SB.d SB.eq SG.lo SB.lo SB.hi ?z0 ?z1 ?z2 ?z3 ?z4 ?dn) ?B ?F ?X ?N ?T ?K ?d ?u ?_; (case B => k_asm); (case F => k_asm); (case X => k_asm); (case N => k_asm); (case T => k_asm); (case K => first | exact rfl | assumption); (case d => first | exact room_d hd (by decide) | ktr_room); (case u => first | exact room_u3 hu (by decide) | exact room_u4 hu (by decide) | exact room_u5 hu (by decide) | decide | ktr_units); (case hm => first | k_mem | k_memK | kst_mem); (case hi => assumption); (case hl => (rw [List.length_take]; lia)); (case s0 => exact Int.ediv_eq_zero_of_lt (by lia) (by lia)); (case s1 => exact Int.emod_eq_of_lt (by lia) (by lia)); (case z0 => lia); (case z1 => lia); (case z2 => lia); (case z3 => lia); (case z4 => lia); (case dn => exact Dig.take dr _)); k_whole; intro r9 nw9 h9 tk9 F9 N9 hp9; (try dsimp only at hp9); obtain ⟨b8, vs8, f8, e9, e8, l8, i8, y8, y7⟩ := hp9; subst e9; subst e8; (try simp only [AllLt, and_true] at l8); (all_goals ((try dsimp only); (try k_sweep); (try k_fold))))
  w_top off
  unfold Call
  intro mean mg mb dp un gd cn cs a1 ccd cl outer A₀ base h₀ L m s Q E B F X N T hk hd hu hret
  replace N := news_dup N hm2
  replace N := news_dup N (List.mem_cons_of_mem _ hm)
  refine wpAny_call ?_
  k_dflt cell_enter
  k_steps
  · exfalso; lia
  · refine hret _ _ _ _ (by assumption) (cb_drop (by assumption) (by with_reducible repeat' (first | exact sub_refl | refine sub_keep ?_ | refine sub_tail ?_))) ⟨_, _, _, _, _, xs, rfl, rfl, by assumption, row_mod_lt (by lia) hA (c8.1 (by assumption))⟩
  · refine hret _ _ _ _ (by assumption) (cb_drop (by assumption) (by with_reducible repeat' (first | exact sub_refl | refine sub_keep ?_ | refine sub_tail ?_))) ⟨_, _, _, _, _, f9, rfl, rfl, i9, hA.eq ▸ r9w⟩
  · refine hret _ _ _ _ (by assumption) (cb_drop (by assumption) (by with_reducible repeat' (first | exact sub_refl | refine sub_keep ?_ | refine sub_tail ?_))) ⟨_, _, _, _, _, f8, rfl, rfl, i8, school_end hg1 (SA.pad (by lia)).2.1 SD vr q1 q2 y7⟩
end
section
theorem c_shr (wd : World) (a : Addr) (us : List Value) (ns : List Int) (n : Nat) (news : Led) (k w : Int) (tk tw : Tok) (hm : (a, listOf us.toArray n) ∈ news) (hi : IntsAre us ns) (hlen : ns.length < 1000)(hw : 3 ≤ w) (hw2 : w ≤ 9)(β : Int) (hβ : (2 : Int) ^ w.toNat = β) (hβ1 : 8 ≤ β) (hβ2 : β ≤ 512) (hk0 : 0 ≤ k) (hk2 : k < 100000) (hns : Dig β ns) :
    Call wd 93 2 [.ref a, .int k tk, .int w tw] news (fun r news' => ∃ (b : Addr) (vs : List Value) (f : List Int), news' = (b, listOf (List.toArray vs) 0) :: news ∧ r = .ref b ∧ AllLt b news ∧ IntsAre vs f ∧ f.length ≤ ns.length ∧ Row β (val β ns / 2 ^ k.toNat) f) := by
  have f0 := Int.emod_nonneg k (show w ≠ 0 by lia)
  have f1 := Int.emod_lt_of_pos k (show 0 < w by lia)
  have s0 : 0 ≤ k / w := Int.ediv_nonneg hk0 (by lia)
  have s1 : k / w ≤ k := Int.ediv_le_self _ hk0
  have hsplit := pow_split (w := w) (k := k % w) f0 (by lia)
  have hd : (2 : Int) ^ (w - k % w).toNat ≤ 2 ^ w.toNat := two_pow_le (by lia)
  have C := c_shr0 wd a us ns n news k w tk tw hm hi hlen hw hw2 β hβ hβ1 hβ2 (k / w) (k % w) (2 ^ (k % w).toNat) (2 ^ (w - k % w).toNat) rfl rfl rfl rfl (by rw [hsplit, hβ]) (two_pow_pos _) (two_pow_pos _) (by lia) s0 (by lia) f0 f1 hk0 hns
  rwa [shr_val hβ hw hns hk0 rfl rfl rfl] at C
theorem c_jacobi (wd : World) (a b : Addr) (us vs : List Value) (xs0 ys0 : List Int) (n0 k0 : Nat) (news : Led) (w : Int) (tw : Tok) (hm : (a, listOf us.toArray n0) ∈ news) (hm2 : (b, listOf vs.toArray k0) ∈ news) (hi : IntsAre us xs0) (hj : IntsAre vs ys0) (hlen : xs0.length < 400) (hlen2 : ys0.length < 400) (hw : 3 ≤ w) (hw2 : w ≤ 9)(β : Int) (hβ : (2 : Int) ^ w.toNat = β) (hβ1 : 8 ≤ β) (hβ2 : β ≤ 512) (A0 N0 : Int) (hA : Row β A0 xs0) (hN : Row β N0 ys0) (hpos : 0 < N0) (hodd : N0 % 2 = 1) :
    Call wd 133 6 [.ref a, .ref b, .int w tw, .ref 182] news (fun r news' => news' = news ∧ ∃ t, r = .int (J A0 N0) t) := by
  k_with_none
  k_with "mInv" => ((rename News _ _ _ _ => nE'); (try simp only [List.push_toArray] at nE'); first | ((refine' kst_end ⟨_, _, _, _, _⟩ ?f1 ?f2 ?ka ?kb ?kr ?kc ?kd ?ke ?kf); (case f1 => assumption); (case f2 => exact nE'); (case ka => first | kst_in | kst_inAny); (case kb => first | (intro p hp; kst_mem) | kst_anyIn); (case kr => rfl); (case kc => kst_facts); (case kd => kst_all); (case ke => kst_same); (case kf => kst_p)) | ((refine' kst_end ⟨_, _, _, _, _, _⟩ ?f1 ?f2 ?ka ?kb ?kr ?kc ?kd ?ke ?kf); (case f1 => assumption); (case f2 => exact nE'); (case ka => first | kst_in | kst_inAny); (case kb => first | (intro p hp; kst_mem) | kst_anyIn); (case kr => rfl); (case kc => kst_facts); (case kd => kst_all); (case ke => kst_same); (case kf => kst_p)) | ((refine' kst_end ⟨_, _, _⟩ ?f1 ?f2 ?ka ?kb ?kr ?kc ?kd ?ke ?kf); (case f1 => assumption); (case f2 => exact nE'); (case ka => first | kst_in | kst_inAny); (case kb => first | (intro p hp; kst_mem) | kst_anyIn); (case kr => rfl); (case kc => kst_facts); (case kd => kst_all); (case ke => kst_same); (case kf => kst_p)) | ((refine' kst_end _ ?f1 ?f2 ?ka ?kb ?kr ?kc ?kd ?ke ?kf); (case f1 => assumption); (case f2 => exact nE'); (case ka => first | kst_in | kst_inAny); (case kb => first | (intro p hp; kst_mem) | kst_anyIn); (case kr => rfl); (case kc => kst_facts); (case kd => kst_all); (case ke => kst_same); (case kf => kst_p)) | ((refine' kst_end ⟨_, _⟩ ?f1 ?f2 ?ka ?kb ?kr ?kc ?kd ?ke ?kf); (case f1 => assumption); (case f2 => exact nE'); (case ka => first | kst_in | kst_inAny); (case kb => first | (intro p hp; kst_mem) | kst_anyIn); (case kr => rfl); (case kc => kst_facts); (case kd => kst_all); (case ke => kst_same); (case kf => kst_p)) | ((refine' kst_end ⟨_, _, _, _, _, _, _, _⟩ ?f1 ?f2 ?ka ?kb ?kr ?kc ?kd ?ke ?kf); (case f1 => assumption); (case f2 => exact nE'); (case ka => first | kst_in | kst_inAny); (case kb => first | (intro p hp; kst_mem) | kst_anyIn); (case kr => rfl); (case kc => kst_facts); (case kd => kst_all); (case ke => kst_same); (case kf => kst_p)))
  k_with "mKsw" => ((rename News _ _ _ _ => nE'); (try simp only [List.push_toArray] at nE'); first | ((refine' ksw_end ⟨_, _, _, _, _, _, _, _, _, _⟩ ?f1 ?f2 ?ka ?kc ?kd ?ke ?kf ?kg); (case f1 => assumption); (case f2 => exact nE'); (case kd => kst_all); (case ka => first | ((try dsimp only); with_reducible (repeat' (first | exact sub_refl | refine sub_keep ?_ | refine sub_tail ?_)); done) | kst_in | kst_inAny); (case kc => kst_facts); (case ke => ksw_same); (case kf => kst_p); (case kg => ksw_less)) | ((refine' ksw_end ⟨_, _⟩ ?f1 ?f2 ?ka ?kc ?kd ?ke ?kf ?kg); (case f1 => assumption); (case f2 => exact nE'); (case kd => kst_all); (case ka => first | ((try dsimp only); with_reducible (repeat' (first | exact sub_refl | refine sub_keep ?_ | refine sub_tail ?_)); done) | kst_in | kst_inAny); (case kc => kst_facts); (case ke => ksw_same); (case kf => kst_p); (case kg => ksw_less)) | ((refine' ksw_end ⟨_, _, _, _⟩ ?f1 ?f2 ?ka ?kc ?kd ?ke ?kf ?kg); (case f1 => assumption); (case f2 => exact nE'); (case kd => kst_all); (case ka => first | ((try dsimp only); with_reducible (repeat' (first | exact sub_refl | refine sub_keep ?_ | refine sub_tail ?_)); done) | kst_in | kst_inAny); (case kc => kst_facts); (case ke => ksw_same); (case kf => kst_p); (case kg => ksw_less)))
  k_with "mCall" => (k_dflt (refine' use_call (c_last2 wd _ _ _ _ _ w _ _ ?hm ?hi ?hl hw hw2) ?B ?F ?X ?N ?T ?K ?d ?u ?_; (case B => k_asm); (case F => k_asm); (case X => k_asm); (case N => k_asm); (case T => k_asm); (case K => first | exact rfl | assumption); (case d => first | exact room_d hd (by decide) | ktr_room); (case u => first | exact room_u3 hu (by decide) | exact room_u4 hu (by decide) | exact room_u5 hu (by decide) | decide | ktr_units); (case hm => first | k_mem | k_memK | kst_mem); (case hi => assumption); (case hl => lia)); k_whole; intro r9 nw9 h9 tk9 F9 N9 hp9; (try dsimp only at hp9); obtain ⟨e9, t9, e8⟩ := hp9; subst e9; subst e8; (all_goals ((try dsimp only); (try k_sweep); (try k_fold))))
  k_with "mCall" => (k_dflt (refine' use_call (c_compare wd _ _ _ _ _ _ _ _ _ ?hm ?hm2 ?hi ?hj ?hl ?hl2 β (val β ys) 1 ?b1 JP.ry (row_one ?o1 ?o2)) ?B ?F ?X ?N ?T ?K ?d ?u ?_; (case B => k_asm); (case F => k_asm); (case X => k_asm); (case N => k_asm); (case T => k_asm); (case K => first | exact rfl | assumption); (case d => first | exact room_d hd (by decide) | ktr_room); (case u => first | exact room_u3 hu (by decide) | exact room_u4 hu (by decide) | exact room_u5 hu (by decide) | decide | ktr_units); (case hm => first | k_mem | k_memK | kst_mem); (case hm2 => first | k_mem | k_memK | kst_mem); (case hi => assumption); (case hj => exact IntsAre.cons _ _ .nil); (case hl => lia); (case hl2 => simp); (case b1 => lia); (case o1 => lia); (case o2 => lia)); k_whole; intro r9 nw9 h9 tk9 F9 N9 hp9; (try dsimp only at hp9); obtain ⟨e9, k9, t9, e8, c9⟩ := hp9; subst e9; subst e8; have c8 : (k9 = 0 ↔ val β ys = 1) := (by lia); clear c9; (all_goals ((try dsimp only); (try k_sweep); (try k_fold))))
  k_with "mCall" => (k_dflt (refine' use_call (c_school wd _ _ _ _ _ _ _ _ _ w _ ?hm ?hm2 ?hi ?hj ?hl ?hl2 hw hw2 β hβ hβ1 hβ2 (val β ys) (2 * qt + 1) JP.ry y7 ?hp) ?B ?F ?X ?N ?T ?K ?d ?u ?_; (case B => k_asm); (case F => k_asm); (case X => k_asm); (case N => k_asm); (case T => k_asm); (case K => first | exact rfl | assumption); (case d => first | exact room_d hd (by decide) | ktr_room); (case u => first | exact room_u3 hu (by decide) | exact room_u4 hu (by decide) | exact room_u5 hu (by decide) | decide | ktr_units); (case hm => first | k_mem | k_memK | kst_mem); (case hm2 => first | k_mem | k_memK | kst_mem); (case hi => assumption); (case hj => assumption); (case hl => lia); (case hl2 => lia); (case hp => lia)); k_whole; intro r9 nw9 h9 tk9 F9 N9 hp9; (try dsimp only at hp9); obtain ⟨ta, qa, ca, vr, nr, fr, e9, e8, ir, yr⟩ := hp9; subst e9; subst e8; (all_goals ((try dsimp only); (try k_sweep); (try k_fold))))
  k_with "mCall" => (k_dflt (refine' use_call (c_two wd _ _ _ _ _ _ w _ _ ?hm ?hi ?hl hw hw2) ?B ?F ?X ?N ?T ?K ?d ?u ?_; (case B => k_asm); (case F => k_asm); (case X => k_asm); (case N => k_asm); (case T => k_asm); (case K => first | exact rfl | assumption); (case d => first | exact room_d hd (by decide) | ktr_room); (case u => first | exact room_u3 hu (by decide) | exact room_u4 hu (by decide) | exact room_u5 hu (by decide) | decide | ktr_units); (case hm => first | k_mem | k_memK | kst_mem); (case hi => assumption); (case hl => lia)); k_whole; intro r9 nw9 h9 tk9 F9 N9 hp9; (try dsimp only at hp9); obtain ⟨e9, t9, e8⟩ := hp9; subst e9; subst e8; rw [show (if kt % 2 = 1 ∧ (ys.getD 0 0 % 8 = 3 ∨ ys.getD 0 0 % 8 = 5) then (-1 : Int) else 1) = two kt (val β ys) from (by unfold two; rw [val_mod8 hw hβ])]; have htw := two_sign_abs kt (val β ys); generalize htwe : two kt (val β ys) = tw9 at htw; (all_goals ((try dsimp only); (try k_sweep); (try k_fold))))
  k_with "mCall" => (k_dflt (refine' use_call (c_shr wd _ _ _ _ _ _ w _ _ ?hm ?hi ?hl hw hw2 β hβ hβ1 hβ2 kt0 kt1 JPd) ?B ?F ?X ?N ?T ?K ?d ?u ?_; (case B => k_asm); (case F => k_asm); (case X => k_asm); (case N => k_asm); (case T => k_asm); (case K => first | exact rfl | assumption); (case d => first | exact room_d hd (by decide) | ktr_room); (case u => first | exact room_u3 hu (by decide) | exact room_u4 hu (by decide) | exact room_u5 hu (by decide) | decide | ktr_units); (case hm => first | k_mem | k_memK | kst_mem); (case hi => assumption); (case hl => lia)); k_whole; intro r9 nw9 h9 tk9 F9 N9 hp9; (try dsimp only at hp9); obtain ⟨b8, vs8, f8, e9, e8, l8, i8, y8, y7⟩ := hp9; subst e9; subst e8; (try simp only [AllLt, and_true] at l8); rw [odd_shift hqt] at y7; (all_goals ((try dsimp only); (try k_sweep); (try k_fold))))
  k_with "mCall" => (k_dflt (refine' use_call (c_trailing wd _ _ _ _ _ w _ ?hm ?hi ?hl hw hw2 ?h0 ?hex) ?B ?F ?X ?N ?T ?K ?d ?u ?_; (case B => k_asm); (case F => k_asm); (case X => k_asm); (case N => k_asm); (case T => k_asm); (case K => first | exact rfl | assumption); (case d => first | exact room_d hd (by decide) | ktr_room); (case u => first | exact room_u3 hu (by decide) | exact room_u4 hu (by decide) | exact room_u5 hu (by decide) | decide | ktr_units); (case hm => first | k_mem | k_memK | kst_mem); (case hi => assumption); (case hl => lia); (case h0 => exact fun x hx => (JPd x hx).1); (case hex => exact row_ex JP.rx (by lia))); k_whole; intro r9 nw9 h9 tk9 F9 N9 hp9; (try dsimp only at hp9); obtain ⟨e9, kt, tt, it, et, ot, e8, y1, y2, y3, y4, y5⟩ := hp9; subst e9; subst e8; obtain ⟨kt0, kt1, qt, qt0, hqt⟩ := trail_val hw hw2 hβ JPd (by lia) y1 y2 y3 y4 y5; clear y1 y2 y3 y4 y5; (all_goals ((try dsimp only); (try k_sweep); (try k_fold))))
  k_with "mCall" => (k_dflt (refine' use_call (c_school wd _ _ _ _ _ _ _ _ _ w _ ?hm ?hm2 ?hi ?hj ?hl ?hl2 hw hw2 β hβ hβ1 hβ2 A0 N0 hA hN hpos) ?B ?F ?X ?N ?T ?K ?d ?u ?_; (case B => k_asm); (case F => k_asm); (case X => k_asm); (case N => k_asm); (case T => k_asm); (case K => first | exact rfl | assumption); (case d => first | exact room_d hd (by decide) | ktr_room); (case u => first | exact room_u3 hu (by decide) | exact room_u4 hu (by decide) | exact room_u5 hu (by decide) | decide | ktr_units); (case hm => first | k_mem | k_memK | kst_mem); (case hm2 => first | k_mem | k_memK | kst_mem); (case hi => assumption); (case hj => assumption); (case hl => lia); (case hl2 => lia)); k_whole; intro r9 nw9 h9 tk9 F9 N9 hp9; (try dsimp only at hp9); obtain ⟨ta, qa, ca, vr, nr, fr, e9, e8, ir, yr⟩ := hp9; subst e9; subst e8; have JP := jac_start hβ1 yr hN hpos hodd rfl; have hlr := JP.lx; (all_goals ((try dsimp only); (try k_sweep); (try k_fold))))
  k_with "mCall" => (k_dflt (refine' use_call (c_is_even wd _ _ _ _ _ ?hm ?hi ?hl) ?B ?F ?X ?N ?T ?K ?d ?u ?_; (case B => k_asm); (case F => k_asm); (case X => k_asm); (case N => k_asm); (case T => k_asm); (case K => first | exact rfl | assumption); (case d => first | exact room_d hd (by decide) | ktr_room); (case u => first | exact room_u3 hu (by decide) | exact room_u4 hu (by decide) | exact room_u5 hu (by decide) | decide | ktr_units); (case hm => first | k_mem | k_memK | kst_mem); (case hi => assumption); (case hl => lia)); k_whole; intro r9 nw9 h9 tk9 F9 N9 hp9; (try dsimp only at hp9); obtain ⟨e9, b0, e8, y9⟩ := hp9; subst e9; subst e8; have yb : b0 = false := (by cases b0 with | false => rfl | true => (exfalso; have h1 := y9.mp rfl; have h2 := val_mod8 hw hβ ys0; rw [hN.eq] at h2; lia)); subst yb; clear y9; (all_goals ((try dsimp only); (try k_sweep); (try k_fold))))
  k_with "mMul" => (refine mul_int ?_ (PySem.IntMulOk.of_left (PySem.intBits_le_64 (by lia) (by lia))))
  k_with "mWhile" => (k_here; (rename Fr _ _ _ _ => lF'); (rename News _ _ _ _ => lN'); (with_unfolding_all refine' ksw_while (σ := Int × Tok × Addr × List Value × List Int × Nat × Addr × List Value × List Int × Nat) (fun c => (c.2.2.1, listOf c.2.2.2.1.toArray c.2.2.2.2.2.1) :: (c.2.2.2.2.2.2.1, listOf c.2.2.2.2.2.2.2.1.toArray c.2.2.2.2.2.2.2.2.2) :: news) (fun c => [(Str.ofString "found", Value.int c.1 c.2.1), (Str.ofString "a", Value.ref c.2.2.1), (Str.ofString "n", Value.ref c.2.2.2.2.2.2.1)]) (fun c => IntsAre c.2.2.2.1 c.2.2.2.2.1 ∧ IntsAre c.2.2.2.2.2.2.2.1 c.2.2.2.2.2.2.2.2.1) [Str.ofString "twos"] (fun c => JacP β A0 N0 ys0.length c.1 c.2.2.2.2.1 c.2.2.2.2.2.2.2.2.1) (fun c => (val β c.2.2.2.2.1).toNat) (1, _, ca, vr, fr, nr, b, vs, ys0, k0) lF' ?kn ?kf ?kk ?kp ?_); (case kn => exact cb_drop lN' (by kst_in)); (case kf => exact ⟨ir, hj⟩); (case kk => (intro p hp; rcases List.mem_cons.mp hp with rfl | hp; with_unfolding_all rfl; rcases List.mem_cons.mp hp with rfl | hp; with_unfolding_all rfl; (rw [List.mem_singleton.mp hp]; with_unfolding_all rfl))); (case kp => exact JP); (intro c; obtain ⟨f, tf, aA, usx, xs, nx, aN, vsy, ys, ny⟩ := c; (try dsimp only); intro u h tk9w hfa JP kFr kNews; have kMark := kstMark; (try dsimp only [kstB] at kFr); (try dsimp only at JP); obtain ⟨ix, iy⟩ := hfa; (try dsimp only at ix iy); have lx := JP.lx; have ly := JP.ly; have fs := JP.fs; have JPd := JP.rx.dig; (try k_fold)))
  k_with "state" => first | exact jac_way1 hw hβ hβ1 JP kt0 qt0 hqt y7 yr htwe (by assumption) (by assumption) | exact jac_way2 hw hβ hβ1 JP kt0 qt0 hqt y7 yr htwe (fun g => absurd g.2 (by assumption)) | exact jac_way2 hw hβ hβ1 JP kt0 qt0 hqt y7 yr htwe (fun g => absurd g.1 (by assumption))
  k_with "measure" => exact jac_less qt0 hqt yr
  w_top off
  unfold Call
  intro mean mg mb dp un gd cn cs a1 ccd cl outer A₀ base h₀ L m s Q E B F X N T hk hd hu hret
  replace N := news_dup N hm2
  replace N := news_dup N (List.mem_cons_of_mem _ hm)
  refine wpAny_call ?_
  k_dflt cell_enter
  k_steps
  · have e := jac_end hβ1 JP (by lia)
    rw [if_pos (c8.mp (by assumption))] at e
    refine hret _ _ _ _ (by assumption) (cb_drop (by assumption) (by with_reducible repeat' (first | exact sub_refl | refine sub_keep ?_ | refine sub_tail ?_))) ⟨rfl, _, congrArg (fun z => Value.int z _) e.symm⟩
  · have e := jac_end hβ1 JP (by lia)
    rw [if_neg (fun q => absurd (c8.mpr q) (by assumption))] at e
    refine hret _ _ _ _ (by assumption) (cb_drop (by assumption) (by with_reducible repeat' (first | exact sub_refl | refine sub_keep ?_ | refine sub_tail ?_))) ⟨rfl, _, congrArg (fun z => Value.int z _) e.symm⟩
end
section
local macro_rules | `(tactic| walk_at "eval BinOp") => `(tactic| k_dflt (k_extra "mE"))
theorem sy_fold {S x r n f : Int} (hn : 0 < n) (ho : n % 2 = 1) (h : SymP S x n f) (hr : x % n = r) : SymP S (n - r) n (f * (if (n % 4 == 3) = true then 0 - 1 else 1)) := sym_fold hn ho (sym_mod h hr) (by simp)
theorem sy_turn {S a n f : Int} (hn : 0 < n) (ho : n % 2 = 1) (ha : 0 < a) (ha2 : a % 2 ≠ 0) (h : SymP S a n f) : SymP S n a (f * (if (a % 4 == 3 && (n % 4 == 3 && true)) = true then 0 - 1 else 1)) := sym_turn hn ho ha (by lia) h (by simp)
theorem c_symbol (wd : World) (news : Led) (a0 n0 : Int) (ta tn : Tok) (ha0 : -(2 ^ 60) < a0) (ha1 : a0 < 2 ^ 60) (hn0 : 0 < n0) (hn1 : n0 < 2 ^ 60) (hn2 : n0 % 2 = 1) :
    Call wd 215 1 [.int a0 ta, .int n0 tn] news (fun r news' => news' = news ∧ ∃ t, r = .int (J a0 n0) t) := by
  k_with_none
  k_with "mInv" => ((rename News _ _ _ _ => nE'); (try simp only [List.push_toArray] at nE'); first | ((refine' kst_end ⟨_, _, _, _, _⟩ ?f1 ?f2 ?ka ?kb ?kr ?kc ?kd ?ke ?kf); (case f1 => assumption); (case f2 => exact nE'); (case ka => first | kst_in | kst_inAny); (case kb => first | (intro p hp; kst_mem) | kst_anyIn); (case kr => rfl); (case kc => kst_facts); (case kd => kst_all); (case ke => kst_same); (case kf => kst_p)) | ((refine' kst_end ⟨_, _, _, _, _, _⟩ ?f1 ?f2 ?ka ?kb ?kr ?kc ?kd ?ke ?kf); (case f1 => assumption); (case f2 => exact nE'); (case ka => first | kst_in | kst_inAny); (case kb => first | (intro p hp; kst_mem) | kst_anyIn); (case kr => rfl); (case kc => kst_facts); (case kd => kst_all); (case ke => kst_same); (case kf => kst_p)) | ((refine' kst_end ⟨_, _, _⟩ ?f1 ?f2 ?ka ?kb ?kr ?kc ?kd ?ke ?kf); (case f1 => assumption); (case f2 => exact nE'); (case ka => first | kst_in | kst_inAny); (case kb => first | (intro p hp; kst_mem) | kst_anyIn); (case kr => rfl); (case kc => kst_facts); (case kd => kst_all); (case ke => kst_same); (case kf => kst_p)) | ((refine' kst_end _ ?f1 ?f2 ?ka ?kb ?kr ?kc ?kd ?ke ?kf); (case f1 => assumption); (case f2 => exact nE'); (case ka => first | kst_in | kst_inAny); (case kb => first | (intro p hp; kst_mem) | kst_anyIn); (case kr => rfl); (case kc => kst_facts); (case kd => kst_all); (case ke => kst_same); (case kf => kst_p)) | ((refine' kst_end ⟨_, _⟩ ?f1 ?f2 ?ka ?kb ?kr ?kc ?kd ?ke ?kf); (case f1 => assumption); (case f2 => exact nE'); (case ka => first | kst_in | kst_inAny); (case kb => first | (intro p hp; kst_mem) | kst_anyIn); (case kr => rfl); (case kc => kst_facts); (case kd => kst_all); (case ke => kst_same); (case kf => kst_p)) | ((refine' kst_end ⟨_, _, _, _, _, _, _, _⟩ ?f1 ?f2 ?ka ?kb ?kr ?kc ?kd ?ke ?kf); (case f1 => assumption); (case f2 => exact nE'); (case ka => first | kst_in | kst_inAny); (case kb => first | (intro p hp; kst_mem) | kst_anyIn); (case kr => rfl); (case kc => kst_facts); (case kd => kst_all); (case ke => kst_same); (case kf => kst_p)))
  k_with "mKsw" => ((rename News _ _ _ _ => nE'); (try simp only [List.push_toArray] at nE'); first | ((refine' ksw_end ⟨_, _, _, _, _, _, _, _, _, _⟩ ?f1 ?f2 ?ka ?kc ?kd ?ke ?kf ?kg); (case f1 => assumption); (case f2 => exact nE'); (case kd => kst_all); (case ka => first | kst_in | kst_inAny); (case kc => kst_facts); (case ke => ksw_same); (case kf => kst_p); (case kg => ksw_less)) | ((refine' ksw_end ⟨_, _⟩ ?f1 ?f2 ?ka ?kc ?kd ?ke ?kf ?kg); (case f1 => assumption); (case f2 => exact nE'); (case kd => kst_all); (case ka => first | kst_in | kst_inAny); (case kc => kst_facts); (case ke => ksw_same); (case kf => kst_p); (case kg => ksw_less)) | ((refine' ksw_end ⟨_, _, _, _⟩ ?f1 ?f2 ?ka ?kc ?kd ?ke ?kf ?kg); (case f1 => assumption); (case f2 => exact nE'); (case kd => kst_all); (case ka => first | kst_in | kst_inAny); (case kc => kst_facts); (case ke => ksw_same); (case kf => kst_p); (case kg => ksw_less)))
  k_with "mE" => ((with_reducible show wpAny _ _ (eval (Expr.BinOp _ Operator.Mult (Expr.IfExp _ _ _ _) _) _) _ _ _); (rename Fr _ _ _ _ => jF'); (rename News _ _ _ _ => jN'); (k_dflt (refine' int_step ?H jF' jN' ?_; (case H => (repeat' (first | ((with_reducible show IntAt _ _ _ _ _ _ _ _ (Expr.Name _ _) _); exact int_name rfl) | ((with_reducible show IntAt _ _ _ _ _ _ _ _ (Expr.Constant _ _ _) _); exact int_const) | ((with_reducible show PySem.IntMulOk _ (ite _ _ _)); exact mul_sg) | ((with_reducible show IntAt _ _ _ _ _ _ _ _ (Expr.BinOp _ Operator.Mult _ _) _); refine' int_mul ?_ ?_ ?_) | ((with_reducible show IntAt _ _ _ _ _ _ _ _ (Expr.BinOp _ Operator.Sub _ _) _); refine' int_sub ?_ ?_) | ((with_reducible show IntAt _ _ _ _ _ _ _ _ (Expr.BinOp _ Operator.Mod _ _) _); refine' int_mod ?_ ?_ ?_) | ((with_reducible show IntAt _ _ _ _ _ _ _ _ (Expr.IfExp _ _ _ _) _); refine' int_if ?_ ?_ ?_) | ((with_reducible show TestAt _ _ _ _ _ _ _ _ (Expr.BoolOp _ [] _) _); exact test_and_nil) | ((with_reducible show TestAt _ _ _ _ _ _ _ _ (Expr.BoolOp _ _ _) _); refine' test_and ?_ ?_) | ((with_reducible show TestAt _ _ _ _ _ _ _ _ (Expr.Compare _ [CmpOp.Eq] _ _) _); refine' test_eq ?_ ?_) | ((with_reducible show (0 : Int) < _); decide)))); k_whole)); intro h9 tk9 t9 F9 N9; (try dsimp only); (try k_sweep); (try k_fold))
  k_with "mMod" => first | (refine step_fm _ (by decide) (Int.fmod_eq_emod_of_nonneg _ (by decide)) ?_) | (refine step_modr (by lia) ?_; intro rm hrm hrm0 hrm1)
  k_with "mDiv" => (refine step_fd _ (by decide) (by decide) (Int.fdiv_eq_ediv_of_nonneg _ (by decide)) ?_)
  k_with "mMul" => first | (refine mul_int ?_ (PySem.IntMulOk.of_left (PySem.intBits_le_64 (by lia) (by lia)))) | (refine mul_int ?_ (PySem.IntMulOk.of_right (PySem.intBits_le_64 (by lia) (by lia))))
  k_with "mWhile" => ((with_reducible show wpAny _ _ (exec (Stmt.While (Expr.Compare (Expr.Name _ _) _ _ _) _ _ _) _) _ _ _); k_while (fun (_ : List Int) (x : Int) (y : Int) (f : Int) => (0 < y ∧ y % 2 = 1 ∧ y < 2 ^ 60) ∧ SymP (J a0 n0) x y f) (fun (_ : List Int) (x : Int) (y : Int) (f : Int) => y.toNat) "a" "n" "found")
  k_with "mWhile" => ((with_reducible show wpAny _ _ (exec (Stmt.While (Expr.Compare (Expr.BinOp _ _ _ _) _ _ _) _ _ _) _) _ _ _); k_while_given ["n", "a!"] (fun (y : Int) (x0 : Int) (_ : List Int) (x : Int) (f : Int) => (0 < x ∧ x ≤ x0) ∧ SymP (J a0 n0) x y f) (fun (y : Int) (x0 : Int) (_ : List Int) (x : Int) (f : Int) => x.toNat) "a" "found")
  k_with "state" => first | exact ⟨⟨hn0, hn2, hn1⟩, sym_start a0 n0⟩ | exact ⟨⟨by lia, by lia⟩, sy_fold (by assumption) (by assumption) (by assumption) hrm⟩ | exact ⟨⟨by lia, by lia, by lia⟩, sy_turn (by assumption) (by assumption) (by assumption) (by assumption) (by assumption)⟩ | exact ⟨⟨by lia, by lia⟩, sy_fold1 (by assumption) (by assumption) (by assumption) hrm (by assumption)⟩ | exact ⟨⟨by lia, by lia⟩, sy_fold2 (by assumption) (by assumption) (by assumption) hrm (by assumption)⟩ | exact ⟨⟨by lia, by lia⟩, sym_mod (by assumption) hrm⟩ | exact ⟨⟨by lia, by lia⟩, sy_two1 (by assumption) (by assumption) (by assumption) (by assumption) (by assumption)⟩ | exact ⟨⟨by lia, by lia⟩, sy_two2 (by assumption) (by assumption) (by assumption) (by assumption) (by assumption)⟩ | exact ⟨⟨by lia, by lia, by lia⟩, sy_turn1 (by assumption) (by assumption) (by assumption) (by assumption) (by assumption) (by assumption) (by assumption)⟩ | exact ⟨⟨by lia, by lia, by lia⟩, sy_turn2 (by assumption) (by assumption) (by assumption) (by assumption) (by assumption) (by assumption)⟩ | exact ⟨⟨by lia, by lia, by lia⟩, sy_turn3 (by assumption) (by assumption) (by assumption) (by assumption) (by assumption) (by assumption)⟩
  k_with "measure" => first | lia
  w_top off
  unfold Call
  intro mean mg mb dp un gd cn cs a1 ccd cl outer A₀ base h₀ L m s Q E B F X N T hk hd hu hret
  skip
  refine wpAny_call ?_
  k_dflt cell_enter
  k_steps
  · exfalso; lia
  · refine hret _ _ _ _ (by assumption) (cb_drop (by assumption) (by kst_in)) ⟨rfl, _, congrArg (fun z => Value.int z _) (sy_zero (by assumption) (by assumption) hrm (by assumption)).symm⟩
  · refine hret _ _ _ _ (by assumption) (cb_drop (by assumption) (by kst_in)) ⟨rfl, _, congrArg (fun z => Value.int z _) (sym_end (by assumption) (by assumption) (by assumption))⟩
end
section
local macro_rules | `(tactic| walk_at "eval IfExp") => `(tactic| k_dflt (k_extra "mE"))
local macro_rules | `(tactic| walk_at "of wide 0") => `(tactic| skip)
theorem sg_lt {x y : Int} : (if (decide (x < 0) && (decide (y < 0) && true)) = true then (0 - 1 : Int) else 1) = if x < 0 ∧ y < 0 then -1 else 1 := by simp
theorem c_wide (wd : World) (news : Led) (x0 y0 : Int) (tx ty : Tok) (hx0 : -(2 ^ 50) < x0) (hx1 : x0 < 2 ^ 50) (hy0 : -(2 ^ 50) < y0) (hy1 : y0 < 2 ^ 50) (hyz : y0 ≠ 0) :
    Call wd 222 3 [.int x0 tx, .int y0 ty] news (fun r news' => news' = news ∧ ∃ r0 t, r = .int r0 t ∧ KW x0 y0 r0) := by
  have hdum : IntsAre [] [] := .nil
  k_with_none
  k_with "mInv" => ((rename News _ _ _ _ => nE'); (try simp only [List.push_toArray] at nE'); first | ((refine' kst_end ⟨_, _, _, _, _⟩ ?f1 ?f2 ?ka ?kb ?kr ?kc ?kd ?ke ?kf); (case f1 => assumption); (case f2 => exact nE'); (case ka => first | kst_in | kst_inAny); (case kb => first | (intro p hp; kst_mem) | kst_anyIn); (case kr => rfl); (case kc => kst_facts); (case kd => kst_all); (case ke => kst_same); (case kf => kst_p)) | ((refine' kst_end ⟨_, _, _, _, _, _⟩ ?f1 ?f2 ?ka ?kb ?kr ?kc ?kd ?ke ?kf); (case f1 => assumption); (case f2 => exact nE'); (case ka => first | kst_in | kst_inAny); (case kb => first | (intro p hp; kst_mem) | kst_anyIn); (case kr => rfl); (case kc => kst_facts); (case kd => kst_all); (case ke => kst_same); (case kf => kst_p)) | ((refine' kst_end ⟨_, _, _⟩ ?f1 ?f2 ?ka ?kb ?kr ?kc ?kd ?ke ?kf); (case f1 => assumption); (case f2 => exact nE'); (case ka => first | kst_in | kst_inAny); (case kb => first | (intro p hp; kst_mem) | kst_anyIn); (case kr => rfl); (case kc => kst_facts); (case kd => kst_all); (case ke => kst_same); (case kf => kst_p)) | ((refine' kst_end _ ?f1 ?f2 ?ka ?kb ?kr ?kc ?kd ?ke ?kf); (case f1 => assumption); (case f2 => exact nE'); (case ka => first | kst_in | kst_inAny); (case kb => first | (intro p hp; kst_mem) | kst_anyIn); (case kr => rfl); (case kc => kst_facts); (case kd => kst_all); (case ke => kst_same); (case kf => kst_p)) | ((refine' kst_end ⟨_, _⟩ ?f1 ?f2 ?ka ?kb ?kr ?kc ?kd ?ke ?kf); (case f1 => assumption); (case f2 => exact nE'); (case ka => first | kst_in | kst_inAny); (case kb => first | (intro p hp; kst_mem) | kst_anyIn); (case kr => rfl); (case kc => kst_facts); (case kd => kst_all); (case ke => kst_same); (case kf => kst_p)) | ((refine' kst_end ⟨_, _, _, _, _, _, _, _⟩ ?f1 ?f2 ?ka ?kb ?kr ?kc ?kd ?ke ?kf); (case f1 => assumption); (case f2 => exact nE'); (case ka => first | kst_in | kst_inAny); (case kb => first | (intro p hp; kst_mem) | kst_anyIn); (case kr => rfl); (case kc => kst_facts); (case kd => kst_all); (case ke => kst_same); (case kf => kst_p)))
  k_with "mKsw" => ((rename News _ _ _ _ => nE'); (try simp only [List.push_toArray] at nE'); first | ((refine' ksw_end ⟨_, _, _, _, _, _, _, _, _, _⟩ ?f1 ?f2 ?ka ?kc ?kd ?ke ?kf ?kg); (case f1 => assumption); (case f2 => exact nE'); (case kd => kst_all); (case ka => first | kst_in | kst_inAny); (case kc => kst_facts); (case ke => ksw_same); (case kf => kst_p); (case kg => ksw_less)) | ((refine' ksw_end ⟨_, _⟩ ?f1 ?f2 ?ka ?kc ?kd ?ke ?kf ?kg); (case f1 => assumption); (case f2 => exact nE'); (case kd => kst_all); (case ka => first | kst_in | kst_inAny); (case kc => kst_facts); (case ke => ksw_same); (case kf => kst_p); (case kg => ksw_less)) | ((refine' ksw_end ⟨_, _, _, _⟩ ?f1 ?f2 ?ka ?kc ?kd ?ke ?kf ?kg); (case f1 => assumption); (case f2 => exact nE'); (case kd => kst_all); (case ka => first | kst_in | kst_inAny); (case kc => kst_facts); (case ke => ksw_same); (case kf => kst_p); (case kg => ksw_less)))
  k_with "mCall" => (k_dflt (refine' use_call (c_symbol wd _ _ _ _ _ ?a0 ?a1 ?n0 ?n1 ?n2) ?B ?F ?X ?N ?T ?K ?d ?u ?_; (case B => k_asm); (case F => k_asm); (case X => k_asm); (case N => k_asm); (case T => k_asm); (case K => first | exact rfl | assumption); (case d => first | exact room_d hd (by decide) | ktr_room); (case u => first | exact room_u3 hu (by decide) | exact room_u4 hu (by decide) | exact room_u5 hu (by decide) | decide | ktr_units); (case a0 => lia); (case a1 => lia); (case n0 => lia); (case n1 => lia); (case n2 => lia)); k_whole; intro r9 nw9 h9 tk9 F9 N9 hp9; (try dsimp only at hp9); obtain ⟨e9, t9, e8⟩ := hp9; subst e9; subst e8; (all_goals ((try dsimp only); (try k_sweep); (try k_fold))))
  k_with "mE" => ((with_reducible show wpAny _ _ (eval (Expr.IfExp (Expr.BoolOp _ _ _) _ _ _) _) _ _ _); (rename Fr _ _ _ _ => jF'); (rename News _ _ _ _ => jN'); (k_dflt (refine' int_step ?H jF' jN' ?_; (case H => (repeat' (first | ((with_reducible show IntAt _ _ _ _ _ _ _ _ (Expr.Name _ _) _); exact int_name rfl) | ((with_reducible show IntAt _ _ _ _ _ _ _ _ (Expr.Constant _ _ _) _); exact int_const) | ((with_reducible show PySem.IntMulOk _ (ite _ _ _)); exact mul_sg) | ((with_reducible show IntAt _ _ _ _ _ _ _ _ (Expr.BinOp _ Operator.Mult _ _) _); refine' int_mul ?_ ?_ ?_) | ((with_reducible show IntAt _ _ _ _ _ _ _ _ (Expr.BinOp _ Operator.Sub _ _) _); refine' int_sub ?_ ?_) | ((with_reducible show IntAt _ _ _ _ _ _ _ _ (Expr.BinOp _ Operator.Mod _ _) _); refine' int_mod ?_ ?_ ?_) | ((with_reducible show IntAt _ _ _ _ _ _ _ _ (Expr.IfExp _ _ _ _) _); refine' int_if ?_ ?_ ?_) | ((with_reducible show TestAt _ _ _ _ _ _ _ _ (Expr.BoolOp _ [] _) _); exact test_and_nil) | ((with_reducible show TestAt _ _ _ _ _ _ _ _ (Expr.BoolOp _ _ _) _); refine' test_and ?_ ?_) | ((with_reducible show TestAt _ _ _ _ _ _ _ _ (Expr.Compare _ [CmpOp.Eq] _ _) _); refine' test_eq ?_ ?_) | ((with_reducible show TestAt _ _ _ _ _ _ _ _ (Expr.Compare _ [CmpOp.Lt] _ _) _); refine' test_lt ?_ ?_) | ((with_reducible show (0 : Int) < _); decide)))); k_whole)); intro h9 tk9 t9 F9 N9; (try dsimp only); (try k_sweep); (try k_fold))
  k_with "mMod" => first | (refine step_fm _ (by decide) (Int.fmod_eq_emod_of_nonneg _ (by decide)) ?_) | (refine step_modr (by lia) ?_; intro rm hrm hrm0 hrm1)
  k_with "mDiv" => (refine step_fd _ (by decide) (by decide) (Int.fdiv_eq_ediv_of_nonneg _ (by decide)) ?_)
  k_with "mMul" => first | (refine mul_int ?_ (PySem.IntMulOk.of_right (PySem.intBits_le_64 (by lia) (by lia)))) | (refine mul_int ?_ (PySem.IntMulOk.of_right (J_fits _ _)))
  k_with "mWhile" => (k_while_given ["found!"] (fun (s0 : Int) (_ : List Int) (y : Int) (f : Int) => (0 < y ∧ y < 2 ^ 50) ∧ WideP s0 x0 (y0.natAbs : Int) y f) (fun (s0 : Int) (_ : List Int) (y : Int) (f : Int) => y.toNat) "y" "found")
  k_with "state" => first | (rw [show (if y0 < 0 then -y0 else y0) = (y0.natAbs : Int) from (by split <;> lia)]; exact ⟨⟨by lia, by lia⟩, wide_start _ _ _⟩) | exact ⟨⟨by lia, by lia⟩, wd1 (by assumption) (by assumption) (by assumption)⟩ | exact ⟨⟨by lia, by lia⟩, wd2 (by assumption) (by assumption) (by assumption) (by assumption)⟩ | exact ⟨⟨by lia, by lia⟩, wd3 (by assumption) (by assumption) (by assumption) (by assumption)⟩
  w_top off
  unfold Call
  intro mean mg mb dp un gd cn cs a1 ccd cl outer A₀ base h₀ L m s Q E B F X N T hk hd hu hret
  skip
  refine wpAny_call ?_
  k_dflt cell_enter
  k_steps
  all_goals refine hret _ _ _ _ (by assumption) (cb_drop (by assumption) (by kst_in)) ⟨rfl, _, _, rfl, wide_end (by assumption) (by first | exact sg_lt | (split <;> lia)) (by lia) (by assumption)⟩
end
section
theorem c_signed (wd : World) (news : Led) (v w : Int) (tv tw : Tok) (hw : 3 ≤ w) (hw2 : w ≤ 9)(β : Int) (hβ : (2 : Int) ^ w.toNat = β) (hβ1 : 8 ≤ β) (hβ2 : β ≤ 512) (hv0 : -8589934592 < v) (hv1 : v < 8589934592) :
    Call wd 229 3 [.int v tv, .int w tw] news (fun r news' => ∃ (t b : Addr) (vs : List Value) (nn : Nat) (f : List Int), news' = (t, { cls := .type "tuple", data := .seq #[.bool (decide (v < 0)), .ref b] }) :: (b, listOf (List.toArray vs) nn) :: news ∧ r = .ref t ∧ IntsAre vs f ∧ f.length ≤ 11 ∧ Row β (v.natAbs : Int) f) := by
  have hdum : IntsAre [] [] := .nil
  k_with_none
  k_with "mInv" => ((rename News _ _ _ _ => nE'); (try simp only [List.push_toArray] at nE'); first | ((refine' kst_end ⟨_, _, _, _, _⟩ ?f1 ?f2 ?ka ?kb ?kr ?kc ?kd ?ke ?kf); (case f1 => assumption); (case f2 => exact nE'); (case ka => first | kst_in | kst_inAny); (case kb => first | (intro p hp; kst_mem) | kst_anyIn); (case kr => rfl); (case kc => kst_facts); (case kd => kst_all); (case ke => kst_same); (case kf => kst_p)) | ((refine' kst_end ⟨_, _, _, _, _, _⟩ ?f1 ?f2 ?ka ?kb ?kr ?kc ?kd ?ke ?kf); (case f1 => assumption); (case f2 => exact nE'); (case ka => first | kst_in | kst_inAny); (case kb => first | (intro p hp; kst_mem) | kst_anyIn); (case kr => rfl); (case kc => kst_facts); (case kd => kst_all); (case ke => kst_same); (case kf => kst_p)) | ((refine' kst_end ⟨_, _, _⟩ ?f1 ?f2 ?ka ?kb ?kr ?kc ?kd ?ke ?kf); (case f1 => assumption); (case f2 => exact nE'); (case ka => first | kst_in | kst_inAny); (case kb => first | (intro p hp; kst_mem) | kst_anyIn); (case kr => rfl); (case kc => kst_facts); (case kd => kst_all); (case ke => kst_same); (case kf => kst_p)) | ((refine' kst_end _ ?f1 ?f2 ?ka ?kb ?kr ?kc ?kd ?ke ?kf); (case f1 => assumption); (case f2 => exact nE'); (case ka => first | kst_in | kst_inAny); (case kb => first | (intro p hp; kst_mem) | kst_anyIn); (case kr => rfl); (case kc => kst_facts); (case kd => kst_all); (case ke => kst_same); (case kf => kst_p)) | ((refine' kst_end ⟨_, _⟩ ?f1 ?f2 ?ka ?kb ?kr ?kc ?kd ?ke ?kf); (case f1 => assumption); (case f2 => exact nE'); (case ka => first | kst_in | kst_inAny); (case kb => first | (intro p hp; kst_mem) | kst_anyIn); (case kr => rfl); (case kc => kst_facts); (case kd => kst_all); (case ke => kst_same); (case kf => kst_p)) | ((refine' kst_end ⟨_, _, _, _, _, _, _, _⟩ ?f1 ?f2 ?ka ?kb ?kr ?kc ?kd ?ke ?kf); (case f1 => assumption); (case f2 => exact nE'); (case ka => first | kst_in | kst_inAny); (case kb => first | (intro p hp; kst_mem) | kst_anyIn); (case kr => rfl); (case kc => kst_facts); (case kd => kst_all); (case ke => kst_same); (case kf => kst_p)))
  k_with "mCall" => (k_dflt (refine' use_call (c_row wd _ _ w _ _ hw hw2 β hβ hβ1 hβ2 ?v0 ?v1) ?B ?F ?X ?N ?T ?K ?d ?u ?_; (case B => k_asm); (case F => k_asm); (case X => k_asm); (case N => k_asm); (case T => k_asm); (case K => first | exact rfl | assumption); (case d => first | exact room_d hd (by decide) | ktr_room); (case u => first | exact room_u3 hu (by decide) | exact room_u4 hu (by decide) | exact room_u5 hu (by decide) | decide | ktr_units); (case v0 => lia); (case v1 => lia)); k_whole; intro r9 nw9 h9 tk9 F9 N9 hp9; (try dsimp only at hp9); obtain ⟨b9, vs9, nn9, f9, e9, e8, l9, i9, y8, y9⟩ := hp9; subst e9; subst e8; (try simp only [AllLt, and_true] at l9); (all_goals ((try dsimp only); (try k_sweep); (try k_fold))))
  w_top off
  unfold Call
  intro mean mg mb dp un gd cn cs a1 ccd cl outer A₀ base h₀ L m s Q E B F X N T hk hd hu hret
  skip
  refine wpAny_call ?_
  k_dflt cell_enter
  k_steps
  refine hret _ _ _ _ (by assumption) (cb_drop (by assumption) (by kst_in)) ⟨_, _, _, _, _, rfl, rfl, i9, y8, by
    rw [show (v.natAbs : Int) = if v < 0 then -v else v from (by split <;> lia)]; exact y9⟩
end
section
local macro_rules | `(tactic| walk_at "call builtin:list.pop") => `(tactic| k_dflt (k_extra "mPop"))
theorem c_take (wd : World) (a b : Addr) (us : List Value) (xs : List Int) (n k : Nat) (c many : Int) (tc tm : Tok) (news : Led) (g1 : Obj → Led) (g2 : Obj → Obj → Led) (U1 : UpdF a (listOf [Value.ref b, Value.int c tc].toArray n) news g1) (U2 : ∀ o, UpdF b (listOf us.toArray k) (g1 o) (g2 o)) (hab : a ≠ b) (hi : IntsAre us xs) (hlen : xs.length < 1000) (hc : 0 ≤ c) (hc2 : c < 1000003) (hm : 0 < many) (hm2 : many < 10000000) :
    Call wd 189 1 [.ref a, .int many tm] news (fun r news' => ∃ (n' k' : Nat) (c' : Int) (tc' : Tok) (us' : List Value) (xs' : List Int) (q : Int) (t : Tok), news' = g2 (listOf [Value.ref b, Value.int c' tc'].toArray n') (listOf (List.toArray us') k') ∧ r = .int q t ∧ 0 ≤ q ∧ q < many ∧ 0 ≤ c' ∧ c' < 1000003 ∧ IntsAre us' xs' ∧ xs'.length ≤ xs.length) := by
  obtain ⟨tl, ht, hsub, hback⟩ := two_upd hab U1 U2
  have hta : ∀ p ∈ tl, p.1 ≠ a := fun p hp => (ht p hp).1
  have htb : ∀ p ∈ tl, p.1 ≠ b := fun p hp => (ht p hp).2
  clear ht
  have kMark := kstMark
  have hab1 := neN hab
  have hab2 := neN (Ne.symm hab)
  k_with_none
  k_with "mInv" => ((rename News _ _ _ _ => nE'); (try simp only [List.push_toArray] at nE'); first | ((refine' kst_end ⟨_, _, _, _, _⟩ ?f1 ?f2 ?ka ?kb ?kr ?kc ?kd ?ke ?kf); (case f1 => assumption); (case f2 => exact nE'); (case ka => first | kst_in | kst_inAny); (case kb => first | (intro p hp; kst_mem) | kst_anyIn); (case kr => rfl); (case kc => kst_facts); (case kd => kst_all); (case ke => kst_same); (case kf => kst_p)) | ((refine' kst_end ⟨_, _, _, _, _, _⟩ ?f1 ?f2 ?ka ?kb ?kr ?kc ?kd ?ke ?kf); (case f1 => assumption); (case f2 => exact nE'); (case ka => first | kst_in | kst_inAny); (case kb => first | (intro p hp; kst_mem) | kst_anyIn); (case kr => rfl); (case kc => kst_facts); (case kd => kst_all); (case ke => kst_same); (case kf => kst_p)) | ((refine' kst_end ⟨_, _, _⟩ ?f1 ?f2 ?ka ?kb ?kr ?kc ?kd ?ke ?kf); (case f1 => assumption); (case f2 => exact nE'); (case ka => first | kst_in | kst_inAny); (case kb => first | (intro p hp; kst_mem) | kst_anyIn); (case kr => rfl); (case kc => kst_facts); (case kd => kst_all); (case ke => kst_same); (case kf => kst_p)) | ((refine' kst_end _ ?f1 ?f2 ?ka ?kb ?kr ?kc ?kd ?ke ?kf); (case f1 => assumption); (case f2 => exact nE'); (case ka => first | kst_in | kst_inAny); (case kb => first | (intro p hp; kst_mem) | kst_anyIn); (case kr => rfl); (case kc => kst_facts); (case kd => kst_all); (case ke => kst_same); (case kf => kst_p)) | ((refine' kst_end ⟨_, _⟩ ?f1 ?f2 ?ka ?kb ?kr ?kc ?kd ?ke ?kf); (case f1 => assumption); (case f2 => exact nE'); (case ka => first | kst_in | kst_inAny); (case kb => first | (intro p hp; kst_mem) | kst_anyIn); (case kr => rfl); (case kc => kst_facts); (case kd => kst_all); (case ke => kst_same); (case kf => kst_p)) | ((refine' kst_end ⟨_, _, _, _, _, _, _, _⟩ ?f1 ?f2 ?ka ?kb ?kr ?kc ?kd ?ke ?kf); (case f1 => assumption); (case f2 => exact nE'); (case ka => first | kst_in | kst_inAny); (case kb => first | (intro p hp; kst_mem) | kst_anyIn); (case kr => rfl); (case kc => kst_facts); (case kd => kst_all); (case ke => kst_same); (case kf => kst_p)))
  k_with "mMul" => (refine mul_int ?_ (PySem.IntMulOk.of_left (PySem.intBits_le_64 (by lia) (by lia))))
  k_with "mMod" => (refine step_modr (by lia) ?_; intro rm hrm hrm0 hrm1)
  k_with "mDiv" => (refine step_fd _ (by decide) (by decide) (Int.fdiv_eq_ediv_of_nonneg _ (by decide)) ?_)
  k_with "mPop" => (refine' kl_popAt (p := []) (q := us0) (y := Value.int x0 t0) (k := 0) ?F ?N (by decide) ?hk ?e ?U ?z ?_; (case F => k_asm); (case N => k_asm); (case U => k_upd); (case e => rfl); (case hk => simp [seqIndex?]); (case z => (rw [PySem.sizeLine_eq]; have h := hi9.length; simp only [List.length_cons] at h hlen; show (Value.int x0 t0 :: us0).length ≤ _; simp only [List.length_cons]; lia)); intro h9 F9 N9)
  cases hi with
  | nil =>
    w_top off
    unfold Call
    intro mean mg mb dp un gd cn cs a1 ccd cl outer A₀ base h₀ L m s Q E B F X N T hk hd hu hret
    replace N := cb_drop N hsub
    refine wpAny_call ?_
    k_dflt cell_enter
    k_steps
    all_goals (refine hret _ _ _ _ (by assumption) (fun p hp => (by assumption : News h₀ L _ ((a, _) :: (b, _) :: tl)) p (hback _ _ p hp)) ⟨_, _, _, _, _, _, _, _, rfl, rfl, by lia, by lia, by lia, by lia, .nil, Nat.le_refl _⟩)
  | @cons x0 t0 us0 xs0 hi0 =>
    have hi9 := IntsAre.cons x0 t0 hi0
    w_top off
    unfold Call
    intro mean mg mb dp un gd cn cs a1 ccd cl outer A₀ base h₀ L m s Q E B F X N T hk hd hu hret
    replace N := cb_drop N hsub
    refine wpAny_call ?_
    k_dflt cell_enter
    k_steps
    · refine hret _ _ _ _ (by assumption) (fun p hp => (by assumption : News h₀ L _ ((a, _) :: (b, _) :: tl)) p (hback _ _ p hp)) ⟨_, _, _, _, _, xs0, _, _, rfl, rfl, by lia, by lia, by lia, by lia, hi0, by simp⟩
    · refine hret _ _ _ _ (by assumption) (fun p hp => (by assumption : News h₀ L _ ((a, _) :: (b, _) :: tl)) p (hback _ _ p hp)) ⟨_, _, _, _, _, _, _, _, rfl, rfl, by lia, by lia, by lia, by lia, hi9, Nat.le_refl _⟩
end
section
local macro_rules | `(tactic| walk_at "eval IfExp") => `(tactic| k_dflt (k_extra "mE"))
local macro_rules | `(tactic| walk_at "exec If") => `(tactic| k_dflt (k_extra "mIf"))
local macro_rules | `(tactic| walk_at "execs nil") => `(tactic| refine wpAny_execs_nil ?_)
local macro_rules | `(tactic| wrow_close) => `(tactic| first | (with_reducible refine IfR.mk ?_; (rename News _ _ _ _ => nI'); refine ⟨_, _, rfl, by with_reducible assumption, news_sub nI' (by intro p hp; with_reducible (repeat' (first | exact hp | refine List.mem_cons_of_mem _ ?_))), ?_⟩; first | refine .inl ⟨rfl, ?_⟩ | refine .inr ⟨_, rfl, ?_⟩) | (with_reducible refine IfOut.mk rfl ?_; (rename News _ _ _ _ => nI'); exact ⟨_, _, rfl, by with_reducible assumption, news_sub nI' (by intro p hp; with_reducible (repeat' (first | exact hp | refine List.mem_cons_of_mem _ ?_)))⟩) | (with_reducible refine ExInt.mk ?_; (rename News _ _ _ _ => nI'); refine ⟨_, _, _, _, rfl, ?_, rfl, by with_reducible assumption, news_sub nI' (by intro p hp; with_reducible (repeat' (first | exact hp | refine List.mem_cons_of_mem _ ?_)))⟩) | (with_reducible refine VarOut.mk rfl ?_; (rename News _ _ _ _ => nI'); (rename Fr _ _ _ _ => fI'); refine ⟨_, _, _, _, ?_, rfl, by first | exact fI' | exact fr_same fI' rfl, news_sub nI' (by intro p hp; with_reducible (repeat' (first | exact hp | refine List.mem_cons_of_mem _ ?_)))⟩))
theorem c_kron (wd : World) (xa ya a b : Addr) (sx sy : Bool) (us vs : List Value) (xs0 ys0 : List Int) (n0 k0 : Nat) (news : Led) (w : Int) (tw : Tok) (hmx : (xa, ({ cls := .type "tuple", data := .seq #[.bool sx, .ref a] } : Obj)) ∈ news) (hmy : (ya, ({ cls := .type "tuple", data := .seq #[.bool sy, .ref b] } : Obj)) ∈ news) (hm : (a, listOf us.toArray n0) ∈ news) (hm2 : (b, listOf vs.toArray k0) ∈ news) (hi : IntsAre us xs0) (hj : IntsAre vs ys0) (hlen : xs0.length < 400) (hlen2 : ys0.length < 400) (hw : 3 ≤ w) (hw2 : w ≤ 9)(β : Int) (hβ : (2 : Int) ^ w.toNat = β) (hβ1 : 8 ≤ β) (hβ2 : β ≤ 512) (A0 N0 : Int) (hA : Row β A0 xs0) (hN : Row β N0 ys0) (hpos : 0 < N0) :
    Call wd 140 8 [.ref xa, .ref ya, .int w tw, .ref 182] news (fun r news' => news' = news ∧ ∃ r0 t, r = .int r0 t ∧ KR sx sy A0 N0 r0) := by
  have hyl := (hN.pos (by lia)).mp hpos
  have hNe := hN.eq
  have hAe := hA.eq
  have hNv : Row β (val β ys0) ys0 := hN.eq.symm ▸ hN
  k_with_none
  k_with "mInv" => ((rename News _ _ _ _ => nE'); (try simp only [List.push_toArray] at nE'); first | ((refine' kst_end ⟨_, _, _, _, _⟩ ?f1 ?f2 ?ka ?kb ?kr ?kc ?kd ?ke ?kf); (case f1 => assumption); (case f2 => exact nE'); (case ka => first | kst_in | kst_inAny); (case kb => first | (intro p hp; kst_mem) | kst_anyIn); (case kr => rfl); (case kc => kst_facts); (case kd => kst_all); (case ke => kst_same); (case kf => kst_p)) | ((refine' kst_end ⟨_, _, _, _, _, _⟩ ?f1 ?f2 ?ka ?kb ?kr ?kc ?kd ?ke ?kf); (case f1 => assumption); (case f2 => exact nE'); (case ka => first | kst_in | kst_inAny); (case kb => first | (intro p hp; kst_mem) | kst_anyIn); (case kr => rfl); (case kc => kst_facts); (case kd => kst_all); (case ke => kst_same); (case kf => kst_p)) | ((refine' kst_end ⟨_, _, _⟩ ?f1 ?f2 ?ka ?kb ?kr ?kc ?kd ?ke ?kf); (case f1 => assumption); (case f2 => exact nE'); (case ka => first | kst_in | kst_inAny); (case kb => first | (intro p hp; kst_mem) | kst_anyIn); (case kr => rfl); (case kc => kst_facts); (case kd => kst_all); (case ke => kst_same); (case kf => kst_p)) | ((refine' kst_end _ ?f1 ?f2 ?ka ?kb ?kr ?kc ?kd ?ke ?kf); (case f1 => assumption); (case f2 => exact nE'); (case ka => first | kst_in | kst_inAny); (case kb => first | (intro p hp; kst_mem) | kst_anyIn); (case kr => rfl); (case kc => kst_facts); (case kd => kst_all); (case ke => kst_same); (case kf => kst_p)) | ((refine' kst_end ⟨_, _⟩ ?f1 ?f2 ?ka ?kb ?kr ?kc ?kd ?ke ?kf); (case f1 => assumption); (case f2 => exact nE'); (case ka => first | kst_in | kst_inAny); (case kb => first | (intro p hp; kst_mem) | kst_anyIn); (case kr => rfl); (case kc => kst_facts); (case kd => kst_all); (case ke => kst_same); (case kf => kst_p)) | ((refine' kst_end ⟨_, _, _, _, _, _, _, _⟩ ?f1 ?f2 ?ka ?kb ?kr ?kc ?kd ?ke ?kf); (case f1 => assumption); (case f2 => exact nE'); (case ka => first | kst_in | kst_inAny); (case kb => first | (intro p hp; kst_mem) | kst_anyIn); (case kr => rfl); (case kc => kst_facts); (case kd => kst_all); (case ke => kst_same); (case kf => kst_p)))
  k_with "mE" => ((with_reducible show wpAny _ _ (eval (Expr.IfExp (Expr.BoolOp _ (Expr.Subscript _ _ _ :: _) _) _ _ _) _) _ _ _); (rename Fr _ _ _ _ => jF'); (rename News _ _ _ _ => jN'); (k_dflt (refine ex_int (fun z => z = if sx = true ∧ sy = true then -1 else 1) jF' jN' (wpAny_IfExp ?_) ?_)); rotate_left; (intro f0 h9 tk9 t9 hf0 F9 N9; (try dsimp only at hf0); (try dsimp only); (try k_sweep); (try k_fold)); rotate_left)
  k_with "mIf" => first | ((with_reducible show wpAny _ _ (exec (Stmt.If (Expr.BoolOp _ (Expr.Call _ _ _ _ :: _) _) _ _ _) _) _ _ _); (rename Fr _ _ _ _ => jF'); (rename News _ _ _ _ => jN'); (k_dflt (refine if_ret (val β xs0 % 2 = 0 ∧ val β ys0 % 2 = 0) jF' jN' ?_ ?_ ?_)); rotate_left; (intro h9 tk9 hev F9 N9; (try dsimp only); (try k_sweep); (try k_fold)); rotate_left; (intro h9 tk9 t9 hev F9 N9; (try dsimp only); (try k_sweep); (try k_fold)); rotate_left) | ((with_reducible show wpAny _ _ (exec (Stmt.If (Expr.Compare (Expr.Name _ _) [CmpOp.Gt] _ _) _ _ _) _) _ _ _); (rename Fr _ _ _ _ => jF'); (rename News _ _ _ _ => jN'); (k_dflt (refine var_cut (Str.ofString "found") (fun z => z = f0 * two kt A0) jF' jN' (wpAny_If ?_) ?_)); rotate_left; (intro f1 h9 tk9 t9 hf1 F9 N9; (try dsimp only at hf1); (try dsimp only); (try k_sweep); (try k_fold)); rotate_left) | ((with_reducible show wpAny _ _ (exec (Stmt.If (Expr.BoolOp _ (Expr.Subscript _ _ _ :: _) _) _ _ _) _) _ _ _); (rename Fr _ _ _ _ => jF'); (rename News _ _ _ _ => jN'); (k_dflt (refine var_cut (Str.ofString "found") (fun z => z = f1 * (if sx = true ∧ (2 * qt + 1) % 4 = 3 then -1 else 1)) jF' jN' (wpAny_If ?_) ?_)); rotate_left; (intro f2 h9 tk9 t9 hf2 F9 N9; (try dsimp only at hf2); (try dsimp only); (try k_sweep); (try k_fold)); rotate_left)
  k_with "mCall" => (k_dflt (refine' use_call (c_is_even wd _ _ _ _ _ ?hm ?hi ?hl) ?B ?F ?X ?N ?T ?K ?d ?u ?_; (case B => k_asm); (case F => k_asm); (case X => k_asm); (case N => k_asm); (case T => k_asm); (case K => first | exact rfl | assumption); (case d => first | exact room_d hd (by decide) | ktr_room); (case u => first | exact room_u3 hu (by decide) | exact room_u4 hu (by decide) | exact room_u5 hu (by decide) | decide | ktr_units); (case hm => first | k_mem | k_memK | kst_mem); (case hi => assumption); (case hl => lia)); k_whole; intro r9 nw9 h9 tk9 F9 N9 hp9; (try dsimp only at hp9); obtain ⟨e9, b0, e8, y9⟩ := hp9; subst e9; subst e8; rw [← val_mod2 hw hβ] at y9; cases b0; (simp only [Bool.false_eq_true, false_iff] at y9); rotate_left; (simp only [true_iff] at y9); rotate_left; (all_goals ((try dsimp only); (try k_sweep); (try k_fold))))
  k_with "mCall" => (k_dflt (refine' use_call (c_trailing wd _ _ _ _ _ w _ ?hm ?hi ?hl hw hw2 ?h0 ?hex) ?B ?F ?X ?N ?T ?K ?d ?u ?_; (case B => k_asm); (case F => k_asm); (case X => k_asm); (case N => k_asm); (case T => k_asm); (case K => first | exact rfl | assumption); (case d => first | exact room_d hd (by decide) | ktr_room); (case u => first | exact room_u3 hu (by decide) | exact room_u4 hu (by decide) | exact room_u5 hu (by decide) | decide | ktr_units); (case hm => first | k_mem | k_memK | kst_mem); (case hi => assumption); (case hl => lia); (case h0 => exact fun x hx => (hN.dig x hx).1); (case hex => exact row_ex hNv (by lia))); k_whole; intro r9 nw9 h9 tk9 F9 N9 hp9; (try dsimp only at hp9); obtain ⟨e9, kt, tt, it, et, ot, e8, y1, y2, y3, y4, y5⟩ := hp9; subst e9; subst e8; obtain ⟨kt0, kt1, qt, qt0, hqt⟩ := trail_val hw hw2 hβ hN.dig (by lia) y1 y2 y3 y4 y5; clear y1 y2 y3 y4 y5; (all_goals ((try dsimp only); (try k_sweep); (try k_fold))))
  k_with "mCall" => (k_dflt (refine' use_call (c_shr wd _ _ _ _ _ _ w _ _ ?hm ?hi ?hl hw hw2 β hβ hβ1 hβ2 kt0 kt1 hN.dig) ?B ?F ?X ?N ?T ?K ?d ?u ?_; (case B => k_asm); (case F => k_asm); (case X => k_asm); (case N => k_asm); (case T => k_asm); (case K => first | exact rfl | assumption); (case d => first | exact room_d hd (by decide) | ktr_room); (case u => first | exact room_u3 hu (by decide) | exact room_u4 hu (by decide) | exact room_u5 hu (by decide) | decide | ktr_units); (case hm => first | k_mem | k_memK | kst_mem); (case hi => assumption); (case hl => lia)); k_whole; intro r9 nw9 h9 tk9 F9 N9 hp9; (try dsimp only at hp9); obtain ⟨b8, vs8, f8, e9, e8, l8, i8, y8, y7⟩ := hp9; subst e9; subst e8; (try simp only [AllLt, and_true] at l8); rw [odd_shift hqt] at y7; (all_goals ((try dsimp only); (try k_sweep); (try k_fold))))
  k_with "mCall" => (k_dflt (refine' use_call (c_two wd _ _ _ _ _ _ w _ _ ?hm ?hi ?hl hw hw2) ?B ?F ?X ?N ?T ?K ?d ?u ?_; (case B => k_asm); (case F => k_asm); (case X => k_asm); (case N => k_asm); (case T => k_asm); (case K => first | exact rfl | assumption); (case d => first | exact room_d hd (by decide) | ktr_room); (case u => first | exact room_u3 hu (by decide) | exact room_u4 hu (by decide) | exact room_u5 hu (by decide) | decide | ktr_units); (case hm => first | k_mem | k_memK | kst_mem); (case hi => assumption); (case hl => lia)); k_whole; intro r9 nw9 h9 tk9 F9 N9 hp9; (try dsimp only at hp9); obtain ⟨e9, t9, e8⟩ := hp9; subst e9; subst e8; rw [show (if kt % 2 = 1 ∧ (xs0.getD 0 0 % 8 = 3 ∨ xs0.getD 0 0 % 8 = 5) then (-1 : Int) else 1) = two kt A0 from (by unfold two; rw [← val_mod8 hw hβ, hA.eq])]; have htw := two_sign_abs kt A0; generalize htwe : two kt A0 = tw9 at htw; (all_goals ((try dsimp only); (try k_sweep); (try k_fold))))
  k_with "mCall" => (k_dflt (refine' use_call (c_last2 wd _ _ _ _ _ w _ _ ?hm ?hi ?hl hw hw2) ?B ?F ?X ?N ?T ?K ?d ?u ?_; (case B => k_asm); (case F => k_asm); (case X => k_asm); (case N => k_asm); (case T => k_asm); (case K => first | exact rfl | assumption); (case d => first | exact room_d hd (by decide) | ktr_room); (case u => first | exact room_u3 hu (by decide) | exact room_u4 hu (by decide) | exact room_u5 hu (by decide) | decide | ktr_units); (case hm => first | k_mem | k_memK | kst_mem); (case hi => assumption); (case hl => lia)); k_whole; intro r9 nw9 h9 tk9 F9 N9 hp9; (try dsimp only at hp9); obtain ⟨e9, t9, e8⟩ := hp9; subst e9; subst e8; have hl4 : f8.getD 0 0 % 4 = (2 * qt + 1) % 4 := (by rw [← val_mod4 hw hβ, y7.eq]); rw [hl4]; (all_goals ((try dsimp only); (try k_sweep); (try k_fold))))
  k_with "mCall" => (k_dflt (refine' use_call (c_jacobi wd _ _ _ _ _ _ _ _ _ w _ ?hm ?hm2 ?hi ?hj ?hl ?hl2 hw hw2 β hβ hβ1 hβ2 A0 (2 * qt + 1) hA y7 ?h1 ?h2) ?B ?F ?X ?N ?T ?K ?d ?u ?_; (case B => k_asm); (case F => k_asm); (case X => k_asm); (case N => k_asm); (case T => k_asm); (case K => first | exact rfl | assumption); (case d => first | exact room_d hd (by decide) | ktr_room); (case u => first | exact room_u3 hu (by decide) | exact room_u4 hu (by decide) | exact room_u5 hu (by decide) | decide | ktr_units); (case hm => first | k_mem | k_memK | kst_mem); (case hm2 => first | k_mem | k_memK | kst_mem); (case hi => assumption); (case hj => assumption); (case hl => lia); (case hl2 => lia); (case h1 => lia); (case h2 => lia)); k_whole; intro r9 nw9 h9 tk9 F9 N9 hp9; (try dsimp only at hp9); obtain ⟨e9, t9, e8⟩ := hp9; subst e9; subst e8; (all_goals ((try dsimp only); (try k_sweep); (try k_fold))))
  k_with "mCall" => ((with_reducible show wpAny _ _ (call (Value.ref 72) _) _ _ _); exfalso; lia)
  k_with "mMul" => first | (refine mul_int ?_ (PySem.IntMulOk.of_right (PySem.intBits_le_64 (by lia) (by lia)))) | (refine mul_int ?_ (PySem.IntMulOk.of_right (J_fits _ _)))
  w_top off
  unfold Call
  intro mean mg mb dp un gd cn cs a1 ccd cl outer A₀ base h₀ L m s Q E B F X N T hk hd hu hret
  replace N := news_dup N hm2
  replace N := news_dup N (List.mem_cons_of_mem _ hm)
  replace N := news_dup N (List.mem_cons_of_mem _ (List.mem_cons_of_mem _ hmy))
  replace N := news_dup N (List.mem_cons_of_mem _ (List.mem_cons_of_mem _ (List.mem_cons_of_mem _ hmx)))
  refine wpAny_call ?_
  k_dflt cell_enter
  k_steps
  all_goals first
    | (refine hret _ _ _ _ (by assumption) (cb_drop (by assumption) (by intro p hp; with_reducible (repeat' (first | exact hp | refine List.mem_cons_of_mem _ ?_)))) ⟨rfl, _, _, rfl, ?_⟩
       have hne : ¬ (A0 % 2 = 0 ∧ N0 % 2 = 0) := (by rw [← hAe, ← hNe]; exact hev)
       have hN' : N0 = 2 ^ kt.toNat * (2 * qt + 1) := hNe ▸ hqt
       exact kr_way hne qt0 hN' kt0 hf0 rfl (by rw [hf2, hf1]))
    | (refine hret _ _ _ _ (by assumption) (cb_drop (by assumption) (by intro p hp; with_reducible (repeat' (first | exact hp | refine List.mem_cons_of_mem _ ?_)))) ⟨rfl, _, _, rfl, .inl ⟨hAe ▸ hev.1, hNe ▸ hev.2, rfl⟩⟩)
    | exact ite_tf (p := val β xs0 % 2 = 0) (by with_reducible assumption)
    | exact ite_tf (p := val β ys0 % 2 = 0) (by with_reducible assumption)
    | exact ⟨ite_tf (p := val β xs0 % 2 = 0) (by with_reducible assumption), ite_tf (p := val β ys0 % 2 = 0) (by with_reducible assumption)⟩
    | exact fun z => ite_ff (p := val β xs0 % 2 = 0) (by with_reducible assumption) z.1
    | exact fun z => ite_ff (p := val β ys0 % 2 = 0) (by with_reducible assumption) z.2
    | exact (if_pos ⟨(show sx = true by with_reducible assumption), (show sy = true by with_reducible assumption)⟩).symm
    | exact (if_neg (fun z => absurd (z.2.symm.trans (show sy = false by with_reducible assumption)) (by decide))).symm
    | exact (if_neg (fun z => absurd (z.1.symm.trans (show sx = false by with_reducible assumption)) (by decide))).symm
    | (show _ = f0 * two kt A0; first | rfl | (rw [htwe]) | (rw [show kt = 0 from Int.le_antisymm (Int.not_lt.mp (show ¬ 0 < kt by with_reducible assumption)) kt0, two_zero, Int.mul_one]))
    | (show _ = f1 * _; first
       | (rw [if_pos ⟨(show sx = true by with_reducible assumption), (show (2 * qt + 1) % 4 = 3 by with_reducible assumption)⟩]; lia)
       | (rw [if_neg (fun z => absurd (z.1.symm.trans (show sx = false by with_reducible assumption)) (by decide)), Int.mul_one])
       | (rw [if_neg (fun z => (show (2 * qt + 1) % 4 ≠ 3 by with_reducible assumption) z.2), Int.mul_one]))
end
section
local macro_rules | `(tactic| k_qdec) => `(tactic| decide +kernel)
local macro_rules | `(tactic| walk_at "call builtin:list.pop") => `(tactic| k_dflt (k_extra "mPop"))
local macro_rules | `(tactic| walk_at "compareOp NotEq int int") => `(tactic| k_dflt (k_extra "mNe"))
local macro_rules | `(tactic| walk_at "compareOp NotEq bool bool") => `(tactic| k_dflt (k_extra "mNeB"))
local macro_rules | `(tactic| walk_at "compareOp Eq int int") => `(tactic| k_dflt (k_extra "mEq"))
local macro_rules | `(tactic| walk_at "exec If") => `(tactic| k_dflt (k_extra "mIf"))
local macro_rules | `(tactic| walk_at "eval Call Name cons nil") => `(tactic| k_dflt (k_extra "mJ"))
local macro_rules | `(tactic| walk_at "eval BinOp") => `(tactic| k_dflt (k_extra "mE"))
local macro_rules | `(tactic| walk_at "eval Call") => `(tactic| k_dflt (k_extra "mC"))
local macro_rules | `(tactic| walk_at "eval") => `(tactic| k_dflt (k_extra "mE"))
local macro_rules | `(tactic| walk_at "eval Name") => `(tactic| k_dflt (k_extra "mN"))
local macro_rules | `(tactic| walk_at "execs nil") => `(tactic| refine wpAny_execs_nil ?_)
local macro_rules | `(tactic| wrow_close) => `(tactic| first | (with_reducible refine IfOut.mk rfl ?_; (rename News _ _ _ _ => nI'); exact ⟨_, _, rfl, by with_reducible assumption, news_sub nI' (by intro p hp; with_reducible (repeat' (first | exact hp | refine List.mem_cons_of_mem _ ?_)))⟩) | (with_reducible refine IntOut.mk ⟨_, rfl⟩ ?_; (rename News _ _ _ _ => nI'); exact ⟨_, _, rfl, by with_reducible assumption, news_sub nI' (by intro p hp; with_reducible (repeat' (first | exact hp | refine List.mem_cons_of_mem _ ?_)))⟩) | (with_reducible refine RowOut.mk ?_; exact ⟨_, _, _, _, _, _, rfl, rfl, by with_reducible assumption, by with_reducible assumption, by with_reducible assumption, by with_reducible assumption, by with_reducible assumption, by with_reducible assumption⟩))
local macro_rules | `(tactic| walk_at "ite") => `(tactic| (with_reducible refine PyProof.Rows.ite_ff ?_))
theorem law_dev : PySem.Challenge.rw_nz0084_01.Holds := hd rfl rfl rfl (by
  k_with_none
  k_with "mInv" => ((rename News _ _ _ _ => nE'); (try simp only [List.push_toArray] at nE'); first | ((refine' kst_end ⟨_, _, _, _, _⟩ ?f1 ?f2 ?ka ?kb ?kr ?kc ?kd ?ke ?kf); (case f1 => assumption); (case f2 => exact nE'); (case ka => first | kst_in | kst_inAny); (case kb => first | (intro p hp; kst_mem) | kst_anyIn); (case kr => rfl); (case kc => kst_facts); (case kd => kst_all); (case ke => kst_same); (case kf => kst_p)) | ((refine' kst_end ⟨_, _, _, _, _, _⟩ ?f1 ?f2 ?ka ?kb ?kr ?kc ?kd ?ke ?kf); (case f1 => assumption); (case f2 => exact nE'); (case ka => first | kst_in | kst_inAny); (case kb => first | (intro p hp; kst_mem) | kst_anyIn); (case kr => rfl); (case kc => kst_facts); (case kd => kst_all); (case ke => kst_same); (case kf => kst_p)) | ((refine' kst_end ⟨_, _, _⟩ ?f1 ?f2 ?ka ?kb ?kr ?kc ?kd ?ke ?kf); (case f1 => assumption); (case f2 => exact nE'); (case ka => first | kst_in | kst_inAny); (case kb => first | (intro p hp; kst_mem) | kst_anyIn); (case kr => rfl); (case kc => kst_facts); (case kd => kst_all); (case ke => kst_same); (case kf => kst_p)) | ((refine' kst_end _ ?f1 ?f2 ?ka ?kb ?kr ?kc ?kd ?ke ?kf); (case f1 => assumption); (case f2 => exact nE'); (case ka => first | kst_in | kst_inAny); (case kb => first | (intro p hp; kst_mem) | kst_anyIn); (case kr => rfl); (case kc => kst_facts); (case kd => kst_all); (case ke => kst_same); (case kf => kst_p)) | ((refine' kst_end ⟨_, _⟩ ?f1 ?f2 ?ka ?kb ?kr ?kc ?kd ?ke ?kf); (case f1 => assumption); (case f2 => exact nE'); (case ka => first | kst_in | kst_inAny); (case kb => first | (intro p hp; kst_mem) | kst_anyIn); (case kr => rfl); (case kc => kst_facts); (case kd => kst_all); (case ke => kst_same); (case kf => kst_p)) | ((refine' kst_end ⟨_, _, _, _, _, _, _, _⟩ ?f1 ?f2 ?ka ?kb ?kr ?kc ?kd ?ke ?kf); (case f1 => assumption); (case f2 => exact nE'); (case ka => first | kst_in | kst_inAny); (case kb => first | (intro p hp; kst_mem) | kst_anyIn); (case kr => rfl); (case kc => kst_facts); (case kd => kst_all); (case ke => kst_same); (case kf => kst_p)))
  k_with "pyIter ref" => ((with_reducible show wpAny _ _ (pyIter (Value.ref _)) (fun it s₂ => LoopAtV _ _ _ _ _ _ _ _ _ it s₂) _ _); (rename Fr _ _ _ _ => lF'); (rename News _ _ _ _ => lN'); (with_unfolding_all refine' kst_box ?hh ?hi lF' lN' ?_ ?_); (case hh => exact rfl); (case hi => with_reducible assumption); (all_goals (try clear lF' lN')); rotate_left; (intro c8 tc8 k8 u8 h8 tk8 c80 c81 kFr kNews; have kMark := kstMark; rw [lst_list] at kNews; obtain ⟨xs8, i8, l8⟩ : ∃ xs9, IntsAre ys xs9 ∧ xs9.length < 1000 := ⟨_, (by with_reducible assumption), (by rw [List.length_map, List.length_take]; lia)⟩); rotate_left; (intro c8 tc8 k8 pre8 n8 t8 u8 h8 tk8 own8 m8 kOff c80 c81 kFr kNews; have kMark := kstMark; (try simp only [List.nil_append, List.cons_append] at kNews)); (all_goals (try k_fold)))
  k_with "mCall" => (k_dflt (refine' use_call (c_take _ _ _ _ _ _ _ _ _ _ _ _ _ _ ?U1 ?U2 ?hab ?hi ?hl ?hc ?hc2 ?hm ?hm2) ?B ?F ?X ?N ?T ?K ?d ?u ?_; (case B => k_asm); (case F => k_asm); (case X => k_asm); (case N => k_asm); (case T => k_asm); (case K => first | exact rfl | assumption); (case d => first | exact room_d hd (by decide) | ktr_room); (case u => first | exact room_u3 hu (by decide) | exact room_u4 hu (by decide) | exact room_u5 hu (by decide) | decide | ktr_units); (case U1 => k_updF); (case U2 => (intro o9; k_updF)); (case hab => k_ne); (case hi => with_reducible assumption); (case hl => lia); (case hc => with_reducible assumption); (case hc2 => with_reducible assumption); (case hm => decide); (case hm2 => decide)); k_whole; intro r9 nw9 h9 tk9 F9 N9 hp9; (try dsimp only at hp9); obtain ⟨n9, k9, c9, t9, us9, xs9, q9, s9, e9, e8, q0, q1, cc0, cc1, i9, l9⟩ := hp9; subst e9; subst e8; (try replace N9 := news_mid N9); (try (have hq7 : q9 < 7 := q1; obtain ⟨β, hβ, hβ1, hβ2⟩ := beta_law q0 hq7; have hw : 3 ≤ 3 + q9 := (by lia); have hw2 : 3 + q9 ≤ 9 := (by lia))); (all_goals ((try dsimp only); (try k_sweep); (try k_fold))))
  k_with "mCall" => (k_dflt (refine' use_call (c_row _ _ _ _ _ _ hw hw2 β hβ hβ1 hβ2 ?v0 ?v1) ?B ?F ?X ?N ?T ?K ?d ?u ?_; (case B => k_asm); (case F => k_asm); (case X => k_asm); (case N => k_asm); (case T => k_asm); (case K => first | exact rfl | assumption); (case d => first | exact room_d hd (by decide) | ktr_room); (case u => first | exact room_u3 hu (by decide) | exact room_u4 hu (by decide) | exact room_u5 hu (by decide) | decide | ktr_units); (case v0 => first | with_reducible assumption | lia); (case v1 => first | with_reducible assumption | lia)); k_whole; intro r9 nw9 h9 tk9 F9 N9 hp9; (try dsimp only at hp9); obtain ⟨b9, vs9, nn9, f9, e9, e8, l9, i9, y8, y9⟩ := hp9; subst e9; subst e8; (try simp only [AllLt, and_true] at l9); (all_goals ((try dsimp only); (try k_sweep); (try k_fold))))
  k_with "mCall" => (k_dflt (refine' use_call (c_jacobi _ _ _ _ _ _ _ _ _ _ _ _ ?hm ?hm2 ?hi ?hj ?hl ?hl2 hw hw2 β hβ hβ1 hβ2 _ _ ?hA ?hN ?h1 ?h2) ?B ?F ?X ?N ?T ?K ?d ?u ?_; (case B => k_asm); (case F => k_asm); (case X => k_asm); (case N => k_asm); (case T => k_asm); (case K => first | exact rfl | assumption); (case d => first | exact room_d hd (by decide) | ktr_room); (case u => first | exact room_u3 hu (by decide) | exact room_u4 hu (by decide) | exact room_u5 hu (by decide) | decide | ktr_units); (case hm => first | k_mem | k_memK | kst_mem); (case hm2 => first | k_mem | k_memK | kst_mem); (case hi => with_reducible assumption); (case hj => with_reducible assumption); (case hl => lia); (case hl2 => lia); (case hA => with_reducible assumption); (case hN => with_reducible assumption); (case h1 => first | with_reducible assumption | lia); (case h2 => first | with_reducible assumption | lia)); k_whole; intro r9 nw9 h9 tk9 F9 N9 hp9; (try dsimp only at hp9); obtain ⟨e9, t9, e8⟩ := hp9; subst e9; subst e8; replace N9 := news_tl (news_tl N9); (all_goals ((try dsimp only); (try k_sweep); (try k_fold))))
  k_with "mCall" => (k_dflt (refine' use_call (c_symbol _ _ _ _ _ _ ?v0 ?v1 ?v2 ?v3 ?v4) ?B ?F ?X ?N ?T ?K ?d ?u ?_; (case B => k_asm); (case F => k_asm); (case X => k_asm); (case N => k_asm); (case T => k_asm); (case K => first | exact rfl | assumption); (case d => first | exact room_d hd (by decide) | ktr_room); (case u => first | exact room_u3 hu (by decide) | exact room_u4 hu (by decide) | exact room_u5 hu (by decide) | decide | ktr_units); (case v0 => lia); (case v1 => lia); (case v2 => lia); (case v3 => lia); (case v4 => lia)); k_whole; intro r9 nw9 h9 tk9 F9 N9 hp9; (try dsimp only at hp9); obtain ⟨e9, t9, e8⟩ := hp9; subst e9; subst e8; (all_goals ((try dsimp only); (try k_sweep); (try k_fold))))
  k_with "mCall" => (k_dflt (refine' use_call (c_gcd _ _ _ _ _ _ ?v0 ?v1 ?v2 ?v3) ?B ?F ?X ?N ?T ?K ?d ?u ?_; (case B => k_asm); (case F => k_asm); (case X => k_asm); (case N => k_asm); (case T => k_asm); (case K => first | exact rfl | assumption); (case d => first | exact room_d hd (by decide) | ktr_room); (case u => first | exact room_u3 hu (by decide) | exact room_u4 hu (by decide) | exact room_u5 hu (by decide) | decide | ktr_units); (case v0 => lia); (case v1 => lia); (case v2 => lia); (case v3 => lia)); k_whole; intro r9 nw9 h9 tk9 F9 N9 hp9; (try dsimp only at hp9); obtain ⟨e9, t9, e8⟩ := hp9; subst e9; subst e8; (all_goals ((try dsimp only); (try k_sweep); (try k_fold))))
  k_with "mCall" => (k_dflt (refine' use_call (c_signed _ _ _ _ _ _ hw hw2 β hβ hβ1 hβ2 ?v0 ?v1) ?B ?F ?X ?N ?T ?K ?d ?u ?_; (case B => k_asm); (case F => k_asm); (case X => k_asm); (case N => k_asm); (case T => k_asm); (case K => first | exact rfl | assumption); (case d => first | exact room_d hd (by decide) | ktr_room); (case u => first | exact room_u3 hu (by decide) | exact room_u4 hu (by decide) | exact room_u5 hu (by decide) | decide | ktr_units); (case v0 => lia); (case v1 => lia)); k_whole; intro r9 nw9 h9 tk9 F9 N9 hp9; (try dsimp only at hp9); obtain ⟨tt9, b9, vs9, nn9, f9, e9, e8, i9, y8, y9⟩ := hp9; subst e9; subst e8; (all_goals ((try dsimp only); (try k_sweep); (try k_fold))))
  k_with "mCall" => (k_dflt (refine' use_call (c_kron _ _ _ _ _ _ _ _ _ _ _ _ _ _ _ _ ?hmx ?hmy ?hm ?hm2 ?hi ?hj ?hl ?hl2 hw hw2 β hβ hβ1 hβ2 _ _ ?hA ?hN ?h1) ?B ?F ?X ?N ?T ?K ?d ?u ?_; (case B => k_asm); (case F => k_asm); (case X => k_asm); (case N => k_asm); (case T => k_asm); (case K => first | exact rfl | assumption); (case d => first | exact room_d hd (by decide) | ktr_room); (case u => first | exact room_u3 hu (by decide) | exact room_u4 hu (by decide) | exact room_u5 hu (by decide) | decide | ktr_units); (case hmx => first | k_mem | k_memK | kst_mem); (case hmy => first | k_mem | k_memK | kst_mem); (case hm => first | k_mem | k_memK | kst_mem); (case hm2 => first | k_mem | k_memK | kst_mem); (case hi => with_reducible assumption); (case hj => with_reducible assumption); (case hl => lia); (case hl2 => lia); (case hA => with_reducible assumption); (case hN => with_reducible assumption); (case h1 => lia)); k_whole; intro r9 nw9 h9 tk9 F9 N9 hp9; (try dsimp only at hp9); obtain ⟨e9, kr0, t9, e8, kr9⟩ := hp9; subst e9; subst e8; (all_goals ((try dsimp only); (try k_sweep); (try k_fold))))
  k_with "mCall" => (k_dflt (refine' use_call (c_wide _ _ _ _ _ _ ?v0 ?v1 ?v2 ?v3 ?v4) ?B ?F ?X ?N ?T ?K ?d ?u ?_; (case B => k_asm); (case F => k_asm); (case X => k_asm); (case N => k_asm); (case T => k_asm); (case K => first | exact rfl | assumption); (case d => first | exact room_d hd (by decide) | ktr_room); (case u => first | exact room_u3 hu (by decide) | exact room_u4 hu (by decide) | exact room_u5 hu (by decide) | decide | ktr_units); (case v0 => lia); (case v1 => lia); (case v2 => lia); (case v3 => lia); (case v4 => lia)); k_whole; intro r9 nw9 h9 tk9 F9 N9 hp9; (try dsimp only at hp9); obtain ⟨e9, kw0, t9, e8, kw9⟩ := hp9; subst e9; subst e8; (all_goals ((try dsimp only); (try k_sweep); (try k_fold))))
  k_with "mN" => (refine ld (by with_reducible assumption) (by with_reducible assumption) ?_)
  k_with "mC" => (refine row_step (by with_reducible assumption) (by with_reducible assumption) (by with_reducible assumption) ?_; intro b9 vs9 nn9 f9 h9 tk9 F9 N9 l9 i9 y8 y9; (try simp only [AllLt, and_true] at l9); (try dsimp only); (try k_sweep); (try k_fold))
  k_with "mE" => (refine int_step (by with_reducible assumption) (by with_reducible assumption) (by with_reducible assumption) ?_; intro h9 tk9 t9 F9 N9; (try dsimp only); (try k_sweep); (try k_fold))
  k_with "mJ" => first | ((with_reducible show wpAny _ _ (eval (Expr.Call (Expr.Name (Str.ofString "jacobi") _) _ _ _) _) _ _ _); (rename Fr _ _ _ _ => jF'); (rename News _ _ _ _ => jN'); (rename JJ _ _ _ _ _ _ _ _ _ => jj9); (k_dflt (refine' jj_use jj9 jF' jN' ?hm ?H1 ?H2 ?n0 ?n2 ?_; (case hm => exact rfl); (case H1 => (first | ((with_reducible show RowAt _ _ _ _ _ _ _ _ _ (Expr.Call _ (Expr.Name _ _ :: _) _ _) _); refine' rown_use (by with_reducible assumption) ?rm ?rh ?r0 ?r1; (case rm => exact rfl); (case rh => exact int_name rfl)) | (refine' rowb_use (by with_reducible assumption) ?rm ?rh ?r0 ?r1; (case rm => exact rfl); (case rh => (repeat' (first | ((with_reducible show IntAt _ _ _ _ _ _ _ _ (Expr.Name _ _) _); exact int_name rfl) | ((with_reducible show IntAt _ _ _ _ _ _ _ _ (Expr.Constant _ _ _) _); exact int_const) | ((with_reducible show PySem.IntMulOk _ _); exact (PySem.IntMulOk.of_right (PySem.intBits_le_64 (by lia) (by lia)))) | ((with_reducible show IntAt _ _ _ _ _ _ _ _ (Expr.BinOp _ Operator.Mult _ _) _); refine' int_mul ?_ ?_ ?_) | ((with_reducible show IntAt _ _ _ _ _ _ _ _ (Expr.BinOp _ Operator.Add _ _) _); refine' int_add ?_ ?_)))))); (case r0 => first | ((with_reducible refine mulb1 ?_ ?_) <;> lia) | lia); (case r1 => first | ((with_reducible refine mulb2 ?_ ?_ ?_ ?_) <;> lia) | lia)); (case H2 => (first | ((with_reducible show RowAt _ _ _ _ _ _ _ _ _ (Expr.Call _ (Expr.Name _ _ :: _) _ _) _); refine' rown_use (by with_reducible assumption) ?rm ?rh ?r0 ?r1; (case rm => exact rfl); (case rh => exact int_name rfl)) | (refine' rowb_use (by with_reducible assumption) ?rm ?rh ?r0 ?r1; (case rm => exact rfl); (case rh => (repeat' (first | ((with_reducible show IntAt _ _ _ _ _ _ _ _ (Expr.Name _ _) _); exact int_name rfl) | ((with_reducible show IntAt _ _ _ _ _ _ _ _ (Expr.Constant _ _ _) _); exact int_const) | ((with_reducible show PySem.IntMulOk _ _); exact (PySem.IntMulOk.of_right (PySem.intBits_le_64 (by lia) (by lia)))) | ((with_reducible show IntAt _ _ _ _ _ _ _ _ (Expr.BinOp _ Operator.Mult _ _) _); refine' int_mul ?_ ?_ ?_) | ((with_reducible show IntAt _ _ _ _ _ _ _ _ (Expr.BinOp _ Operator.Add _ _) _); refine' int_add ?_ ?_)))))); (case r0 => first | ((with_reducible refine mulb1 ?_ ?_) <;> lia) | lia); (case r1 => first | ((with_reducible refine mulb2 ?_ ?_ ?_ ?_) <;> lia) | lia)); (case n0 => first | ((with_reducible refine Int.mul_pos ?_ ?_) <;> lia) | lia); (case n2 => first | ((with_reducible refine odd_mul ?_ ?_) <;> lia) | lia); k_whole)); intro h9 tk9 t9 F9 N9; (try dsimp only); (try k_sweep); (try k_fold)) | ((with_reducible show wpAny _ _ (eval (Expr.Call (Expr.Name (Str.ofString "jacobi") _) _ _ _) _) _ _ _); (rename Fr _ _ _ _ => jF'); (fail_if_success (rename JJ _ _ _ _ _ _ _ _ _ => jjx)); (fail_if_success (rename JMark => jjx)); (k_dflt (refine' jj_make jF' ?hm (by with_reducible assumption) ?m1 ?m2 ?m3 ?_; (case hm => exact rfl); (case m1 => (try clear jF'); (have jmk := JMark.mk); unfold RowN; intro x p p2 p3 p4 E a m hm a0 a1 H; unfold RowAt; intro news h9 tk9 F9 N9; k_steps); (case m2 => (try clear jF'); (have jmk := JMark.mk); unfold RowB; intro l r o p p2 p3 p4 E a m hm a0 a1 H; unfold RowAt; intro news h9 tk9 F9 N9; k_steps); (case m3 => (try clear jF'); (have jmk := JMark.mk); unfold JJ; intro f1 f2 as1 as2 k1 k2 p1 p2 p3 p4 p5 p6 E a n m hm n0 n2 H1 H2; unfold IntAt; intro news h9 tk9 F9 N9; k_steps); k_whole)); intro jj1 jj2 jj0)
  k_with "mMod" => first | ((with_reducible show wpAny _ _ (binaryOp _ _ (Value.int 1000003 _)) _ _ _); refine step_modr (by decide) ?_; intro rm hrm hrm0 hrm1) | (refine step_fm _ (by decide) (Int.fmod_eq_emod_of_nonneg _ (by decide)) ?_) | (refine step_modr (by lia) ?_; intro rm hrm hrm0 hrm1)
  k_with "mMul" => first | ((with_reducible show wpAny _ _ (binaryOp _ (Value.int (List.getD _ _ _) _) _) _ _ _); first | (refine step_sgn0 (by lia) (by lia) (by lia) (by lia) ?_; intro y7 hy70 hy71 hy72) | (refine step_sgn (by lia) (by lia) (by lia) (by lia) ?_; intro y8 hy80 hy81)) | (refine mul_int ?_ (PySem.IntMulOk.of_right (PySem.intBits_le_64 (by lia) (by lia)))) | (refine mul_int ?_ (PySem.IntMulOk.of_left (PySem.intBits_le_64 (by lia) (by lia)))) | (refine mul_int ?_ (PySem.IntMulOk.of_right (J_fits _ _)))
  k_with "mLS" => first | (refine step_ls 32768 (by decide) (by decide) (by decide) (by decide) ?_) | (refine step_ls 1048576 (by decide) (by decide) (by decide) (by decide) ?_) | (refine step_ls 256 (by decide) (by decide) (by decide) (by decide) ?_) | (refine step_ls 1024 (by decide) (by decide) (by decide) (by decide) ?_) | (refine step_ls_law (by lia) (by lia) (by lia) (by lia) ?_; intro y9 hy9 hy90 hy91)
  k_with "mNe" => first | (refine step_ne (by with_reducible exact J_mul _ _ (by lia) (by lia)) ?_) | (refine step_ne (by with_reducible exact J_mul_below _ (by lia) (by lia) (by lia) (by lia)) ?_) | (refine step_ne (by with_reducible exact lw_three) ?_) | (refine step_ne (by with_reducible exact lw_sq0 (by lia) (by lia) (by with_reducible assumption)) ?_) | (refine step_ne (by with_reducible exact lw_sq1 (by lia) (by lia) (by lia)) ?_) | (refine step_ne (by with_reducible exact lw_rec0 (by lia) (by with_reducible assumption)) ?_) | (refine step_ne (by with_reducible exact lw_rec1 (by lia) (by lia) (by lia) (by lia) (by lia) (by with_reducible assumption) (by with_reducible assumption)) ?_) | (refine step_ne (by with_reducible exact lw_rec2 (by lia) (by lia) (by lia) (by lia) (by lia) (by with_reducible assumption)) ?_) | (refine step_ne (by with_reducible exact lw_rec3 (by lia) (by lia) (by lia) (by lia) (by lia) (by with_reducible assumption)) ?_)
  k_with "mNeB" => (refine step_neb (lw_zero (by lia)) ?_)
  k_with "mEq" => (refine step_eq (kr_kw rfl rfl rfl rfl kr9 kw9) ?_)
  k_with "mIf" => (k_dflt ((with_reducible show wpAny _ _ (exec (Stmt.If _ _ _ _) _) _ _ _); (rename Fr _ _ _ _ => jF'); (rename News _ _ _ _ => jN'); (refine if_cut jF' jN' ?_ ?_); rotate_left; (k_whole; intro h9 tk9 F9 N9; (try dsimp only); (try k_sweep); (try k_fold)); rotate_left))
  k_go0
  (all_goals try k_fold)
  have kMark := kstMark
  k_steps)
end
end Mine
end
theorem PySem.Challenge.cw_nz0084_01_holds : PySem.Challenge.rw_nz0084_01.Holds := by
  exact Mine.law_dev
