import PyProof.Rows.All
import Wide.All
import OpenK.AllK
import Wide.FinOn
import PySem.Challenge.RW_nu0015_01
open PySem PySem.W PyProof.Rows
set_option Elab.async false
set_option maxRecDepth 100000
namespace Mine
open PySem PySem.W PyProof.Rows
def kvSt (i : Nat) : Option Stmt := PySem.Challenge.rw_nu0015_01.row.prog.main.body[i]?
def kvFn (s : Option Stmt) : Option (Arguments × List Stmt × Scope) := match s with
  | some (.FunctionDef _ a b _ _ _ sc _ _ _) => some (a, b, sc)
  | _ => none
def kvAt (i : Nat) : Option (Arguments × List Stmt × Scope) := kvFn (kvSt i)
def kvMet (i j : Nat) : Option (Arguments × List Stmt × Scope) := match kvSt i with
  | some (.ClassDef _ _ _ b _ _ _ _ _ _ _) => kvFn b[j]?
  | _ => none
/-- the statements of the program's top that the walk sees -/
noncomputable def vwV : Program := by
  refine (?f : ([kvSt 1, kvSt 2, kvSt 4, kvSt 5, kvSt 6, kvSt 8, kvSt 9, kvSt 10, kvSt 11, kvSt 12, kvSt 13, kvSt 14, kvSt 15, kvSt 16, kvSt 17, kvSt 18, kvSt 19, kvSt 20, kvSt 21, kvSt 22, kvSt 23, kvSt 24, kvSt 25, kvSt 28, kvSt 29, kvSt 30, kvSt 31, kvSt 32, kvSt 33, kvSt 34, kvSt 35, kvSt 36, kvSt 37, kvSt 38, kvSt 39] = [some ?s1, some ?s2, some ?s4, some ?s5, some ?s6, some ?s8, some ?s9, some ?s10, some ?s11, some ?s12, some ?s13, some ?s14, some ?s15, some ?s16, some ?s17, some ?s18, some ?s19, some ?s20, some ?s21, some ?s22, some ?s23, some ?s24, some ?s25, some ?s28, some ?s29, some ?s30, some ?s31, some ?s32, some ?s33, some ?s34, some ?s35, some ?s36, some ?s37, some ?s38, some ?s39]) → Program) ?h
  case h => exact rfl
  case f => exact fun _ => { PySem.Challenge.rw_nu0015_01.row.toRowW.1 with main := { PySem.Challenge.rw_nu0015_01.row.toRowW.1.main with body := ?s1 :: ?s2 :: ?s4 :: ?s5 :: ?s6 :: ?s8 :: ?s9 :: ?s10 :: ?s11 :: ?s12 :: ?s13 :: ?s14 :: ?s15 :: ?s16 :: ?s17 :: ?s18 :: ?s19 :: ?s20 :: ?s21 :: ?s22 :: ?s23 :: ?s24 :: ?s25 :: ?s28 :: ?s29 :: ?s30 :: ?s31 :: ?s32 :: ?s33 :: ?s34 :: ?s35 :: ?s36 :: ?s37 :: ?s38 :: ?s39 :: [] } }
/-- what stands on the heap behind the top -/
noncomputable def hpK : Params → Frag := by
  refine (?f : ([kvMet 1 0, kvAt 6, kvAt 7, kvAt 8, kvAt 9, kvAt 10, kvAt 11, kvAt 12, kvAt 13, kvAt 14, kvAt 15, kvAt 16, kvAt 17, kvAt 18, kvAt 19, kvAt 20, kvAt 21, kvMet 22 0, kvMet 22 1, kvMet 22 2, kvMet 22 3, kvAt 23, kvAt 24, kvAt 25, kvAt 26, kvAt 28, kvAt 29, kvAt 30, kvAt 31, kvAt 32, kvAt 33, kvAt 34, kvAt 35, kvAt 36, kvAt 37, kvAt 38, kvAt 39] = [some (?p1, ?b1, ?s1), some (?p2, ?b2, ?s2), some (?p3, ?b3, ?s3), some (?p4, ?b4, ?s4), some (?p5, ?b5, ?s5), some (?p6, ?b6, ?s6), some (?p7, ?b7, ?s7), some (?p8, ?b8, ?s8), some (?p9, ?b9, ?s9), some (?p10, ?b10, ?s10), some (?p11, ?b11, ?s11), some (?p12, ?b12, ?s12), some (?p13, ?b13, ?s13), some (?p14, ?b14, ?s14), some (?p15, ?b15, ?s15), some (?p16, ?b16, ?s16), some (?p17, ?b17, ?s17), some (?p18, ?b18, ?s18), some (?p19, ?b19, ?s19), some (?p20, ?b20, ?s20), some (?p21, ?b21, ?s21), some (?p22, ?b22, ?s22), some (?p23, ?b23, ?s23), some (?p24, ?b24, ?s24), some (?p25, ?b25, ?s25), some (?p26, ?b26, ?s26), some (?p27, ?b27, ?s27), some (?p28, ?b28, ?s28), some (?p29, ?b29, ?s29), some (?p30, ?b30, ?s30), some (?p31, ?b31, ?s31), some (?p32, ?b32, ?s32), some (?p33, ?b33, ?s33), some (?p34, ?b34, ?s34), some (?p35, ?b35, ?s35), some (?p36, ?b36, ?s36), some (?p37, ?b37, ?s37)]) → Params → Frag) ?h
  case h => exact rfl
  case f => exact fun _ P => ((nat_lit 2, { cls := Value.none, data := Data.dict (List.toArray ({ hash := PyData.keyHash P (Str.ofString "type.__subclasses__.Exception.0"), key := Value.str (Str.ofString "type.__subclasses__.Exception.0") (214 : Nat), val := Value.int 31 (0 : Nat) } :: { hash := PyData.keyHash P (Str.ofString "type.__subclasses__.Exception.n"), key := Value.str (Str.ofString "type.__subclasses__.Exception.n") (215 : Nat), val := Value.int 1 (0 : Nat) } :: [])) 2 }) ::
    (nat_lit 3, { cls := Value.type "dict", data := Data.dict (List.toArray ({ hash := PyData.keyHash P (Str.ofString "__name__"), key := Value.str (Str.ofString "__name__") (165 : Nat), val := Value.str (Str.ofString "law_nu0015_01") (468 : Nat) } :: { hash := PyData.keyHash P (Str.ofString "__doc__"), key := Value.str (Str.ofString "__doc__") (166 : Nat), val := Value.none } :: { hash := PyData.keyHash P (Str.ofString "__package__"), key := Value.str (Str.ofString "__package__") (167 : Nat), val := Value.none } :: { hash := PyData.keyHash P (Str.ofString "__loader__"), key := Value.str (Str.ofString "__loader__") (168 : Nat), val := Value.builtin "__main__.__loader__#opaque" } :: { hash := PyData.keyHash P (Str.ofString "__spec__"), key := Value.str (Str.ofString "__spec__") (169 : Nat), val := Value.none } :: { hash := PyData.keyHash P (Str.ofString "__annotations__"), key := Value.str (Str.ofString "__annotations__") (170 : Nat), val := Value.ref (6 : Nat) } :: { hash := PyData.keyHash P (Str.ofString "__builtins__"), key := Value.str (Str.ofString "__builtins__") (171 : Nat), val := Value.ref (4 : Nat) } :: { hash := PyData.keyHash P (Str.ofString "__file__"), key := Value.str (Str.ofString "__file__") (173 : Nat), val := Value.str (Str.ofString "/claim/cut.py") (172 : Nat) } :: { hash := PyData.keyHash P (Str.ofString "__cached__"), key := Value.str (Str.ofString "__cached__") (174 : Nat), val := Value.none } :: { hash := PyData.keyHash P (Str.ofString "MillError"), key := Value.str (Str.ofString "MillError") (217 : Nat), val := Value.ref (31 : Nat) } :: { hash := PyData.keyHash P (Str.ofString "NumberFault"), key := Value.str (Str.ofString "NumberFault") (233 : Nat), val := Value.ref (44 : Nat) } :: { hash := PyData.keyHash P (Str.ofString "DIGITS"), key := Value.str (Str.ofString "DIGITS") (237 : Nat), val := Value.str (Str.ofString "0123456789") (236 : Nat) } :: { hash := PyData.keyHash P (Str.ofString "MOST_EXPONENT"), key := Value.str (Str.ofString "MOST_EXPONENT") (239 : Nat), val := Value.int 300 (238 : Nat) } :: { hash := PyData.keyHash P (Str.ofString "common_divisor"), key := Value.str (Str.ofString "common_divisor") (249 : Nat), val := Value.ref (53 : Nat) } :: { hash := PyData.keyHash P (Str.ofString "fraction"), key := Value.str (Str.ofString "fraction") (259 : Nat), val := Value.ref (61 : Nat) } :: { hash := PyData.keyHash P (Str.ofString "plus"), key := Value.str (Str.ofString "plus") (267 : Nat), val := Value.ref (68 : Nat) } :: { hash := PyData.keyHash P (Str.ofString "minus"), key := Value.str (Str.ofString "minus") (275 : Nat), val := Value.ref (75 : Nat) } :: { hash := PyData.keyHash P (Str.ofString "times"), key := Value.str (Str.ofString "times") (283 : Nat), val := Value.ref (82 : Nat) } :: { hash := PyData.keyHash P (Str.ofString "divided"), key := Value.str (Str.ofString "divided") (291 : Nat), val := Value.ref (89 : Nat) } :: { hash := PyData.keyHash P (Str.ofString "negated"), key := Value.str (Str.ofString "negated") (298 : Nat), val := Value.ref (96 : Nat) } :: { hash := PyData.keyHash P (Str.ofString "absolute"), key := Value.str (Str.ofString "absolute") (305 : Nat), val := Value.ref (103 : Nat) } :: { hash := PyData.keyHash P (Str.ofString "sign_of"), key := Value.str (Str.ofString "sign_of") (312 : Nat), val := Value.ref (110 : Nat) } :: { hash := PyData.keyHash P (Str.ofString "compare"), key := Value.str (Str.ofString "compare") (320 : Nat), val := Value.ref (117 : Nat) } :: { hash := PyData.keyHash P (Str.ofString "least"), key := Value.str (Str.ofString "least") (329 : Nat), val := Value.ref (124 : Nat) } :: { hash := PyData.keyHash P (Str.ofString "greatest"), key := Value.str (Str.ofString "greatest") (338 : Nat), val := Value.ref (131 : Nat) } :: { hash := PyData.keyHash P (Str.ofString "floor_of"), key := Value.str (Str.ofString "floor_of") (345 : Nat), val := Value.ref (138 : Nat) } :: { hash := PyData.keyHash P (Str.ofString "ceiling_of"), key := Value.str (Str.ofString "ceiling_of") (352 : Nat), val := Value.ref (145 : Nat) } :: { hash := PyData.keyHash P (Str.ofString "rounded"), key := Value.str (Str.ofString "rounded") (359 : Nat), val := Value.ref (152 : Nat) } :: { hash := PyData.keyHash P (Str.ofString "root_floor"), key := Value.str (Str.ofString "root_floor") (368 : Nat), val := Value.ref (159 : Nat) } :: { hash := PyData.keyHash P (Str.ofString "NumberText"), key := Value.str (Str.ofString "NumberText") (422 : Nat), val := Value.ref (197 : Nat) } :: { hash := PyData.keyHash P (Str.ofString "whole_of"), key := Value.str (Str.ofString "whole_of") (431 : Nat), val := Value.ref (208 : Nat) } :: { hash := PyData.keyHash P (Str.ofString "read_exponent"), key := Value.str (Str.ofString "read_exponent") (440 : Nat), val := Value.ref (215 : Nat) } :: { hash := PyData.keyHash P (Str.ofString "read_decimal"), key := Value.str (Str.ofString "read_decimal") (453 : Nat), val := Value.ref (222 : Nat) } :: { hash := PyData.keyHash P (Str.ofString "write_decimal"), key := Value.str (Str.ofString "write_decimal") (467 : Nat), val := Value.ref (230 : Nat) } :: { hash := PyData.keyHash P (Str.ofString "_law_pool"), key := Value.str (Str.ofString "_law_pool") (480 : Nat), val := Value.ref (237 : Nat) } :: { hash := PyData.keyHash P (Str.ofString "_law_take"), key := Value.str (Str.ofString "_law_take") (489 : Nat), val := Value.ref (244 : Nat) } :: { hash := PyData.keyHash P (Str.ofString "_law_one"), key := Value.str (Str.ofString "_law_one") (497 : Nat), val := Value.ref (251 : Nat) } :: { hash := PyData.keyHash P (Str.ofString "_law_same"), key := Value.str (Str.ofString "_law_same") (508 : Nat), val := Value.ref (258 : Nat) } :: { hash := PyData.keyHash P (Str.ofString "_law_drawn"), key := Value.str (Str.ofString "_law_drawn") (517 : Nat), val := Value.ref (265 : Nat) } :: { hash := PyData.keyHash P (Str.ofString "_law_sums_right"), key := Value.str (Str.ofString "_law_sums_right") (530 : Nat), val := Value.ref (272 : Nat) } :: { hash := PyData.keyHash P (Str.ofString "_law_order_right"), key := Value.str (Str.ofString "_law_order_right") (544 : Nat), val := Value.ref (279 : Nat) } :: { hash := PyData.keyHash P (Str.ofString "_law_whole_right"), key := Value.str (Str.ofString "_law_whole_right") (552 : Nat), val := Value.ref (286 : Nat) } :: { hash := PyData.keyHash P (Str.ofString "_law_root_right"), key := Value.str (Str.ofString "_law_root_right") (562 : Nat), val := Value.ref (293 : Nat) } :: { hash := PyData.keyHash P (Str.ofString "_law_text_right"), key := Value.str (Str.ofString "_law_text_right") (581 : Nat), val := Value.ref (300 : Nat) } :: { hash := PyData.keyHash P (Str.ofString "_law_written_right"), key := Value.str (Str.ofString "_law_written_right") (593 : Nat), val := Value.ref (307 : Nat) } :: { hash := PyData.keyHash P (Str.ofString "law"), key := Value.str (Str.ofString "law") (606 : Nat), val := Value.ref (314 : Nat) } :: [])) 46 }) ::
    (nat_lit 15, { cls := Value.type "tuple", data := Data.seq #[Value.type "Exception"] }) ::
    (nat_lit 22, { cls := Value.type "tuple", data := Data.seq #[] }) ::
    (nat_lit 24, { cls := Value.type "tuple", data := Data.seq #[Value.str (Str.ofString "self") (204 : Nat), Value.str (Str.ofString "message") (205 : Nat)] }) ::
    (nat_lit 25, { cls := Value.type "tuple", data := Data.seq #[] }) ::
    (nat_lit 27, { cls := Value.type "code", data := Data.fields #[Value.str (Str.ofString "__init__") (201 : Nat), Value.str (Str.ofString "MillError.__init__") (202 : Nat), Value.str (Str.ofString "/claim/cut.py") (203 : Nat), Value.int 4 (0 : Nat), Value.int 2 (0 : Nat), Value.int 0 (0 : Nat), Value.int 0 (0 : Nat), Value.int 3 (0 : Nat), Value.ref (22 : Nat), Value.bool true, Value.int 181 (0 : Nat), Value.ref (23 : Nat), Value.none, Value.ref (24 : Nat), Value.ref (25 : Nat), Value.ref (26 : Nat), Value.int 206 (0 : Nat), Value.int 4 (0 : Nat), Value.str (Str.ofString "/claim/cut.py") (207 : Nat)] }) ::
    (nat_lit 28, { cls := Value.type "function", data := Data.func { name := Str.ofString "__init__", qualname := Str.ofString "MillError.__init__", params := ?p1, body := FuncBody.stmts ?b1, scope := ?s1, globals := (3 : Nat), closure := [], defaults := Value.none, kwdefaults := Value.none, pyModule := Value.str (Str.ofString "outlinemill.errors") (187 : Nat), code := Value.ref (27 : Nat) } }) ::
    (nat_lit 29, { cls := Value.type "tuple", data := Data.seq #[Value.str (Str.ofString "message") (209 : Nat)] }) ::
    (nat_lit 30, { cls := Value.type "dict", data := Data.dict (List.toArray ({ hash := PyData.keyHash P (Str.ofString "__module__"), key := Value.str (Str.ofString "__module__") (196 : Nat), val := Value.str (Str.ofString "outlinemill.errors") (187 : Nat) } :: { hash := PyData.keyHash P (Str.ofString "__firstlineno__"), key := Value.str (Str.ofString "__firstlineno__") (200 : Nat), val := Value.int 2 (199 : Nat) } :: { hash := PyData.keyHash P (Str.ofString "__init__"), key := Value.str (Str.ofString "__init__") (208 : Nat), val := Value.ref (28 : Nat) } :: { hash := PyData.keyHash P (Str.ofString "__static_attributes__"), key := Value.str (Str.ofString "__static_attributes__") (210 : Nat), val := Value.ref (29 : Nat) } :: { hash := PyData.keyHash P (Str.ofString "__weakref__"), key := Value.str (Str.ofString "__weakref__") (212 : Nat), val := Value.ref (32 : Nat) } :: { hash := PyData.keyHash P (Str.ofString "__doc__"), key := Value.str (Str.ofString "__doc__") (213 : Nat), val := Value.none } :: [])) 3 }) ::
    (nat_lit 31, { cls := Value.type "type", data := Data.cls { name := Str.ofString "MillError", bases := [Value.type "Exception"], mro := [Value.ref (31 : Nat), Value.type "Exception", Value.type "BaseException", Value.type "object"], ns := (30 : Nat), qualname := Str.ofString "MillError", subclasses := [Value.ref (44 : Nat)] }, slots := #[Option.some (Value.ref (15 : Nat)), Option.none, Option.some (Value.str (Str.ofString "MillError") (189 : Nat)), Option.some (Value.str (Str.ofString "MillError") (197 : Nat)), Option.some (Value.builtin "Exception.__new__"), Option.some (Value.bool true)] }) ::
    (nat_lit 32, { cls := Value.type "getset_descriptor", data := Data.fields #[Value.str (Str.ofString "__weakref__") (211 : Nat), Value.ref (31 : Nat), Value.builtin "ExceptionGroup.__weakref__", Value.none] }) ::
    (nat_lit 35, { cls := Value.type "tuple", data := Data.seq #[Value.ref (31 : Nat)] }) ::
    (nat_lit 42, { cls := Value.type "tuple", data := Data.seq #[] }) ::
    (nat_lit 43, { cls := Value.type "dict", data := Data.dict (List.toArray ({ hash := PyData.keyHash P (Str.ofString "__module__"), key := Value.str (Str.ofString "__module__") (225 : Nat), val := Value.str (Str.ofString "outlinemill.errors") (187 : Nat) } :: { hash := PyData.keyHash P (Str.ofString "__firstlineno__"), key := Value.str (Str.ofString "__firstlineno__") (229 : Nat), val := Value.int 6 (228 : Nat) } :: { hash := PyData.keyHash P (Str.ofString "__static_attributes__"), key := Value.str (Str.ofString "__static_attributes__") (230 : Nat), val := Value.ref (42 : Nat) } :: { hash := PyData.keyHash P (Str.ofString "__doc__"), key := Value.str (Str.ofString "__doc__") (231 : Nat), val := Value.none } :: [])) 2 }) ::
    (nat_lit 44, { cls := Value.type "type", data := Data.cls { name := Str.ofString "NumberFault", bases := [Value.ref (31 : Nat)], mro := [Value.ref (44 : Nat), Value.ref (31 : Nat), Value.type "Exception", Value.type "BaseException", Value.type "object"], ns := (43 : Nat), qualname := Str.ofString "NumberFault" }, slots := #[Option.some (Value.ref (35 : Nat)), Option.none, Option.some (Value.str (Str.ofString "NumberFault") (218 : Nat)), Option.some (Value.str (Str.ofString "NumberFault") (226 : Nat)), Option.some (Value.builtin "Exception.__new__"), Option.some (Value.bool true)] }) ::
    (nat_lit 47, { cls := Value.type "tuple", data := Data.seq #[] }) ::
    (nat_lit 49, { cls := Value.type "tuple", data := Data.seq #[Value.str (Str.ofString "one") (243 : Nat), Value.str (Str.ofString "other") (244 : Nat), Value.str (Str.ofString "first") (245 : Nat), Value.str (Str.ofString "second") (246 : Nat)] }) ::
    (nat_lit 50, { cls := Value.type "tuple", data := Data.seq #[] }) ::
    (nat_lit 52, { cls := Value.type "code", data := Data.fields #[Value.str (Str.ofString "common_divisor") (240 : Nat), Value.str (Str.ofString "common_divisor") (241 : Nat), Value.str (Str.ofString "/claim/cut.py") (242 : Nat), Value.int 11 (0 : Nat), Value.int 2 (0 : Nat), Value.int 0 (0 : Nat), Value.int 0 (0 : Nat), Value.int 3 (0 : Nat), Value.ref (47 : Nat), Value.bool true, Value.int 181 (0 : Nat), Value.ref (48 : Nat), Value.none, Value.ref (49 : Nat), Value.ref (50 : Nat), Value.ref (51 : Nat), Value.int 247 (0 : Nat), Value.int 11 (0 : Nat), Value.str (Str.ofString "/claim/cut.py") (248 : Nat)] }) ::
    (nat_lit 53, { cls := Value.type "function", data := Data.func { name := Str.ofString "common_divisor", qualname := Str.ofString "common_divisor", params := ?p2, body := FuncBody.stmts ?b2, scope := ?s2, globals := (3 : Nat), closure := [], defaults := Value.none, kwdefaults := Value.none, pyModule := Value.str (Str.ofString "outlinemill.exact") (234 : Nat), code := Value.ref (52 : Nat) } }) ::
    (nat_lit 54, { cls := Value.type "tuple", data := Data.seq #[Value.int 1 (250 : Nat)] }) ::
    (nat_lit 55, { cls := Value.type "tuple", data := Data.seq #[] }) ::
    (nat_lit 57, { cls := Value.type "tuple", data := Data.seq #[Value.str (Str.ofString "top") (254 : Nat), Value.str (Str.ofString "bottom") (255 : Nat), Value.str (Str.ofString "common") (256 : Nat)] }) ::
    (nat_lit 58, { cls := Value.type "tuple", data := Data.seq #[] }) ::
    (nat_lit 60, { cls := Value.type "code", data := Data.fields #[Value.str (Str.ofString "fraction") (251 : Nat), Value.str (Str.ofString "fraction") (252 : Nat), Value.str (Str.ofString "/claim/cut.py") (253 : Nat), Value.int 16 (0 : Nat), Value.int 2 (0 : Nat), Value.int 0 (0 : Nat), Value.int 0 (0 : Nat), Value.int 3 (0 : Nat), Value.ref (55 : Nat), Value.bool true, Value.int 181 (0 : Nat), Value.ref (56 : Nat), Value.none, Value.ref (57 : Nat), Value.ref (58 : Nat), Value.ref (59 : Nat), Value.int 257 (0 : Nat), Value.int 16 (0 : Nat), Value.str (Str.ofString "/claim/cut.py") (258 : Nat)] }) ::
    (nat_lit 61, { cls := Value.type "function", data := Data.func { name := Str.ofString "fraction", qualname := Str.ofString "fraction", params := ?p3, body := FuncBody.stmts ?b3, scope := ?s3, globals := (3 : Nat), closure := [], defaults := Value.ref (54 : Nat), kwdefaults := Value.none, pyModule := Value.str (Str.ofString "outlinemill.exact") (234 : Nat), code := Value.ref (60 : Nat) } }) ::
    (nat_lit 62, { cls := Value.type "tuple", data := Data.seq #[] }) ::
    (nat_lit 64, { cls := Value.type "tuple", data := Data.seq #[Value.str (Str.ofString "a") (263 : Nat), Value.str (Str.ofString "b") (264 : Nat)] }) ::
    (nat_lit 65, { cls := Value.type "tuple", data := Data.seq #[] }) ::
    (nat_lit 67, { cls := Value.type "code", data := Data.fields #[Value.str (Str.ofString "plus") (260 : Nat), Value.str (Str.ofString "plus") (261 : Nat), Value.str (Str.ofString "/claim/cut.py") (262 : Nat), Value.int 23 (0 : Nat), Value.int 2 (0 : Nat), Value.int 0 (0 : Nat), Value.int 0 (0 : Nat), Value.int 3 (0 : Nat), Value.ref (62 : Nat), Value.bool true, Value.int 181 (0 : Nat), Value.ref (63 : Nat), Value.none, Value.ref (64 : Nat), Value.ref (65 : Nat), Value.ref (66 : Nat), Value.int 265 (0 : Nat), Value.int 23 (0 : Nat), Value.str (Str.ofString "/claim/cut.py") (266 : Nat)] }) ::
    (nat_lit 68, { cls := Value.type "function", data := Data.func { name := Str.ofString "plus", qualname := Str.ofString "plus", params := ?p4, body := FuncBody.stmts ?b4, scope := ?s4, globals := (3 : Nat), closure := [], defaults := Value.none, kwdefaults := Value.none, pyModule := Value.str (Str.ofString "outlinemill.exact") (234 : Nat), code := Value.ref (67 : Nat) } }) ::
    (nat_lit 69, { cls := Value.type "tuple", data := Data.seq #[] }) ::
    (nat_lit 71, { cls := Value.type "tuple", data := Data.seq #[Value.str (Str.ofString "a") (271 : Nat), Value.str (Str.ofString "b") (272 : Nat)] }) ::
    (nat_lit 72, { cls := Value.type "tuple", data := Data.seq #[] }) ::
    (nat_lit 74, { cls := Value.type "code", data := Data.fields #[Value.str (Str.ofString "minus") (268 : Nat), Value.str (Str.ofString "minus") (269 : Nat), Value.str (Str.ofString "/claim/cut.py") (270 : Nat), Value.int 25 (0 : Nat), Value.int 2 (0 : Nat), Value.int 0 (0 : Nat), Value.int 0 (0 : Nat), Value.int 3 (0 : Nat), Value.ref (69 : Nat), Value.bool true, Value.int 181 (0 : Nat), Value.ref (70 : Nat), Value.none, Value.ref (71 : Nat), Value.ref (72 : Nat), Value.ref (73 : Nat), Value.int 273 (0 : Nat), Value.int 25 (0 : Nat), Value.str (Str.ofString "/claim/cut.py") (274 : Nat)] }) ::
    (nat_lit 75, { cls := Value.type "function", data := Data.func { name := Str.ofString "minus", qualname := Str.ofString "minus", params := ?p5, body := FuncBody.stmts ?b5, scope := ?s5, globals := (3 : Nat), closure := [], defaults := Value.none, kwdefaults := Value.none, pyModule := Value.str (Str.ofString "outlinemill.exact") (234 : Nat), code := Value.ref (74 : Nat) } }) ::
    (nat_lit 76, { cls := Value.type "tuple", data := Data.seq #[] }) ::
    (nat_lit 78, { cls := Value.type "tuple", data := Data.seq #[Value.str (Str.ofString "a") (279 : Nat), Value.str (Str.ofString "b") (280 : Nat)] }) ::
    (nat_lit 79, { cls := Value.type "tuple", data := Data.seq #[] }) ::
    (nat_lit 81, { cls := Value.type "code", data := Data.fields #[Value.str (Str.ofString "times") (276 : Nat), Value.str (Str.ofString "times") (277 : Nat), Value.str (Str.ofString "/claim/cut.py") (278 : Nat), Value.int 27 (0 : Nat), Value.int 2 (0 : Nat), Value.int 0 (0 : Nat), Value.int 0 (0 : Nat), Value.int 3 (0 : Nat), Value.ref (76 : Nat), Value.bool true, Value.int 181 (0 : Nat), Value.ref (77 : Nat), Value.none, Value.ref (78 : Nat), Value.ref (79 : Nat), Value.ref (80 : Nat), Value.int 281 (0 : Nat), Value.int 27 (0 : Nat), Value.str (Str.ofString "/claim/cut.py") (282 : Nat)] }) ::
    (nat_lit 82, { cls := Value.type "function", data := Data.func { name := Str.ofString "times", qualname := Str.ofString "times", params := ?p6, body := FuncBody.stmts ?b6, scope := ?s6, globals := (3 : Nat), closure := [], defaults := Value.none, kwdefaults := Value.none, pyModule := Value.str (Str.ofString "outlinemill.exact") (234 : Nat), code := Value.ref (81 : Nat) } }) ::
    (nat_lit 83, { cls := Value.type "tuple", data := Data.seq #[] }) ::
    (nat_lit 85, { cls := Value.type "tuple", data := Data.seq #[Value.str (Str.ofString "a") (287 : Nat), Value.str (Str.ofString "b") (288 : Nat)] }) ::
    (nat_lit 86, { cls := Value.type "tuple", data := Data.seq #[] }) ::
    (nat_lit 88, { cls := Value.type "code", data := Data.fields #[Value.str (Str.ofString "divided") (284 : Nat), Value.str (Str.ofString "divided") (285 : Nat), Value.str (Str.ofString "/claim/cut.py") (286 : Nat), Value.int 29 (0 : Nat), Value.int 2 (0 : Nat), Value.int 0 (0 : Nat), Value.int 0 (0 : Nat), Value.int 3 (0 : Nat), Value.ref (83 : Nat), Value.bool true, Value.int 181 (0 : Nat), Value.ref (84 : Nat), Value.none, Value.ref (85 : Nat), Value.ref (86 : Nat), Value.ref (87 : Nat), Value.int 289 (0 : Nat), Value.int 29 (0 : Nat), Value.str (Str.ofString "/claim/cut.py") (290 : Nat)] }) ::
    (nat_lit 89, { cls := Value.type "function", data := Data.func { name := Str.ofString "divided", qualname := Str.ofString "divided", params := ?p7, body := FuncBody.stmts ?b7, scope := ?s7, globals := (3 : Nat), closure := [], defaults := Value.none, kwdefaults := Value.none, pyModule := Value.str (Str.ofString "outlinemill.exact") (234 : Nat), code := Value.ref (88 : Nat) } }) ::
    (nat_lit 90, { cls := Value.type "tuple", data := Data.seq #[] }) ::
    (nat_lit 92, { cls := Value.type "tuple", data := Data.seq #[Value.str (Str.ofString "a") (295 : Nat)] }) ::
    (nat_lit 93, { cls := Value.type "tuple", data := Data.seq #[] }) ::
    (nat_lit 95, { cls := Value.type "code", data := Data.fields #[Value.str (Str.ofString "negated") (292 : Nat), Value.str (Str.ofString "negated") (293 : Nat), Value.str (Str.ofString "/claim/cut.py") (294 : Nat), Value.int 33 (0 : Nat), Value.int 1 (0 : Nat), Value.int 0 (0 : Nat), Value.int 0 (0 : Nat), Value.int 3 (0 : Nat), Value.ref (90 : Nat), Value.bool true, Value.int 181 (0 : Nat), Value.ref (91 : Nat), Value.none, Value.ref (92 : Nat), Value.ref (93 : Nat), Value.ref (94 : Nat), Value.int 296 (0 : Nat), Value.int 33 (0 : Nat), Value.str (Str.ofString "/claim/cut.py") (297 : Nat)] }) ::
    (nat_lit 96, { cls := Value.type "function", data := Data.func { name := Str.ofString "negated", qualname := Str.ofString "negated", params := ?p8, body := FuncBody.stmts ?b8, scope := ?s8, globals := (3 : Nat), closure := [], defaults := Value.none, kwdefaults := Value.none, pyModule := Value.str (Str.ofString "outlinemill.exact") (234 : Nat), code := Value.ref (95 : Nat) } }) ::
    (nat_lit 97, { cls := Value.type "tuple", data := Data.seq #[] }) ::
    (nat_lit 99, { cls := Value.type "tuple", data := Data.seq #[Value.str (Str.ofString "a") (302 : Nat)] }) ::
    (nat_lit 100, { cls := Value.type "tuple", data := Data.seq #[] }) ::
    (nat_lit 102, { cls := Value.type "code", data := Data.fields #[Value.str (Str.ofString "absolute") (299 : Nat), Value.str (Str.ofString "absolute") (300 : Nat), Value.str (Str.ofString "/claim/cut.py") (301 : Nat), Value.int 35 (0 : Nat), Value.int 1 (0 : Nat), Value.int 0 (0 : Nat), Value.int 0 (0 : Nat), Value.int 3 (0 : Nat), Value.ref (97 : Nat), Value.bool true, Value.int 181 (0 : Nat), Value.ref (98 : Nat), Value.none, Value.ref (99 : Nat), Value.ref (100 : Nat), Value.ref (101 : Nat), Value.int 303 (0 : Nat), Value.int 35 (0 : Nat), Value.str (Str.ofString "/claim/cut.py") (304 : Nat)] }) ::
    (nat_lit 103, { cls := Value.type "function", data := Data.func { name := Str.ofString "absolute", qualname := Str.ofString "absolute", params := ?p9, body := FuncBody.stmts ?b9, scope := ?s9, globals := (3 : Nat), closure := [], defaults := Value.none, kwdefaults := Value.none, pyModule := Value.str (Str.ofString "outlinemill.exact") (234 : Nat), code := Value.ref (102 : Nat) } }) ::
    (nat_lit 104, { cls := Value.type "tuple", data := Data.seq #[] }) ::
    (nat_lit 106, { cls := Value.type "tuple", data := Data.seq #[Value.str (Str.ofString "a") (309 : Nat)] }) ::
    (nat_lit 107, { cls := Value.type "tuple", data := Data.seq #[] }) ::
    (nat_lit 109, { cls := Value.type "code", data := Data.fields #[Value.str (Str.ofString "sign_of") (306 : Nat), Value.str (Str.ofString "sign_of") (307 : Nat), Value.str (Str.ofString "/claim/cut.py") (308 : Nat), Value.int 37 (0 : Nat), Value.int 1 (0 : Nat), Value.int 0 (0 : Nat), Value.int 0 (0 : Nat), Value.int 3 (0 : Nat), Value.ref (104 : Nat), Value.bool true, Value.int 181 (0 : Nat), Value.ref (105 : Nat), Value.none, Value.ref (106 : Nat), Value.ref (107 : Nat), Value.ref (108 : Nat), Value.int 310 (0 : Nat), Value.int 37 (0 : Nat), Value.str (Str.ofString "/claim/cut.py") (311 : Nat)] }) ::
    (nat_lit 110, { cls := Value.type "function", data := Data.func { name := Str.ofString "sign_of", qualname := Str.ofString "sign_of", params := ?p10, body := FuncBody.stmts ?b10, scope := ?s10, globals := (3 : Nat), closure := [], defaults := Value.none, kwdefaults := Value.none, pyModule := Value.str (Str.ofString "outlinemill.exact") (234 : Nat), code := Value.ref (109 : Nat) } }) ::
    (nat_lit 111, { cls := Value.type "tuple", data := Data.seq #[] }) ::
    (nat_lit 113, { cls := Value.type "tuple", data := Data.seq #[Value.str (Str.ofString "a") (316 : Nat), Value.str (Str.ofString "b") (317 : Nat)] }) ::
    (nat_lit 114, { cls := Value.type "tuple", data := Data.seq #[] }) ::
    (nat_lit 116, { cls := Value.type "code", data := Data.fields #[Value.str (Str.ofString "compare") (313 : Nat), Value.str (Str.ofString "compare") (314 : Nat), Value.str (Str.ofString "/claim/cut.py") (315 : Nat), Value.int 43 (0 : Nat), Value.int 2 (0 : Nat), Value.int 0 (0 : Nat), Value.int 0 (0 : Nat), Value.int 3 (0 : Nat), Value.ref (111 : Nat), Value.bool true, Value.int 181 (0 : Nat), Value.ref (112 : Nat), Value.none, Value.ref (113 : Nat), Value.ref (114 : Nat), Value.ref (115 : Nat), Value.int 318 (0 : Nat), Value.int 43 (0 : Nat), Value.str (Str.ofString "/claim/cut.py") (319 : Nat)] }) ::
    (nat_lit 117, { cls := Value.type "function", data := Data.func { name := Str.ofString "compare", qualname := Str.ofString "compare", params := ?p11, body := FuncBody.stmts ?b11, scope := ?s11, globals := (3 : Nat), closure := [], defaults := Value.none, kwdefaults := Value.none, pyModule := Value.str (Str.ofString "outlinemill.exact") (234 : Nat), code := Value.ref (116 : Nat) } }) ::
    (nat_lit 118, { cls := Value.type "tuple", data := Data.seq #[] }) ::
    (nat_lit 120, { cls := Value.type "tuple", data := Data.seq #[Value.str (Str.ofString "some") (324 : Nat), Value.str (Str.ofString "found") (325 : Nat), Value.str (Str.ofString "one") (326 : Nat)] }) ::
    (nat_lit 121, { cls := Value.type "tuple", data := Data.seq #[] }) ::
    (nat_lit 123, { cls := Value.type "code", data := Data.fields #[Value.str (Str.ofString "least") (321 : Nat), Value.str (Str.ofString "least") (322 : Nat), Value.str (Str.ofString "/claim/cut.py") (323 : Nat), Value.int 45 (0 : Nat), Value.int 1 (0 : Nat), Value.int 0 (0 : Nat), Value.int 0 (0 : Nat), Value.int 3 (0 : Nat), Value.ref (118 : Nat), Value.bool true, Value.int 181 (0 : Nat), Value.ref (119 : Nat), Value.none, Value.ref (120 : Nat), Value.ref (121 : Nat), Value.ref (122 : Nat), Value.int 327 (0 : Nat), Value.int 45 (0 : Nat), Value.str (Str.ofString "/claim/cut.py") (328 : Nat)] }) ::
    (nat_lit 124, { cls := Value.type "function", data := Data.func { name := Str.ofString "least", qualname := Str.ofString "least", params := ?p12, body := FuncBody.stmts ?b12, scope := ?s12, globals := (3 : Nat), closure := [], defaults := Value.none, kwdefaults := Value.none, pyModule := Value.str (Str.ofString "outlinemill.exact") (234 : Nat), code := Value.ref (123 : Nat) } }) ::
    (nat_lit 125, { cls := Value.type "tuple", data := Data.seq #[] }) ::
    (nat_lit 127, { cls := Value.type "tuple", data := Data.seq #[Value.str (Str.ofString "some") (333 : Nat), Value.str (Str.ofString "found") (334 : Nat), Value.str (Str.ofString "one") (335 : Nat)] }) ::
    (nat_lit 128, { cls := Value.type "tuple", data := Data.seq #[] }) ::
    (nat_lit 130, { cls := Value.type "code", data := Data.fields #[Value.str (Str.ofString "greatest") (330 : Nat), Value.str (Str.ofString "greatest") (331 : Nat), Value.str (Str.ofString "/claim/cut.py") (332 : Nat), Value.int 51 (0 : Nat), Value.int 1 (0 : Nat), Value.int 0 (0 : Nat), Value.int 0 (0 : Nat), Value.int 3 (0 : Nat), Value.ref (125 : Nat), Value.bool true, Value.int 181 (0 : Nat), Value.ref (126 : Nat), Value.none, Value.ref (127 : Nat), Value.ref (128 : Nat), Value.ref (129 : Nat), Value.int 336 (0 : Nat), Value.int 51 (0 : Nat), Value.str (Str.ofString "/claim/cut.py") (337 : Nat)] }) ::
    (nat_lit 131, { cls := Value.type "function", data := Data.func { name := Str.ofString "greatest", qualname := Str.ofString "greatest", params := ?p13, body := FuncBody.stmts ?b13, scope := ?s13, globals := (3 : Nat), closure := [], defaults := Value.none, kwdefaults := Value.none, pyModule := Value.str (Str.ofString "outlinemill.exact") (234 : Nat), code := Value.ref (130 : Nat) } }) ::
    (nat_lit 132, { cls := Value.type "tuple", data := Data.seq #[] }) ::
    (nat_lit 134, { cls := Value.type "tuple", data := Data.seq #[Value.str (Str.ofString "a") (342 : Nat)] }) ::
    (nat_lit 135, { cls := Value.type "tuple", data := Data.seq #[] }) ::
    (nat_lit 137, { cls := Value.type "code", data := Data.fields #[Value.str (Str.ofString "floor_of") (339 : Nat), Value.str (Str.ofString "floor_of") (340 : Nat), Value.str (Str.ofString "/claim/cut.py") (341 : Nat), Value.int 57 (0 : Nat), Value.int 1 (0 : Nat), Value.int 0 (0 : Nat), Value.int 0 (0 : Nat), Value.int 3 (0 : Nat), Value.ref (132 : Nat), Value.bool true, Value.int 181 (0 : Nat), Value.ref (133 : Nat), Value.none, Value.ref (134 : Nat), Value.ref (135 : Nat), Value.ref (136 : Nat), Value.int 343 (0 : Nat), Value.int 57 (0 : Nat), Value.str (Str.ofString "/claim/cut.py") (344 : Nat)] }) ::
    (nat_lit 138, { cls := Value.type "function", data := Data.func { name := Str.ofString "floor_of", qualname := Str.ofString "floor_of", params := ?p14, body := FuncBody.stmts ?b14, scope := ?s14, globals := (3 : Nat), closure := [], defaults := Value.none, kwdefaults := Value.none, pyModule := Value.str (Str.ofString "outlinemill.exact") (234 : Nat), code := Value.ref (137 : Nat) } }) ::
    (nat_lit 139, { cls := Value.type "tuple", data := Data.seq #[] }) ::
    (nat_lit 141, { cls := Value.type "tuple", data := Data.seq #[Value.str (Str.ofString "a") (349 : Nat)] }) ::
    (nat_lit 142, { cls := Value.type "tuple", data := Data.seq #[] }) ::
    (nat_lit 144, { cls := Value.type "code", data := Data.fields #[Value.str (Str.ofString "ceiling_of") (346 : Nat), Value.str (Str.ofString "ceiling_of") (347 : Nat), Value.str (Str.ofString "/claim/cut.py") (348 : Nat), Value.int 59 (0 : Nat), Value.int 1 (0 : Nat), Value.int 0 (0 : Nat), Value.int 0 (0 : Nat), Value.int 3 (0 : Nat), Value.ref (139 : Nat), Value.bool true, Value.int 181 (0 : Nat), Value.ref (140 : Nat), Value.none, Value.ref (141 : Nat), Value.ref (142 : Nat), Value.ref (143 : Nat), Value.int 350 (0 : Nat), Value.int 59 (0 : Nat), Value.str (Str.ofString "/claim/cut.py") (351 : Nat)] }) ::
    (nat_lit 145, { cls := Value.type "function", data := Data.func { name := Str.ofString "ceiling_of", qualname := Str.ofString "ceiling_of", params := ?p15, body := FuncBody.stmts ?b15, scope := ?s15, globals := (3 : Nat), closure := [], defaults := Value.none, kwdefaults := Value.none, pyModule := Value.str (Str.ofString "outlinemill.exact") (234 : Nat), code := Value.ref (144 : Nat) } }) ::
    (nat_lit 146, { cls := Value.type "tuple", data := Data.seq #[] }) ::
    (nat_lit 148, { cls := Value.type "tuple", data := Data.seq #[Value.str (Str.ofString "a") (356 : Nat)] }) ::
    (nat_lit 149, { cls := Value.type "tuple", data := Data.seq #[] }) ::
    (nat_lit 151, { cls := Value.type "code", data := Data.fields #[Value.str (Str.ofString "rounded") (353 : Nat), Value.str (Str.ofString "rounded") (354 : Nat), Value.str (Str.ofString "/claim/cut.py") (355 : Nat), Value.int 61 (0 : Nat), Value.int 1 (0 : Nat), Value.int 0 (0 : Nat), Value.int 0 (0 : Nat), Value.int 3 (0 : Nat), Value.ref (146 : Nat), Value.bool true, Value.int 181 (0 : Nat), Value.ref (147 : Nat), Value.none, Value.ref (148 : Nat), Value.ref (149 : Nat), Value.ref (150 : Nat), Value.int 357 (0 : Nat), Value.int 61 (0 : Nat), Value.str (Str.ofString "/claim/cut.py") (358 : Nat)] }) ::
    (nat_lit 152, { cls := Value.type "function", data := Data.func { name := Str.ofString "rounded", qualname := Str.ofString "rounded", params := ?p16, body := FuncBody.stmts ?b16, scope := ?s16, globals := (3 : Nat), closure := [], defaults := Value.none, kwdefaults := Value.none, pyModule := Value.str (Str.ofString "outlinemill.exact") (234 : Nat), code := Value.ref (151 : Nat) } }) ::
    (nat_lit 153, { cls := Value.type "tuple", data := Data.seq #[] }) ::
    (nat_lit 155, { cls := Value.type "tuple", data := Data.seq #[Value.str (Str.ofString "n") (363 : Nat), Value.str (Str.ofString "found") (364 : Nat), Value.str (Str.ofString "lower") (365 : Nat)] }) ::
    (nat_lit 156, { cls := Value.type "tuple", data := Data.seq #[] }) ::
    (nat_lit 158, { cls := Value.type "code", data := Data.fields #[Value.str (Str.ofString "root_floor") (360 : Nat), Value.str (Str.ofString "root_floor") (361 : Nat), Value.str (Str.ofString "/claim/cut.py") (362 : Nat), Value.int 63 (0 : Nat), Value.int 1 (0 : Nat), Value.int 0 (0 : Nat), Value.int 0 (0 : Nat), Value.int 3 (0 : Nat), Value.ref (153 : Nat), Value.bool true, Value.int 181 (0 : Nat), Value.ref (154 : Nat), Value.none, Value.ref (155 : Nat), Value.ref (156 : Nat), Value.ref (157 : Nat), Value.int 366 (0 : Nat), Value.int 63 (0 : Nat), Value.str (Str.ofString "/claim/cut.py") (367 : Nat)] }) ::
    (nat_lit 159, { cls := Value.type "function", data := Data.func { name := Str.ofString "root_floor", qualname := Str.ofString "root_floor", params := ?p17, body := FuncBody.stmts ?b17, scope := ?s17, globals := (3 : Nat), closure := [], defaults := Value.none, kwdefaults := Value.none, pyModule := Value.str (Str.ofString "outlinemill.exact") (234 : Nat), code := Value.ref (158 : Nat) } }) ::
    (nat_lit 167, { cls := Value.type "tuple", data := Data.seq #[] }) ::
    (nat_lit 169, { cls := Value.type "tuple", data := Data.seq #[Value.str (Str.ofString "self") (384 : Nat), Value.str (Str.ofString "text") (385 : Nat)] }) ::
    (nat_lit 170, { cls := Value.type "tuple", data := Data.seq #[] }) ::
    (nat_lit 172, { cls := Value.type "code", data := Data.fields #[Value.str (Str.ofString "__init__") (381 : Nat), Value.str (Str.ofString "NumberText.__init__") (382 : Nat), Value.str (Str.ofString "/claim/cut.py") (383 : Nat), Value.int 78 (0 : Nat), Value.int 2 (0 : Nat), Value.int 0 (0 : Nat), Value.int 0 (0 : Nat), Value.int 3 (0 : Nat), Value.ref (167 : Nat), Value.bool true, Value.int 181 (0 : Nat), Value.ref (168 : Nat), Value.none, Value.ref (169 : Nat), Value.ref (170 : Nat), Value.ref (171 : Nat), Value.int 386 (0 : Nat), Value.int 78 (0 : Nat), Value.str (Str.ofString "/claim/cut.py") (387 : Nat)] }) ::
    (nat_lit 173, { cls := Value.type "function", data := Data.func { name := Str.ofString "__init__", qualname := Str.ofString "NumberText.__init__", params := ?p18, body := FuncBody.stmts ?b18, scope := ?s18, globals := (3 : Nat), closure := [], defaults := Value.none, kwdefaults := Value.none, pyModule := Value.str (Str.ofString "outlinemill.exact") (234 : Nat), code := Value.ref (172 : Nat) } }) ::
    (nat_lit 174, { cls := Value.type "tuple", data := Data.seq #[] }) ::
    (nat_lit 176, { cls := Value.type "tuple", data := Data.seq #[Value.str (Str.ofString "self") (392 : Nat), Value.str (Str.ofString "signs") (393 : Nat)] }) ::
    (nat_lit 177, { cls := Value.type "tuple", data := Data.seq #[] }) ::
    (nat_lit 179, { cls := Value.type "code", data := Data.fields #[Value.str (Str.ofString "is_one_of") (389 : Nat), Value.str (Str.ofString "NumberText.is_one_of") (390 : Nat), Value.str (Str.ofString "/claim/cut.py") (391 : Nat), Value.int 82 (0 : Nat), Value.int 2 (0 : Nat), Value.int 0 (0 : Nat), Value.int 0 (0 : Nat), Value.int 3 (0 : Nat), Value.ref (174 : Nat), Value.bool true, Value.int 181 (0 : Nat), Value.ref (175 : Nat), Value.none, Value.ref (176 : Nat), Value.ref (177 : Nat), Value.ref (178 : Nat), Value.int 394 (0 : Nat), Value.int 82 (0 : Nat), Value.str (Str.ofString "/claim/cut.py") (395 : Nat)] }) ::
    (nat_lit 180, { cls := Value.type "function", data := Data.func { name := Str.ofString "is_one_of", qualname := Str.ofString "NumberText.is_one_of", params := ?p19, body := FuncBody.stmts ?b19, scope := ?s19, globals := (3 : Nat), closure := [], defaults := Value.none, kwdefaults := Value.none, pyModule := Value.str (Str.ofString "outlinemill.exact") (234 : Nat), code := Value.ref (179 : Nat) } }) ::
    (nat_lit 181, { cls := Value.type "tuple", data := Data.seq #[] }) ::
    (nat_lit 183, { cls := Value.type "tuple", data := Data.seq #[Value.str (Str.ofString "self") (400 : Nat), Value.str (Str.ofString "signs") (401 : Nat)] }) ::
    (nat_lit 184, { cls := Value.type "tuple", data := Data.seq #[] }) ::
    (nat_lit 186, { cls := Value.type "code", data := Data.fields #[Value.str (Str.ofString "skip") (397 : Nat), Value.str (Str.ofString "NumberText.skip") (398 : Nat), Value.str (Str.ofString "/claim/cut.py") (399 : Nat), Value.int 85 (0 : Nat), Value.int 2 (0 : Nat), Value.int 0 (0 : Nat), Value.int 0 (0 : Nat), Value.int 3 (0 : Nat), Value.ref (181 : Nat), Value.bool true, Value.int 181 (0 : Nat), Value.ref (182 : Nat), Value.none, Value.ref (183 : Nat), Value.ref (184 : Nat), Value.ref (185 : Nat), Value.int 402 (0 : Nat), Value.int 85 (0 : Nat), Value.str (Str.ofString "/claim/cut.py") (403 : Nat)] }) ::
    (nat_lit 187, { cls := Value.type "function", data := Data.func { name := Str.ofString "skip", qualname := Str.ofString "NumberText.skip", params := ?p20, body := FuncBody.stmts ?b20, scope := ?s20, globals := (3 : Nat), closure := [], defaults := Value.none, kwdefaults := Value.none, pyModule := Value.str (Str.ofString "outlinemill.exact") (234 : Nat), code := Value.ref (186 : Nat) } }) ::
    (nat_lit 188, { cls := Value.type "tuple", data := Data.seq #[] }) ::
    (nat_lit 190, { cls := Value.type "tuple", data := Data.seq #[Value.str (Str.ofString "self") (408 : Nat), Value.str (Str.ofString "begin") (409 : Nat)] }) ::
    (nat_lit 191, { cls := Value.type "tuple", data := Data.seq #[] }) ::
    (nat_lit 193, { cls := Value.type "code", data := Data.fields #[Value.str (Str.ofString "digits") (405 : Nat), Value.str (Str.ofString "NumberText.digits") (406 : Nat), Value.str (Str.ofString "/claim/cut.py") (407 : Nat), Value.int 91 (0 : Nat), Value.int 1 (0 : Nat), Value.int 0 (0 : Nat), Value.int 0 (0 : Nat), Value.int 3 (0 : Nat), Value.ref (188 : Nat), Value.bool true, Value.int 181 (0 : Nat), Value.ref (189 : Nat), Value.none, Value.ref (190 : Nat), Value.ref (191 : Nat), Value.ref (192 : Nat), Value.int 410 (0 : Nat), Value.int 91 (0 : Nat), Value.str (Str.ofString "/claim/cut.py") (411 : Nat)] }) ::
    (nat_lit 194, { cls := Value.type "function", data := Data.func { name := Str.ofString "digits", qualname := Str.ofString "NumberText.digits", params := ?p21, body := FuncBody.stmts ?b21, scope := ?s21, globals := (3 : Nat), closure := [], defaults := Value.none, kwdefaults := Value.none, pyModule := Value.str (Str.ofString "outlinemill.exact") (234 : Nat), code := Value.ref (193 : Nat) } }) ::
    (nat_lit 195, { cls := Value.type "tuple", data := Data.seq #[Value.str (Str.ofString "at") (413 : Nat), Value.str (Str.ofString "text") (414 : Nat)] }) ::
    (nat_lit 196, { cls := Value.type "dict", data := Data.dict (List.toArray ({ hash := PyData.keyHash P (Str.ofString "__module__"), key := Value.str (Str.ofString "__module__") (376 : Nat), val := Value.str (Str.ofString "outlinemill.exact") (234 : Nat) } :: { hash := PyData.keyHash P (Str.ofString "__firstlineno__"), key := Value.str (Str.ofString "__firstlineno__") (380 : Nat), val := Value.int 76 (379 : Nat) } :: { hash := PyData.keyHash P (Str.ofString "__init__"), key := Value.str (Str.ofString "__init__") (388 : Nat), val := Value.ref (173 : Nat) } :: { hash := PyData.keyHash P (Str.ofString "is_one_of"), key := Value.str (Str.ofString "is_one_of") (396 : Nat), val := Value.ref (180 : Nat) } :: { hash := PyData.keyHash P (Str.ofString "skip"), key := Value.str (Str.ofString "skip") (404 : Nat), val := Value.ref (187 : Nat) } :: { hash := PyData.keyHash P (Str.ofString "digits"), key := Value.str (Str.ofString "digits") (412 : Nat), val := Value.ref (194 : Nat) } :: { hash := PyData.keyHash P (Str.ofString "__static_attributes__"), key := Value.str (Str.ofString "__static_attributes__") (415 : Nat), val := Value.ref (195 : Nat) } :: { hash := PyData.keyHash P (Str.ofString "__dict__"), key := Value.str (Str.ofString "__dict__") (417 : Nat), val := Value.ref (198 : Nat) } :: { hash := PyData.keyHash P (Str.ofString "__weakref__"), key := Value.str (Str.ofString "__weakref__") (419 : Nat), val := Value.ref (199 : Nat) } :: { hash := PyData.keyHash P (Str.ofString "__doc__"), key := Value.str (Str.ofString "__doc__") (420 : Nat), val := Value.none } :: [])) 4 }) ::
    (nat_lit 197, { cls := Value.type "type", data := Data.cls { name := Str.ofString "NumberText", bases := [Value.type "object"], mro := [Value.ref (197 : Nat), Value.type "object"], ns := (196 : Nat), qualname := Str.ofString "NumberText" }, slots := #[Option.none, Option.none, Option.some (Value.str (Str.ofString "NumberText") (369 : Nat)), Option.some (Value.str (Str.ofString "NumberText") (377 : Nat)), Option.some (Value.builtin "object.__new__"), Option.some (Value.bool true)] }) ::
    (nat_lit 198, { cls := Value.type "getset_descriptor", data := Data.fields #[Value.str (Str.ofString "__dict__") (416 : Nat), Value.ref (197 : Nat), Value.builtin "function.__dict__", Value.builtin "function.__dict__#set"] }) ::
    (nat_lit 199, { cls := Value.type "getset_descriptor", data := Data.fields #[Value.str (Str.ofString "__weakref__") (418 : Nat), Value.ref (197 : Nat), Value.builtin "ExceptionGroup.__weakref__", Value.none] }) ::
    (nat_lit 202, { cls := Value.type "tuple", data := Data.seq #[] }) ::
    (nat_lit 204, { cls := Value.type "tuple", data := Data.seq #[Value.str (Str.ofString "digits") (426 : Nat), Value.str (Str.ofString "number") (427 : Nat), Value.str (Str.ofString "digit") (428 : Nat)] }) ::
    (nat_lit 205, { cls := Value.type "tuple", data := Data.seq #[] }) ::
    (nat_lit 207, { cls := Value.type "code", data := Data.fields #[Value.str (Str.ofString "whole_of") (423 : Nat), Value.str (Str.ofString "whole_of") (424 : Nat), Value.str (Str.ofString "/claim/cut.py") (425 : Nat), Value.int 96 (0 : Nat), Value.int 1 (0 : Nat), Value.int 0 (0 : Nat), Value.int 0 (0 : Nat), Value.int 3 (0 : Nat), Value.ref (202 : Nat), Value.bool true, Value.int 181 (0 : Nat), Value.ref (203 : Nat), Value.none, Value.ref (204 : Nat), Value.ref (205 : Nat), Value.ref (206 : Nat), Value.int 429 (0 : Nat), Value.int 96 (0 : Nat), Value.str (Str.ofString "/claim/cut.py") (430 : Nat)] }) ::
    (nat_lit 208, { cls := Value.type "function", data := Data.func { name := Str.ofString "whole_of", qualname := Str.ofString "whole_of", params := ?p22, body := FuncBody.stmts ?b22, scope := ?s22, globals := (3 : Nat), closure := [], defaults := Value.none, kwdefaults := Value.none, pyModule := Value.str (Str.ofString "outlinemill.exact") (234 : Nat), code := Value.ref (207 : Nat) } }) ::
    (nat_lit 209, { cls := Value.type "tuple", data := Data.seq #[] }) ::
    (nat_lit 211, { cls := Value.type "tuple", data := Data.seq #[Value.str (Str.ofString "reader") (435 : Nat), Value.str (Str.ofString "sign") (436 : Nat), Value.str (Str.ofString "digits") (437 : Nat)] }) ::
    (nat_lit 212, { cls := Value.type "tuple", data := Data.seq #[] }) ::
    (nat_lit 214, { cls := Value.type "code", data := Data.fields #[Value.str (Str.ofString "read_exponent") (432 : Nat), Value.str (Str.ofString "read_exponent") (433 : Nat), Value.str (Str.ofString "/claim/cut.py") (434 : Nat), Value.int 101 (0 : Nat), Value.int 1 (0 : Nat), Value.int 0 (0 : Nat), Value.int 0 (0 : Nat), Value.int 3 (0 : Nat), Value.ref (209 : Nat), Value.bool true, Value.int 181 (0 : Nat), Value.ref (210 : Nat), Value.none, Value.ref (211 : Nat), Value.ref (212 : Nat), Value.ref (213 : Nat), Value.int 438 (0 : Nat), Value.int 101 (0 : Nat), Value.str (Str.ofString "/claim/cut.py") (439 : Nat)] }) ::
    (nat_lit 215, { cls := Value.type "function", data := Data.func { name := Str.ofString "read_exponent", qualname := Str.ofString "read_exponent", params := ?p23, body := FuncBody.stmts ?b23, scope := ?s23, globals := (3 : Nat), closure := [], defaults := Value.none, kwdefaults := Value.none, pyModule := Value.str (Str.ofString "outlinemill.exact") (234 : Nat), code := Value.ref (214 : Nat) } }) ::
    (nat_lit 216, { cls := Value.type "tuple", data := Data.seq #[] }) ::
    (nat_lit 218, { cls := Value.type "tuple", data := Data.seq #[Value.str (Str.ofString "text") (444 : Nat), Value.str (Str.ofString "reader") (445 : Nat), Value.str (Str.ofString "sign") (446 : Nat), Value.str (Str.ofString "whole") (447 : Nat), Value.str (Str.ofString "parts") (448 : Nat), Value.str (Str.ofString "exponent") (449 : Nat), Value.str (Str.ofString "number") (450 : Nat)] }) ::
    (nat_lit 219, { cls := Value.type "tuple", data := Data.seq #[] }) ::
    (nat_lit 221, { cls := Value.type "code", data := Data.fields #[Value.str (Str.ofString "read_decimal") (441 : Nat), Value.str (Str.ofString "read_decimal") (442 : Nat), Value.str (Str.ofString "/claim/cut.py") (443 : Nat), Value.int 108 (0 : Nat), Value.int 1 (0 : Nat), Value.int 0 (0 : Nat), Value.int 0 (0 : Nat), Value.int 3 (0 : Nat), Value.ref (216 : Nat), Value.bool true, Value.int 181 (0 : Nat), Value.ref (217 : Nat), Value.none, Value.ref (218 : Nat), Value.ref (219 : Nat), Value.ref (220 : Nat), Value.int 451 (0 : Nat), Value.int 108 (0 : Nat), Value.str (Str.ofString "/claim/cut.py") (452 : Nat)] }) ::
    (nat_lit 222, { cls := Value.type "function", data := Data.func { name := Str.ofString "read_decimal", qualname := Str.ofString "read_decimal", params := ?p24, body := FuncBody.stmts ?b24, scope := ?s24, globals := (3 : Nat), closure := [], defaults := Value.none, kwdefaults := Value.none, pyModule := Value.str (Str.ofString "outlinemill.exact") (234 : Nat), code := Value.ref (221 : Nat) } }) ::
    (nat_lit 223, { cls := Value.type "tuple", data := Data.seq #[Value.int 6 (454 : Nat)] }) ::
    (nat_lit 224, { cls := Value.type "tuple", data := Data.seq #[] }) ::
    (nat_lit 226, { cls := Value.type "tuple", data := Data.seq #[Value.str (Str.ofString "a") (458 : Nat), Value.str (Str.ofString "places") (459 : Nat), Value.str (Str.ofString "scale") (460 : Nat), Value.str (Str.ofString "scaled") (461 : Nat), Value.str (Str.ofString "told") (462 : Nat), Value.str (Str.ofString "rest") (463 : Nat), Value.str (Str.ofString "parts") (464 : Nat)] }) ::
    (nat_lit 227, { cls := Value.type "tuple", data := Data.seq #[] }) ::
    (nat_lit 229, { cls := Value.type "code", data := Data.fields #[Value.str (Str.ofString "write_decimal") (455 : Nat), Value.str (Str.ofString "write_decimal") (456 : Nat), Value.str (Str.ofString "/claim/cut.py") (457 : Nat), Value.int 124 (0 : Nat), Value.int 2 (0 : Nat), Value.int 0 (0 : Nat), Value.int 0 (0 : Nat), Value.int 3 (0 : Nat), Value.ref (224 : Nat), Value.bool true, Value.int 181 (0 : Nat), Value.ref (225 : Nat), Value.none, Value.ref (226 : Nat), Value.ref (227 : Nat), Value.ref (228 : Nat), Value.int 465 (0 : Nat), Value.int 124 (0 : Nat), Value.str (Str.ofString "/claim/cut.py") (466 : Nat)] }) ::
    (nat_lit 230, { cls := Value.type "function", data := Data.func { name := Str.ofString "write_decimal", qualname := Str.ofString "write_decimal", params := ?p25, body := FuncBody.stmts ?b25, scope := ?s25, globals := (3 : Nat), closure := [], defaults := Value.ref (223 : Nat), kwdefaults := Value.none, pyModule := Value.str (Str.ofString "outlinemill.exact") (234 : Nat), code := Value.ref (229 : Nat) } }) ::
    (nat_lit 231, { cls := Value.type "tuple", data := Data.seq #[] }) ::
    (nat_lit 233, { cls := Value.type "tuple", data := Data.seq #[Value.str (Str.ofString "script") (473 : Nat), Value.str (Str.ofString "k") (474 : Nat), Value.str (Str.ofString "cell") (475 : Nat), Value.str (Str.ofString "big") (476 : Nat), Value.str (Str.ofString "mixed") (477 : Nat)] }) ::
    (nat_lit 234, { cls := Value.type "tuple", data := Data.seq #[] }) ::
    (nat_lit 236, { cls := Value.type "code", data := Data.fields #[Value.str (Str.ofString "_law_pool") (470 : Nat), Value.str (Str.ofString "_law_pool") (471 : Nat), Value.str (Str.ofString "/claim/cut.py") (472 : Nat), Value.int 135 (0 : Nat), Value.int 2 (0 : Nat), Value.int 0 (0 : Nat), Value.int 0 (0 : Nat), Value.int 3 (0 : Nat), Value.ref (231 : Nat), Value.bool true, Value.int 181 (0 : Nat), Value.ref (232 : Nat), Value.none, Value.ref (233 : Nat), Value.ref (234 : Nat), Value.ref (235 : Nat), Value.int 478 (0 : Nat), Value.int 135 (0 : Nat), Value.str (Str.ofString "/claim/cut.py") (479 : Nat)] }) ::
    (nat_lit 237, { cls := Value.type "function", data := Data.func { name := Str.ofString "_law_pool", qualname := Str.ofString "_law_pool", params := ?p26, body := FuncBody.stmts ?b26, scope := ?s26, globals := (3 : Nat), closure := [], defaults := Value.none, kwdefaults := Value.none, pyModule := Value.str (Str.ofString "law_nu0015_01") (468 : Nat), code := Value.ref (236 : Nat) } }) ::
    (nat_lit 238, { cls := Value.type "tuple", data := Data.seq #[] }) ::
    (nat_lit 240, { cls := Value.type "tuple", data := Data.seq #[Value.str (Str.ofString "source") (484 : Nat), Value.str (Str.ofString "top") (485 : Nat), Value.str (Str.ofString "drawn") (486 : Nat)] }) ::
    (nat_lit 241, { cls := Value.type "tuple", data := Data.seq #[] }) ::
    (nat_lit 243, { cls := Value.type "code", data := Data.fields #[Value.str (Str.ofString "_law_take") (481 : Nat), Value.str (Str.ofString "_law_take") (482 : Nat), Value.str (Str.ofString "/claim/cut.py") (483 : Nat), Value.int 140 (0 : Nat), Value.int 2 (0 : Nat), Value.int 0 (0 : Nat), Value.int 0 (0 : Nat), Value.int 3 (0 : Nat), Value.ref (238 : Nat), Value.bool true, Value.int 181 (0 : Nat), Value.ref (239 : Nat), Value.none, Value.ref (240 : Nat), Value.ref (241 : Nat), Value.ref (242 : Nat), Value.int 487 (0 : Nat), Value.int 140 (0 : Nat), Value.str (Str.ofString "/claim/cut.py") (488 : Nat)] }) ::
    (nat_lit 244, { cls := Value.type "function", data := Data.func { name := Str.ofString "_law_take", qualname := Str.ofString "_law_take", params := ?p27, body := FuncBody.stmts ?b27, scope := ?s27, globals := (3 : Nat), closure := [], defaults := Value.none, kwdefaults := Value.none, pyModule := Value.str (Str.ofString "law_nu0015_01") (468 : Nat), code := Value.ref (243 : Nat) } }) ::
    (nat_lit 245, { cls := Value.type "tuple", data := Data.seq #[] }) ::
    (nat_lit 247, { cls := Value.type "tuple", data := Data.seq #[Value.str (Str.ofString "source") (493 : Nat), Value.str (Str.ofString "things") (494 : Nat)] }) ::
    (nat_lit 248, { cls := Value.type "tuple", data := Data.seq #[] }) ::
    (nat_lit 250, { cls := Value.type "code", data := Data.fields #[Value.str (Str.ofString "_law_one") (490 : Nat), Value.str (Str.ofString "_law_one") (491 : Nat), Value.str (Str.ofString "/claim/cut.py") (492 : Nat), Value.int 147 (0 : Nat), Value.int 2 (0 : Nat), Value.int 0 (0 : Nat), Value.int 0 (0 : Nat), Value.int 3 (0 : Nat), Value.ref (245 : Nat), Value.bool true, Value.int 181 (0 : Nat), Value.ref (246 : Nat), Value.none, Value.ref (247 : Nat), Value.ref (248 : Nat), Value.ref (249 : Nat), Value.int 495 (0 : Nat), Value.int 147 (0 : Nat), Value.str (Str.ofString "/claim/cut.py") (496 : Nat)] }) ::
    (nat_lit 251, { cls := Value.type "function", data := Data.func { name := Str.ofString "_law_one", qualname := Str.ofString "_law_one", params := ?p28, body := FuncBody.stmts ?b28, scope := ?s28, globals := (3 : Nat), closure := [], defaults := Value.none, kwdefaults := Value.none, pyModule := Value.str (Str.ofString "law_nu0015_01") (468 : Nat), code := Value.ref (250 : Nat) } }) ::
    (nat_lit 252, { cls := Value.type "tuple", data := Data.seq #[] }) ::
    (nat_lit 254, { cls := Value.type "tuple", data := Data.seq #[Value.str (Str.ofString "told") (501 : Nat), Value.str (Str.ofString "top") (502 : Nat), Value.str (Str.ofString "bottom") (503 : Nat), Value.str (Str.ofString "one") (504 : Nat), Value.str (Str.ofString "other") (505 : Nat)] }) ::
    (nat_lit 255, { cls := Value.type "tuple", data := Data.seq #[] }) ::
    (nat_lit 257, { cls := Value.type "code", data := Data.fields #[Value.str (Str.ofString "_law_same") (498 : Nat), Value.str (Str.ofString "_law_same") (499 : Nat), Value.str (Str.ofString "/claim/cut.py") (500 : Nat), Value.int 149 (0 : Nat), Value.int 3 (0 : Nat), Value.int 0 (0 : Nat), Value.int 0 (0 : Nat), Value.int 3 (0 : Nat), Value.ref (252 : Nat), Value.bool true, Value.int 181 (0 : Nat), Value.ref (253 : Nat), Value.none, Value.ref (254 : Nat), Value.ref (255 : Nat), Value.ref (256 : Nat), Value.int 506 (0 : Nat), Value.int 149 (0 : Nat), Value.str (Str.ofString "/claim/cut.py") (507 : Nat)] }) ::
    (nat_lit 258, { cls := Value.type "function", data := Data.func { name := Str.ofString "_law_same", qualname := Str.ofString "_law_same", params := ?p29, body := FuncBody.stmts ?b29, scope := ?s29, globals := (3 : Nat), closure := [], defaults := Value.none, kwdefaults := Value.none, pyModule := Value.str (Str.ofString "law_nu0015_01") (468 : Nat), code := Value.ref (257 : Nat) } }) ::
    (nat_lit 259, { cls := Value.type "tuple", data := Data.seq #[] }) ::
    (nat_lit 261, { cls := Value.type "tuple", data := Data.seq #[Value.str (Str.ofString "source") (512 : Nat), Value.str (Str.ofString "way") (513 : Nat), Value.str (Str.ofString "top") (514 : Nat)] }) ::
    (nat_lit 262, { cls := Value.type "tuple", data := Data.seq #[] }) ::
    (nat_lit 264, { cls := Value.type "code", data := Data.fields #[Value.str (Str.ofString "_law_drawn") (509 : Nat), Value.str (Str.ofString "_law_drawn") (510 : Nat), Value.str (Str.ofString "/claim/cut.py") (511 : Nat), Value.int 156 (0 : Nat), Value.int 1 (0 : Nat), Value.int 0 (0 : Nat), Value.int 0 (0 : Nat), Value.int 3 (0 : Nat), Value.ref (259 : Nat), Value.bool true, Value.int 181 (0 : Nat), Value.ref (260 : Nat), Value.none, Value.ref (261 : Nat), Value.ref (262 : Nat), Value.ref (263 : Nat), Value.int 515 (0 : Nat), Value.int 156 (0 : Nat), Value.str (Str.ofString "/claim/cut.py") (516 : Nat)] }) ::
    (nat_lit 265, { cls := Value.type "function", data := Data.func { name := Str.ofString "_law_drawn", qualname := Str.ofString "_law_drawn", params := ?p30, body := FuncBody.stmts ?b30, scope := ?s30, globals := (3 : Nat), closure := [], defaults := Value.none, kwdefaults := Value.none, pyModule := Value.str (Str.ofString "law_nu0015_01") (468 : Nat), code := Value.ref (264 : Nat) } }) ::
    (nat_lit 266, { cls := Value.type "tuple", data := Data.seq #[] }) ::
    (nat_lit 268, { cls := Value.type "tuple", data := Data.seq #[Value.str (Str.ofString "a") (521 : Nat), Value.str (Str.ofString "b") (522 : Nat), Value.str (Str.ofString "one") (523 : Nat), Value.str (Str.ofString "other") (524 : Nat), Value.str (Str.ofString "rows") (525 : Nat), Value.str (Str.ofString "told") (526 : Nat), Value.str (Str.ofString "top") (527 : Nat)] }) ::
    (nat_lit 269, { cls := Value.type "tuple", data := Data.seq #[] }) ::
    (nat_lit 271, { cls := Value.type "code", data := Data.fields #[Value.str (Str.ofString "_law_sums_right") (518 : Nat), Value.str (Str.ofString "_law_sums_right") (519 : Nat), Value.str (Str.ofString "/claim/cut.py") (520 : Nat), Value.int 162 (0 : Nat), Value.int 4 (0 : Nat), Value.int 0 (0 : Nat), Value.int 0 (0 : Nat), Value.int 3 (0 : Nat), Value.ref (266 : Nat), Value.bool true, Value.int 181 (0 : Nat), Value.ref (267 : Nat), Value.none, Value.ref (268 : Nat), Value.ref (269 : Nat), Value.ref (270 : Nat), Value.int 528 (0 : Nat), Value.int 162 (0 : Nat), Value.str (Str.ofString "/claim/cut.py") (529 : Nat)] }) ::
    (nat_lit 272, { cls := Value.type "function", data := Data.func { name := Str.ofString "_law_sums_right", qualname := Str.ofString "_law_sums_right", params := ?p31, body := FuncBody.stmts ?b31, scope := ?s31, globals := (3 : Nat), closure := [], defaults := Value.none, kwdefaults := Value.none, pyModule := Value.str (Str.ofString "law_nu0015_01") (468 : Nat), code := Value.ref (271 : Nat) } }) ::
    (nat_lit 273, { cls := Value.type "tuple", data := Data.seq #[] }) ::
    (nat_lit 275, { cls := Value.type "tuple", data := Data.seq #[Value.str (Str.ofString "a") (534 : Nat), Value.str (Str.ofString "b") (535 : Nat), Value.str (Str.ofString "one") (536 : Nat), Value.str (Str.ofString "other") (537 : Nat), Value.str (Str.ofString "apart") (538 : Nat), Value.str (Str.ofString "due") (539 : Nat), Value.str (Str.ofString "low") (540 : Nat), Value.str (Str.ofString "high") (541 : Nat)] }) ::
    (nat_lit 276, { cls := Value.type "tuple", data := Data.seq #[] }) ::
    (nat_lit 278, { cls := Value.type "code", data := Data.fields #[Value.str (Str.ofString "_law_order_right") (531 : Nat), Value.str (Str.ofString "_law_order_right") (532 : Nat), Value.str (Str.ofString "/claim/cut.py") (533 : Nat), Value.int 174 (0 : Nat), Value.int 4 (0 : Nat), Value.int 0 (0 : Nat), Value.int 0 (0 : Nat), Value.int 3 (0 : Nat), Value.ref (273 : Nat), Value.bool true, Value.int 181 (0 : Nat), Value.ref (274 : Nat), Value.none, Value.ref (275 : Nat), Value.ref (276 : Nat), Value.ref (277 : Nat), Value.int 542 (0 : Nat), Value.int 174 (0 : Nat), Value.str (Str.ofString "/claim/cut.py") (543 : Nat)] }) ::
    (nat_lit 279, { cls := Value.type "function", data := Data.func { name := Str.ofString "_law_order_right", qualname := Str.ofString "_law_order_right", params := ?p32, body := FuncBody.stmts ?b32, scope := ?s32, globals := (3 : Nat), closure := [], defaults := Value.none, kwdefaults := Value.none, pyModule := Value.str (Str.ofString "law_nu0015_01") (468 : Nat), code := Value.ref (278 : Nat) } }) ::
    (nat_lit 280, { cls := Value.type "tuple", data := Data.seq #[] }) ::
    (nat_lit 282, { cls := Value.type "tuple", data := Data.seq #[Value.str (Str.ofString "a") (548 : Nat), Value.str (Str.ofString "one") (549 : Nat)] }) ::
    (nat_lit 283, { cls := Value.type "tuple", data := Data.seq #[] }) ::
    (nat_lit 285, { cls := Value.type "code", data := Data.fields #[Value.str (Str.ofString "_law_whole_right") (545 : Nat), Value.str (Str.ofString "_law_whole_right") (546 : Nat), Value.str (Str.ofString "/claim/cut.py") (547 : Nat), Value.int 181 (0 : Nat), Value.int 2 (0 : Nat), Value.int 0 (0 : Nat), Value.int 0 (0 : Nat), Value.int 3 (0 : Nat), Value.ref (280 : Nat), Value.bool true, Value.int 181 (0 : Nat), Value.ref (281 : Nat), Value.none, Value.ref (282 : Nat), Value.ref (283 : Nat), Value.ref (284 : Nat), Value.int 550 (0 : Nat), Value.int 181 (0 : Nat), Value.str (Str.ofString "/claim/cut.py") (551 : Nat)] }) ::
    (nat_lit 286, { cls := Value.type "function", data := Data.func { name := Str.ofString "_law_whole_right", qualname := Str.ofString "_law_whole_right", params := ?p33, body := FuncBody.stmts ?b33, scope := ?s33, globals := (3 : Nat), closure := [], defaults := Value.none, kwdefaults := Value.none, pyModule := Value.str (Str.ofString "law_nu0015_01") (468 : Nat), code := Value.ref (285 : Nat) } }) ::
    (nat_lit 287, { cls := Value.type "tuple", data := Data.seq #[] }) ::
    (nat_lit 289, { cls := Value.type "tuple", data := Data.seq #[Value.str (Str.ofString "source") (556 : Nat), Value.str (Str.ofString "great") (557 : Nat), Value.str (Str.ofString "number") (558 : Nat), Value.str (Str.ofString "root") (559 : Nat)] }) ::
    (nat_lit 290, { cls := Value.type "tuple", data := Data.seq #[] }) ::
    (nat_lit 292, { cls := Value.type "code", data := Data.fields #[Value.str (Str.ofString "_law_root_right") (553 : Nat), Value.str (Str.ofString "_law_root_right") (554 : Nat), Value.str (Str.ofString "/claim/cut.py") (555 : Nat), Value.int 187 (0 : Nat), Value.int 1 (0 : Nat), Value.int 0 (0 : Nat), Value.int 0 (0 : Nat), Value.int 3 (0 : Nat), Value.ref (287 : Nat), Value.bool true, Value.int 181 (0 : Nat), Value.ref (288 : Nat), Value.none, Value.ref (289 : Nat), Value.ref (290 : Nat), Value.ref (291 : Nat), Value.int 560 (0 : Nat), Value.int 187 (0 : Nat), Value.str (Str.ofString "/claim/cut.py") (561 : Nat)] }) ::
    (nat_lit 293, { cls := Value.type "function", data := Data.func { name := Str.ofString "_law_root_right", qualname := Str.ofString "_law_root_right", params := ?p34, body := FuncBody.stmts ?b34, scope := ?s34, globals := (3 : Nat), closure := [], defaults := Value.none, kwdefaults := Value.none, pyModule := Value.str (Str.ofString "law_nu0015_01") (468 : Nat), code := Value.ref (292 : Nat) } }) ::
    (nat_lit 294, { cls := Value.type "tuple", data := Data.seq #[] }) ::
    (nat_lit 296, { cls := Value.type "tuple", data := Data.seq #[Value.str (Str.ofString "source") (566 : Nat), Value.str (Str.ofString "whole") (567 : Nat), Value.str (Str.ofString "parts") (568 : Nat), Value.str (Str.ofString "sign") (569 : Nat), Value.str (Str.ofString "power") (570 : Nat), Value.str (Str.ofString "tail") (571 : Nat), Value.str (Str.ofString "factor") (572 : Nat), Value.str (Str.ofString "rows") (573 : Nat), Value.str (Str.ofString "text") (574 : Nat), Value.str (Str.ofString "top") (575 : Nat), Value.str (Str.ofString "bottom") (576 : Nat), Value.str (Str.ofString "many") (577 : Nat), Value.str (Str.ofString "wrong") (578 : Nat)] }) ::
    (nat_lit 297, { cls := Value.type "tuple", data := Data.seq #[] }) ::
    (nat_lit 299, { cls := Value.type "code", data := Data.fields #[Value.str (Str.ofString "_law_text_right") (563 : Nat), Value.str (Str.ofString "_law_text_right") (564 : Nat), Value.str (Str.ofString "/claim/cut.py") (565 : Nat), Value.int 198 (0 : Nat), Value.int 1 (0 : Nat), Value.int 0 (0 : Nat), Value.int 0 (0 : Nat), Value.int 3 (0 : Nat), Value.ref (294 : Nat), Value.bool true, Value.int 181 (0 : Nat), Value.ref (295 : Nat), Value.none, Value.ref (296 : Nat), Value.ref (297 : Nat), Value.ref (298 : Nat), Value.int 579 (0 : Nat), Value.int 198 (0 : Nat), Value.str (Str.ofString "/claim/cut.py") (580 : Nat)] }) ::
    (nat_lit 300, { cls := Value.type "function", data := Data.func { name := Str.ofString "_law_text_right", qualname := Str.ofString "_law_text_right", params := ?p35, body := FuncBody.stmts ?b35, scope := ?s35, globals := (3 : Nat), closure := [], defaults := Value.none, kwdefaults := Value.none, pyModule := Value.str (Str.ofString "law_nu0015_01") (468 : Nat), code := Value.ref (299 : Nat) } }) ::
    (nat_lit 301, { cls := Value.type "tuple", data := Data.seq #[] }) ::
    (nat_lit 303, { cls := Value.type "tuple", data := Data.seq #[Value.str (Str.ofString "source") (585 : Nat), Value.str (Str.ofString "one") (586 : Nat), Value.str (Str.ofString "places") (587 : Nat), Value.str (Str.ofString "text") (588 : Nat), Value.str (Str.ofString "back") (589 : Nat), Value.str (Str.ofString "apart") (590 : Nat)] }) ::
    (nat_lit 304, { cls := Value.type "tuple", data := Data.seq #[] }) ::
    (nat_lit 306, { cls := Value.type "code", data := Data.fields #[Value.str (Str.ofString "_law_written_right") (582 : Nat), Value.str (Str.ofString "_law_written_right") (583 : Nat), Value.str (Str.ofString "/claim/cut.py") (584 : Nat), Value.int 214 (0 : Nat), Value.int 2 (0 : Nat), Value.int 0 (0 : Nat), Value.int 0 (0 : Nat), Value.int 3 (0 : Nat), Value.ref (301 : Nat), Value.bool true, Value.int 181 (0 : Nat), Value.ref (302 : Nat), Value.none, Value.ref (303 : Nat), Value.ref (304 : Nat), Value.ref (305 : Nat), Value.int 591 (0 : Nat), Value.int 214 (0 : Nat), Value.str (Str.ofString "/claim/cut.py") (592 : Nat)] }) ::
    (nat_lit 307, { cls := Value.type "function", data := Data.func { name := Str.ofString "_law_written_right", qualname := Str.ofString "_law_written_right", params := ?p36, body := FuncBody.stmts ?b36, scope := ?s36, globals := (3 : Nat), closure := [], defaults := Value.none, kwdefaults := Value.none, pyModule := Value.str (Str.ofString "law_nu0015_01") (468 : Nat), code := Value.ref (306 : Nat) } }) ::
    (nat_lit 308, { cls := Value.type "tuple", data := Data.seq #[] }) ::
    (nat_lit 310, { cls := Value.type "tuple", data := Data.seq #[Value.str (Str.ofString "script") (597 : Nat), Value.str (Str.ofString "k") (598 : Nat), Value.str (Str.ofString "source") (599 : Nat), Value.str (Str.ofString "a") (600 : Nat), Value.str (Str.ofString "b") (601 : Nat), Value.str (Str.ofString "one") (602 : Nat), Value.str (Str.ofString "other") (603 : Nat)] }) ::
    (nat_lit 311, { cls := Value.type "tuple", data := Data.seq #[] }) ::
    (nat_lit 313, { cls := Value.type "code", data := Data.fields #[Value.str (Str.ofString "law") (594 : Nat), Value.str (Str.ofString "law") (595 : Nat), Value.str (Str.ofString "/claim/cut.py") (596 : Nat), Value.int 222 (0 : Nat), Value.int 1 (0 : Nat), Value.int 0 (0 : Nat), Value.int 0 (0 : Nat), Value.int 3 (0 : Nat), Value.ref (308 : Nat), Value.bool true, Value.int 181 (0 : Nat), Value.ref (309 : Nat), Value.none, Value.ref (310 : Nat), Value.ref (311 : Nat), Value.ref (312 : Nat), Value.int 604 (0 : Nat), Value.int 222 (0 : Nat), Value.str (Str.ofString "/claim/cut.py") (605 : Nat)] }) ::
    (nat_lit 314, { cls := Value.type "function", data := Data.func { name := Str.ofString "law", qualname := Str.ofString "law", params := ?p37, body := FuncBody.stmts ?b37, scope := ?s37, globals := (3 : Nat), closure := [], defaults := Value.none, kwdefaults := Value.none, pyModule := Value.str (Str.ofString "law_nu0015_01") (468 : Nat), code := Value.ref (313 : Nat) } }) :: [] : List (Nat × Obj))
/-- its addresses -/
def asK : List Addr := [2, 3, 15, 22, 24, 25, 27, 28, 29, 30, 31, 32, 35, 42, 43, 44, 47, 49, 50, 52, 53, 54, 55, 57, 58, 60, 61, 62, 64, 65, 67, 68, 69, 71, 72, 74, 75, 76, 78, 79, 81, 82, 83, 85, 86, 88, 89, 90, 92, 93, 95, 96, 97, 99, 100, 102, 103, 104, 106, 107, 109, 110, 111, 113, 114, 116, 117, 118, 120, 121, 123, 124, 125, 127, 128, 130, 131, 132, 134, 135, 137, 138, 139, 141, 142, 144, 145, 146, 148, 149, 151, 152, 153, 155, 156, 158, 159, 167, 169, 170, 172, 173, 174, 176, 177, 179, 180, 181, 183, 184, 186, 187, 188, 190, 191, 193, 194, 195, 196, 197, 198, 199, 202, 204, 205, 207, 208, 209, 211, 212, 214, 215, 216, 218, 219, 221, 222, 223, 224, 226, 227, 229, 230, 231, 233, 234, 236, 237, 238, 240, 241, 243, 244, 245, 247, 248, 250, 251, 252, 254, 255, 257, 258, 259, 261, 262, 264, 265, 266, 268, 269, 271, 272, 273, 275, 276, 278, 279, 280, 282, 283, 285, 286, 287, 289, 290, 292, 293, 294, 296, 297, 299, 300, 301, 303, 304, 306, 307, 308, 310, 311, 313, 314]
end Mine
namespace Mine
theorem rst_Base : True := by
  w_top off
  trivial
end Mine
set_option maxRecDepth 100000
namespace Mine
open PySem PySem.W PyProof.Rows PySem.Spec PySem.Calls

def Kp (h h' : Heap) (ch : List Addr) : Prop := ∀ b o, h.get? b = some o → b ∉ ch → h'.get? b = some o

theorem Kp.news {h₀ h h' : Heap} {L : Addr} {led : List (Addr × Obj)} (K : Kp h h' []) (N : News h₀ L h led) : News h₀ L h' led :=
  fun p hp => ⟨K _ _ (N p hp).1 (fun q => nomatch q), (N p hp).2⟩

theorem new_cons {h₀ h h' : Heap} {L a : Addr} {o : Obj} {m : Str → Option Value} {led : List (Addr × Obj)} (F : Fr h₀ L h m) (N : News h₀ L h' led)
    (h1 : h.get? a = none) (h2 : h'.get? a = some o) : News h₀ L h' ((a, o) :: led) := by
  intro p hp
  rcases List.mem_cons.mp hp with rfl | hp
  · refine ⟨h2, fun q => ?_, ?_⟩
    · obtain ⟨oL, _, _, hL, _⟩ := F.ns
      have q' : a = L := q
      rw [q', hL] at h1
      cases h1
    · cases q : h₀.get? a with
      | none => rfl
      | some o' =>
        have := F.keep _ _ q
        rw [h1] at this
        cases this
  · exact N p hp

theorem new_ne {h₀ h : Heap} {L a : Addr} {led : List (Addr × Obj)} (N : News h₀ L h led) (h1 : h.get? a = none) : ∀ p ∈ led, p.1 ≠ a := by
  intro p hp q
  have := (N p hp).1
  rw [q, h1] at this
  cases this

noncomputable def NeAll (a : Nat) : List (Addr × Obj) → Prop
  | [] => True
  | p :: r => @Ne Nat p.1 a ∧ NeAll a r
theorem neAll_of {a : Addr} : ∀ {l : List (Addr × Obj)}, (∀ p ∈ l, p.1 ≠ a) → NeAll a l
  | [], _ => trivial
  | p :: _, h => ⟨h p (.head _), neAll_of fun q hq => h q (.tail _ hq)⟩
/-- one that stands at the end and stood in no ledger is new -/
theorem fresh_end {h g h' : Heap} {L' a : Addr} {o : Obj} {led new : List (Addr × Obj)} (GS : GSub h g (led.map (·.1))) (N : News g L' h' new) (hm : (a, o) ∈ new) (hne : ∀ p ∈ led, p.1 ≠ a) :
    h.get? a = none ∧ h'.get? a = some o := by
  refine ⟨?_, (N _ hm).1⟩
  cases q : h.get? a with
  | none => rfl
  | some o' =>
    have := GS a o' q (fun hh => by
      obtain ⟨p, hp, e⟩ := List.mem_map.mp hh
      exact hne p hp e)
    rw [(N _ hm).2.2] at this
    cases this

def SpEnd (s : Shared) (g : Heap) (led : List (Addr × Obj)) (ch : List Addr) (Out : Heap → Heap → Value → Prop) (v : Value) (s' : Shared) : Prop :=
  ∃ (L' : Addr) (h' : Heap) (m' : Str → Option Value) (tk' : Nat), s' = { s with heap := h', toks := tk' } ∧ Fr g L' h' m' ∧ (∀ p ∈ led, p.1 ∉ ch → h'.get? p.1 = some p.2) ∧ Out s.heap h' v

def SpRet (h₀ : Heap) (L : Addr) (m : Str → Option Value) (ch : List Addr) (Out : Heap → Heap → Value → Prop) (Q : Value → Shared → Prop) (s : Shared) : Prop :=
  ∀ r h' tk', Fr h₀ L h' m → Kp s.heap h' ch → Out s.heap h' r → Q r { s with heap := h', toks := tk' }

section
variable {prog : Program} {w : World} {K : Frag} {p : Program} {loose : List Str} {mean : ExcName → Option Value} {mg mb : Str → Option Value}
  {dp un : Nat} {gd : Option (List Code)} {cn : Str} {cs : Scope} {a : Addr} {ccd : Value} {cl : List (Str × Addr)} {outer : List Env} {A₀ : Around} {base h₀ : Heap} {L : Addr} {m : Str → Option Value} {s : Shared} {Q E : Value → Shared → Prop}
  {name qual : Str} {params : Arguments} {body : List Stmt} {scope : Scope} {dV kV doc pm cdv ct oc : Value} {an od : Option Addr} {osl : Array (Option Value)} {f : Addr} {vs : List Value} {binds : List (Str × Value)} {led : List (Addr × Obj)} {ch : List Addr} {Out : Heap → Heap → Value → Prop}

theorem sp_enter (B : Below A₀ base outer h₀) (F : Fr h₀ L s.heap m) (X₀ : K.In h₀) (N : News h₀ L s.heap led) (T : Top p loose mean mg mb h₀) (hck : cs.kind = .function)
    (ret : SpRet h₀ L m ch Out Q s)
    (ho : K.lookup f = some ⟨oc, od, .func (fnOf name qual params body scope dV kV doc pm an cdv ct), osl⟩) (hcd : codeIn K cdv qual = true) (hroom : dp < recursionLimit)
    (hbind : BindsTo s (fnOf name qual params body scope dV kV doc pm an cdv ct) ⟨vs, []⟩ binds) (hloc : ∀ y ∈ binds, scope.names.lookup y.1 = some .local)
    (h : ∀ g L' h₁, Fr h₀ L g m → Fr g L' h₁ (fun y => binds.reverse.lookup y) → News g L' h₁ led → Below (ktrTop dp un gd cn cs L a ccd cl outer) base (envX cn cs L a ccd cl :: outer) g → K.In g → Top p loose mean mg mb g → GSub s.heap g (led.map (·.1)) →
      wpAny (model prog w) ((ktrTop dp un gd cn cs L a ccd cl outer).deeper (envOf qual scope L' f cdv)) (execs body (envOf qual scope L' f cdv))
        (fun fl s' => SpEnd s g led ch Out (match fl with | .ret v => v | _ => .none) s')
        (fun e s' => wpAny (model prog w) ((ktrTop dp un gd cn cs L a ccd cl outer).deeper (envOf qual scope L' f cdv)) (leaving (envOf qual scope L' f cdv) e) (fun _ s'' => E e s'') (fun e' s'' => E e' s'') s')
        { s with heap := h₁, toks := s.toks + binds.length })
    (hco : scope.isCoroutine = false) (hgen : scope.isGenerator = false) (hk : scope.kind = .function)
    (hcell : ∀ x ∈ scope.names, x.2 ≠ .cell) :
    wpAny (model prog w) (ktrTop dp un gd cn cs L a ccd cl outer) (call (.ref f) vs) Q E s := by
  refine wpAny_call (code_defG B F X₀ N T rfl rfl hck ho hcd hroom hbind hloc (fun g L' h₁ FG F' N' B' X' T' GS => ?_) hco hgen hk hcell)
  refine wpAny_mono (h g L' h₁ FG F' N' B' X' T' GS) (fun fl s' hs => ?_) fun _ _ x => x
  obtain ⟨L₂, h', m', tk', rfl, F₂, hl, ho'⟩ := hs
  have KK : Kp s.heap h' ch := by
    intro b o e nb
    by_cases hb : b ∈ led.map (·.1)
    · obtain ⟨q, hq, rfl⟩ := List.mem_map.mp hb
      have h1 := (N q hq).1
      rw [e] at h1
      cases h1
      exact hl q hq nb
    · exact F₂.keep _ _ (GS b o e hb)
  exact ⟨L₂, m', [], F₂, fun _ hp => (nomatch hp), fun F₃ _ => ret _ h' tk' F₃ KK ho'⟩
end

def Sp (w : World) (mean : ExcName → Option Value) (mg mb : Str → Option Value) (f : Addr) (k : Nat) (vs : List Value) (led : List (Addr × Obj)) (ch : List Addr) (Out : Heap → Heap → Value → Prop) : Prop :=
  ∀ (dp un : Nat) (gd : Option (List Code)) (cn : Str) (cs : Scope) (a : Addr) (ccd : Value) (cl : List (Str × Addr)) (outer : List Env) (A₀ : Around) (base h₀ : Heap) (L : Addr) (m : Str → Option Value) (s : Shared) (Q E : Value → Shared → Prop),
    Below A₀ base outer h₀ → Fr h₀ L s.heap m → (Mine.hpK w.params).In h₀ → News h₀ L s.heap led → Top Mine.vwV (looseW Mine.vwV [Str.ofString "fraction", Str.ofString "write_decimal"]) mean mg mb h₀ → cs.kind = .function →
    dp + k < recursionLimit → un + 8 * k < cLine →
    SpRet h₀ L m ch Out Q s →
    wpAny (model PySem.Challenge.rw_nu0015_01.row.prog w) (ktrTop dp un gd cn cs L a ccd cl outer) (call (.ref f) vs) Q E s

section
variable {w : World} {mean : ExcName → Option Value} {mg mb : Str → Option Value} {f : Addr} {k : Nat} {vs : List Value} {led : List (Addr × Obj)} {ch : List Addr} {Out : Heap → Heap → Value → Prop}
  {dp un : Nat} {gd : Option (List Code)} {cn : Str} {cs : Scope} {a : Addr} {ccd : Value} {cl : List (Str × Addr)} {outer : List Env} {A₀ : Around} {base h₀ : Heap} {L : Addr} {m : Str → Option Value} {s : Shared} {Q E : Value → Shared → Prop} {big : List (Addr × Obj)}
theorem Sp.use (S : Sp w mean mg mb f k vs led ch Out) (B : Below A₀ base outer h₀) (F : Fr h₀ L s.heap m) (X : (Mine.hpK w.params).In h₀) (N : News h₀ L s.heap big)
    (T : Top Mine.vwV (looseW Mine.vwV [Str.ofString "fraction", Str.ofString "write_decimal"]) mean mg mb h₀) (hk : cs.kind = .function) (hs : ∀ p ∈ led, p ∈ big)
    (hd : dp + k < recursionLimit) (hu : un + 8 * k < cLine)
    (ret : ∀ r h' tk', Fr h₀ L h' m → Kp s.heap h' ch → Out s.heap h' r → Q r { s with heap := h', toks := tk' }) :
    wpAny (model PySem.Challenge.rw_nu0015_01.row.prog w) (ktrTop dp un gd cn cs L a ccd cl outer) (call (.ref f) vs) Q E s :=
  S _ _ _ _ _ _ _ _ _ _ _ _ _ _ _ _ _ B F X (fun p hp => N p (hs p hp)) T hk hd hu ret
/-- a call that changes nothing and gives an int -/
theorem Sp.useI {n : Int} (S : Sp w mean mg mb f k vs led [] (fun _ _ r => ∃ t, r = .int n t)) (B : Below A₀ base outer h₀) (F : Fr h₀ L s.heap m) (X : (Mine.hpK w.params).In h₀) (N : News h₀ L s.heap big)
    (T : Top Mine.vwV (looseW Mine.vwV [Str.ofString "fraction", Str.ofString "write_decimal"]) mean mg mb h₀) (hk : cs.kind = .function) (hs : ∀ p ∈ led, p ∈ big)
    (hd : dp + k < recursionLimit) (hu : un + 8 * k < cLine)
    (ret : ∀ t h' tk', Fr h₀ L h' m → News h₀ L h' big → Q (.int n t) { s with heap := h', toks := tk' }) :
    wpAny (model PySem.Challenge.rw_nu0015_01.row.prog w) (ktrTop dp un gd cn cs L a ccd cl outer) (call (.ref f) vs) Q E s :=
  S.use B F X N T hk hs hd hu (fun r h' tk' F' K' ho => by obtain ⟨t, rfl⟩ := ho; exact ret t h' tk' F' (K'.news N))
/-- .. a bool -/
theorem Sp.useB {b : Bool} (S : Sp w mean mg mb f k vs led [] (fun _ _ r => r = .bool b)) (B : Below A₀ base outer h₀) (F : Fr h₀ L s.heap m) (X : (Mine.hpK w.params).In h₀) (N : News h₀ L s.heap big)
    (T : Top Mine.vwV (looseW Mine.vwV [Str.ofString "fraction", Str.ofString "write_decimal"]) mean mg mb h₀) (hk : cs.kind = .function) (hs : ∀ p ∈ led, p ∈ big)
    (hd : dp + k < recursionLimit) (hu : un + 8 * k < cLine)
    (ret : ∀ h' tk', Fr h₀ L h' m → News h₀ L h' big → Q (.bool b) { s with heap := h', toks := tk' }) :
    wpAny (model PySem.Challenge.rw_nu0015_01.row.prog w) (ktrTop dp un gd cn cs L a ccd cl outer) (call (.ref f) vs) Q E s :=
  S.use B F X N T hk hs hd hu (fun r h' tk' F' K' ho => by subst ho; exact ret h' tk' F' (K'.news N))
abbrev tupO (x y : Int) (t u : Tok) : Obj := { cls := .type "tuple", data := .seq #[.int x t, .int y u] }
abbrev OutT (x y : Int) : Heap → Heap → Value → Prop := fun h h' r => ∃ a t u, r = .ref a ∧ h.get? a = none ∧ h'.get? a = some (tupO x y t u)
/-- .. a new pair of ints -/
theorem Sp.useT {x y : Int} (S : Sp w mean mg mb f k vs led [] (OutT x y)) (B : Below A₀ base outer h₀) (F : Fr h₀ L s.heap m) (X : (Mine.hpK w.params).In h₀) (N : News h₀ L s.heap big)
    (T : Top Mine.vwV (looseW Mine.vwV [Str.ofString "fraction", Str.ofString "write_decimal"]) mean mg mb h₀) (hk : cs.kind = .function) (hs : ∀ p ∈ led, p ∈ big)
    (hd : dp + k < recursionLimit) (hu : un + 8 * k < cLine)
    (ret : ∀ a t u h' tk', Fr h₀ L h' m → News h₀ L h' ((a, tupO x y t u) :: big) → NeAll a big → Q (.ref a) { s with heap := h', toks := tk' }) :
    wpAny (model PySem.Challenge.rw_nu0015_01.row.prog w) (ktrTop dp un gd cn cs L a ccd cl outer) (call (.ref f) vs) Q E s :=
  S.use B F X N T hk hs hd hu (fun r h' tk' F' K' ho => by
    obtain ⟨b, t, u, rfl, h1, h2⟩ := ho
    exact ret b t u h' tk' F' (new_cons F (K'.news N) h1 h2) (neAll_of (new_ne N h1)))
end
end Mine
namespace Mine
theorem rst_C1 : True := by
  w_top off
  trivial
end Mine
set_option maxRecDepth 100000
namespace Mine
open PySem PySem.W PyProof.Rows PySem.Spec PySem.Calls

theorem gcd_step {a b : Int} (hb : 0 < b) : Int.gcd b (Int.fmod a b) = Int.gcd a b := by
  rw [Int.fmod_eq_emod_of_nonneg _ (Int.le_of_lt hb)]
  apply Nat.dvd_antisymm
  · apply Int.dvd_gcd
    · have h1 : ((Int.gcd b (a % b) : Nat) : Int) ∣ b := Int.gcd_dvd_left ..
      have h2 : ((Int.gcd b (a % b) : Nat) : Int) ∣ a % b := Int.gcd_dvd_right ..
      have := Int.dvd_add h2 (Int.dvd_mul_of_dvd_left (c := a / b) h1)
      rwa [Int.emod_add_mul_ediv] at this
    · exact Int.gcd_dvd_left ..
  · apply Int.dvd_gcd
    · exact Int.gcd_dvd_right ..
    · have h1 : ((Int.gcd a b : Nat) : Int) ∣ b := Int.gcd_dvd_right ..
      have h2 : ((Int.gcd a b : Nat) : Int) ∣ a := Int.gcd_dvd_left ..
      rw [Int.emod_def]
      exact Int.dvd_sub h2 (Int.dvd_mul_of_dvd_left h1)
theorem cd_start {x y : Int} (hy : 0 < y) : 0 ≤ (if x < 0 then -x else x) ∧ 0 ≤ y ∧ Int.gcd (if x < 0 then -x else x) y = Int.gcd x y := by
  refine ⟨by split <;> omega, by omega, ?_⟩
  split
  · exact Int.neg_gcd
  · rfl
theorem cd_turn {f g : Int} {n : Nat} (h : 0 ≤ f ∧ 0 ≤ g ∧ Int.gcd f g = n) (hg : 0 < g) : 0 ≤ g ∧ 0 ≤ Int.fmod f g ∧ Int.gcd g (Int.fmod f g) = n := by
  refine ⟨h.2.1, Int.fmod_nonneg h.1 h.2.1, ?_⟩
  rw [gcd_step hg]; exact h.2.2
theorem cd_less {f g : Int} (hg : 0 < g) : (Int.fmod f g).toNat < g.toNat := by
  have h1 := Int.fmod_lt_of_pos f hg
  have h2 := Int.fmod_nonneg_of_pos f hg
  omega
theorem cd_done {f g : Int} {n : Nat} (h3 : Int.gcd f g = n) (h1 : 0 ≤ f) (h2 : 0 ≤ g) (h4 : ¬ 0 < g) : f = (n : Int) := by
  have : g = 0 := by omega
  subst this
  rw [Int.gcd_zero_right] at h3
  omega

set_option maxHeartbeats 8000000 in
theorem c_cd (w : World) (mean : ExcName → Option Value) (mg mb : Str → Option Value) (x y : Int) (t1 t2 : Tok) (hy : 0 < y) :
  Sp w mean mg mb 53 1 [.int x t1, .int y t2] [] [] (fun _ _ r => ∃ t, r = .int (Int.gcd x y : Nat) t) := by
  unfold Sp
  k_fill
  k_with_none
  k_with "exec While Compare cons nil" => k_while (fun _ f g => 0 ≤ f ∧ 0 ≤ g ∧ Int.gcd f g = Int.gcd x y) (fun _ f g => g.toNat) "first" "second"
  k_with "state" => first | exact cd_start (by assumption) | exact cd_turn ⟨by assumption, by assumption, by assumption⟩ (by assumption)
  k_with "measure" => exact cd_less (by assumption)
  intro dp un gd cn cs a ccd cl outer A₀ base h₀ L m s Q E B F X N T hck hdp hun hret
  k_dflt (refine' sp_enter B F X N T hck hret ?k6 ?k7 ?k8 ?k9 ?kB ?_ ?c2 ?c3 ?c4 ?c5; (case k6 => k_is); (case k7 => k_is); (case k8 => omega); (case k9 => exact BindsTo.of_eq rfl); (case c5 => decide); (case kB => exact locs rfl); (case c2 => exact rfl); (case c3 => exact rfl); (case c4 => exact rfl))
  intro g' L' h' FG' F' N' B' X' T' GS'
  (try dsimp only); (try k_fold)
  k_steps
  all_goals exact ⟨_, _, _, _, rfl, by assumption, (fun _ hp => nomatch hp), ktn_int (cd_done (by assumption) (by assumption) (by assumption) (by assumption))⟩
end Mine
namespace Mine
theorem rst_NF : True := by
  w_top off
  trivial
end Mine
set_option maxRecDepth 100000
namespace Mine
open PySem PySem.W PyProof.Rows PySem.Spec PySem.Calls Builtin Builtin.ObjectAttr

abbrev excO (C t0 : Addr) (dx : Option Addr) : Obj := { cls := .ref C, dict := dx, data := .fields #[.ref t0, .none, .none, .none, .bool false, .none] }

section
variable {prog : Program} {w : World} {A : Around} {E : Value → Shared → Prop} {R : Result → Shared → Prop} {h : Heap} {g : Array GenState} {d : Drawn} {t : Nat} {os : OsState}
variable {nm q : Str} {C N : Addr} {bs bm bmB : List Value} {hdct : Bool} {sn : List Str} {sub : List Value} {ab : Bool} {col : Option Bool} {dd : Option Addr} {k0 k1 k2 k3 k5 : Option Value} {B newId initId : String}

theorem nf_check_new (F : ExcBaseFacts B newId initId bmB) (hB : bm.contains (.type B) = true) {M : Model} {rest : List Value} {Q : Unit → Shared → Prop} (hC : h.get? C = some (excClassObj nm q C N bs bm hdct sn sub ab col dd k0 k1 k2 k3 k5 newId))
    (hq : Q () ⟨h, g, d, t, os⟩) : wpAny M A (checkBuiltinCall newId ⟨.ref C :: rest, []⟩) Q E ⟨h, g, d, t, os⟩ := by
  have hcont : (Value.ref C :: bm).contains (.type B) = true := by rw [List.contains_cons, hB, Bool.or_true]
  have hstar := F.noStar
  simp only [checkBuiltinCall, F.newKind, F.newSplit, F.newRow]
  repeat (first | refine wpAny_loadPart_at hC ?_ | (refine wpAny_isSubtype_exc hC ?_; rw [hcont]) | refine wpAny_staticBase_exc hC ?_ | refine wpAny_madeBy_exc hC ?_ | simp only [bne_self_eq_false, Bool.false_eq_true, if_false] | wp_step)
  exact hq

theorem nf_new (F : ExcBaseFacts B newId initId bmB) (hB : bm.contains (.type B) = true) (hA : bm.contains (.type "AttributeError") = false) (hN : bm.contains (.type "NameError") = false) {rest : List Value}
    (hC : h.get? C = some (excClassObj nm q C N bs bm hdct sn sub ab col dd k0 k1 k2 k3 k5 newId))
    (hq : R (.ok (.ret (.ref (h.objs.size + 1)))) ⟨(h.push { cls := .type "tuple", data := .seq rest.toArray }).push (excO C h.objs.size none), g, d, t, os⟩) (hrest : rest.length ≤ sizeLine) :
    codeAny (model prog w) A (.builtin newId ⟨.ref C :: rest, []⟩) R ⟨h, g, d, t, os⟩ := by
  have hends := F.ends
  have hcB : (Value.ref C :: bm).contains (.type B) = true := by rw [List.contains_cons, hB, Bool.or_true]
  have hcA : (Value.ref C :: bm).contains (.type "AttributeError") = false := by rw [List.contains_cons, hA]; rfl
  have hcN : (Value.ref C :: bm).contains (.type "NameError") = false := by rw [List.contains_cons, hN]; rfl
  refine codeAny_builtinAt F.entry ?_
  unfold Builtin.«BaseException.__new__»
  refine PySem.wpAt_bind ?_
  show PySem.wpAt _ _ _ (stack >>= _) _ _ _
  refine PySem.wpAt_bind (PySem.wpAt_stack fun p below => PySem.wpAt_of_wpAny ?_)
  wp_walk
  refine PySem.wpAt_of_wpAny ?_
  rw [F.owner]
  repeat (first | with_reducible refine wpAny_madeHere_exc F.canon hC ?_ | with_reducible refine wpAny_loadPart_at hC ?_ | (with_reducible refine wpAny_isSubtype_exc hC ?_; first | rw [hcB] | rw [hcA] | rw [hcN]) | wp_step)
  show R _ _
  rw [Heap.size_push]
  exact hq

structure NfMade (h h' : Heap) (e t0 : Addr) (C : Addr) (args : List Value) : Prop where
  keeps : ∀ b o, h.get? b = some o → h'.get? b = some o
  new : h.get? e = none
  there : h'.get? e = some (excO C t0 none)
  tnew : h.get? t0 = none
  tthere : h'.get? t0 = some { cls := .type "tuple", data := .seq args.toArray }

theorem nf_type_call (F : ExcBaseFacts B newId initId bmB) (hB : bm.contains (.type B) = true) (hA : bm.contains (.type "AttributeError") = false) (hN : bm.contains (.type "NameError") = false) {K : Frag} (X : K.In h) {rest : List Value} {fI : Addr} {Q : Fin → Shared → Prop}
    (hC : h.get? C = some (excClassObj nm q C N bs bm hdct sn sub ab col dd k0 k1 k2 k3 k5 newId)) (hi : findIn K (.ref C) "__init__" = some (some (.ref fI)))
    (hf : typeIn K (.ref fI) = some (.type "function"))
    (hq : ∀ h' e t0, NfMade h h' e t0 C rest →
      wpAny (model prog w) A (call (.ref fI) (.ref e :: rest)) (fun r s' => r = .none ∧ Q (.done (.ret (.ref e))) s') E ⟨h', g, d, t, os⟩) (hrest : rest.length ≤ sizeLine) :
    wpAny (model prog w) A (Builtin.«type.__call__» ⟨.ref C :: rest, []⟩) Q E ⟨h, g, d, t, os⟩ := by
  repeat (first | with_reducible refine wpAny_loadPart_at hC ?_ | with_reducible refine wpAny_madeBy_exc hC ?_ | wp_step)
  refine codeAny_call_builtin_code (Code.quiet_builtin _ F.quiet) (nf_check_new F hB hC ?_)
  refine nf_new F hB hA hN hC ?_ hrest
  show wpAny _ _ _ _ _ _
  have hC₁ := Heap.get?_push_of_some (excO C h.objs.size none) (Heap.get?_push_of_some { cls := .type "tuple", data := .seq rest.toArray } hC)
  have X₁ : K.In ((h.push { cls := .type "tuple", data := .seq rest.toArray }).push (excO C h.objs.size none)) := X.keeps fun b o e => Heap.get?_push_of_some _ (Heap.get?_push_of_some _ e)
  have hget : ((h.push { cls := .type "tuple", data := .seq rest.toArray }).push (excO C h.objs.size none)).get? (h.objs.size + 1) = some (excO C h.objs.size none) := by heap_get
  have hcC : (Value.ref C :: bm).contains (.ref C) = true := by simp
  unfold isInstance
  repeat (first | with_reducible refine wpAny_loadPart_at hget ?_ | (with_reducible refine wpAny_isSubtype_exc hC₁ ?_; rw [hcC]) | wp_step)
  show wpAny _ _ (typeLookup (.ref C) _) _ _ _
  refine (looks_findIn X₁ hi).at ?_
  refine wpAny_holding (wpAny_bind ?_)
  refine (bind_fn X₁ _ hf).at ?_
  refine wpAny_bind (wpAny_mono (hq _ (h.objs.size + 1) h.objs.size ⟨fun b o hb => Heap.get?_push_of_some _ (Heap.get?_push_of_some _ hb), Heap.get?_none_of_le (Nat.le_succ _), hget, Heap.get?_none_of_le (Nat.le_refl _), ?_⟩) (fun r s' hr => ?_) fun _ _ x => x)
  · exact Heap.get?_push_of_some _ (Heap.get?_push_at rfl rfl)
  · obtain ⟨rfl, hQ⟩ := hr
    wp_walk
    exact hQ

theorem nf_call (F : ExcBaseFacts B newId initId bmB) (hB : bm.contains (.type B) = true) (hA : bm.contains (.type "AttributeError") = false) (hN : bm.contains (.type "NameError") = false) {K : Frag} (X : K.In h) {rest : List Value} {fI : Addr} {Q : Value → Shared → Prop}
    (hC : h.get? C = some (excClassObj nm q C N bs bm hdct sn sub ab col dd k0 k1 k2 k3 k5 newId)) (hi : findIn K (.ref C) "__init__" = some (some (.ref fI)))
    (hf : typeIn K (.ref fI) = some (.type "function"))
    (hq : ∀ h' e t0, NfMade h h' e t0 C rest →
      wpAny (model prog w) (A.under (.builtin "type.__call__" ⟨.ref C :: rest, []⟩)) (call (.ref fI) (.ref e :: rest)) (fun r s' => r = .none ∧ Q (.ref e) s') E ⟨h', g, d, t, os⟩) (hrest : rest.length ≤ sizeLine) :
    wpAny (model prog w) A (call (.ref C) rest) Q E ⟨h, g, d, t, os⟩ := by
  have f1 := tc_lookup
  have f2 := tc_bind (.ref C)
  have hT : (⟨h, g, d, t, os⟩ : Shared).TypeIs (.ref C) "type" := ⟨_, hC, rfl⟩
  refine wpAny_call (codeAny_of_tree ?_)
  show wpAny _ _ (callAny (.ref C) _) _ _ _
  repeat (any_goals (first | assumption | with_reducible refine wpAny_loadPart_at hC ?_ | wp_step))
  refine ⟨rfl, ?_⟩
  refine codeAny_call_builtin_at (Code.quiet_builtin _ (by decide +kernel)) entry_typeCall (wpAny_check_type_call_sub hC (nf_type_call (hrest := hrest) F hB hA hN X hC hi hf fun h' e t0 hm => ?_))
  exact hq h' e t0 hm

/-- raise of an own exception that stands made -/
theorem nf_raise {M : Model} {env : Env} {s : Shared} {x : PySem.Expr} {pos : Pos} {Q : Flow → Shared → Prop} (hbase : bm.contains (.type "BaseException") = true) (hh : A.handled = none)
    (h : wpAny M A (eval x env) (fun v s₁ => ∃ e t0 dx, v = .ref e ∧ s₁.heap.get? C = some (excClassObj nm q C N bs bm hdct sn sub ab col dd k0 k1 k2 k3 k5 newId) ∧
      s₁.heap.get? e = some (excO C t0 dx) ∧ E (.ref e) s₁) E s) :
    wpAny M A (exec (.Raise (some x) none pos) env) Q E s := by
  have hcB : (Value.ref C :: bm).contains (.type "BaseException") = true := by rw [List.contains_cons, hbase, Bool.or_true]
  show wpAny M A (do standAt pos; raiseStmt env (some (do let v ← eval x env; standAt pos; pure v)) none) Q E s
  refine wpAny_bind (wpAny_standAt ?_)
  unfold raiseStmt
  refine wpAny_bind (wpAny_bind (wpAny_mono h (fun v s₁ h₁ => wpAny_bind (wpAny_standAt (wpAny_pure ?_))) fun _ _ x => x))
  obtain ⟨e, t0, dx, rfl, hC, he, hE⟩ := h₁
  obtain ⟨hp, g, d, tk, os⟩ := s₁
  repeat (first | with_reducible refine wpAny_loadPart_at he ?_ | with_reducible refine wpAny_loadPart_at hC ?_ | (with_reducible refine wpAny_isSubtype_exc hC ?_; rw [hcB]) | wp_step)
  exact wpAny_raiseNew_none hh hE
end
end Mine
namespace Mine
theorem rst_NF2 : True := by
  w_top off
  trivial
end Mine
set_option maxRecDepth 100000
namespace Mine
open PySem PySem.W PyProof.Rows PySem.Spec PySem.Calls Builtin Builtin.ObjectAttr
section
variable {prog : Program} {w : World} {A : Around} {E : Value → Shared → Prop} {s : Shared} {K : Frag} {x C D t0 : Addr} {cd : ClassData} {name : Str} {v : Value}

theorem nf_store_in {tk : Tok} {b : Bool} {R : Result → Shared → Prop} {A' : Around} (X : K.In s.heap) (hx : s.heap.get? x = some (excO C t0 none)) (hc : clsIn K C = some cd) (hhd : cd.hasDict = true)
    (hq : ∀ h' tk' dx, (∀ b o, b ≠ x → s.heap.get? b = some o → h'.get? b = some o) → h'.get? x = some (excO C t0 (some dx)) → R (.ok (.ret .none)) { s with heap := h', toks := tk' }) :
    wpAny (model prog w) A' (storeInOwnDict (.ref x) (.ref C) (.str name tk) name v b)
      (fun fin s' => match fin with | .done f => R (.ok f) s' | .again c' => c'.quiet = true ∧ codeAny (model prog w) A c' R s') (fun e s' => R (.error e) s') s := by
  unfold storeInOwnDict
  refine wpAny_bind ?_
  show wpAny _ _ (pure ()) _ _ _
  refine wpAny_pure ?_
  show wpAny _ _ (ownDictForStores (.ref x) >>= _) _ _ _
  refine wpAny_bind ?_
  show wpAny _ _ (instanceDict x true) _ _ _
  unfold instanceDict
  refine wpAny_bind (wpAny_loadPart hx ?_)
  show wpAny _ _ (classData C >>= _) _ _ _
  refine wpAny_bind ((looks_clsIn X hc).here ?_)
  rw [hhd]
  show wpAny _ _ (alloc { cls := .type "dict", data := .dict #[] } >>= _) _ _ _
  have hx₁ : (s.heap.push { cls := .type "dict", data := .dict #[] }).get? x = some (excO C t0 none) := Heap.get?_push_of_some _ hx
  have hxs : x ≠ s.heap.objs.size := Nat.ne_of_lt (Heap.lt_size hx)
  refine wpAny_bind (wpAny_alloc (wpAny_bind (wpAny_update hx₁ ?_)))
  show wpAny _ _ (pure (some s.heap.objs.size)) _ _ _
  refine wpAny_pure ?_
  have hgd : ((s.heap.push { cls := .type "dict", data := .dict #[] }).update x fun o => { o with dict := some s.heap.objs.size }).get? s.heap.objs.size
      = some { cls := .type "dict", data := .dict #[] } :=
    (Heap.get?_update_ne _ _ _ _ hxs.symm).trans (Heap.get?_push_at rfl rfl)
  have hnd : ((s.heap.push { cls := .type "dict", data := .dict #[] }).update x fun o => { o with dict := some s.heap.objs.size }).Ns s.heap.objs.size (fun _ => none) :=
    ⟨_, #[], _, hgd, rfl, fun e he => absurd he (by simp), fun _ => rfl⟩
  show wpAny _ _ (storeInDict s.heap.objs.size (.str name tk) name v) _ _ _
  unfold storeInDict newKeyGuard
  refine wpAny_bind (wpAny_pure (wpAny_bind (wpAny_nsSet1 (Heap.Ns1.of_empty hnd) fun h' hn' hs => ?_)))
  obtain ⟨oD, esD, epD, hoD, hdD, hcD⟩ := hn'.count (Within.cons name v Within.nil)
  refine wpAny_bind (wpAny_lookBehind hoD (by rw [hdD]; exact pastItsLine_dict (Nat.le_trans hcD (by rw [List.length_cons, List.length_nil, sizeLine_eq]; omega))) ?_)
  refine wpAny_pure (hq h' _ s.heap.objs.size (fun b o hb e => ?_) ?_)
  · exact (hs.2 b (Nat.ne_of_lt (Heap.lt_size e))).trans ((Heap.get?_update_ne _ _ _ _ hb).trans (Heap.get?_push_of_some _ e))
  · exact (hs.2 x hxs).trans (Heap.get?_update_self _ hx₁ rfl)

theorem nf_set {Q : Unit → Shared → Prop} (X : K.In s.heap) (hx : s.heap.get? x = some (excO C t0 none)) (hc : clsIn K C = some cd)
    (hm : cd.mro = [.ref C, .ref D, .type "Exception", .type "BaseException", .type "object"]) (hhd : cd.hasDict = true)
    (hs : findIn K (.ref C) "__setattr__" = some (some (.builtin "object.__setattr__"))) (ht : findIn K (.ref C) name = some none)
    (hq : ∀ h' tk' dx, (∀ b o, b ≠ x → s.heap.get? b = some o → h'.get? b = some o) → h'.get? x = some (excO C t0 (some dx)) → Q () { s with heap := h', toks := tk' }) :
    wpAny (model prog w) A (setAttr (.ref x) name v) Q E s := by
  have I : InstAt s.heap x (excO C t0 none) C none := ⟨hx, rfl, rfl, trivial⟩
  refine set_plain X I hs ?_
  have SF := PySem.F.store_object
  have sub : Looks (model prog w) s.heap (isInstance (.ref x) (.type "object")) true := I.type.andThen (looks_mroIn X (by unfold mroIn; rw [hc, Option.bind_some, if_neg (by rw [hm]; simp), hm]; simp))
  refine codeAny_call_builtin SF.slot.plain SF.entry (@check_slot (model prog w) _ _ { s with toks := s.toks + 1 } "object.__setattr__" "object" "__setattr__" (.ref x) [.str name s.toks, v] [] _ SF.kind SF.split sub (SF.args (.ref x) (.str name s.toks) v) ?_)
  have hmr : Looks (model prog w) s.heap (mroOf (.ref C)) cd.mro := (looks_clsIn X hc).andThen .now
  rw [osa_eq, refuse_eq]
  refine wpAny_bind (wpAny_bind (I.type.at (wpAny_bind (hmr.at ?_))))
  rw [hm, refuseLoop_ref, refuseLoop_ref, PySem.F.store_Exception.passes]
  refine wpAny_pure (wpAny_bind (I.type.at (wpAny_bind ((looks_findIn X ht).at (wpAny_bind (wpAny_pure ?_))))))
  exact nf_store_in (R := fun r s' => match r with | .ok (.ret _) => Q () s' | .ok _ => False | .error e => E e s') (s := { s with toks := s.toks + 1 }) X hx hc hhd (fun h' tk' dx h1 h2 => hq h' tk' dx h1 h2)
end
end Mine
namespace Mine
theorem rst_NF3 : True := by
  w_top off
  trivial
end Mine
set_option maxRecDepth 100000
namespace Mine
open PySem PySem.W PyProof.Rows PySem.Spec PySem.Calls

theorem fr_but {h₀ h h' : Heap} {L x : Addr} {m : Str → Option Value} (F : Fr h₀ L h m) (hk : ∀ b o, b ≠ x → h.get? b = some o → h'.get? b = some o) (hx : x ≠ L ∧ h₀.get? x = none) : Fr h₀ L h' m := by
  obtain ⟨oL, es, ep, hL, r⟩ := F.ns
  refine ⟨⟨oL, es, ep, hk _ _ (Ne.symm hx.1) hL, r⟩, fun b o e => hk b o (fun q => ?_) (F.keep b o e), F.above⟩
  rw [q, hx.2] at e
  cases e

theorem nf_set1 {prog : Program} {w : World} {A : Around} {E : Value → Shared → Prop} {s : Shared} {K : Frag} {x C D t0 : Addr} {cd : ClassData} {name : Str} {v : Value} {h₀ : Heap} {L : Addr} {m : Str → Option Value} {Q : Unit → Shared → Prop}
    (F : Fr h₀ L s.heap m) (X : K.In h₀) (N : News h₀ L s.heap [(x, excO C t0 none)]) (hc : clsIn K C = some cd)
    (hm : cd.mro = [.ref C, .ref D, .type "Exception", .type "BaseException", .type "object"]) (hhd : cd.hasDict = true)
    (hs : findIn K (.ref C) "__setattr__" = some (some (.builtin "object.__setattr__"))) (ht : findIn K (.ref C) name = some none)
    (hq : ∀ h' tk' dx, Fr h₀ L h' m → News h₀ L h' [(x, excO C t0 (some dx))] → Q () { s with heap := h', toks := tk' }) :
    wpAny (model prog w) A (setAttr (.ref x) name v) Q E s := by
  have hx := N _ (List.mem_singleton.mpr rfl)
  refine nf_set (X.keeps F.keep) hx.1 hc hm hhd hs ht fun h' tk' dx h1 h2 => hq h' tk' dx (fr_but F h1 hx.2) fun p hp => ?_
  obtain rfl := List.mem_singleton.mp hp
  exact ⟨h2, hx.2⟩

local macro_rules | `(tactic| walk_at "setAttr ref") => `(tactic| (k_here; (with_reducible show wpAny _ _ (setAttr (Value.ref _) _ _) _ _ _); (k_dflt (refine' nf_set1 (D := 31) ?k1 ?k2 ?k3 ?k4 ?k5 ?k6 ?k7 ?k8 ?_; (case k1 => k_asm); (case k2 => k_asm); (case k3 => k_asm); (case k4 => k_is); (case k5 => rfl); (case k6 => rfl); (case k7 => k_is); (case k8 => k_is))); intro h' tk' dx' F' N'; (try k_sweep)))
set_option maxHeartbeats 8000000 in
theorem c_init (w : World) (mean : ExcName → Option Value) (mg mb : Str → Option Value) (e t0 : Addr) (msg : Str) (t1 : Tok) :
  Sp w mean mg mb 28 120 [.ref e, .str msg t1] [(e, excO 44 t0 none)] [e] (fun _ h' r => r = .none ∧ ∃ dx, h'.get? e = some (excO 44 t0 (some dx))) := by
  unfold Sp
  k_fill
  k_with_none
  intro dp un gd cn cs a ccd cl outer A₀ base h₀ L m s Q E B F X N T hck hdp hun hret
  k_dflt (refine' sp_enter B F X N T hck hret ?k6 ?k7 ?k8 ?k9 ?kB ?_ ?c2 ?c3 ?c4 ?c5; (case k6 => k_is); (case k7 => k_is); (case k8 => omega); (case k9 => first | exact BindsTo.of_eq rfl | exact binds_K (by k_in) rfl (by k_is) rfl rfl rfl); (case c5 => decide); (case kB => exact locs rfl); (case c2 => exact rfl); (case c3 => exact rfl); (case c4 => exact rfl))
  intro g' L' h' FG' F' N' B' X' T' GS'
  (try dsimp only); (try k_fold)
  k_steps
  all_goals exact ⟨_, _, _, _, rfl, by assumption, (fun p hp hn => by obtain rfl := List.mem_singleton.mp hp; exact absurd (List.mem_singleton.mpr rfl) hn), rfl, _, News.get (by assumption) (List.mem_singleton.mpr rfl)⟩
end Mine
namespace Mine
theorem rst_NF4 : True := by
  w_top off
  trivial
end Mine
set_option maxRecDepth 100000
namespace Mine
open PySem PySem.W PyProof.Rows PySem.Spec PySem.Calls

structure NfHeld (h h' : Heap) (e t0 : Addr) (args : List Value) : Prop where
  keeps : ∀ b o, h.get? b = some o → h'.get? b = some o
  new : h.get? e = none
  there : ∃ dx, h'.get? e = some (excO 44 t0 (some dx))
  tnew : h.get? t0 = none
  tthere : h'.get? t0 = some { cls := .type "tuple", data := .seq args.toArray }

def RaisableO (E : Value → Shared → Prop) (v : Value) (s₁ : Shared) : Prop := ∃ e t0 dx, v = .ref e ∧ s₁.heap.get? e = some (excO 44 t0 (some dx)) ∧ E (.ref e) s₁

section
variable {w : World} {mean : ExcName → Option Value} {mg mb : Str → Option Value} {dp un : Nat} {gd : Option (List Code)} {cn : Str} {cs : Scope} {a : Addr} {ccd : Value} {cl : List (Str × Addr)} {outer : List Env} {A₀ : Around} {base h₀ : Heap} {L : Addr} {m : Str → Option Value} {s : Shared} {E : Value → Shared → Prop} {led : List (Addr × Obj)}

theorem nf_raise_stmt {env : Env} {A : Around} {x : PySem.Expr} {pos : Pos} {Q : Flow → Shared → Prop} (X : (Mine.hpK w.params).In h₀) {nm q : Str} {N : Addr} {bs bm : List Value} {hdct : Bool} {sn : List Str} {sub : List Value} {ab : Bool} {col : Option Bool} {dd : Option Addr} {k0 k1 k2 k3 k5 : Option Value} {newId : String}
    (hC : (Mine.hpK w.params).lookup 44 = some (excClassObj nm q 44 N bs bm hdct sn sub ab col dd k0 k1 k2 k3 k5 newId)) (hb : bm.contains (.type "BaseException") = true) (hh : A.handled = none)
    (h : wpAny (model PySem.Challenge.rw_nu0015_01.row.prog w) A (eval x env) (fun v s₁ => h₀.StaysIn s₁.heap ∧ RaisableO E v s₁) E s) :
    wpAny (model PySem.Challenge.rw_nu0015_01.row.prog w) A (exec (.Raise (some x) none pos) env) Q E s := by
  refine nf_raise (C := 44) (bm := bm) (nm := nm) (q := q) (N := N) (bs := bs) (hdct := hdct) (sn := sn) (sub := sub) (ab := ab) (col := col) (dd := dd) (k0 := k0) (k1 := k1) (k2 := k2) (k3 := k3) (k5 := k5) (newId := newId) hb hh (wpAny_mono h (fun v s₁ h₁ => ?_) fun _ _ y => y)
  obtain ⟨hs, e, t0, dx, rfl, he, hE⟩ := h₁
  exact ⟨e, t0, some dx, rfl, hs _ _ (X _ _ hC), he, hE⟩

/-- NumberFault(msg), made for a raise -/
theorem nf_make {msg : Str} {t1 : Tok} {nm q : Str} {N : Addr} {bs bm : List Value} {hdct : Bool} {sn : List Str} {sub : List Value} {ab : Bool} {col : Option Bool} {dd : Option Addr} {k0 k1 k2 k3 k5 : Option Value}
    (B : Below A₀ base outer h₀) (F : Fr h₀ L s.heap m) (X : (Mine.hpK w.params).In h₀)
    (T : Top Mine.vwV (looseW Mine.vwV [Str.ofString "fraction", Str.ofString "write_decimal"]) mean mg mb h₀) (hck : cs.kind = .function)
    (hC : (Mine.hpK w.params).lookup 44 = some (excClassObj nm q 44 N bs bm hdct sn sub ab col dd k0 k1 k2 k3 k5 "Exception.__new__"))
    (hB : bm.contains (.type "Exception") = true) (hA : bm.contains (.type "AttributeError") = false) (hN : bm.contains (.type "NameError") = false)
    (hi : findIn (Mine.hpK w.params) (.ref 44) "__init__" = some (some (.ref 28))) (hf : typeIn (Mine.hpK w.params) (.ref 28) = some (.type "function"))
    (hd : dp + 121 < recursionLimit) (hu : un + 965 < cLine)
    (h : ∀ e t0 h' tk', NfHeld s.heap h' e t0 [.str msg t1] → E (.ref e) { s with heap := h', toks := tk' }) :
    wpAny (model PySem.Challenge.rw_nu0015_01.row.prog w) (ktrTop dp un gd cn cs L a ccd cl outer) (call (.ref 44) [.str msg t1]) (fun v s₁ => h₀.StaysIn s₁.heap ∧ RaisableO E v s₁) E s := by
  obtain ⟨hp, g, d, tk, os⟩ := s
  refine nf_call PySem.F.excBase_Exception hB hA hN (X.keeps F.keep) (F.keep _ _ (X _ _ hC)) hi hf (fun h' e t0 M => ?_) (by rw [sizeLine_eq]; show 1 ≤ 16777216; omega)
  have F' : Fr h₀ L h' m := ⟨(F.ns.keeps M.keeps), fun b o q => M.keeps b o (F.keep b o q), F.above⟩
  have N' : News h₀ L h' [(e, excO 44 t0 none)] := new_cons F (fun _ hp => nomatch hp) M.new M.there
  have eA : (ktrTop dp un gd cn cs L a ccd cl outer).under (.builtin "type.__call__" ⟨[.ref 44, .str msg t1], []⟩) = ktrTop (dp + 1) (un + 1) (pushGuards (Code.guards (.builtin "type.__call__" ⟨[.ref 44, .str msg t1], []⟩)) gd) cn cs L a ccd cl outer := by with_unfolding_all rfl
  rw [eA]
  refine (c_init w mean mg mb e t0 msg t1).use (s := ⟨h', g, d, tk, os⟩) (dp := dp + 1) (un := un + 1) B F' X N' T hck (fun _ hp => hp) (by omega) (by omega) fun r h'' tk' F'' K ho => ?_
  obtain ⟨rfl, dx, he⟩ := ho
  have ne : ∀ b, hp.get? b ≠ none → b ∉ [e] := fun b hb hm => hb (by rw [List.mem_singleton.mp hm]; exact M.new)
  have kk : ∀ b o, hp.get? b = some o → h''.get? b = some o := fun b o q => K b o (M.keeps b o q) (ne b (by rw [q]; exact fun z => nomatch z))
  refine ⟨rfl, fun b o q => kk b o (F.keep b o q), e, t0, dx, rfl, he, h e t0 h'' tk' ⟨kk, M.new, ⟨dx, he⟩, M.tnew, K t0 _ M.tthere (fun hm => ?_)⟩⟩
  have := M.tthere
  rw [List.mem_singleton.mp hm, M.there] at this
  cases this
end

section
variable {M : Model} {A : Around} {E : Value → Shared → Prop} {s' : Shared} {base g h : Heap} {outer : List Env} {L a e t0 : Addr} {m : Str → Option Value} {name : Str} {scope : Scope} {cd : Value} {Q : Unit → Shared → Prop} {news : List (Addr × Obj)}
/-- it leaves the frame that raised it -/
theorem nf_leave {vs : List Value} (K : Below A base outer g) (hx : NfHeld h s'.heap e t0 vs) (F : Fr g L h m) (N : News g L h news)
    (hQ : ∀ h', RaisedS base g outer e (.ref 44) t0 vs news h' → g.UpToSlots h' → Q () { s' with heap := h' }) (hk : scope.kind = .function := by rfl) :
    wpAny M (A.deeper (envOf name scope L a cd)) (leaving (envOf name scope L a cd) (.ref e)) Q E s' := by
  have K' := K.push (name := name) (a := a) (cd := cd) F hk
  have hin : ∀ env ∈ (envOf name scope L a cd :: outer), ∀ b, env.frame = some b → b ∈ (envOf name scope L a cd :: outer).filterMap (·.frame) := fun env he b hb => List.mem_filterMap.mpr ⟨env, he, hb⟩
  have st : base.StaysIn (hideAll h ((envOf name scope L a cd :: outer).filterMap (·.frame))) := fun b o q => hideAll_get _ (K'.stays b o q) fun hm => by
    rw [(K'.frames.mem hm).1] at q; cases q
  have sg : ∀ b o, g.get? b = some o → b ∉ outer.filterMap (·.frame) → (hideAll h ((envOf name scope L a cd :: outer).filterMap (·.frame))).get? b = some o := fun b o q nm => hideAll_get _ (F.keep b o q) fun hm => by
    rcases kts_mem hm with z | z
    · rw [z, kts_self F] at q
      cases q
    · exact nm z
  have hl : ∀ q ∈ news, (hideAll h ((envOf name scope L a cd :: outer).filterMap (·.frame))).get? q.1 = some q.2 ∧ g.get? q.1 = none ∧ base.get? q.1 = none := fun q hq => by
    refine ⟨hideAll_get _ (N q hq).1 fun hm => ?_, (N q hq).2.2, fresh_of_stays K.stays (N q hq).2.2⟩
    obtain ⟨env, he, hf⟩ := List.mem_filterMap.mp hm
    rcases List.mem_cons.mp he with rfl | he
    · exact (N q hq).2.1 (Option.some.inj hf).symm
    · obtain ⟨o, ho, _⟩ := (K.frames.mem (List.mem_filterMap.mpr ⟨env, he, hf⟩)).2
      rw [(N q hq).2.2] at ho; cases ho
  obtain ⟨dx, he⟩ := hx.there
  have hide : ∀ b, h.get? b = none → (hideAll h ((envOf name scope L a cd :: outer).filterMap (·.frame))).get? b = none := fun b hb => by
    cases q : (hideAll h ((envOf name scope L a cd :: outer).filterMap (·.frame))).get? b with
    | none => rfl
    | some o => have := of_hideAll _ q; rw [hb] at this; cases this
  have hen := hide e hx.new
  have htn := hide t0 hx.tnew
  refine wpAny_leaving_firstW (a0 := .ref t0) K'.stack ((funFrames_hide K'.frames hin).of_keeps fun b o hb _ => ⟨o, hx.keeps b o hb, rfl⟩) rfl he (fun b o hb => hx.keeps b o (of_hideAll _ hb)) hen rfl rfl rfl fun h' hL => ?_
  obtain ⟨k1, ⟨_, _, k2⟩, k3, k4⟩ := hL
  exact hQ h' ⟨⟨_, st, sg, hl, ⟨k1, hen, k2, k3⟩, htn⟩, Heap.TupAt.of_slots ⟨_, _, hx.tthere, rfl, rfl⟩ k4⟩ (((Heap.UpToSlots.of_keeps F.keep).trans (Heap.UpToSlots.of_keeps hx.keeps)).trans k4)
end
end Mine
namespace Mine
theorem rst_B1 : True := by
  w_top off
  trivial
end Mine
set_option maxRecDepth 100000
namespace Mine
open PySem PySem.W PyProof.Rows PySem.Spec PySem.Calls
local macro_rules | `(tactic| walk_at "exec For Tuple BinOp cons nil") => `(tactic| (k_here; (rename Fr _ _ _ _ => lF'); (with_unfolding_all refine' For_turns lF' ?_); k_whole))
local macro_rules | `(tactic| walk_at "call ref") => `(tactic| (k_here; k_extra "mycall"))
local macro_rules | `(tactic| walk_at "binaryOp FloorDiv int int") => `(tactic| (k_here; k_extra "mydiv"))
local macro_rules | `(tactic| walk_at "binaryOp Mod int int") => `(tactic| (k_here; k_extra "mymod"))
local macro_rules | `(tactic| walk_at "binaryOp Mult int int") => `(tactic| (k_here; k_extra "mymul"))
local macro_rules | `(tactic| walk_at "setAttr ref") => `(tactic| (k_here; k_extra "mysetattr"))
local macro_rules | `(tactic| walk_at "leaving ref") => `(tactic| (k_here; k_extra "myleave"))
local macro_rules | `(tactic| walk_at "exec Raise some none") => `(tactic| (k_here; k_extra "myraise"))

theorem led_end {g h' : Heap} {L : Addr} {news led : List (Addr × Obj)} {ch : List Addr} (N : News g L h' news) (hs : ∀ p ∈ led, p ∈ news) : ∀ p ∈ led, p.1 ∉ ch → h'.get? p.1 = some p.2 := fun p hp _ => (N p (hs p hp)).1
theorem nes_nil {a : Addr} : ∀ p ∈ ([] : List (Addr × Obj)), p.1 ≠ a := fun _ h => nomatch h
theorem nes_cons {a b : Addr} {o : Obj} {r : List (Addr × Obj)} (h : b ≠ a) (hr : ∀ p ∈ r, p.1 ≠ a) : ∀ p ∈ (b, o) :: r, p.1 ≠ a := List.forall_mem_cons.mpr ⟨h, hr⟩
/-- a new pair at a call's end -/
theorem endT {s : Shared} {g : Heap} {led new : List (Addr × Obj)} {ch : List Addr} {L' c : Addr} {h' : Heap} {m' : Str → Option Value} {tk' : Nat} {x y x' y' : Int} {t u : Tok}
    (F : Fr g L' h' m') (N : News g L' h' new) (GS : GSub s.heap g (led.map (·.1))) (hs : ∀ p ∈ led, p ∈ new) (hm : (c, tupO x y t u) ∈ new) (hn : ∀ p ∈ led, p.1 ≠ c) (e1 : x = x') (e2 : y = y') :
    SpEnd s g led ch (OutT x' y') (.ref c) { s with heap := h', toks := tk' } := by
  subst e1; subst e2
  exact ⟨_, _, _, _, rfl, F, led_end N hs, _, _, _, rfl, fresh_end GS N hm hn⟩
theorem endI {s : Shared} {g : Heap} {led new : List (Addr × Obj)} {ch : List Addr} {L' : Addr} {h' : Heap} {m' : Str → Option Value} {tk' : Nat} {x x' : Int} {t : Tok}
    (F : Fr g L' h' m') (N : News g L' h' new) (hs : ∀ p ∈ led, p ∈ new) (e1 : x = x') :
    SpEnd s g led ch (fun _ _ r => ∃ t, r = .int x' t) (.int x t) { s with heap := h', toks := tk' } := by
  subst e1
  exact ⟨_, _, _, _, rfl, F, led_end N hs, _, rfl⟩
theorem endB {s : Shared} {g : Heap} {led new : List (Addr × Obj)} {ch : List Addr} {L' : Addr} {h' : Heap} {m' : Str → Option Value} {tk' : Nat} {x x' : Bool}
    (F : Fr g L' h' m') (N : News g L' h' new) (hs : ∀ p ∈ led, p ∈ new) (e1 : x = x') :
    SpEnd s g led ch (fun _ _ r => r = .bool x') (.bool x) { s with heap := h', toks := tk' } := by
  subst e1
  exact ⟨_, _, _, _, rfl, F, led_end N hs, rfl⟩

def frT (x y : Int) : Int := if y < 0 then Int.fdiv (-x) (Int.gcd (-x) (-y) : Nat) else Int.fdiv x (Int.gcd x y : Nat)
def frB (x y : Int) : Int := if y < 0 then Int.fdiv (-y) (Int.gcd (-x) (-y) : Nat) else Int.fdiv y (Int.gcd x y : Nat)
theorem gcd_pos_of {x y : Int} (h : y ≠ 0) : 0 < ((Int.gcd x y : Nat) : Int) := by
  have : Int.gcd x y ≠ 0 := fun e => h (Int.gcd_eq_zero_iff.mp e).2
  omega
theorem frT_neg {x y : Int} (h : y < 0) : Int.fdiv (-x) (Int.gcd (-x) (-y) : Nat) = frT x y := by unfold frT; rw [if_pos h]
theorem frB_neg {x y : Int} (h : y < 0) : Int.fdiv (-y) (Int.gcd (-x) (-y) : Nat) = frB x y := by unfold frB; rw [if_pos h]
theorem frT_pos {x y : Int} (h : ¬ y < 0) : Int.fdiv x (Int.gcd x y : Nat) = frT x y := by unfold frT; rw [if_neg h]
theorem frB_pos {x y : Int} (h : ¬ y < 0) : Int.fdiv y (Int.gcd x y : Nat) = frB x y := by unfold frB; rw [if_neg h]
set_option maxHeartbeats 8000000 in
theorem c_fr (w : World) (mean : ExcName → Option Value) (mg mb : Str → Option Value) (x y : Int) (t1 t2 : Tok) (hy : y ≠ 0) :
  Sp w mean mg mb 61 112 [.int x t1, .int y t2] [] [] (OutT (frT x y) (frB x y)) := by
  unfold Sp
  k_fill
  k_with_none
  k_with "mydiv" => (k_dflt (refine' floordiv_int ?kne ?_ (Or.inr (PySem.PylongRoom.of ?knl ?kdp)); (case kne => first | assumption | omega); (case knl => exact Heap.NoLimit.keeps (PyProof.Rows.Top.nolimit (by assumption)) (Fr.keep (by assumption))); (case kdp => ((try simp only [depth_deeper]); (try dsimp only [ktrTop]); (simp only [Builtin.pylongFrames]); omega))))
  k_with "mycall" => ((with_reducible show wpAny _ _ (call (Value.ref 53) _) _ _ _); (k_dflt (refine' (c_cd w mean mg mb _ _ _ _ ?hp).useI ?k1 ?k2 ?k3 ?k4 ?k5 ?kK ?ks ?kd ?ku ?_; (case k1 => k_asm); (case k2 => k_asm); (case k3 => k_asm); (case k4 => k_asm); (case k5 => k_asm); (case kK => first | exact rfl | assumption); (case ks => (repeat' (first | exact List.forall_mem_nil _ | (refine List.forall_mem_cons.mpr ⟨by k_mem, ?_⟩)))); (case hp => omega); (case kd => ktr_room); (case ku => ktr_units))); intro t9 h9 tk9 F9 N9; (try dsimp only); (try k_sweep); (try k_fold))
  intro dp un gd cn cs a ccd cl outer A₀ base h₀ L m s Q E B F X N T hck hdp hun hret
  have hg1 := gcd_pos_of (x := x) hy
  have hg2 := gcd_pos_of (x := -x) (y := -y) (by omega)
  k_dflt (refine' sp_enter B F X N T hck hret ?k6 ?k7 ?k8 ?k9 ?kB ?_ ?c2 ?c3 ?c4 ?c5; (case k6 => k_is); (case k7 => k_is); (case k8 => omega); (case k9 => first | exact BindsTo.of_eq rfl | exact binds_K (by k_in) rfl (by k_is) rfl rfl rfl); (case c5 => decide); (case kB => exact locs rfl); (case c2 => exact rfl); (case c3 => exact rfl); (case c4 => exact rfl))
  intro g' L' h' FG' F' N' B' X' T' GS'
  (try dsimp only); (try k_fold)
  k_steps
  all_goals first
    | (exfalso; omega)
    | exact endT (by assumption) (by assumption) (by assumption) (by (repeat' (first | exact List.forall_mem_nil _ | (refine List.forall_mem_cons.mpr ⟨by k_mem, ?_⟩)))) (by k_mem) (by (repeat' (first | exact nes_nil | (refine' nes_cons ?na ?_; (case na => k_ne))))) (frT_neg (by assumption)) (frB_neg (by assumption))
    | exact endT (by assumption) (by assumption) (by assumption) (by (repeat' (first | exact List.forall_mem_nil _ | (refine List.forall_mem_cons.mpr ⟨by k_mem, ?_⟩)))) (by k_mem) (by (repeat' (first | exact nes_nil | (refine' nes_cons ?na ?_; (case na => k_ne))))) (frT_pos (by assumption)) (frB_pos (by assumption))
end Mine
namespace Mine
theorem rst_B2 : True := by
  w_top off
  trivial
end Mine
set_option maxRecDepth 100000
namespace Mine
open PySem PySem.W PyProof.Rows PySem.Spec PySem.Calls
local macro_rules | `(tactic| walk_at "exec For Tuple BinOp cons nil") => `(tactic| (k_here; (rename Fr _ _ _ _ => lF'); (with_unfolding_all refine' For_turns lF' ?_); k_whole))
local macro_rules | `(tactic| walk_at "call ref") => `(tactic| (k_here; k_extra "mycall"))
local macro_rules | `(tactic| walk_at "binaryOp FloorDiv int int") => `(tactic| (k_here; k_extra "mydiv"))
local macro_rules | `(tactic| walk_at "binaryOp Mod int int") => `(tactic| (k_here; k_extra "mymod"))
local macro_rules | `(tactic| walk_at "binaryOp Mult int int") => `(tactic| (k_here; k_extra "mymul"))
local macro_rules | `(tactic| walk_at "setAttr ref") => `(tactic| (k_here; k_extra "mysetattr"))
local macro_rules | `(tactic| walk_at "leaving ref") => `(tactic| (k_here; k_extra "myleave"))
local macro_rules | `(tactic| walk_at "exec Raise some none") => `(tactic| (k_here; k_extra "myraise"))

def Sz (x : Int) : Prop := Builtin.Int.intBits x ≤ 1000000
theorem mulok {x y : Int} (hx : Sz x) (hy : Sz y) : IntMulOk x y := by
  unfold IntMulOk
  intro h
  simp only [Bool.and_eq_true] at h
  have h3 := h.2
  unfold Sz at hx hy
  simp only [Builtin.Int.intTooBig, decide_eq_true_eq] at h3
  have hb : (bitsLine : Int) = 134217728 := by decide
  omega
set_option maxHeartbeats 8000000 in
theorem c_plus (w : World) (mean : ExcName → Option Value) (mg mb : Str → Option Value) (a b : Addr) (ax ay bx bz : Int) (t1 t2 t3 t4 : Tok) (h1 : Sz ax) (h2 : Sz ay) (h3 : Sz bx) (h4 : Sz bz) (hp : ay * bz ≠ 0) :
  Sp w mean mg mb 68 114 [.ref a, .ref b] [(a, tupO ax ay t1 t2), (b, tupO bx bz t3 t4)] [] (OutT (frT (ax * bz + bx * ay) (ay * bz)) (frB (ax * bz + bx * ay) (ay * bz))) := by
  unfold Sp
  k_fill
  k_with_none
  k_with "mycall" => ((with_reducible show wpAny _ _ (call (Value.ref 61) _) _ _ _); (k_dflt (refine' (c_fr w mean mg mb _ _ _ _ ?hp).useT ?k1 ?k2 ?k3 ?k4 ?k5 ?kK ?ks ?kd ?ku ?_; (case k1 => k_asm); (case k2 => k_asm); (case k3 => k_asm); (case k4 => k_asm); (case k5 => k_asm); (case kK => first | exact rfl | assumption); (case ks => (repeat' (first | exact List.forall_mem_nil _ | (refine List.forall_mem_cons.mpr ⟨by k_mem, ?_⟩)))); (case hp => assumption); (case kd => ktr_room); (case ku => ktr_units))); intro a9 t9 u9 h9 tk9 F9 N9 ne9; (try simp only [NeAll, and_true] at ne9); (try dsimp only); (try k_sweep); (try k_fold))
  intro dp un gd cn cs a ccd cl outer A₀ base h₀ L m s Q E B F X N T hck hdp hun hret
  have o1 := mulok h1 h4
  have o2 := mulok h3 h2
  have o3 := mulok h2 h4
  have o4 := mulok h1 h3
  k_dflt (refine' sp_enter B F X N T hck hret ?k6 ?k7 ?k8 ?k9 ?kB ?_ ?c2 ?c3 ?c4 ?c5; (case k6 => k_is); (case k7 => k_is); (case k8 => omega); (case k9 => first | exact BindsTo.of_eq rfl | exact binds_K (by k_in) rfl (by k_is) rfl rfl rfl); (case c5 => decide); (case kB => exact locs rfl); (case c2 => exact rfl); (case c3 => exact rfl); (case c4 => exact rfl))
  intro g' L' h' FG' F' N' B' X' T' GS'
  (try dsimp only); (try k_fold)
  k_steps
  all_goals first
    | (exfalso; omega)
    | exact endT (by assumption) (by assumption) (by assumption) (by (repeat' (first | exact List.forall_mem_nil _ | (refine List.forall_mem_cons.mpr ⟨by k_mem, ?_⟩)))) (by k_mem) (by (repeat' (first | exact nes_nil | (refine' nes_cons ?na ?_; (case na => k_ne))))) (rfl) (rfl)
set_option maxHeartbeats 8000000 in
theorem c_minus (w : World) (mean : ExcName → Option Value) (mg mb : Str → Option Value) (a b : Addr) (ax ay bx bz : Int) (t1 t2 t3 t4 : Tok) (h1 : Sz ax) (h2 : Sz ay) (h3 : Sz bx) (h4 : Sz bz) (hp : ay * bz ≠ 0) :
  Sp w mean mg mb 75 114 [.ref a, .ref b] [(a, tupO ax ay t1 t2), (b, tupO bx bz t3 t4)] [] (OutT (frT (ax * bz - bx * ay) (ay * bz)) (frB (ax * bz - bx * ay) (ay * bz))) := by
  unfold Sp
  k_fill
  k_with_none
  k_with "mycall" => ((with_reducible show wpAny _ _ (call (Value.ref 61) _) _ _ _); (k_dflt (refine' (c_fr w mean mg mb _ _ _ _ ?hp).useT ?k1 ?k2 ?k3 ?k4 ?k5 ?kK ?ks ?kd ?ku ?_; (case k1 => k_asm); (case k2 => k_asm); (case k3 => k_asm); (case k4 => k_asm); (case k5 => k_asm); (case kK => first | exact rfl | assumption); (case ks => (repeat' (first | exact List.forall_mem_nil _ | (refine List.forall_mem_cons.mpr ⟨by k_mem, ?_⟩)))); (case hp => assumption); (case kd => ktr_room); (case ku => ktr_units))); intro a9 t9 u9 h9 tk9 F9 N9 ne9; (try simp only [NeAll, and_true] at ne9); (try dsimp only); (try k_sweep); (try k_fold))
  intro dp un gd cn cs a ccd cl outer A₀ base h₀ L m s Q E B F X N T hck hdp hun hret
  have o1 := mulok h1 h4
  have o2 := mulok h3 h2
  have o3 := mulok h2 h4
  have o4 := mulok h1 h3
  k_dflt (refine' sp_enter B F X N T hck hret ?k6 ?k7 ?k8 ?k9 ?kB ?_ ?c2 ?c3 ?c4 ?c5; (case k6 => k_is); (case k7 => k_is); (case k8 => omega); (case k9 => first | exact BindsTo.of_eq rfl | exact binds_K (by k_in) rfl (by k_is) rfl rfl rfl); (case c5 => decide); (case kB => exact locs rfl); (case c2 => exact rfl); (case c3 => exact rfl); (case c4 => exact rfl))
  intro g' L' h' FG' F' N' B' X' T' GS'
  (try dsimp only); (try k_fold)
  k_steps
  all_goals first
    | (exfalso; omega)
    | exact endT (by assumption) (by assumption) (by assumption) (by (repeat' (first | exact List.forall_mem_nil _ | (refine List.forall_mem_cons.mpr ⟨by k_mem, ?_⟩)))) (by k_mem) (by (repeat' (first | exact nes_nil | (refine' nes_cons ?na ?_; (case na => k_ne))))) (rfl) (rfl)
set_option maxHeartbeats 8000000 in
theorem c_times (w : World) (mean : ExcName → Option Value) (mg mb : Str → Option Value) (a b : Addr) (ax ay bx bz : Int) (t1 t2 t3 t4 : Tok) (h1 : Sz ax) (h2 : Sz ay) (h3 : Sz bx) (h4 : Sz bz) (hp : ay * bz ≠ 0) :
  Sp w mean mg mb 82 114 [.ref a, .ref b] [(a, tupO ax ay t1 t2), (b, tupO bx bz t3 t4)] [] (OutT (frT (ax * bx) (ay * bz)) (frB (ax * bx) (ay * bz))) := by
  unfold Sp
  k_fill
  k_with_none
  k_with "mycall" => ((with_reducible show wpAny _ _ (call (Value.ref 61) _) _ _ _); (k_dflt (refine' (c_fr w mean mg mb _ _ _ _ ?hp).useT ?k1 ?k2 ?k3 ?k4 ?k5 ?kK ?ks ?kd ?ku ?_; (case k1 => k_asm); (case k2 => k_asm); (case k3 => k_asm); (case k4 => k_asm); (case k5 => k_asm); (case kK => first | exact rfl | assumption); (case ks => (repeat' (first | exact List.forall_mem_nil _ | (refine List.forall_mem_cons.mpr ⟨by k_mem, ?_⟩)))); (case hp => assumption); (case kd => ktr_room); (case ku => ktr_units))); intro a9 t9 u9 h9 tk9 F9 N9 ne9; (try simp only [NeAll, and_true] at ne9); (try dsimp only); (try k_sweep); (try k_fold))
  intro dp un gd cn cs a ccd cl outer A₀ base h₀ L m s Q E B F X N T hck hdp hun hret
  have o1 := mulok h1 h4
  have o2 := mulok h3 h2
  have o3 := mulok h2 h4
  have o4 := mulok h1 h3
  k_dflt (refine' sp_enter B F X N T hck hret ?k6 ?k7 ?k8 ?k9 ?kB ?_ ?c2 ?c3 ?c4 ?c5; (case k6 => k_is); (case k7 => k_is); (case k8 => omega); (case k9 => first | exact BindsTo.of_eq rfl | exact binds_K (by k_in) rfl (by k_is) rfl rfl rfl); (case c5 => decide); (case kB => exact locs rfl); (case c2 => exact rfl); (case c3 => exact rfl); (case c4 => exact rfl))
  intro g' L' h' FG' F' N' B' X' T' GS'
  (try dsimp only); (try k_fold)
  k_steps
  all_goals first
    | (exfalso; omega)
    | exact endT (by assumption) (by assumption) (by assumption) (by (repeat' (first | exact List.forall_mem_nil _ | (refine List.forall_mem_cons.mpr ⟨by k_mem, ?_⟩)))) (by k_mem) (by (repeat' (first | exact nes_nil | (refine' nes_cons ?na ?_; (case na => k_ne))))) (rfl) (rfl)
set_option maxHeartbeats 8000000 in
theorem c_div (w : World) (mean : ExcName → Option Value) (mg mb : Str → Option Value) (a b : Addr) (ax ay bx bz : Int) (t1 t2 t3 t4 : Tok) (h1 : Sz ax) (h2 : Sz ay) (h3 : Sz bx) (h4 : Sz bz) (hb : bx ≠ 0) (hp : ay * bx ≠ 0) :
  Sp w mean mg mb 89 114 [.ref a, .ref b] [(a, tupO ax ay t1 t2), (b, tupO bx bz t3 t4)] [] (OutT (frT (ax * bz) (ay * bx)) (frB (ax * bz) (ay * bx))) := by
  unfold Sp
  k_fill
  k_with_none
  k_with "mycall" => ((with_reducible show wpAny _ _ (call (Value.ref 61) _) _ _ _); (k_dflt (refine' (c_fr w mean mg mb _ _ _ _ ?hp).useT ?k1 ?k2 ?k3 ?k4 ?k5 ?kK ?ks ?kd ?ku ?_; (case k1 => k_asm); (case k2 => k_asm); (case k3 => k_asm); (case k4 => k_asm); (case k5 => k_asm); (case kK => first | exact rfl | assumption); (case ks => (repeat' (first | exact List.forall_mem_nil _ | (refine List.forall_mem_cons.mpr ⟨by k_mem, ?_⟩)))); (case hp => assumption); (case kd => ktr_room); (case ku => ktr_units))); intro a9 t9 u9 h9 tk9 F9 N9 ne9; (try simp only [NeAll, and_true] at ne9); (try dsimp only); (try k_sweep); (try k_fold))
  intro dp un gd cn cs a ccd cl outer A₀ base h₀ L m s Q E B F X N T hck hdp hun hret
  have o1 := mulok h1 h4
  have o2 := mulok h3 h2
  have o3 := mulok h2 h4
  have o4 := mulok h1 h3
  have o5 := mulok h2 h3
  k_dflt (refine' sp_enter B F X N T hck hret ?k6 ?k7 ?k8 ?k9 ?kB ?_ ?c2 ?c3 ?c4 ?c5; (case k6 => k_is); (case k7 => k_is); (case k8 => omega); (case k9 => first | exact BindsTo.of_eq rfl | exact binds_K (by k_in) rfl (by k_is) rfl rfl rfl); (case c5 => decide); (case kB => exact locs rfl); (case c2 => exact rfl); (case c3 => exact rfl); (case c4 => exact rfl))
  intro g' L' h' FG' F' N' B' X' T' GS'
  (try dsimp only); (try k_fold)
  k_steps
  all_goals first
    | (exfalso; omega)
    | exact endT (by assumption) (by assumption) (by assumption) (by (repeat' (first | exact List.forall_mem_nil _ | (refine List.forall_mem_cons.mpr ⟨by k_mem, ?_⟩)))) (by k_mem) (by (repeat' (first | exact nes_nil | (refine' nes_cons ?na ?_; (case na => k_ne))))) (rfl) (rfl)
set_option maxHeartbeats 8000000 in
theorem c_neg (w : World) (mean : ExcName → Option Value) (mg mb : Str → Option Value) (a : Addr) (ax ay : Int) (t1 t2 : Tok) :
  Sp w mean mg mb 96 110 [.ref a] [(a, tupO ax ay t1 t2)] [] (OutT (-ax) ay) := by
  unfold Sp
  k_fill
  k_with_none
  intro dp un gd cn cs a ccd cl outer A₀ base h₀ L m s Q E B F X N T hck hdp hun hret
  k_dflt (refine' sp_enter B F X N T hck hret ?k6 ?k7 ?k8 ?k9 ?kB ?_ ?c2 ?c3 ?c4 ?c5; (case k6 => k_is); (case k7 => k_is); (case k8 => omega); (case k9 => first | exact BindsTo.of_eq rfl | exact binds_K (by k_in) rfl (by k_is) rfl rfl rfl); (case c5 => decide); (case kB => exact locs rfl); (case c2 => exact rfl); (case c3 => exact rfl); (case c4 => exact rfl))
  intro g' L' h' FG' F' N' B' X' T' GS'
  (try dsimp only); (try k_fold)
  k_steps
  all_goals first
    | (exfalso; omega)
    | exact endT (by assumption) (by assumption) (by assumption) (by (repeat' (first | exact List.forall_mem_nil _ | (refine List.forall_mem_cons.mpr ⟨by k_mem, ?_⟩)))) (by k_mem) (by (repeat' (first | exact nes_nil | (refine' nes_cons ?na ?_; (case na => k_ne))))) (rfl) (rfl)
set_option maxHeartbeats 8000000 in
theorem c_abs (w : World) (mean : ExcName → Option Value) (mg mb : Str → Option Value) (a : Addr) (ax ay : Int) (t1 t2 : Tok) :
  Sp w mean mg mb 103 110 [.ref a] [(a, tupO ax ay t1 t2)] [] (OutT (if ax < 0 then -ax else ax) ay) := by
  unfold Sp
  k_fill
  k_with_none
  intro dp un gd cn cs a ccd cl outer A₀ base h₀ L m s Q E B F X N T hck hdp hun hret
  k_dflt (refine' sp_enter B F X N T hck hret ?k6 ?k7 ?k8 ?k9 ?kB ?_ ?c2 ?c3 ?c4 ?c5; (case k6 => k_is); (case k7 => k_is); (case k8 => omega); (case k9 => first | exact BindsTo.of_eq rfl | exact binds_K (by k_in) rfl (by k_is) rfl rfl rfl); (case c5 => decide); (case kB => exact locs rfl); (case c2 => exact rfl); (case c3 => exact rfl); (case c4 => exact rfl))
  intro g' L' h' FG' F' N' B' X' T' GS'
  (try dsimp only); (try k_fold)
  k_steps
  all_goals first
    | (exfalso; omega)
    | exact endT (by assumption) (by assumption) (by assumption) (by (repeat' (first | exact List.forall_mem_nil _ | (refine List.forall_mem_cons.mpr ⟨by k_mem, ?_⟩)))) (by k_mem) (by (repeat' (first | exact nes_nil | (refine' nes_cons ?na ?_; (case na => k_ne))))) (rfl) (rfl)
def sgn (x : Int) : Int := if 0 < x then 1 else if x < 0 then -1 else 0
set_option maxHeartbeats 8000000 in
theorem c_sign (w : World) (mean : ExcName → Option Value) (mg mb : Str → Option Value) (a : Addr) (ax ay : Int) (t1 t2 : Tok) :
  Sp w mean mg mb 110 110 [.ref a] [(a, tupO ax ay t1 t2)] [] (fun _ _ r => ∃ t, r = .int (sgn ax) t) := by
  unfold Sp
  k_fill
  k_with_none
  intro dp un gd cn cs a ccd cl outer A₀ base h₀ L m s Q E B F X N T hck hdp hun hret
  k_dflt (refine' sp_enter B F X N T hck hret ?k6 ?k7 ?k8 ?k9 ?kB ?_ ?c2 ?c3 ?c4 ?c5; (case k6 => k_is); (case k7 => k_is); (case k8 => omega); (case k9 => first | exact BindsTo.of_eq rfl | exact binds_K (by k_in) rfl (by k_is) rfl rfl rfl); (case c5 => decide); (case kB => exact locs rfl); (case c2 => exact rfl); (case c3 => exact rfl); (case c4 => exact rfl))
  intro g' L' h' FG' F' N' B' X' T' GS'
  (try dsimp only); (try k_fold)
  k_steps
  all_goals first
    | (exfalso; omega)
    | exact endI (by assumption) (by assumption) (by (repeat' (first | exact List.forall_mem_nil _ | (refine List.forall_mem_cons.mpr ⟨by k_mem, ?_⟩)))) (by unfold sgn; (repeat' split) <;> omega)
set_option maxHeartbeats 8000000 in
theorem c_cmp (w : World) (mean : ExcName → Option Value) (mg mb : Str → Option Value) (a b : Addr) (ax ay bx bz : Int) (t1 t2 t3 t4 : Tok) (h1 : Sz ax) (h2 : Sz ay) (h3 : Sz bx) (h4 : Sz bz) :
  Sp w mean mg mb 117 112 [.ref a, .ref b] [(a, tupO ax ay t1 t2), (b, tupO bx bz t3 t4)] [] (fun _ _ r => ∃ t, r = .int (sgn (ax * bz - bx * ay)) t) := by
  unfold Sp
  k_fill
  k_with_none
  k_with "mycall" => ((with_reducible show wpAny _ _ (call (Value.ref 110) _) _ _ _); (k_dflt (refine' (c_sign w mean mg mb _ _ _ _ _).useI ?k1 ?k2 ?k3 ?k4 ?k5 ?kK ?ks ?kd ?ku ?_; (case k1 => k_asm); (case k2 => k_asm); (case k3 => k_asm); (case k4 => k_asm); (case k5 => k_asm); (case kK => first | exact rfl | assumption); (case ks => (repeat' (first | exact List.forall_mem_nil _ | (refine List.forall_mem_cons.mpr ⟨by k_mem, ?_⟩)))); (case kd => ktr_room); (case ku => ktr_units))); intro t9 h9 tk9 F9 N9; (try dsimp only); (try k_sweep); (try k_fold))
  intro dp un gd cn cs a ccd cl outer A₀ base h₀ L m s Q E B F X N T hck hdp hun hret
  have o1 := mulok h1 h4
  have o2 := mulok h3 h2
  have o3 := mulok h2 h4
  have o4 := mulok h1 h3
  k_dflt (refine' sp_enter B F X N T hck hret ?k6 ?k7 ?k8 ?k9 ?kB ?_ ?c2 ?c3 ?c4 ?c5; (case k6 => k_is); (case k7 => k_is); (case k8 => omega); (case k9 => first | exact BindsTo.of_eq rfl | exact binds_K (by k_in) rfl (by k_is) rfl rfl rfl); (case c5 => decide); (case kB => exact locs rfl); (case c2 => exact rfl); (case c3 => exact rfl); (case c4 => exact rfl))
  intro g' L' h' FG' F' N' B' X' T' GS'
  (try dsimp only); (try k_fold)
  k_steps
  all_goals first
    | (exfalso; omega)
    | exact endI (by assumption) (by assumption) (by (repeat' (first | exact List.forall_mem_nil _ | (refine List.forall_mem_cons.mpr ⟨by k_mem, ?_⟩)))) (rfl)
set_option maxHeartbeats 8000000 in
theorem c_floor (w : World) (mean : ExcName → Option Value) (mg mb : Str → Option Value) (a : Addr) (ax ay : Int) (t1 t2 : Tok) (hy : ay ≠ 0) :
  Sp w mean mg mb 138 112 [.ref a] [(a, tupO ax ay t1 t2)] [] (fun _ _ r => ∃ t, r = .int (Int.fdiv ax ay) t) := by
  unfold Sp
  k_fill
  k_with_none
  k_with "mydiv" => (k_dflt (refine' floordiv_int ?kne ?_ (Or.inr (PySem.PylongRoom.of ?knl ?kdp)); (case kne => first | assumption | omega); (case knl => exact Heap.NoLimit.keeps (PyProof.Rows.Top.nolimit (by assumption)) (Fr.keep (by assumption))); (case kdp => ((try simp only [depth_deeper]); (try dsimp only [ktrTop]); (simp only [Builtin.pylongFrames]); omega))))
  intro dp un gd cn cs a ccd cl outer A₀ base h₀ L m s Q E B F X N T hck hdp hun hret
  k_dflt (refine' sp_enter B F X N T hck hret ?k6 ?k7 ?k8 ?k9 ?kB ?_ ?c2 ?c3 ?c4 ?c5; (case k6 => k_is); (case k7 => k_is); (case k8 => omega); (case k9 => first | exact BindsTo.of_eq rfl | exact binds_K (by k_in) rfl (by k_is) rfl rfl rfl); (case c5 => decide); (case kB => exact locs rfl); (case c2 => exact rfl); (case c3 => exact rfl); (case c4 => exact rfl))
  intro g' L' h' FG' F' N' B' X' T' GS'
  (try dsimp only); (try k_fold)
  k_steps
  all_goals first
    | (exfalso; omega)
    | exact endI (by assumption) (by assumption) (by (repeat' (first | exact List.forall_mem_nil _ | (refine List.forall_mem_cons.mpr ⟨by k_mem, ?_⟩)))) (rfl)
set_option maxHeartbeats 8000000 in
theorem c_ceil (w : World) (mean : ExcName → Option Value) (mg mb : Str → Option Value) (a : Addr) (ax ay : Int) (t1 t2 : Tok) (hy : ay ≠ 0) :
  Sp w mean mg mb 145 112 [.ref a] [(a, tupO ax ay t1 t2)] [] (fun _ _ r => ∃ t, r = .int (-(Int.fdiv (-ax) ay)) t) := by
  unfold Sp
  k_fill
  k_with_none
  k_with "mydiv" => (k_dflt (refine' floordiv_int ?kne ?_ (Or.inr (PySem.PylongRoom.of ?knl ?kdp)); (case kne => first | assumption | omega); (case knl => exact Heap.NoLimit.keeps (PyProof.Rows.Top.nolimit (by assumption)) (Fr.keep (by assumption))); (case kdp => ((try simp only [depth_deeper]); (try dsimp only [ktrTop]); (simp only [Builtin.pylongFrames]); omega))))
  intro dp un gd cn cs a ccd cl outer A₀ base h₀ L m s Q E B F X N T hck hdp hun hret
  k_dflt (refine' sp_enter B F X N T hck hret ?k6 ?k7 ?k8 ?k9 ?kB ?_ ?c2 ?c3 ?c4 ?c5; (case k6 => k_is); (case k7 => k_is); (case k8 => omega); (case k9 => first | exact BindsTo.of_eq rfl | exact binds_K (by k_in) rfl (by k_is) rfl rfl rfl); (case c5 => decide); (case kB => exact locs rfl); (case c2 => exact rfl); (case c3 => exact rfl); (case c4 => exact rfl))
  intro g' L' h' FG' F' N' B' X' T' GS'
  (try dsimp only); (try k_fold)
  k_steps
  all_goals first
    | (exfalso; omega)
    | exact endI (by assumption) (by assumption) (by (repeat' (first | exact List.forall_mem_nil _ | (refine List.forall_mem_cons.mpr ⟨by k_mem, ?_⟩)))) (rfl)
set_option maxHeartbeats 8000000 in
theorem c_round (w : World) (mean : ExcName → Option Value) (mg mb : Str → Option Value) (a : Addr) (ax ay : Int) (t1 t2 : Tok) (hy : ay ≠ 0) :
  Sp w mean mg mb 152 112 [.ref a] [(a, tupO ax ay t1 t2)] [] (fun _ _ r => ∃ t, r = .int (Int.fdiv (2 * ax + ay) (2 * ay)) t) := by
  unfold Sp
  k_fill
  k_with_none
  k_with "mydiv" => (k_dflt (refine' floordiv_int ?kne ?_ (Or.inr (PySem.PylongRoom.of ?knl ?kdp)); (case kne => first | assumption | omega); (case knl => exact Heap.NoLimit.keeps (PyProof.Rows.Top.nolimit (by assumption)) (Fr.keep (by assumption))); (case kdp => ((try simp only [depth_deeper]); (try dsimp only [ktrTop]); (simp only [Builtin.pylongFrames]); omega))))
  intro dp un gd cn cs a ccd cl outer A₀ base h₀ L m s Q E B F X N T hck hdp hun hret
  k_dflt (refine' sp_enter B F X N T hck hret ?k6 ?k7 ?k8 ?k9 ?kB ?_ ?c2 ?c3 ?c4 ?c5; (case k6 => k_is); (case k7 => k_is); (case k8 => omega); (case k9 => first | exact BindsTo.of_eq rfl | exact binds_K (by k_in) rfl (by k_is) rfl rfl rfl); (case c5 => decide); (case kB => exact locs rfl); (case c2 => exact rfl); (case c3 => exact rfl); (case c4 => exact rfl))
  intro g' L' h' FG' F' N' B' X' T' GS'
  (try dsimp only); (try k_fold)
  k_steps
  all_goals first
    | (exfalso; omega)
    | exact endI (by assumption) (by assumption) (by (repeat' (first | exact List.forall_mem_nil _ | (refine List.forall_mem_cons.mpr ⟨by k_mem, ?_⟩)))) (rfl)
end Mine
namespace Mine
theorem rst_B3 : True := by
  w_top off
  trivial
end Mine
set_option maxRecDepth 100000
namespace Mine
open PySem PySem.W PyProof.Rows PySem.Spec PySem.Calls
local macro_rules | `(tactic| walk_at "exec For Tuple BinOp cons nil") => `(tactic| (k_here; (rename Fr _ _ _ _ => lF'); (with_unfolding_all refine' For_turns lF' ?_); k_whole))
local macro_rules | `(tactic| walk_at "call ref") => `(tactic| (k_here; k_extra "mycall"))
local macro_rules | `(tactic| walk_at "binaryOp FloorDiv int int") => `(tactic| (k_here; k_extra "mydiv"))
local macro_rules | `(tactic| walk_at "binaryOp Mod int int") => `(tactic| (k_here; k_extra "mymod"))
local macro_rules | `(tactic| walk_at "binaryOp Mult int int") => `(tactic| (k_here; k_extra "mymul"))
local macro_rules | `(tactic| walk_at "setAttr ref") => `(tactic| (k_here; k_extra "mysetattr"))
local macro_rules | `(tactic| walk_at "leaving ref") => `(tactic| (k_here; k_extra "myleave"))
local macro_rules | `(tactic| walk_at "exec Raise some none") => `(tactic| (k_here; k_extra "myraise"))

abbrev listO (vs : List Value) : Obj := { cls := .type "list", data := .seq vs.toArray }
theorem same_start {x y : Int} (hy : 1 ≤ y) : 0 ≤ (if x < 0 then -x else x) ∧ 0 ≤ y ∧ Int.gcd (if x < 0 then -x else x) y = Int.gcd x y := cd_start (by omega)
theorem same_end {f g x y : Int} (hg : Int.gcd x y = 1) (h3 : Int.gcd f g = Int.gcd x y) (h1 : 0 ≤ f) (h2 : 0 ≤ g) (h4 : ¬ 0 < g) : decide (f = 1) = true := by
  have := cd_done h3 h1 h2 h4
  rw [hg] at this
  simp [this]
set_option maxHeartbeats 8000000 in
theorem c_same (w : World) (mean : ExcName → Option Value) (mg mb : Str → Option Value) (a : Addr) (ax ay : Int) (t1 t2 : Tok) (x y : Int) (t3 t4 : Tok) (h1 : Sz ax) (h2 : Sz ay) (h3 : Sz x) (h4 : Sz y) (e1 : 1 ≤ ay) (e2 : ax * y = ay * x) (e3 : Int.gcd ax ay = 1) :
  Sp w mean mg mb 258 110 [.ref a, .int x t3, .int y t4] [(a, tupO ax ay t1 t2)] [] (fun _ _ r => r = .bool true) := by
  unfold Sp
  k_fill
  k_with_none
  k_with "exec While Compare cons nil" => k_while (fun _ f g => 0 ≤ f ∧ 0 ≤ g ∧ Int.gcd f g = Int.gcd ax ay) (fun _ f g => g.toNat) "one" "other"
  k_with "state" => first | exact same_start (by assumption) | exact cd_turn ⟨by assumption, by assumption, by assumption⟩ (by assumption)
  k_with "measure" => exact cd_less (by assumption)
  intro dp un gd cn cs a ccd cl outer A₀ base h₀ L m s Q E B F X N T hck hdp hun hret
  have o1 := mulok h1 h4
  have o2 := mulok h2 h3
  k_dflt (refine' sp_enter B F X N T hck hret ?k6 ?k7 ?k8 ?k9 ?kB ?_ ?c2 ?c3 ?c4 ?c5; (case k6 => k_is); (case k7 => k_is); (case k8 => omega); (case k9 => first | exact BindsTo.of_eq rfl | exact binds_K (by k_in) rfl (by k_is) rfl rfl rfl); (case c5 => decide); (case kB => exact locs rfl); (case c2 => exact rfl); (case c3 => exact rfl); (case c4 => exact rfl))
  intro g' L' h' FG' F' N' B' X' T' GS'
  (try dsimp only); (try k_fold)
  k_steps
  all_goals first
    | (exfalso; omega)
    | exact endB (by assumption) (by assumption) (by (repeat' (first | exact List.forall_mem_nil _ | (refine List.forall_mem_cons.mpr ⟨by k_mem, ?_⟩)))) (same_end e3 (by assumption) (by assumption) (by assumption) (by assumption))
end Mine
namespace Mine
theorem rst_B4 : True := by
  w_top off
  trivial
end Mine
set_option maxRecDepth 100000
namespace Mine
open PySem PySem.W PyProof.Rows PySem.Spec PySem.Calls
local macro_rules | `(tactic| walk_at "exec For Tuple BinOp cons nil") => `(tactic| (k_here; (rename Fr _ _ _ _ => lF'); (with_unfolding_all refine' For_turns lF' ?_); k_whole))
local macro_rules | `(tactic| walk_at "call ref") => `(tactic| (k_here; k_extra "mycall"))
local macro_rules | `(tactic| walk_at "binaryOp FloorDiv int int") => `(tactic| (k_here; k_extra "mydiv"))
local macro_rules | `(tactic| walk_at "binaryOp Mod int int") => `(tactic| (k_here; k_extra "mymod"))
local macro_rules | `(tactic| walk_at "binaryOp Mult int int") => `(tactic| (k_here; k_extra "mymul"))
local macro_rules | `(tactic| walk_at "setAttr ref") => `(tactic| (k_here; k_extra "mysetattr"))
local macro_rules | `(tactic| walk_at "leaving ref") => `(tactic| (k_here; k_extra "myleave"))
local macro_rules | `(tactic| walk_at "exec Raise some none") => `(tactic| (k_here; k_extra "myraise"))

theorem sgn_neg {x : Int} : sgn x < 0 ↔ x < 0 := by unfold sgn; (repeat' split) <;> omega
theorem sgn_pos {x : Int} : 0 < sgn x ↔ 0 < x := by unfold sgn; (repeat' split) <;> omega
theorem endR {s : Shared} {g : Heap} {led new : List (Addr × Obj)} {ch : List Addr} {L' c c' : Addr} {h' : Heap} {m' : Str → Option Value} {tk' : Nat}
    (F : Fr g L' h' m') (N : News g L' h' new) (hs : ∀ p ∈ led, p ∈ new) (e1 : c = c') :
    SpEnd s g led ch (fun _ _ r => r = .ref c') (.ref c) { s with heap := h', toks := tk' } := by
  subst e1
  exact ⟨_, _, _, _, rfl, F, led_end N hs, rfl⟩
set_option maxHeartbeats 8000000 in
theorem c_least (w : World) (mean : ExcName → Option Value) (mg mb : Str → Option Value) (l p q : Addr) (px py qx qy : Int) (t1 t2 t3 t4 : Tok) (h1 : Sz px) (h2 : Sz py) (h3 : Sz qx) (h4 : Sz qy) :
  Sp w mean mg mb 124 114 [.ref l] [(l, listO [.ref p, .ref q]), (p, tupO px py t1 t2), (q, tupO qx qy t3 t4)] [] (fun _ _ r => r = .ref (if qx * py - px * qy < 0 then q else p)) := by
  unfold Sp
  k_fill
  k_with_none
  k_with "mycall" => ((with_reducible show wpAny _ _ (call (Value.ref 117) _) _ _ _); (k_dflt (refine' (c_cmp w mean mg mb _ _ _ _ _ _ _ _ _ _ ?z1 ?z2 ?z3 ?z4).useI ?k1 ?k2 ?k3 ?k4 ?k5 ?kK ?ks ?kd ?ku ?_; (case k1 => k_asm); (case k2 => k_asm); (case k3 => k_asm); (case k4 => k_asm); (case k5 => k_asm); (case kK => first | exact rfl | assumption); (case ks => (repeat' (first | exact List.forall_mem_nil _ | (refine List.forall_mem_cons.mpr ⟨by k_mem, ?_⟩)))); (case z1 => assumption); (case z2 => assumption); (case z3 => assumption); (case z4 => assumption); (case kd => ktr_room); (case ku => ktr_units))); intro t9 h9 tk9 F9 N9; (try dsimp only); (try k_sweep); (try k_fold))
  intro dp un gd cn cs a ccd cl outer A₀ base h₀ L m s Q E B F X N T hck hdp hun hret
  have z0 : px * py - px * py = 0 := by omega
  k_dflt (refine' sp_enter B F X N T hck hret ?k6 ?k7 ?k8 ?k9 ?kB ?_ ?c2 ?c3 ?c4 ?c5; (case k6 => k_is); (case k7 => k_is); (case k8 => omega); (case k9 => first | exact BindsTo.of_eq rfl | exact binds_K (by k_in) rfl (by k_is) rfl rfl rfl); (case c5 => decide); (case kB => exact locs rfl); (case c2 => exact rfl); (case c3 => exact rfl); (case c4 => exact rfl))
  intro g' L' h' FG' F' N' B' X' T' GS'
  (try dsimp only); (try k_fold)
  k_steps
  all_goals (try simp only [sgn_neg] at *)
  all_goals first
    | (exfalso; omega)
    | exact endR (by assumption) (by assumption) (by (repeat' (first | exact List.forall_mem_nil _ | (refine List.forall_mem_cons.mpr ⟨by k_mem, ?_⟩)))) (if_pos (by assumption)).symm
    | exact endR (by assumption) (by assumption) (by (repeat' (first | exact List.forall_mem_nil _ | (refine List.forall_mem_cons.mpr ⟨by k_mem, ?_⟩)))) (if_neg (by assumption)).symm
set_option maxHeartbeats 8000000 in
theorem c_greatest (w : World) (mean : ExcName → Option Value) (mg mb : Str → Option Value) (l p q : Addr) (px py qx qy : Int) (t1 t2 t3 t4 : Tok) (h1 : Sz px) (h2 : Sz py) (h3 : Sz qx) (h4 : Sz qy) :
  Sp w mean mg mb 131 114 [.ref l] [(l, listO [.ref p, .ref q]), (p, tupO px py t1 t2), (q, tupO qx qy t3 t4)] [] (fun _ _ r => r = .ref (if 0 < qx * py - px * qy then q else p)) := by
  unfold Sp
  k_fill
  k_with_none
  k_with "mycall" => ((with_reducible show wpAny _ _ (call (Value.ref 117) _) _ _ _); (k_dflt (refine' (c_cmp w mean mg mb _ _ _ _ _ _ _ _ _ _ ?z1 ?z2 ?z3 ?z4).useI ?k1 ?k2 ?k3 ?k4 ?k5 ?kK ?ks ?kd ?ku ?_; (case k1 => k_asm); (case k2 => k_asm); (case k3 => k_asm); (case k4 => k_asm); (case k5 => k_asm); (case kK => first | exact rfl | assumption); (case ks => (repeat' (first | exact List.forall_mem_nil _ | (refine List.forall_mem_cons.mpr ⟨by k_mem, ?_⟩)))); (case z1 => assumption); (case z2 => assumption); (case z3 => assumption); (case z4 => assumption); (case kd => ktr_room); (case ku => ktr_units))); intro t9 h9 tk9 F9 N9; (try dsimp only); (try k_sweep); (try k_fold))
  intro dp un gd cn cs a ccd cl outer A₀ base h₀ L m s Q E B F X N T hck hdp hun hret
  have z0 : px * py - px * py = 0 := by omega
  k_dflt (refine' sp_enter B F X N T hck hret ?k6 ?k7 ?k8 ?k9 ?kB ?_ ?c2 ?c3 ?c4 ?c5; (case k6 => k_is); (case k7 => k_is); (case k8 => omega); (case k9 => first | exact BindsTo.of_eq rfl | exact binds_K (by k_in) rfl (by k_is) rfl rfl rfl); (case c5 => decide); (case kB => exact locs rfl); (case c2 => exact rfl); (case c3 => exact rfl); (case c4 => exact rfl))
  intro g' L' h' FG' F' N' B' X' T' GS'
  (try dsimp only); (try k_fold)
  k_steps
  all_goals (try simp only [sgn_pos] at *)
  all_goals first
    | (exfalso; omega)
    | exact endR (by assumption) (by assumption) (by (repeat' (first | exact List.forall_mem_nil _ | (refine List.forall_mem_cons.mpr ⟨by k_mem, ?_⟩)))) (if_pos (by assumption)).symm
    | exact endR (by assumption) (by assumption) (by (repeat' (first | exact List.forall_mem_nil _ | (refine List.forall_mem_cons.mpr ⟨by k_mem, ?_⟩)))) (if_neg (by assumption)).symm
end Mine
namespace Mine
theorem rst_B5 : True := by
  w_top off
  trivial
end Mine
set_option maxRecDepth 100000
namespace Mine
open PySem PySem.W PyProof.Rows PySem.Spec PySem.Calls
local macro_rules | `(tactic| walk_at "exec For Tuple BinOp cons nil") => `(tactic| (k_here; (rename Fr _ _ _ _ => lF'); (with_unfolding_all refine' For_turns lF' ?_); k_whole))
local macro_rules | `(tactic| walk_at "call ref") => `(tactic| (k_here; k_extra "mycall"))
local macro_rules | `(tactic| walk_at "binaryOp FloorDiv int int") => `(tactic| (k_here; k_extra "mydiv"))
local macro_rules | `(tactic| walk_at "binaryOp Mod int int") => `(tactic| (k_here; k_extra "mymod"))
local macro_rules | `(tactic| walk_at "binaryOp Mult int int") => `(tactic| (k_here; k_extra "mymul"))
local macro_rules | `(tactic| walk_at "setAttr ref") => `(tactic| (k_here; k_extra "mysetattr"))
local macro_rules | `(tactic| walk_at "leaving ref") => `(tactic| (k_here; k_extra "myleave"))
local macro_rules | `(tactic| walk_at "exec Raise some none") => `(tactic| (k_here; k_extra "myraise"))

abbrev srcO (x y : Int) (t u : Tok) : Obj := listO [.int x t, .int y u]
def Src (h : Heap) (src : Addr) : Prop := ∃ x y t u, h.get? src = some (srcO x y t u)
/-- an int drawn below top, the pool changed -/
def OutD (src : Addr) (top : Int) : Heap → Heap → Value → Prop := fun _ h' r => (∃ n t, r = .int n t ∧ 0 ≤ n ∧ n < top) ∧ Src h' src
theorem endD {s : Shared} {g : Heap} {led new : List (Addr × Obj)} {L' src : Addr} {h' : Heap} {m' : Str → Option Value} {tk' : Nat} {n x y top : Int} {t u v : Tok}
    (F : Fr g L' h' m') (N : News g L' h' new) (hm : (src, srcO x y t u) ∈ new) (hs : ∀ p ∈ led, p.1 = src) (h0 : 0 ≤ n) (h1 : n < top) :
    SpEnd s g led [src] (OutD src top) (.int n v) { s with heap := h', toks := tk' } :=
  ⟨_, _, _, _, rfl, F, (fun p hp hn => absurd (List.mem_singleton.mpr (hs p hp)) hn), ⟨_, _, rfl, h0, h1⟩, _, _, _, _, (N _ hm).1⟩
set_option maxHeartbeats 8000000 in
theorem c_take (w : World) (mean : ExcName → Option Value) (mg mb : Str → Option Value) (src : Addr) (x y top : Int) (t u v : Tok) (ht : 0 < top) :
  Sp w mean mg mb 244 112 [.ref src, .int top v] [(src, srcO x y t u)] [src] (OutD src top) := by
  unfold Sp
  k_fill
  k_with_none
  k_with "mydiv" => (k_dflt (refine' floordiv_int ?kne ?_ (Or.inr (PySem.PylongRoom.of ?knl ?kdp)); (case kne => first | assumption | omega); (case knl => exact Heap.NoLimit.keeps (PyProof.Rows.Top.nolimit (by assumption)) (Fr.keep (by assumption))); (case kdp => ((try simp only [depth_deeper]); (try dsimp only [ktrTop]); (simp only [Builtin.pylongFrames]); omega))))
  k_with "mymul" => (k_dflt (refine' mul_int ?_ ?hm; (case hm => exact o1 _)))
  intro dp un gd cn cs a ccd cl outer A₀ base h₀ L m s Q E B F X N T hck hdp hun hret
  have f1 : ∀ z : Int, 0 ≤ Int.fmod z top := fun z => Int.fmod_nonneg_of_pos z ht
  have f2 : ∀ z : Int, Int.fmod z top < top := fun z => Int.fmod_lt_of_pos z ht
  have f3 : ∀ z : Int, 0 ≤ Int.fmod z 2147483647 := fun z => Int.fmod_nonneg_of_pos z (by omega)
  have f4 : ∀ z : Int, Int.fmod z 2147483647 < 2147483647 := fun z => Int.fmod_lt_of_pos z (by omega)
  have o1 : ∀ z : Int, IntMulOk (Int.fmod z 2147483647) (Int.fmod z 2147483647) := fun z => IntMulOk.of_left (PySem.intBits_le_64 (by have := f3 z; omega) (by have := f4 z; omega))
  k_dflt (refine' sp_enter B F X N T hck hret ?k6 ?k7 ?k8 ?k9 ?kB ?_ ?c2 ?c3 ?c4 ?c5; (case k6 => k_is); (case k7 => k_is); (case k8 => omega); (case k9 => first | exact BindsTo.of_eq rfl | exact binds_K (by k_in) rfl (by k_is) rfl rfl rfl); (case c5 => decide); (case kB => exact locs rfl); (case c2 => exact rfl); (case c3 => exact rfl); (case c4 => exact rfl))
  intro g' L' h' FG' F' N' B' X' T' GS'
  (try dsimp only); (try k_fold)
  k_steps
  all_goals first
    | (exfalso; omega)
    | exact endD (by assumption) (by assumption) (by k_mem) (by intro p hp; rw [List.mem_singleton.mp hp]) (f1 _) (f2 _)
end Mine
namespace Mine
theorem rst_B6 : True := by
  w_top off
  trivial
end Mine
set_option maxRecDepth 100000
namespace Mine
open PySem PySem.W PyProof.Rows PySem.Spec PySem.Calls
local macro_rules | `(tactic| walk_at "exec For Tuple BinOp cons nil") => `(tactic| (k_here; (rename Fr _ _ _ _ => lF'); (with_unfolding_all refine' For_turns lF' ?_); k_whole))
local macro_rules | `(tactic| walk_at "call ref") => `(tactic| (k_here; k_extra "mycall"))
local macro_rules | `(tactic| walk_at "call builtin:len") => `(tactic| (k_here; k_extra "mylen"))
local macro_rules | `(tactic| walk_at "subscriptTail") => `(tactic| (k_here; k_extra "mysub"))
local macro_rules | `(tactic| walk_at "binaryOp FloorDiv int int") => `(tactic| (k_here; k_extra "mydiv"))
local macro_rules | `(tactic| walk_at "binaryOp Mod int int") => `(tactic| (k_here; k_extra "mymod"))
local macro_rules | `(tactic| walk_at "binaryOp Mult int int") => `(tactic| (k_here; k_extra "mymul"))
local macro_rules | `(tactic| walk_at "setAttr ref") => `(tactic| (k_here; k_extra "mysetattr"))
local macro_rules | `(tactic| walk_at "leaving ref") => `(tactic| (k_here; k_extra "myleave"))
local macro_rules | `(tactic| walk_at "exec Raise some none") => `(tactic| (k_here; k_extra "myraise"))

def isTupO (o : Obj) : Bool := match o.cls with | .type n => n == "tuple" | _ => false
inductive Rem (src : Addr) : List (Addr × Obj) → List (Addr × Obj) → Prop
  | nil : Rem src [] []
  | drop {o : Obj} {l r : List (Addr × Obj)} : Rem src l r → Rem src ((src, o) :: l) r
  | keep {p : Addr × Obj} {l r : List (Addr × Obj)} : p.1 ≠ src → Rem src l r → Rem src (p :: l) (p :: r)
  | keepT {p : Addr × Obj} {l r : List (Addr × Obj)} : isTupO p.2 = true → Rem src l r → Rem src (p :: l) (p :: r)
  | skip {p : Addr × Obj} {l r : List (Addr × Obj)} : Rem src l r → Rem src (p :: l) r
theorem Rem.news {src : Addr} {big rest : List (Addr × Obj)} (R : Rem src big rest) {h₀ h h' : Heap} {L : Addr} {vs : List Value} (K : Kp h h' [src]) (hs : h.get? src = some (listO vs)) (N : News h₀ L h big) : News h₀ L h' rest := by
  induction R with
  | nil => exact fun _ hp => nomatch hp
  | drop _ ih => exact ih fun p hp => N p (.tail _ hp)
  | skip _ ih => exact ih fun p hp => N p (.tail _ hp)
  | @keep p l r hne _ ih =>
    intro q hq
    rcases List.mem_cons.mp hq with rfl | hq
    · have := N q (.head _)
      exact ⟨K _ _ this.1 (fun hm => hne (List.mem_singleton.mp hm)), this.2⟩
    · exact ih (fun p hp => N p (.tail _ hp)) q hq
  | @keepT p l r hne _ ih =>
    intro q hq
    rcases List.mem_cons.mp hq with rfl | hq
    · have := N q (.head _)
      refine ⟨K _ _ this.1 (fun hm => ?_), this.2⟩
      have h1 := this.1
      rw [List.mem_singleton.mp hm, hs] at h1
      have h2 : q.2 = listO vs := (Option.some.inj h1).symm
      rw [h2] at hne
      exact absurd hne (by simp [isTupO])
    · exact ih (fun p hp => N p (.tail _ hp)) q hq

section
variable {w : World} {mean : ExcName → Option Value} {mg mb : Str → Option Value} {f : Addr} {k : Nat} {vs : List Value} {led : List (Addr × Obj)} {ch : List Addr} {Out : Heap → Heap → Value → Prop}
  {dp un : Nat} {gd : Option (List Code)} {cn : Str} {cs : Scope} {a : Addr} {ccd : Value} {cl : List (Str × Addr)} {outer : List Env} {A₀ : Around} {base h₀ : Heap} {L : Addr} {m : Str → Option Value} {s : Shared} {Q E : Value → Shared → Prop} {big rest : List (Addr × Obj)}
theorem Src.news {src : Addr} {h₀ h h' : Heap} {L : Addr} {x y : Int} {t u : Tok} (N : News h₀ L h big) (hm : (src, srcO x y t u) ∈ big) (R : Rem src big rest) (K : Kp h h' [src]) (hS : Src h' src) :
    ∃ x' y' t' u', News h₀ L h' ((src, srcO x' y' t' u') :: rest) := by
  obtain ⟨x', y', t', u', he⟩ := hS
  refine ⟨x', y', t', u', fun p hp => ?_⟩
  rcases List.mem_cons.mp hp with rfl | hp
  · exact ⟨he, (N _ hm).2⟩
  · exact R.news K (N _ hm).1 N p hp
theorem Sp.useD {src : Addr} {x y top : Int} {t u : Tok} (S : Sp w mean mg mb f k vs [(src, srcO x y t u)] [src] (OutD src top)) (B : Below A₀ base outer h₀) (F : Fr h₀ L s.heap m) (X : (Mine.hpK w.params).In h₀) (N : News h₀ L s.heap big)
    (T : Top Mine.vwV (looseW Mine.vwV [Str.ofString "fraction", Str.ofString "write_decimal"]) mean mg mb h₀) (hk : cs.kind = .function) (hs : (src, srcO x y t u) ∈ big) (R : Rem src big rest)
    (hd : dp + k < recursionLimit) (hu : un + 8 * k < cLine)
    (ret : ∀ n t x' y' t' u' h' tk', 0 ≤ n → n < top → Fr h₀ L h' m → News h₀ L h' ((src, srcO x' y' t' u') :: rest) → Q (.int n t) { s with heap := h', toks := tk' }) :
    wpAny (model PySem.Challenge.rw_nu0015_01.row.prog w) (ktrTop dp un gd cn cs L a ccd cl outer) (call (.ref f) vs) Q E s :=
  S.use B F X N T hk (fun p hp => by rw [List.mem_singleton.mp hp]; exact hs) hd hu (fun r h' tk' F' K' ho => by
    obtain ⟨⟨n, t, rfl, h0, h1⟩, hS⟩ := ho
    obtain ⟨x', y', t', u', N'⟩ := Src.news N hs R K' hS
    exact ret n t x' y' t' u' h' tk' h0 h1 F' N')
end

theorem my_item {prog : Program} {w : World} {A : Around} {E : Value → Shared → Prop} {s : Shared} {value slice : PySem.Expr} {l : Addr} {vs : List Value} {k : Int} {u : Tok} {h₀ : Heap} {L : Addr} {led : List (Addr × Obj)} {Q : Value → Shared → Prop}
    (N : News h₀ L s.heap led) (hm : (l, listO vs) ∈ led) (h0 : 0 ≤ k) (h1 : k < vs.length) (hl : vs.length ≤ 1000) (h : ∀ v, v ∈ vs → Q v s)
    (hs : subscripted slice false (.ref l) (.int k u) = operate [.ref l, .int k u] (getItem (.ref l) (.int k u)) := by with_unfolding_all rfl) :
    wpAny (model prog w) A (subscriptTail value slice (.ref l) (.int k u)) Q E s := by
  have hL : s.heap.IsList l vs.toArray := ⟨_, N.get hm, rfl, 0, rfl⟩
  have hlt : k.toNat < vs.length := by omega
  exact tail_any hL.typeIs slot_list_getitem.lookup (wpAny_getItem_list hL h0 (by omega) (by simpa using List.getElem?_eq_getElem hlt) (h _ (List.getElem_mem hlt))) hs

theorem my_len {prog : Program} {w : World} {A : Around} {E : Value → Shared → Prop} {s : Shared} {l : Addr} {vs : List Value} {h₀ : Heap} {L : Addr} {led : List (Addr × Obj)} {Q : Value → Shared → Prop}
    (N : News h₀ L s.heap led) (hm : (l, listO vs) ∈ led) (hl : vs.length ≤ 1000) (h : Q (.int vs.length (s.toks + 1)) { s with toks := s.toks + 1 + 1 }) :
    wpAny (model prog w) A (call (.builtin "len") [.ref l]) Q E s := by
  have hL : s.heap.IsList l vs.toArray := ⟨_, N.get hm, rfl, 0, rfl⟩
  refine PyProof.Rows.len_list hL (by rw [List.size_toArray]; omega) ?_
  rw [List.size_toArray]
  exact h

def OutO (src : Addr) (vs : List Value) : Heap → Heap → Value → Prop := fun _ h' r => r ∈ vs ∧ Src h' src
theorem endO {s : Shared} {g : Heap} {new : List (Addr × Obj)} {L' src l : Addr} {h' : Heap} {m' : Str → Option Value} {tk' : Nat} {v : Value} {x y x' y' : Int} {t u t' u' : Tok} {vs : List Value}
    (F : Fr g L' h' m') (N : News g L' h' new) (hm : (src, srcO x y t u) ∈ new) (hl : (l, listO vs) ∈ new) (hv : v ∈ vs) :
    SpEnd s g [(src, srcO x' y' t' u'), (l, listO vs)] [src] (OutO src vs) v { s with heap := h', toks := tk' } := by
  refine ⟨_, _, _, _, rfl, F, (fun p hp hn => ?_), hv, _, _, _, _, (N _ hm).1⟩
  rcases List.mem_cons.mp hp with rfl | hp
  · exact absurd (List.mem_singleton.mpr rfl) hn
  · rw [List.mem_singleton.mp hp]
    exact (N _ hl).1
set_option maxHeartbeats 8000000 in
theorem c_one (w : World) (mean : ExcName → Option Value) (mg mb : Str → Option Value) (src l : Addr) (x y : Int) (t u : Tok) (vs : List Value) (hv : 0 < vs.length) (hv2 : vs.length ≤ 1000) (hne : @Ne Nat src l) :
  Sp w mean mg mb 251 114 [.ref src, .ref l] [(src, srcO x y t u), (l, listO vs)] [src] (OutO src vs) := by
  unfold Sp
  k_fill
  k_with_none
  k_with "mycall" => ((with_reducible show wpAny _ _ (call (Value.ref 244) _) _ _ _); (k_dflt (refine' (c_take w mean mg mb _ _ _ _ _ _ _ ?ht).useD ?k1 ?k2 ?k3 ?k4 ?k5 ?kK ?ks ?kr ?kd ?ku ?_; (case k1 => k_asm); (case k2 => k_asm); (case k3 => k_asm); (case k4 => k_asm); (case k5 => k_asm); (case kK => first | exact rfl | assumption); (case ks => k_mem); (case kr => (repeat' (first | exact Rem.nil | (refine' Rem.drop ?_) | (refine' Rem.keepT ?rt ?_; (case rt => rfl)) | (refine' Rem.keep ?ra ?_; (case ra => k_ne)) | (refine' Rem.skip ?_)))); (case ht => omega); (case kd => ktr_room); (case ku => ktr_units))); intro n9 t9 x9 y9 u9 v9 h9 tk9 n0 n1 F9 N9; (try dsimp only); (try k_sweep); (try k_fold))
  k_with "mylen" => (k_dflt (refine' my_len ?k1 ?k2 ?k3 ?_; (case k1 => k_asm); (case k2 => k_mem); (case k3 => assumption)))
  k_with "mysub" => (k_dflt (refine' my_item ?k1 ?k2 ?k3 ?k4 ?k5 ?_ ?k6; (case k1 => k_asm); (case k2 => k_mem); (case k3 => assumption); (case k4 => omega); (case k5 => assumption); (case k6 => with_unfolding_all rfl)); intro v9 hv9)
  intro dp un gd cn cs a ccd cl outer A₀ base h₀ L m s Q E B F X N T hck hdp hun hret
  k_dflt (refine' sp_enter B F X N T hck hret ?k6 ?k7 ?k8 ?k9 ?kB ?_ ?c2 ?c3 ?c4 ?c5; (case k6 => k_is); (case k7 => k_is); (case k8 => omega); (case k9 => first | exact BindsTo.of_eq rfl | exact binds_K (by k_in) rfl (by k_is) rfl rfl rfl); (case c5 => decide); (case kB => exact locs rfl); (case c2 => exact rfl); (case c3 => exact rfl); (case c4 => exact rfl))
  intro g' L' h' FG' F' N' B' X' T' GS'
  (try dsimp only); (try k_fold)
  k_steps
  all_goals exact endO (by assumption) (by assumption) (by k_mem) (by k_mem) (by assumption)
end Mine
namespace Mine
theorem rst_B7 : True := by
  w_top off
  trivial
end Mine
set_option maxRecDepth 100000
namespace Mine
open PySem PySem.W PyProof.Rows PySem.Spec PySem.Calls
local macro_rules | `(tactic| walk_at "exec For Tuple BinOp cons nil") => `(tactic| (k_here; (rename Fr _ _ _ _ => lF'); (with_unfolding_all refine' For_turns lF' ?_); k_whole))
local macro_rules | `(tactic| walk_at "call ref") => `(tactic| (k_here; k_extra "mycall"))
local macro_rules | `(tactic| walk_at "binaryOp FloorDiv int int") => `(tactic| (k_here; k_extra "mydiv"))
local macro_rules | `(tactic| walk_at "binaryOp Mod int int") => `(tactic| (k_here; k_extra "mymod"))
local macro_rules | `(tactic| walk_at "binaryOp Mult int int") => `(tactic| (k_here; k_extra "mymul"))
local macro_rules | `(tactic| walk_at "setAttr ref") => `(tactic| (k_here; k_extra "mysetattr"))
local macro_rules | `(tactic| walk_at "leaving ref") => `(tactic| (k_here; k_extra "myleave"))
local macro_rules | `(tactic| walk_at "exec Raise some none") => `(tactic| (k_here; k_extra "myraise"))

inductive IV : List Value → List Int → Prop
  | nil : IV [] []
  | cons {n : Int} {t : Tok} {vs : List Value} {ns : List Int} : IV vs ns → IV (.int n t :: vs) (n :: ns)
theorem IV.get {vs : List Value} {ns : List Int} (h : IV vs ns) : ∀ v ∈ vs, ∃ n t, v = .int n t ∧ n ∈ ns := by
  induction h with
  | nil => exact fun _ hv => nomatch hv
  | cons _ ih =>
    intro v hv
    rcases List.mem_cons.mp hv with rfl | hv
    · exact ⟨_, _, rfl, .head _⟩
    · obtain ⟨n, t, e, hn⟩ := ih v hv
      exact ⟨n, t, e, .tail _ hn⟩
inductive SV : List Value → List Str → Prop
  | nil : SV [] []
  | cons {n : Str} {t : Tok} {vs : List Value} {ns : List Str} : SV vs ns → SV (.str n t :: vs) (n :: ns)
theorem SV.get {vs : List Value} {ns : List Str} (h : SV vs ns) : ∀ v ∈ vs, ∃ n t, v = .str n t ∧ n ∈ ns := by
  induction h with
  | nil => exact fun _ hv => nomatch hv
  | cons _ ih =>
    intro v hv
    rcases List.mem_cons.mp hv with rfl | hv
    · exact ⟨_, _, rfl, .head _⟩
    · obtain ⟨n, t, e, hn⟩ := ih v hv
      exact ⟨n, t, e, .tail _ hn⟩
section
variable {w : World} {mean : ExcName → Option Value} {mg mb : Str → Option Value} {f src l : Addr} {k : Nat} {x y : Int} {t u : Tok} {as vs : List Value} {ns : List Int} {xs : List Str}
  {dp un : Nat} {gd : Option (List Code)} {cn : Str} {cs : Scope} {a : Addr} {ccd : Value} {cl : List (Str × Addr)} {outer : List Env} {A₀ : Around} {base h₀ : Heap} {L : Addr} {m : Str → Option Value} {s : Shared} {Q E : Value → Shared → Prop} {big rest : List (Addr × Obj)}
theorem Sp.useO (S : Sp w mean mg mb f k as [(src, srcO x y t u), (l, listO vs)] [src] (OutO src vs)) (B : Below A₀ base outer h₀) (F : Fr h₀ L s.heap m) (X : (Mine.hpK w.params).In h₀) (N : News h₀ L s.heap big)
    (T : Top Mine.vwV (looseW Mine.vwV [Str.ofString "fraction", Str.ofString "write_decimal"]) mean mg mb h₀) (hk : cs.kind = .function) (hs : (src, srcO x y t u) ∈ big) (hl : (l, listO vs) ∈ big) (R : Rem src big rest) (hd : dp + k < recursionLimit) (hu : un + 8 * k < cLine)
    (ret : ∀ v x' y' t' u' h' tk', v ∈ vs → Fr h₀ L h' m → News h₀ L h' ((src, srcO x' y' t' u') :: rest) → Q v { s with heap := h', toks := tk' }) : wpAny (model PySem.Challenge.rw_nu0015_01.row.prog w) (ktrTop dp un gd cn cs L a ccd cl outer) (call (.ref f) as) Q E s :=
  S.use B F X N T hk (fun p hp => by rcases List.mem_cons.mp hp with rfl | hp; exact hs; rw [List.mem_singleton.mp hp]; exact hl) hd hu (fun r h' tk' F' K' ho => by
    obtain ⟨hv, hS⟩ := ho
    obtain ⟨x', y', t', u', N'⟩ := Src.news N hs R K' hS
    exact ret r x' y' t' u' h' tk' hv F' N')
theorem Sp.useOI (S : Sp w mean mg mb f k as [(src, srcO x y t u), (l, listO vs)] [src] (OutO src vs)) (B : Below A₀ base outer h₀) (F : Fr h₀ L s.heap m) (X : (Mine.hpK w.params).In h₀) (N : News h₀ L s.heap big)
    (T : Top Mine.vwV (looseW Mine.vwV [Str.ofString "fraction", Str.ofString "write_decimal"]) mean mg mb h₀) (hk : cs.kind = .function) (hs : (src, srcO x y t u) ∈ big) (hl : (l, listO vs) ∈ big) (hi : IV vs ns) (R : Rem src big rest) (hd : dp + k < recursionLimit) (hu : un + 8 * k < cLine)
    (ret : ∀ n t x' y' t' u' h' tk', n ∈ ns → Fr h₀ L h' m → News h₀ L h' ((src, srcO x' y' t' u') :: rest) → Q (.int n t) { s with heap := h', toks := tk' }) : wpAny (model PySem.Challenge.rw_nu0015_01.row.prog w) (ktrTop dp un gd cn cs L a ccd cl outer) (call (.ref f) as) Q E s :=
  S.useO B F X N T hk hs hl R hd hu (fun v x' y' t' u' h' tk' hv F' N' => by
    obtain ⟨n, t, rfl, hn⟩ := hi.get v hv
    exact ret n t x' y' t' u' h' tk' hn F' N')
theorem Sp.useOS (S : Sp w mean mg mb f k as [(src, srcO x y t u), (l, listO vs)] [src] (OutO src vs)) (B : Below A₀ base outer h₀) (F : Fr h₀ L s.heap m) (X : (Mine.hpK w.params).In h₀) (N : News h₀ L s.heap big)
    (T : Top Mine.vwV (looseW Mine.vwV [Str.ofString "fraction", Str.ofString "write_decimal"]) mean mg mb h₀) (hk : cs.kind = .function) (hs : (src, srcO x y t u) ∈ big) (hl : (l, listO vs) ∈ big) (hi : SV vs xs) (R : Rem src big rest) (hd : dp + k < recursionLimit) (hu : un + 8 * k < cLine)
    (ret : ∀ n t x' y' t' u' h' tk', n ∈ xs → Fr h₀ L h' m → News h₀ L h' ((src, srcO x' y' t' u') :: rest) → Q (.str n t) { s with heap := h', toks := tk' }) : wpAny (model PySem.Challenge.rw_nu0015_01.row.prog w) (ktrTop dp un gd cn cs L a ccd cl outer) (call (.ref f) as) Q E s :=
  S.useO B F X N T hk hs hl R hd hu (fun v x' y' t' u' h' tk' hv F' N' => by
    obtain ⟨n, t, rfl, hn⟩ := hi.get v hv
    exact ret n t x' y' t' u' h' tk' hn F' N')
end
def DB (x y : Int) : Prop := -10000000000000 < x ∧ x < 10000000000000 ∧ -10000000 < y ∧ y < 10000000 ∧ y ≠ 0
def OutDr (src : Addr) : Heap → Heap → Value → Prop := fun h h' r => (∃ a x y t u, r = .ref a ∧ h.get? a = none ∧ h'.get? a = some (tupO x y t u) ∧ DB x y) ∧ Src h' src
theorem endDr {s : Shared} {g : Heap} {new : List (Addr × Obj)} {L' src c : Addr} {h' : Heap} {m' : Str → Option Value} {tk' : Nat} {x y x' y' p q : Int} {t u t' u' v z : Tok}
    (F : Fr g L' h' m') (N : News g L' h' new) (GS : GSub s.heap g ([(src, srcO x' y' t' u')].map (·.1))) (hm : (src, srcO x y t u) ∈ new) (hc : (c, tupO p q v z) ∈ new) (hne : @Ne Nat src c) (hb : DB p q) :
    SpEnd s g [(src, srcO x' y' t' u')] [src] (OutDr src) (.ref c) { s with heap := h', toks := tk' } := by
  have := fresh_end GS N hc (fun p hp => by rw [List.mem_singleton.mp hp]; exact hne)
  exact ⟨_, _, _, _, rfl, F, (fun p hp hn => absurd (List.mem_singleton.mpr (by rw [List.mem_singleton.mp hp])) hn), ⟨_, _, _, _, _, rfl, this.1, this.2, hb⟩, _, _, _, _, (N _ hm).1⟩
theorem p6 : (10 : Int) ^ Int.toNat 6 = 1000000 := by decide
theorem p7 : (10 : Int) ^ Int.toNat 7 = 10000000 := by decide
theorem p12 : (10 : Int) ^ Int.toNat 12 = 1000000000000 := by decide
theorem p18 : (10 : Int) ^ Int.toNat 18 = 1000000000000000000 := by decide
theorem kk_mem {n : Int} (h : n ∈ ([1, 2, 2, 3, 4, 6, -2, -5] : List Int)) : n ≠ 0 ∧ -6 < n ∧ n < 7 := by
  simp only [List.mem_cons, List.not_mem_nil, or_false] at h
  omega
set_option maxHeartbeats 8000000 in
theorem c_drawn (w : World) (mean : ExcName → Option Value) (mg mb : Str → Option Value) (src : Addr) (x y : Int) (t u : Tok) :
  Sp w mean mg mb 265 116 [.ref src] [(src, srcO x y t u)] [src] (OutDr src) := by
  unfold Sp
  k_fill
  k_with_none
  k_with "mycall" => ((with_reducible show wpAny _ _ (call (Value.ref 244) _) _ _ _); (k_dflt (refine' (c_take w mean mg mb _ _ _ _ _ _ _ ?ht).useD ?k1 ?k2 ?k3 ?k4 ?k5 ?kK ?ks ?kr ?kd ?ku ?_; (case k1 => k_asm); (case k2 => k_asm); (case k3 => k_asm); (case k4 => k_asm); (case k5 => k_asm); (case kK => first | exact rfl | assumption); (case ks => k_mem); (case kr => (repeat' (first | exact Rem.nil | (refine' Rem.drop ?_) | (refine' Rem.keepT ?rt ?_; (case rt => rfl)) | (refine' Rem.keep ?ra ?_; (case ra => k_ne)) | (refine' Rem.skip ?_)))); (case ht => first | omega | decide); (case kd => ktr_room); (case ku => ktr_units))); intro n9 t9 x9 y9 u9 v9 h9 tk9 n0 n1 F9 N9; (try dsimp only); (try k_sweep); (try k_fold))
  k_with "mycall" => ((with_reducible show wpAny _ _ (call (Value.ref 251) _) _ _ _); (k_dflt (refine' (c_one w mean mg mb _ _ _ _ _ _ _ ?hv ?hv2 ?hne).useOI ?k1 ?k2 ?k3 ?k4 ?k5 ?kK ?ks ?kl ?ki ?kr ?kd ?ku ?_; (case k1 => k_asm); (case k2 => k_asm); (case k3 => k_asm); (case k4 => k_asm); (case k5 => k_asm); (case kK => first | exact rfl | assumption); (case ks => k_mem); (case kl => k_mem); (case ki => (repeat' (first | exact IV.nil | (refine' IV.cons ?_)))); (case kr => (repeat' (first | exact Rem.nil | (refine' Rem.drop ?_) | (refine' Rem.keepT ?rt ?_; (case rt => rfl)) | (refine' Rem.keep ?ra ?_; (case ra => k_ne)) | (refine' Rem.skip ?_)))); (case hv => (simp only [List.length_cons]; omega)); (case hv2 => (simp only [List.length_cons, List.length_nil]; omega)); (case hne => k_ne); (case kd => ktr_room); (case ku => ktr_units))); intro n9 t9 x9 y9 u9 v9 h9 tk9 hm9 F9 N9; (try dsimp only); (try k_sweep); (try k_fold))
  intro dp un gd cn cs a ccd cl outer A₀ base h₀ L m s Q E B F X N T hck hdp hun hret
  k_dflt (refine' sp_enter B F X N T hck hret ?k6 ?k7 ?k8 ?k9 ?kB ?_ ?c2 ?c3 ?c4 ?c5; (case k6 => k_is); (case k7 => k_is); (case k8 => omega); (case k9 => first | exact BindsTo.of_eq rfl | exact binds_K (by k_in) rfl (by k_is) rfl rfl rfl); (case c5 => decide); (case kB => exact locs rfl); (case c2 => exact rfl); (case c3 => exact rfl); (case c4 => exact rfl))
  intro g' L' h' FG' F' N' B' X' T' GS'
  (try dsimp only); (try k_fold)
  k_steps
  all_goals first
    | exact endDr (by assumption) (by assumption) (by assumption) (by k_mem) (by k_mem) (by k_ne) (by have := kk_mem (by assumption); unfold DB; omega)
    | exact endDr (by assumption) (by assumption) (by assumption) (by k_mem) (by k_mem) (by k_ne) (by (try simp only [p6, p12] at *); unfold DB; omega)
end Mine
namespace Mine
theorem rst_B8 : True := by
  w_top off
  trivial
end Mine
set_option maxRecDepth 100000
namespace Mine
open PySem PySem.W PyProof.Rows PySem.Spec PySem.Calls
local macro_rules | `(tactic| walk_at "exec For Tuple BinOp cons nil") => `(tactic| (k_here; (rename Fr _ _ _ _ => lF'); (with_unfolding_all refine' For_turns lF' ?_); k_whole))
local macro_rules | `(tactic| walk_at "call ref") => `(tactic| (k_here; k_extra "mycall"))
local macro_rules | `(tactic| walk_at "binaryOp FloorDiv int int") => `(tactic| (k_here; k_extra "mydiv"))
local macro_rules | `(tactic| walk_at "binaryOp Mod int int") => `(tactic| (k_here; k_extra "mymod"))
local macro_rules | `(tactic| walk_at "binaryOp Mult int int") => `(tactic| (k_here; k_extra "mymul"))
local macro_rules | `(tactic| walk_at "setAttr ref") => `(tactic| (k_here; k_extra "mysetattr"))
local macro_rules | `(tactic| walk_at "leaving ref") => `(tactic| (k_here; k_extra "myleave"))
local macro_rules | `(tactic| walk_at "exec Raise some none") => `(tactic| (k_here; k_extra "myraise"))

abbrev OutS : Heap → Heap → Value → Prop := fun h h' r => ∃ a x y t u, r = .ref a ∧ h.get? a = none ∧ h'.get? a = some (srcO x y t u)
theorem endS {s : Shared} {g : Heap} {new : List (Addr × Obj)} {L' c : Addr} {h' : Heap} {m' : Str → Option Value} {tk' : Nat} {x y : Int} {t u : Tok}
    (F : Fr g L' h' m') (N : News g L' h' new) (GS : GSub s.heap g (([] : List (Addr × Obj)).map (·.1))) (hm : (c, srcO x y t u) ∈ new) :
    SpEnd s g [] [] OutS (.ref c) { s with heap := h', toks := tk' } :=
  ⟨_, _, _, _, rfl, F, (fun _ hp => nomatch hp), _, _, _, _, _, rfl, fresh_end (led := []) GS N hm nes_nil⟩

set_option maxHeartbeats 8000000 in
theorem c_pool (w : World) (mean : ExcName → Option Value) (mg mb : Str → Option Value) (l : Addr) (vs : List Value) (ns : List Int) (k : Int) (t1 : Tok) (hI : IntsAre vs ns) (hlen : ns.length ≤ 63) (k0 : 0 ≤ k) (k1 : k < 3) :
  ∀ (dp un : Nat) (gd : Option (List Code)) (cn : Str) (cs : Scope) (a : Addr) (ccd : Value) (cl : List (Str × Addr)) (outer : List Env) (A₀ : Around) (base h₀ : Heap) (L : Addr) (m : Str → Option Value) (s : Shared) (Q E : Value → Shared → Prop),
    Below A₀ base outer h₀ → Fr h₀ L s.heap m → (Mine.hpK w.params).In h₀ → News h₀ L s.heap [] → Top Mine.vwV (looseW Mine.vwV [Str.ofString "fraction", Str.ofString "write_decimal"]) mean mg mb h₀ → cs.kind = .function →
    dp + 112 < recursionLimit → un + 8 * 112 < cLine → SpRet h₀ L m [] OutS Q s → h₀.IsList l vs.toArray →
    wpAny (model PySem.Challenge.rw_nu0015_01.row.prog w) (ktrTop dp un gd cn cs L a ccd cl outer) (call (.ref 237) [.ref l, .int k t1]) Q E s := by
  k_fill
  k_with_none
  intro dp un gd cn cs a ccd cl outer A₀ base h₀ L m s Q E B F X N T hck hdp hun hret hl
  k_dflt (refine' sp_enter B F X N T hck hret ?k6 ?k7 ?k8 ?k9 ?kB ?_ ?c2 ?c3 ?c4 ?c5; (case k6 => k_is); (case k7 => k_is); (case k8 => omega); (case k9 => first | exact BindsTo.of_eq rfl | exact binds_K (by k_in) rfl (by k_is) rfl rfl rfl); (case c5 => decide); (case kB => exact locs rfl); (case c2 => exact rfl); (case c3 => exact rfl); (case c4 => exact rfl))
  intro g' L' h' FG' F' N' B' X' T' GS'
  (try dsimp only); (try k_fold)
  have hl' : g'.IsList l vs.toArray := stays_list FG'.keep hl
  clear hl
  k_steps
  all_goals exact endS (by assumption) (by assumption) (by assumption) (by k_mem)
end Mine
namespace Mine
theorem rst_B9 : True := by
  w_top off
  trivial
end Mine
set_option maxRecDepth 100000
namespace Mine
open PySem PySem.W PyProof.Rows PySem.Spec PySem.Calls
local macro_rules | `(tactic| walk_at "exec For Tuple BinOp cons nil") => `(tactic| (k_here; (rename Fr _ _ _ _ => lF'); (with_unfolding_all refine' For_turns lF' ?_); k_whole))
local macro_rules | `(tactic| walk_at "call ref") => `(tactic| (k_here; k_extra "mycall"))
local macro_rules | `(tactic| walk_at "binaryOp FloorDiv int int") => `(tactic| (k_here; k_extra "mydiv"))
local macro_rules | `(tactic| walk_at "binaryOp Mod int int") => `(tactic| (k_here; k_extra "mymod"))
local macro_rules | `(tactic| walk_at "binaryOp Mult int int") => `(tactic| (k_here; k_extra "mymul"))
local macro_rules | `(tactic| walk_at "setAttr ref") => `(tactic| (k_here; k_extra "mysetattr"))
local macro_rules | `(tactic| walk_at "leaving ref") => `(tactic| (k_here; k_extra "myleave"))
local macro_rules | `(tactic| walk_at "exec Raise some none") => `(tactic| (k_here; k_extra "myraise"))

theorem root_turn1 {n f : Int} (h1 : 1 ≤ f) (h2 : f * f ≤ n) : 1 ≤ f * 2 ∧ f * 2 ≤ 2 * n := by
  have : f * 1 ≤ f * f := Int.mul_le_mul_of_nonneg_left h1 (by omega)
  omega
theorem root_less1 {n f : Int} (h1 : 1 ≤ f) (h2 : f * f ≤ n) : (2 * n - f * 2).toNat < (2 * n - f).toNat := by
  have := root_turn1 h1 h2
  omega
theorem root_mid {n f : Int} (h1 : 1 ≤ f) (h2 : ¬ f * f ≤ n) : n < (f + 1) * (f + 1) := by
  have e : (f + 1) * (f + 1) = f * f + 2 * f + 1 := by rw [Int.mul_add, Int.add_mul]; omega
  omega
theorem root_newton {n f : Int} (h0 : 0 ≤ n) (h1 : 1 ≤ f) : n < (Int.fdiv (f + Int.fdiv n f) 2 + 1) * (Int.fdiv (f + Int.fdiv n f) 2 + 1) := by
  have e1 : Int.fdiv n f = n / f := Int.fdiv_eq_ediv_of_nonneg _ (by omega)
  have e2 : Int.fdiv (f + n / f) 2 = (f + n / f) / 2 := Int.fdiv_eq_ediv_of_nonneg _ (by omega)
  rw [e1, e2]
  have hq : n < f * (n / f + 1) := by
    have := Int.lt_mul_ediv_self_add (x := n) (k := f) (by omega)
    rw [Int.mul_add]; omega
  have hq0 : 0 < n / f + 1 := by have := Int.ediv_nonneg h0 (show 0 ≤ f by omega); omega
  generalize n / f = q at *
  have hm : f + (q + 1) ≤ 2 * ((f + q) / 2 + 1) := by omega
  generalize (f + q) / 2 + 1 = m at *
  generalize q + 1 = p at *
  have hp : 0 ≤ p := by omega
  have hab : (f + p) * (f + p) ≤ (2 * m) * (2 * m) := Int.mul_le_mul hm hm (by omega) (by omega)
  have hsq : 4 * (f * p) ≤ (f + p) * (f + p) := by
    have h3 : 0 ≤ (f - p) * (f - p) := by
      rcases Int.le_total 0 (f - p) with h | h
      · exact Int.mul_nonneg h h
      · exact Int.mul_nonneg_of_nonpos_of_nonpos h h
    have e3 : (f - p) * (f - p) = f * f - 2 * (f * p) + p * p := by
      rw [Int.sub_mul, Int.mul_sub, Int.mul_sub, Int.mul_comm p f]; omega
    have e4 : (f + p) * (f + p) = f * f + 2 * (f * p) + p * p := by
      rw [Int.add_mul, Int.mul_add, Int.mul_add, Int.mul_comm p f]; omega
    omega
  have e5 : (2 * m) * (2 * m) = 4 * (m * m) := by
    rw [Int.mul_assoc, Int.mul_left_comm m 2 m, ← Int.mul_assoc]; rfl
  omega
theorem root_one {n f : Int} (h0 : 1 ≤ n) (h1 : 1 ≤ f) : 1 ≤ Int.fdiv (f + Int.fdiv n f) 2 := by
  have e1 : Int.fdiv n f = n / f := Int.fdiv_eq_ediv_of_nonneg _ (by omega)
  have e2 : Int.fdiv (f + n / f) 2 = (f + n / f) / 2 := Int.fdiv_eq_ediv_of_nonneg _ (by omega)
  rw [e1, e2]
  have hq0 : 0 ≤ n / f := Int.ediv_nonneg (by omega) (by omega)
  rcases Int.lt_or_le 1 f with h | h
  · omega
  · have : f = 1 := by omega
    subst this
    rw [Int.ediv_one]
    omega
def RtInv (n f l : Int) : Prop := 1 ≤ f ∧ f ≤ 2 * n ∧ n < (f + 1) * (f + 1) ∧ l = Int.fdiv (f + Int.fdiv n f) 2
theorem rt_start {n f : Int} (h1 : 1 ≤ f) (h2 : f ≤ 2 * n) (h3 : ¬ f * f ≤ n) : RtInv n f (Int.fdiv (f + Int.fdiv n f) 2) := ⟨h1, h2, root_mid h1 h3, rfl⟩
theorem rt_turn {n f l : Int} (h : RtInv n f l) (hn : 1 ≤ n) (hl : l < f) : RtInv n l (Int.fdiv (l + Int.fdiv n l) 2) := by
  obtain ⟨h1, h2, _, rfl⟩ := h
  exact ⟨root_one hn h1, by omega, root_newton (by omega) h1, rfl⟩
theorem rt_less {n f l : Int} (h : RtInv n f l) (hl : l < f) : l.toNat < f.toNat := by
  have := h.1
  omega
theorem rt_ge {n f l : Int} (h : RtInv n f l) : 1 ≤ f := h.1
theorem rt_l {n f l : Int} (h : RtInv n f l) (hn : 1 ≤ n) : 1 ≤ l := by
  obtain ⟨h1, h2, _, rfl⟩ := h
  exact root_one hn h1
def RootOf (n r : Int) : Prop := 0 ≤ r ∧ r * r ≤ n ∧ n < (r + 1) * (r + 1) ∧ r ≤ n
theorem rt_end {n f l : Int} (h : RtInv n f l) (hn : 1 ≤ n) (hl : ¬ l < f) : RootOf n f := by
  obtain ⟨h1, h2, h3, rfl⟩ := h
  have e1 : Int.fdiv n f = n / f := Int.fdiv_eq_ediv_of_nonneg _ (by omega)
  have e2 : Int.fdiv (f + n / f) 2 = (f + n / f) / 2 := Int.fdiv_eq_ediv_of_nonneg _ (by omega)
  rw [e1, e2] at hl
  have hq : f ≤ n / f := by omega
  have h5 : f * f ≤ f * (n / f) := Int.mul_le_mul_of_nonneg_left hq (by omega)
  have h6 : f * (n / f) ≤ n := Int.mul_ediv_self_le (by omega)
  have h7 : f * 1 ≤ f * f := Int.mul_le_mul_of_nonneg_left h1 (by omega)
  exact ⟨by omega, by omega, h3, by omega⟩
theorem endRt {s : Shared} {g : Heap} {L' : Addr} {h' : Heap} {m' : Str → Option Value} {tk' : Nat} {n r : Int} {t : Tok}
    (F : Fr g L' h' m') (hr : RootOf n r) : SpEnd s g [] [] (fun _ _ v => ∃ r t, v = .int r t ∧ RootOf n r) (.int r t) { s with heap := h', toks := tk' } :=
  ⟨_, _, _, _, rfl, F, (fun _ hp => nomatch hp), _, _, rfl, hr⟩
theorem root_mulok {n f : Int} (hn : n < 1000000000000000) (h1 : 1 ≤ f) (h2 : f ≤ 2 * n) : IntMulOk f f := IntMulOk.of_left (PySem.intBits_le_64 (by omega) (by omega))
set_option maxHeartbeats 8000000 in
theorem c_root (w : World) (mean : ExcName → Option Value) (mg mb : Str → Option Value) (n : Int) (t : Tok) (h0 : 0 ≤ n) (hn : n < 1000000000000000) :
  Sp w mean mg mb 159 112 [.int n t] [] [] (fun _ _ v => ∃ r t, v = .int r t ∧ RootOf n r) := by
  unfold Sp
  k_fill
  k_with_none
  k_with "mydiv" => (k_dflt (refine' floordiv_int ?kne ?_ (Or.inr (PySem.PylongRoom.of ?knl ?kdp)); (case kne => first | assumption | omega); (case knl => exact Heap.NoLimit.keeps (PyProof.Rows.Top.nolimit (by assumption)) (Fr.keep (by assumption))); (case kdp => ((try simp only [depth_deeper]); (try dsimp only [ktrTop]); (simp only [Builtin.pylongFrames]); omega))))
  k_with "exec While Compare cons nil" => k_while (fun _ f => 1 ≤ f ∧ f ≤ 2 * n) (fun _ f => (2 * n - f).toNat) "found"
  k_with "exec While Compare cons nil" => k_while (fun _ f l => RtInv n f l) (fun _ f _ => f.toNat) "found" "lower"
  k_with "state" => first | exact root_turn1 (by assumption) (by assumption) | exact rt_start (by assumption) (by assumption) (by assumption) | exact rt_turn (by assumption) (by omega) (by assumption) | exact ⟨by omega, by omega⟩
  k_with "measure" => first | exact root_less1 (by assumption) (by assumption) | exact rt_less (by assumption) (by assumption)
  k_with "mymul" => (k_dflt (refine' mul_int ?_ ?hm; (case hm => exact root_mulok hn (by assumption) (by assumption))))
  k_with "mydiv" => (k_dflt (refine' floordiv_int ?kne ?_ (Or.inr (PySem.PylongRoom.of ?knl ?kdp)); (case kne => first | omega | (have h9 := rt_l (by assumption) (by omega); omega)); (case knl => exact Heap.NoLimit.keeps (PyProof.Rows.Top.nolimit (by assumption)) (Fr.keep (by assumption))); (case kdp => ((try simp only [depth_deeper]); (try dsimp only [ktrTop]); (simp only [Builtin.pylongFrames]); omega))))
  intro dp un gd cn cs a ccd cl outer A₀ base h₀ L m s Q E B F X N T hck hdp hun hret
  k_dflt (refine' sp_enter B F X N T hck hret ?k6 ?k7 ?k8 ?k9 ?kB ?_ ?c2 ?c3 ?c4 ?c5; (case k6 => k_is); (case k7 => k_is); (case k8 => omega); (case k9 => first | exact BindsTo.of_eq rfl | exact binds_K (by k_in) rfl (by k_is) rfl rfl rfl); (case c5 => decide); (case kB => exact locs rfl); (case c2 => exact rfl); (case c3 => exact rfl); (case c4 => exact rfl))
  intro g' L' h' FG' F' N' B' X' T' GS'
  (try dsimp only); (try k_fold)
  k_steps
  all_goals first
    | (exfalso; omega)
    | exact endRt (by assumption) (rt_end (by assumption) (by omega) (by assumption))
    | exact endRt (by assumption) (by (have : n = 0 := by omega); subst this; unfold RootOf; omega)
end Mine
namespace Mine
theorem rst_B10 : True := by
  w_top off
  trivial
end Mine
set_option maxRecDepth 100000
namespace Mine
open PySem PySem.W PyProof.Rows PySem.Spec PySem.Calls
local macro_rules | `(tactic| walk_at "exec For Tuple BinOp cons nil") => `(tactic| (k_here; (rename Fr _ _ _ _ => lF'); (with_unfolding_all refine' For_turns lF' ?_); k_whole))
local macro_rules | `(tactic| walk_at "call ref") => `(tactic| (k_here; k_extra "mycall"))
local macro_rules | `(tactic| walk_at "binaryOp FloorDiv int int") => `(tactic| (k_here; k_extra "mydiv"))
local macro_rules | `(tactic| walk_at "binaryOp Mod int int") => `(tactic| (k_here; k_extra "mymod"))
local macro_rules | `(tactic| walk_at "binaryOp Mult int int") => `(tactic| (k_here; k_extra "mymul"))
local macro_rules | `(tactic| walk_at "setAttr ref") => `(tactic| (k_here; k_extra "mysetattr"))
local macro_rules | `(tactic| walk_at "leaving ref") => `(tactic| (k_here; k_extra "myleave"))
local macro_rules | `(tactic| walk_at "exec Raise some none") => `(tactic| (k_here; k_extra "myraise"))
def SrzRet (base h₀ : Heap) (L : Addr) (m : Str → Option Value) (l : List Env) (led : List (Addr × Obj)) (E : Value → Shared → Prop) (s : Shared) : Prop :=
  ∀ e t h' tk' g₂ vs', Fr h₀ L g₂ m → RaisedS base g₂ l e (.ref 44) t vs' led h' → g₂.UpToSlots h' → E (.ref e) { s with heap := h', toks := tk' }

/-- a call that raises NumberFault -/
def Srz (w : World) (mean : ExcName → Option Value) (mg mb : Str → Option Value) (f : Addr) (k : Nat) (vs : List Value) (led : List (Addr × Obj)) : Prop :=
  ∀ (dp un : Nat) (gd : Option (List Code)) (cn : Str) (cs : Scope) (a : Addr) (ccd : Value) (cl : List (Str × Addr)) (outer : List Env) (A₀ : Around) (base h₀ : Heap) (L : Addr) (m : Str → Option Value) (s : Shared) (Q E : Value → Shared → Prop),
    Below A₀ base outer h₀ → Fr h₀ L s.heap m → (Mine.hpK w.params).In h₀ → News h₀ L s.heap led → Top Mine.vwV (looseW Mine.vwV [Str.ofString "fraction", Str.ofString "write_decimal"]) mean mg mb h₀ → cs.kind = .function →
    dp + k < recursionLimit → un + 8 * k < cLine →
    SrzRet base h₀ L m (envX cn cs L a ccd cl :: outer) led E s →
    wpAny (model PySem.Challenge.rw_nu0015_01.row.prog w) (ktrTop dp un gd cn cs L a ccd cl outer) (call (.ref f) vs) Q E s

theorem spret_no {h₀ : Heap} {L : Addr} {m : Str → Option Value} {Q : Value → Shared → Prop} {s : Shared} : SpRet h₀ L m [] (fun _ _ _ => False) Q s := fun _ _ _ _ _ h => h.elim

set_option maxHeartbeats 8000000 in
theorem c_div_r (w : World) (mean : ExcName → Option Value) (mg mb : Str → Option Value) (one other : Addr) (u v : Int) (t3 t4 : Tok) (hv : v = 0) (led : List (Addr × Obj)) (m2 : (other, tupO v u t3 t4) ∈ led) :
  Srz w mean mg mb 89 125 [.ref one, .ref other] led := by
  unfold Srz
  k_fill
  k_with_none
  k_with "myraise" => (k_dflt (refine' nf_raise_stmt ?k3 ?kC ?kb ?kh ?_; (case k3 => k_asm); (case kC => k_is); (case kb => rfl); (case kh => first | rfl | assumption); k_whole))
  k_with "mycall" => ((with_reducible show wpAny _ _ (call (Value.ref 44) [Value.str _ _]) _ _ _); (k_dflt (refine' nf_make ?k1 ?k2 ?k3 ?k5 ?kK ?kC ?kB ?kA ?kN ?ki ?kf ?kd ?ku ?_; (case k1 => k_asm); (case k2 => k_asm); (case k3 => k_asm); (case k5 => k_asm); (case kK => first | exact rfl | assumption); (case kC => k_is); (case kB => rfl); (case kA => rfl); (case kN => rfl); (case ki => k_is); (case kf => k_is); (case kd => ktr_room); (case ku => ktr_units))); intro e' t' h' tk' R'; (try dsimp only))
  k_with "myleave" => ((k_dflt (refine' nf_leave ?k1 ?k2 ?k3 ?k4 ?_ ?k6; (case k2 => assumption); (case k1 => k_asm); (case k3 => k_asm); (case k4 => k_asm); (case k6 => rfl))); intro h' R' U'; (try dsimp only at R' U' ⊢))
  intro dp un gd cn cs a ccd cl outer A₀ base h₀ L m s Q E B F X N T hck hdp hun hraise
  k_dflt (refine' sp_enter B F X N T hck spret_no ?k6 ?k7 ?k8 ?k9 ?kB ?_ ?c2 ?c3 ?c4 ?c5; (case k6 => k_is); (case k7 => k_is); (case k8 => omega); (case k9 => first | exact BindsTo.of_eq rfl | exact binds_K (by k_in) rfl (by k_is) rfl rfl rfl); (case c5 => decide); (case kB => exact locs rfl); (case c2 => exact rfl); (case c3 => exact rfl); (case c4 => exact rfl))
  intro g' L' h' FG' F' N' B' X' T' GS'
  (try dsimp only); (try k_fold)
  k_steps
  all_goals first
    | (exfalso; omega)
    | exact hraise _ _ _ _ _ _ (by assumption) (by assumption) (by assumption)
set_option maxHeartbeats 8000000 in
theorem c_root_r (w : World) (mean : ExcName → Option Value) (mg mb : Str → Option Value) (n : Int) (t : Tok) (hn : n < 0) (led : List (Addr × Obj)) :
  Srz w mean mg mb 159 125 [.int n t] led := by
  unfold Srz
  k_fill
  k_with_none
  k_with "myraise" => (k_dflt (refine' nf_raise_stmt ?k3 ?kC ?kb ?kh ?_; (case k3 => k_asm); (case kC => k_is); (case kb => rfl); (case kh => first | rfl | assumption); k_whole))
  k_with "mycall" => ((with_reducible show wpAny _ _ (call (Value.ref 44) [Value.str _ _]) _ _ _); (k_dflt (refine' nf_make ?k1 ?k2 ?k3 ?k5 ?kK ?kC ?kB ?kA ?kN ?ki ?kf ?kd ?ku ?_; (case k1 => k_asm); (case k2 => k_asm); (case k3 => k_asm); (case k5 => k_asm); (case kK => first | exact rfl | assumption); (case kC => k_is); (case kB => rfl); (case kA => rfl); (case kN => rfl); (case ki => k_is); (case kf => k_is); (case kd => ktr_room); (case ku => ktr_units))); intro e' t' h' tk' R'; (try dsimp only))
  k_with "myleave" => ((k_dflt (refine' nf_leave ?k1 ?k2 ?k3 ?k4 ?_ ?k6; (case k2 => assumption); (case k1 => k_asm); (case k3 => k_asm); (case k4 => k_asm); (case k6 => rfl))); intro h' R' U'; (try dsimp only at R' U' ⊢))
  k_with "mydiv" => (k_dflt (refine' floordiv_int ?kne ?_ (Or.inr (PySem.PylongRoom.of ?knl ?kdp)); (case kne => first | assumption | omega); (case knl => exact Heap.NoLimit.keeps (PyProof.Rows.Top.nolimit (by assumption)) (Fr.keep (by assumption))); (case kdp => ((try simp only [depth_deeper]); (try dsimp only [ktrTop]); (simp only [Builtin.pylongFrames]); omega))))
  intro dp un gd cn cs a ccd cl outer A₀ base h₀ L m s Q E B F X N T hck hdp hun hraise
  k_dflt (refine' sp_enter B F X N T hck spret_no ?k6 ?k7 ?k8 ?k9 ?kB ?_ ?c2 ?c3 ?c4 ?c5; (case k6 => k_is); (case k7 => k_is); (case k8 => omega); (case k9 => first | exact BindsTo.of_eq rfl | exact binds_K (by k_in) rfl (by k_is) rfl rfl rfl); (case c5 => decide); (case kB => exact locs rfl); (case c2 => exact rfl); (case c3 => exact rfl); (case c4 => exact rfl))
  intro g' L' h' FG' F' N' B' X' T' GS'
  (try dsimp only); (try k_fold)
  k_steps
  all_goals first
    | (exfalso; omega)
    | exact hraise _ _ _ _ _ _ (by assumption) (by assumption) (by assumption)
end Mine
namespace Mine
theorem rst_S0 : True := by
  w_top off
  trivial
end Mine
set_option maxRecDepth 100000
namespace Mine
open PySem PySem.W PyProof.Rows PySem.Spec PySem.Calls
/-- what stood beside the ledger stands still -/
def KO (h₀ : Heap) (L : Addr) (led : List (Addr × Obj)) (h h' : Heap) : Prop := ∀ own, News h₀ L h own → (∀ p ∈ own, ∀ q ∈ led, p.1 ≠ q.1) → News h₀ L h' own
section
variable {prog : Program} {w : World} {A₀ A : Around} {s : Shared} {base h₀ : Heap} {L a : Addr} {m : Str → Option Value} {cn : Str} {cs : Scope} {ccd : Value} {led : List (Addr × Obj)} {K : Frag} {p : Program} {loose : List Str} {mean : ExcName → Option Value} {mg mb : Str → Option Value}
    {R : Result → Shared → Prop} {name qual : Str} {params : Arguments} {body : List Stmt} {scope : Scope} {dV kV doc pm cdv ct oc : Value} {an od : Option Addr} {osl : Array (Option Value)} {f : Addr} {args : Args} {binds : List (Str × Value)}
theorem st_enter (B : Below A₀ base [] h₀) (F : Fr h₀ L s.heap m) (X₀ : K.In h₀) (N : News h₀ L s.heap led) (T : Top p loose mean mg mb h₀) (hA : A.frames = some [envOf cn cs L a ccd])
    (ho : K.lookup f = some ⟨oc, od, .func (fnOf name qual params body scope dV kV doc pm an cdv ct), osl⟩) (hcd : codeIn K cdv qual = true) (hroom : A.depth < recursionLimit)
    (hbind : BindsTo s (fnOf name qual params body scope dV kV doc pm an cdv ct) args binds) (hloc : ∀ y ∈ binds, scope.names.lookup y.1 = some .local)
    (h : ∀ g L' h₁, Fr h₀ L g m → Fr g L' h₁ (fun y => binds.reverse.lookup y) → News g L' h₁ led → Below A base [envOf cn cs L a ccd] g → K.In g → Top p loose mean mg mb g → KtsDicts ([envOf cn cs L a ccd].filterMap (·.frame)) g →
      wpAny (model prog w) (A.deeper (envOf qual scope L' f cdv)) (execs body (envOf qual scope L' f cdv))
        (fun fl s' => LeaveS0 ([envOf cn cs L a ccd].filterMap (·.frame)) h₀ L m g (fun r s' => KO h₀ L led s.heap s'.heap → R r s') (match fl with | .ret v => v | _ => .none) s')
        (fun e s' => wpAny (model prog w) (A.deeper (envOf qual scope L' f cdv)) (leaving (envOf qual scope L' f cdv) e) (fun _ s'' => R (.error e) s'') (fun e' s'' => R (.error e') s'') s')
        { s with heap := h₁, toks := s.toks + binds.length })
    (hck : cs.kind = .function) (hco : scope.isCoroutine = false) (hgen : scope.isGenerator = false) (hk : scope.kind = .function)
    (hcell : ∀ x ∈ scope.names, x.2 ≠ .cell) : codeAny (model prog w) A (.call (.ref f) args) R s := by
  have nE : ∀ b, b ∈ ([envOf cn cs L a ccd].filterMap (·.frame)) → b = L := fun b hb => (kts_mem hb).elim id fun z => (by simp at z)
  have hfree := F.keep
  refine codeAny_call_def (fd := fnOf name qual params body scope dV kV doc pm an cdv ct) (body := body) (binds := binds) hroom (X₀.keeps hfree _ _ ho) rfl (T.nolimit.keeps hfree) (codeRec_of (X₀.keeps hfree) hcd) rfl hbind hcell hloc (fun h₁ hns hk₁ => ?_) hco hgen hk
  obtain ⟨oL, es, ep, hLg, hLd, hN, hNs, st, B₂⟩ := kts_enter B F N hA hck
  have FG : Fr h₀ L (hideAll s.heap (led.map (·.1))) m := ⟨hN _ hLg, st, F.above⟩
  have F1 : Fr (hideAll s.heap (led.map (·.1))) s.heap.objs.size h₁ (fun y => binds.reverse.lookup y) := ⟨hns, fun b o e => hk₁ b o (of_hideAll _ e), Nat.le_of_eq (hideAll_size _ _)⟩
  have N1 : News (hideAll s.heap (led.map (·.1))) s.heap.objs.size h₁ led := fun q hq => ⟨hk₁ _ _ (N q hq).1, Nat.ne_of_lt (Heap.lt_size (N q hq).1), hideAll_none _ (List.mem_map_of_mem hq)⟩
  have D1 : KtsDicts ([envOf cn cs L a ccd].filterMap (·.frame)) (hideAll s.heap (led.map (·.1))) := fun b hb => ⟨oL, es, ep, by rw [nE b hb]; exact hLg, hLd⟩
  refine wpAny_mono (h _ _ h₁ FG F1 N1 B₂ (X₀.keeps st) (T.keeps st) D1) (fun fl s' hl => ?_) fun _ _ y => y
  obtain ⟨g', L', m', led', T', F', N', k⟩ := hl
  obtain ⟨sl, hs⟩ := T'.up hLg
  -- what the call's start held, but for the frame and the ledger, stands
  have keepB : ∀ b o, (hideAll s.heap (led.map (·.1))).get? b = some o → b ≠ L → s'.heap.get? b = some o := fun b o e n => F'.keep b o (T'.other b o e fun q => n (nE b q))
  have nL₀ : h₀.get? L = none := kts_self F
  refine k ⟨hNs sl _ (F'.keep _ _ hs), fun b o e => keepB b o (st b o e) (fun q => by rw [q, nL₀] at e; cases e), F.above⟩ (fun q hq => ⟨(N' q hq).1, fun z => ?_, ?_⟩) ?_
  · have := (N' q hq).2.2
    rw [z, hs] at this
    cases this
  · cases z : h₀.get? q.1 with
    | none => rfl
    | some o =>
      obtain ⟨sl', hs'⟩ := T'.up (st _ _ z)
      have := (N' q hq).2.2
      rw [hs'] at this
      cases this
  · intro own NO hoff q hq
    have hq0 := NO q hq
    refine ⟨keepB _ _ (hideAll_get _ hq0.1 fun z => ?_) hq0.2.1, hq0.2⟩
    obtain ⟨r, hr, e⟩ := List.mem_map.mp z
    exact hoff q hq r hr e.symm
end
end Mine
namespace Mine
theorem rst_B11 : True := by
  w_top off
  trivial
end Mine
set_option maxRecDepth 100000
namespace Mine
open PySem PySem.W PyProof.Rows PySem.Spec PySem.Calls
local macro_rules | `(tactic| walk_at "exec For Tuple BinOp cons nil") => `(tactic| (k_here; (rename Fr _ _ _ _ => lF'); (with_unfolding_all refine' For_turns lF' ?_); k_whole))
local macro_rules | `(tactic| walk_at "call ref") => `(tactic| (k_here; k_extra "mycall"))
local macro_rules | `(tactic| walk_at "binaryOp FloorDiv int int") => `(tactic| (k_here; k_extra "mydiv"))
local macro_rules | `(tactic| walk_at "binaryOp Mod int int") => `(tactic| (k_here; k_extra "mymod"))
local macro_rules | `(tactic| walk_at "binaryOp Mult int int") => `(tactic| (k_here; k_extra "mymul"))
local macro_rules | `(tactic| walk_at "setAttr ref") => `(tactic| (k_here; k_extra "mysetattr"))
local macro_rules | `(tactic| walk_at "leaving ref") => `(tactic| (k_here; k_extra "myleave"))
local macro_rules | `(tactic| walk_at "exec Raise some none") => `(tactic| (k_here; k_extra "myraise"))

section
variable {w : World} {mean : ExcName → Option Value} {mg mb : Str → Option Value} {f : Addr} {k : Nat} {vs : List Value} {led : List (Addr × Obj)}
  {dp un : Nat} {gd : Option (List Code)} {cn : Str} {cs : Scope} {a : Addr} {ccd : Value} {cl : List (Str × Addr)} {outer : List Env} {A₀ : Around} {base h₀ : Heap} {L : Addr} {m : Str → Option Value} {s : Shared} {Q E : Value → Shared → Prop} {big : List (Addr × Obj)}
theorem Sp.useRt {n : Int} (S : Sp w mean mg mb f k vs led [] (fun _ _ v => ∃ r t, v = .int r t ∧ RootOf n r)) (B : Below A₀ base outer h₀) (F : Fr h₀ L s.heap m) (X : (Mine.hpK w.params).In h₀) (N : News h₀ L s.heap big)
    (T : Top Mine.vwV (looseW Mine.vwV [Str.ofString "fraction", Str.ofString "write_decimal"]) mean mg mb h₀) (hk : cs.kind = .function) (hs : ∀ p ∈ led, p ∈ big)
    (hd : dp + k < recursionLimit) (hu : un + 8 * k < cLine)
    (ret : ∀ r t h' tk', 0 ≤ r → r * r ≤ n → n < (r + 1) * (r + 1) → r ≤ n → Fr h₀ L h' m → News h₀ L h' big → Q (.int r t) { s with heap := h', toks := tk' }) :
    wpAny (model PySem.Challenge.rw_nu0015_01.row.prog w) (ktrTop dp un gd cn cs L a ccd cl outer) (call (.ref f) vs) Q E s :=
  S.use B F X N T hk hs hd hu (fun v h' tk' F' K' ho => by obtain ⟨r, t, rfl, r0, r1, r2, r3⟩ := ho; exact ret r t h' tk' r0 r1 r2 r3 F' (K'.news N))
end
theorem rr_mem {g1 g2 n : Int} (h : n ∈ ([0, 1, 2, 3, 4, 15, 16, 17, g1 * 10 ^ Int.toNat 7 + g2] : List Int)) (a0 : 0 ≤ g1) (a1 : g1 < 10 ^ Int.toNat 7) (b0 : 0 ≤ g2) (b1 : g2 < 10 ^ Int.toNat 7) : 0 ≤ n ∧ n < 1000000000000000 := by
  rw [p7] at *
  simp only [List.mem_cons, List.not_mem_nil, or_false] at h
  omega
set_option maxHeartbeats 8000000 in
theorem c_rootr (w : World) (mean : ExcName → Option Value) (mg mb : Str → Option Value) (src p : Addr) (x y px py : Int) (t u t2 u2 : Tok) :
  ∀ (dp un : Nat) (gd : Option (List Code)) (cn : Str) (cs : Scope) (a : Addr) (ccd : Value) (A₀ : Around) (h₀ : Heap) (L : Addr) (m : Str → Option Value) (s : Shared) (Q E : Value → Shared → Prop),
    Below A₀ h₀ [] h₀ → Fr h₀ L s.heap m → (Mine.hpK w.params).In h₀ → News h₀ L s.heap [(src, srcO x y t u), (p, tupO px py t2 u2)] → Top Mine.vwV (looseW Mine.vwV [Str.ofString "fraction", Str.ofString "write_decimal"]) mean mg mb h₀ → cs.kind = .function →
    dp + 140 < recursionLimit → un + 8 * 140 < cLine →
    (∀ h' tk', Fr h₀ L h' m → (∃ x y t u, News h₀ L h' [(src, srcO x y t u), (p, tupO px py t2 u2)]) → KO h₀ L [(src, srcO x y t u), (p, tupO px py t2 u2)] s.heap h' → Q (.bool true) { s with heap := h', toks := tk' }) →
    wpAny (model PySem.Challenge.rw_nu0015_01.row.prog w) (ktrTop dp un gd cn cs L a ccd [] []) (call (.ref 293) [.ref src]) Q E s := by
  k_fill
  k_with_none
  k_with "mycall" => ((with_reducible show wpAny _ _ (call (Value.ref 244) _) _ _ _); (k_dflt (refine' (c_take w mean mg mb _ _ _ _ _ _ _ ?ht).useD ?k1 ?k2 ?k3 ?k4 ?k5 ?kK ?ks ?kr ?kd ?ku ?_; (case k1 => k_asm); (case k2 => k_asm); (case k3 => k_asm); (case k4 => k_asm); (case k5 => k_asm); (case kK => first | exact rfl | assumption); (case ks => k_mem); (case kr => (repeat' (first | exact Rem.nil | (refine' Rem.drop ?_) | (refine' Rem.keepT ?rt ?_; (case rt => rfl)) | (refine' Rem.keep ?ra ?_; (case ra => k_ne)) | (refine' Rem.skip ?_)))); (case ht => first | omega | decide); (case kd => ktr_room); (case ku => ktr_units))); intro n9 t9 x9 y9 u9 v9 h9 tk9 n0 n1 F9 N9; (try dsimp only); (try k_sweep); (try k_fold))
  k_with "mycall" => ((with_reducible show wpAny _ _ (call (Value.ref 251) _) _ _ _); (k_dflt (refine' (c_one w mean mg mb _ _ _ _ _ _ _ ?hv ?hv2 ?hne).useOI ?k1 ?k2 ?k3 ?k4 ?k5 ?kK ?ks ?kl ?ki ?kr ?kd ?ku ?_; (case k1 => k_asm); (case k2 => k_asm); (case k3 => k_asm); (case k4 => k_asm); (case k5 => k_asm); (case kK => first | exact rfl | assumption); (case ks => k_mem); (case kl => k_mem); (case ki => (repeat' (first | exact IV.nil | (refine' IV.cons ?_)))); (case kr => (repeat' (first | exact Rem.nil | (refine' Rem.drop ?_) | (refine' Rem.keepT ?rt ?_; (case rt => rfl)) | (refine' Rem.keep ?ra ?_; (case ra => k_ne)) | (refine' Rem.skip ?_)))); (case hv => (simp only [List.length_cons]; omega)); (case hv2 => (simp only [List.length_cons, List.length_nil]; omega)); (case hne => k_ne); (case kd => ktr_room); (case ku => ktr_units))); intro n9 t9 x9 y9 u9 v9 h9 tk9 hm9 F9 N9; (obtain ⟨hb8, hb9⟩ := rr_mem hm9 (by assumption) (by assumption) (by assumption) (by assumption)); clear hm9; (try dsimp only); (try k_sweep); (try k_fold))
  k_with "mycall" => ((with_reducible show wpAny _ _ (call (Value.ref 159) _) _ _ _); (k_dflt (refine' (c_root w mean mg mb _ _ ?hp ?hq).useRt ?k1 ?k2 ?k3 ?k4 ?k5 ?kK ?ks ?kd ?ku ?_; (case k1 => k_asm); (case k2 => k_asm); (case k3 => k_asm); (case k4 => k_asm); (case k5 => k_asm); (case kK => first | exact rfl | assumption); (case ks => (repeat' (first | exact List.forall_mem_nil _ | (refine List.forall_mem_cons.mpr ⟨by k_mem, ?_⟩)))); (case hp => assumption); (case hq => assumption); (case kd => ktr_room); (case ku => ktr_units))); intro r9 t9 h9 tk9 r0 r1 r2 r3 F9 N9; (try dsimp only); (try k_sweep); (try k_fold))
  k_with "mycall" => ((with_reducible show wpAny _ _ (call (Value.ref 159) _) _ _ _); (k_dflt (refine' (c_root_r w mean mg mb _ _ ?hp _) _ _ _ _ _ _ _ _ _ _ _ _ _ _ _ _ _ ?k1 ?k2 ?k3 ?k4 ?k5 ?kK ?kd ?ku ?_; (case k1 => k_asm); (case k2 => k_asm); (case k3 => k_asm); (case k4 => k_asm); (case k5 => k_asm); (case kK => first | exact rfl | assumption); (case hp => omega); (case kd => ktr_room); (case ku => ktr_units))); intro e9 t9 h9 tk9 g9 v9 G9 R9 U9; (try dsimp only))
  k_with "mymul" => (k_dflt (refine' mul_int ?_ ?hm; (case hm => exact IntMulOk.of_left (PySem.intBits_le_64 (by omega) (by omega)))))
  intro dp un gd cn cs a ccd A₀ h₀ L m s Q E B F X N T hck hdp hun hret
  refine wpAny_call ?_
  k_dflt (refine' st_enter ?k1 ?k2 ?k3 ?k4 ?k5 ?kA ?k6 ?k7 ?k8 ?k9 ?kB ?_ ?cK ?c2 ?c3 ?c4 ?c5; (case kA => exact rfl); (case k2 => k_asm); (case k1 => k_asm); (case k3 => k_asm); (case k4 => k_asm); (case k5 => k_asm); (case k6 => k_is); (case k7 => k_is); (case k8 => ktr_room); (case k9 => exact BindsTo.of_eq rfl); (case kB => exact locs rfl); (case cK => assumption); (case c2 => exact rfl); (case c3 => exact rfl); (case c4 => exact rfl); (case c5 => decide))
  intro g' L' h' FG' F' N' B' X' T' D'
  (try dsimp only); (try k_lift B'); (try k_fold)
  k_steps
  all_goals first
    | (exfalso; omega)
    | exact hret _ _ (by assumption) ⟨_, _, _, _, cb_drop (by assumption) (by (repeat' (first | exact List.forall_mem_nil _ | (refine List.forall_mem_cons.mpr ⟨by k_mem, ?_⟩))))⟩ (by assumption)
end Mine
namespace Mine
theorem rst_M1 : True := by
  w_top off
  trivial
end Mine
set_option maxRecDepth 100000
namespace Mine
open PySem PySem.W PyProof.Rows PySem.Spec PySem.Calls
/-- at most n bits -/
def Bt (n : Nat) (x : Int) : Prop := Builtin.Int.intBits x ≤ n
theorem Bt.sz {n : Nat} {x : Int} (h : Bt n x) (hn : n ≤ 1000000 := by decide) : Sz x := Nat.le_trans h hn
theorem Bt.mul {m n : Nat} {x y : Int} (h : Bt m x) (k : Bt n y) : Bt (m + n) (x * y) := PySem.intBits_mul_le h k
theorem Bt.add {m n : Nat} {x y : Int} (h : Bt m x) (k : Bt n y) : Bt (max m n + 1) (x + y) := PySem.intBits_add_le h k
theorem Bt.sub {m n : Nat} {x y : Int} (h : Bt m x) (k : Bt n y) : Bt (max m n + 1) (x - y) := PySem.intBits_sub_le h k
theorem Bt.neg {m : Nat} {x : Int} (h : Bt m x) : Bt m (-x) := PySem.intBits_neg_le h
theorem Bt.fdiv {m : Nat} {x y : Int} (h : Bt m x) : Bt m (Int.fdiv x y) := PySem.intBits_fdiv_le h
theorem Bt.frT {m : Nat} {x y : Int} (h : Bt m x) : Bt m (frT x y) := by
  unfold Mine.frT
  split
  · exact h.neg.fdiv
  · exact h.fdiv
theorem Bt.frB {m : Nat} {x y : Int} (h : Bt m y) : Bt m (frB x y) := by
  unfold Mine.frB
  split
  · exact h.neg.fdiv
  · exact h.fdiv
theorem Bt.of {x : Int} (h1 : -18446744073709551616 < x) (h2 : x < 18446744073709551616) : Bt 64 x := PySem.intBits_le_64 (by omega) (by omega)
/-- p / q is x / y in lowest terms -/
structure Low (x y p q : Int) : Prop where
  pos : 1 ≤ q
  same : p * y = q * x
  low : Int.gcd p q = 1
theorem low_core {x y : Int} (hy : 0 < y) : Low x y (Int.fdiv x (Int.gcd x y : Nat)) (Int.fdiv y (Int.gcd x y : Nat)) := by
  have hg : 0 < Int.gcd x y := Nat.pos_of_ne_zero (fun e => by have := (Int.gcd_eq_zero_iff.mp e).2; omega)
  have hg' : (0 : Int) < ((Int.gcd x y : Nat) : Int) := by omega
  rw [Int.fdiv_eq_ediv_of_nonneg _ (by omega), Int.fdiv_eq_ediv_of_nonneg _ (by omega)]
  have hx : ((Int.gcd x y : Nat) : Int) ∣ x := Int.gcd_dvd_left ..
  have hy' : ((Int.gcd x y : Nat) : Int) ∣ y := Int.gcd_dvd_right ..
  have hgc : Int.gcd (x / (Int.gcd x y : Nat)) (y / (Int.gcd x y : Nat)) = 1 := by
    rw [Int.gcd_ediv hx hy']
    rw [Int.natAbs_natCast, Nat.div_self hg]
  generalize ((Int.gcd x y : Nat) : Int) = g at *
  obtain ⟨a, rfl⟩ := hx
  obtain ⟨b, rfl⟩ := hy'
  rw [Int.mul_ediv_cancel_left _ (by omega), Int.mul_ediv_cancel_left _ (by omega)] at *
  refine ⟨?_, by grind, hgc⟩
  rcases Int.lt_or_le 0 b with h | h
  · omega
  · have := Int.mul_nonpos_of_nonneg_of_nonpos (Int.le_of_lt hg') h
    omega
theorem fr_low {x y : Int} (hy : y ≠ 0) : Low x y (frT x y) (frB x y) := by
  unfold frT frB
  rcases Int.lt_or_le y 0 with h | h
  · rw [if_pos h, if_pos h]
    have L := low_core (x := -x) (y := -y) (by omega)
    refine ⟨L.pos, ?_, L.low⟩
    have := L.same
    grind
  · rw [if_neg (by omega), if_neg (by omega)]
    exact low_core (by omega)
theorem Low.via {X Y X' Y' T B : Int} (L : Low X Y T B) (hY : Y ≠ 0) (h : X * Y' = Y * X') : T * Y' = B * X' := by
  have h1 := L.same
  have : Y * (T * Y') = Y * (B * X') := by grind
  exact Int.eq_of_mul_eq_mul_left hY this
theorem low_plus {ax ay bx bz px py qx qy : Int} (A : Low ax ay px py) (B : Low bx bz qx qy) : (px * qy + qx * py) * (ay * bz) = py * qy * (ax * bz + bx * ay) := by
  have h1 := A.same
  have h2 := B.same
  grind
theorem low_minus {ax ay bx bz px py qx qy : Int} (A : Low ax ay px py) (B : Low bx bz qx qy) : (px * qy - qx * py) * (ay * bz) = py * qy * (ax * bz - bx * ay) := by
  have h1 := A.same
  have h2 := B.same
  grind
theorem low_times {ax ay bx bz px py qx qy : Int} (A : Low ax ay px py) (B : Low bx bz qx qy) : (px * qx) * (ay * bz) = py * qy * (ax * bx) := by
  have h1 := A.same
  have h2 := B.same
  grind
theorem low_div {ax ay bx bz px py qx qy : Int} (A : Low ax ay px py) (B : Low bx bz qx qy) : (px * qy) * (ay * bx) = py * qx * (ax * bz) := by
  have h1 := A.same
  have h2 := B.same
  grind
theorem low_zero {bx bz qx qy : Int} (B : Low bx bz qx qy) (hz : bz ≠ 0) : qx = 0 ↔ bx = 0 := by
  have h1 := B.same
  have h2 := B.pos
  constructor
  · intro h
    rw [h, Int.zero_mul] at h1
    rcases Int.mul_eq_zero.mp h1.symm with h | h
    · omega
    · exact h
  · intro h
    rw [h, Int.mul_zero] at h1
    rcases Int.mul_eq_zero.mp h1 with h | h
    · exact h
    · exact absurd h hz
end Mine
namespace Mine
theorem rst_M2 : True := by
  w_top off
  trivial
end Mine
set_option maxRecDepth 100000
namespace Mine
open PySem PySem.W PyProof.Rows PySem.Spec PySem.Calls
local macro_rules | `(tactic| walk_at "exec For Tuple BinOp cons nil") => `(tactic| (k_here; (rename Fr _ _ _ _ => lF'); (with_unfolding_all refine' For_turns lF' ?_); k_whole))
local macro_rules | `(tactic| walk_at "call ref") => `(tactic| (k_here; k_extra "mycall"))
local macro_rules | `(tactic| walk_at "binaryOp FloorDiv int int") => `(tactic| (k_here; k_extra "mydiv"))
local macro_rules | `(tactic| walk_at "binaryOp Mod int int") => `(tactic| (k_here; k_extra "mymod"))
local macro_rules | `(tactic| walk_at "binaryOp Mult int int") => `(tactic| (k_here; k_extra "mymul"))
local macro_rules | `(tactic| walk_at "setAttr ref") => `(tactic| (k_here; k_extra "mysetattr"))
local macro_rules | `(tactic| walk_at "leaving ref") => `(tactic| (k_here; k_extra "myleave"))
local macro_rules | `(tactic| walk_at "exec Raise some none") => `(tactic| (k_here; k_extra "myraise"))

theorem low_eq {px py qx qy : Int} (h1 : 1 ≤ py) (h2 : 1 ≤ qy) (g1 : Int.gcd px py = 1) (g2 : Int.gcd qx qy = 1) (h : px * qy - qx * py = 0) : px = qx ∧ py = qy := by
  have e : px * qy = qx * py := by omega
  have d1 : py ∣ qy := by
    have : py ∣ qy * px := ⟨qx, by rw [Int.mul_comm, e, Int.mul_comm]⟩
    rw [← Int.dvd_mul_gcd_iff_dvd_mul, Int.gcd_comm, g1] at this
    simpa using this
  have d2 : qy ∣ py := by
    have : qy ∣ py * qx := ⟨px, by rw [Int.mul_comm, ← e, Int.mul_comm]⟩
    rw [← Int.dvd_mul_gcd_iff_dvd_mul, Int.gcd_comm, g2] at this
    simpa using this
  have e2 : py = qy := Int.le_antisymm (Int.le_of_dvd (by omega) d1) (Int.le_of_dvd (by omega) d2)
  subst e2
  exact ⟨Int.eq_of_mul_eq_mul_right (by omega) e, rfl⟩
theorem sgn_of (x : Int) : (0 < x ∧ sgn x = 1) ∨ (x < 0 ∧ sgn x = -1) ∨ (x = 0 ∧ sgn x = 0) := by unfold sgn; (repeat' split) <;> omega
theorem sign_same {D W P N : Int} (h : D * P = N * W) (hN : 0 < N) : (0 < P → (0 < W ↔ 0 < D) ∧ (W < 0 ↔ D < 0)) ∧ (P < 0 → (0 < W ↔ D < 0) ∧ (W < 0 ↔ 0 < D)) := by
  constructor
  · intro p
    refine ⟨⟨fun w => ?_, fun d => ?_⟩, fun w => ?_, fun d => ?_⟩
    · have := Int.mul_pos hN w; rw [← h] at this; exact Int.pos_of_mul_pos_left this p
    · have := Int.mul_pos d p; rw [h] at this; exact Int.pos_of_mul_pos_right this hN
    · have := Int.mul_neg_of_pos_of_neg hN w
      rw [← h] at this
      rcases Int.lt_or_le D 0 with q | q
      · exact q
      · have := Int.mul_nonneg q (Int.le_of_lt p); omega
    · have := Int.mul_neg_of_neg_of_pos d p
      rw [h] at this
      rcases Int.lt_or_le W 0 with q | q
      · exact q
      · have := Int.mul_nonneg (Int.le_of_lt hN) q; omega
  · intro p
    refine ⟨⟨fun w => ?_, fun d => ?_⟩, fun w => ?_, fun d => ?_⟩
    · have := Int.mul_pos hN w
      rw [← h] at this
      rcases Int.lt_or_le D 0 with q | q
      · exact q
      · have := Int.mul_nonpos_of_nonneg_of_nonpos q (Int.le_of_lt p); omega
    · have := Int.mul_pos_of_neg_of_neg d p
      rw [h] at this
      rcases Int.lt_or_le 0 W with q | q
      · exact q
      · have := Int.mul_nonpos_of_nonneg_of_nonpos (Int.le_of_lt hN) q; omega
    · have := Int.mul_neg_of_pos_of_neg hN w
      rw [← h] at this
      rcases Int.lt_or_le 0 D with q | q
      · exact q
      · have := Int.mul_nonneg_of_nonpos_of_nonpos q (Int.le_of_lt p); omega
    · have := Int.mul_neg_of_pos_of_neg d p
      rw [h] at this
      rcases Int.lt_or_le W 0 with q | q
      · exact q
      · have := Int.mul_nonneg (Int.le_of_lt hN) q; omega
end Mine
namespace Mine
theorem rst_M3 : True := by
  w_top off
  trivial
end Mine
set_option maxRecDepth 100000
namespace Mine
open PySem PySem.W PyProof.Rows PySem.Spec PySem.Calls

theorem fdiv_pos_iff {x y n : Int} (hy : 0 < y) : Int.fdiv x y = n ↔ n * y ≤ x ∧ x < (n + 1) * y := by
  rw [Int.fdiv_eq_ediv_of_nonneg _ (by omega)]
  have h1 := Int.mul_ediv_add_emod x y
  have h2 := Int.emod_nonneg x (show y ≠ 0 by omega)
  have h3 := Int.emod_lt_of_pos x hy
  constructor
  · intro h
    subst h
    rw [Int.add_mul, Int.mul_comm]
    omega
  · rintro ⟨a, b⟩
    have : x / y < n + 1 := Int.ediv_lt_of_lt_mul hy b
    have : n ≤ x / y := Int.le_ediv_of_mul_le hy a
    omega
theorem fdiv_same_pos {p q x y : Int} (hq : 0 < q) (hy : 0 < y) (h : p * y = q * x) : Int.fdiv p q = Int.fdiv x y := by
  rw [fdiv_pos_iff hq]
  have ⟨a, b⟩ := (fdiv_pos_iff (x := x) (n := Int.fdiv x y) hy).mp rfl
  generalize Int.fdiv x y = n at *
  constructor
  · have h1 := Int.mul_le_mul_of_nonneg_left a (Int.le_of_lt hq)
    have h2 : (n * q) * y ≤ p * y := by rw [h]; grind
    exact Int.le_of_mul_le_mul_right h2 hy
  · have h1 := Int.mul_lt_mul_of_pos_left b hq
    have h2 : p * y < ((n + 1) * q) * y := by rw [h]; grind
    exact Int.lt_of_mul_lt_mul_right h2 (Int.le_of_lt hy)
theorem fdiv_same {p q x y : Int} (hq : 0 < q) (hy : y ≠ 0) (h : p * y = q * x) : Int.fdiv p q = Int.fdiv x y := by
  rcases Int.lt_or_le y 0 with hy' | hy'
  · rw [← Int.neg_fdiv_neg x y]
    exact fdiv_same_pos hq (by omega) (by grind)
  · exact fdiv_same_pos hq (by omega) h
theorem Low.floor {x y p q : Int} (L : Low x y p q) (hy : y ≠ 0) : Int.fdiv p q = Int.fdiv x y := fdiv_same (by have := L.pos; omega) hy L.same
theorem Low.ceil {x y p q : Int} (L : Low x y p q) (hy : y ≠ 0) : Int.fdiv (-p) q = Int.fdiv (-x) y := fdiv_same (by have := L.pos; omega) hy (by have := L.same; grind)
theorem Low.round {x y p q : Int} (L : Low x y p q) (hy : y ≠ 0) : Int.fdiv (2 * p + q) (2 * q) = Int.fdiv (2 * x + y) (2 * y) := fdiv_same (by have := L.pos; omega) (by omega) (by have := L.same; grind)
theorem Low.neg {x y p q : Int} (L : Low x y p q) : (-p) * y = q * (-x) := by have := L.same; grind
theorem Low.neg_low {x y p q : Int} (L : Low x y p q) : Int.gcd (-p) q = 1 := by rw [Int.neg_gcd]; exact L.low
theorem Low.abs {x y p q : Int} (L : Low x y p q) : (if p < 0 then -p else p) * (if y < 0 then -y else y) = q * (if x < 0 then -x else x) := by
  have h1 := L.same
  have h2 := L.pos
  have h3 : (((p * y).natAbs : Nat) : Int) = ((q * x).natAbs : Nat) := by rw [h1]
  rw [Int.natAbs_mul, Int.natAbs_mul] at h3
  have e : ∀ z : Int, (if z < 0 then -z else z) = (z.natAbs : Int) := fun z => by split <;> omega
  rw [e, e, e]
  have e2 : q = (q.natAbs : Int) := by omega
  rw [e2]
  simpa using h3
theorem Low.abs_low {x y p q : Int} (L : Low x y p q) : Int.gcd (if p < 0 then -p else p) q = 1 := by
  split
  · rw [Int.neg_gcd]; exact L.low
  · exact L.low
theorem Bt.ite {n : Nat} {x : Int} (h : Bt n x) : Bt n (if x < 0 then -x else x) := by
  split
  · exact h.neg
  · exact h
end Mine
namespace Mine
theorem rst_B12 : True := by
  w_top off
  trivial
end Mine
set_option maxRecDepth 100000
namespace Mine
open PySem PySem.W PyProof.Rows PySem.Spec PySem.Calls
local macro_rules | `(tactic| walk_at "exec For Tuple BinOp cons nil") => `(tactic| (k_here; (rename Fr _ _ _ _ => lF'); (with_unfolding_all refine' For_turns lF' ?_); k_whole))
local macro_rules | `(tactic| walk_at "call ref") => `(tactic| (k_here; k_extra "mycall"))
local macro_rules | `(tactic| walk_at "binaryOp FloorDiv int int") => `(tactic| (k_here; k_extra "mydiv"))
local macro_rules | `(tactic| walk_at "binaryOp Mod int int") => `(tactic| (k_here; k_extra "mymod"))
local macro_rules | `(tactic| walk_at "binaryOp Mult int int") => `(tactic| (k_here; k_extra "mymul"))
local macro_rules | `(tactic| walk_at "setAttr ref") => `(tactic| (k_here; k_extra "mysetattr"))
local macro_rules | `(tactic| walk_at "leaving ref") => `(tactic| (k_here; k_extra "myleave"))
local macro_rules | `(tactic| walk_at "exec Raise some none") => `(tactic| (k_here; k_extra "myraise"))
set_option maxHeartbeats 8000000 in
theorem c_sums (w : World) (mean : ExcName → Option Value) (mg mb : Str → Option Value) (src a b p q : Addr) (x y ax ay bx bz px py qx qy : Int) (t u t1 t2 t3 t4 t5 t6 t7 t8 : Tok) (hda : DB ax ay) (hdb : DB bx bz) (hA : Low ax ay px py) (hB : Low bx bz qx qy) (b1 : Bt 64 px) (b2 : Bt 64 py) (b3 : Bt 64 qx) (b4 : Bt 64 qy) :
  ∀ (dp un : Nat) (gd : Option (List Code)) (cn : Str) (cs : Scope) (fa : Addr) (ccd : Value) (A₀ : Around) (h₀ : Heap) (L : Addr) (m : Str → Option Value) (s : Shared) (Q E : Value → Shared → Prop),
    Below A₀ h₀ [] h₀ → Fr h₀ L s.heap m → (Mine.hpK w.params).In h₀ → News h₀ L s.heap [(a, tupO ax ay t1 t2), (b, tupO bx bz t3 t4), (p, tupO px py t5 t6), (q, tupO qx qy t7 t8), (src, srcO x y t u)] → Top Mine.vwV (looseW Mine.vwV [Str.ofString "fraction", Str.ofString "write_decimal"]) mean mg mb h₀ → cs.kind = .function →
    dp + 140 < recursionLimit → un + 8 * 140 < cLine →
    (∀ h' tk', Fr h₀ L h' m → News h₀ L h' [(a, tupO ax ay t1 t2), (b, tupO bx bz t3 t4), (p, tupO px py t5 t6), (q, tupO qx qy t7 t8), (src, srcO x y t u)] → KO h₀ L [(a, tupO ax ay t1 t2), (b, tupO bx bz t3 t4), (p, tupO px py t5 t6), (q, tupO qx qy t7 t8), (src, srcO x y t u)] s.heap h' → Q (.bool true) { s with heap := h', toks := tk' }) →
    wpAny (model PySem.Challenge.rw_nu0015_01.row.prog w) (ktrTop dp un gd cn cs L fa ccd [] []) (call (.ref 272) [.ref a, .ref b, .ref p, .ref q]) Q E s := by
  k_fill
  k_with_none
  k_with "mycall" => ((with_reducible show wpAny _ _ (call (Value.ref 68) _) _ _ _); (k_dflt (refine' (c_plus w mean mg mb _ _ _ _ _ _ _ _ _ _ ?z1 ?z2 ?z3 ?z4 ?z5).useT ?k1 ?k2 ?k3 ?k4 ?k5 ?kK ?ks ?kd ?ku ?_; (case k1 => k_asm); (case k2 => k_asm); (case k3 => k_asm); (case k4 => k_asm); (case k5 => k_asm); (case kK => first | exact rfl | assumption); (case ks => (repeat' (first | exact List.forall_mem_nil _ | (refine List.forall_mem_cons.mpr ⟨by k_mem, ?_⟩)))); (case z1 => assumption); (case z2 => assumption); (case z3 => assumption); (case z4 => assumption); (case z5 => assumption); (case kd => ktr_room); (case ku => ktr_units))); intro a9 t9 u9 h9 tk9 F9 N9 ne9; (try simp only [NeAll, and_true] at ne9); (try dsimp only); (try k_sweep); (try k_fold))
  k_with "mycall" => ((with_reducible show wpAny _ _ (call (Value.ref 75) _) _ _ _); (k_dflt (refine' (c_minus w mean mg mb _ _ _ _ _ _ _ _ _ _ ?z1 ?z2 ?z3 ?z4 ?z5).useT ?k1 ?k2 ?k3 ?k4 ?k5 ?kK ?ks ?kd ?ku ?_; (case k1 => k_asm); (case k2 => k_asm); (case k3 => k_asm); (case k4 => k_asm); (case k5 => k_asm); (case kK => first | exact rfl | assumption); (case ks => (repeat' (first | exact List.forall_mem_nil _ | (refine List.forall_mem_cons.mpr ⟨by k_mem, ?_⟩)))); (case z1 => assumption); (case z2 => assumption); (case z3 => assumption); (case z4 => assumption); (case z5 => assumption); (case kd => ktr_room); (case ku => ktr_units))); intro a9 t9 u9 h9 tk9 F9 N9 ne9; (try simp only [NeAll, and_true] at ne9); (try dsimp only); (try k_sweep); (try k_fold))
  k_with "mycall" => ((with_reducible show wpAny _ _ (call (Value.ref 82) _) _ _ _); (k_dflt (refine' (c_times w mean mg mb _ _ _ _ _ _ _ _ _ _ ?z1 ?z2 ?z3 ?z4 ?z5).useT ?k1 ?k2 ?k3 ?k4 ?k5 ?kK ?ks ?kd ?ku ?_; (case k1 => k_asm); (case k2 => k_asm); (case k3 => k_asm); (case k4 => k_asm); (case k5 => k_asm); (case kK => first | exact rfl | assumption); (case ks => (repeat' (first | exact List.forall_mem_nil _ | (refine List.forall_mem_cons.mpr ⟨by k_mem, ?_⟩)))); (case z1 => assumption); (case z2 => assumption); (case z3 => assumption); (case z4 => assumption); (case z5 => assumption); (case kd => ktr_room); (case ku => ktr_units))); intro a9 t9 u9 h9 tk9 F9 N9 ne9; (try simp only [NeAll, and_true] at ne9); (try dsimp only); (try k_sweep); (try k_fold))
  k_with "mycall" => ((with_reducible show wpAny _ _ (call (Value.ref 89) _) _ _ _); (k_dflt (refine' (c_div w mean mg mb _ _ _ _ _ _ _ _ _ _ ?z1 ?z2 ?z3 ?z4 ?z6 ?z5).useT ?k1 ?k2 ?k3 ?k4 ?k5 ?kK ?ks ?kd ?ku ?_; (case k1 => k_asm); (case k2 => k_asm); (case k3 => k_asm); (case k4 => k_asm); (case k5 => k_asm); (case kK => first | exact rfl | assumption); (case ks => (repeat' (first | exact List.forall_mem_nil _ | (refine List.forall_mem_cons.mpr ⟨by k_mem, ?_⟩)))); (case z1 => assumption); (case z2 => assumption); (case z3 => assumption); (case z4 => assumption); (case z6 => exact zq (by assumption)); (case z5 => exact zpq (by assumption)); (case kd => ktr_room); (case ku => ktr_units))); intro a9 t9 u9 h9 tk9 F9 N9 ne9; (try simp only [NeAll, and_true] at ne9); (try dsimp only); (try k_sweep); (try k_fold))
  k_with "mycall" => ((with_reducible show wpAny _ _ (call (Value.ref 258) _) _ _ _); (k_dflt (refine' (c_same w mean mg mb _ _ _ _ _ _ _ _ _ ?z1 ?z2 ?z3 ?z4 ?z5 ?z6 ?z7).useB ?k1 ?k2 ?k3 ?k4 ?k5 ?kK ?ks ?kd ?ku ?_; (case k1 => k_asm); (case k2 => k_asm); (case k3 => k_asm); (case k4 => k_asm); (case k5 => k_asm); (case kK => first | exact rfl | assumption); (case ks => (repeat' (first | exact List.forall_mem_nil _ | (refine List.forall_mem_cons.mpr ⟨by k_mem, ?_⟩)))); (case z1 => first | assumption | exact L3a (by assumption) | exact L3b (by assumption) | exact L3c (by assumption)); (case z2 => first | assumption | exact L3a (by assumption) | exact L3b (by assumption) | exact L3c (by assumption)); (case z3 => first | assumption | exact L3a (by assumption) | exact L3b (by assumption) | exact L3c (by assumption)); (case z4 => first | assumption | exact L3a (by assumption) | exact L3b (by assumption) | exact L3c (by assumption)); (case z5 => first | assumption | exact L3a (by assumption) | exact L3b (by assumption) | exact L3c (by assumption)); (case z6 => first | assumption | exact L3a (by assumption) | exact L3b (by assumption) | exact L3c (by assumption)); (case z7 => first | assumption | exact L3a (by assumption) | exact L3b (by assumption) | exact L3c (by assumption)); (case kd => ktr_room); (case ku => ktr_units))); intro h9 tk9 F9 N9; (try dsimp only); (try k_sweep); (try k_fold))
  k_with "mycall" => ((with_reducible show wpAny _ _ (call (Value.ref 89) _) _ _ _); (k_dflt (refine' (c_div_r w mean mg mb _ _ _ _ _ _ ?hp _ ?hm) _ _ _ _ _ _ _ _ _ _ _ _ _ _ _ _ _ ?k1 ?k2 ?k3 ?k4 ?k5 ?kK ?kd ?ku ?_; (case k1 => k_asm); (case k2 => k_asm); (case k3 => k_asm); (case k4 => k_asm); (case k5 => k_asm); (case kK => first | exact rfl | assumption); (case hp => exact zq0 (by omega)); (case hm => k_mem); (case kd => ktr_room); (case ku => ktr_units))); intro e9 t9 h9 tk9 g9 v9 G9 R9 U9; (try dsimp only))
  intro dp un gd cn cs fa ccd A₀ h₀ L m s Q E B F X N T hck hdp hun hret
  have hay := hda.2.2.2.2
  have hbz := hdb.2.2.2.2
  have ba : Bt 64 ax := Bt.of (by unfold DB at hda; omega) (by unfold DB at hda; omega)
  have bb : Bt 64 ay := Bt.of (by unfold DB at hda; omega) (by unfold DB at hda; omega)
  have bc : Bt 64 bx := Bt.of (by unfold DB at hdb; omega) (by unfold DB at hdb; omega)
  have bd : Bt 64 bz := Bt.of (by unfold DB at hdb; omega) (by unfold DB at hdb; omega)
  have s1 := b1.sz
  have s2 := b2.sz
  have s3 := b3.sz
  have s4 := b4.sz
  have hp1 := hA.pos
  have hp2 := hB.pos
  have hpq : py * qy ≠ 0 := Int.mul_ne_zero (by omega) (by omega)
  have zq : bx ≠ 0 → qx ≠ 0 := fun h e => h ((low_zero hB hbz).mp e)
  have zq0 : bx = 0 → qx = 0 := fun h => (low_zero hB hbz).mpr h
  have zpq : bx ≠ 0 → py * qx ≠ 0 := fun h => Int.mul_ne_zero (by omega) (zq h)
  have L0 := fr_low (x := (px * qy + qx * py)) hpq
  have L0a := L0.pos
  have L0b := L0.via hpq (low_plus hA hB)
  have L0c := L0.low
  have L0d : Sz (frT (px * qy + qx * py) (py * qy)) := (Bt.frT ((b1.mul b4).add (b3.mul b2))).sz
  have L0e : Sz (frB (px * qy + qx * py) (py * qy)) := (Bt.frB (b2.mul b4)).sz
  have L0f : Sz (ax * bz + bx * ay) := ((ba.mul bd).add (bc.mul bb)).sz
  have L1 := fr_low (x := (px * qy - qx * py)) hpq
  have L1a := L1.pos
  have L1b := L1.via hpq (low_minus hA hB)
  have L1c := L1.low
  have L1d : Sz (frT (px * qy - qx * py) (py * qy)) := (Bt.frT ((b1.mul b4).sub (b3.mul b2))).sz
  have L1e : Sz (frB (px * qy - qx * py) (py * qy)) := (Bt.frB (b2.mul b4)).sz
  have L1f : Sz (ax * bz - bx * ay) := ((ba.mul bd).sub (bc.mul bb)).sz
  have L2 := fr_low (x := (px * qx)) hpq
  have L2a := L2.pos
  have L2b := L2.via hpq (low_times hA hB)
  have L2c := L2.low
  have L2d : Sz (frT (px * qx) (py * qy)) := (Bt.frT (b1.mul b3)).sz
  have L2e : Sz (frB (px * qx) (py * qy)) := (Bt.frB (b2.mul b4)).sz
  have L2f : Sz (ax * bx) := (ba.mul bc).sz
  have hs1 : Sz (ay * bz) := (bb.mul bd).sz
  have hs2 : Sz (ax * bz) := (ba.mul bd).sz
  have hs3 : Sz (ay * bx) := (bb.mul bc).sz
  have L3d : Sz (frT (px * qy) (py * qx)) := (Bt.frT (b1.mul b4)).sz
  have L3e : Sz (frB (px * qy) (py * qx)) := (Bt.frB (b2.mul b3)).sz
  have o1 := mulok (ba.sz) (bd.sz)
  have o2 := mulok (bc.sz) (bb.sz)
  have o3 := mulok (bb.sz) (bd.sz)
  have o4 := mulok (ba.sz) (bc.sz)
  have o5 := mulok (bb.sz) (bc.sz)
  have L3a : bx ≠ 0 → 1 ≤ frB (px * qy) (py * qx) := fun h => (fr_low (x := px * qy) (zpq h)).pos
  have L3b : bx ≠ 0 → frT (px * qy) (py * qx) * (ay * bx) = frB (px * qy) (py * qx) * (ax * bz) := fun h => (fr_low (x := px * qy) (zpq h)).via (zpq h) (low_div hA hB)
  have L3c : bx ≠ 0 → Int.gcd (frT (px * qy) (py * qx)) (frB (px * qy) (py * qx)) = 1 := fun h => (fr_low (x := px * qy) (zpq h)).low
  refine wpAny_call ?_
  k_dflt (refine' st_enter ?k1 ?k2 ?k3 ?k4 ?k5 ?kA ?k6 ?k7 ?k8 ?k9 ?kB ?_ ?cK ?c2 ?c3 ?c4 ?c5; (case kA => exact rfl); (case k2 => k_asm); (case k1 => k_asm); (case k3 => k_asm); (case k4 => k_asm); (case k5 => k_asm); (case k6 => k_is); (case k7 => k_is); (case k8 => ktr_room); (case k9 => exact BindsTo.of_eq rfl); (case kB => exact locs rfl); (case cK => assumption); (case c2 => exact rfl); (case c3 => exact rfl); (case c4 => exact rfl); (case c5 => decide))
  intro g' L' h' FG' F' N' B' X' T' D'
  (try dsimp only); (try k_lift B'); (try k_fold)
  k_steps
  all_goals first
    | (exfalso; omega)
    | exact hret _ _ (by assumption) (cb_drop (by assumption) (by (repeat' (first | exact List.forall_mem_nil _ | (refine List.forall_mem_cons.mpr ⟨by k_mem, ?_⟩))))) (by assumption)
end Mine
namespace Mine
theorem rst_B13 : True := by
  w_top off
  trivial
end Mine
set_option maxRecDepth 100000
namespace Mine
open PySem PySem.W PyProof.Rows PySem.Spec PySem.Calls
local macro_rules | `(tactic| walk_at "exec For Tuple BinOp cons nil") => `(tactic| (k_here; (rename Fr _ _ _ _ => lF'); (with_unfolding_all refine' For_turns lF' ?_); k_whole))
local macro_rules | `(tactic| walk_at "call ref") => `(tactic| (k_here; k_extra "mycall"))
local macro_rules | `(tactic| walk_at "binaryOp FloorDiv int int") => `(tactic| (k_here; k_extra "mydiv"))
local macro_rules | `(tactic| walk_at "binaryOp Mod int int") => `(tactic| (k_here; k_extra "mymod"))
local macro_rules | `(tactic| walk_at "binaryOp Mult int int") => `(tactic| (k_here; k_extra "mymul"))
local macro_rules | `(tactic| walk_at "setAttr ref") => `(tactic| (k_here; k_extra "mysetattr"))
local macro_rules | `(tactic| walk_at "leaving ref") => `(tactic| (k_here; k_extra "myleave"))
local macro_rules | `(tactic| walk_at "exec Raise some none") => `(tactic| (k_here; k_extra "myraise"))
local macro_rules | `(tactic| walk_at "eval IfExp") => `(tactic| (k_here; k_extra "myif"))
section
variable {M : Model} {A : Around} {c : Sem Value} {Q E : Value → Shared → Prop} {s : Shared}
/-- the two arms of an «if» that gives an int meet again -/
def MeetI (R : Int → Prop) (s : Shared) (v : Value) (s' : Shared) : Prop := ∃ n t tk, v = .int n t ∧ R n ∧ s' = { s with toks := tk }
theorem cut_int (R : Int → Prop) (h : wpAny M A c (MeetI R s) E s) (k : ∀ n t tk, R n → Q (.int n t) { s with toks := tk }) : wpAny M A c Q E s :=
  wpAny_mono h (fun v s' x => by obtain ⟨n, t, tk, rfl, hr, rfl⟩ := x; exact k n t tk hr) (fun _ _ x => x)
end

section
variable {w : World} {mean : ExcName → Option Value} {mg mb : Str → Option Value} {f : Addr} {k : Nat} {vs : List Value} {led : List (Addr × Obj)}
  {dp un : Nat} {gd : Option (List Code)} {cn : Str} {cs : Scope} {a : Addr} {ccd : Value} {cl : List (Str × Addr)} {outer : List Env} {A₀ : Around} {base h₀ : Heap} {L : Addr} {m : Str → Option Value} {s : Shared} {Q E : Value → Shared → Prop} {big : List (Addr × Obj)}
theorem Sp.useRy {c : Prop} [Decidable c] {p q : Addr} (S : Sp w mean mg mb f k vs led [] (fun _ _ r => r = .ref (if c then q else p))) (B : Below A₀ base outer h₀) (F : Fr h₀ L s.heap m) (X : (Mine.hpK w.params).In h₀) (N : News h₀ L s.heap big)
    (T : Top Mine.vwV (looseW Mine.vwV [Str.ofString "fraction", Str.ofString "write_decimal"]) mean mg mb h₀) (hk : cs.kind = .function) (hs : ∀ p ∈ led, p ∈ big)
    (hd : dp + k < recursionLimit) (hu : un + 8 * k < cLine) (hc : c)
    (ret : ∀ h' tk', Fr h₀ L h' m → News h₀ L h' big → Q (.ref q) { s with heap := h', toks := tk' }) : wpAny (model PySem.Challenge.rw_nu0015_01.row.prog w) (ktrTop dp un gd cn cs L a ccd cl outer) (call (.ref f) vs) Q E s :=
  S.use B F X N T hk hs hd hu (fun v h' tk' F' K' ho => by
    rw [if_pos hc] at ho
    subst ho
    exact ret h' tk' F' (K'.news N))
theorem Sp.useRn {c : Prop} [Decidable c] {p q : Addr} (S : Sp w mean mg mb f k vs led [] (fun _ _ r => r = .ref (if c then q else p))) (B : Below A₀ base outer h₀) (F : Fr h₀ L s.heap m) (X : (Mine.hpK w.params).In h₀) (N : News h₀ L s.heap big)
    (T : Top Mine.vwV (looseW Mine.vwV [Str.ofString "fraction", Str.ofString "write_decimal"]) mean mg mb h₀) (hk : cs.kind = .function) (hs : ∀ p ∈ led, p ∈ big)
    (hd : dp + k < recursionLimit) (hu : un + 8 * k < cLine) (hc : ¬ c)
    (ret : ∀ h' tk', Fr h₀ L h' m → News h₀ L h' big → Q (.ref p) { s with heap := h', toks := tk' }) : wpAny (model PySem.Challenge.rw_nu0015_01.row.prog w) (ktrTop dp un gd cn cs L a ccd cl outer) (call (.ref f) vs) Q E s :=
  S.use B F X N T hk hs hd hu (fun v h' tk' F' K' ho => by
    rw [if_neg hc] at ho
    subst ho
    exact ret h' tk' F' (K'.news N))
end
set_option maxHeartbeats 8000000 in
theorem c_order (w : World) (mean : ExcName → Option Value) (mg mb : Str → Option Value) (a b p q : Addr) (ax ay bx bz px py qx qy : Int) (t1 t2 t3 t4 t5 t6 t7 t8 : Tok) (hda : DB ax ay) (hdb : DB bx bz) (hA : Low ax ay px py) (hB : Low bx bz qx qy) (b1 : Bt 64 px) (b2 : Bt 64 py) (b3 : Bt 64 qx) (b4 : Bt 64 qy) :
  Sp w mean mg mb 279 118 [.ref a, .ref b, .ref p, .ref q] [(a, tupO ax ay t1 t2), (b, tupO bx bz t3 t4), (p, tupO px py t5 t6), (q, tupO qx qy t7 t8)] [] (fun _ _ r => r = .bool true) := by
  unfold Sp
  k_fill
  k_with_none
  k_with "myif" => ((with_reducible show wpAny _ _ (eval (Expr.IfExp _ (Expr.Constant _ _ _) (Expr.UnaryOp _ _ _) _) _) _ _ _); (k_dflt ((refine cut_int (fun f => (0 < ay * bz ∧ f = 1) ∨ (¬ 0 < ay * bz ∧ f = -1)) ?_ ?_) <;> first | (refine wpAny_IfExp ?_) | (intro f9 t9 tk9 hsf; (try dsimp only)))))
  k_with "myif" => ((with_reducible show wpAny _ _ (eval (Expr.IfExp _ (Expr.Constant _ _ _) (Expr.IfExp _ _ _ _) _) _) _ _ _); (k_dflt ((refine cut_int (fun f => (0 < px * qy - qx * py ∧ f = 1) ∨ (px * qy - qx * py < 0 ∧ f = -1) ∨ (px * qy - qx * py = 0 ∧ f = 0)) ?_ ?_) <;> first | (refine wpAny_IfExp ?_) | (intro due9 t9 tk9 hdu; (try dsimp only)))))
  k_with "mymul" => ((with_reducible show wpAny _ _ (binaryOp Operator.Mult (Value.int (_ - _) _) (Value.int _ _)) _ _ _); (k_dflt (refine' mul_int ?_ ?hm; (case hm => exact o4 _ hsf))); (try dsimp only))
  k_with "mycall" => ((with_reducible show wpAny _ _ (call (Value.ref 117) _) _ _ _); (k_dflt (refine' (c_cmp w mean mg mb _ _ _ _ _ _ _ _ _ _ ?z1 ?z2 ?z3 ?z4).useI ?k1 ?k2 ?k3 ?k4 ?k5 ?kK ?ks ?kd ?ku ?_; (case k1 => k_asm); (case k2 => k_asm); (case k3 => k_asm); (case k4 => k_asm); (case k5 => k_asm); (case kK => first | exact rfl | assumption); (case ks => (repeat' (first | exact List.forall_mem_nil _ | (refine List.forall_mem_cons.mpr ⟨by k_mem, ?_⟩)))); (case z1 => assumption); (case z2 => assumption); (case z3 => assumption); (case z4 => assumption); (case kd => ktr_room); (case ku => ktr_units))); intro t9 h9 tk9 F9 N9; (try dsimp only); (try k_sweep); (try k_fold))
  k_with "mycall" => ((with_reducible show wpAny _ _ (call (Value.ref 124) _) _ _ _); (k_dflt (refine' (c_least w mean mg mb _ _ _ _ _ _ _ _ _ _ _ ?z1 ?z2 ?z3 ?z4).useRy ?k1 ?k2 ?k3 ?k4 ?k5 ?kK ?ks ?kd ?ku ?hc ?_; (case k1 => k_asm); (case k2 => k_asm); (case k3 => k_asm); (case k4 => k_asm); (case k5 => k_asm); (case kK => first | exact rfl | assumption); (case ks => (repeat' (first | exact List.forall_mem_nil _ | (refine List.forall_mem_cons.mpr ⟨by k_mem, ?_⟩)))); (case z1 => assumption); (case z2 => assumption); (case z3 => assumption); (case z4 => assumption); (case hc => omega); (case kd => ktr_room); (case ku => ktr_units))); intro h9 tk9 F9 N9; (try dsimp only); (try k_sweep); (try k_fold))
  k_with "mycall" => ((with_reducible show wpAny _ _ (call (Value.ref 124) _) _ _ _); (k_dflt (refine' (c_least w mean mg mb _ _ _ _ _ _ _ _ _ _ _ ?z1 ?z2 ?z3 ?z4).useRn ?k1 ?k2 ?k3 ?k4 ?k5 ?kK ?ks ?kd ?ku ?hc ?_; (case k1 => k_asm); (case k2 => k_asm); (case k3 => k_asm); (case k4 => k_asm); (case k5 => k_asm); (case kK => first | exact rfl | assumption); (case ks => (repeat' (first | exact List.forall_mem_nil _ | (refine List.forall_mem_cons.mpr ⟨by k_mem, ?_⟩)))); (case z1 => assumption); (case z2 => assumption); (case z3 => assumption); (case z4 => assumption); (case hc => omega); (case kd => ktr_room); (case ku => ktr_units))); intro h9 tk9 F9 N9; (try dsimp only); (try k_sweep); (try k_fold))
  k_with "mycall" => ((with_reducible show wpAny _ _ (call (Value.ref 131) _) _ _ _); (k_dflt (refine' (c_greatest w mean mg mb _ _ _ _ _ _ _ _ _ _ _ ?z1 ?z2 ?z3 ?z4).useRy ?k1 ?k2 ?k3 ?k4 ?k5 ?kK ?ks ?kd ?ku ?hc ?_; (case k1 => k_asm); (case k2 => k_asm); (case k3 => k_asm); (case k4 => k_asm); (case k5 => k_asm); (case kK => first | exact rfl | assumption); (case ks => (repeat' (first | exact List.forall_mem_nil _ | (refine List.forall_mem_cons.mpr ⟨by k_mem, ?_⟩)))); (case z1 => assumption); (case z2 => assumption); (case z3 => assumption); (case z4 => assumption); (case hc => omega); (case kd => ktr_room); (case ku => ktr_units))); intro h9 tk9 F9 N9; (try dsimp only); (try k_sweep); (try k_fold))
  k_with "mycall" => ((with_reducible show wpAny _ _ (call (Value.ref 131) _) _ _ _); (k_dflt (refine' (c_greatest w mean mg mb _ _ _ _ _ _ _ _ _ _ _ ?z1 ?z2 ?z3 ?z4).useRn ?k1 ?k2 ?k3 ?k4 ?k5 ?kK ?ks ?kd ?ku ?hc ?_; (case k1 => k_asm); (case k2 => k_asm); (case k3 => k_asm); (case k4 => k_asm); (case k5 => k_asm); (case kK => first | exact rfl | assumption); (case ks => (repeat' (first | exact List.forall_mem_nil _ | (refine List.forall_mem_cons.mpr ⟨by k_mem, ?_⟩)))); (case z1 => assumption); (case z2 => assumption); (case z3 => assumption); (case z4 => assumption); (case hc => omega); (case kd => ktr_room); (case ku => ktr_units))); intro h9 tk9 F9 N9; (try dsimp only); (try k_sweep); (try k_fold))
  k_with "mycall" => ((with_reducible show wpAny _ _ (call (Value.ref 131) _) _ _ _); (k_dflt (refine hdu.elim ?_ ?_ <;> (clear hdu; intro hdu; (try (exfalso; omega))))))
  intro dp un gd cn cs fa ccd cl outer A₀ base h₀ L m s Q E B F X N T hck hdp hun hret
  have ba : Bt 64 ax := Bt.of (by unfold DB at hda; omega) (by unfold DB at hda; omega)
  have bb : Bt 64 ay := Bt.of (by unfold DB at hda; omega) (by unfold DB at hda; omega)
  have bc : Bt 64 bx := Bt.of (by unfold DB at hdb; omega) (by unfold DB at hdb; omega)
  have bd : Bt 64 bz := Bt.of (by unfold DB at hdb; omega) (by unfold DB at hdb; omega)
  have s1 := b1.sz
  have s2 := b2.sz
  have s3 := b3.sz
  have s4 := b4.sz
  have o1 := mulok (ba.sz) (bd.sz)
  have o2 := mulok (bc.sz) (bb.sz)
  have o3 := mulok (bb.sz) (bd.sz)
  have hp1 := hA.pos
  have hp2 := hB.pos
  have hP : ay * bz ≠ 0 := Int.mul_ne_zero hda.2.2.2.2 hdb.2.2.2.2
  have hss := sign_same (low_minus hA hB) (Int.mul_pos (by omega) (by omega))
  have g1 := sgn_of (px * qy - qx * py)
  have g2 := sgn_of (qx * py - px * qy)
  have o4 : ∀ f : Int, ((0 < ay * bz ∧ f = 1) ∨ (¬ 0 < ay * bz ∧ f = -1)) → IntMulOk (ax * bz - bx * ay) f := fun f h => mulok ((ba.mul bd).sub (bc.mul bb)).sz (by rcases h with ⟨_, rfl⟩ | ⟨_, rfl⟩ <;> exact (Bt.of (by decide) (by decide)).sz)
  have heq := low_eq hA.pos hB.pos hA.low hB.low
  k_dflt (refine' sp_enter B F X N T hck hret ?k6 ?k7 ?k8 ?k9 ?kB ?_ ?c2 ?c3 ?c4 ?c5; (case k6 => k_is); (case k7 => k_is); (case k8 => omega); (case k9 => first | exact BindsTo.of_eq rfl | exact binds_K (by k_in) rfl (by k_is) rfl rfl rfl); (case c5 => decide); (case kB => exact locs rfl); (case c2 => exact rfl); (case c3 => exact rfl); (case c4 => exact rfl))
  intro g' L' h' FG' F' N' B' X' T' GS'
  (try dsimp only); (try k_fold)
  k_steps
  all_goals first
    | (exfalso; omega)
    | exact ⟨_, _, _, rfl, by omega, rfl⟩
    | (refine ⟨_, _, _, rfl, ?_, rfl⟩; rcases hsf with ⟨h1, h2⟩ | ⟨h1, h2⟩ <;> subst h2 <;> omega)
    | exact endB (by assumption) (by assumption) (by (repeat' (first | exact List.forall_mem_nil _ | (refine List.forall_mem_cons.mpr ⟨by k_mem, ?_⟩)))) (by first | rfl | (simp; done) | (simp; omega))
end Mine
namespace Mine
theorem rst_B14 : True := by
  w_top off
  trivial
end Mine
set_option maxRecDepth 100000
namespace Mine
open PySem PySem.W PyProof.Rows PySem.Spec PySem.Calls
local macro_rules | `(tactic| walk_at "exec For Tuple BinOp cons nil") => `(tactic| (k_here; (rename Fr _ _ _ _ => lF'); (with_unfolding_all refine' For_turns lF' ?_); k_whole))
local macro_rules | `(tactic| walk_at "call ref") => `(tactic| (k_here; k_extra "mycall"))
local macro_rules | `(tactic| walk_at "binaryOp FloorDiv int int") => `(tactic| (k_here; k_extra "mydiv"))
local macro_rules | `(tactic| walk_at "binaryOp Mod int int") => `(tactic| (k_here; k_extra "mymod"))
local macro_rules | `(tactic| walk_at "binaryOp Mult int int") => `(tactic| (k_here; k_extra "mymul"))
local macro_rules | `(tactic| walk_at "setAttr ref") => `(tactic| (k_here; k_extra "mysetattr"))
local macro_rules | `(tactic| walk_at "leaving ref") => `(tactic| (k_here; k_extra "myleave"))
local macro_rules | `(tactic| walk_at "exec Raise some none") => `(tactic| (k_here; k_extra "myraise"))
set_option maxHeartbeats 8000000 in
theorem c_whole (w : World) (mean : ExcName → Option Value) (mg mb : Str → Option Value) (a p : Addr) (ax ay px py : Int) (t1 t2 t5 t6 : Tok) (hda : DB ax ay) (hA : Low ax ay px py) (b1 : Bt 64 px) (b2 : Bt 64 py) :
  Sp w mean mg mb 286 118 [.ref a, .ref p] [(a, tupO ax ay t1 t2), (p, tupO px py t5 t6)] [] (fun _ _ r => r = .bool true) := by
  unfold Sp
  k_fill
  k_with_none
  k_with "mydiv" => (k_dflt (refine' floordiv_int ?kne ?_ (Or.inr (PySem.PylongRoom.of ?knl ?kdp)); (case kne => first | assumption | omega); (case knl => exact Heap.NoLimit.keeps (PyProof.Rows.Top.nolimit (by assumption)) (Fr.keep (by assumption))); (case kdp => ((try simp only [depth_deeper]); (try dsimp only [ktrTop]); (simp only [Builtin.pylongFrames]); omega))))
  k_with "mycall" => ((with_reducible show wpAny _ _ (call (Value.ref 138) _) _ _ _); (k_dflt (refine' (c_floor w mean mg mb _ _ _ _ _ ?z1).useI ?k1 ?k2 ?k3 ?k4 ?k5 ?kK ?ks ?kd ?ku ?_; (case k1 => k_asm); (case k2 => k_asm); (case k3 => k_asm); (case k4 => k_asm); (case k5 => k_asm); (case kK => first | exact rfl | assumption); (case ks => (repeat' (first | exact List.forall_mem_nil _ | (refine List.forall_mem_cons.mpr ⟨by k_mem, ?_⟩)))); (case z1 => omega); (case kd => ktr_room); (case ku => ktr_units))); intro t9 h9 tk9 F9 N9; (try dsimp only); (try k_sweep); (try k_fold))
  k_with "mycall" => ((with_reducible show wpAny _ _ (call (Value.ref 145) _) _ _ _); (k_dflt (refine' (c_ceil w mean mg mb _ _ _ _ _ ?z1).useI ?k1 ?k2 ?k3 ?k4 ?k5 ?kK ?ks ?kd ?ku ?_; (case k1 => k_asm); (case k2 => k_asm); (case k3 => k_asm); (case k4 => k_asm); (case k5 => k_asm); (case kK => first | exact rfl | assumption); (case ks => (repeat' (first | exact List.forall_mem_nil _ | (refine List.forall_mem_cons.mpr ⟨by k_mem, ?_⟩)))); (case z1 => omega); (case kd => ktr_room); (case ku => ktr_units))); intro t9 h9 tk9 F9 N9; (try dsimp only); (try k_sweep); (try k_fold))
  k_with "mycall" => ((with_reducible show wpAny _ _ (call (Value.ref 152) _) _ _ _); (k_dflt (refine' (c_round w mean mg mb _ _ _ _ _ ?z1).useI ?k1 ?k2 ?k3 ?k4 ?k5 ?kK ?ks ?kd ?ku ?_; (case k1 => k_asm); (case k2 => k_asm); (case k3 => k_asm); (case k4 => k_asm); (case k5 => k_asm); (case kK => first | exact rfl | assumption); (case ks => (repeat' (first | exact List.forall_mem_nil _ | (refine List.forall_mem_cons.mpr ⟨by k_mem, ?_⟩)))); (case z1 => omega); (case kd => ktr_room); (case ku => ktr_units))); intro t9 h9 tk9 F9 N9; (try dsimp only); (try k_sweep); (try k_fold))
  k_with "mycall" => ((with_reducible show wpAny _ _ (call (Value.ref 96) _) _ _ _); (k_dflt (refine' (c_neg w mean mg mb _ _ _ _ _).useT ?k1 ?k2 ?k3 ?k4 ?k5 ?kK ?ks ?kd ?ku ?_; (case k1 => k_asm); (case k2 => k_asm); (case k3 => k_asm); (case k4 => k_asm); (case k5 => k_asm); (case kK => first | exact rfl | assumption); (case ks => (repeat' (first | exact List.forall_mem_nil _ | (refine List.forall_mem_cons.mpr ⟨by k_mem, ?_⟩)))); (case kd => ktr_room); (case ku => ktr_units))); intro a9 t9 u9 h9 tk9 F9 N9 ne9; (try simp only [NeAll, and_true] at ne9); (try dsimp only); (try k_sweep); (try k_fold))
  k_with "mycall" => ((with_reducible show wpAny _ _ (call (Value.ref 103) _) _ _ _); (k_dflt (refine' (c_abs w mean mg mb _ _ _ _ _).useT ?k1 ?k2 ?k3 ?k4 ?k5 ?kK ?ks ?kd ?ku ?_; (case k1 => k_asm); (case k2 => k_asm); (case k3 => k_asm); (case k4 => k_asm); (case k5 => k_asm); (case kK => first | exact rfl | assumption); (case ks => (repeat' (first | exact List.forall_mem_nil _ | (refine List.forall_mem_cons.mpr ⟨by k_mem, ?_⟩)))); (case kd => ktr_room); (case ku => ktr_units))); intro a9 t9 u9 h9 tk9 F9 N9 ne9; (try simp only [NeAll, and_true] at ne9); (try dsimp only); (try k_sweep); (try k_fold))
  k_with "mycall" => ((with_reducible show wpAny _ _ (call (Value.ref 258) _) _ _ _); (k_dflt (refine' (c_same w mean mg mb _ _ _ _ _ _ _ _ _ ?z1 ?z2 ?z3 ?z4 ?z5 ?z6 ?z7).useB ?k1 ?k2 ?k3 ?k4 ?k5 ?kK ?ks ?kd ?ku ?_; (case k1 => k_asm); (case k2 => k_asm); (case k3 => k_asm); (case k4 => k_asm); (case k5 => k_asm); (case kK => first | exact rfl | assumption); (case ks => (repeat' (first | exact List.forall_mem_nil _ | (refine List.forall_mem_cons.mpr ⟨by k_mem, ?_⟩)))); (case z1 => first | assumption | exact L0); (case z2 => first | assumption | exact L0); (case z3 => first | assumption | exact L0); (case z4 => first | assumption | exact L0); (case z5 => first | assumption | exact L0); (case z6 => first | assumption | exact L0); (case z7 => first | assumption | exact L0); (case kd => ktr_room); (case ku => ktr_units))); intro h9 tk9 F9 N9; (try dsimp only); (try k_sweep); (try k_fold))
  intro dp un gd cn cs fa ccd cl outer A₀ base h₀ L m s Q E B F X N T hck hdp hun hret
  have hay := hda.2.2.2.2
  have ba : Bt 64 ax := Bt.of (by unfold DB at hda; omega) (by unfold DB at hda; omega)
  have bb : Bt 64 ay := Bt.of (by unfold DB at hda; omega) (by unfold DB at hda; omega)
  have s1 := b1.sz
  have s2 := b2.sz
  have s3 : Sz (-px) := b1.neg.sz
  have s4 : Sz (if px < 0 then -px else px) := b1.ite.sz
  have s5 : Sz (-ax) := ba.neg.sz
  have s6 : Sz ay := bb.sz
  have s7 : Sz (if ax < 0 then -ax else ax) := ba.ite.sz
  have s8 : Sz (if ay < 0 then -ay else ay) := bb.ite.sz
  have hp1 := hA.pos
  have f1 := hA.floor hay
  have f2 := hA.ceil hay
  have f3 := hA.round hay
  have f4 := hA.neg
  have f5 := hA.neg_low
  have f6 := hA.abs
  have f7 := hA.abs_low
  k_dflt (refine' sp_enter B F X N T hck hret ?k6 ?k7 ?k8 ?k9 ?kB ?_ ?c2 ?c3 ?c4 ?c5; (case k6 => k_is); (case k7 => k_is); (case k8 => omega); (case k9 => first | exact BindsTo.of_eq rfl | exact binds_K (by k_in) rfl (by k_is) rfl rfl rfl); (case c5 => decide); (case kB => exact locs rfl); (case c2 => exact rfl); (case c3 => exact rfl); (case c4 => exact rfl))
  intro g' L' h' FG' F' N' B' X' T' GS'
  (try dsimp only); (try k_fold)
  k_steps
  all_goals first
    | (exfalso; omega)
    | exact endB (by assumption) (by assumption) (by (repeat' (first | exact List.forall_mem_nil _ | (refine List.forall_mem_cons.mpr ⟨by k_mem, ?_⟩)))) (by first | rfl | (simp; done) | (simp; omega))
end Mine
namespace Mine
theorem rst_B15 : True := by
  w_top off
  trivial
end Mine
set_option maxRecDepth 100000
namespace Mine
open PySem PySem.W PyProof.Rows PySem.Spec PySem.Calls
local macro_rules | `(tactic| walk_at "exec For Tuple BinOp cons nil") => `(tactic| (k_here; (rename Fr _ _ _ _ => lF'); (with_unfolding_all refine' For_turns lF' ?_); k_whole))
local macro_rules | `(tactic| walk_at "call ref") => `(tactic| (k_here; k_extra "mycall"))
local macro_rules | `(tactic| walk_at "binaryOp FloorDiv int int") => `(tactic| (k_here; k_extra "mydiv"))
local macro_rules | `(tactic| walk_at "binaryOp Mod int int") => `(tactic| (k_here; k_extra "mymod"))
local macro_rules | `(tactic| walk_at "binaryOp Mult int int") => `(tactic| (k_here; k_extra "mymul"))
local macro_rules | `(tactic| walk_at "setAttr ref") => `(tactic| (k_here; k_extra "mysetattr"))
local macro_rules | `(tactic| walk_at "leaving ref") => `(tactic| (k_here; k_extra "myleave"))
local macro_rules | `(tactic| walk_at "exec Raise some none") => `(tactic| (k_here; k_extra "myraise"))
local macro_rules | `(tactic| walk_at "subscriptTail") => `(tactic| (k_here; k_extra "mysub"))
local macro_rules | `(tactic| walk_at "compareOp In str str") => `(tactic| (k_here; k_extra "myin"))

abbrev rdO (w : World) (t : Str) (n : Int) (k1 k2 k3 k4 : Tok) : Obj := dictOf [⟨PyData.keyHash w.params "text", .str "text" k1, .str t k2⟩, ⟨PyData.keyHash w.params "at", .str "at" k3, .int n k4⟩] 2
abbrev tx (l : List Nat) : Str := ⟨l.toArray⟩
theorem tx_length (l : List Nat) : (tx l).length = l.length := by show l.toArray.size = l.length; simp
theorem tx_list (l : List Nat) : (tx l).cps.toList = l := rfl
def headIn (r sg : List Nat) : Bool := match r with
  | c :: _ => decide (c ∈ sg)
  | [] => false
theorem drop_len {l r : List Nat} {n : Nat} (h : l.drop n = r) (hn : n ≤ l.length) : l.length = n + r.length := by
  have := congrArg List.length h
  rw [List.length_drop] at this
  omega
theorem drop_head {l r : List Nat} {n c : Nat} (h : l.drop n = c :: r) : l[n]? = some c := by
  have : (l.drop n)[0]? = some c := by rw [h]; rfl
  rw [List.getElem?_drop] at this
  simpa using this
theorem item_tx {l : List Nat} {n c : Nat} (hc : l[n]? = some c) : Txt.item (tx l) (n : Int) = tx [c] := by
  have hn : n < l.length := (List.getElem?_eq_some_iff.mp hc).1
  have hlt : n < (tx l).length := by rw [tx_length]; omega
  have e1 : Txt.charAt (tx l) (n : Int) = some c := by
    unfold Txt.charAt seqIndex?
    rw [if_neg (by omega : ¬ (n : Int) < 0), if_pos (by simp; omega)]
    simpa using hc
  unfold Txt.item
  rw [e1]
  rfl
theorem my_char {prog : Program} {w : World} {A : Around} {E : Value → Shared → Prop} {s : Shared} {value slice : PySem.Expr} {l : List Nat} {n c : Nat} {i : Int} {t u : Tok} {Q : Value → Shared → Prop}
    (hc : l[n]? = some c) (hi : i = (n : Int)) (hl : l.length ≤ 100000) (h : Q (.str (tx [c]) s.toks) { s with toks := s.toks + 1 })
    (hs : subscripted slice false (.str (tx l) t) (.int i u) = operate [.str (tx l) t, .int i u] (getItem (.str (tx l) t) (.int i u)) := by with_unfolding_all rfl)
    (ht : ∀ r, letTemporaryGo value (.str (tx l) t) r = pure () := by intro _; with_unfolding_all rfl) :
    wpAny (model prog w) A (subscriptTail value slice (.str (tx l) t) (.int i u)) Q E s := by
  subst hi
  have hn : n < l.length := (List.getElem?_eq_some_iff.mp hc).1
  refine item_str (fitsSsize_of (N := 9223372036854775808) (by omega) (by omega) (Int.le_refl _)) (by omega) (by rw [tx_length]; omega) (fun _ => ?_) hs ht
  rw [item_tx hc]
  exact h
theorem my_in {prog : Program} {w : World} {A : Around} {E : Value → Shared → Prop} {s : Shared} {x : Str} {c : Nat} {t u : Tok} {Q : Value → Shared → Prop}
    (h : Q (.bool (decide (c ∈ x.cps.toList))) s) : wpAny (model prog w) A (compareOp .In (.str (tx [c]) u) (.str x t)) Q E s := by
  refine PyProof.Rows.in_str ?_
  rw [StrLaws.found_one]
  exact h
set_option maxHeartbeats 8000000 in
theorem c_isone (w : World) (mean : ExcName → Option Value) (mg mb : Str → Option Value) (x dx : Addr) (l r : List Nat) (signs : Str) (i : Int) (n : Nat) (k1 k2 k3 k4 k5 : Tok) (hi : i = (n : Int)) (hr : l.drop n = r) (hn : n ≤ l.length) (hl : l.length ≤ 100000) :
  Sp w mean mg mb 180 110 [.ref x, .str signs k5] [(x, instObj 197 dx), (dx, rdO w (tx l) i k1 k2 k3 k4)] [] (fun _ _ v => v = .bool (headIn r signs.cps.toList)) := by
  unfold Sp
  k_fill
  k_with_none
  k_with "mysub" => (k_dflt (refine' my_char ?k1 ?k5 ?k2 ?_ ?k3 ?k4; (case k1 => exact drop_head hr); (case k5 => exact hi); (case k2 => assumption); (case k3 => with_unfolding_all rfl); (case k4 => (intro _; with_unfolding_all rfl))))
  k_with "myin" => (k_dflt (refine' my_in ?_))
  intro dp un gd cn cs a ccd cl outer A₀ base h₀ L m s Q E B F X N T hck hdp hun hret
  have hlen := drop_len hr hn
  have htl := tx_length l
  cases r
  all_goals (simp only [List.length_nil, List.length_cons] at hlen)
  all_goals (
    k_dflt (refine' sp_enter B F X N T hck hret ?k6 ?k7 ?k8 ?k9 ?kB ?_ ?c2 ?c3 ?c4 ?c5; (case k6 => k_is); (case k7 => k_is); (case k8 => omega); (case k9 => first | exact BindsTo.of_eq rfl | exact binds_K (by k_in) rfl (by k_is) rfl rfl rfl); (case c5 => decide); (case kB => exact locs rfl); (case c2 => exact rfl); (case c3 => exact rfl); (case c4 => exact rfl))
    intro g' L' h' FG' F' N' B' X' T' GS'
    (try dsimp only); (try k_fold)
    k_steps
  )
  all_goals first
    | exact endB (by assumption) (by assumption) (by (repeat' (first | exact List.forall_mem_nil _ | (refine List.forall_mem_cons.mpr ⟨by k_mem, ?_⟩)))) (by first | rfl | (rw [tx_length]; simp [headIn]; omega))
end Mine
namespace Mine
theorem rst_B16 : True := by
  w_top off
  trivial
end Mine
set_option maxRecDepth 100000
namespace Mine
open PySem PySem.W PyProof.Rows PySem.Spec PySem.Calls
local macro_rules | `(tactic| walk_at "exec For Tuple BinOp cons nil") => `(tactic| (k_here; (rename Fr _ _ _ _ => lF'); (with_unfolding_all refine' For_turns lF' ?_); k_whole))
local macro_rules | `(tactic| walk_at "call ref") => `(tactic| (k_here; k_extra "mycall"))
local macro_rules | `(tactic| walk_at "binaryOp FloorDiv int int") => `(tactic| (k_here; k_extra "mydiv"))
local macro_rules | `(tactic| walk_at "binaryOp Mod int int") => `(tactic| (k_here; k_extra "mymod"))
local macro_rules | `(tactic| walk_at "binaryOp Mult int int") => `(tactic| (k_here; k_extra "mymul"))
local macro_rules | `(tactic| walk_at "setAttr ref") => `(tactic| (k_here; k_extra "mysetattr"))
local macro_rules | `(tactic| walk_at "leaving ref") => `(tactic| (k_here; k_extra "myleave"))
local macro_rules | `(tactic| walk_at "exec Raise some none") => `(tactic| (k_here; k_extra "myraise"))
local macro_rules | `(tactic| walk_at "subscriptTail") => `(tactic| (k_here; k_extra "mysub"))
local macro_rules | `(tactic| walk_at "compareOp In str str") => `(tactic| (k_here; k_extra "myin"))

def skipR (r sg : List Nat) : List Nat × List Nat := match r with
  | c :: r' => if c ∈ sg then ([c], r') else ([], c :: r')
  | [] => ([], [])
theorem headIn_true {r sg : List Nat} (h : headIn r sg = true) : ∃ c r', r = c :: r' ∧ skipR r sg = ([c], r') := by
  cases r with
  | nil => cases h
  | cons c r' =>
    have hc : c ∈ sg := of_decide_eq_true h
    exact ⟨c, r', rfl, by unfold skipR; exact if_pos hc⟩
theorem headIn_false {r sg : List Nat} (h : headIn r sg = false) : skipR r sg = ([], r) := by
  cases r with
  | nil => rfl
  | cons c r' =>
    have hc : ¬ c ∈ sg := of_decide_eq_false h
    unfold skipR
    exact if_neg hc
/-- a text read, the rest ahead -/
def OutSk (w : World) (l : List Nat) (dx : Addr) (a r : List Nat) : Heap → Heap → Value → Prop := fun _ h' v =>
  (∃ t, v = .str (tx a) t) ∧ ∃ (n : Nat) (k1 k2 k3 k4 : Tok), h'.get? dx = some (rdO w (tx l) n k1 k2 k3 k4) ∧ l.drop n = r ∧ n ≤ l.length
theorem endSk {w : World} {s : Shared} {g : Heap} {new : List (Addr × Obj)} {L' x dx : Addr} {h' : Heap} {m' : Str → Option Value} {tk' : Nat} {l a r : List Nat} {v : Str} {n : Nat} {i : Int} {t k1 k2 k3 k4 : Tok} {o : Obj}
    (F : Fr g L' h' m') (N : News g L' h' new) (hm : (dx, rdO w (tx l) i k1 k2 k3 k4) ∈ new) (hx : (x, instObj 197 dx) ∈ new) (ev : v = tx a) (ei : i = (n : Int)) (hr : l.drop n = r) (hn : n ≤ l.length) :
    SpEnd s g [(x, instObj 197 dx), (dx, o)] [dx] (OutSk w l dx a r) (.str v t) { s with heap := h', toks := tk' } := by
  subst ev; subst ei
  refine ⟨_, _, _, _, rfl, F, (fun p hp hq => ?_), ⟨_, rfl⟩, n, _, _, _, _, (N _ hm).1, hr, hn⟩
  rcases List.mem_cons.mp hp with rfl | hp
  · exact (N _ hx).1
  · rw [List.mem_singleton.mp hp] at hq
    exact absurd (List.mem_singleton.mpr rfl) hq
theorem drop_tail {l r : List Nat} {n c : Nat} (h : l.drop n = c :: r) : l.drop (n + 1) = r := by
  rw [← List.drop_drop, h]; rfl
theorem endSkT {w : World} {s : Shared} {g : Heap} {new : List (Addr × Obj)} {L' x dx : Addr} {h' : Heap} {m' : Str → Option Value} {tk' : Nat} {l r r' sg : List Nat} {c n : Nat} {i : Int} {t k1 k2 k3 k4 : Tok} {o : Obj}
    (F : Fr g L' h' m') (N : News g L' h' new) (hm : (dx, rdO w (tx l) i k1 k2 k3 k4) ∈ new) (hx : (x, instObj 197 dx) ∈ new) (e9 : r = c :: r') (h9 : skipR r sg = ([c], r')) (hr : l.drop n = r) (hn : n ≤ l.length) (ei : i = (n : Int) + 1) :
    SpEnd s g [(x, instObj 197 dx), (dx, o)] [dx] (OutSk w l dx (skipR r sg).1 (skipR r sg).2) (.str (tx [c]) t) { s with heap := h', toks := tk' } := by
  have hlen := drop_len hr hn
  rw [h9]
  subst e9
  exact endSk (n := n + 1) F N hm hx rfl (by omega) (drop_tail hr) (by simp only [List.length_cons] at hlen; omega)
theorem endSkF {w : World} {s : Shared} {g : Heap} {new : List (Addr × Obj)} {L' x dx : Addr} {h' : Heap} {m' : Str → Option Value} {tk' : Nat} {l r sg : List Nat} {n : Nat} {v : Str} {t k1 k2 k3 k4 : Tok} {o : Obj}
    (F : Fr g L' h' m') (N : News g L' h' new) (hm : (dx, rdO w (tx l) (n : Int) k1 k2 k3 k4) ∈ new) (hx : (x, instObj 197 dx) ∈ new) (h9 : headIn r sg = false) (hr : l.drop n = r) (hn : n ≤ l.length) (ev : v = tx []) :
    SpEnd s g [(x, instObj 197 dx), (dx, o)] [dx] (OutSk w l dx (skipR r sg).1 (skipR r sg).2) (.str v t) { s with heap := h', toks := tk' } := by
  rw [headIn_false h9]
  exact endSk F N hm hx ev rfl hr hn
set_option maxHeartbeats 8000000 in
theorem c_skip (w : World) (mean : ExcName → Option Value) (mg mb : Str → Option Value) (x dx : Addr) (l r : List Nat) (signs : Str) (n : Nat) (k1 k2 k3 k4 k5 : Tok) (hr : l.drop n = r) (hn : n ≤ l.length) (hl : l.length ≤ 100000) (hne : @LT.lt Nat _ dx x) :
  Sp w mean mg mb 187 112 [.ref x, .str signs k5] [(x, instObj 197 dx), (dx, rdO w (tx l) n k1 k2 k3 k4)] [dx] (OutSk w l dx (skipR r signs.cps.toList).1 (skipR r signs.cps.toList).2) := by
  unfold Sp
  k_fill
  k_with_none
  k_with "mycall" => ((with_reducible show wpAny _ _ (call (Value.ref 180) _) _ _ _); (k_dflt (refine' (c_isone w mean mg mb _ _ _ _ _ _ _ _ _ _ _ _ rfl hr hn hl).useB ?k1 ?k2 ?k3 ?k4 ?k5 ?kK ?ks ?kd ?ku ?_; (case k1 => k_asm); (case k2 => k_asm); (case k3 => k_asm); (case k4 => k_asm); (case k5 => k_asm); (case kK => first | exact rfl | assumption); (case ks => (repeat' (first | exact List.forall_mem_nil _ | (refine List.forall_mem_cons.mpr ⟨by k_mem, ?_⟩)))); (case kd => ktr_room); (case ku => ktr_units))); intro h9 tk9 F9 N9; (try dsimp only); (try k_sweep); (try k_fold))
  k_with "mysub" => ((obtain ⟨c9, r9, e9, h9⟩ := headIn_true (by assumption)); (k_dflt (refine' my_char ?k1 ?k5 ?k2 ?_ ?k3 ?k4; (case k1 => exact drop_head (hr.trans e9)); (case k5 => omega); (case k2 => assumption); (case k3 => with_unfolding_all rfl); (case k4 => (intro _; with_unfolding_all rfl)))))
  intro dp un gd cn cs a ccd cl outer A₀ base h₀ L m s Q E B F X N T hck hdp hun hret
  have hlen := drop_len hr hn
  k_dflt (refine' sp_enter B F X N T hck hret ?k6 ?k7 ?k8 ?k9 ?kB ?_ ?c2 ?c3 ?c4 ?c5; (case k6 => k_is); (case k7 => k_is); (case k8 => omega); (case k9 => first | exact BindsTo.of_eq rfl | exact binds_K (by k_in) rfl (by k_is) rfl rfl rfl); (case c5 => decide); (case kB => exact locs rfl); (case c2 => exact rfl); (case c3 => exact rfl); (case c4 => exact rfl))
  intro g' L' h' FG' F' N' B' X' T' GS'
  (try dsimp only); (try k_fold)
  k_steps
  all_goals first
    | exact endSkT (by assumption) (by assumption) (by k_mem) (by k_mem) (by assumption) (by assumption) hr hn (by omega)
    | exact endSkF (by assumption) (by assumption) (by k_mem) (by k_mem) (by assumption) hr hn (by decide)
end Mine
namespace Mine
theorem rst_B17 : True := by
  w_top off
  trivial
end Mine
set_option maxRecDepth 100000
namespace Mine
open PySem PySem.W PyProof.Rows PySem.Spec PySem.Calls
local macro_rules | `(tactic| walk_at "exec For Tuple BinOp cons nil") => `(tactic| (k_here; (rename Fr _ _ _ _ => lF'); (with_unfolding_all refine' For_turns lF' ?_); k_whole))
local macro_rules | `(tactic| walk_at "call ref") => `(tactic| (k_here; k_extra "mycall"))
local macro_rules | `(tactic| walk_at "binaryOp FloorDiv int int") => `(tactic| (k_here; k_extra "mydiv"))
local macro_rules | `(tactic| walk_at "binaryOp Mod int int") => `(tactic| (k_here; k_extra "mymod"))
local macro_rules | `(tactic| walk_at "binaryOp Mult int int") => `(tactic| (k_here; k_extra "mymul"))
local macro_rules | `(tactic| walk_at "setAttr ref") => `(tactic| (k_here; k_extra "mysetattr"))
local macro_rules | `(tactic| walk_at "leaving ref") => `(tactic| (k_here; k_extra "myleave"))
local macro_rules | `(tactic| walk_at "exec Raise some none") => `(tactic| (k_here; k_extra "myraise"))
local macro_rules | `(tactic| walk_at "subscriptTail") => `(tactic| (k_here; k_extra "mysub"))
local macro_rules | `(tactic| walk_at "compareOp In str str") => `(tactic| (k_here; k_extra "myin"))

theorem slice_tx {l : List Nat} {i j : Int} {a b : Nat} (hi : i = (a : Int)) (hj : j = (b : Int)) (h1 : a ≤ b) (h2 : b ≤ l.length) : Txt.slice (tx l) (some i) (some j) = tx ((l.drop a).take (b - a)) := by
  subst hi; subst hj
  have := eq_of_beq (slice_closesL (x := tx l) (i := (a : Int)) (j := (b : Int)) (by omega) (by omega) (by rw [tx_length]; omega))
  rw [this]
  have e1 : ((a : Int)).toNat = a := by omega
  have e2 : ((b : Int) - (a : Int)).toNat = b - a := by omega
  rw [e1, e2]
theorem slice_tx_from {l : List Nat} {i : Int} {a : Nat} (hi : i = (a : Int)) (h1 : a ≤ l.length) : Txt.slice (tx l) (some i) none = tx (l.drop a) := by
  subst hi
  have := eq_of_beq (slice_closes_fromL (x := tx l) (i := (a : Int)) (b := (l.length : Int)) (by omega) (by rw [tx_length]; omega) (by rw [tx_length]))
  rw [this]
  have e1 : ((a : Int)).toNat = a := by omega
  have e2 : ((l.length : Int) - (a : Int)).toNat = l.length - a := by omega
  rw [e1, e2]
  have e3 : (l.drop a).take (l.length - a) = l.drop a := List.take_of_length_le (by rw [List.length_drop]; omega)
  show tx ((l.drop a).take (l.length - a)) = _
  rw [e3]
def isD (c : Nat) : Bool := decide (48 ≤ c ∧ c ≤ 57)
theorem digits_list : (Str.ofString "0123456789").cps.toList = [48, 49, 50, 51, 52, 53, 54, 55, 56, 57] := by decide
theorem mem_digits {c : Nat} : c ∈ (Str.ofString "0123456789").cps.toList ↔ isD c = true := by
  rw [digits_list]
  simp only [List.mem_cons, List.not_mem_nil, or_false, isD, decide_eq_true_eq]
  omega
/-- how far the digits are read -/
def DgInv (l r : List Nat) (n : Nat) (i : Int) : Prop := ∃ m : Nat, i = (n : Int) + m ∧ m ≤ r.length ∧ ∀ c ∈ r.take m, isD c = true
theorem dg_start {l r : List Nat} {n : Nat} : DgInv l r n (n : Int) := ⟨0, by omega, by omega, by simp⟩
theorem dg_nat {l r : List Nat} {n : Nat} {i : Int} (h : DgInv l r n i) : i = (i.toNat : Int) := by obtain ⟨m, h1, _⟩ := h; omega
theorem dg_drop {l r : List Nat} {n : Nat} {i : Int} (h : DgInv l r n i) (hr : l.drop n = r) : l.drop i.toNat = r.drop (i.toNat - n) := by
  obtain ⟨m, h1, _⟩ := h
  rw [← hr, List.drop_drop]
  congr 1
  omega
theorem dg_le {l r : List Nat} {n : Nat} {i : Int} (h : DgInv l r n i) (hr : l.drop n = r) (hn : n ≤ l.length) : i.toNat ≤ l.length := by
  obtain ⟨m, h1, h2, _⟩ := h
  have := drop_len hr hn
  omega
theorem dg_turn {l r : List Nat} {n : Nat} {i : Int} (h : DgInv l r n i) (hr : l.drop n = r) (hh : headIn (l.drop i.toNat) (Str.ofString "0123456789").cps.toList = true) : DgInv l r n (i + 1) := by
  have hd := dg_drop h hr
  obtain ⟨m, h1, h2, h3⟩ := h
  have em : i.toNat - n = m := by omega
  rw [hd, em] at hh
  obtain ⟨c, r', e, hs⟩ := headIn_true hh
  have hlt : m < r.length := by
    rcases Nat.lt_or_ge m r.length with q | q
    · exact q
    · rw [List.drop_of_length_le q] at e; cases e
  have hc : isD c = true := by
    rw [e] at hh
    exact mem_digits.mp (of_decide_eq_true hh)
  refine ⟨m + 1, by omega, by omega, fun d hd' => ?_⟩
  have hget : r[m]? = some c := by
    have : (r.drop m)[0]? = some c := by rw [e]; rfl
    rw [List.getElem?_drop] at this
    simpa using this
  rw [List.take_add_one, hget] at hd'
  rcases List.mem_append.mp hd' with q | q
  · exact h3 d q
  · simp at q; subst q; exact hc
theorem dg_less {l r : List Nat} {n : Nat} {i : Int} (h : DgInv l r n i) (hr : l.drop n = r) (hn : n ≤ l.length) (hh : headIn (l.drop i.toNat) (Str.ofString "0123456789").cps.toList = true) : ((l.length : Int) - (i + 1)).toNat < ((l.length : Int) - i).toNat := by
  have h0 := dg_le (dg_turn h hr hh) hr hn
  obtain ⟨m, h1, _⟩ := h
  omega
theorem take_drop_while {p : Nat → Bool} : ∀ {r : List Nat} {m : Nat}, m ≤ r.length → (∀ c ∈ r.take m, p c = true) → (∀ c r', r.drop m = c :: r' → p c = false) → r.take m = r.takeWhile p ∧ r.drop m = r.dropWhile p
  | [], m, _, _, _ => by simp
  | c :: r, 0, _, _, h2 => by
    have := h2 c r rfl
    simp [List.takeWhile, List.dropWhile, this]
  | c :: r, m + 1, h0, h1, h2 => by
    have hc := h1 c (by simp)
    have ih := take_drop_while (p := p) (r := r) (m := m) (by simpa using h0) (fun d hd => h1 d (by simp; exact .inr hd)) (fun d r' e => h2 d r' (by simpa using e))
    simp [List.takeWhile, List.dropWhile, hc, ih.1, ih.2]
theorem dg_end {l r : List Nat} {n : Nat} {i : Int} (h : DgInv l r n i) (hr : l.drop n = r) (hn : n ≤ l.length) (hh : headIn (l.drop i.toNat) (Str.ofString "0123456789").cps.toList = false) :
    (l.drop n).take (i.toNat - n) = r.takeWhile isD ∧ l.drop i.toNat = r.dropWhile isD := by
  have hd := dg_drop h hr
  obtain ⟨m, h1, h2, h3⟩ := h
  have em : i.toNat - n = m := by omega
  rw [em] at hd ⊢
  rw [hr, hd]
  refine take_drop_while h2 h3 fun c r' e => ?_
  rw [hd, e] at hh
  have := of_decide_eq_false hh
  rw [mem_digits] at this
  simpa using this
theorem endDg {w : World} {s : Shared} {g : Heap} {new : List (Addr × Obj)} {L' x dx : Addr} {h' : Heap} {m' : Str → Option Value} {tk' : Nat} {l r : List Nat} {n : Nat} {i : Int} {t k1 k2 k3 k4 : Tok} {o : Obj}
    (F : Fr g L' h' m') (N : News g L' h' new) (hm : (dx, rdO w (tx l) i k1 k2 k3 k4) ∈ new) (hx : (x, instObj 197 dx) ∈ new) (h : DgInv l r n i) (hh : headIn (l.drop i.toNat) (Str.ofString "0123456789").cps.toList = false) (hr : l.drop n = r) (hn : n ≤ l.length) :
    SpEnd s g [(x, instObj 197 dx), (dx, o)] [dx] (OutSk w l dx (r.takeWhile isD) (r.dropWhile isD)) (.str (Txt.slice (tx l) (some (n : Int)) (some i)) t) { s with heap := h', toks := tk' } := by
  have ⟨e1, e2⟩ := dg_end h hr hn hh
  have h0 := dg_le h hr hn
  have h1 := dg_nat h
  have h2 : n ≤ i.toNat := by obtain ⟨m, h1, _⟩ := h; omega
  exact endSk (n := i.toNat) F N hm hx (by rw [slice_tx rfl h1 h2 h0, e1]) h1 e2 h0
set_option maxHeartbeats 8000000 in
theorem c_digits (w : World) (mean : ExcName → Option Value) (mg mb : Str → Option Value) (x dx : Addr) (l r : List Nat) (n : Nat) (k1 k2 k3 k4 : Tok) (hr : l.drop n = r) (hn : n ≤ l.length) (hl : l.length ≤ 100000) (hne : @LT.lt Nat _ dx x) :
  Sp w mean mg mb 194 112 [.ref x] [(x, instObj 197 dx), (dx, rdO w (tx l) n k1 k2 k3 k4)] [dx] (OutSk w l dx (r.takeWhile isD) (r.dropWhile isD)) := by
  unfold Sp
  k_fill
  k_with_none
  k_with "mycall" => ((with_reducible show wpAny _ _ (call (Value.ref 180) _) _ _ _); (k_dflt (refine' (c_isone w mean mg mb _ _ _ _ _ _ _ _ _ _ _ _ ?hi rfl ?hn2 hl).useB ?k1 ?k2 ?k3 ?k4 ?k5 ?kK ?ks ?kd ?ku ?_; (case k1 => k_asm); (case k2 => k_asm); (case k3 => k_asm); (case k4 => k_asm); (case k5 => k_asm); (case kK => first | exact rfl | assumption); (case ks => (repeat' (first | exact List.forall_mem_nil _ | (refine List.forall_mem_cons.mpr ⟨by k_mem, ?_⟩)))); (case hi => exact dg_nat (by assumption)); (case hn2 => exact dg_le (by assumption) hr hn); (case kd => ktr_room); (case ku => ktr_units))); intro h9 tk9 F9 N9; (try dsimp only); (try k_sweep); (try k_fold))
  k_with "exec While Call cons nil" => k_while (fun _ i => DgInv l r n i) (fun _ i => ((l.length : Int) - i).toNat) "self.at"
  k_with "state" => first | exact dg_start | exact dg_turn (by assumption) hr (by assumption)
  k_with "measure" => exact dg_less (by assumption) hr hn (by assumption)
  intro dp un gd cn cs a ccd cl outer A₀ base h₀ L m s Q E B F X N T hck hdp hun hret
  have hlen := drop_len hr hn
  have htl := tx_length l
  k_dflt (refine' sp_enter B F X N T hck hret ?k6 ?k7 ?k8 ?k9 ?kB ?_ ?c2 ?c3 ?c4 ?c5; (case k6 => k_is); (case k7 => k_is); (case k8 => omega); (case k9 => first | exact BindsTo.of_eq rfl | exact binds_K (by k_in) rfl (by k_is) rfl rfl rfl); (case c5 => decide); (case kB => exact locs rfl); (case c2 => exact rfl); (case c3 => exact rfl); (case c4 => exact rfl))
  intro g' L' h' FG' F' N' B' X' T' GS'
  (try dsimp only); (try k_fold)
  dsimp only [rdO] at N'
  k_steps
  all_goals first
    | exact endDg (by assumption) (by assumption) (by k_mem) (by k_mem) (by assumption) (by assumption) hr hn
end Mine
namespace Mine
theorem rst_B18 : True := by
  w_top off
  trivial
end Mine
set_option maxRecDepth 100000
namespace Mine
open PySem PySem.W PyProof.Rows PySem.Spec PySem.Calls PySem.NumText
local macro_rules | `(tactic| walk_at "exec For Tuple BinOp cons nil") => `(tactic| (k_here; (rename Fr _ _ _ _ => lF'); (with_unfolding_all refine' For_turns lF' ?_); k_whole))
local macro_rules | `(tactic| walk_at "call ref") => `(tactic| (k_here; k_extra "mycall"))
local macro_rules | `(tactic| walk_at "binaryOp FloorDiv int int") => `(tactic| (k_here; k_extra "mydiv"))
local macro_rules | `(tactic| walk_at "binaryOp Mod int int") => `(tactic| (k_here; k_extra "mymod"))
local macro_rules | `(tactic| walk_at "binaryOp Mult int int") => `(tactic| (k_here; k_extra "mymul"))
local macro_rules | `(tactic| walk_at "setAttr ref") => `(tactic| (k_here; k_extra "mysetattr"))
local macro_rules | `(tactic| walk_at "leaving ref") => `(tactic| (k_here; k_extra "myleave"))
local macro_rules | `(tactic| walk_at "exec Raise some none") => `(tactic| (k_here; k_extra "myraise"))
local macro_rules | `(tactic| walk_at "call builtin:str.index") => `(tactic| (k_here; k_extra "myindex"))

def valZ (l : List Int) : Int := l.foldl (fun a c => a * 10 + (c - 48)) 0
theorem valZ_snoc (l : List Int) (c : Int) : valZ (l ++ [c]) = valZ l * 10 + (c - 48) := by simp [valZ]
theorem codes_tx (d : List Nat) : KStt.codes (tx d) = d.map (fun (c : Nat) => (c : Int)) := by
  simp [KStt.codes]
theorem valZ_digits : ∀ (d : List Nat) (a : Nat), (∀ c ∈ d, isD c = true) → (d.map (fun (c : Nat) => (c : Int))).foldl (fun a c => a * 10 + (c - 48)) (a : Int) = ((d.foldl (fun acc c => acc * 10 + (c - 48)) a : Nat) : Int)
  | [], _, _ => rfl
  | c :: d, a, h => by
    have hc : isD c = true := h c (by simp)
    simp only [isD, decide_eq_true_eq] at hc
    have e : ((a * 10 + (c - 48) : Nat) : Int) = (a : Int) * 10 + ((c : Int) - 48) := by omega
    simp only [List.map_cons, List.foldl_cons]
    rw [← e]
    exact valZ_digits d _ fun x hx => h x (List.mem_cons_of_mem _ hx)
theorem valZ_tx {d : List Nat} (h : ∀ c ∈ d, isD c = true) : valZ (KStt.codes (tx d)) = ((digitsVal d : Nat) : Int) := by
  rw [codes_tx]
  exact valZ_digits d 0 h
theorem find_digit {n : Nat} (h : isD n = true) : Txt.find (Str.ofString "0123456789") { cps := #[n] } = (n : Int) - 48 := by
  simp only [isD, decide_eq_true_eq] at h
  have : n = 48 ∨ n = 49 ∨ n = 50 ∨ n = 51 ∨ n = 52 ∨ n = 53 ∨ n = 54 ∨ n = 55 ∨ n = 56 ∨ n = 57 := by omega
  rcases this with rfl | rfl | rfl | rfl | rfl | rfl | rfl | rfl | rfl | rfl <;> decide +kernel
theorem in_codes {d : List Nat} {p q : List Int} {n : Nat} (hd : ∀ c ∈ d, isD c = true) (e : KStt.codes (tx d) = p ++ (n : Int) :: q) : isD n = true := by
  rw [codes_tx] at e
  have : (n : Int) ∈ d.map (fun (c : Nat) => (c : Int)) := by rw [e]; simp
  obtain ⟨c, hc, e2⟩ := List.mem_map.mp this
  have : c = n := Int.ofNat.inj e2
  exact this ▸ hd c hc
theorem whole_turn {d : List Nat} {p q : List Int} {n : Nat} {i : Int} (hd : ∀ c ∈ d, isD c = true) (e : KStt.codes (tx d) = p ++ (n : Int) :: q) (hi : i = valZ p) :
    i * 10 + Txt.find (Str.ofString "0123456789") { cps := #[n] } = valZ (p ++ [(n : Int)]) := by
  rw [valZ_snoc, find_digit (in_codes hd e), hi]
theorem whole_no {d : List Nat} {p q : List Int} {n : Nat} (hd : ∀ c ∈ d, isD c = true) (e : KStt.codes (tx d) = p ++ (n : Int) :: q) (h : Txt.find (Str.ofString "0123456789") { cps := #[n] } = -1) : False := by
  have h2 := in_codes hd e
  rw [find_digit h2] at h
  simp only [isD, decide_eq_true_eq] at h2
  omega
set_option maxHeartbeats 8000000 in
theorem c_whole_of (w : World) (mean : ExcName → Option Value) (mg mb : Str → Option Value) (d : List Nat) (t : Tok) (hd : ∀ c ∈ d, isD c = true) (hl : d.length ≤ 2000) :
  Sp w mean mg mb 208 112 [.str (tx d) t] [] [] (fun _ _ r => ∃ t, r = .int (digitsVal d : Nat) t) := by
  unfold Sp
  k_fill
  k_with_none
  k_with "pyIter str" => k_state (fun pre n => n = valZ pre) "number"
  k_with "state" => exact whole_turn hd (by assumption) (by assumption)
  intro dp un gd cn cs a ccd cl outer A₀ base h₀ L m s Q E B F X N T hck hdp hun hret
  have hlen := tx_length d
  k_dflt (refine' sp_enter B F X N T hck hret ?k6 ?k7 ?k8 ?k9 ?kB ?_ ?c2 ?c3 ?c4 ?c5; (case k6 => k_is); (case k7 => k_is); (case k8 => omega); (case k9 => first | exact BindsTo.of_eq rfl | exact binds_K (by k_in) rfl (by k_is) rfl rfl rfl); (case c5 => decide); (case kB => exact locs rfl); (case c2 => exact rfl); (case c3 => exact rfl); (case c4 => exact rfl))
  intro g' L' h' FG' F' N' B' X' T' GS'
  (try dsimp only); (try k_fold)
  k_steps
  all_goals first
    | exact (whole_no hd (by assumption) (by assumption)).elim
    | exact endI (by assumption) (by assumption) (fun _ hp => nomatch hp) ((by assumption : _ = valZ _).trans (valZ_tx hd))
end Mine
namespace Mine
theorem rst_B19 : True := by
  w_top off
  trivial
end Mine
set_option maxRecDepth 100000
namespace Mine
open PySem PySem.W PyProof.Rows PySem.Spec PySem.Calls PySem.NumText
local macro_rules | `(tactic| walk_at "exec For Tuple BinOp cons nil") => `(tactic| (k_here; (rename Fr _ _ _ _ => lF'); (with_unfolding_all refine' For_turns lF' ?_); k_whole))
local macro_rules | `(tactic| walk_at "call ref") => `(tactic| (k_here; k_extra "mycall"))
local macro_rules | `(tactic| walk_at "binaryOp FloorDiv int int") => `(tactic| (k_here; k_extra "mydiv"))
local macro_rules | `(tactic| walk_at "binaryOp Mod int int") => `(tactic| (k_here; k_extra "mymod"))
local macro_rules | `(tactic| walk_at "binaryOp Mult int int") => `(tactic| (k_here; k_extra "mymul"))
local macro_rules | `(tactic| walk_at "setAttr ref") => `(tactic| (k_here; k_extra "mysetattr"))
local macro_rules | `(tactic| walk_at "leaving ref") => `(tactic| (k_here; k_extra "myleave"))
local macro_rules | `(tactic| walk_at "exec Raise some none") => `(tactic| (k_here; k_extra "myraise"))
local macro_rules | `(tactic| walk_at "subscriptTail") => `(tactic| (k_here; k_extra "mysub"))
local macro_rules | `(tactic| walk_at "compareOp In str str") => `(tactic| (k_here; k_extra "myin"))
local macro_rules | `(tactic| walk_at "compareOp Eq str str") => `(tactic| (k_here; k_extra "myeq"))
local macro_rules | `(tactic| walk_at "compareOp NotEq str str") => `(tactic| (k_here; k_extra "myne"))
local macro_rules | `(tactic| walk_at "binaryOp Add str str") => `(tactic| (k_here; k_extra "myadd"))
local macro_rules | `(tactic| walk_at "call builtin:len") => `(tactic| (k_here; k_extra "mylen"))

def isDictO (o : Obj) : Bool := match o.cls with | .type n => n == "dict" | _ => false
inductive RemD (src : Addr) : List (Addr × Obj) → List (Addr × Obj) → Prop
  | nil : RemD src [] []
  | drop {o : Obj} {l r : List (Addr × Obj)} : RemD src l r → RemD src ((src, o) :: l) r
  | keepD {p : Addr × Obj} {l r : List (Addr × Obj)} : isDictO p.2 = false → RemD src l r → RemD src (p :: l) (p :: r)
  | skip {p : Addr × Obj} {l r : List (Addr × Obj)} : RemD src l r → RemD src (p :: l) r
  | skipA {p : Addr × Obj} {l r : List (Addr × Obj)} : p.1 < src → RemD src l r → RemD src (p :: l) (p :: r)
theorem RemD.all {src : Addr} : ∀ {l : List (Addr × Obj)}, (∀ p ∈ l, p.1 < src) → RemD src l l
  | [], _ => .nil
  | _ :: _, h => .skipA (h _ (List.mem_cons_self ..)) (RemD.all fun q hq => h q (List.mem_cons_of_mem _ hq))
theorem RemD.news {src : Addr} {big rest : List (Addr × Obj)} (R : RemD src big rest) {h₀ h h' : Heap} {L : Addr} {o : Obj} (ho : isDictO o = true) (K : Kp h h' [src]) (hs : h.get? src = some o) (N : News h₀ L h big) : News h₀ L h' rest := by
  induction R with
  | nil => exact fun _ hp => nomatch hp
  | drop _ ih => exact ih fun p hp => N p (.tail _ hp)
  | skip _ ih => exact ih fun p hp => N p (.tail _ hp)
  | @skipA p l r hne _ ih =>
    intro q hq
    rcases List.mem_cons.mp hq with rfl | hq
    · have := N q (.head _)
      refine ⟨K _ _ this.1 (fun hm => ?_), this.2⟩
      rw [List.mem_singleton.mp hm] at hne
      exact absurd hne (Nat.lt_irrefl _)
    · exact ih (fun p hp => N p (.tail _ hp)) q hq
  | @keepD p l r hne _ ih =>
    intro q hq
    rcases List.mem_cons.mp hq with rfl | hq
    · have := N q (.head _)
      refine ⟨K _ _ this.1 (fun hm => ?_), this.2⟩
      have h1 := this.1
      rw [List.mem_singleton.mp hm, hs] at h1
      rw [← Option.some.inj h1, ho] at hne
      cases hne
    · exact ih (fun p hp => N p (.tail _ hp)) q hq
section
variable {w : World} {mean : ExcName → Option Value} {mg mb : Str → Option Value} {f : Addr} {k : Nat} {vs : List Value} {led : List (Addr × Obj)} {ch : List Addr} {Out : Heap → Heap → Value → Prop}
  {dp un : Nat} {gd : Option (List Code)} {cn : Str} {cs : Scope} {a : Addr} {ccd : Value} {cl : List (Str × Addr)} {outer : List Env} {A₀ : Around} {base h₀ : Heap} {L : Addr} {m : Str → Option Value} {s : Shared} {Q E : Value → Shared → Prop} {big rest : List (Addr × Obj)}
theorem Sp.useSk {x dx : Addr} {l b r : List Nat} {i : Int} {k1 k2 k3 k4 : Tok} (S : Sp w mean mg mb f k vs [(x, instObj 197 dx), (dx, rdO w (tx l) i k1 k2 k3 k4)] [dx] (OutSk w l dx b r)) (B : Below A₀ base outer h₀) (F : Fr h₀ L s.heap m) (X : (Mine.hpK w.params).In h₀) (N : News h₀ L s.heap big)
    (T : Top Mine.vwV (looseW Mine.vwV [Str.ofString "fraction", Str.ofString "write_decimal"]) mean mg mb h₀) (hk : cs.kind = .function) (hx : (x, instObj 197 dx) ∈ big) (hs : (dx, rdO w (tx l) i k1 k2 k3 k4) ∈ big) (R : RemD dx big rest)
    (hd : dp + k < recursionLimit) (hu : un + 8 * k < cLine)
    (ret : ∀ t (n : Nat) k1 k2 k3 k4 h' tk', l.drop n = r → n ≤ l.length → Fr h₀ L h' m → News h₀ L h' ((dx, rdO w (tx l) n k1 k2 k3 k4) :: rest) → Q (.str (tx b) t) { s with heap := h', toks := tk' }) :
    wpAny (model PySem.Challenge.rw_nu0015_01.row.prog w) (ktrTop dp un gd cn cs L a ccd cl outer) (call (.ref f) vs) Q E s :=
  S.use B F X N T hk (fun p hp => by
    rcases List.mem_cons.mp hp with rfl | hp
    · exact hx
    · rw [List.mem_singleton.mp hp]; exact hs) hd hu (fun v h' tk' F' K' ho => by
    obtain ⟨⟨t, rfl⟩, n', q1, q2, q3, q4, he, hr, hn⟩ := ho
    refine ret t n' q1 q2 q3 q4 h' tk' hr hn F' fun p hp => ?_
    rcases List.mem_cons.mp hp with rfl | hp
    · exact ⟨he, (N _ hs).2⟩
    · exact R.news rfl K' (N _ hs).1 N p hp)
end
theorem my_eq {prog : Program} {w : World} {A : Around} {E : Value → Shared → Prop} {s : Shared} {a b : List Nat} {y : Str} {t u : Tok} {Q : Value → Shared → Prop}
    (hy : y.cps.toList = b) (h : Q (.bool (decide (a = b))) s) : wpAny (model prog w) A (compareOp .Eq (.str (tx a) t) (.str y u)) Q E s := by
  refine PySem.P.eq_str ?_
  rw [hy]
  show Q (.bool (a == b)) s
  have : (a == b) = decide (a = b) := by
    by_cases q : a = b
    · subst q; simp
    · simp [q]
  rw [this]
  exact h
theorem my_eq_nil {prog : Program} {w : World} {A : Around} {E : Value → Shared → Prop} {s : Shared} {a : List Nat} {y : Str} {t u : Tok} {Q : Value → Shared → Prop}
    (hy : y.cps.toList = []) (h : Q (.bool (decide (a = []))) s) : wpAny (model prog w) A (compareOp .Eq (.str (tx a) t) (.str y u)) Q E s := my_eq hy h
theorem my_ne_nil {prog : Program} {w : World} {A : Around} {E : Value → Shared → Prop} {s : Shared} {a : List Nat} {y : Str} {t u : Tok} {Q : Value → Shared → Prop}
    (hy : y.cps.toList = []) (h : Q (.bool (!decide (a = []))) s) : wpAny (model prog w) A (compareOp .NotEq (.str (tx a) t) (.str y u)) Q E s := by
  refine PySem.P.ne_str ?_
  rw [hy]
  show Q (.bool (a != [])) s
  have : (a != []) = !decide (a = []) := by cases a <;> rfl
  rw [this]
  exact h
theorem my_lent {prog : Program} {w : World} {A : Around} {E : Value → Shared → Prop} {s : Shared} {a : List Nat} {t : Tok} {Q : Value → Shared → Prop}
    (hl : a.length ≤ 1000) (h : Q (.int a.length (s.toks + 1)) { s with toks := s.toks + 1 + 1 }) : wpAny (model prog w) A (call (.builtin "len") [.str (tx a) t]) Q E s := by
  refine PySem.P.len_str (by rw [tx_length]; omega) ?_
  rw [tx_length]
  exact h
def sgE : List Nat := (Str.ofString "eE").cps.toList
theorem mem_takeWhile : ∀ {r : List Nat} {c : Nat}, c ∈ r.takeWhile isD → isD c = true
  | [], _, h => nomatch h
  | a :: r, c, h => by
    by_cases q : isD a = true
    · rw [List.takeWhile_cons_of_pos q] at h
      rcases List.mem_cons.mp h with rfl | h
      · exact q
      · exact mem_takeWhile h
    · rw [List.takeWhile_cons_of_neg q] at h; cases h
theorem tw_len : ∀ (r : List Nat), (r.takeWhile isD).length ≤ r.length
  | [] => Nat.le_refl _
  | a :: r => by
    by_cases q : isD a = true
    · rw [List.takeWhile_cons_of_pos q]; have := tw_len r; simp only [List.length_cons]; omega
    · rw [List.takeWhile_cons_of_neg q]; simp
theorem tw_le {l r : List Nat} {n : Nat} (h : l.drop n = r) (hl : l.length ≤ 1000) : (r.takeWhile isD).length ≤ 1000 := by
  have h1 := tw_len r
  have h2 := congrArg List.length h
  rw [List.length_drop] at h2
  omega
theorem tw_le2 {l r r2 : List Nat} {n n2 : Nat} (h : l.drop n = r) (h2 : l.drop n2 = r2) (hl : l.length ≤ 1000) : (r.takeWhile isD ++ r2.takeWhile isD).length ≤ 2000 := by
  have h1 := tw_le h hl
  have h2 := tw_le h2 hl
  rw [List.length_append]
  omega
theorem skip_len (r sg : List Nat) : (skipR r sg).2.length ≤ r.length := by
  cases r with
  | nil => exact Nat.le_refl _
  | cons c r =>
    unfold skipR
    dsimp only
    split <;> simp
/-- the exponent read, and what follows it -/
def expR (r : List Nat) : Option (Int × List Nat) :=
  if (skipR r (Str.ofString "eE").cps.toList).1 = [] then some (0, (skipR r (Str.ofString "eE").cps.toList).2) else
  if ((skipR (skipR r (Str.ofString "eE").cps.toList).2 (Str.ofString "+-").cps.toList).2.takeWhile isD) = [] then none else
  if 9 < ((skipR (skipR r (Str.ofString "eE").cps.toList).2 (Str.ofString "+-").cps.toList).2.takeWhile isD).length then none else
  if 300 < digitsVal ((skipR (skipR r (Str.ofString "eE").cps.toList).2 (Str.ofString "+-").cps.toList).2.takeWhile isD) then none else
  some (if (skipR (skipR r (Str.ofString "eE").cps.toList).2 (Str.ofString "+-").cps.toList).1 = [45] then -(digitsVal ((skipR (skipR r (Str.ofString "eE").cps.toList).2 (Str.ofString "+-").cps.toList).2.takeWhile isD) : Int) else digitsVal ((skipR (skipR r (Str.ofString "eE").cps.toList).2 (Str.ofString "+-").cps.toList).2.takeWhile isD),
    (skipR (skipR r (Str.ofString "eE").cps.toList).2 (Str.ofString "+-").cps.toList).2.dropWhile isD)
theorem ex_none1 {r : List Nat} (h1 : ¬ (skipR r (Str.ofString "eE").cps.toList).1 = []) (h2 : ((skipR (skipR r (Str.ofString "eE").cps.toList).2 (Str.ofString "+-").cps.toList).2.takeWhile isD) = []) : expR r = none := by unfold expR; rw [if_neg h1, if_pos h2]
theorem ex_none2 {r : List Nat} (h1 : ¬ (skipR r (Str.ofString "eE").cps.toList).1 = []) (h2 : ¬ ((skipR (skipR r (Str.ofString "eE").cps.toList).2 (Str.ofString "+-").cps.toList).2.takeWhile isD) = []) (h3 : 9 < (((skipR (skipR r (Str.ofString "eE").cps.toList).2 (Str.ofString "+-").cps.toList).2.takeWhile isD).length : Int)) : expR r = none := by unfold expR; rw [if_neg h1, if_neg h2, if_pos (by omega)]
theorem ex_none3 {r : List Nat} (h1 : ¬ (skipR r (Str.ofString "eE").cps.toList).1 = []) (h2 : ¬ ((skipR (skipR r (Str.ofString "eE").cps.toList).2 (Str.ofString "+-").cps.toList).2.takeWhile isD) = []) (h3 : ¬ 9 < (((skipR (skipR r (Str.ofString "eE").cps.toList).2 (Str.ofString "+-").cps.toList).2.takeWhile isD).length : Int)) (h4 : 300 < (digitsVal ((skipR (skipR r (Str.ofString "eE").cps.toList).2 (Str.ofString "+-").cps.toList).2.takeWhile isD) : Int)) : expR r = none := by unfold expR; rw [if_neg h1, if_neg h2, if_neg (by omega), if_pos (by omega)]
theorem ex_some0 {r : List Nat} (h1 : (skipR r (Str.ofString "eE").cps.toList).1 = []) : expR r = some (0, (skipR r (Str.ofString "eE").cps.toList).2) := by unfold expR; rw [if_pos h1]
theorem ex_some1 {r : List Nat} (h1 : ¬ (skipR r (Str.ofString "eE").cps.toList).1 = []) (h2 : ¬ ((skipR (skipR r (Str.ofString "eE").cps.toList).2 (Str.ofString "+-").cps.toList).2.takeWhile isD) = []) (h3 : ¬ 9 < (((skipR (skipR r (Str.ofString "eE").cps.toList).2 (Str.ofString "+-").cps.toList).2.takeWhile isD).length : Int)) (h4 : ¬ 300 < (digitsVal ((skipR (skipR r (Str.ofString "eE").cps.toList).2 (Str.ofString "+-").cps.toList).2.takeWhile isD) : Int)) (h5 : (skipR (skipR r (Str.ofString "eE").cps.toList).2 (Str.ofString "+-").cps.toList).1 = [45]) : expR r = some (-(digitsVal ((skipR (skipR r (Str.ofString "eE").cps.toList).2 (Str.ofString "+-").cps.toList).2.takeWhile isD) : Int), (skipR (skipR r (Str.ofString "eE").cps.toList).2 (Str.ofString "+-").cps.toList).2.dropWhile isD) := by unfold expR; rw [if_neg h1, if_neg h2, if_neg (by omega), if_neg (by omega), if_pos h5]
theorem ex_some2 {r : List Nat} (h1 : ¬ (skipR r (Str.ofString "eE").cps.toList).1 = []) (h2 : ¬ ((skipR (skipR r (Str.ofString "eE").cps.toList).2 (Str.ofString "+-").cps.toList).2.takeWhile isD) = []) (h3 : ¬ 9 < (((skipR (skipR r (Str.ofString "eE").cps.toList).2 (Str.ofString "+-").cps.toList).2.takeWhile isD).length : Int)) (h4 : ¬ 300 < (digitsVal ((skipR (skipR r (Str.ofString "eE").cps.toList).2 (Str.ofString "+-").cps.toList).2.takeWhile isD) : Int)) (h5 : ¬ (skipR (skipR r (Str.ofString "eE").cps.toList).2 (Str.ofString "+-").cps.toList).1 = [45]) : expR r = some ((digitsVal ((skipR (skipR r (Str.ofString "eE").cps.toList).2 (Str.ofString "+-").cps.toList).2.takeWhile isD) : Int), (skipR (skipR r (Str.ofString "eE").cps.toList).2 (Str.ofString "+-").cps.toList).2.dropWhile isD) := by unfold expR; rw [if_neg h1, if_neg h2, if_neg (by omega), if_neg (by omega), if_neg h5]
def OutEx (w : World) (l : List Nat) (dx : Addr) (e : Int) (r : List Nat) : Heap → Heap → Value → Prop := fun _ h' v =>
  (∃ t, v = .int e t) ∧ ∃ (n : Nat) (k1 k2 k3 k4 : Tok), h'.get? dx = some (rdO w (tx l) n k1 k2 k3 k4) ∧ l.drop n = r ∧ n ≤ l.length
theorem no_some {α : Type} {x : Option α} {y : α} (h : x = none) (h2 : x = some y) : False := by rw [h] at h2; cases h2
theorem endEx {w : World} {s : Shared} {g : Heap} {new : List (Addr × Obj)} {L' x dx : Addr} {h' : Heap} {m' : Str → Option Value} {tk' : Nat} {l r r' r2 : List Nat} {n : Nat} {v e : Int} {t k1 k2 k3 k4 : Tok} {o : Obj}
    (F : Fr g L' h' m') (N : News g L' h' new) (hm : (dx, rdO w (tx l) n k1 k2 k3 k4) ∈ new) (hx : (x, instObj 197 dx) ∈ new) (hok : expR r = some (e, r')) (hr : l.drop n = r2) (hn : n ≤ l.length) (he : expR r = some (v, r2)) :
    SpEnd s g [(x, instObj 197 dx), (dx, o)] [dx] (OutEx w l dx e r') (.int v t) { s with heap := h', toks := tk' } := by
  rw [he] at hok
  cases hok
  refine ⟨_, _, _, _, rfl, F, (fun p hp hq => ?_), ⟨_, rfl⟩, n, _, _, _, _, (N _ hm).1, hr, hn⟩
  rcases List.mem_cons.mp hp with rfl | hp
  · exact (N _ hx).1
  · rw [List.mem_singleton.mp hp] at hq
    exact absurd (List.mem_singleton.mpr rfl) hq

section
variable {w : World} {mean : ExcName → Option Value} {mg mb : Str → Option Value} {f : Addr} {k : Nat} {vs : List Value} {led : List (Addr × Obj)} {ch : List Addr} {Out : Heap → Heap → Value → Prop}
  {dp un : Nat} {gd : Option (List Code)} {cn : Str} {cs : Scope} {a : Addr} {ccd : Value} {cl : List (Str × Addr)} {outer : List Env} {A₀ : Around} {base h₀ : Heap} {L : Addr} {m : Str → Option Value} {s : Shared} {Q E : Value → Shared → Prop} {big rest : List (Addr × Obj)}
theorem Sp.useEx {x dx : Addr} {l r : List Nat} {i e : Int} {k1 k2 k3 k4 : Tok} (S : Sp w mean mg mb f k vs [(x, instObj 197 dx), (dx, rdO w (tx l) i k1 k2 k3 k4)] [dx] (OutEx w l dx e r)) (B : Below A₀ base outer h₀) (F : Fr h₀ L s.heap m) (X : (Mine.hpK w.params).In h₀) (N : News h₀ L s.heap big)
    (T : Top Mine.vwV (looseW Mine.vwV [Str.ofString "fraction", Str.ofString "write_decimal"]) mean mg mb h₀) (hk : cs.kind = .function) (hx : (x, instObj 197 dx) ∈ big) (hs : (dx, rdO w (tx l) i k1 k2 k3 k4) ∈ big) (R : RemD dx big rest)
    (hd : dp + k < recursionLimit) (hu : un + 8 * k < cLine)
    (ret : ∀ t (n : Nat) k1 k2 k3 k4 h' tk', l.length = n + r.length → Fr h₀ L h' m → News h₀ L h' ((dx, rdO w (tx l) n k1 k2 k3 k4) :: rest) → Q (.int e t) { s with heap := h', toks := tk' }) :
    wpAny (model PySem.Challenge.rw_nu0015_01.row.prog w) (ktrTop dp un gd cn cs L a ccd cl outer) (call (.ref f) vs) Q E s :=
  S.use B F X N T hk (fun p hp => by
    rcases List.mem_cons.mp hp with rfl | hp
    · exact hx
    · rw [List.mem_singleton.mp hp]; exact hs) hd hu (fun v h' tk' F' K' ho => by
    obtain ⟨⟨t, rfl⟩, n', q1, q2, q3, q4, he, hr, hn⟩ := ho
    refine ret t n' q1 q2 q3 q4 h' tk' (drop_len hr hn) F' fun p hp => ?_
    rcases List.mem_cons.mp hp with rfl | hp
    · exact ⟨he, (N _ hs).2⟩
    · exact R.news rfl K' (N _ hs).1 N p hp)
end
set_option maxHeartbeats 8000000 in
theorem c_exp (w : World) (mean : ExcName → Option Value) (mg mb : Str → Option Value) (x dx : Addr) (l r : List Nat) (n : Nat) (k1 k2 k3 k4 : Tok) (hr : l.drop n = r) (hn : n ≤ l.length) (hl : l.length ≤ 1000) (hne : @LT.lt Nat _ dx x) (e : Int) (r' : List Nat) (hok : expR r = some (e, r')) :
  Sp w mean mg mb 215 116 [.ref x] [(x, instObj 197 dx), (dx, rdO w (tx l) n k1 k2 k3 k4)] [dx] (OutEx w l dx e r') := by
  unfold Sp
  k_fill
  k_with_none
  k_with "myeq" => ((with_reducible show wpAny _ _ (compareOp CmpOp.Eq (Value.str (tx _) _) (Value.str _ _)) _ _ _); (first | refine' my_eq_nil rfl ?_ | refine' my_eq (b := [45]) rfl ?_))
  k_with "myne" => ((with_reducible show wpAny _ _ (compareOp CmpOp.NotEq (Value.str (tx _) _) (Value.str _ _)) _ _ _); refine' my_ne_nil rfl ?_)
  k_with "mylen" => ((with_reducible show wpAny _ _ (call (Value.builtin "len") [Value.str (tx _) _]) _ _ _); refine' my_lent ?hlen ?_; (case hlen => first | exact tw_le (by assumption) (by assumption) | exact tw_le2 (by assumption) (by assumption) (by assumption)))
  k_with "mycall" => ((with_reducible show wpAny _ _ (call (Value.ref 187) _) _ _ _); (k_dflt (refine' (c_skip w mean mg mb _ _ _ _ _ _ _ _ _ _ _ ?hr ?hn ?hl hne).useSk ?k1 ?k2 ?k3 ?k4 ?k5 ?kK ?kx ?ks ?kr ?kd ?ku ?_; (case k1 => k_asm); (case k2 => k_asm); (case k3 => k_asm); (case k4 => k_asm); (case k5 => k_asm); (case kK => first | exact rfl | assumption); (case kx => k_mem); (case ks => k_mem); (case kr => (repeat' (first | exact RemD.nil | (refine' RemD.drop ?_) | (refine' RemD.keepD ?rt ?_; (case rt => rfl)) | (refine' RemD.skip ?_)))); (case hr => assumption); (case hn => assumption); (case hl => omega); (case kd => ktr_room); (case ku => ktr_units))); intro t9 n9 k91 k92 k93 k94 h9 tk9 hr9 hn9 F9 N9; (try dsimp only); (try k_sweep); (try k_fold))
  k_with "mycall" => ((with_reducible show wpAny _ _ (call (Value.ref 194) _) _ _ _); (k_dflt (refine' (c_digits w mean mg mb _ _ _ _ _ _ _ _ _ ?hr ?hn ?hl hne).useSk ?k1 ?k2 ?k3 ?k4 ?k5 ?kK ?kx ?ks ?kr ?kd ?ku ?_; (case k1 => k_asm); (case k2 => k_asm); (case k3 => k_asm); (case k4 => k_asm); (case k5 => k_asm); (case kK => first | exact rfl | assumption); (case kx => k_mem); (case ks => k_mem); (case kr => (repeat' (first | exact RemD.nil | (refine' RemD.drop ?_) | (refine' RemD.keepD ?rt ?_; (case rt => rfl)) | (refine' RemD.skip ?_)))); (case hr => assumption); (case hn => assumption); (case hl => omega); (case kd => ktr_room); (case ku => ktr_units))); intro t9 n9 k91 k92 k93 k94 h9 tk9 hr9 hn9 F9 N9; (try dsimp only); (try k_sweep); (try k_fold))
  k_with "mycall" => ((with_reducible show wpAny _ _ (call (Value.ref 208) _) _ _ _); (k_dflt (refine' (c_whole_of w mean mg mb _ _ (fun _ => mem_takeWhile) ?hl).useI ?k1 ?k2 ?k3 ?k4 ?k5 ?kK ?ks ?kd ?ku ?_; (case k1 => k_asm); (case k2 => k_asm); (case k3 => k_asm); (case k4 => k_asm); (case k5 => k_asm); (case kK => first | exact rfl | assumption); (case ks => (repeat' (first | exact List.forall_mem_nil _ | (refine List.forall_mem_cons.mpr ⟨by k_mem, ?_⟩)))); (case hl => exact Nat.le_trans (tw_le (by assumption) (by assumption)) (by decide)); (case kd => ktr_room); (case ku => ktr_units))); intro t9 h9 tk9 F9 N9; (try dsimp only); (try k_sweep); (try k_fold))
  k_with "myraise" => (exfalso; first | exact no_some (ex_none1 (by assumption) (by assumption)) hok | exact no_some (ex_none2 (by assumption) (by assumption) (by assumption)) hok | exact no_some (ex_none3 (by assumption) (by assumption) (by assumption) (by assumption)) hok)
  intro dp un gd cn cs a ccd cl outer A₀ base h₀ L m s Q E B F X N T hck hdp hun hret
  have hlen := drop_len hr hn
  k_dflt (refine' sp_enter B F X N T hck hret ?k6 ?k7 ?k8 ?k9 ?kB ?_ ?c2 ?c3 ?c4 ?c5; (case k6 => k_is); (case k7 => k_is); (case k8 => omega); (case k9 => first | exact BindsTo.of_eq rfl | exact binds_K (by k_in) rfl (by k_is) rfl rfl rfl); (case c5 => decide); (case kB => exact locs rfl); (case c2 => exact rfl); (case c3 => exact rfl); (case c4 => exact rfl))
  intro g' L' h' FG' F' N' B' X' T' GS'
  (try dsimp only); (try k_fold)
  k_steps
  all_goals first
    | exact endEx (by assumption) (by assumption) (by k_mem) (by k_mem) hok (by assumption) (by assumption) (ex_some0 (by assumption))
    | exact endEx (by assumption) (by assumption) (by k_mem) (by k_mem) hok (by assumption) (by assumption) (ex_some1 (by assumption) (by assumption) (by assumption) (by assumption) (by assumption))
    | exact endEx (by assumption) (by assumption) (by k_mem) (by k_mem) hok (by assumption) (by assumption) (ex_some2 (by assumption) (by assumption) (by assumption) (by assumption) (by assumption))
end Mine
namespace Mine
theorem rst_B20 : True := by
  w_top off
  trivial
end Mine
set_option maxRecDepth 100000
namespace Mine
open PySem PySem.W PyProof.Rows PySem.Spec PySem.Calls PySem.NumText
local macro_rules | `(tactic| walk_at "exec For Tuple BinOp cons nil") => `(tactic| (k_here; (rename Fr _ _ _ _ => lF'); (with_unfolding_all refine' For_turns lF' ?_); k_whole))
local macro_rules | `(tactic| walk_at "call ref") => `(tactic| (k_here; k_extra "mycall"))
local macro_rules | `(tactic| walk_at "binaryOp FloorDiv int int") => `(tactic| (k_here; k_extra "mydiv"))
local macro_rules | `(tactic| walk_at "binaryOp Mod int int") => `(tactic| (k_here; k_extra "mymod"))
local macro_rules | `(tactic| walk_at "binaryOp Mult int int") => `(tactic| (k_here; k_extra "mymul"))
local macro_rules | `(tactic| walk_at "setAttr ref") => `(tactic| (k_here; k_extra "mysetattr"))
local macro_rules | `(tactic| walk_at "leaving ref") => `(tactic| (k_here; k_extra "myleave"))
local macro_rules | `(tactic| walk_at "exec Raise some none") => `(tactic| (k_here; k_extra "myraise"))
local macro_rules | `(tactic| walk_at "subscriptTail") => `(tactic| (k_here; k_extra "mysub"))
local macro_rules | `(tactic| walk_at "compareOp In str str") => `(tactic| (k_here; k_extra "myin"))
local macro_rules | `(tactic| walk_at "compareOp Eq str str") => `(tactic| (k_here; k_extra "myeq"))
local macro_rules | `(tactic| walk_at "compareOp NotEq str str") => `(tactic| (k_here; k_extra "myne"))
local macro_rules | `(tactic| walk_at "binaryOp Add str str") => `(tactic| (k_here; k_extra "myadd"))
local macro_rules | `(tactic| walk_at "call builtin:len") => `(tactic| (k_here; k_extra "mylen"))

def Srz2 (w : World) (mean : ExcName → Option Value) (mg mb : Str → Option Value) (f : Addr) (k : Nat) (vs : List Value) (led led' : List (Addr × Obj)) : Prop :=
  ∀ (dp un : Nat) (gd : Option (List Code)) (cn : Str) (cs : Scope) (a : Addr) (ccd : Value) (cl : List (Str × Addr)) (outer : List Env) (A₀ : Around) (base h₀ : Heap) (L : Addr) (m : Str → Option Value) (s : Shared) (Q E : Value → Shared → Prop),
    Below A₀ base outer h₀ → Fr h₀ L s.heap m → (Mine.hpK w.params).In h₀ → News h₀ L s.heap led → Top Mine.vwV (looseW Mine.vwV [Str.ofString "fraction", Str.ofString "write_decimal"]) mean mg mb h₀ → cs.kind = .function →
    dp + k < recursionLimit → un + 8 * k < cLine →
    SrzRet base h₀ L m (envX cn cs L a ccd cl :: outer) led' E s →
    wpAny (model PySem.Challenge.rw_nu0015_01.row.prog w) (ktrTop dp un gd cn cs L a ccd cl outer) (call (.ref f) vs) Q E s
theorem less {base G : Heap} {l : List Env} {e : Addr} {cls : Value} {t : Addr} {vs : List Value} {news news' : List (Addr × Obj)} {h : Heap} (R : RaisedS base G l e cls t vs news h) (hs : ∀ p ∈ news', p ∈ news) : RaisedS base G l e cls t vs news' h := by
  obtain ⟨⟨B, h1, h2, h3, h4⟩, h5⟩ := R
  exact ⟨⟨B, h1, h2, fun q hq => h3 q (hs q hq), h4⟩, h5⟩
set_option maxHeartbeats 8000000 in
theorem c_exp_r (w : World) (mean : ExcName → Option Value) (mg mb : Str → Option Value) (own : List (Addr × Obj)) (x dx : Addr) (l r : List Nat) (n : Nat) (k1 k2 k3 k4 : Tok) (hr : l.drop n = r) (hn : n ≤ l.length) (hl : l.length ≤ 1000) (hne : @LT.lt Nat _ dx x) (hown : ∀ p ∈ own, p.1 < dx) (hok : expR r = none) :
  Srz2 w mean mg mb 215 127 [.ref x] ((x, instObj 197 dx) :: (dx, rdO w (tx l) n k1 k2 k3 k4) :: own) own := by
  unfold Srz2
  k_fill
  k_with_none
  k_with "myraise" => (k_dflt (refine' nf_raise_stmt ?k3 ?kC ?kb ?kh ?_; (case k3 => k_asm); (case kC => k_is); (case kb => rfl); (case kh => first | rfl | assumption); k_whole))
  k_with "mycall" => ((with_reducible show wpAny _ _ (call (Value.ref 44) [Value.str _ _]) _ _ _); (k_dflt (refine' nf_make ?k1 ?k2 ?k3 ?k5 ?kK ?kC ?kB ?kA ?kN ?ki ?kf ?kd ?ku ?_; (case k1 => k_asm); (case k2 => k_asm); (case k3 => k_asm); (case k5 => k_asm); (case kK => first | exact rfl | assumption); (case kC => k_is); (case kB => rfl); (case kA => rfl); (case kN => rfl); (case ki => k_is); (case kf => k_is); (case kd => ktr_room); (case ku => ktr_units))); intro e' t' h' tk' R'; (try dsimp only))
  k_with "myleave" => ((k_dflt (refine' nf_leave ?k1 ?k2 ?k3 ?k4 ?_ ?k6; (case k2 => assumption); (case k1 => k_asm); (case k3 => k_asm); (case k4 => k_asm); (case k6 => rfl))); intro h' R' U'; (try dsimp only at R' U' ⊢))
  k_with "myeq" => ((with_reducible show wpAny _ _ (compareOp CmpOp.Eq (Value.str (tx _) _) (Value.str _ _)) _ _ _); (first | refine' my_eq_nil rfl ?_ | refine' my_eq (b := [45]) rfl ?_))
  k_with "myne" => ((with_reducible show wpAny _ _ (compareOp CmpOp.NotEq (Value.str (tx _) _) (Value.str _ _)) _ _ _); refine' my_ne_nil rfl ?_)
  k_with "mylen" => ((with_reducible show wpAny _ _ (call (Value.builtin "len") [Value.str (tx _) _]) _ _ _); refine' my_lent ?hlen ?_; (case hlen => first | exact tw_le (by assumption) (by assumption) | exact tw_le2 (by assumption) (by assumption) (by assumption)))
  k_with "mycall" => ((with_reducible show wpAny _ _ (call (Value.ref 187) _) _ _ _); (k_dflt (refine' (c_skip w mean mg mb _ _ _ _ _ _ _ _ _ _ _ ?hr ?hn ?hl hne).useSk ?k1 ?k2 ?k3 ?k4 ?k5 ?kK ?kx ?ks ?kr ?kd ?ku ?_; (case k1 => k_asm); (case k2 => k_asm); (case k3 => k_asm); (case k4 => k_asm); (case k5 => k_asm); (case kK => first | exact rfl | assumption); (case kx => k_mem); (case ks => k_mem); (case kr => (repeat' (first | exact RemD.nil | exact RemD.all (by assumption) | (refine' RemD.drop ?_) | (refine' RemD.keepD ?rt ?_; (case rt => rfl)) | (refine' RemD.skip ?_)))); (case hr => assumption); (case hn => assumption); (case hl => omega); (case kd => ktr_room); (case ku => ktr_units))); intro t9 n9 k91 k92 k93 k94 h9 tk9 hr9 hn9 F9 N9; (try dsimp only); (try k_sweep); (try k_fold))
  k_with "mycall" => ((with_reducible show wpAny _ _ (call (Value.ref 194) _) _ _ _); (k_dflt (refine' (c_digits w mean mg mb _ _ _ _ _ _ _ _ _ ?hr ?hn ?hl hne).useSk ?k1 ?k2 ?k3 ?k4 ?k5 ?kK ?kx ?ks ?kr ?kd ?ku ?_; (case k1 => k_asm); (case k2 => k_asm); (case k3 => k_asm); (case k4 => k_asm); (case k5 => k_asm); (case kK => first | exact rfl | assumption); (case kx => k_mem); (case ks => k_mem); (case kr => (repeat' (first | exact RemD.nil | exact RemD.all (by assumption) | (refine' RemD.drop ?_) | (refine' RemD.keepD ?rt ?_; (case rt => rfl)) | (refine' RemD.skip ?_)))); (case hr => assumption); (case hn => assumption); (case hl => omega); (case kd => ktr_room); (case ku => ktr_units))); intro t9 n9 k91 k92 k93 k94 h9 tk9 hr9 hn9 F9 N9; (try dsimp only); (try k_sweep); (try k_fold))
  k_with "mycall" => ((with_reducible show wpAny _ _ (call (Value.ref 208) _) _ _ _); (k_dflt (refine' (c_whole_of w mean mg mb _ _ (fun _ => mem_takeWhile) ?hl).useI ?k1 ?k2 ?k3 ?k4 ?k5 ?kK ?ks ?kd ?ku ?_; (case k1 => k_asm); (case k2 => k_asm); (case k3 => k_asm); (case k4 => k_asm); (case k5 => k_asm); (case kK => first | exact rfl | assumption); (case ks => (repeat' (first | exact List.forall_mem_nil _ | (refine List.forall_mem_cons.mpr ⟨by k_mem, ?_⟩)))); (case hl => exact Nat.le_trans (tw_le (by assumption) (by assumption)) (by decide)); (case kd => ktr_room); (case ku => ktr_units))); intro t9 h9 tk9 F9 N9; (try dsimp only); (try k_sweep); (try k_fold))
  intro dp un gd cn cs a ccd cl outer A₀ base h₀ L m s Q E B F X N T hck hdp hun hraise
  have hlen := drop_len hr hn
  k_dflt (refine' sp_enter B F X N T hck spret_no ?k6 ?k7 ?k8 ?k9 ?kB ?_ ?c2 ?c3 ?c4 ?c5; (case k6 => k_is); (case k7 => k_is); (case k8 => omega); (case k9 => first | exact BindsTo.of_eq rfl | exact binds_K (by k_in) rfl (by k_is) rfl rfl rfl); (case c5 => decide); (case kB => exact locs rfl); (case c2 => exact rfl); (case c3 => exact rfl); (case c4 => exact rfl))
  intro g' L' h' FG' F' N' B' X' T' GS'
  (try dsimp only); (try k_fold)
  k_steps
  all_goals first
    | exact hraise _ _ _ _ _ _ (by assumption) (less (by assumption) (by (repeat' (first | exact List.forall_mem_nil _ | (refine List.forall_mem_cons.mpr ⟨by k_mem, ?_⟩) | exact fun _ hp => hp | exact fun _ hp => .tail _ hp | exact fun _ hp => .tail _ (.tail _ hp) | exact fun _ hp => .tail _ (.tail _ (.tail _ hp)) | exact fun _ hp => .tail _ (.tail _ (.tail _ (.tail _ hp))) | exact fun _ hp => (by (repeat (first | exact hp | refine List.Mem.tail _ ?_))))))) (by assumption)
    | (exact (no_some hok (ex_some0 (by assumption))).elim)
    | (exact (no_some hok (ex_some1 (by assumption) (by assumption) (by assumption) (by assumption) (by assumption))).elim)
    | (exact (no_some hok (ex_some2 (by assumption) (by assumption) (by assumption) (by assumption) (by assumption))).elim)
end Mine
namespace Mine
theorem rst_B21 : True := by
  w_top off
  trivial
end Mine
set_option maxRecDepth 100000
namespace Mine
open PySem PySem.W PyProof.Rows PySem.Spec PySem.Calls PySem.NumText
local macro_rules | `(tactic| walk_at "exec For Tuple BinOp cons nil") => `(tactic| (k_here; (rename Fr _ _ _ _ => lF'); (with_unfolding_all refine' For_turns lF' ?_); k_whole))
local macro_rules | `(tactic| walk_at "call ref") => `(tactic| (k_here; k_extra "mycall"))
local macro_rules | `(tactic| walk_at "binaryOp FloorDiv int int") => `(tactic| (k_here; k_extra "mydiv"))
local macro_rules | `(tactic| walk_at "binaryOp Mod int int") => `(tactic| (k_here; k_extra "mymod"))
local macro_rules | `(tactic| walk_at "binaryOp Mult int int") => `(tactic| (k_here; k_extra "mymul"))
local macro_rules | `(tactic| walk_at "setAttr ref") => `(tactic| (k_here; k_extra "mysetattr"))
local macro_rules | `(tactic| walk_at "leaving ref") => `(tactic| (k_here; k_extra "myleave"))
local macro_rules | `(tactic| walk_at "exec Raise some none") => `(tactic| (k_here; k_extra "myraise"))
local macro_rules | `(tactic| walk_at "subscriptTail") => `(tactic| (k_here; k_extra "mysub"))
local macro_rules | `(tactic| walk_at "compareOp In str str") => `(tactic| (k_here; k_extra "myin"))
local macro_rules | `(tactic| walk_at "compareOp Eq str str") => `(tactic| (k_here; k_extra "myeq"))
local macro_rules | `(tactic| walk_at "compareOp NotEq str str") => `(tactic| (k_here; k_extra "myne"))
local macro_rules | `(tactic| walk_at "binaryOp Add str str") => `(tactic| (k_here; k_extra "myadd"))
local macro_rules | `(tactic| walk_at "call builtin:len") => `(tactic| (k_here; k_extra "mylen"))
local macro_rules | `(tactic| k_room) => `(tactic| ktr_room)
local macro_rules | `(tactic| k_units) => `(tactic| ktr_units)
local macro_rules | `(tactic| walk_at "binaryOp Pow int int") => `(tactic| (k_here; k_extra "mypow"))

theorem my_add {prog : Program} {w : World} {A : Around} {E : Value → Shared → Prop} {s : Shared} {a b : List Nat} {y : Str} {t u : Tok} {Q : Value → Shared → Prop}
    (hy : y.cps.toList = b) (hl : a.length + b.length ≤ 10000) (h : ∀ t' k, Q (.str (tx (a ++ b)) t') { s with toks := k }) : wpAny (model prog w) A (binaryOp .Add (.str (tx a) t) (.str y u)) Q E s := by
  obtain ⟨⟨yl⟩⟩ := y
  subst hy
  refine SBL.add (fun t' k => ?_) (by rw [tx_length]; show a.length + yl.length ≤ sizeLine; rw [sizeLine_eq]; have : yl.length ≤ 10000 := by (simp at hl; omega)
                                      have := hl; simp at this; omega)
  have : (tx a ++ ⟨⟨yl⟩⟩ : Str) = tx (a ++ yl) := by
    show Str.mk (a.toArray ++ ⟨yl⟩) = Str.mk _
    congr 1
    apply Array.ext'
    simp
  rw [this]
  exact fun _ => h t' k
def numS (s D : List Nat) : Int := if s = [45] then -(digitsVal D : Int) else (digitsVal D : Int)
/-- a decimal read: the digits as a whole number, the power of ten -/
def decS (l : List Nat) : Option (Int × Int) :=
  if (skipR ((skipR l (Str.ofString "+-").cps.toList).2.dropWhile isD) (Str.ofString ".").cps.toList).1 = [] then
    if ((skipR l (Str.ofString "+-").cps.toList).2.takeWhile isD) ++ [] = [] then none else
    match expR (skipR ((skipR l (Str.ofString "+-").cps.toList).2.dropWhile isD) (Str.ofString ".").cps.toList).2 with
    | none => none
    | some (e, r) => if r = [] then some (numS (skipR l (Str.ofString "+-").cps.toList).1 (((skipR l (Str.ofString "+-").cps.toList).2.takeWhile isD) ++ []), e) else none
  else
    if ((skipR l (Str.ofString "+-").cps.toList).2.takeWhile isD) ++ ((skipR ((skipR l (Str.ofString "+-").cps.toList).2.dropWhile isD) (Str.ofString ".").cps.toList).2.takeWhile isD) = [] then none else
    match expR ((skipR ((skipR l (Str.ofString "+-").cps.toList).2.dropWhile isD) (Str.ofString ".").cps.toList).2.dropWhile isD) with
    | none => none
    | some (e, r) => if r = [] then some (numS (skipR l (Str.ofString "+-").cps.toList).1 (((skipR l (Str.ofString "+-").cps.toList).2.takeWhile isD) ++ ((skipR ((skipR l (Str.ofString "+-").cps.toList).2.dropWhile isD) (Str.ofString ".").cps.toList).2.takeWhile isD)), e - ((skipR ((skipR l (Str.ofString "+-").cps.toList).2.dropWhile isD) (Str.ofString ".").cps.toList).2.takeWhile isD).length) else none
theorem dec_ok1 {l : List Nat} {v e : Int} (h : decS l = some (v, e)) (hP : (skipR ((skipR l (Str.ofString "+-").cps.toList).2.dropWhile isD) (Str.ofString ".").cps.toList).1 = []) : expR (skipR ((skipR l (Str.ofString "+-").cps.toList).2.dropWhile isD) (Str.ofString ".").cps.toList).2 = some (e, []) ∧ ¬ ((skipR l (Str.ofString "+-").cps.toList).2.takeWhile isD) ++ [] = [] ∧ v = numS (skipR l (Str.ofString "+-").cps.toList).1 (((skipR l (Str.ofString "+-").cps.toList).2.takeWhile isD) ++ []) := by
  unfold decS at h
  rw [if_pos hP] at h
  split at h
  · cases h
  · split at h
    · cases h
    · split at h
      · cases h; subst_vars; exact ⟨by assumption, by assumption, rfl⟩
      · cases h
theorem dec_ok2 {l : List Nat} {v e : Int} (h : decS l = some (v, e)) (hP : ¬ (skipR ((skipR l (Str.ofString "+-").cps.toList).2.dropWhile isD) (Str.ofString ".").cps.toList).1 = []) : expR ((skipR ((skipR l (Str.ofString "+-").cps.toList).2.dropWhile isD) (Str.ofString ".").cps.toList).2.dropWhile isD) = some (e + ((skipR ((skipR l (Str.ofString "+-").cps.toList).2.dropWhile isD) (Str.ofString ".").cps.toList).2.takeWhile isD).length, []) ∧ ¬ ((skipR l (Str.ofString "+-").cps.toList).2.takeWhile isD) ++ ((skipR ((skipR l (Str.ofString "+-").cps.toList).2.dropWhile isD) (Str.ofString ".").cps.toList).2.takeWhile isD) = [] ∧ v = numS (skipR l (Str.ofString "+-").cps.toList).1 (((skipR l (Str.ofString "+-").cps.toList).2.takeWhile isD) ++ ((skipR ((skipR l (Str.ofString "+-").cps.toList).2.dropWhile isD) (Str.ofString ".").cps.toList).2.takeWhile isD)) := by
  unfold decS at h
  rw [if_neg hP] at h
  split at h
  · cases h
  · split at h
    · cases h
    · rename_i e0 r0 he0
      split at h
      · cases h; subst_vars; refine ⟨?_, by assumption, rfl⟩; rw [he0]; congr 2; omega
      · cases h
theorem add_len0 {a : List Nat} (h : a.length ≤ 1000) : a.length + ([] : List Nat).length ≤ 10000 := by simp; omega
theorem add_len {a b : List Nat} (h : a.length ≤ 1000) (h2 : b.length ≤ 1000) : a.length + b.length ≤ 10000 := by omega
theorem c_skip0 (w : World) (mean : ExcName → Option Value) (mg mb : Str → Option Value) (x dx : Addr) (l : List Nat) (signs : Str) (k1 k2 k3 k4 k5 : Tok) (hl : l.length ≤ 100000) (hne : @LT.lt Nat _ dx x) :
    Sp w mean mg mb 187 112 [.ref x, .str signs k5] [(x, instObj 197 dx), (dx, rdO w (tx l) 0 k1 k2 k3 k4)] [dx] (OutSk w l dx (skipR l signs.cps.toList).1 (skipR l signs.cps.toList).2) :=
  c_skip w mean mg mb x dx l l signs 0 k1 k2 k3 k4 k5 rfl (Nat.zero_le _) hl hne
theorem all_app {a b : List Nat} (ha : ∀ c ∈ a, isD c = true) (hb : ∀ c ∈ b, isD c = true) : ∀ c ∈ a ++ b, isD c = true := fun c hc => (List.mem_append.mp hc).elim (ha c) (hb c)
theorem all_tw {r : List Nat} : ∀ c ∈ r.takeWhile isD, isD c = true := fun _ => mem_takeWhile
theorem all_nil : ∀ c ∈ ([] : List Nat), isD c = true := fun _ h => nomatch h
theorem app_len {a : List Nat} (h : a.length ≤ 1000) : (a ++ []).length ≤ 2000 := by simp; omega
theorem app_len2 {a b : List Nat} (h : a.length ≤ 1000) (h2 : b.length ≤ 1000) : (a ++ b).length ≤ 2000 := by simp; omega
theorem pow10_ne {n : Nat} : (10 : Int) ^ n ≠ 0 := Int.pow_ne_zero (by decide)
theorem pow10_bt {n : Nat} (h : n ≤ 20) : Bt 64000 ((10 : Int) ^ n) := by
  unfold Bt
  have h1 : ∀ n : Fin 21, Builtin.Int.intBits ((10 : Int) ^ n.val) ≤ 64000 := by decide +kernel
  exact h1 ⟨n, by omega⟩
theorem num1 {S D : List Nat} {v : Int} (e : v = numS S D) (h : S = [45]) : -(digitsVal D : Int) = v := by rw [e]; unfold numS; rw [if_pos h]
theorem num2 {S D : List Nat} {v : Int} (e : v = numS S D) (h : ¬ S = [45]) : (digitsVal D : Int) = v := by rw [e]; unfold numS; rw [if_neg h]
theorem mulP1 {S D : List Nat} {v : Int} {n : Nat} (e : v = numS S D) (h : S = [45]) (hv : Bt 2000 v) (hn : n ≤ 20) : PySem.IntMulOk (-(digitsVal D : Int)) (10 ^ n) := by
  rw [num1 e h]; exact mulok hv.sz (pow10_bt hn).sz
theorem mulP2 {S D : List Nat} {v : Int} {n : Nat} (e : v = numS S D) (h : ¬ S = [45]) (hv : Bt 2000 v) (hn : n ≤ 20) : PySem.IntMulOk ((digitsVal D : Int)) (10 ^ n) := by
  rw [num2 e h]; exact mulok hv.sz (pow10_bt hn).sz
def decX (v e : Int) : Int := if e < 0 then frT v (10 ^ (-e).toNat) else v * 10 ^ e.toNat
def decY (v e : Int) : Int := if e < 0 then frB v (10 ^ (-e).toNat) else 1
theorem decX_neg {v e e' n : Int} (h : e' < 0) (he : e' = e) (hn : n = v) : frT n (10 ^ (-e').toNat) = decX v e := by subst he; subst hn; unfold decX; rw [if_pos h]
theorem decY_neg {v e e' n : Int} (h : e' < 0) (he : e' = e) (hn : n = v) : frB n (10 ^ (-e').toNat) = decY v e := by subst he; subst hn; unfold decY; rw [if_pos h]
theorem decX_pos {v e e' n : Int} (h : ¬ e' < 0) (he : e' = e) (hn : n = v) : n * 10 ^ e'.toNat = decX v e := by subst he; subst hn; unfold decX; rw [if_neg h]
theorem decY_pos {v e e' : Int} (h : ¬ e' < 0) (he : e' = e) : 1 = decY v e := by subst he; unfold decY; rw [if_neg h]
set_option maxHeartbeats 8000000 in
theorem c_dec (w : World) (mean : ExcName → Option Value) (mg mb : Str → Option Value) (l : List Nat) (t : Tok) (hl : l.length ≤ 1000) (v e : Int) (hok : decS l = some (v, e)) (he1 : -20 ≤ e) (he2 : e ≤ 20) (hv : Bt 2000 v) :
  Sp w mean mg mb 222 122 [.str (tx l) t] [] [] (OutT (decX v e) (decY v e)) := by
  unfold Sp
  k_fill
  k_with_none
  k_with "myeq" => ((with_reducible show wpAny _ _ (compareOp CmpOp.Eq (Value.str (tx _) _) (Value.str _ _)) _ _ _); (first | refine' my_eq_nil rfl ?_ | refine' my_eq (b := [45]) rfl ?_))
  k_with "myne" => ((with_reducible show wpAny _ _ (compareOp CmpOp.NotEq (Value.str (tx _) _) (Value.str _ _)) _ _ _); refine' my_ne_nil rfl ?_)
  k_with "mylen" => ((with_reducible show wpAny _ _ (call (Value.builtin "len") [Value.str (tx _) _]) _ _ _); refine' my_lent ?hlen ?_; (case hlen => first | exact tw_le (by assumption) (by assumption) | exact tw_le2 (by assumption) (by assumption) (by assumption)))
  k_with "myadd" => ((with_reducible show wpAny _ _ (binaryOp Operator.Add (Value.str (tx _) _) (Value.str _ _)) _ _ _); (first | refine' my_add (b := []) rfl ?hadd ?_ | refine' my_add rfl ?hadd ?_); (case hadd => first | exact add_len0 (tw_le (by assumption) hl) | exact add_len (tw_le (by assumption) hl) (tw_le (by assumption) hl)); intro _ _; (try dsimp only))
  k_with "mycall" => ((with_reducible show wpAny _ _ (call (Value.ref 187) _) _ _ _); (k_dflt (refine' (c_skip0 w mean mg mb _ _ _ _ _ _ _ _ _ ?hl ?hne).useSk ?k1 ?k2 ?k3 ?k4 ?k5 ?kK ?kx ?ks ?kr ?kd ?ku ?_; (case k1 => k_asm); (case k2 => k_asm); (case k3 => k_asm); (case k4 => k_asm); (case k5 => k_asm); (case kK => first | exact rfl | assumption); (case kx => k_mem); (case ks => k_mem); (case kr => (repeat' (first | exact RemD.nil | (refine' RemD.drop ?_) | (refine' RemD.keepD ?rt ?_; (case rt => rfl)) | (refine' RemD.skip ?_)))); (case hl => omega); (case hne => first | assumption | omega); (case kd => ktr_room); (case ku => ktr_units))); intro t9 n9 k91 k92 k93 k94 h9 tk9 hr9 hn9 F9 N9; (try dsimp only); (try k_sweep); (try k_fold))
  k_with "mycall" => ((with_reducible show wpAny _ _ (call (Value.ref 187) _) _ _ _); (k_dflt (refine' (c_skip w mean mg mb _ _ _ _ _ _ _ _ _ _ _ ?hr ?hn ?hl ?hne).useSk ?k1 ?k2 ?k3 ?k4 ?k5 ?kK ?kx ?ks ?kr ?kd ?ku ?_; (case k1 => k_asm); (case k2 => k_asm); (case k3 => k_asm); (case k4 => k_asm); (case k5 => k_asm); (case kK => first | exact rfl | assumption); (case kx => k_mem); (case ks => k_mem); (case kr => (repeat' (first | exact RemD.nil | (refine' RemD.drop ?_) | (refine' RemD.keepD ?rt ?_; (case rt => rfl)) | (refine' RemD.skip ?_)))); (case hr => assumption); (case hn => first | assumption | omega); (case hl => omega); (case hne => first | assumption | omega); (case kd => ktr_room); (case ku => ktr_units))); intro t9 n9 k91 k92 k93 k94 h9 tk9 hr9 hn9 F9 N9; (try dsimp only); (try k_sweep); (try k_fold))
  k_with "mycall" => ((with_reducible show wpAny _ _ (call (Value.ref 194) _) _ _ _); (k_dflt (refine' (c_digits w mean mg mb _ _ _ _ _ _ _ _ _ ?hr ?hn ?hl ?hne).useSk ?k1 ?k2 ?k3 ?k4 ?k5 ?kK ?kx ?ks ?kr ?kd ?ku ?_; (case k1 => k_asm); (case k2 => k_asm); (case k3 => k_asm); (case k4 => k_asm); (case k5 => k_asm); (case kK => first | exact rfl | assumption); (case kx => k_mem); (case ks => k_mem); (case kr => (repeat' (first | exact RemD.nil | (refine' RemD.drop ?_) | (refine' RemD.keepD ?rt ?_; (case rt => rfl)) | (refine' RemD.skip ?_)))); (case hr => assumption); (case hn => assumption); (case hl => omega); (case hne => first | assumption | omega); (case kd => ktr_room); (case ku => ktr_units))); intro t9 n9 k91 k92 k93 k94 h9 tk9 hr9 hn9 F9 N9; (try dsimp only); (try k_sweep); (try k_fold))
  k_with "mycall" => ((with_reducible show wpAny _ _ (call (Value.ref 208) _) _ _ _); (k_dflt (refine' (c_whole_of w mean mg mb _ _ ?hq ?hl).useI ?k1 ?k2 ?k3 ?k4 ?k5 ?kK ?ks ?kd ?ku ?_; (case k1 => k_asm); (case k2 => k_asm); (case k3 => k_asm); (case k4 => k_asm); (case k5 => k_asm); (case kK => first | exact rfl | assumption); (case ks => (repeat' (first | exact List.forall_mem_nil _ | (refine List.forall_mem_cons.mpr ⟨by k_mem, ?_⟩)))); (case hq => first | exact all_app all_tw all_tw | exact all_app all_tw all_nil); (case hl => first | exact app_len (tw_le (by assumption) hl) | exact app_len2 (tw_le (by assumption) hl) (tw_le (by assumption) hl)); (case kd => ktr_room); (case ku => ktr_units))); intro t9 h9 tk9 F9 N9; (try dsimp only); (try k_sweep); (try k_fold))
  k_with "mycall" => ((with_reducible show wpAny _ _ (call (Value.ref 215) _) _ _ _); (obtain ⟨e1, e2, e3⟩ := dec_ok1 hok (by assumption)); (k_dflt (refine' (c_exp w mean mg mb _ _ _ _ _ _ _ _ _ ?hr ?hn hl ?hne _ _ e1).useEx ?k1 ?k2 ?k3 ?k4 ?k5 ?kK ?kx ?ks ?kr ?kd ?ku ?_; (case k1 => k_asm); (case k2 => k_asm); (case k3 => k_asm); (case k4 => k_asm); (case k5 => k_asm); (case kK => first | exact rfl | assumption); (case hr => assumption); (case hn => assumption); (case hne => first | assumption | omega); (case kx => k_mem); (case ks => k_mem); (case kr => (repeat' (first | exact RemD.nil | (refine' RemD.drop ?_) | (refine' RemD.keepD ?rt ?_; (case rt => rfl)) | (refine' RemD.skip ?_)))); (case kd => ktr_room); (case ku => ktr_units))); intro t9 n9 k91 k92 k93 k94 h9 tk9 hn9 F9 N9; (simp only [List.length_nil, Nat.add_zero] at hn9); (try dsimp only); (try k_sweep); (try k_fold))
  k_with "mycall" => ((with_reducible show wpAny _ _ (call (Value.ref 215) _) _ _ _); (obtain ⟨e1, e2, e3⟩ := dec_ok2 hok (by assumption)); (k_dflt (refine' (c_exp w mean mg mb _ _ _ _ _ _ _ _ _ ?hr ?hn hl ?hne _ _ e1).useEx ?k1 ?k2 ?k3 ?k4 ?k5 ?kK ?kx ?ks ?kr ?kd ?ku ?_; (case k1 => k_asm); (case k2 => k_asm); (case k3 => k_asm); (case k4 => k_asm); (case k5 => k_asm); (case kK => first | exact rfl | assumption); (case hr => assumption); (case hn => assumption); (case hne => first | assumption | omega); (case kx => k_mem); (case ks => k_mem); (case kr => (repeat' (first | exact RemD.nil | (refine' RemD.drop ?_) | (refine' RemD.keepD ?rt ?_; (case rt => rfl)) | (refine' RemD.skip ?_)))); (case kd => ktr_room); (case ku => ktr_units))); intro t9 n9 k91 k92 k93 k94 h9 tk9 hn9 F9 N9; (simp only [List.length_nil, Nat.add_zero] at hn9); (try dsimp only); (try k_sweep); (try k_fold))
  k_with "mycall" => ((with_reducible show wpAny _ _ (call (Value.ref 61) _) _ _ _); (k_dflt (refine' (c_fr w mean mg mb _ _ _ _ ?hy).useT ?k1 ?k2 ?k3 ?k4 ?k5 ?kK ?ks ?kd ?ku ?_; (case k1 => k_asm); (case k2 => k_asm); (case k3 => k_asm); (case k4 => k_asm); (case k5 => k_asm); (case kK => first | exact rfl | assumption); (case ks => (repeat' (first | exact List.forall_mem_nil _ | (refine List.forall_mem_cons.mpr ⟨by k_mem, ?_⟩)))); (case hy => exact pow10_ne); (case kd => ktr_room); (case ku => ktr_units))); intro a9 t9 u9 h9 tk9 F9 N9 ne9; (try simp only [NeAll, and_true] at ne9); (try dsimp only); (try k_sweep); (try k_fold))
  k_with "mymul" => (k_dflt (refine' mul_int ?_ ?hm; (case hm => first | exact mulP1 (by assumption) (by assumption) hv (by omega) | exact mulP2 (by assumption) (by assumption) hv (by omega))))
  k_with "mypow" => (k_dflt (refine' pow_int_small ?hm1 ?hm2 ?hm3 ?_; (case hm1 => omega); (case hm2 => omega); (case hm3 => decide)))
  k_with "myraise" => (exfalso; first | exact absurd (by assumption) (dec_ok1 hok (by assumption)).2.1 | exact absurd (by assumption) (dec_ok2 hok (by assumption)).2.1)
  intro dp un gd cn cs a ccd cl outer A₀ base h₀ L m s Q E B F X N T hck hdp hun hret
  have htl := tx_length l
  k_dflt (refine' sp_enter B F X N T hck hret ?k6 ?k7 ?k8 ?k9 ?kB ?_ ?c2 ?c3 ?c4 ?c5; (case k6 => k_is); (case k7 => k_is); (case k8 => omega); (case k9 => first | exact BindsTo.of_eq rfl | exact binds_K (by k_in) rfl (by k_is) rfl rfl rfl); (case c5 => decide); (case kB => exact locs rfl); (case c2 => exact rfl); (case c3 => exact rfl); (case c4 => exact rfl))
  intro g' L' h' FG' F' N' B' X' T' GS'
  (try dsimp only); (try k_fold)
  k_steps
  all_goals first
    | exact endT (by assumption) (by assumption) (by assumption) (fun _ hp => nomatch hp) (by k_mem) (fun _ hp => nomatch hp) (decX_neg (by assumption) (by omega) (by first | exact num1 (by assumption) (by assumption) | exact num2 (by assumption) (by assumption))) (decY_neg (by assumption) (by omega) (by first | exact num1 (by assumption) (by assumption) | exact num2 (by assumption) (by assumption)))
    | exact endT (by assumption) (by assumption) (by assumption) (fun _ hp => nomatch hp) (by k_mem) (fun _ hp => nomatch hp) (decX_pos (by assumption) (by omega) (by first | exact num1 (by assumption) (by assumption) | exact num2 (by assumption) (by assumption))) (decY_pos (by assumption) (by omega))
end Mine
namespace Mine
theorem rst_B22 : True := by
  w_top off
  trivial
end Mine
set_option maxRecDepth 100000
namespace Mine
open PySem PySem.W PyProof.Rows PySem.Spec PySem.Calls PySem.NumText
local macro_rules | `(tactic| walk_at "exec For Tuple BinOp cons nil") => `(tactic| (k_here; (rename Fr _ _ _ _ => lF'); (with_unfolding_all refine' For_turns lF' ?_); k_whole))
local macro_rules | `(tactic| walk_at "call ref") => `(tactic| (k_here; k_extra "mycall"))
local macro_rules | `(tactic| walk_at "binaryOp FloorDiv int int") => `(tactic| (k_here; k_extra "mydiv"))
local macro_rules | `(tactic| walk_at "binaryOp Mod int int") => `(tactic| (k_here; k_extra "mymod"))
local macro_rules | `(tactic| walk_at "binaryOp Mult int int") => `(tactic| (k_here; k_extra "mymul"))
local macro_rules | `(tactic| walk_at "setAttr ref") => `(tactic| (k_here; k_extra "mysetattr"))
local macro_rules | `(tactic| walk_at "leaving ref") => `(tactic| (k_here; k_extra "myleave"))
local macro_rules | `(tactic| walk_at "exec Raise some none") => `(tactic| (k_here; k_extra "myraise"))
local macro_rules | `(tactic| walk_at "subscriptTail") => `(tactic| (k_here; k_extra "mysub"))
local macro_rules | `(tactic| walk_at "compareOp In str str") => `(tactic| (k_here; k_extra "myin"))
local macro_rules | `(tactic| walk_at "compareOp Eq str str") => `(tactic| (k_here; k_extra "myeq"))
local macro_rules | `(tactic| walk_at "compareOp NotEq str str") => `(tactic| (k_here; k_extra "myne"))
local macro_rules | `(tactic| walk_at "binaryOp Add str str") => `(tactic| (k_here; k_extra "myadd"))
local macro_rules | `(tactic| walk_at "call builtin:len") => `(tactic| (k_here; k_extra "mylen"))
local macro_rules | `(tactic| k_room) => `(tactic| ktr_room)
local macro_rules | `(tactic| k_units) => `(tactic| ktr_units)
local macro_rules | `(tactic| walk_at "binaryOp Pow int int") => `(tactic| (k_here; k_extra "mypow"))

section
variable {w : World} {mean : ExcName → Option Value} {mg mb : Str → Option Value} {f : Addr} {k : Nat} {vs : List Value} {led led' : List (Addr × Obj)}
  {dp un : Nat} {gd : Option (List Code)} {cn : Str} {cs : Scope} {a : Addr} {ccd : Value} {cl : List (Str × Addr)} {outer : List Env} {A₀ : Around} {base h₀ : Heap} {L : Addr} {m : Str → Option Value} {s : Shared} {Q E : Value → Shared → Prop} {big : List (Addr × Obj)}
theorem Srz2.use (S : Srz2 w mean mg mb f k vs led led') (B : Below A₀ base outer h₀) (F : Fr h₀ L s.heap m) (X : (Mine.hpK w.params).In h₀) (N : News h₀ L s.heap big)
    (T : Top Mine.vwV (looseW Mine.vwV [Str.ofString "fraction", Str.ofString "write_decimal"]) mean mg mb h₀) (hk : cs.kind = .function) (hs : ∀ p ∈ led, p ∈ big)
    (hd : dp + k < recursionLimit) (hu : un + 8 * k < cLine) (hr : ∀ e t h' tk' g₂ vs', Fr h₀ L g₂ m → RaisedS base g₂ (envX cn cs L a ccd cl :: outer) e (.ref 44) t vs' led' h' → g₂.UpToSlots h' → E (.ref e) { s with heap := h', toks := tk' }) :
    wpAny (model PySem.Challenge.rw_nu0015_01.row.prog w) (ktrTop dp un gd cn cs L a ccd cl outer) (call (.ref f) vs) Q E s :=
  S _ _ _ _ _ _ _ _ _ _ _ _ _ _ _ _ _ B F X (fun p hp => N p (hs p hp)) T hk hd hu hr
end
theorem len_pos {r : List Nat} (h : r ≠ []) : 0 < r.length := by cases r with | nil => exact absurd rfl h | cons => simp
theorem dec_no1 {l : List Nat} (h : decS l = none) (hP : (skipR ((skipR l (Str.ofString "+-").cps.toList).2.dropWhile isD) (Str.ofString ".").cps.toList).1 = []) (hD : ¬ ((skipR l (Str.ofString "+-").cps.toList).2.takeWhile isD) ++ [] = []) : expR (skipR ((skipR l (Str.ofString "+-").cps.toList).2.dropWhile isD) (Str.ofString ".").cps.toList).2 = none ∨ ∃ e r, expR (skipR ((skipR l (Str.ofString "+-").cps.toList).2.dropWhile isD) (Str.ofString ".").cps.toList).2 = some (e, r) ∧ r ≠ [] := by
  unfold decS at h
  rw [if_pos hP, if_neg hD] at h
  cases q : expR (skipR ((skipR l (Str.ofString "+-").cps.toList).2.dropWhile isD) (Str.ofString ".").cps.toList).2 with
  | none => exact .inl rfl
  | some er =>
    obtain ⟨e, r⟩ := er
    rw [q] at h
    refine .inr ⟨e, r, rfl, fun hr => ?_⟩
    subst hr
    simp at h
theorem dec_no2 {l : List Nat} (h : decS l = none) (hP : ¬ (skipR ((skipR l (Str.ofString "+-").cps.toList).2.dropWhile isD) (Str.ofString ".").cps.toList).1 = []) (hD : ¬ ((skipR l (Str.ofString "+-").cps.toList).2.takeWhile isD) ++ ((skipR ((skipR l (Str.ofString "+-").cps.toList).2.dropWhile isD) (Str.ofString ".").cps.toList).2.takeWhile isD) = []) : expR ((skipR ((skipR l (Str.ofString "+-").cps.toList).2.dropWhile isD) (Str.ofString ".").cps.toList).2.dropWhile isD) = none ∨ ∃ e r, expR ((skipR ((skipR l (Str.ofString "+-").cps.toList).2.dropWhile isD) (Str.ofString ".").cps.toList).2.dropWhile isD) = some (e, r) ∧ r ≠ [] := by
  unfold decS at h
  rw [if_neg hP, if_neg hD] at h
  cases q : expR ((skipR ((skipR l (Str.ofString "+-").cps.toList).2.dropWhile isD) (Str.ofString ".").cps.toList).2.dropWhile isD) with
  | none => exact .inl rfl
  | some er =>
    obtain ⟨e, r⟩ := er
    rw [q] at h
    refine .inr ⟨e, r, rfl, fun hr => ?_⟩
    subst hr
    simp at h
set_option maxHeartbeats 8000000 in
theorem c_dec_r (w : World) (mean : ExcName → Option Value) (mg mb : Str → Option Value) (own : List (Addr × Obj)) (l : List Nat) (t : Tok) (hl : l.length ≤ 1000) (hok : decS l = none) :
  Srz2 w mean mg mb 222 132 [.str (tx l) t] own own := by
  unfold Srz2
  k_fill
  k_with_none
  k_with "myraise" => (k_dflt (refine' nf_raise_stmt ?k3 ?kC ?kb ?kh ?_; (case k3 => k_asm); (case kC => k_is); (case kb => rfl); (case kh => first | rfl | assumption); k_whole))
  k_with "mycall" => ((with_reducible show wpAny _ _ (call (Value.ref 44) [Value.str _ _]) _ _ _); (k_dflt (refine' nf_make ?k1 ?k2 ?k3 ?k5 ?kK ?kC ?kB ?kA ?kN ?ki ?kf ?kd ?ku ?_; (case k1 => k_asm); (case k2 => k_asm); (case k3 => k_asm); (case k5 => k_asm); (case kK => first | exact rfl | assumption); (case kC => k_is); (case kB => rfl); (case kA => rfl); (case kN => rfl); (case ki => k_is); (case kf => k_is); (case kd => ktr_room); (case ku => ktr_units))); intro e' t' h' tk' R'; (try dsimp only))
  k_with "myleave" => ((k_dflt (refine' nf_leave ?k1 ?k2 ?k3 ?k4 ?_ ?k6; (case k2 => assumption); (case k1 => k_asm); (case k3 => k_asm); (case k4 => k_asm); (case k6 => rfl))); intro h' R' U'; (try dsimp only at R' U' ⊢))
  k_with "myleave" => ((k_dflt (refine' leave_onS ?k1 ?k2 ?k3 ?k4 ?_; (case k3 => assumption); (case k1 => k_asm); (case k2 => k_asm); (case k4 => k_asm))); intro h' R' S' U'; (try dsimp only at R' U' ⊢))
  k_with "myeq" => ((with_reducible show wpAny _ _ (compareOp CmpOp.Eq (Value.str (tx _) _) (Value.str _ _)) _ _ _); (first | refine' my_eq_nil rfl ?_ | refine' my_eq (b := [45]) rfl ?_))
  k_with "myne" => ((with_reducible show wpAny _ _ (compareOp CmpOp.NotEq (Value.str (tx _) _) (Value.str _ _)) _ _ _); refine' my_ne_nil rfl ?_)
  k_with "mylen" => ((with_reducible show wpAny _ _ (call (Value.builtin "len") [Value.str (tx _) _]) _ _ _); refine' my_lent ?hlen ?_; (case hlen => first | exact tw_le (by assumption) (by assumption) | exact tw_le2 (by assumption) (by assumption) (by assumption)))
  k_with "myadd" => ((with_reducible show wpAny _ _ (binaryOp Operator.Add (Value.str (tx _) _) (Value.str _ _)) _ _ _); (first | refine' my_add (b := []) rfl ?hadd ?_ | refine' my_add rfl ?hadd ?_); (case hadd => first | exact add_len0 (tw_le (by assumption) hl) | exact add_len (tw_le (by assumption) hl) (tw_le (by assumption) hl)); intro _ _; (try dsimp only))
  k_with "mycall" => ((with_reducible show wpAny _ _ (call (Value.ref 187) _) _ _ _); (k_dflt (refine' (c_skip0 w mean mg mb _ _ _ _ _ _ _ _ _ ?hl ?hne).useSk ?k1 ?k2 ?k3 ?k4 ?k5 ?kK ?kx ?ks ?kr ?kd ?ku ?_; (case k1 => k_asm); (case k2 => k_asm); (case k3 => k_asm); (case k4 => k_asm); (case k5 => k_asm); (case kK => first | exact rfl | assumption); (case kx => k_mem); (case ks => k_mem); (case kr => (repeat' (first | exact RemD.nil | exact RemD.all (by assumption) | (refine' RemD.drop ?_) | (refine' RemD.keepD ?rt ?_; (case rt => rfl)) | (refine' RemD.skip ?_)))); (case hl => omega); (case hne => first | assumption | omega); (case kd => ktr_room); (case ku => ktr_units))); intro t9 n9 k91 k92 k93 k94 h9 tk9 hr9 hn9 F9 N9; (try dsimp only); (try k_sweep); (try k_fold))
  k_with "mycall" => ((with_reducible show wpAny _ _ (call (Value.ref 187) _) _ _ _); (k_dflt (refine' (c_skip w mean mg mb _ _ _ _ _ _ _ _ _ _ _ ?hr ?hn ?hl ?hne).useSk ?k1 ?k2 ?k3 ?k4 ?k5 ?kK ?kx ?ks ?kr ?kd ?ku ?_; (case k1 => k_asm); (case k2 => k_asm); (case k3 => k_asm); (case k4 => k_asm); (case k5 => k_asm); (case kK => first | exact rfl | assumption); (case kx => k_mem); (case ks => k_mem); (case kr => (repeat' (first | exact RemD.nil | exact RemD.all (by assumption) | (refine' RemD.drop ?_) | (refine' RemD.keepD ?rt ?_; (case rt => rfl)) | (refine' RemD.skip ?_)))); (case hr => assumption); (case hn => first | assumption | omega); (case hl => omega); (case hne => first | assumption | omega); (case kd => ktr_room); (case ku => ktr_units))); intro t9 n9 k91 k92 k93 k94 h9 tk9 hr9 hn9 F9 N9; (try dsimp only); (try k_sweep); (try k_fold))
  k_with "mycall" => ((with_reducible show wpAny _ _ (call (Value.ref 194) _) _ _ _); (k_dflt (refine' (c_digits w mean mg mb _ _ _ _ _ _ _ _ _ ?hr ?hn ?hl ?hne).useSk ?k1 ?k2 ?k3 ?k4 ?k5 ?kK ?kx ?ks ?kr ?kd ?ku ?_; (case k1 => k_asm); (case k2 => k_asm); (case k3 => k_asm); (case k4 => k_asm); (case k5 => k_asm); (case kK => first | exact rfl | assumption); (case kx => k_mem); (case ks => k_mem); (case kr => (repeat' (first | exact RemD.nil | exact RemD.all (by assumption) | (refine' RemD.drop ?_) | (refine' RemD.keepD ?rt ?_; (case rt => rfl)) | (refine' RemD.skip ?_)))); (case hr => assumption); (case hn => assumption); (case hl => omega); (case hne => first | assumption | omega); (case kd => ktr_room); (case ku => ktr_units))); intro t9 n9 k91 k92 k93 k94 h9 tk9 hr9 hn9 F9 N9; (try dsimp only); (try k_sweep); (try k_fold))
  k_with "mycall" => ((with_reducible show wpAny _ _ (call (Value.ref 215) _) _ _ _); (rcases dec_no1 hok (by assumption) (by assumption) with e1 | ⟨e7, r7, e1, e2⟩) <;> first | (((k_dflt (refine' (c_exp_r w mean mg mb _ _ _ _ _ _ _ _ _ _ ?hr ?hn hl ?hne ?hown e1).use ?k1 ?k2 ?k3 ?k4 ?k5 ?kK ?ks ?kd ?ku ?_; (case k1 => k_asm); (case k2 => k_asm); (case k3 => k_asm); (case k4 => k_asm); (case k5 => k_asm); (case kK => first | exact rfl | assumption); (case hr => assumption); (case hn => assumption); (case hne => first | assumption | omega); (case hown => assumption); (case ks => (repeat' (first | exact List.forall_mem_nil _ | (refine List.forall_mem_cons.mpr ⟨by k_mem, ?_⟩) | exact fun _ hp => hp | exact fun _ hp => .tail _ hp | exact fun _ hp => .tail _ (.tail _ hp) | exact fun _ hp => .tail _ (.tail _ (.tail _ hp)) | exact fun _ hp => .tail _ (.tail _ (.tail _ (.tail _ hp))) | exact fun _ hp => (by (repeat (first | exact hp | refine List.Mem.tail _ ?_)))))); (case kd => ktr_room); (case ku => ktr_units))); intro e9 t9 h9 tk9 g9 v9 G9 R9 U9; (try dsimp only))) | (((k_dflt (refine' (c_exp w mean mg mb _ _ _ _ _ _ _ _ _ ?hr ?hn hl ?hne _ _ e1).useEx ?k1 ?k2 ?k3 ?k4 ?k5 ?kK ?kx ?ks ?kr ?kd ?ku ?_; (case k1 => k_asm); (case k2 => k_asm); (case k3 => k_asm); (case k4 => k_asm); (case k5 => k_asm); (case kK => first | exact rfl | assumption); (case hr => assumption); (case hn => assumption); (case hne => first | assumption | omega); (case kx => k_mem); (case ks => k_mem); (case kr => (repeat' (first | exact RemD.nil | exact RemD.all (by assumption) | (refine' RemD.drop ?_) | (refine' RemD.keepD ?rt ?_; (case rt => rfl)) | (refine' RemD.skip ?_)))); (case kd => ktr_room); (case ku => ktr_units))); intro t9 n9 k91 k92 k93 k94 h9 tk9 hn9 F9 N9; (have hp9 := len_pos e2); (try dsimp only); (try k_sweep); (try k_fold))))
  k_with "mycall" => ((with_reducible show wpAny _ _ (call (Value.ref 215) _) _ _ _); (rcases dec_no2 hok (by assumption) (by assumption) with e1 | ⟨e7, r7, e1, e2⟩) <;> first | (((k_dflt (refine' (c_exp_r w mean mg mb _ _ _ _ _ _ _ _ _ _ ?hr ?hn hl ?hne ?hown e1).use ?k1 ?k2 ?k3 ?k4 ?k5 ?kK ?ks ?kd ?ku ?_; (case k1 => k_asm); (case k2 => k_asm); (case k3 => k_asm); (case k4 => k_asm); (case k5 => k_asm); (case kK => first | exact rfl | assumption); (case hr => assumption); (case hn => assumption); (case hne => first | assumption | omega); (case hown => assumption); (case ks => (repeat' (first | exact List.forall_mem_nil _ | (refine List.forall_mem_cons.mpr ⟨by k_mem, ?_⟩) | exact fun _ hp => hp | exact fun _ hp => .tail _ hp | exact fun _ hp => .tail _ (.tail _ hp) | exact fun _ hp => .tail _ (.tail _ (.tail _ hp)) | exact fun _ hp => .tail _ (.tail _ (.tail _ (.tail _ hp))) | exact fun _ hp => (by (repeat (first | exact hp | refine List.Mem.tail _ ?_)))))); (case kd => ktr_room); (case ku => ktr_units))); intro e9 t9 h9 tk9 g9 v9 G9 R9 U9; (try dsimp only))) | (((k_dflt (refine' (c_exp w mean mg mb _ _ _ _ _ _ _ _ _ ?hr ?hn hl ?hne _ _ e1).useEx ?k1 ?k2 ?k3 ?k4 ?k5 ?kK ?kx ?ks ?kr ?kd ?ku ?_; (case k1 => k_asm); (case k2 => k_asm); (case k3 => k_asm); (case k4 => k_asm); (case k5 => k_asm); (case kK => first | exact rfl | assumption); (case hr => assumption); (case hn => assumption); (case hne => first | assumption | omega); (case kx => k_mem); (case ks => k_mem); (case kr => (repeat' (first | exact RemD.nil | exact RemD.all (by assumption) | (refine' RemD.drop ?_) | (refine' RemD.keepD ?rt ?_; (case rt => rfl)) | (refine' RemD.skip ?_)))); (case kd => ktr_room); (case ku => ktr_units))); intro t9 n9 k91 k92 k93 k94 h9 tk9 hn9 F9 N9; (have hp9 := len_pos e2); (try dsimp only); (try k_sweep); (try k_fold))))
  intro dp un gd cn cs a ccd cl outer A₀ base h₀ L m s Q E B F X N T hck hdp hun hraise
  have htl := tx_length l
  k_dflt (refine' sp_enter B F X N T hck spret_no ?k6 ?k7 ?k8 ?k9 ?kB ?_ ?c2 ?c3 ?c4 ?c5; (case k6 => k_is); (case k7 => k_is); (case k8 => omega); (case k9 => first | exact BindsTo.of_eq rfl | exact binds_K (by k_in) rfl (by k_is) rfl rfl rfl); (case c5 => decide); (case kB => exact locs rfl); (case c2 => exact rfl); (case c3 => exact rfl); (case c4 => exact rfl))
  intro g' L' h' FG' F' N' B' X' T' GS'
  (try dsimp only); (try k_fold)
  k_steps
  all_goals first
    | exact hraise _ _ _ _ _ _ (by assumption) (less (by assumption) (by (repeat' (first | exact List.forall_mem_nil _ | (refine List.forall_mem_cons.mpr ⟨by k_mem, ?_⟩) | exact fun _ hp => hp | exact fun _ hp => .tail _ hp | exact fun _ hp => .tail _ (.tail _ hp) | exact fun _ hp => .tail _ (.tail _ (.tail _ hp)) | exact fun _ hp => .tail _ (.tail _ (.tail _ (.tail _ hp))) | exact fun _ hp => (by (repeat (first | exact hp | refine List.Mem.tail _ ?_))))))) (by assumption)
end Mine
namespace Mine
theorem rst_B23 : True := by
  w_top off
  trivial
end Mine
set_option maxRecDepth 100000
namespace Mine
open PySem PySem.W PyProof.Rows PySem.Spec PySem.Calls PySem.NumText
local macro_rules | `(tactic| walk_at "exec For Tuple BinOp cons nil") => `(tactic| (k_here; (rename Fr _ _ _ _ => lF'); (with_unfolding_all refine' For_turns lF' ?_); k_whole))
local macro_rules | `(tactic| walk_at "call ref") => `(tactic| (k_here; k_extra "mycall"))
local macro_rules | `(tactic| walk_at "binaryOp FloorDiv int int") => `(tactic| (k_here; k_extra "mydiv"))
local macro_rules | `(tactic| walk_at "binaryOp Mod int int") => `(tactic| (k_here; k_extra "mymod"))
local macro_rules | `(tactic| walk_at "binaryOp Mult int int") => `(tactic| (k_here; k_extra "mymul"))
local macro_rules | `(tactic| walk_at "setAttr ref") => `(tactic| (k_here; k_extra "mysetattr"))
local macro_rules | `(tactic| walk_at "leaving ref") => `(tactic| (k_here; k_extra "myleave"))
local macro_rules | `(tactic| walk_at "exec Raise some none") => `(tactic| (k_here; k_extra "myraise"))
local macro_rules | `(tactic| walk_at "subscriptTail") => `(tactic| (k_here; k_extra "mysub"))
local macro_rules | `(tactic| walk_at "compareOp In str str") => `(tactic| (k_here; k_extra "myin"))
local macro_rules | `(tactic| walk_at "compareOp Eq str str") => `(tactic| (k_here; k_extra "myeq"))
local macro_rules | `(tactic| walk_at "compareOp NotEq str str") => `(tactic| (k_here; k_extra "myne"))
local macro_rules | `(tactic| walk_at "binaryOp Add str str") => `(tactic| (k_here; k_extra "myadd"))
local macro_rules | `(tactic| walk_at "call builtin:len") => `(tactic| (k_here; k_extra "mylen"))
local macro_rules | `(tactic| k_room) => `(tactic| ktr_room)
local macro_rules | `(tactic| k_units) => `(tactic| ktr_units)
local macro_rules | `(tactic| walk_at "binaryOp Pow int int") => `(tactic| (k_here; k_extra "mypow"))
local macro_rules | `(tactic| walk_at "call type:str") => `(tactic| (k_here; k_extra "mystr"))

/-- the signs of a whole number's text -/
def dg (m : Nat) : List Nat := (Nat.toDigits 10 m).map Char.toNat
theorem str_num (m : Nat) : PySem.Str.ofString (toString ((m : Nat) : Int)) = tx (dg m) := by
  have h := KIN.signs_num m
  generalize PySem.Str.ofString (toString ((m : Nat) : Int)) = x at h ⊢
  obtain ⟨⟨l⟩⟩ := x
  have h2 : l = dg m := h
  rw [h2]
theorem dg_dig (m : Nat) : ∀ c ∈ dg m, isD c = true := by
  intro c hc
  obtain ⟨ch, hch, e⟩ := List.mem_map.mp hc
  have r := digit_range (Nat.isDigit_of_mem_toDigits (by decide) (by decide) hch)
  rw [← e]
  exact decide_eq_true r
theorem dg_val (m : Nat) : digitsVal (dg m) = m := KIN.val_back m
theorem dg_step {m : Nat} (h : 10 ≤ m) : dg m = dg (m / 10) ++ dg (m % 10) := by
  have t : Nat.toDigits 10 (m / 10) ++ Nat.toDigits 10 (m % 10) = Nat.toDigits 10 (10 * (m / 10) + m % 10) := Nat.toDigits_append_toDigits (by decide) (by omega) (Nat.mod_lt m (by decide))
  rw [Nat.div_add_mod] at t
  unfold dg
  rw [← t, List.map_append]
theorem dg_small {m : Nat} (h : m < 10) : (dg m).length = 1 := by
  unfold dg
  rw [Nat.toDigits_of_lt_base h]
  rfl
theorem dg_shortn : ∀ (k m : Nat), 10 ^ k ≤ m → m < 10 ^ (k + 1) → (dg m).length = k + 1
  | 0, m, _, h => dg_small (by simpa using h)
  | k + 1, m, h1, h2 => by
    have hp : 0 < 10 ^ k := Nat.pow_pos (by decide)
    have e1 : 10 ^ (k + 1) = 10 ^ k * 10 := Nat.pow_succ ..
    have e2 : 10 ^ (k + 1 + 1) = 10 ^ (k + 1) * 10 := Nat.pow_succ ..
    rw [dg_step (by omega), List.length_append, dg_shortn k (m / 10) (by omega) (by omega), dg_small (Nat.mod_lt m (by decide))]
theorem dg_short {m : Nat} : ∀ {k : Nat}, m < 10 ^ (k + 1) → (dg m).length ≤ k + 1
  | 0, h => by rw [dg_small (by simpa using h)]; omega
  | k + 1, h => by
    rcases Nat.lt_or_ge m (10 ^ (k + 1)) with q | q
    · have := dg_short q; omega
    · rw [dg_shortn (k + 1) m q h]; omega
theorem dg_ne (m : Nat) : dg m ≠ [] := by
  intro e
  rcases Nat.lt_or_ge m 10 with q | q
  · have := dg_small q; rw [e] at this; cases this
  · rw [dg_step q] at e
    have := dg_small (Nat.mod_lt m (y := 10) (by decide))
    rw [(List.append_eq_nil_iff.mp e).2] at this; cases this
theorem fold_from : ∀ (d : List Nat) (a : Nat), d.foldl (fun acc c => acc * 10 + (c - 48)) a = a * 10 ^ d.length + digitsVal d
  | [], a => by simp [digitsVal]
  | c :: d, a => by
    have e1 := fold_from d (a * 10 + (c - 48))
    have e2 := fold_from d (0 * 10 + (c - 48))
    have e3 : digitsVal (c :: d) = d.foldl (fun acc c => acc * 10 + (c - 48)) (0 * 10 + (c - 48)) := rfl
    rw [List.foldl_cons, e1, e3, e2, List.length_cons, Nat.pow_succ, Nat.add_mul, Nat.zero_mul, Nat.zero_add]
    rw [Nat.mul_assoc, Nat.mul_comm 10 (10 ^ d.length)]
    omega
theorem val_cons (c : Nat) (d : List Nat) : digitsVal (c :: d) = (c - 48) * 10 ^ d.length + digitsVal d := by
  have : digitsVal (c :: d) = d.foldl (fun acc c => acc * 10 + (c - 48)) (0 * 10 + (c - 48)) := rfl
  rw [this, fold_from, Nat.zero_mul, Nat.zero_add]
theorem val_app (a b : List Nat) : digitsVal (a ++ b) = digitsVal a * 10 ^ b.length + digitsVal b := by
  have : digitsVal (a ++ b) = b.foldl (fun acc c => acc * 10 + (c - 48)) (digitsVal a) := by unfold digitsVal; rw [List.foldl_append]
  rw [this, fold_from]
theorem val_lt : ∀ (d : List Nat), (∀ c ∈ d, isD c = true) → digitsVal d < 10 ^ d.length
  | [], _ => by decide
  | c :: d, h => by
    have h1 := val_lt d fun x hx => h x (List.mem_cons_of_mem _ hx)
    have h2 := h c (List.mem_cons_self ..)
    simp only [isD, decide_eq_true_eq] at h2
    rw [val_cons, List.length_cons, Nat.pow_succ]
    have : (c - 48) * 10 ^ d.length ≤ 9 * 10 ^ d.length := Nat.mul_le_mul_right _ (by omega)
    omega
/-- what str(scale + rest)[1:] is -/
theorem frac_of {k r : Nat} (hr : r < 10 ^ k) : ∃ f, dg (10 ^ k + r) = 49 :: f ∧ f.length = k ∧ digitsVal f = r ∧ ∀ c ∈ f, isD c = true := by
  have e1 : 10 ^ (k + 1) = 10 ^ k * 10 := Nat.pow_succ ..
  have hl := dg_shortn k (10 ^ k + r) (by omega) (by omega)
  have hd := dg_dig (10 ^ k + r)
  have hv := dg_val (10 ^ k + r)
  generalize dg (10 ^ k + r) = d at hl hd hv
  cases d with
  | nil => cases hl
  | cons c f =>
    simp only [List.length_cons, Nat.add_right_cancel_iff] at hl
    have hf : ∀ x ∈ f, isD x = true := fun x hx => hd x (List.mem_cons_of_mem _ hx)
    have hc := hd c (List.mem_cons_self ..)
    simp only [isD, decide_eq_true_eq] at hc
    have h1 := val_lt f hf
    rw [val_cons, hl] at hv
    rw [hl] at h1
    have hc1 : c - 48 = 1 := by
      have p : 0 < 10 ^ k := by omega
      have : (c - 48 = 0) ∨ (c - 48 = 1) ∨ (2 ≤ c - 48) := by omega
      rcases this with q | q | q
      · rw [q] at hv; omega
      · exact q
      · have := Nat.mul_le_mul_right (10 ^ k) q; omega
    have : c = 49 := by omega
    subst this
    refine ⟨f, rfl, hl, ?_, hf⟩
    rw [hc1] at hv
    omega
def stripZ (l : List Nat) : List Nat := (l.reverse.dropWhile (· == 48)).reverse
theorem strip_end {l z : List Nat} {c : Nat} (hz : ∀ x ∈ z, x = 48) (hc : c ≠ 48) : stripZ (l ++ [c] ++ z) = l ++ [c] := by
  unfold stripZ
  rw [List.reverse_append]
  have : ∀ (y r : List Nat), (∀ x ∈ y, x = 48) → (y ++ r).dropWhile (· == 48) = r.dropWhile (· == 48) := by
    intro y
    induction y with
    | nil => intro r _; rfl
    | cons a y ih =>
      intro r h
      have ha : a = 48 := h a (List.mem_cons_self ..)
      rw [List.cons_append, List.dropWhile_cons_of_pos (by simp [ha])]
      exact ih r fun x hx => h x (List.mem_cons_of_mem _ hx)
  rw [this z.reverse _ (fun x hx => hz x (List.mem_reverse.mp hx))]
  rw [List.reverse_append]
  show ((c :: l.reverse).dropWhile _).reverse = _
  rw [List.dropWhile_cons_of_neg (by simpa using hc)]
  simp
theorem zeros_val : ∀ (z : List Nat), (∀ x ∈ z, x = 48) → digitsVal z = 0
  | [], _ => rfl
  | c :: z, h => by
    rw [val_cons, zeros_val z fun x hx => h x (List.mem_cons_of_mem _ hx), h c (List.mem_cons_self ..)]
    simp
/-- the signs left, the noughts taken -/
def StI (fr : List Nat) (x : Str) : Prop := ∃ l z, x = tx l ∧ fr = l ++ z ∧ (∀ c ∈ z, c = 48)
def HasNZ (fr : List Nat) : Prop := digitsVal fr ≠ 0
theorem StI.last {fr : List Nat} {x : Str} (h : StI fr x) (hn : HasNZ fr) : ∃ l c, x = tx (l ++ [c]) := by
  obtain ⟨l, z, hx, hf, hz⟩ := h
  rcases List.eq_nil_or_concat l with e | ⟨l', c, e⟩
  · subst e
    exact absurd (by rw [hf]; exact zeros_val z hz) hn
  · exact ⟨l', c, by rw [hx, e]; simp⟩
theorem tx_inj {a b : List Nat} (h : tx a = tx b) : a = b := congrArg (fun x : Str => x.cps.toList) h
theorem slice_last {l : List Nat} {c : Nat} : Txt.slice (tx (l ++ [c])) none (some (-1)) = tx l := by
  have h := eq_of_beq (slice_closes_to_neg (x := tx (l ++ [c])) (j := -1) (k := (l.length : Int)) (by decide) (by rw [tx_length]; simp; omega) (by rw [tx_length]; simp; omega))
  rw [h]
  show Str.mk (((l ++ [c]).drop 0).take ((l.length : Int) - 0).toNat).toArray = _
  have : ((l.length : Int) - 0).toNat = l.length := by omega
  rw [this, List.drop_zero, List.take_left]
theorem StI.turn {fr l : List Nat} {x : Str} {c : Nat} (h : StI fr x) (e : x = tx (l ++ [c])) (hc : [c] = [48]) : StI fr (Txt.slice x none (some (-1))) := by
  obtain ⟨l', z, hx, hf, hz⟩ := h
  subst e
  have := tx_inj hx
  subst this
  refine ⟨l, c :: z, slice_last, by rw [hf]; simp, fun y hy => ?_⟩
  rcases List.mem_cons.mp hy with rfl | hy
  · simpa using hc
  · exact hz y hy
theorem StI.less {l : List Nat} {x : Str} {c : Nat} (e : x = tx (l ++ [c])) : (Txt.slice x none (some (-1))).length < x.length := by
  subst e
  rw [slice_last, tx_length, tx_length]
  simp
theorem StI.fin {fr l : List Nat} {x : Str} {c : Nat} (h : StI fr x) (e : x = tx (l ++ [c])) (hc : ¬ [c] = [48]) : x = tx (stripZ fr) := by
  obtain ⟨l', z, hx, hf, hz⟩ := h
  subst e
  have := tx_inj hx
  subst this
  rw [hf, strip_end hz (by simpa using hc)]
theorem my_last {prog : Program} {w : World} {A : Around} {E : Value → Shared → Prop} {s : Shared} {value slice : PySem.Expr} {fr : List Nat} {x : Str} {i : Int} {t u : Tok} {Q : Value → Shared → Prop}
    (hi : StI fr x) (hn : HasNZ fr) (hl : x.length ≤ 100000) (ei : i = -1) (h : ∀ l c, x = tx (l ++ [c]) → Q (.str (tx [c]) s.toks) { s with toks := s.toks + 1 })
    (hs : subscripted slice false (.str x t) (.int i u) = operate [.str x t, .int i u] (getItem (.str x t) (.int i u)) := by with_unfolding_all rfl)
    (ht : ∀ r, letTemporaryGo value (.str x t) r = pure () := by intro _; with_unfolding_all rfl) :
    wpAny (model prog w) A (subscriptTail value slice (.str x t) (.int i u)) Q E s := by
  subst ei
  obtain ⟨l, c, e⟩ := hi.last hn
  have hx : x.length = l.length + 1 := by rw [e, tx_length]; simp
  refine item_str (fitsSsize_of (N := 9223372036854775808) (by omega) (by omega) (Int.le_refl _)) (by omega) (by omega) (fun _ => ?_) hs ht
  have : Txt.item x (-1) = tx [c] := by
    subst e
    have e1 : Txt.charAt (tx (l ++ [c])) (-1) = some c := by
      unfold Txt.charAt seqIndex?
      have hlen : (tx (l ++ [c])).length = l.length + 1 := by rw [tx_length]; simp
      rw [hlen]
      have e2 : (if (-1 : Int) < 0 then (-1 : Int) + ((l.length + 1 : Nat) : Int) else -1) = (l.length : Int) := by rw [if_pos (by decide)]; omega
      simp only [e2]
      rw [if_pos (by simp; omega)]
      simp
    unfold Txt.item
    rw [e1]
    rfl
  rw [this]
  exact h l c e
end Mine
namespace Mine
theorem rst_B24 : True := by
  w_top off
  trivial
end Mine
set_option maxRecDepth 100000
namespace Mine
open PySem PySem.W PyProof.Rows PySem.Spec PySem.Calls PySem.NumText
local macro_rules | `(tactic| walk_at "exec For Tuple BinOp cons nil") => `(tactic| (k_here; (rename Fr _ _ _ _ => lF'); (with_unfolding_all refine' For_turns lF' ?_); k_whole))
local macro_rules | `(tactic| walk_at "call ref") => `(tactic| (k_here; k_extra "mycall"))
local macro_rules | `(tactic| walk_at "binaryOp FloorDiv int int") => `(tactic| (k_here; k_extra "mydiv"))
local macro_rules | `(tactic| walk_at "binaryOp Mod int int") => `(tactic| (k_here; k_extra "mymod"))
local macro_rules | `(tactic| walk_at "binaryOp Mult int int") => `(tactic| (k_here; k_extra "mymul"))
local macro_rules | `(tactic| walk_at "setAttr ref") => `(tactic| (k_here; k_extra "mysetattr"))
local macro_rules | `(tactic| walk_at "leaving ref") => `(tactic| (k_here; k_extra "myleave"))
local macro_rules | `(tactic| walk_at "exec Raise some none") => `(tactic| (k_here; k_extra "myraise"))
local macro_rules | `(tactic| walk_at "subscriptTail") => `(tactic| (k_here; k_extra "mysub"))
local macro_rules | `(tactic| walk_at "compareOp In str str") => `(tactic| (k_here; k_extra "myin"))
local macro_rules | `(tactic| walk_at "compareOp Eq str str") => `(tactic| (k_here; k_extra "myeq"))
local macro_rules | `(tactic| walk_at "compareOp NotEq str str") => `(tactic| (k_here; k_extra "myne"))
local macro_rules | `(tactic| walk_at "binaryOp Add str str") => `(tactic| (k_here; k_extra "myadd"))
local macro_rules | `(tactic| walk_at "call builtin:len") => `(tactic| (k_here; k_extra "mylen"))
local macro_rules | `(tactic| k_room) => `(tactic| ktr_room)
local macro_rules | `(tactic| k_units) => `(tactic| ktr_units)
local macro_rules | `(tactic| walk_at "binaryOp Pow int int") => `(tactic| (k_here; k_extra "mypow"))
local macro_rules | `(tactic| walk_at "call type:str") => `(tactic| (k_here; k_extra "mystr"))

theorem my_str {prog : Program} {w : World} {A : Around} {E : Value → Shared → Prop} {s : Shared} {n : Int} {t : Tok} {Q : Value → Shared → Prop}
    (h0 : 0 ≤ n) (hb : Bt 1000 n) (h : Q (.str (tx (dg n.toNat)) s.toks) { s with toks := s.toks + 1 }) : wpAny (model prog w) A (call (.type "str") [.int n t]) Q E s := by
  have hb' : n.natAbs.log2 < 1920 := by
    unfold Bt Builtin.Int.intBits at hb
    split at hb
    · rename_i q; simp only [beq_iff_eq] at q; subst q; decide
    · omega
  refine PySem.P.str_of_int hb' ?_
  have : PySem.Str.ofString (toString n) = tx (dg n.toNat) := by
    obtain ⟨m, rfl⟩ := Int.eq_ofNat_of_zero_le h0
    exact str_num m
  rw [this]
  exact h
theorem my_addL {prog : Program} {w : World} {A : Around} {E : Value → Shared → Prop} {s : Shared} {a b : List Nat} {x : Str} {t u : Tok} {Q : Value → Shared → Prop}
    (hx : x = tx a) (hl : a.length + b.length ≤ 10000) (h : ∀ t' k, Q (.str (tx (a ++ b)) t') { s with toks := k }) : wpAny (model prog w) A (binaryOp .Add (.str x t) (.str (tx b) u)) Q E s := by
  subst hx
  exact my_add rfl hl h
theorem StI.lenL {fr : List Nat} {x : Str} (h : StI fr x) : x.cps.toList.length ≤ fr.length := by
  obtain ⟨l, z, hx, hf, _⟩ := h
  subst hx
  show l.length ≤ _
  rw [hf, List.length_append]
  omega
theorem StI.len {fr : List Nat} {x : Str} (h : StI fr x) : x.length ≤ fr.length := by
  have := h.lenL
  rwa [Array.length_toList] at this
theorem StI.start {d : List Nat} (h : 1 ≤ d.length) : StI (d.drop 1) (Txt.slice (tx d) (some 1) none) :=
  ⟨d.drop 1, [], slice_tx_from (a := 1) rfl h, by simp, fun _ h => nomatch h⟩
def writeL (neg : Bool) (W S : Int) : List Nat :=
  (if neg = true ∧ 0 < W then [45] else []) ++ (dg (Int.fdiv W S).toNat ++ (if 0 < Int.fmod W S then 46 :: stripZ ((dg (S + Int.fmod W S).toNat).drop 1) else []))
theorem bt_len {n : Int} (h : Bt 1000 n) : (dg n.toNat).length ≤ 1000 := by
  have h1 : n.toNat < 2 ^ 1000 := by
    unfold Bt Builtin.Int.intBits at h
    split at h
    · rename_i q; simp only [beq_iff_eq] at q; subst q; decide +kernel
    · have h2 : n.natAbs < 2 ^ (n.natAbs.log2 + 1) := Nat.lt_log2_self
      have h3 : 2 ^ (n.natAbs.log2 + 1) ≤ 2 ^ 1000 := Nat.pow_le_pow_right (by decide) (by omega)
      omega
  exact dg_short (k := 999) (Nat.lt_of_lt_of_le h1 (Nat.pow_le_pow_left (by decide) 1000))
theorem endTx {s : Shared} {g : Heap} {led new : List (Addr × Obj)} {ch : List Addr} {L' : Addr} {h' : Heap} {m' : Str → Option Value} {tk' : Nat} {x x' : Str} {t : Tok}
    (F : Fr g L' h' m') (N : News g L' h' new) (hs : ∀ p ∈ led, p ∈ new) (e1 : x = x') :
    SpEnd s g led ch (fun _ _ r => ∃ t, r = .str x' t) (.str x t) { s with heap := h', toks := tk' } := by
  subst e1
  exact ⟨_, _, _, _, rfl, F, led_end N hs, _, rfl⟩
theorem wl1 {px W S D R : Int} {x : Str} (hD : Int.fdiv W S = D) (hR : Int.fmod W S = R) (hp : px < 0) (hw : 0 < W) (hr : 0 < R) (hx : x = tx (stripZ ((dg (S + R).toNat).drop 1))) :
    tx ([45] ++ (dg D.toNat ++ [46] ++ x.cps.toList)) = tx (writeL (decide (px < 0)) W S) := by
  subst hD; subst hR; subst hx
  unfold writeL
  rw [if_pos ⟨decide_eq_true hp, hw⟩, if_pos hr]
  simp
theorem wl2 {px W S D R : Int} {x : Str} (hD : Int.fdiv W S = D) (hR : Int.fmod W S = R) (hp : ¬ (px < 0 ∧ 0 < W)) (hr : 0 < R) (hx : x = tx (stripZ ((dg (S + R).toNat).drop 1))) :
    tx (dg D.toNat ++ [46] ++ x.cps.toList) = tx (writeL (decide (px < 0)) W S) := by
  subst hD; subst hR; subst hx
  unfold writeL
  rw [if_neg (fun h => hp ⟨of_decide_eq_true h.1, h.2⟩), if_pos hr]
  simp
theorem wl3 {px W S D R : Int} (hD : Int.fdiv W S = D) (hR : Int.fmod W S = R) (hp : px < 0) (hw : 0 < W) (hr : ¬ 0 < R) :
    tx ([45] ++ dg D.toNat) = tx (writeL (decide (px < 0)) W S) := by
  subst hD; subst hR
  unfold writeL
  rw [if_pos ⟨decide_eq_true hp, hw⟩, if_neg hr]
  simp
theorem wl4 {px W S D R : Int} (hD : Int.fdiv W S = D) (hR : Int.fmod W S = R) (hp : ¬ (px < 0 ∧ 0 < W)) (hr : ¬ 0 < R) :
    tx (dg D.toNat) = tx (writeL (decide (px < 0)) W S) := by
  subst hD; subst hR
  unfold writeL
  rw [if_neg (fun h => hp ⟨of_decide_eq_true h.1, h.2⟩), if_neg hr]
  simp
theorem my_fdiv {prog : Program} {w : World} {A : Around} {E : Value → Shared → Prop} {s : Shared} {a b q : Int} {t u : Tok} {Q : Value → Shared → Prop}
    (e : Int.fdiv a b = q) (hb : b ≠ 0) (hp : Builtin.divisionGoesByPylong a b = false ∨ PySem.PylongRoom (model prog w) A s) (h : Q (.int q s.toks) { s with toks := s.toks + 1 }) : wpAny (model prog w) A (binaryOp .FloorDiv (.int a t) (.int b u)) Q E s := by
  subst e; exact floordiv_int hb h hp
theorem my_fmod {prog : Program} {w : World} {A : Around} {E : Value → Shared → Prop} {s : Shared} {a b q : Int} {t u : Tok} {Q : Value → Shared → Prop}
    (e : Int.fmod a b = q) (hb : b ≠ 0) (h : Q (.int q s.toks) { s with toks := s.toks + 1 }) : wpAny (model prog w) A (binaryOp .Mod (.int a t) (.int b u)) Q E s := by
  subst e; exact mod_int' hb h
theorem my_pow {prog : Program} {w : World} {A : Around} {E : Value → Shared → Prop} {s : Shared} {a n q : Int} {t u : Tok} {Q : Value → Shared → Prop}
    (e : a ^ n.toNat = q) (hn : 0 ≤ n) (hn2 : n ≤ 1000000) (ha : a.natAbs < 2 ^ 64) (h : Q (.int q s.toks) { s with toks := s.toks + 1 }) : wpAny (model prog w) A (binaryOp .Pow (.int a t) (.int n u)) Q E s := by
  subst e; exact pow_int_small hn hn2 ha h
theorem pow10_le {n : Nat} (h : n ≤ 6) : (10 : Int) ^ n ≤ 1000000 := by
  have : n = 0 ∨ n = 1 ∨ n = 2 ∨ n = 3 ∨ n = 4 ∨ n = 5 ∨ n = 6 := by omega
  rcases this with rfl | rfl | rfl | rfl | rfl | rfl | rfl <;> decide
theorem pow10_sm {n : Nat} (h : n ≤ 6) : Bt 64 ((10 : Int) ^ n) := Bt.of (by have : (0 : Int) < 10 ^ n := Int.pow_pos (by decide); omega) (by have := pow10_le h; omega)
theorem pow10_rest {n : Nat} {r : Int} (h : n ≤ 6) (r0 : 0 ≤ r) (r1 : r < 10 ^ n) : Bt 64 (10 ^ n + r) := Bt.of (by have : (0 : Int) < 10 ^ n := Int.pow_pos (by decide); omega) (by have := pow10_le h; omega)
theorem frac_nz {k : Nat} {r : Int} (h0 : 0 < r) (h1 : r < 10 ^ k) : HasNZ ((dg ((10 : Int) ^ k + r).toNat).drop 1) := by
  obtain ⟨m, rfl⟩ := Int.eq_ofNat_of_zero_le (Int.le_of_lt h0)
  have e : ((10 : Int) ^ k + ((m : Nat) : Int)).toNat = 10 ^ k + m := by
    have : ((10 : Int) ^ k) = ((10 ^ k : Nat) : Int) := by simp
    rw [this]; omega
  have hm : m < 10 ^ k := by
    have : ((10 : Int) ^ k) = ((10 ^ k : Nat) : Int) := by simp
    rw [this] at h1; omega
  obtain ⟨f, e1, _, e2, _⟩ := frac_of hm
  rw [e, e1]
  show digitsVal f ≠ 0
  rw [e2]
  omega
set_option maxHeartbeats 8000000 in
theorem c_write (w : World) (mean : ExcName → Option Value) (mg mb : Str → Option Value) (p : Addr) (px py k S W D R : Int) (t1 t2 t3 : Tok) (hpy : 1 ≤ py) (hk0 : 0 ≤ k) (hk6 : k ≤ 6) (b1 : Bt 64 px) (b2 : Bt 64 py) (hS : 10 ^ k.toNat = S) (hW : (Int.fdiv (2 * (if px < 0 then -px else px) * S + py) (2 * py)) = W) (hD : Int.fdiv W S = D) (hR : Int.fmod W S = R) :
  Sp w mean mg mb 230 118 [.ref p, .int k t3] [(p, tupO px py t1 t2)] [] (fun _ _ r => ∃ t, r = .str (tx (writeL (decide (px < 0)) W (S))) t) := by
  unfold Sp
  k_fill
  k_with_none
  k_with "mydiv" => ((k_dflt (refine' my_fdiv ?ke ?kne (Or.inr (PySem.PylongRoom.of ?knl ?kdp)) ?_; (case ke => assumption); (case kne => first | assumption | omega); (case knl => exact Heap.NoLimit.keeps (PyProof.Rows.Top.nolimit (by assumption)) (Fr.keep (by assumption))); (case kdp => ((try simp only [depth_deeper]); (try dsimp only [ktrTop]); (simp only [Builtin.pylongFrames]); omega)))); (try dsimp only))
  k_with "mymod" => ((k_dflt (refine' my_fmod ?ke ?kne ?_; (case ke => assumption); (case kne => first | assumption | omega))); (try dsimp only))
  k_with "mymul" => ((k_dflt (refine' mul_int ?_ ?hm; (case hm => exact o2))); (try dsimp only))
  k_with "mypow" => ((k_dflt (refine' my_pow ?ke ?hm1 ?hm2 ?hm3 ?_; (case ke => assumption); (case hm1 => omega); (case hm2 => omega); (case hm3 => decide))); (try dsimp only))
  k_with "mystr" => ((k_dflt (refine' my_str ?hm1 ?hm2 ?_; (case hm1 => assumption); (case hm2 => assumption))); (try dsimp only))
  k_with "mysub" => ((with_reducible show wpAny _ _ (subscriptTail _ _ (Value.str _ _) (Value.int _ _)) _ _ _); (k_dflt (refine' my_last (fr := ((dg (S + R).toNat).drop 1)) ?k1 ?k2 ?k3 ?k4 ?_ ?k5 ?k6; (case k1 => assumption); (case k2 => exact hne (by assumption)); (case k3 => exact Nat.le_trans (StI.len (by assumption)) (Nat.le_trans hfr (by decide))); (case k4 => first | rfl | omega); (case k5 => with_unfolding_all rfl); (case k6 => (intro _; with_unfolding_all rfl)))); intro l9 c9 e9; (have hx9 := StI.lenL (by assumption)); (have hx8 := Nat.le_trans (StI.len (by assumption)) hfr); (try dsimp only))
  k_with "exec While Compare cons nil" => k_while (fun _ (x : Str) => StI ((dg (S + R).toNat).drop 1) x) (fun _ x => x.length) "parts"
  k_with "state" => first | exact StI.start hst | exact StI.turn (by assumption) (by assumption) (by assumption)
  k_with "measure" => exact StI.less (by assumption)
  k_with "myeq" => ((with_reducible show wpAny _ _ (compareOp CmpOp.Eq (Value.str (tx _) _) (Value.str _ _)) _ _ _); (refine' my_eq (b := [48]) rfl ?_))
  k_with "myadd" => ((with_reducible show wpAny _ _ (binaryOp Operator.Add (Value.str (tx _) _) (Value.str _ _)) _ _ _); ((first | refine' my_add (b := [46]) rfl ?hadd ?_ | refine' my_add rfl ?hadd ?_); (case hadd => ((try simp only [List.length_append, List.length_cons, List.length_nil]); omega)); intro _ _; (try dsimp only)))
  k_with "myadd" => ((with_reducible show wpAny _ _ (binaryOp Operator.Add (Value.str (Str.ofString "-") _) (Value.str (tx _) _)) _ _ _); (refine' my_addL (a := [45]) rfl ?hadd ?_; (case hadd => ((try simp only [List.length_append, List.length_cons, List.length_nil]); omega)); intro _ _; (try dsimp only)))
  intro dp un gd cn cs a ccd cl outer A₀ base h₀ L m s Q E B F X N T hck hdp hun hret
  have hs0 : S ≠ 0 := by rw [← hS]; exact pow10_ne
  have hsp : (0 : Int) < S := by rw [← hS]; exact Int.pow_pos (by decide)
  have hsm : Bt 64 S := by rw [← hS]; exact pow10_sm (by omega)
  have ba : Bt 64 (if px < 0 then -px else px) := b1.ite
  have b22 : Bt 3 (2 : Int) := (by show Builtin.Int.intBits 2 ≤ 3; decide +kernel)
  have ha0 : 0 ≤ (if px < 0 then -px else px) := by split <;> omega
  have o1 := mulok (b22.sz) ba.sz
  have bm1 := b22.mul ba
  have o2 := mulok bm1.sz hsm.sz
  have bm2 := (bm1.mul hsm).add b2
  have o3 := mulok b22.sz b2.sz
  have bw : Bt 1000 W := by rw [← hW]; exact Nat.le_trans bm2.fdiv (by decide)
  have bq : Bt 1000 D := by rw [← hD]; exact bw.fdiv
  have w0 : 0 ≤ W := by rw [← hW]; exact Int.fdiv_nonneg (by have := Int.mul_nonneg (Int.mul_nonneg (show (0:Int) ≤ 2 by decide) ha0) (Int.le_of_lt hsp); omega) (by omega)
  have q0 : 0 ≤ D := by rw [← hD]; exact Int.fdiv_nonneg w0 (Int.le_of_lt hsp)
  have r0 : 0 ≤ R := by rw [← hR]; exact Int.fmod_nonneg_of_pos _ hsp
  have r1 : R < S := by rw [← hR]; exact Int.fmod_lt_of_pos _ hsp
  have r1' : R < 10 ^ k.toNat := by rw [hS]; exact r1
  have br : Bt 1000 (S + R) := by rw [← hS]; exact Nat.le_trans (pow10_rest (by omega) r0 r1') (by decide)
  have r2 : 0 ≤ S + R := by omega
  have hq1 := bt_len bq
  have hq2 := bt_len br
  have hfr : (((dg (S + R).toNat).drop 1)).length ≤ 1000 := by rw [List.length_drop]; omega
  have hne : 0 < R → HasNZ ((dg (S + R).toNat).drop 1) := fun h => by rw [← hS]; exact frac_nz h r1'
  have hst : 1 ≤ (dg (S + R).toNat).length := List.length_pos_iff.mpr (dg_ne _)
  have htx1 : (tx (dg (S + R).toNat)).length ≤ 1000 := by rw [tx_length]; exact hq2
  have htx2 : (tx (dg D.toNat)).length ≤ 1000 := by rw [tx_length]; exact hq1
  clear bw bm1 bm2 hsm ba b22
  k_dflt (refine' sp_enter B F X N T hck hret ?k6 ?k7 ?k8 ?k9 ?kB ?_ ?c2 ?c3 ?c4 ?c5; (case k6 => k_is); (case k7 => k_is); (case k8 => omega); (case k9 => first | exact BindsTo.of_eq rfl | exact binds_K (by k_in) rfl (by k_is) rfl rfl rfl); (case c5 => decide); (case kB => exact locs rfl); (case c2 => exact rfl); (case c3 => exact rfl); (case c4 => exact rfl))
  intro g' L' h' FG' F' N' B' X' T' GS'
  (try dsimp only); (try k_fold)
  k_steps
  all_goals first
    | exact endTx (by assumption) (by assumption) (by (repeat' (first | exact List.forall_mem_nil _ | (refine List.forall_mem_cons.mpr ⟨by k_mem, ?_⟩)))) (wl1 hD hR (by assumption) (by assumption) (by assumption) (StI.fin (by assumption) (by assumption) (by assumption)))
    | exact endTx (by assumption) (by assumption) (by (repeat' (first | exact List.forall_mem_nil _ | (refine List.forall_mem_cons.mpr ⟨by k_mem, ?_⟩)))) (wl2 hD hR (fun h => absurd h.1 (by assumption)) (by assumption) (StI.fin (by assumption) (by assumption) (by assumption)))
    | exact endTx (by assumption) (by assumption) (by (repeat' (first | exact List.forall_mem_nil _ | (refine List.forall_mem_cons.mpr ⟨by k_mem, ?_⟩)))) (wl2 hD hR (fun h => absurd h.2 (by assumption)) (by assumption) (StI.fin (by assumption) (by assumption) (by assumption)))
    | exact endTx (by assumption) (by assumption) (by (repeat' (first | exact List.forall_mem_nil _ | (refine List.forall_mem_cons.mpr ⟨by k_mem, ?_⟩)))) (wl3 hD hR (by assumption) (by assumption) (by assumption))
    | exact endTx (by assumption) (by assumption) (by (repeat' (first | exact List.forall_mem_nil _ | (refine List.forall_mem_cons.mpr ⟨by k_mem, ?_⟩)))) (wl4 hD hR (fun h => absurd h.1 (by assumption)) (by assumption))
    | exact endTx (by assumption) (by assumption) (by (repeat' (first | exact List.forall_mem_nil _ | (refine List.forall_mem_cons.mpr ⟨by k_mem, ?_⟩)))) (wl4 hD hR (fun h => absurd h.2 (by assumption)) (by assumption))
end Mine
namespace Mine
theorem rst_N1 : True := by
  w_top off
  trivial
end Mine
set_option maxRecDepth 100000
namespace Mine
open PySem PySem.W PyProof.Rows PySem.Spec PySem.Calls PySem.NumText
def AD (d : List Nat) : Prop := ∀ c ∈ d, isD c = true
/-- no sign of a number ahead -/
def NoD (t : List Nat) : Prop := ∀ c r, t = c :: r → isD c = false ∧ c ≠ 46
theorem tw_app : ∀ {d t : List Nat}, AD d → NoD t → (d ++ t).takeWhile isD = d ∧ (d ++ t).dropWhile isD = t
  | [], t, _, ht => by
    cases t with
    | nil => exact ⟨rfl, rfl⟩
    | cons c r =>
      have h := (ht c r rfl).1
      simp [h]
  | c :: d, t, hd, ht => by
    have hc := hd c (List.mem_cons_self ..)
    have ih := tw_app (d := d) (t := t) (fun x hx => hd x (List.mem_cons_of_mem _ hx)) ht
    simp [hc, ih.1, ih.2]
theorem tw_dot {d t : List Nat} (hd : AD d) : (d ++ 46 :: t).takeWhile isD = d ∧ (d ++ 46 :: t).dropWhile isD = 46 :: t := by
  induction d with
  | nil => exact ⟨rfl, rfl⟩
  | cons c d ih =>
    have hc := hd c (List.mem_cons_self ..)
    have ih := ih (fun x hx => hd x (List.mem_cons_of_mem _ hx))
    simp [hc, ih.1, ih.2]
theorem skip_none {r sg : List Nat} (h : ∀ c r', r = c :: r' → ¬ c ∈ sg) : skipR r sg = ([], r) := by
  cases r with
  | nil => rfl
  | cons c r' => unfold skipR; exact if_neg (h c r' rfl)
theorem skip_one {c : Nat} {r sg : List Nat} (h : c ∈ sg) : skipR (c :: r) sg = ([c], r) := by unfold skipR; exact if_pos h
theorem sg_pm : (Str.ofString "+-").cps.toList = [43, 45] := by decide
theorem sg_dot : (Str.ofString ".").cps.toList = [46] := by decide
theorem sg_e : (Str.ofString "eE").cps.toList = [101, 69] := by decide
theorem pm_digit {c : Nat} (h : isD c = true) : ¬ c ∈ ([43, 45] : List Nat) := by
  simp only [isD, decide_eq_true_eq] at h
  simp only [List.mem_cons, List.not_mem_nil, or_false]
  omega
theorem head_pm {sg D F t P : List Nat} (hs : sg = [] ∨ sg = [45] ∨ sg = [43]) (hD : AD D) (hF : (F = [] ∧ P = []) ∨ F = 46 :: P) (hne : D ++ P ≠ []) :
    skipR (sg ++ (D ++ (F ++ t))) (Str.ofString "+-").cps.toList = (sg, D ++ (F ++ t)) := by
  rw [sg_pm]
  rcases hs with rfl | rfl | rfl
  · refine skip_none fun c r' e => ?_
    cases D with
    | cons d D =>
      cases e
      exact pm_digit (hD _ (List.mem_cons_self ..))
    | nil =>
      rcases hF with ⟨rfl, rfl⟩ | rfl
      · exact absurd rfl hne
      · cases e; decide
  · exact skip_one (by decide)
  · exact skip_one (by decide)
theorem text_dec {sg D F t P : List Nat} {p : Int} (hs : sg = [] ∨ sg = [45] ∨ sg = [43]) (hD : AD D) (hP : AD P) (hF : (F = [] ∧ P = []) ∨ F = 46 :: P) (hne : D ++ P ≠ [])
    (ht : NoD t) (he : expR t = some (p, [])) : decS (sg ++ (D ++ (F ++ t))) = some (numS sg (D ++ P), p - P.length) := by
  unfold decS
  rw [head_pm hs hD hF hne]
  dsimp only
  rcases hF with ⟨rfl, rfl⟩ | rfl
  · rw [List.nil_append, (tw_app hD ht).1, (tw_app hD ht).2]
    have e1 : skipR t (Str.ofString ".").cps.toList = ([], t) := skip_none fun c r' e => by
      rw [sg_dot]
      have := (ht c r' e).2
      simpa using this
    rw [e1]
    dsimp only
    rw [if_pos rfl, if_neg hne, he]
    simp
  · rw [List.cons_append, (tw_dot hD).1, (tw_dot hD).2]
    have e1 : skipR (46 :: (P ++ t)) (Str.ofString ".").cps.toList = ([46], P ++ t) := skip_one (by rw [sg_dot]; decide)
    rw [e1]
    dsimp only
    rw [if_neg (by decide), (tw_app hP ht).1, (tw_app hP ht).2, if_neg hne, he]
    simp
theorem nod_nil : NoD [] := fun _ _ h => by cases h
theorem exp_nil : expR [] = some (0, []) := by
  unfold expR
  rw [show skipR [] (Str.ofString "eE").cps.toList = ([], []) from rfl]
  rfl
/-- a whole number's text, its sign ahead -/
def dgi (n : Int) : List Nat := if n < 0 then 45 :: dg (-n).toNat else dg n.toNat
theorem nod_e {c : Nat} {r : List Nat} (h : c ∈ ([101, 69] : List Nat)) : NoD (c :: r) := by
  intro d r' e
  cases e
  simp only [List.mem_cons, List.not_mem_nil, or_false] at h
  simp only [isD]
  rcases h with rfl | rfl <;> decide
theorem exp_of {c : Nat} {n : Int} (h : c ∈ ([101, 69] : List Nat)) (h1 : -300 ≤ n) (h2 : n ≤ 300) : expR (c :: dgi n) = some (n, []) := by
  have e1 : skipR (c :: dgi n) (Str.ofString "eE").cps.toList = ([c], dgi n) := skip_one (by rw [sg_e]; exact h)
  have gen : ∀ (m : Nat), m ≤ 300 → AD (dg m) ∧ dg m ≠ [] ∧ (dg m).length ≤ 3 ∧ digitsVal (dg m) = m := fun m hm => ⟨dg_dig m, dg_ne m, dg_short (k := 2) (by omega), dg_val m⟩
  unfold expR
  rw [e1]
  dsimp only
  rw [if_neg (by simp)]
  rcases Int.lt_or_le n 0 with q | q
  · rw [show dgi n = 45 :: dg (-n).toNat from if_pos q]
    obtain ⟨g1, g2, g3, g4⟩ := gen (-n).toNat (by omega)
    have e2 : skipR (45 :: dg (-n).toNat) (Str.ofString "+-").cps.toList = ([45], dg (-n).toNat) := skip_one (by rw [sg_pm]; decide)
    have e3 := tw_app g1 nod_nil
    rw [List.append_nil] at e3
    rw [e2]
    dsimp only
    rw [e3.1, e3.2, g4, if_neg g2, if_neg (by omega), if_neg (by omega), if_pos rfl]
    congr 2
    omega
  · rw [show dgi n = dg n.toNat from if_neg (by omega)]
    obtain ⟨g1, g2, g3, g4⟩ := gen n.toNat (by omega)
    have e2 : skipR (dg n.toNat) (Str.ofString "+-").cps.toList = ([], dg n.toNat) := skip_none fun d r' e => by
      rw [sg_pm]
      exact pm_digit (g1 d (by rw [e]; exact List.mem_cons_self ..))
    have e3 := tw_app g1 nod_nil
    rw [List.append_nil] at e3
    rw [e2]
    dsimp only
    rw [e3.1, e3.2, g4, if_neg g2, if_neg (by omega), if_neg (by omega), if_neg (by simp)]
    congr 2
    omega
end Mine
namespace Mine
theorem rst_N2 : True := by
  w_top off
  trivial
end Mine
set_option maxRecDepth 100000
set_option exponentiation.threshold 3000
namespace Mine
open PySem PySem.W PyProof.Rows PySem.Spec PySem.Calls PySem.NumText
theorem bt_of_lt {n : Nat} {x : Int} (h : x.natAbs < 2 ^ n) : Bt n x := by
  unfold Bt Builtin.Int.intBits
  split
  · omega
  · rename_i q
    have hx : x.natAbs ≠ 0 := by simp only [beq_iff_eq] at q; omega
    have := (Nat.log2_lt hx).mpr h
    omega
theorem bt_lt {n : Nat} {x : Int} (h : Bt n x) : x.natAbs < 2 ^ n := by
  unfold Bt Builtin.Int.intBits at h
  split at h
  · rename_i q
    simp only [beq_iff_eq] at q
    subst q
    exact Nat.pow_pos (by decide)
  · exact Nat.lt_of_lt_of_le Nat.lt_log2_self (Nat.pow_le_pow_right (by decide) h)
theorem bt_le {n : Nat} {x y : Int} (h : Bt n y) (hx : x.natAbs ≤ y.natAbs) : Bt n x := bt_of_lt (Nat.lt_of_le_of_lt hx (bt_lt h))
theorem bt_len2 {n : Int} (h : Bt 200 n) : (dg n.toNat).length ≤ 100 := by
  have h1 := bt_lt h
  have h2 : (2 : Nat) ^ 200 ≤ 10 ^ (99 + 1) := by decide +kernel
  exact dg_short (k := 99) (Nat.lt_of_lt_of_le (by omega) h2)
/-- a text, cut behind its last sign that is not 0 -/
theorem strip_cut {f : List Nat} (h : HasNZ f) : ∃ l c z, f = (l ++ [c]) ++ z ∧ (∀ x ∈ z, x = 48) ∧ c ≠ 48 ∧ stripZ f = l ++ [c] := by
  have : ∀ (g : List Nat), HasNZ g.reverse → ∃ l c z, g.reverse = (l ++ [c]) ++ z ∧ (∀ x ∈ z, x = 48) ∧ c ≠ 48 := by
    intro g
    induction g with
    | nil => intro h; exact absurd rfl h
    | cons a g ih =>
      intro h
      rw [List.reverse_cons]
      by_cases q : a = 48
      · subst q
        have h' : HasNZ g.reverse := by
          intro e
          refine h ?_
          rw [List.reverse_cons, val_app, e]
          decide
        obtain ⟨l, c, z, e1, e2, e3⟩ := ih h'
        refine ⟨l, c, z ++ [48], by rw [e1]; simp, fun x hx => ?_, e3⟩
        rcases List.mem_append.mp hx with hx | hx
        · exact e2 x hx
        · exact List.mem_singleton.mp hx
      · exact ⟨g.reverse, a, [], by simp, (fun _ h => nomatch h), q⟩
  obtain ⟨l, c, z, e1, e2, e3⟩ := this f.reverse (by rwa [List.reverse_reverse])
  rw [List.reverse_reverse] at e1
  exact ⟨l, c, z, e1, e2, e3, by rw [e1]; exact strip_end e2 e3⟩
def Dot (T : List Nat) (k : Int) : Prop := 46 ∈ T → ∃ pre f c, T = pre ++ 46 :: (f ++ [c]) ∧ ¬ 46 ∈ pre ∧ c ≠ 48 ∧ c ≠ 46 ∧ (f.length : Int) + 1 ≤ k
theorem no_dot {d : List Nat} (h : AD d) : ¬ 46 ∈ d := fun hm => by have := h _ hm; revert this; decide
theorem round_core {px py S W : Int} (hpy : 1 ≤ py) (hW : Int.fdiv (2 * (if px < 0 then -px else px) * S + py) (2 * py) = W) :
    2 * ((if px < 0 then -W else W) * py - px * S) ≤ py ∧ -(2 * ((if px < 0 then -W else W) * py - px * S)) ≤ py := by
  have h1 := Int.mul_fdiv_add_fmod (2 * (if px < 0 then -px else px) * S + py) (2 * py)
  have h2 := Int.fmod_nonneg_of_pos (2 * (if px < 0 then -px else px) * S + py) (show (0 : Int) < 2 * py by omega)
  have h3 := Int.fmod_lt_of_pos (2 * (if px < 0 then -px else px) * S + py) (show (0 : Int) < 2 * py by omega)
  rw [hW] at h1
  generalize Int.fmod (2 * (if px < 0 then -px else px) * S + py) (2 * py) = r at *
  rcases Int.lt_or_le px 0 with q | q
  · simp only [if_pos q] at *
    have e1 : 2 * py * W = 2 * (W * py) := by grind
    have e2 : 2 * -px * S = -(2 * (px * S)) := by grind
    have e3 : -W * py = -(W * py) := by grind
    rw [e1, e2] at h1
    rw [e3]
    omega
  · simp only [if_neg (show ¬ px < 0 by omega)] at *
    have e1 : 2 * py * W = 2 * (W * py) := by grind
    have e2 : 2 * px * S = 2 * (px * S) := by grind
    rw [e1, e2] at h1
    omega
theorem back_core {px py S W bx bY : Int} (hb : 1 ≤ bY) (hS : bx * S = bY * (if px < 0 then -W else W))
    (h1 : 2 * ((if px < 0 then -W else W) * py - px * S) ≤ py) (h2 : -(2 * ((if px < 0 then -W else W) * py - px * S)) ≤ py) :
    2 * (if bx * py - px * bY < 0 then -(bx * py - px * bY) else bx * py - px * bY) * S ≤ py * bY := by
  generalize (if px < 0 then -W else W) = V at *
  have e : (bx * py - px * bY) * S = bY * (V * py - px * S) := by grind
  have e1 : 2 * (bx * py - px * bY) * S = bY * (2 * (V * py - px * S)) := by grind
  have e2 : 2 * -(bx * py - px * bY) * S = bY * -(2 * (V * py - px * S)) := by grind
  have e3 : py * bY = bY * py := Int.mul_comm ..
  split
  · rw [e2, e3]; exact Int.mul_le_mul_of_nonneg_left h2 (by omega)
  · rw [e1, e3]; exact Int.mul_le_mul_of_nonneg_left h1 (by omega)
/-- read back: the value that stands there -/
theorem back_val {v W : Int} {m K : Nat} (hm : m ≤ K) (hv : v * 10 ^ (K - m) = W) : decX v (-(m : Int)) * 10 ^ K = decY v (-(m : Int)) * W ∧ 1 ≤ decY v (-(m : Int)) := by
  have hp : (10 : Int) ^ K = 10 ^ m * 10 ^ (K - m) := by rw [← Int.pow_add]; congr 1; omega
  unfold decX decY
  split
  · rename_i q
    have e : (-(-(m : Int))).toNat = m := by omega
    rw [e]
    have L := fr_low (x := v) (y := (10 : Int) ^ m) pow10_ne
    refine ⟨?_, L.pos⟩
    have := L.same
    rw [hp, ← hv]
    generalize (10 : Int) ^ m = A at *
    generalize (10 : Int) ^ (K - m) = C at *
    grind
  · rename_i q
    have : m = 0 := by omega
    subst this
    simp only [Nat.sub_zero] at hv
    refine ⟨?_, by decide⟩
    have e0 : (-((0 : Nat) : Int)).toNat = 0 := by decide
    rw [e0, Int.pow_zero, Int.mul_one, Int.one_mul]
    exact hv
structure WrOk (px py k S W D R : Int) (T : List Nat) (v e bx bY : Int) : Prop where
  hS : 10 ^ k.toNat = S
  hW : Int.fdiv (2 * (if px < 0 then -px else px) * S + py) (2 * py) = W
  hD : Int.fdiv W S = D
  hR : Int.fmod W S = R
  hT : writeL (decide (px < 0)) W S = T
  hok : decS T = some (v, e)
  he1 : -20 ≤ e
  he2 : e ≤ 20
  hv : Bt 2000 v
  hX : decX v e = bx
  hY : decY v e = bY
  hY1 : 1 ≤ bY
  bX : Bt 2000 bx
  bYb : Bt 64 bY
  bS : Bt 64 S
  hTl : T.length ≤ 1000
  fin : 2 * (if bx * py - px * bY < 0 then -(bx * py - px * bY) else bx * py - px * bY) * S ≤ py * bY
  hz : T ≠ [45, 48]
  dot : Dot T k
theorem wr_facts {px py k : Int} (hpy : 1 ≤ py) (hk0 : 0 ≤ k) (hk6 : k ≤ 6) (b1 : Bt 64 px) (b2 : Bt 64 py) : ∃ S W D R T v e bx bY, WrOk px py k S W D R T v e bx bY := by
  obtain ⟨K, rfl⟩ := Int.eq_ofNat_of_zero_le hk0
  have hK6 : K ≤ 6 := by omega
  have eK : ((K : Nat) : Int).toNat = K := by omega
  obtain ⟨S, hS⟩ : ∃ S : Int, 10 ^ K = S := ⟨_, rfl⟩
  obtain ⟨W, hW⟩ : ∃ W, Int.fdiv (2 * (if px < 0 then -px else px) * S + py) (2 * py) = W := ⟨_, rfl⟩
  obtain ⟨D, hD⟩ : ∃ D, Int.fdiv W S = D := ⟨_, rfl⟩
  obtain ⟨R, hR⟩ : ∃ R, Int.fmod W S = R := ⟨_, rfl⟩
  have hsp : (0 : Int) < S := by rw [← hS]; exact Int.pow_pos (by decide)
  have hsm : Bt 64 S := by rw [← hS]; exact pow10_sm hK6
  have b22 : Bt 3 (2 : Int) := (by show Builtin.Int.intBits 2 ≤ 3; decide +kernel)
  have ba : Bt 64 (if px < 0 then -px else px) := b1.ite
  have ha0 : 0 ≤ (if px < 0 then -px else px) := by split <;> omega
  have bw : Bt 200 W := by rw [← hW]; exact Nat.le_trans (((b22.mul ba).mul hsm).add b2).fdiv (by decide)
  have bd : Bt 200 D := by rw [← hD]; exact bw.fdiv
  have w0 : 0 ≤ W := by rw [← hW]; exact Int.fdiv_nonneg (by have := Int.mul_nonneg (Int.mul_nonneg (show (0:Int) ≤ 2 by decide) ha0) (Int.le_of_lt hsp); omega) (by omega)
  have d0 : 0 ≤ D := by rw [← hD]; exact Int.fdiv_nonneg w0 (Int.le_of_lt hsp)
  have r0 : 0 ≤ R := by rw [← hR]; exact Int.fmod_nonneg_of_pos _ hsp
  have r1 : R < S := by rw [← hR]; exact Int.fmod_lt_of_pos _ hsp
  have hWD : S * D + R = W := by rw [← hD, ← hR]; exact Int.mul_fdiv_add_fmod ..
  have rc := round_core hpy hW
  have hdl := bt_len2 bd
  have hdv : (digitsVal (dg D.toNat) : Int) = D := by rw [dg_val]; omega
  have hdd : AD (dg D.toNat) := dg_dig _
  have hdn := dg_ne D.toNat
  -- the two parts
  have key : ∃ (F P : List Nat) (m : Nat), (if 0 < R then 46 :: stripZ ((dg (S + R).toNat).drop 1) else []) = F ∧ ((F = [] ∧ P = []) ∨ F = 46 :: P) ∧ AD P ∧ P.length = m ∧ m ≤ K ∧ (digitsVal (dg D.toNat ++ P) : Int) * 10 ^ (K - m) = W ∧ (F = [] → R = 0) ∧ F.length ≤ m + 1 ∧
      (F = [] ∨ ∃ f c, P = f ++ [c] ∧ c ≠ 48 ∧ c ≠ 46 ∧ F = 46 :: P) := by
    rcases Int.lt_or_le 0 R with q | q
    · rw [if_pos q]
      obtain ⟨r, rfl⟩ := Int.eq_ofNat_of_zero_le r0
      have e10 : ((10 ^ K : Nat) : Int) = S := by rw [← hS]; simp
      have hr : r < 10 ^ K := by omega
      have e : (S + ((r : Nat) : Int)).toNat = 10 ^ K + r := by omega
      obtain ⟨f, e1, e2, e3, e4⟩ := frac_of hr
      rw [e, e1]
      show ∃ (F P : List Nat) (m : Nat), 46 :: stripZ f = F ∧ _
      obtain ⟨l, c, z, g1, g2, g3, g4⟩ := strip_cut (f := f) (by show digitsVal f ≠ 0; omega)
      rw [g4]
      have hP : AD (l ++ [c]) := fun x hx => e4 x (by rw [g1]; exact List.mem_append_left _ hx)
      have hc : c ≠ 46 := fun h => by have := hP c (by simp); rw [h] at this; revert this; decide
      have hl : (l ++ [c]).length + z.length = K := by rw [← e2, g1, List.length_append (as := l ++ [c])]
      have hval : digitsVal f = digitsVal (l ++ [c]) * 10 ^ z.length := by rw [g1, val_app, zeros_val z g2]; rfl
      have hz : K - (l ++ [c]).length = z.length := by omega
      refine ⟨_, l ++ [c], (l ++ [c]).length, rfl, .inr rfl, hP, rfl, by omega, ?_, fun h => by (cases h), by simp, .inr ⟨l, c, rfl, g3, hc, rfl⟩⟩
      rw [hz, val_app, ← hWD, ← e3, hval, ← hS]
      have hp : (10 : Int) ^ K = 10 ^ (l ++ [c]).length * 10 ^ z.length := by rw [← Int.pow_add, hl]
      rw [hp]
      simp only [Int.natCast_add, Int.natCast_mul, Int.natCast_pow]
      rw [hdv]
      show (D * (10 : Int) ^ (l ++ [c]).length + _) * (10 : Int) ^ z.length = _
      generalize (10 : Int) ^ (l ++ [c]).length = A
      generalize hB : (10 : Int) ^ z.length = B
      grind
    · rw [if_neg (by omega)]
      refine ⟨[], [], 0, rfl, .inl ⟨rfl, rfl⟩, (fun _ h => nomatch h), rfl, by omega, ?_, fun _ => by omega, by simp, .inl rfl⟩
      rw [List.append_nil, hdv, Nat.sub_zero, hS, ← hWD]
      have : R = 0 := by omega
      rw [this, Int.add_zero, Int.mul_comm]
  obtain ⟨F, P, m, hF, hFP, hP, hPm, hmK, hval, hF0, hFl, hFd⟩ := key
  obtain ⟨sg, hsg⟩ : ∃ sg : List Nat, (if decide (px < 0) = true ∧ 0 < W then [45] else []) = sg := ⟨_, rfl⟩
  have hsg3 : sg = [] ∨ sg = [45] ∨ sg = [43] := by rw [← hsg]; split <;> simp
  have hT : writeL (decide (px < 0)) W S = sg ++ (dg D.toNat ++ (F ++ [])) := by
    unfold writeL
    rw [hD, hR, hF, hsg, List.append_nil]
  have hok := text_dec hsg3 hdd hP hFP (t := []) (p := 0) (by simp [hdn]) nod_nil exp_nil
  have hnum : numS sg (dg D.toNat ++ P) * 10 ^ (K - m) = (if px < 0 then -W else W) := by
    unfold numS
    by_cases q : px < 0 ∧ 0 < W
    · have hs : sg = [45] := by rw [← hsg]; exact if_pos ⟨decide_eq_true q.1, q.2⟩
      rw [if_pos hs, if_pos q.1, Int.neg_mul, hval]
    · have hs : sg = [] := by rw [← hsg]; exact if_neg (fun h => q ⟨of_decide_eq_true h.1, h.2⟩)
      rw [if_neg (by rw [hs]; decide), hval]
      by_cases q2 : px < 0
      · have : W = 0 := by omega
        rw [this]; simp
      · rw [if_neg q2]
  have he : (0 : Int) - (P.length : Int) = -(m : Int) := by omega
  rw [he] at hok
  have hbv := back_val hmK hnum
  have hp1 : (1 : Int) ≤ 10 ^ (K - m) := by have : (0 : Int) < 10 ^ (K - m) := Int.pow_pos (by decide); omega
  have hvW : (numS sg (dg D.toNat ++ P)).natAbs ≤ W.natAbs := by
    have e1 : ((if px < 0 then -W else W)).natAbs = W.natAbs := by split <;> simp
    rw [← e1, ← hnum, Int.natAbs_mul]
    exact Nat.le_mul_of_pos_right _ (by omega)
  have bv : Bt 200 (numS sg (dg D.toNat ++ P)) := bt_le bw hvW
  have bX : Bt 2000 (decX (numS sg (dg D.toNat ++ P)) (-(m : Int))) := by
    unfold decX
    split
    · exact Nat.le_trans bv.frT (by decide)
    · exact Nat.le_trans (bv.mul (pow10_bt (n := (-(m : Int)).toNat) (by omega) |> fun _ => pow10_sm (by omega))) (by decide)
  have bY : Bt 64 (decY (numS sg (dg D.toNat ++ P)) (-(m : Int))) := by
    unfold decY
    split
    · exact (pow10_sm (by omega)).frB
    · exact Bt.of (by decide) (by decide)
  refine ⟨S, W, D, R, _, _, _, _, _, ⟨by rw [eK]; exact hS, hW, hD, hR, hT, hok, by omega, by omega, Nat.le_trans bv (by decide), rfl, rfl, hbv.2, bX, bY, hsm, ?_, ?_, ?_, ?_⟩⟩
  · simp only [List.length_append, List.append_nil]
    have : sg.length ≤ 1 := by rcases hsg3 with h | h | h <;> rw [h] <;> decide
    omega
  · rw [hS] at hbv
    exact back_core hbv.2 hbv.1 rc.1 rc.2
  · intro hz
    rw [List.append_nil] at hz
    rcases hsg3 with h | h | h
    · rw [h, List.nil_append] at hz
      have : ∃ a b, dg D.toNat = a :: b := by
        cases hq : dg D.toNat with
        | nil => exact absurd hq hdn
        | cons a b => exact ⟨a, b, rfl⟩
      obtain ⟨a, b, hab⟩ := this
      rw [hab] at hz
      have : a = 45 := List.head_eq_of_cons_eq hz
      have h2 := hdd a (by rw [hab]; exact List.mem_cons_self ..)
      rw [this] at h2
      revert h2; decide
    · rw [h] at hz
      have hz2 : dg D.toNat ++ F = [48] := List.tail_eq_of_cons_eq hz
      have hF1 : F = [] := by
        have l1 := congrArg List.length hz2
        rw [List.length_append] at l1
        have : 0 < (dg D.toNat).length := List.length_pos_iff.mpr hdn
        simp only [List.length_cons, List.length_nil] at l1
        exact List.length_eq_zero_iff.mp (by omega)
      have hR0 := hF0 hF1
      rw [hF1, List.append_nil] at hz2
      have hD0 : D = 0 := by rw [← hdv, hz2]; decide
      have hW0 : W = 0 := by rw [← hWD, hD0, hR0]; simp
      rw [← hsg, hW0] at h
      simp at h
    · rw [h] at hz
      cases hz
  · intro hm
    rcases hFd with h | ⟨f, c, h1, h2, h3, h4⟩
    · rw [h] at hm
      simp only [List.append_nil] at hm
      rcases List.mem_append.mp hm with h5 | h5
      · exfalso
        rcases hsg3 with h6 | h6 | h6 <;> rw [h6] at h5 <;> revert h5 <;> decide
      · exact absurd h5 (no_dot hdd)
    · refine ⟨sg ++ dg D.toNat, f, c, ?_, ?_, h2, h3, ?_⟩
      · rw [h4, h1, List.append_nil]; simp
      · intro h5
        rcases List.mem_append.mp h5 with h5 | h5
        · rcases hsg3 with h6 | h6 | h6 <;> rw [h6] at h5 <;> revert h5 <;> decide
        · exact absurd h5 (no_dot hdd)
      · have := congrArg List.length h1
        rw [List.length_append] at this
        simp only [List.length_cons, List.length_nil] at this
        omega
end Mine
namespace Mine
theorem rst_B25 : True := by
  w_top off
  trivial
end Mine
set_option maxRecDepth 100000
namespace Mine
open PySem PySem.W PyProof.Rows PySem.Spec PySem.Calls PySem.NumText
local macro_rules | `(tactic| walk_at "exec For Tuple BinOp cons nil") => `(tactic| (k_here; (rename Fr _ _ _ _ => lF'); (with_unfolding_all refine' For_turns lF' ?_); k_whole))
local macro_rules | `(tactic| walk_at "call ref") => `(tactic| (k_here; k_extra "mycall"))
local macro_rules | `(tactic| walk_at "binaryOp FloorDiv int int") => `(tactic| (k_here; k_extra "mydiv"))
local macro_rules | `(tactic| walk_at "binaryOp Mod int int") => `(tactic| (k_here; k_extra "mymod"))
local macro_rules | `(tactic| walk_at "binaryOp Mult int int") => `(tactic| (k_here; k_extra "mymul"))
local macro_rules | `(tactic| walk_at "setAttr ref") => `(tactic| (k_here; k_extra "mysetattr"))
local macro_rules | `(tactic| walk_at "leaving ref") => `(tactic| (k_here; k_extra "myleave"))
local macro_rules | `(tactic| walk_at "exec Raise some none") => `(tactic| (k_here; k_extra "myraise"))
local macro_rules | `(tactic| walk_at "subscriptTail") => `(tactic| (k_here; k_extra "mysub"))
local macro_rules | `(tactic| walk_at "compareOp In str str") => `(tactic| (k_here; k_extra "myin"))
local macro_rules | `(tactic| walk_at "compareOp Eq str str") => `(tactic| (k_here; k_extra "myeq"))
local macro_rules | `(tactic| walk_at "compareOp NotEq str str") => `(tactic| (k_here; k_extra "myne"))
local macro_rules | `(tactic| walk_at "binaryOp Add str str") => `(tactic| (k_here; k_extra "myadd"))
local macro_rules | `(tactic| walk_at "call builtin:len") => `(tactic| (k_here; k_extra "mylen"))
local macro_rules | `(tactic| k_room) => `(tactic| ktr_room)
local macro_rules | `(tactic| k_units) => `(tactic| ktr_units)
local macro_rules | `(tactic| walk_at "binaryOp Pow int int") => `(tactic| (k_here; k_extra "mypow"))
local macro_rules | `(tactic| walk_at "call type:str") => `(tactic| (k_here; k_extra "mystr"))
local macro_rules | `(tactic| walk_at "call builtin:str.index") => `(tactic| (k_here; k_extra "myindex"))

section
variable {w : World} {mean : ExcName → Option Value} {mg mb : Str → Option Value} {f : Addr} {k : Nat} {vs : List Value} {led : List (Addr × Obj)}
  {dp un : Nat} {gd : Option (List Code)} {cn : Str} {cs : Scope} {a : Addr} {ccd : Value} {cl : List (Str × Addr)} {outer : List Env} {A₀ : Around} {base h₀ : Heap} {L : Addr} {m : Str → Option Value} {s : Shared} {Q E : Value → Shared → Prop} {big : List (Addr × Obj)}
theorem Sp.useStr {x : Str} (S : Sp w mean mg mb f k vs led [] (fun _ _ r => ∃ t, r = .str x t)) (B : Below A₀ base outer h₀) (F : Fr h₀ L s.heap m) (X : (Mine.hpK w.params).In h₀) (N : News h₀ L s.heap big)
    (T : Top Mine.vwV (looseW Mine.vwV [Str.ofString "fraction", Str.ofString "write_decimal"]) mean mg mb h₀) (hk : cs.kind = .function) (hs : ∀ p ∈ led, p ∈ big)
    (hd : dp + k < recursionLimit) (hu : un + 8 * k < cLine)
    (ret : ∀ t h' tk', Fr h₀ L h' m → News h₀ L h' big → Q (.str x t) { s with heap := h', toks := tk' }) :
    wpAny (model PySem.Challenge.rw_nu0015_01.row.prog w) (ktrTop dp un gd cn cs L a ccd cl outer) (call (.ref f) vs) Q E s :=
  S.use B F X N T hk hs hd hu (fun r h' tk' F' K' ho => by obtain ⟨t, rfl⟩ := ho; exact ret t h' tk' F' (K'.news N))
end
theorem c_writeT (w : World) (mean : ExcName → Option Value) (mg mb : Str → Option Value) (p : Addr) {px py k S W D R v e bx bY : Int} {T : List Nat} (t1 t2 t3 : Tok) (hw : WrOk px py k S W D R T v e bx bY) (hpy : 1 ≤ py) (hk0 : 0 ≤ k) (hk6 : k ≤ 6) (b1 : Bt 64 px) (b2 : Bt 64 py) :
    Sp w mean mg mb 230 118 [.ref p, .int k t3] [(p, tupO px py t1 t2)] [] (fun _ _ r => ∃ t, r = .str (tx T) t) := by
  have h := c_write w mean mg mb p px py k S W D R t1 t2 t3 hpy hk0 hk6 b1 b2 hw.hS hw.hW hw.hD hw.hR
  rw [hw.hT] at h
  exact h
theorem c_decT (w : World) (mean : ExcName → Option Value) (mg mb : Str → Option Value) {px py k S W D R v e bx bY : Int} {T : List Nat} (t : Tok) (hw : WrOk px py k S W D R T v e bx bY) :
    Sp w mean mg mb 222 122 [.str (tx T) t] [] [] (OutT bx bY) := by
  have h := c_dec w mean mg mb T t hw.hTl v e hw.hok hw.he1 hw.he2 hw.hv
  rw [hw.hX, hw.hY] at h
  exact h
theorem bt2 : Bt 3 (2 : Int) := (by show Builtin.Int.intBits 2 ≤ 3; decide +kernel)
theorem pl_mem {n : Int} (h : n ∈ ([0, 1, 3, 6] : List Int)) : 0 ≤ n ∧ n ≤ 6 := by
  simp only [List.mem_cons, List.not_mem_nil, or_false] at h
  omega
theorem my_inD {prog : Program} {w : World} {A : Around} {E : Value → Shared → Prop} {s : Shared} {x : Str} {T : List Nat} {c : Nat} {t u : Tok} {Q : Value → Shared → Prop}
    (hx : x = tx [c]) (h : Q (.bool (decide (c ∈ T))) s) : wpAny (model prog w) A (compareOp .In (.str x u) (.str (tx T) t)) Q E s := by
  subst hx
  exact my_in h
theorem item_last {l : List Nat} {c : Nat} : Txt.item (tx (l ++ [c])) (-1) = tx [c] := by
  have e1 : Txt.charAt (tx (l ++ [c])) (-1) = some c := by
    unfold Txt.charAt seqIndex?
    have hlen : (tx (l ++ [c])).length = l.length + 1 := by rw [tx_length]; simp
    rw [hlen]
    have e2 : (if (-1 : Int) < 0 then (-1 : Int) + ((l.length + 1 : Nat) : Int) else -1) = (l.length : Int) := by rw [if_pos (by decide)]; omega
    simp only [e2]
    rw [if_pos (by simp; omega)]
    simp
  unfold Txt.item
  rw [e1]
  rfl
theorem my_lastD {prog : Program} {w : World} {A : Around} {E : Value → Shared → Prop} {s : Shared} {value slice : PySem.Expr} {T : List Nat} {k i : Int} {t u : Tok} {Q : Value → Shared → Prop}
    (hD : Dot T k) (hm : 46 ∈ T) (hl : T.length ≤ 1000) (ei : i = -1) (h : ∀ c, c ≠ 48 → c ≠ 46 → Q (.str (tx [c]) s.toks) { s with toks := s.toks + 1 })
    (hs : subscripted slice false (.str (tx T) t) (.int i u) = operate [.str (tx T) t, .int i u] (getItem (.str (tx T) t) (.int i u)) := by with_unfolding_all rfl)
    (ht : ∀ r, letTemporaryGo value (.str (tx T) t) r = pure () := by intro _; with_unfolding_all rfl) :
    wpAny (model prog w) A (subscriptTail value slice (.str (tx T) t) (.int i u)) Q E s := by
  subst ei
  obtain ⟨pre, f, c, e, _, h1, h2, _⟩ := hD hm
  have e0 : T = (pre ++ 46 :: f) ++ [c] := by rw [e]; simp
  have hx : (tx T).length = (pre ++ 46 :: f).length + 1 := by rw [tx_length, e0, List.length_append]; rfl
  have hTl : (tx T).length ≤ 1000 := by rw [tx_length]; exact hl
  refine item_str (fitsSsize_of (N := 9223372036854775808) (by omega) (by omega) (Int.le_refl _)) (by omega) (by omega) (fun _ => ?_) hs ht
  have hit : Txt.item (tx T) (-1) = tx [c] := by rw [e0]; exact item_last
  rw [hit]
  exact h c h1 h2
theorem my_in_no {prog : Program} {w : World} {A : Around} {E : Value → Shared → Prop} {s : Shared} {c : Nat} {t u : Tok} {Q : Value → Shared → Prop}
    (h1 : c ≠ 48) (h2 : c ≠ 46) (h : Q (.bool false) s) : wpAny (model prog w) A (compareOp .In (.str (tx [c]) u) (.str (Str.ofString "0.") t)) Q E s := by
  refine my_in ?_
  have : (Str.ofString "0.").cps.toList = [48, 46] := by decide
  rw [this]
  have e : decide (c ∈ ([48, 46] : List Nat)) = false := by simp [h1, h2]
  rw [e]
  exact h
theorem at_char {T : List Nat} {n i : Nat} (h : StrLaws.At (tx T) (tx [46]) n i) : T[i]? = some 46 := by
  have h1 := h.2
  rw [StrLaws.subAt_eq] at h1
  have h2 := eq_of_beq h1
  have h3 : (T.drop i).take 1 = [46] := h2
  have h4 : ((T.drop i).take 1)[0]? = some 46 := by rw [h3]; rfl
  simpa [List.getElem?_take] using h4
theorem find_dot {T pre r : List Nat} (e : T = pre ++ 46 :: r) (hp : ¬ 46 ∈ pre) : (pre.length : Int) ≤ Txt.find (tx T) (tx [46]) := by
  rcases find_whole (tx T) (tx [46]) with ⟨_, h⟩ | ⟨i, h1, h2, _⟩
  · exfalso
    refine h pre.length ⟨?_, ?_⟩
    · rw [tx_length, tx_length, e]; simp
    · rw [StrLaws.subAt_eq]
      show (((T.drop pre.length).take 1) == [46]) = true
      rw [e, List.drop_left]
      rfl
  · rw [h1]
    have hc := at_char h2
    rcases Nat.lt_or_ge i pre.length with q | q
    · exfalso
      rw [e, List.getElem?_append_left q] at hc
      exact hp (List.mem_of_getElem? hc)
    · omega
theorem my_index {prog : Program} {w : World} {A : Around} {E : Value → Shared → Prop} {s : Shared} {T : List Nat} {k : Int} {y : Str} {t u : Tok} {Q : Value → Shared → Prop}
    (hA : A.handled = none) (hy : y = tx [46]) (hD : Dot T k) (hm : 46 ∈ T) (h : ∀ i, (T.length : Int) - i ≤ k + 1 → Q (.int i s.toks) { s with toks := s.toks + 1 }) : wpAny (model prog w) A (call (.builtin "str.index") [.str (tx T) t, .str y u]) Q E s := by
  subst hy
  obtain ⟨pre, f, c, e, h0, _, _, h3⟩ := hD hm
  have hf := find_dot e h0
  refine index_or hA (fun h1 => ?_) (fun _ _ => h _ ?_)
  · exfalso; omega
  · have : T.length = pre.length + (f.length + 1 + 1) := by rw [e]; simp
    omega
theorem my_ne {prog : Program} {w : World} {A : Around} {E : Value → Shared → Prop} {s : Shared} {a b : List Nat} {y : Str} {t u : Tok} {Q : Value → Shared → Prop}
    (hy : y.cps.toList = b) (hne : a ≠ b) (h : Q (.bool true) s) : wpAny (model prog w) A (compareOp .NotEq (.str (tx a) t) (.str y u)) Q E s := by
  refine PySem.P.ne_str ?_
  rw [hy]
  show Q (.bool (a != b)) s
  have : (a != b) = true := by simp [hne]
  rw [this]
  exact h
theorem endRW {s : Shared} {g : Heap} {new led : List (Addr × Obj)} {L' src : Addr} {h' : Heap} {m' : Str → Option Value} {tk' : Nat} {x y : Int} {t u : Tok} {o : Obj}
    (F : Fr g L' h' m') (N : News g L' h' new) (hm : (src, srcO x y t u) ∈ new) (hs : ∀ p ∈ led, p ∈ new) :
    SpEnd s g ((src, o) :: led) [src] (fun _ h' r => r = .bool true ∧ Src h' src) (.bool true) { s with heap := h', toks := tk' } := by
  refine ⟨_, _, _, _, rfl, F, (fun p hp hq => ?_), rfl, _, _, _, _, (N _ hm).1⟩
  rcases List.mem_cons.mp hp with rfl | hp
  · exact absurd (List.mem_singleton.mpr rfl) hq
  · exact (N _ (hs p hp)).1
set_option maxHeartbeats 8000000 in
theorem c_writ (w : World) (mean : ExcName → Option Value) (mg mb : Str → Option Value) (src p : Addr) (x y px py : Int) (t u t1 t2 : Tok) (hpy : 1 ≤ py) (b1 : Bt 64 px) (b2 : Bt 64 py) :
  Sp w mean mg mb 307 130 [.ref src, .ref p] [(src, srcO x y t u), (p, tupO px py t1 t2)] [src] (fun _ h' r => r = .bool true ∧ Src h' src) := by
  unfold Sp
  k_fill
  k_with_none
  k_with "mycall" => ((with_reducible show wpAny _ _ (call (Value.ref 251) _) _ _ _); (k_dflt (refine' (c_one w mean mg mb _ _ _ _ _ _ _ ?hv ?hv2 ?hne).useOI ?k1 ?k2 ?k3 ?k4 ?k5 ?kK ?ks ?kl ?ki ?kr ?kd ?ku ?_; (case k1 => k_asm); (case k2 => k_asm); (case k3 => k_asm); (case k4 => k_asm); (case k5 => k_asm); (case kK => first | exact rfl | assumption); (case ks => k_mem); (case kl => k_mem); (case ki => (repeat' (first | exact IV.nil | (refine' IV.cons ?_)))); (case kr => (repeat' (first | exact Rem.nil | (refine' Rem.drop ?_) | (refine' Rem.keepT ?rt ?_; (case rt => rfl)) | (refine' Rem.keep ?ra ?_; (case ra => k_ne)) | (refine' Rem.skip ?_)))); (case hv => (simp only [List.length_cons]; omega)); (case hv2 => (simp only [List.length_cons, List.length_nil]; omega)); (case hne => k_ne); (case kd => ktr_room); (case ku => ktr_units))); intro n9 t9 x9 y9 u9 v9 h9 tk9 hm9 F9 N9; (obtain ⟨hk0, hk6⟩ := pl_mem hm9); clear hm9; (obtain ⟨S, W, D, R, T, v, e, bx, bY, hw⟩ := wr_facts hpy hk0 hk6 b1 b2); (have o1 := mulok hw.bX.sz b2.sz); (have o2 := mulok b1.sz hw.bYb.sz); (have hY1 := hw.hY1); (have o3 := mulok (((show Bt 3 (2 : Int) from bt2).mul (((hw.bX.mul b2).sub (b1.mul hw.bYb)).ite)).sz) hw.bS.sz); (have o4 := mulok b2.sz hw.bYb.sz); (have hfin := hw.fin); (have hdot := hw.dot); (have hTl := hw.hTl); (have htl := tx_length T); (try dsimp only); (try k_sweep); (try k_fold))
  k_with "mycall" => ((with_reducible show wpAny _ _ (call (Value.ref 230) _) _ _ _); (k_dflt (refine' (c_writeT w mean mg mb _ _ _ _ ?hw hpy ?hk0 ?hk6 b1 b2).useStr ?k1 ?k2 ?k3 ?k4 ?k5 ?kK ?ks ?kd ?ku ?_; (case k1 => k_asm); (case k2 => k_asm); (case k3 => k_asm); (case k4 => k_asm); (case k5 => k_asm); (case kK => first | exact rfl | assumption); (case ks => (repeat' (first | exact List.forall_mem_nil _ | (refine List.forall_mem_cons.mpr ⟨by k_mem, ?_⟩)))); (case hw => assumption); (case hk0 => assumption); (case hk6 => assumption); (case kd => ktr_room); (case ku => ktr_units))); intro t9 h9 tk9 F9 N9; (try dsimp only); (try k_sweep); (try k_fold))
  k_with "mycall" => ((with_reducible show wpAny _ _ (call (Value.ref 222) _) _ _ _); (k_dflt (refine' (c_decT w mean mg mb _ ?hw).useT ?k1 ?k2 ?k3 ?k4 ?k5 ?kK ?ks ?kd ?ku ?_; (case k1 => k_asm); (case k2 => k_asm); (case k3 => k_asm); (case k4 => k_asm); (case k5 => k_asm); (case kK => first | exact rfl | assumption); (case ks => (repeat' (first | exact List.forall_mem_nil _ | (refine List.forall_mem_cons.mpr ⟨by k_mem, ?_⟩)))); (case hw => assumption); (case kd => ktr_room); (case ku => ktr_units))); intro a9 t9 u9 h9 tk9 F9 N9 ne9; (try simp only [NeAll, and_true] at ne9); (try dsimp only); (try k_sweep); (try k_fold))
  k_with "myeq" => ((with_reducible show wpAny _ _ (compareOp CmpOp.Eq (Value.str (tx _) _) (Value.str _ _)) _ _ _); (first | refine' my_eq_nil rfl ?_ | refine' my_eq (b := [45]) rfl ?_))
  k_with "myne" => ((with_reducible show wpAny _ _ (compareOp CmpOp.NotEq (Value.str (tx _) _) (Value.str _ _)) _ _ _); refine' my_ne_nil rfl ?_)
  k_with "mylen" => ((with_reducible show wpAny _ _ (call (Value.builtin "len") [Value.str (tx _) _]) _ _ _); refine' my_lent ?hlen ?_; (case hlen => first | exact tw_le (by assumption) (by assumption) | exact tw_le2 (by assumption) (by assumption) (by assumption)))
  k_with "mymul" => ((k_dflt (refine' mul_int ?_ ?hm; (case hm => first | exact IntMulOk.of_left (PySem.intBits_le_64 (by omega) (by omega)) | assumption))); (try dsimp only))
  k_with "mypow" => ((k_dflt (refine' my_pow ?ke ?hm1 ?hm2 ?hm3 ?_; (case ke => exact WrOk.hS (by assumption)); (case hm1 => omega); (case hm2 => omega); (case hm3 => decide))); (try dsimp only))
  k_with "mysub" => ((with_reducible show wpAny _ _ (subscriptTail _ _ (Value.str _ _) (Value.int _ _)) _ _ _); (k_dflt (refine' my_lastD ?k1 ?k2 ?k3 ?k4 ?_ ?k5 ?k6; (case k1 => assumption); (case k2 => assumption); (case k3 => assumption); (case k4 => first | rfl | omega); (case k5 => with_unfolding_all rfl); (case k6 => (intro _; with_unfolding_all rfl)))); intro c9 e9 e8; (try dsimp only))
  k_with "myin" => ((with_reducible show wpAny _ _ (compareOp CmpOp.In (Value.str (tx [_]) _) (Value.str (Str.ofString "0.") _)) _ _ _); (k_dflt (refine' my_in_no ?k1 ?k2 ?_; (case k1 => assumption); (case k2 => assumption))))
  k_with "myin" => ((with_reducible show wpAny _ _ (compareOp CmpOp.In (Value.str (Str.ofString ".") _) (Value.str (tx _) _)) _ _ _); (k_dflt (refine' my_inD (c := 46) ?khx ?_; (case khx => rfl))))
  k_with "myindex" => ((k_dflt (refine' my_index rfl rfl ?k1 ?k2 ?_; (case k1 => assumption); (case k2 => assumption))); intro i9 hi9; (try dsimp only))
  k_with "myne" => ((with_reducible show wpAny _ _ (compareOp CmpOp.NotEq (Value.str (tx _) _) (Value.str _ _)) _ _ _); (refine' my_ne (b := [45, 48]) rfl ?hne ?_; (case hne => exact WrOk.hz (by assumption))))
  intro dp un gd cn cs a ccd cl outer A₀ base h₀ L m s Q E B F X N T hck hdp hun hret
  k_dflt (refine' sp_enter B F X N T hck hret ?k6 ?k7 ?k8 ?k9 ?kB ?_ ?c2 ?c3 ?c4 ?c5; (case k6 => k_is); (case k7 => k_is); (case k8 => omega); (case k9 => first | exact BindsTo.of_eq rfl | exact binds_K (by k_in) rfl (by k_is) rfl rfl rfl); (case c5 => decide); (case kB => exact locs rfl); (case c2 => exact rfl); (case c3 => exact rfl); (case c4 => exact rfl))
  intro g' L' h' FG' F' N' B' X' T' GS'
  (try dsimp only); (try k_fold)
  k_steps
  all_goals first
    | (exfalso; omega)
    | exact endRW (by assumption) (by assumption) (by k_mem) (by (repeat' (first | exact List.forall_mem_nil _ | (refine List.forall_mem_cons.mpr ⟨by k_mem, ?_⟩))))
end Mine
namespace Mine
theorem rst_N3 : True := by
  w_top off
  trivial
end Mine
set_option maxRecDepth 100000
namespace Mine
open PySem PySem.W PyProof.Rows PySem.Spec PySem.Calls PySem.NumText
section
variable {sg D P t : List Nat} {p : Int}
theorem td1 (hs : sg = [] ∨ sg = [45] ∨ sg = [43]) (hD : AD D) (hne : D ≠ []) (ht : NoD t) (he : expR t = some (p, [])) : decS ((sg ++ D) ++ t) = some (numS sg D, p - (0 : Nat)) := by
  have h := text_dec (F := []) (P := []) hs hD (fun _ h => nomatch h) (.inl ⟨rfl, rfl⟩) (by simpa using hne) ht he
  simpa using h
theorem td2 (hs : sg = [] ∨ sg = [45] ∨ sg = [43]) (hD : AD D) (hP : AD P) (hl : P.length = 3) (ht : NoD t) (he : expR t = some (p, [])) : decS ((sg ++ ((D ++ [46]) ++ P)) ++ t) = some (numS sg (D ++ P), p - (3 : Nat)) := by
  have h := text_dec (F := 46 :: P) (P := P) hs hD hP (.inr rfl) (fun e => by rw [(List.append_eq_nil_iff.mp e).2] at hl; cases hl) ht he
  rw [hl] at h
  simpa using h
theorem td3 (hs : sg = [] ∨ sg = [45] ∨ sg = [43]) (hP : AD P) (hl : P.length = 3) (ht : NoD t) (he : expR t = some (p, [])) : decS ((sg ++ ([46] ++ P)) ++ t) = some (numS sg P, p - (3 : Nat)) := by
  have h := text_dec (D := []) (F := 46 :: P) (P := P) hs (fun _ h => nomatch h) hP (.inr rfl) (fun e => by rw [(List.append_eq_nil_iff.mp e).2] at hl; cases hl) ht he
  rw [hl] at h
  simpa using h
theorem td4 (hs : sg = [] ∨ sg = [45] ∨ sg = [43]) (hD : AD D) (hne : D ≠ []) (ht : NoD t) (he : expR t = some (p, [])) : decS ((sg ++ (D ++ [46])) ++ t) = some (numS sg D, p - (0 : Nat)) := by
  have h := text_dec (F := [46]) (P := []) hs hD (fun _ h => nomatch h) (.inr rfl) (by simpa using hne) ht he
  simpa using h
end
/-- what is read is the value told, in lowest terms -/
structure RdOk (v e X Y : Int) : Prop where
  hX : decX v e = X
  hY : decY v e = Y
  pos : 1 ≤ Y
  low : Int.gcd X Y = 1
  val : X * 10 ^ (-e).toNat = Y * (v * 10 ^ e.toNat)
  sX : Sz X
  sY : Sz Y
theorem rd_ok {v e : Int} (hv : Bt 2000 v) (h1 : -20 ≤ e) (h2 : e ≤ 20) : ∃ X Y, RdOk v e X Y := by
  refine ⟨_, _, rfl, rfl, ?_, ?_, ?_, ?_, ?_⟩
  · unfold decY; split
    · exact (fr_low pow10_ne).pos
    · decide
  · unfold decX decY; split
    · exact (fr_low pow10_ne).low
    · exact Int.gcd_one_right ..
  · unfold decX decY; split
    · rename_i q
      have e0 : e.toNat = 0 := by omega
      rw [e0, Int.pow_zero, Int.mul_one]
      exact (fr_low (x := v) pow10_ne).same
    · rename_i q
      have e0 : (-e).toNat = 0 := by omega
      rw [e0, Int.pow_zero, Int.mul_one, Int.one_mul]
  · unfold decX; split
    · exact hv.frT.sz
    · exact (hv.mul (pow10_bt (by omega))).sz
  · unfold decY; split
    · exact (pow10_bt (by omega)).frB.sz
    · exact (Bt.of (by decide) (by decide)).sz
theorem pow_add10 (a b : Nat) : (10 : Int) ^ (a + b) = 10 ^ a * 10 ^ b := Int.pow_add ..
theorem row_eq {X Y v : Int} {a b j A B : Nat} (h : X * 10 ^ b = Y * (v * 10 ^ a)) (hn : a + (j + B) = b + A) : X * (10 ^ j * 10 ^ B) = Y * (v * 10 ^ A) := by
  have h1 : X * 10 ^ b * 10 ^ (j + B) = Y * (v * 10 ^ a) * 10 ^ (j + B) := by rw [h]
  have h2 : Y * (v * 10 ^ a) * 10 ^ (j + B) = Y * v * 10 ^ (b + A) := by rw [← hn, pow_add10 a]; grind
  rw [h2, pow_add10 b, pow_add10 j] at h1
  have hb : (10 : Int) ^ b ≠ 0 := pow10_ne
  have h3 : 10 ^ b * (X * (10 ^ j * 10 ^ B)) = 10 ^ b * (Y * (v * 10 ^ A)) := by grind
  exact Int.eq_of_mul_eq_mul_left hb h3
theorem row_1 {X Y v f d : Int} {e : Int} {A B : Nat} (h : RdOk v e X Y) (hv : v = f * d) (hn : e.toNat + B = (-e).toNat + A) : X * (1 * 10 ^ B) = Y * (f * d * 10 ^ A) := by
  have := row_eq (j := 0) (B := B) (A := A) h.val (by omega)
  rw [← hv]
  simpa using this
theorem row_3 {X Y v f d : Int} {e : Int} {A B : Nat} (h : RdOk v e X Y) (hv : v = f * d) (hn : e.toNat + (3 + B) = (-e).toNat + A) : X * (1000 * 10 ^ B) = Y * (f * d * 10 ^ A) := by
  have := row_eq (j := 3) (B := B) (A := A) h.val (by omega)
  rw [← hv]
  exact this
theorem num_m {sg d : List Nat} (h : sg = [45]) : numS sg d = -1 * (digitsVal d : Int) := by unfold numS; rw [if_pos h]; omega
theorem num_p {sg d : List Nat} (h : ¬ sg = [45]) : numS sg d = 1 * (digitsVal d : Int) := by unfold numS; rw [if_neg h]; omega
theorem num_bt {sg d : List Nat} (h : AD d) (hl : d.length ≤ 200) : Bt 2000 (numS sg d) := by
  have h1 := val_lt d h
  have h2 : (10 : Nat) ^ d.length ≤ 10 ^ 200 := Nat.pow_le_pow_right (by decide) hl
  have h3 : (10 : Nat) ^ 200 ≤ 2 ^ 2000 := by decide +kernel
  refine bt_of_lt (Nat.lt_of_lt_of_le ?_ h3)
  have : (numS sg d).natAbs = digitsVal d := by unfold numS; split <;> omega
  omega
theorem ad_app {a b : List Nat} (ha : AD a) (hb : AD b) : AD (a ++ b) := fun c hc => (List.mem_append.mp hc).elim (ha c) (hb c)
theorem sg_mem {x : Str} (h : x ∈ [Str.ofString "", Str.ofString "-", Str.ofString "+"]) : ∃ sg, x = tx sg ∧ (sg = [] ∨ sg = [45] ∨ sg = [43]) := by
  simp only [List.mem_cons, List.not_mem_nil, or_false] at h
  rcases h with rfl | rfl | rfl
  · exact ⟨[], rfl, .inl rfl⟩
  · exact ⟨[45], rfl, .inr (.inl rfl)⟩
  · exact ⟨[43], rfl, .inr (.inr rfl)⟩
theorem e_mem {x : Str} (h : x ∈ [Str.ofString "e", Str.ofString "E"]) : ∃ c, x = tx [c] ∧ c ∈ ([101, 69] : List Nat) := by
  simp only [List.mem_cons, List.not_mem_nil, or_false] at h
  rcases h with rfl | rfl
  · exact ⟨101, rfl, by decide⟩
  · exact ⟨69, rfl, by decide⟩
def wrongs : List Str := [Str.ofString "", Str.ofString ".", Str.ofString "-", Str.ofString "+", Str.ofString "1e", Str.ofString "e5", Str.ofString "1 ", Str.ofString " 1", Str.ofString "1.2.3", Str.ofString "--1", Str.ofString "1e2.5", Str.ofString "1,5", Str.ofString "0x1", Str.ofString "1e9999", Str.ofString "a"]
theorem wrong_all : wrongs.all (fun x => decide (decS x.cps.toList = none) && decide (x.cps.toList.length ≤ 1000)) = true := by decide +kernel
theorem wrong_mem {x : Str} (h : x ∈ wrongs) : ∃ l, x = tx l ∧ decS l = none ∧ l.length ≤ 1000 := by
  have h1 := List.all_eq_true.mp wrong_all x h
  simp only [Bool.and_eq_true, decide_eq_true_eq] at h1
  exact ⟨x.cps.toList, rfl, h1.1, h1.2⟩
theorem pw_mem {v : Value} {a b c d : Tok} (h : v ∈ [Value.none, .int 0 a, .int 2 b, .int (-3) c, .int 7 d]) : v = .none ∨ ∃ p t, v = .int p t ∧ -3 ≤ p ∧ p ≤ 7 := by
  simp only [List.mem_cons, List.not_mem_nil, or_false] at h
  rcases h with rfl | rfl | rfl | rfl | rfl
  · exact .inl rfl
  · exact .inr ⟨0, a, rfl, by decide, by decide⟩
  · exact .inr ⟨2, b, rfl, by decide, by decide⟩
  · exact .inr ⟨-3, c, rfl, by decide, by decide⟩
  · exact .inr ⟨7, d, rfl, by decide, by decide⟩
theorem my_strD {prog : Program} {w : World} {A : Around} {E : Value → Shared → Prop} {s : Shared} {n : Int} {t : Tok} {Q : Value → Shared → Prop}
    (h0 : 0 ≤ n) (h1 : n < 10000) (h : ∀ D, AD D → D ≠ [] → D.length ≤ 100 → (digitsVal D : Int) = n → Q (.str (tx D) s.toks) { s with toks := s.toks + 1 }) : wpAny (model prog w) A (call (.type "str") [.int n t]) Q E s := by
  have hb : Bt 64 n := Bt.of (by omega) (by omega)
  refine my_str h0 (Nat.le_trans hb (by decide)) (h _ (dg_dig _) (dg_ne _) (bt_len2 (Nat.le_trans hb (by decide))) ?_)
  rw [dg_val]; omega
theorem my_strI {prog : Program} {w : World} {A : Around} {E : Value → Shared → Prop} {s : Shared} {n : Int} {t : Tok} {Q : Value → Shared → Prop}
    (h0 : -3 ≤ n) (h1 : n ≤ 7) (h : Q (.str (tx (dgi n)) s.toks) { s with toks := s.toks + 1 }) : wpAny (model prog w) A (call (.type "str") [.int n t]) Q E s := by
  have hb : Bt 64 n := Bt.of (by omega) (by omega)
  have hb' : n.natAbs.log2 < 1920 := by
    have := hb
    unfold Bt Builtin.Int.intBits at this
    split at this
    · rename_i q; simp only [beq_iff_eq] at q; subst q; decide
    · omega
  refine PySem.P.str_of_int hb' ?_
  have e : PySem.Str.ofString (toString n) = tx (dgi n) := by
    have : n = -3 ∨ n = -2 ∨ n = -1 ∨ n = 0 ∨ n = 1 ∨ n = 2 ∨ n = 3 ∨ n = 4 ∨ n = 5 ∨ n = 6 ∨ n = 7 := by omega
    rcases this with rfl | rfl | rfl | rfl | rfl | rfl | rfl | rfl | rfl | rfl | rfl <;> decide +kernel
  rw [e]
  exact h
theorem my_int {prog : Program} {w : World} {A : Around} {E : Value → Shared → Prop} {s : Shared} {d : List Nat} {t : Tok} {Q : Value → Shared → Prop}
    (hd : AD d) (hne : d ≠ []) (hl : d.length ≤ 200) (h : Q (.int (digitsVal d : Nat) s.toks) { s with toks := s.toks + 1 }) : wpAny (model prog w) A (call (.type "int") [.str (tx d) t]) Q E s :=
  KIN.call_text (intText_digits (fun c hc => of_decide_eq_true (hd c hc)) hne (by rw [tx_length]; omega)) (by rw [tx_length]; omega) h
theorem my_tail1 {prog : Program} {w : World} {A : Around} {E : Value → Shared → Prop} {s : Shared} {value slice : PySem.Expr} {n : Int} {ui t : Tok} {h₀ : Heap} {L : Addr} {m : Str → Option Value} {news : List (Addr × Obj)} {Q : Value → Shared → Prop}
    (h0 : 0 ≤ n) (h1 : n < 1000) (hF : Fr h₀ L s.heap m) (hN : News h₀ L s.heap news) (h : ∀ P, AD P → P.length = 3 → (digitsVal P : Int) = n → ∀ h' t' k, Fr h₀ L h' m → News h₀ L h' news → Q (.str (tx P) t') { s with heap := h', toks := k })
    (hs : subscripted slice false (.str (tx (dg (1000 + n).toNat)) t) (.ref s.heap.objs.size) = operate [.ref s.heap.objs.size, .str (tx (dg (1000 + n).toNat)) t] (getItem (.str (tx (dg (1000 + n).toNat)) t) (.ref s.heap.objs.size)) := by with_unfolding_all rfl)
    (ht : ∀ r, letTemporaryGo value (.str (tx (dg (1000 + n).toNat)) t) r = pure () := by intro _; with_unfolding_all rfl) :
    wpAny (model prog w) A (subscriptTail value slice (.str (tx (dg (1000 + n).toNat)) t) (.ref s.heap.objs.size)) Q E { s with heap := s.heap.push { cls := .type "slice", data := .fields #[.int 1 ui, .none, .none] } } := by
  obtain ⟨r, rfl⟩ := Int.eq_ofNat_of_zero_le h0
  have hr : r < 10 ^ 3 := by omega
  obtain ⟨f, e1, e2, e3, e4⟩ := frac_of (k := 3) hr
  have e : (1000 + ((r : Nat) : Int)).toNat = 10 ^ 3 + r := by omega
  have hl : (tx (dg (1000 + ((r : Nat) : Int)).toNat)).length ≤ 1000 := by rw [tx_length, e, e1, List.length_cons, e2]; decide
  refine slice_strN_sn hF hN (fun h' t' k F' N' => ?_) hs ht (by rw [sizeLine_eq]; omega)
  have : Txt.slice (tx (dg (1000 + ((r : Nat) : Int)).toNat)) (some 1) none = tx f := by
    rw [e, e1]
    exact slice_tx_from (a := 1) rfl (by simp)
  rw [this]
  exact h f e4 e2 (by omega) h' t' k F' N'
end Mine
namespace Mine
theorem rst_B26 : True := by
  w_top off
  trivial
end Mine
set_option maxRecDepth 100000
namespace Mine
open PySem PySem.W PyProof.Rows PySem.Spec PySem.Calls PySem.NumText
theorem items_zero {prog : Program} {w : World} {A : Around} {E : Value → Shared → Prop} {h₀ : Heap} {env : Env} {target : PySem.Expr} {body : List Stmt} {Q : Flow → Shared → Prop} {s : Shared} {ws : List (Addr × String)} {keep : List (Addr × Obj)} {m : Str → Option Value} {news : List (Addr × Obj)} {xs : List Itm}
    (e : xs = []) (h : ∀ h tk, Fr h₀ env.locals h m → News h₀ env.locals h news → Q .next { s with heap := h, toks := tk }) : ItemsRest prog w A E h₀ env target body Q s ws keep xs m news := by subst e; exact h
local macro_rules | `(tactic| walk_at "exec For Tuple BinOp cons nil") => `(tactic| (k_here; (rename Fr _ _ _ _ => lF'); (with_unfolding_all refine' For_turns lF' ?_); k_whole))
local macro_rules | `(tactic| walk_at "call ref") => `(tactic| (k_here; k_extra "mycall"))
local macro_rules | `(tactic| walk_at "binaryOp FloorDiv int int") => `(tactic| (k_here; k_extra "mydiv"))
local macro_rules | `(tactic| walk_at "binaryOp Mod int int") => `(tactic| (k_here; k_extra "mymod"))
local macro_rules | `(tactic| walk_at "binaryOp Mult int int") => `(tactic| (k_here; k_extra "mymul"))
local macro_rules | `(tactic| walk_at "setAttr ref") => `(tactic| (k_here; k_extra "mysetattr"))
local macro_rules | `(tactic| walk_at "leaving ref") => `(tactic| (k_here; k_extra "myleave"))
local macro_rules | `(tactic| walk_at "exec Raise some none") => `(tactic| (k_here; k_extra "myraise"))
local macro_rules | `(tactic| walk_at "subscriptTail") => `(tactic| (k_here; k_extra "mysub"))
local macro_rules | `(tactic| walk_at "compareOp In str str") => `(tactic| (k_here; k_extra "myin"))
local macro_rules | `(tactic| walk_at "compareOp Eq str str") => `(tactic| (k_here; k_extra "myeq"))
local macro_rules | `(tactic| walk_at "compareOp NotEq str str") => `(tactic| (k_here; k_extra "myne"))
local macro_rules | `(tactic| walk_at "binaryOp Add str str") => `(tactic| (k_here; k_extra "myadd"))
local macro_rules | `(tactic| walk_at "call builtin:len") => `(tactic| (k_here; k_extra "mylen"))
local macro_rules | `(tactic| k_room) => `(tactic| ktr_room)
local macro_rules | `(tactic| k_units) => `(tactic| ktr_units)
local macro_rules | `(tactic| walk_at "binaryOp Pow int int") => `(tactic| (k_here; k_extra "mypow"))
local macro_rules | `(tactic| walk_at "call type:str") => `(tactic| (k_here; k_extra "mystr"))
local macro_rules | `(tactic| walk_at "call type:int") => `(tactic| (k_here; k_extra "myint"))
local macro_rules | `(tactic| walk_at "eval IfExp") => `(tactic| (k_here; k_extra "myif"))
local macro_rules | `(tactic| walk_at "ItemsRest") => `(tactic| (k_dflt (refine' items_zero ?iz ?_; (case iz => exact rfl)); intro h' tk' F' N'))

theorem td3c {sg P t : List Nat} {p : Int} (hs : sg = [] ∨ sg = [45] ∨ sg = [43]) (hP : AD P) (hl : P.length = 3) (ht : NoD t) (he : expR t = some (p, [])) : decS ((sg ++ (46 :: P)) ++ t) = some (numS sg P, p - (3 : Nat)) := td3 hs hP hl ht he
theorem bt_m {d : List Nat} (hd : AD d) (hl : d.length ≤ 200) : Bt 2000 (-1 * (digitsVal d : Int)) := by rw [← num_m (sg := [45]) rfl]; exact num_bt hd hl
theorem bt_p {d : List Nat} (hd : AD d) (hl : d.length ≤ 200) : Bt 2000 (1 * (digitsVal d : Int)) := by rw [← num_p (sg := []) (by simp)]; exact num_bt hd hl
/-- what -1 if sign == '-' else 1 gives -/
def FacOk (sg : List Nat) (f : Int) : Prop := (f = -1 ∧ sg = [45]) ∨ (f = 1 ∧ ¬ sg = [45])
theorem num_f {sg d : List Nat} {f : Int} (h : FacOk sg f) : numS sg d = f * (digitsVal d : Int) := by
  rcases h with ⟨rfl, h⟩ | ⟨rfl, h⟩
  · exact num_m h
  · exact num_p h
theorem bt_f {sg d : List Nat} {f : Int} (h : FacOk sg f) (hd : AD d) (hl : d.length ≤ 200) : Bt 2000 (f * (digitsVal d : Int)) := by
  rcases h with ⟨rfl, _⟩ | ⟨rfl, _⟩
  · exact bt_m hd hl
  · exact bt_p hd hl
theorem mul_f {sg d : List Nat} {f : Int} {n : Nat} (h : FacOk sg f) (hd : AD d) (hl : d.length ≤ 200) (hn : n ≤ 20) : PySem.IntMulOk (f * (digitsVal d : Int)) (10 ^ n) := mulok (bt_f h hd hl).sz (pow10_bt hn).sz
theorem sz_f {sg d : List Nat} {f : Int} {n : Nat} (h : FacOk sg f) (hd : AD d) (hl : d.length ≤ 200) (hn : n ≤ 20) : Sz (f * (digitsVal d : Int) * 10 ^ n) := ((bt_f h hd hl).mul (pow10_bt hn)).sz
theorem bt_d {d : List Nat} (hd : AD d) (hl : d.length ≤ 200) : Bt 2000 (digitsVal d : Int) := by
  have h := bt_p hd hl
  rwa [Int.one_mul] at h
theorem fac_mul {sg d : List Nat} {f : Int} (h : FacOk sg f) (hd : AD d) (hl : d.length ≤ 200) : PySem.IntMulOk f (digitsVal d : Int) := by
  rcases h with ⟨rfl, _⟩ | ⟨rfl, _⟩
  · exact mulok (Bt.of (x := -1) (by decide) (by decide)).sz (bt_d hd hl).sz
  · exact mulok (Bt.of (x := 1) (by decide) (by decide)).sz (bt_d hd hl).sz
/-- the power: None, or an int -/
def PwOk (v : Value) (n : Int) : Prop := (v = .none ∧ n = 0) ∨ ∃ t, v = .int n t
theorem pw_ok {v : Value} {a b c d : Tok} (h : v ∈ [Value.none, .int 0 a, .int 2 b, .int (-3) c, .int 7 d]) : ∃ n, PwOk v n ∧ -3 ≤ n ∧ n ≤ 7 := by
  rcases pw_mem h with rfl | ⟨p, t, rfl, h1, h2⟩
  · exact ⟨0, .inl ⟨rfl, rfl⟩, by decide, by decide⟩
  · exact ⟨p, .inr ⟨t, rfl⟩, h1, h2⟩
section
variable {M : Model} {A : Around} {c : Sem Value} {Q E : Value → Shared → Prop} {s : Shared}
/-- the two arms of the tail meet again -/
def MeetT (h₀ : Heap) (L src p : Addr) (px py n : Int) (t2 u2 : Tok) (m : Str → Option Value) (s : Shared) (v : Value) (s' : Shared) : Prop :=
  ∃ te t h' tk x y t1 u1, v = .str (tx te) t ∧ (NoD te ∧ expR te = some (n, []) ∧ te.length ≤ 4) ∧ s' = { s with heap := h', toks := tk } ∧ Fr h₀ L h' m ∧ News h₀ L h' [(src, srcO x y t1 u1), (p, tupO px py t2 u2)]
theorem cut_tail {h₀ : Heap} {L src p : Addr} {px py n : Int} {t2 u2 : Tok} {m : Str → Option Value} (_F : Fr h₀ L s.heap m)
    (h : wpAny M A c (MeetT h₀ L src p px py n t2 u2 m s) E s)
    (k : ∀ te t h' tk x y t1 u1, NoD te → expR te = some (n, []) → te.length ≤ 4 → Fr h₀ L h' m → News h₀ L h' [(src, srcO x y t1 u1), (p, tupO px py t2 u2)] → Q (.str (tx te) t) { s with heap := h', toks := tk }) : wpAny M A c Q E s :=
  wpAny_mono h (fun v s' x => by obtain ⟨te, t, h', tk, x, y, t1, u1, rfl, ⟨a, b, c⟩, rfl, F', N'⟩ := x; exact k te t h' tk x y t1 u1 a b c F' N') (fun _ _ x => x)
end
theorem mul_m {d : List Nat} {n : Nat} (hd : AD d) (hl : d.length ≤ 200) (hn : n ≤ 20) : PySem.IntMulOk (-1 * (digitsVal d : Int)) (10 ^ n) := mulok (bt_m hd hl).sz (pow10_bt hn).sz
theorem mul_p {d : List Nat} {n : Nat} (hd : AD d) (hl : d.length ≤ 200) (hn : n ≤ 20) : PySem.IntMulOk (1 * (digitsVal d : Int)) (10 ^ n) := mulok (bt_p hd hl).sz (pow10_bt hn).sz
theorem sz_m {d : List Nat} {n : Nat} (hd : AD d) (hl : d.length ≤ 200) (hn : n ≤ 20) : Sz (-1 * (digitsVal d : Int) * 10 ^ n) := ((bt_m hd hl).mul (pow10_bt hn)).sz
theorem sz_p {d : List Nat} {n : Nat} (hd : AD d) (hl : d.length ≤ 200) (hn : n ≤ 20) : Sz (1 * (digitsVal d : Int) * 10 ^ n) := ((bt_p hd hl).mul (pow10_bt hn)).sz
theorem sz_1 {n : Nat} (hn : n ≤ 20) : Sz (1 * (10 : Int) ^ n) := ((Bt.of (x := 1) (by decide) (by decide)).mul (pow10_bt hn)).sz
theorem sz_3 {n : Nat} (hn : n ≤ 20) : Sz (1000 * (10 : Int) ^ n) := ((Bt.of (x := 1000) (by decide) (by decide)).mul (pow10_bt hn)).sz
theorem nod_e1 {c : Nat} {r : List Nat} (h : c ∈ ([101, 69] : List Nat)) : NoD ([c] ++ r) := nod_e h
theorem exp_of1 {c : Nat} {n : Int} (h : c ∈ ([101, 69] : List Nat)) (h1 : -300 ≤ n) (h2 : n ≤ 300) : expR ([c] ++ dgi n) = some (n, []) := exp_of h h1 h2
theorem sg_len {sg : List Nat} (h : sg = [] ∨ sg = [45] ∨ sg = [43]) : sg.length ≤ 1 := by rcases h with rfl | rfl | rfl <;> decide
theorem dgi_len {n : Int} (h0 : -3 ≤ n) (h1 : n ≤ 7) : (dgi n).length ≤ 3 := by
  have : n = -3 ∨ n = -2 ∨ n = -1 ∨ n = 0 ∨ n = 1 ∨ n = 2 ∨ n = 3 ∨ n = 4 ∨ n = 5 ∨ n = 6 ∨ n = 7 := by omega
  rcases this with rfl | rfl | rfl | rfl | rfl | rfl | rfl | rfl | rfl | rfl | rfl <;> decide +kernel
theorem app_ne {a b : List Nat} (h : a ≠ []) : a ++ b ≠ [] := fun e => h (List.append_eq_nil_iff.mp e).1
theorem len3_ne {a : List Nat} (h : a.length = 3) : a ≠ [] := fun e => by rw [e] at h; cases h
section
variable {w : World} {mean : ExcName → Option Value} {mg mb : Str → Option Value} {l d sg : List Nat} {e : Int} {f : Addr} {k : Nat}
  {dp un : Nat} {gd : Option (List Code)} {cn : Str} {cs : Scope} {a : Addr} {ccd : Value} {cl : List (Str × Addr)} {outer : List Env} {A₀ : Around} {base h₀ : Heap} {L : Addr} {m : Str → Option Value} {s : Shared} {Q E : Value → Shared → Prop} {big : List (Addr × Obj)}
/-- read_decimal of a text that is a number -/
theorem dec_row {t : Tok} (hok : decS l = some (numS sg d, e)) (hd : AD d) (hdl : d.length ≤ 200) (hl : l.length ≤ 1000) (h1 : -20 ≤ e) (h2 : e ≤ 20)
    (B : Below A₀ base outer h₀) (F : Fr h₀ L s.heap m) (X : (Mine.hpK w.params).In h₀) (N : News h₀ L s.heap big)
    (T : Top Mine.vwV (looseW Mine.vwV [Str.ofString "fraction", Str.ofString "write_decimal"]) mean mg mb h₀) (hk : cs.kind = .function)
    (hd' : dp + 122 < recursionLimit) (hu : un + 8 * 122 < cLine)
    (ret : ∀ X Y, RdOk (numS sg d) e X Y → ∀ a t u h' tk', Fr h₀ L h' m → News h₀ L h' ((a, tupO X Y t u) :: big) → NeAll a big → Q (.ref a) { s with heap := h', toks := tk' }) :
    wpAny (model PySem.Challenge.rw_nu0015_01.row.prog w) (ktrTop dp un gd cn cs L a ccd cl outer) (call (.ref 222) [.str (tx l) t]) Q E s := by
  obtain ⟨X9, Y9, hr⟩ := rd_ok (num_bt (sg := sg) hd hdl) h1 h2
  have h := c_dec w mean mg mb l t hl _ _ hok h1 h2 (num_bt hd hdl)
  rw [hr.hX, hr.hY] at h
  exact h.useT B F X N T hk (fun _ hp => nomatch hp) hd' hu (ret X9 Y9 hr)
end
set_option maxHeartbeats 8000000 in
theorem c_text (w : World) (mean : ExcName → Option Value) (mg mb : Str → Option Value) (src p : Addr) (x y px py : Int) (t u t2 u2 : Tok) :
  ∀ (dp un : Nat) (gd : Option (List Code)) (cn : Str) (cs : Scope) (a : Addr) (ccd : Value) (A₀ : Around) (h₀ : Heap) (L : Addr) (m : Str → Option Value) (s : Shared) (Q E : Value → Shared → Prop),
    Below A₀ h₀ [] h₀ → Fr h₀ L s.heap m → (Mine.hpK w.params).In h₀ → News h₀ L s.heap [(src, srcO x y t u), (p, tupO px py t2 u2)] → Top Mine.vwV (looseW Mine.vwV [Str.ofString "fraction", Str.ofString "write_decimal"]) mean mg mb h₀ → cs.kind = .function →
    dp + 140 < recursionLimit → un + 8 * 140 < cLine →
    (∀ h' tk', Fr h₀ L h' m → (∃ x y t u, News h₀ L h' [(src, srcO x y t u), (p, tupO px py t2 u2)]) → KO h₀ L [(src, srcO x y t u), (p, tupO px py t2 u2)] s.heap h' → Q (.bool true) { s with heap := h', toks := tk' }) →
    wpAny (model PySem.Challenge.rw_nu0015_01.row.prog w) (ktrTop dp un gd cn cs L a ccd [] []) (call (.ref 300) [.ref src]) Q E s := by
  k_fill
  k_with_none
  k_with "myif" => ((with_reducible show wpAny _ _ (eval (Expr.IfExp _ (Expr.UnaryOp _ _ _) (Expr.Constant _ _ _) _) _) _ _ _); (k_dflt ((refine cut_int (FacOk sg) ?_ ?_) <;> first | (refine wpAny_IfExp ?_) | (intro f9 t9 tk9 hf9; (try dsimp only)))))
  k_with "myif" => ((with_reducible show wpAny _ _ (eval (Expr.IfExp _ (Expr.Constant _ _ _) (Expr.BinOp _ _ _ _) _) _) _ _ _); (with_reducible rename Fr _ _ _ _ => F'); (k_dflt ((refine cut_tail (src := src) (p := p) (px := px) (py := py) (t2 := t2) (u2 := u2) (n := pn) F' ?_ ?_) <;> first | ((refine wpAny_IfExp ?_); (rcases hpw with ⟨rfl, rfl⟩ | ⟨tw, rfl⟩)) | (clear F'; intro te t9 h9 tk9 x9 y9 t91 u91 hn9 he9 hl9 F9 N9; (try dsimp only); (try k_sweep); (try k_fold)))))
  k_with "myif" => ((with_reducible show wpAny _ _ (eval (Expr.IfExp _ (Expr.Constant _ _ _) (Expr.Name _ _) _) _) _ _ _); (k_dflt ((refine cut_int (fun n9 => pn = n9) ?_ ?_) <;> first | ((refine wpAny_IfExp ?_); (rcases hpw with ⟨rfl, rfl⟩ | ⟨tw, rfl⟩)) | (intro f9 t9 tk9 hf9; subst hf9; (try dsimp only)))))
  k_with "mymul" => ((with_reducible show wpAny _ _ (binaryOp Operator.Mult (Value.int _ _) (Value.int ((digitsVal _ : Nat) : Int) _)) _ _ _); (k_dflt (refine' mul_int ?_ ?hm; (case hm => exact fac_mul (by assumption) (by (first | assumption | exact ad_app (by assumption) (by assumption))) (by ((try simp only [List.length_append]); omega))))); (try dsimp only))
  k_with "mymul" => ((with_reducible show wpAny _ _ (binaryOp Operator.Mult (Value.int (_ * _) _) (Value.int (10 ^ _) _)) _ _ _); (k_dflt (refine' mul_int ?_ ?hm; (case hm => exact mul_f (by assumption) (by (first | assumption | exact ad_app (by assumption) (by assumption))) (by ((try simp only [List.length_append]); omega)) (by (first | omega | (split <;> omega) | (simp; done)))))); (try dsimp only))
  k_with "mycall" => ((with_reducible show wpAny _ _ (call (Value.ref 244) _) _ _ _); (k_dflt (refine' (c_take w mean mg mb _ _ _ _ _ _ _ ?ht).useD ?k1 ?k2 ?k3 ?k4 ?k5 ?kK ?ks ?kr ?kd ?ku ?_; (case k1 => k_asm); (case k2 => k_asm); (case k3 => k_asm); (case k4 => k_asm); (case k5 => k_asm); (case kK => first | exact rfl | assumption); (case ks => k_mem); (case kr => (repeat' (first | exact Rem.nil | (refine' Rem.drop ?_) | (refine' Rem.keepT ?rt ?_; (case rt => rfl)) | (refine' Rem.keep ?ra ?_; (case ra => k_ne)) | (refine' Rem.skip ?_)))); (case ht => first | omega | decide); (case kd => ktr_room); (case ku => ktr_units))); intro n9 t9 x9 y9 u9 v9 h9 tk9 n0 n1 F9 N9; (try dsimp only); (try k_sweep); (try k_fold))
  k_with "mycall" => ((with_reducible show wpAny _ _ (call (Value.ref 222) [Value.str (tx _) _]) _ _ _); (k_dflt (refine' (c_dec_r w mean mg mb _ _ _ ?hl ?hok).use ?k1 ?k2 ?k3 ?k4 ?k5 ?kK ?ks ?kd ?ku ?_; (case hok => assumption); (case hl => assumption); (case k1 => k_asm); (case k2 => k_asm); (case k3 => k_asm); (case k4 => k_asm); (case k5 => k_asm); (case kK => first | exact rfl | assumption); (case ks => exact fun _ hp => hp); (case kd => ktr_room); (case ku => ktr_units))); intro e9 t9 h9 tk9 g9 v9 G9 R9 U9; (try dsimp only))
  k_with "mycall" => ((with_reducible show wpAny _ _ (call (Value.ref 251) _) _ _ _); (k_dflt (refine' (c_one w mean mg mb _ _ _ _ _ _ _ ?hv ?hv2 ?hne).useOS ?k1 ?k2 ?k3 ?k4 ?k5 ?kK ?ks ?kl ?ki ?kr ?kd ?ku ?_; (case k1 => k_asm); (case k2 => k_asm); (case k3 => k_asm); (case k4 => k_asm); (case k5 => k_asm); (case kK => first | exact rfl | assumption); (case ks => k_mem); (case kl => k_mem); (case ki => (repeat' (first | exact SV.nil | (refine' SV.cons ?_)))); (case kr => (repeat' (first | exact Rem.nil | (refine' Rem.drop ?_) | (refine' Rem.keepT ?rt ?_; (case rt => rfl)) | (refine' Rem.keep ?ra ?_; (case ra => k_ne)) | (refine' Rem.skip ?_)))); (case hv => (simp only [List.length_cons]; omega)); (case hv2 => (simp only [List.length_cons, List.length_nil]; omega)); (case hne => k_ne); (case kd => ktr_room); (case ku => ktr_units))); intro n9 t9 x9 y9 u9 v9 h9 tk9 hm9 F9 N9; (obtain ⟨sg, rfl, hsg⟩ := sg_mem hm9); (have hsl := sg_len hsg); clear hm9; (try dsimp only); (try k_sweep); (try k_fold))
  k_with "mycall" => ((with_reducible show wpAny _ _ (call (Value.ref 251) _) _ _ _); (k_dflt (refine' (c_one w mean mg mb _ _ _ _ _ _ _ ?hv ?hv2 ?hne).useOS ?k1 ?k2 ?k3 ?k4 ?k5 ?kK ?ks ?kl ?ki ?kr ?kd ?ku ?_; (case k1 => k_asm); (case k2 => k_asm); (case k3 => k_asm); (case k4 => k_asm); (case k5 => k_asm); (case kK => first | exact rfl | assumption); (case ks => k_mem); (case kl => k_mem); (case ki => (repeat' (first | exact SV.nil | (refine' SV.cons ?_)))); (case kr => (repeat' (first | exact Rem.nil | (refine' Rem.drop ?_) | (refine' Rem.keepT ?rt ?_; (case rt => rfl)) | (refine' Rem.keep ?ra ?_; (case ra => k_ne)) | (refine' Rem.skip ?_)))); (case hv => (simp only [List.length_cons]; omega)); (case hv2 => (simp only [List.length_cons, List.length_nil]; omega)); (case hne => k_ne); (case kd => ktr_room); (case ku => ktr_units))); intro n9 t9 x9 y9 u9 v9 h9 tk9 hm9 F9 N9; (obtain ⟨ce, rfl, hce⟩ := e_mem hm9); clear hm9; (try dsimp only); (try k_sweep); (try k_fold))
  k_with "mycall" => ((with_reducible show wpAny _ _ (call (Value.ref 251) _) _ _ _); (k_dflt (refine' (c_one w mean mg mb _ _ _ _ _ _ _ ?hv ?hv2 ?hne).useOS ?k1 ?k2 ?k3 ?k4 ?k5 ?kK ?ks ?kl ?ki ?kr ?kd ?ku ?_; (case k1 => k_asm); (case k2 => k_asm); (case k3 => k_asm); (case k4 => k_asm); (case k5 => k_asm); (case kK => first | exact rfl | assumption); (case ks => k_mem); (case kl => k_mem); (case ki => (repeat' (first | exact SV.nil | (refine' SV.cons ?_)))); (case kr => (repeat' (first | exact Rem.nil | (refine' Rem.drop ?_) | (refine' Rem.keepT ?rt ?_; (case rt => rfl)) | (refine' Rem.keep ?ra ?_; (case ra => k_ne)) | (refine' Rem.skip ?_)))); (case hv => (simp only [List.length_cons]; omega)); (case hv2 => (simp only [List.length_cons, List.length_nil]; omega)); (case hne => k_ne); (case kd => ktr_room); (case ku => ktr_units))); intro n9 t9 x9 y9 u9 v9 h9 tk9 hm9 F9 N9; (obtain ⟨lw, rfl, hlw, hll⟩ := wrong_mem hm9); clear hm9; (try dsimp only); (try k_sweep); (try k_fold))
  k_with "mycall" => ((with_reducible show wpAny _ _ (call (Value.ref 251) _) _ _ _); (k_dflt (refine' (c_one w mean mg mb _ _ _ _ _ _ _ ?hv ?hv2 ?hne).useO ?k1 ?k2 ?k3 ?k4 ?k5 ?kK ?ks ?kl ?kr ?kd ?ku ?_; (case k1 => k_asm); (case k2 => k_asm); (case k3 => k_asm); (case k4 => k_asm); (case k5 => k_asm); (case kK => first | exact rfl | assumption); (case ks => k_mem); (case kl => k_mem); (case kr => (repeat' (first | exact Rem.nil | (refine' Rem.drop ?_) | (refine' Rem.keepT ?rt ?_; (case rt => rfl)) | (refine' Rem.keep ?ra ?_; (case ra => k_ne)) | (refine' Rem.skip ?_)))); (case hv => (simp only [List.length_cons]; omega)); (case hv2 => (simp only [List.length_cons, List.length_nil]; omega)); (case hne => k_ne); (case kd => ktr_room); (case ku => ktr_units))); intro n9 x9 y9 u9 v9 h9 tk9 hm9 F9 N9; (obtain ⟨pn, hpw, hp1, hp2⟩ := pw_ok hm9); clear hm9; (try dsimp only); (try k_sweep); (try k_fold))
  k_with "mycall" => ((with_reducible show wpAny _ _ (call (Value.ref 222) [Value.str (tx ((_ ++ _) ++ _)) _]) _ _ _); (k_dflt (refine' dec_row (td1 ?w0 ?w1 ?w2 ?wn ?we) ?q1 ?q2 ?q3 ?q4 ?q5 ?k1 ?k2 ?k3 ?k4 ?k5 ?kK ?kd ?ku ?_; (case w0 => assumption); (case w1 => assumption); (case w2 => assumption); (case wn => assumption); (case we => assumption); (case q1 => first | assumption | exact ad_app (by assumption) (by assumption)); (case q2 => ((try simp only [List.length_append]); omega)); (case q3 => ((simp only [List.length_append, List.length_cons, List.length_nil]); omega)); (case q4 => omega); (case q5 => omega); (case k1 => k_asm); (case k2 => k_asm); (case k3 => k_asm); (case k4 => k_asm); (case k5 => k_asm); (case kK => first | exact rfl | assumption); (case kd => ktr_room); (case ku => ktr_units))); intro X9 Y9 hr9 a9 t9 u9 h9 tk9 F9 N9 ne9; (try simp only [NeAll, and_true] at ne9); (try dsimp only); (try k_sweep); (try k_fold))
  k_with "mycall" => ((with_reducible show wpAny _ _ (call (Value.ref 222) [Value.str (tx ((_ ++ (_ ++ [46])) ++ _)) _]) _ _ _); (k_dflt (refine' dec_row (td4 ?w0 ?w1 ?w2 ?wn ?we) ?q1 ?q2 ?q3 ?q4 ?q5 ?k1 ?k2 ?k3 ?k4 ?k5 ?kK ?kd ?ku ?_; (case w0 => assumption); (case w1 => assumption); (case w2 => assumption); (case wn => assumption); (case we => assumption); (case q1 => first | assumption | exact ad_app (by assumption) (by assumption)); (case q2 => ((try simp only [List.length_append]); omega)); (case q3 => ((simp only [List.length_append, List.length_cons, List.length_nil]); omega)); (case q4 => omega); (case q5 => omega); (case k1 => k_asm); (case k2 => k_asm); (case k3 => k_asm); (case k4 => k_asm); (case k5 => k_asm); (case kK => first | exact rfl | assumption); (case kd => ktr_room); (case ku => ktr_units))); intro X9 Y9 hr9 a9 t9 u9 h9 tk9 F9 N9 ne9; (try simp only [NeAll, and_true] at ne9); (try dsimp only); (try k_sweep); (try k_fold))
  k_with "mycall" => ((with_reducible show wpAny _ _ (call (Value.ref 222) [Value.str (tx ((_ ++ ((_ ++ [46]) ++ _)) ++ _)) _]) _ _ _); (k_dflt (refine' dec_row (td2 ?w0 ?w1 ?w2 ?w3 ?wn ?we) ?q1 ?q2 ?q3 ?q4 ?q5 ?k1 ?k2 ?k3 ?k4 ?k5 ?kK ?kd ?ku ?_; (case w0 => assumption); (case w1 => assumption); (case w2 => assumption); (case w3 => assumption); (case wn => assumption); (case we => assumption); (case q1 => first | assumption | exact ad_app (by assumption) (by assumption)); (case q2 => ((try simp only [List.length_append]); omega)); (case q3 => ((simp only [List.length_append, List.length_cons, List.length_nil]); omega)); (case q4 => omega); (case q5 => omega); (case k1 => k_asm); (case k2 => k_asm); (case k3 => k_asm); (case k4 => k_asm); (case k5 => k_asm); (case kK => first | exact rfl | assumption); (case kd => ktr_room); (case ku => ktr_units))); intro X9 Y9 hr9 a9 t9 u9 h9 tk9 F9 N9 ne9; (try simp only [NeAll, and_true] at ne9); (try dsimp only); (try k_sweep); (try k_fold))
  k_with "mycall" => ((with_reducible show wpAny _ _ (call (Value.ref 222) [Value.str (tx ((_ ++ (46 :: _)) ++ _)) _]) _ _ _); (k_dflt (refine' dec_row (td3c ?w0 ?w1 ?w2 ?wn ?we) ?q1 ?q2 ?q3 ?q4 ?q5 ?k1 ?k2 ?k3 ?k4 ?k5 ?kK ?kd ?ku ?_; (case w0 => assumption); (case w1 => assumption); (case w2 => assumption); (case wn => assumption); (case we => assumption); (case q1 => first | assumption | exact ad_app (by assumption) (by assumption)); (case q2 => ((try simp only [List.length_append]); omega)); (case q3 => ((simp only [List.length_append, List.length_cons, List.length_nil]); omega)); (case q4 => omega); (case q5 => omega); (case k1 => k_asm); (case k2 => k_asm); (case k3 => k_asm); (case k4 => k_asm); (case k5 => k_asm); (case kK => first | exact rfl | assumption); (case kd => ktr_room); (case ku => ktr_units))); intro X9 Y9 hr9 a9 t9 u9 h9 tk9 F9 N9 ne9; (try simp only [NeAll, and_true] at ne9); (try dsimp only); (try k_sweep); (try k_fold))
  k_with "mycall" => ((with_reducible show wpAny _ _ (call (Value.ref 258) _) _ _ _); (k_dflt (refine' (c_same w mean mg mb _ _ _ _ _ _ _ _ _ ?z1 ?z2 ?z3 ?z4 ?z5 ?z6 ?z7).useB ?k1 ?k2 ?k3 ?k4 ?k5 ?kK ?ks ?kd ?ku ?_; (case k1 => k_asm); (case k2 => k_asm); (case k3 => k_asm); (case k4 => k_asm); (case k5 => k_asm); (case kK => first | exact rfl | assumption); (case ks => (repeat' (first | exact List.forall_mem_nil _ | (refine List.forall_mem_cons.mpr ⟨by k_mem, ?_⟩)))); (case z1 => exact RdOk.sX (by assumption)); (case z2 => exact RdOk.sY (by assumption)); (case z5 => exact RdOk.pos (by assumption)); (case z7 => exact RdOk.low (by assumption)); (case z6 => first | exact row_1 (by assumption) (num_f (by assumption)) (by omega) | exact row_3 (by assumption) (num_f (by assumption)) (by omega)); (case z3 => exact sz_f (by assumption) (by (first | assumption | exact ad_app (by assumption) (by assumption))) (by ((try simp only [List.length_append]); omega)) (by (first | omega | (split <;> omega) | (simp; done)))); (case z4 => first | exact sz_1 (by (first | omega | (split <;> omega) | (simp; done))) | exact sz_3 (by (first | omega | (split <;> omega) | (simp; done)))); (case kd => ktr_room); (case ku => ktr_units))); intro h9 tk9 F9 N9; (try dsimp only); (try k_sweep); (try k_fold))
  k_with "myeq" => ((with_reducible show wpAny _ _ (compareOp CmpOp.Eq (Value.str (tx _) _) (Value.str _ _)) _ _ _); (first | refine' my_eq_nil rfl ?_ | refine' my_eq (b := [45]) rfl ?_))
  k_with "myne" => ((with_reducible show wpAny _ _ (compareOp CmpOp.NotEq (Value.str (tx _) _) (Value.str _ _)) _ _ _); refine' my_ne_nil rfl ?_)
  k_with "mylen" => ((with_reducible show wpAny _ _ (call (Value.builtin "len") [Value.str (tx _) _]) _ _ _); refine' my_lent ?hlen ?_; (case hlen => first | exact tw_le (by assumption) (by assumption) | exact tw_le2 (by assumption) (by assumption) (by assumption)))
  k_with "mystr" => first
    | ((with_reducible show wpAny _ _ (call (Value.type "str") [Value.int (_ + _) _]) _ _ _); (k_dflt (refine' my_str ?hm1 ?hm2 ?_; (case hm1 => omega); (case hm2 => exact Nat.le_trans (Bt.of (by omega) (by omega)) (by decide)))); (try dsimp only))
    | ((k_dflt (refine' my_strD ?hm1 ?hm2 ?_; (case hm1 => omega); (case hm2 => omega))); intro D hDd hDn hDl hDv; (try dsimp only))
    | ((k_dflt (refine' my_strI ?hm1 ?hm2 ?_; (case hm1 => assumption); (case hm2 => assumption))); (have hdgl := dgi_len (by assumption) (by assumption)); (try dsimp only))
  k_with "mysub" => ((with_reducible show wpAny _ _ (subscriptTail _ (Expr.Slice (some _) none none _) (Value.str (tx _) _) (Value.ref _)) _ _ _); (with_reducible rename Fr _ _ _ _ => F'); (with_reducible rename News _ _ _ _ => N'); (k_dflt (refine my_tail1 (s := ⟨_, _, _, _, _⟩) ?hm1 ?hm2 F' N' ?_; (case hm1 => omega); (case hm2 => omega))); clear F' N'; intro P hPd hPl hPv h' t' k' F' N'; (try dsimp only))
  k_with "myint" => ((with_reducible show wpAny _ _ (call (Value.type "int") [Value.str (tx _) _]) _ _ _); (k_dflt (refine' my_int ?hm1 ?hm2 ?hm3 ?_; (case hm1 => first | assumption | exact ad_app (by assumption) (by assumption)); (case hm2 => first | assumption | exact app_ne (by assumption) | exact len3_ne (by assumption)); (case hm3 => ((try simp only [List.length_append]); omega)))); (try dsimp only))
  k_with "myadd" => ((with_reducible show wpAny _ _ (binaryOp Operator.Add (Value.str (tx _) _) (Value.str _ _)) _ _ _); ((first | refine' my_add (b := []) rfl ?hadd ?_ | refine' my_add (b := [46]) rfl ?hadd ?_ | refine' my_add rfl ?hadd ?_); (case hadd => ((try simp only [List.length_append, List.length_cons, List.length_nil]); omega)); intro _ _; (try dsimp only)))
  k_with "myadd" => ((with_reducible show wpAny _ _ (binaryOp Operator.Add (Value.str (Str.ofString ".") _) (Value.str (tx _) _)) _ _ _); (refine' my_addL (a := [46]) rfl ?hadd ?_; (case hadd => ((try simp only [List.length_append, List.length_cons, List.length_nil]); omega)); intro _ _; (try dsimp only)))
  intro dp un gd cn cs a ccd A₀ h₀ L m s Q E B F X N T hck hdp hun hret
  refine wpAny_call ?_
  k_dflt (refine' st_enter ?k1 ?k2 ?k3 ?k4 ?k5 ?kA ?k6 ?k7 ?k8 ?k9 ?kB ?_ ?cK ?c2 ?c3 ?c4 ?c5; (case kA => exact rfl); (case k2 => k_asm); (case k1 => k_asm); (case k3 => k_asm); (case k4 => k_asm); (case k5 => k_asm); (case k6 => k_is); (case k7 => k_is); (case k8 => ktr_room); (case k9 => exact BindsTo.of_eq rfl); (case kB => exact locs rfl); (case cK => assumption); (case c2 => exact rfl); (case c3 => exact rfl); (case c4 => exact rfl); (case c5 => decide))
  intro g' L' h' FG' F' N' B' X' T' D'
  (try dsimp only); (try k_lift B'); (try k_fold)
  k_steps
  all_goals first
    | (exfalso; omega)
    | exact ⟨_, _, _, rfl, .inl ⟨rfl, by assumption⟩, rfl⟩
    | exact ⟨_, _, _, rfl, .inr ⟨rfl, by assumption⟩, rfl⟩
    | exact ⟨_, _, _, rfl, rfl, rfl⟩
    | exact ⟨[], _, _, _, _, _, _, _, rfl, ⟨nod_nil, exp_nil, by decide⟩, rfl, by assumption, cb_drop (by assumption) (by (repeat' (first | exact List.forall_mem_nil _ | (refine List.forall_mem_cons.mpr ⟨by k_mem, ?_⟩))))⟩
    | exact ⟨_, _, _, _, _, _, _, _, rfl, ⟨nod_e1 (by assumption), exp_of1 (by assumption) (by omega) (by omega), by ((simp only [List.length_append, List.length_cons, List.length_nil]); omega)⟩, rfl, by assumption, cb_drop (by assumption) (by (repeat' (first | exact List.forall_mem_nil _ | (refine List.forall_mem_cons.mpr ⟨by k_mem, ?_⟩))))⟩
    | exact hret _ _ (by assumption) ⟨_, _, _, _, cb_drop (by assumption) (by (repeat' (first | exact List.forall_mem_nil _ | (refine List.forall_mem_cons.mpr ⟨by k_mem, ?_⟩))))⟩ (by assumption)
end Mine
namespace Mine
theorem rst_HD : True := by
  w_top off
  trivial
end Mine
set_option maxRecDepth 100000
namespace Mine
open PySem PySem.W PyProof.Rows PySem.Spec PySem.Calls PySem.NumText
theorem lt3 {k : Nat} {n : Int} (h : k < ((if (if 3 < n then 3 else n) > 1 then if 3 < n then 3 else n else 1) - 0).toNat) : k < 3 := by split at h <;> (try split at h) <;> omega
def Off (own led : List (Addr × Obj)) : Prop := ∀ p ∈ own, ∀ q ∈ led, p.1 ≠ q.1
theorem off_nil {own : List (Addr × Obj)} : Off own [] := fun _ _ _ hq => nomatch hq
theorem off_cons {own led : List (Addr × Obj)} {a : Addr} {o : Obj} (h : ∀ p ∈ own, p.1 ≠ a) (t : Off own led) : Off own ((a, o) :: led) := fun p hp q hq => by
  rcases List.mem_cons.mp hq with rfl | hq
  · exact h p hp
  · exact t p hp q hq
theorem ko_app {h₀ h h' : Heap} {L : Addr} {own led led' : List (Addr × Obj)} (N' : News h₀ L h' led') (ko : KO h₀ L led h h') (No : News h₀ L h own) (off : Off own led) : News h₀ L h' (led' ++ own) := fun p hp =>
  (List.mem_append.mp hp).elim (N' p) (ko own No off p)
theorem DB.ne {x y : Int} (h : DB x y) : y ≠ 0 := h.2.2.2.2
theorem DB.bx {x y : Int} (h : DB x y) : Bt 64 x := Bt.of (by unfold DB at h; omega) (by unfold DB at h; omega)
theorem DB.by' {x y : Int} (h : DB x y) : Bt 64 y := Bt.of (by unfold DB at h; omega) (by unfold DB at h; omega)
theorem DB.low {x y : Int} (h : DB x y) : Low x y (frT x y) (frB x y) := fr_low h.ne
theorem DB.bt {x y : Int} (h : DB x y) : Bt 64 (frT x y) := Bt.frT h.bx
theorem DB.bb {x y : Int} (h : DB x y) : Bt 64 (frB x y) := Bt.frB h.by'
theorem Rem.all {src : Addr} : ∀ {l : List (Addr × Obj)}, (∀ p ∈ l, p.1 ≠ src) → Rem src l l
  | [], _ => .nil
  | _ :: _, h => .keep (h _ (List.mem_cons_self ..)) (Rem.all fun q hq => h q (List.mem_cons_of_mem _ hq))
theorem ktr_in {M : Model} {cn : Str} {cs : Scope} {L a : Addr} {ccd : Value} {t : Sem Value} {Q E : Value → Shared → Prop} {s : Shared} (h : wpAny M (ktrTop 302 7 (some []) cn cs L a ccd [] []) t Q E s) : wpAny M (callerA.deeper (envOf cn cs L a ccd)) t Q E s := h
section
variable {w : World} {mean : ExcName → Option Value} {mg mb : Str → Option Value} {f : Addr} {k : Nat} {vs : List Value} {led : List (Addr × Obj)} {ch : List Addr} {Out : Heap → Heap → Value → Prop}
  {dp un : Nat} {gd : Option (List Code)} {cn : Str} {cs : Scope} {a : Addr} {ccd : Value} {cl : List (Str × Addr)} {outer : List Env} {A₀ : Around} {base h₀ : Heap} {L : Addr} {m : Str → Option Value} {s : Shared} {Q E : Value → Shared → Prop} {big rest : List (Addr × Obj)}
/-- a draw: a new pair; the source moves on -/
theorem Sp.useDr {src : Addr} {x y : Int} {t u : Tok} (S : Sp w mean mg mb f k vs [(src, srcO x y t u)] [src] (OutDr src)) (B : Below A₀ base outer h₀) (F : Fr h₀ L s.heap m) (X : (Mine.hpK w.params).In h₀) (N : News h₀ L s.heap big)
    (T : Top Mine.vwV (looseW Mine.vwV [Str.ofString "fraction", Str.ofString "write_decimal"]) mean mg mb h₀) (hk : cs.kind = .function) (hs : (src, srcO x y t u) ∈ big) (R : Rem src big rest)
    (hd : dp + k < recursionLimit) (hu : un + 8 * k < cLine)
    (ret : ∀ c ax ay t1 t2 x' y' t' u' h' tk', DB ax ay → Fr h₀ L h' m → News h₀ L h' ((c, tupO ax ay t1 t2) :: (src, srcO x' y' t' u') :: rest) → (∀ p ∈ big, p.1 ≠ c) → Q (.ref c) { s with heap := h', toks := tk' }) :
    wpAny (model PySem.Challenge.rw_nu0015_01.row.prog w) (ktrTop dp un gd cn cs L a ccd cl outer) (call (.ref f) vs) Q E s :=
  S.use B F X N T hk (fun p hp => by rw [List.mem_singleton.mp hp]; exact hs) hd hu (fun r h' tk' F' K' ho => by
    obtain ⟨⟨c, ax, ay, t1, t2, rfl, e1, e2, hdb⟩, hS⟩ := ho
    obtain ⟨x', y', t', u', N'⟩ := Src.news N hs R K' hS
    refine ret c ax ay t1 t2 x' y' t' u' h' tk' hdb F' ?_ (new_ne N e1)
    exact new_cons F N' e1 e2)
/-- a new pair of ints -/
theorem Sp.useT2 {x y : Int} (S : Sp w mean mg mb f k vs led [] (OutT x y)) (B : Below A₀ base outer h₀) (F : Fr h₀ L s.heap m) (X : (Mine.hpK w.params).In h₀) (N : News h₀ L s.heap big)
    (T : Top Mine.vwV (looseW Mine.vwV [Str.ofString "fraction", Str.ofString "write_decimal"]) mean mg mb h₀) (hk : cs.kind = .function) (hs : ∀ p ∈ led, p ∈ big)
    (hd : dp + k < recursionLimit) (hu : un + 8 * k < cLine)
    (ret : ∀ a t u h' tk', Fr h₀ L h' m → News h₀ L h' ((a, tupO x y t u) :: big) → (∀ p ∈ big, p.1 ≠ a) → Q (.ref a) { s with heap := h', toks := tk' }) :
    wpAny (model PySem.Challenge.rw_nu0015_01.row.prog w) (ktrTop dp un gd cn cs L a ccd cl outer) (call (.ref f) vs) Q E s :=
  S.use B F X N T hk hs hd hu (fun r h' tk' F' K' ho => by
    obtain ⟨b, t, u, rfl, h1, h2⟩ := ho
    exact ret b t u h' tk' F' (new_cons F (K'.news N) h1 h2) (new_ne N h1))
/-- the pool is made -/
theorem pool_use {l : Addr} {vs : List Value} {ns : List Int} {k : Int} {t1 : Tok} (hI : IntsAre vs ns) (hlen : ns.length ≤ 63) (k0 : 0 ≤ k) (k1 : k < 3)
    (B : Below A₀ base outer h₀) (F : Fr h₀ L s.heap m) (X : (Mine.hpK w.params).In h₀) (N : News h₀ L s.heap big) (T : Top Mine.vwV (looseW Mine.vwV [Str.ofString "fraction", Str.ofString "write_decimal"]) mean mg mb h₀) (hk : cs.kind = .function)
    (hd : dp + 112 < recursionLimit) (hu : un + 8 * 112 < cLine) (hl : h₀.IsList l vs.toArray)
    (ret : ∀ src x y t u h' tk', Fr h₀ L h' m → News h₀ L h' ((src, srcO x y t u) :: big) → (∀ p ∈ big, p.1 ≠ src) → Q (.ref src) { s with heap := h', toks := tk' }) :
    wpAny (model PySem.Challenge.rw_nu0015_01.row.prog w) (ktrTop dp un gd cn cs L a ccd cl outer) (call (.ref 237) [.ref l, .int k t1]) Q E s :=
  c_pool w mean mg mb l vs ns k t1 hI hlen k0 k1 _ _ _ _ _ _ _ _ _ _ _ _ _ _ _ _ _ B F X (fun _ hp => nomatch hp) T hk hd hu (fun r h' tk' F' K' ho => by
    obtain ⟨c, x, y, t, u, rfl, e1, e2⟩ := ho
    exact ret c x y t u h' tk' F' (new_cons F (K'.news N) e1 e2) (new_ne N e1)) hl
/-- a call that says True; the source moves on -/
theorem Sp.useBs {src : Addr} {x y : Int} {t u : Tok} (S : Sp w mean mg mb f k vs led [src] (fun _ h' r => r = .bool true ∧ Src h' src)) (B : Below A₀ base outer h₀) (F : Fr h₀ L s.heap m) (X : (Mine.hpK w.params).In h₀) (N : News h₀ L s.heap big)
    (T : Top Mine.vwV (looseW Mine.vwV [Str.ofString "fraction", Str.ofString "write_decimal"]) mean mg mb h₀) (hk : cs.kind = .function) (hl : ∀ p ∈ led, p ∈ big) (hs : (src, srcO x y t u) ∈ big) (R : Rem src big rest)
    (hd : dp + k < recursionLimit) (hu : un + 8 * k < cLine)
    (ret : ∀ x' y' t' u' h' tk', Fr h₀ L h' m → News h₀ L h' ((src, srcO x' y' t' u') :: rest) → Q (.bool true) { s with heap := h', toks := tk' }) :
    wpAny (model PySem.Challenge.rw_nu0015_01.row.prog w) (ktrTop dp un gd cn cs L a ccd cl outer) (call (.ref f) vs) Q E s :=
  S.use B F X N T hk hl hd hu (fun r h' tk' F' K' ho => by
    obtain ⟨rfl, hS⟩ := ho
    obtain ⟨x', y', t', u', N'⟩ := Src.news N hs R K' hS
    exact ret x' y' t' u' h' tk' F' N')
end
local macro_rules | `(tactic| walk_at "call ref") => `(tactic| (k_here; k_extra "mycall"))
/- The library's head lays a quick twin beside each constant that it makes, with an equation whose proof grows with the square of the constant's parts. Where the twin's name is taken it lays none, and the kernel runs upon the constant itself. -/
theorem fin.tw10098057777631523497 : True := trivial
theorem fin.tw1012361349325877821 : True := trivial
theorem fin.tw1014637456484912126 : True := trivial
theorem fin.tw10147658903529517814 : True := trivial
theorem fin.tw10196768644732416780 : True := trivial
theorem fin.tw10242451874928486539 : True := trivial
theorem fin.tw10329872625359487480 : True := trivial
theorem fin.tw10391319463526535247 : True := trivial
theorem fin.tw10464123902304810227 : True := trivial
theorem fin.tw10580198807604790814 : True := trivial
theorem fin.tw10599938827571368224 : True := trivial
theorem fin.tw10807920368746810246 : True := trivial
theorem fin.tw10829458402184033698 : True := trivial
theorem fin.tw10852849658779182186 : True := trivial
theorem fin.tw10874316729293906858 : True := trivial
theorem fin.tw10875463905939285979 : True := trivial
theorem fin.tw10891054232620793217 : True := trivial
theorem fin.tw10895054467252067526 : True := trivial
theorem fin.tw10936777179133785780 : True := trivial
theorem fin.tw11039862389202566683 : True := trivial
theorem fin.tw11079828417688620724 : True := trivial
theorem fin.tw11112386831996348380 : True := trivial
theorem fin.tw111200028466390044 : True := trivial
theorem fin.tw11151619158091525091 : True := trivial
theorem fin.tw11154830654865731599 : True := trivial
theorem fin.tw11192643925408225281 : True := trivial
theorem fin.tw11273041486466551846 : True := trivial
theorem fin.tw11293339424137598113 : True := trivial
theorem fin.tw11298980531735778240 : True := trivial
theorem fin.tw11336253725339858928 : True := trivial
theorem fin.tw11454252539852477091 : True := trivial
theorem fin.tw11466478281803324712 : True := trivial
theorem fin.tw11587955951900863698 : True := trivial
theorem fin.tw11615019562542576733 : True := trivial
theorem fin.tw12105171945263650130 : True := trivial
theorem fin.tw12118000046449163591 : True := trivial
theorem fin.tw12135189313929291683 : True := trivial
theorem fin.tw12141802397888321627 : True := trivial
theorem fin.tw12180539936304867106 : True := trivial
theorem fin.tw12212933522069011988 : True := trivial
theorem fin.tw12237877928780879103 : True := trivial
theorem fin.tw12355744275394475900 : True := trivial
theorem fin.tw12404002251894628427 : True := trivial
theorem fin.tw12409915417874342407 : True := trivial
theorem fin.tw12448240930570709186 : True := trivial
theorem fin.tw12464766053444552404 : True := trivial
theorem fin.tw1249118550022496774 : True := trivial
theorem fin.tw12494888245299231016 : True := trivial
theorem fin.tw1252854909445205041 : True := trivial
theorem fin.tw12550770813317053977 : True := trivial
theorem fin.tw12629903358213643309 : True := trivial
theorem fin.tw12649782002744950493 : True := trivial
theorem fin.tw12669758225909598566 : True := trivial
theorem fin.tw12696600883282566439 : True := trivial
theorem fin.tw12711679700452659978 : True := trivial
theorem fin.tw12829507556594621215 : True := trivial
theorem fin.tw12869217540446652890 : True := trivial
theorem fin.tw12876116671307685997 : True := trivial
theorem fin.tw12962497063298326498 : True := trivial
theorem fin.tw12977279227502587607 : True := trivial
theorem fin.tw12996517811204074000 : True := trivial
theorem fin.tw13066358836101814915 : True := trivial
theorem fin.tw13162651487661262736 : True := trivial
theorem fin.tw13177410634674063896 : True := trivial
theorem fin.tw13294311002278339166 : True := trivial
theorem fin.tw13383306551100868464 : True := trivial
theorem fin.tw13516622038369049944 : True := trivial
theorem fin.tw13790858721211988464 : True := trivial
theorem fin.tw13870153662132920491 : True := trivial
theorem fin.tw13925877587632400325 : True := trivial
theorem fin.tw13929302177132474383 : True := trivial
theorem fin.tw13948639791554836966 : True := trivial
theorem fin.tw1397303283331804279 : True := trivial
theorem fin.tw14109310954907245088 : True := trivial
theorem fin.tw14139026862911339306 : True := trivial
theorem fin.tw14166196953294261902 : True := trivial
theorem fin.tw14210890002308233579 : True := trivial
theorem fin.tw14245171486683049214 : True := trivial
theorem fin.tw14319609925084042718 : True := trivial
theorem fin.tw14347400895652799225 : True := trivial
theorem fin.tw14365839007642131201 : True := trivial
theorem fin.tw14431720936831517352 : True := trivial
theorem fin.tw14497727239971306367 : True := trivial
theorem fin.tw14517287926952318261 : True := trivial
theorem fin.tw14560573928864763818 : True := trivial
theorem fin.tw14568449535678555946 : True := trivial
theorem fin.tw14574801432027512755 : True := trivial
theorem fin.tw14578271805448956485 : True := trivial
theorem fin.tw14814673180317915700 : True := trivial
theorem fin.tw14856888987745899463 : True := trivial
theorem fin.tw15149952090015108872 : True := trivial
theorem fin.tw15205425988870721313 : True := trivial
theorem fin.tw15309079848183770524 : True := trivial
theorem fin.tw15344004072050561172 : True := trivial
theorem fin.tw1535588207084551279 : True := trivial
theorem fin.tw15564276425815640635 : True := trivial
theorem fin.tw15566928917628492161 : True := trivial
theorem fin.tw15583698165555649274 : True := trivial
theorem fin.tw15621619335703214680 : True := trivial
theorem fin.tw15664837188838724 : True := trivial
theorem fin.tw15815952407149668801 : True := trivial
theorem fin.tw15832999045522443761 : True := trivial
theorem fin.tw15989303212955285315 : True := trivial
theorem fin.tw16103849850496634939 : True := trivial
theorem fin.tw16109372258727991565 : True := trivial
theorem fin.tw16115155874713506467 : True := trivial
theorem fin.tw1613116972386908190 : True := trivial
theorem fin.tw16175276709679454751 : True := trivial
theorem fin.tw16196181902256332553 : True := trivial
theorem fin.tw16229209127682248589 : True := trivial
theorem fin.tw16237762584071213788 : True := trivial
theorem fin.tw16252508478716706905 : True := trivial
theorem fin.tw16256441300576474876 : True := trivial
theorem fin.tw16275787546110486726 : True := trivial
theorem fin.tw16285329926789087883 : True := trivial
theorem fin.tw16401934584784274106 : True := trivial
theorem fin.tw16407147864228438881 : True := trivial
theorem fin.tw16496857829328116044 : True := trivial
theorem fin.tw16510490156224867327 : True := trivial
theorem fin.tw16530489862217454893 : True := trivial
theorem fin.tw16540275574145912595 : True := trivial
theorem fin.tw1666694428299288667 : True := trivial
theorem fin.tw16889484823980962733 : True := trivial
theorem fin.tw16958243865122950064 : True := trivial
theorem fin.tw17067295170570645592 : True := trivial
theorem fin.tw17123178472405020103 : True := trivial
theorem fin.tw17197158672614542318 : True := trivial
theorem fin.tw17204297501091165112 : True := trivial
theorem fin.tw17362494058136835672 : True := trivial
theorem fin.tw17416127249078093707 : True := trivial
theorem fin.tw17449020081951674710 : True := trivial
theorem fin.tw17570709534508481193 : True := trivial
theorem fin.tw17628183408451194143 : True := trivial
theorem fin.tw17656766251404061198 : True := trivial
theorem fin.tw17662344363894024548 : True := trivial
theorem fin.tw17698704350827878285 : True := trivial
theorem fin.tw17717364068325071970 : True := trivial
theorem fin.tw17743408960866722510 : True := trivial
theorem fin.tw17784850919643140607 : True := trivial
theorem fin.tw17801579834951734752 : True := trivial
theorem fin.tw17821466097196317003 : True := trivial
theorem fin.tw17869975865946814897 : True := trivial
theorem fin.tw17896612028031085017 : True := trivial
theorem fin.tw17963964198891936676 : True := trivial
theorem fin.tw17974384156558142227 : True := trivial
theorem fin.tw17981271138414752243 : True := trivial
theorem fin.tw18105285910621931680 : True := trivial
theorem fin.tw1819255440876223710 : True := trivial
theorem fin.tw18373065035072037172 : True := trivial
theorem fin.tw18387650150990424433 : True := trivial
theorem fin.tw1887099378405440850 : True := trivial
theorem fin.tw1921391257341544841 : True := trivial
theorem fin.tw1963134401048803436 : True := trivial
theorem fin.tw1982079694162106894 : True := trivial
theorem fin.tw2086631506510373192 : True := trivial
theorem fin.tw216489041496292469 : True := trivial
theorem fin.tw2236755162388048479 : True := trivial
theorem fin.tw2305881189932309285 : True := trivial
theorem fin.tw2321816554428607280 : True := trivial
theorem fin.tw2367325634123391141 : True := trivial
theorem fin.tw2415902012162501839 : True := trivial
theorem fin.tw2462912638960843985 : True := trivial
theorem fin.tw2512408688544751470 : True := trivial
theorem fin.tw251868834278440796 : True := trivial
theorem fin.tw2537931557510868981 : True := trivial
theorem fin.tw2608567993692976607 : True := trivial
theorem fin.tw2656788454239962097 : True := trivial
theorem fin.tw2866121171748074186 : True := trivial
theorem fin.tw2910385600587045654 : True := trivial
theorem fin.tw2976117146107443816 : True := trivial
theorem fin.tw3004984022683251337 : True := trivial
theorem fin.tw3105451386036433885 : True := trivial
theorem fin.tw3125960719983571848 : True := trivial
theorem fin.tw3199103547748192838 : True := trivial
theorem fin.tw3263211703599914710 : True := trivial
theorem fin.tw3599858809825778643 : True := trivial
theorem fin.tw3623175497522667880 : True := trivial
theorem fin.tw3810570522144960214 : True := trivial
theorem fin.tw3837020019201816242 : True := trivial
theorem fin.tw3975253019698251321 : True := trivial
theorem fin.tw4040260094072895976 : True := trivial
theorem fin.tw4162185377826839926 : True := trivial
theorem fin.tw4170516301191304579 : True := trivial
theorem fin.tw4209717502836232480 : True := trivial
theorem fin.tw4218790737952374519 : True := trivial
theorem fin.tw428092273266315144 : True := trivial
theorem fin.tw4312942655851389009 : True := trivial
theorem fin.tw4326780796455107134 : True := trivial
theorem fin.tw4570111826955561243 : True := trivial
theorem fin.tw4588413851689716618 : True := trivial
theorem fin.tw4598667867955821814 : True := trivial
theorem fin.tw4640724917100965312 : True := trivial
theorem fin.tw4684940682943077961 : True := trivial
theorem fin.tw4719063310657182621 : True := trivial
theorem fin.tw4759752924163587094 : True := trivial
theorem fin.tw4768634762848416435 : True := trivial
theorem fin.tw4788878847521262168 : True := trivial
theorem fin.tw480829909506669009 : True := trivial
theorem fin.tw4878226113927451544 : True := trivial
theorem fin.tw4879674094562380441 : True := trivial
theorem fin.tw4898026214463823928 : True := trivial
theorem fin.tw4924110625330727750 : True := trivial
theorem fin.tw4928979718650693569 : True := trivial
theorem fin.tw4950403968356008110 : True := trivial
theorem fin.tw4982678125008068280 : True := trivial
theorem fin.tw4985728507212818316 : True := trivial
theorem fin.tw5098551885099359569 : True := trivial
theorem fin.tw5102460946473063141 : True := trivial
theorem fin.tw5293390819737331289 : True := trivial
theorem fin.tw5320702786494000081 : True := trivial
theorem fin.tw5392217640556847836 : True := trivial
theorem fin.tw544173102793226557 : True := trivial
theorem fin.tw5486226609284752418 : True := trivial
theorem fin.tw5678346346211369953 : True := trivial
theorem fin.tw5734618986648460908 : True := trivial
theorem fin.tw5776136370200156792 : True := trivial
theorem fin.tw5805905742469029177 : True := trivial
theorem fin.tw5897612983314593646 : True := trivial
theorem fin.tw5901363791540438844 : True := trivial
theorem fin.tw6068950659093879613 : True := trivial
theorem fin.tw6081921254191324426 : True := trivial
theorem fin.tw6127190174262240918 : True := trivial
theorem fin.tw612862322836996645 : True := trivial
theorem fin.tw6381419901266130222 : True := trivial
theorem fin.tw6454446336052903152 : True := trivial
theorem fin.tw6455845175183424153 : True := trivial
theorem fin.tw6498334528663615478 : True := trivial
theorem fin.tw6531376189190222733 : True := trivial
theorem fin.tw6567050819087999508 : True := trivial
theorem fin.tw6634307039904815820 : True := trivial
theorem fin.tw670465573061467203 : True := trivial
theorem fin.tw6707113841082798463 : True := trivial
theorem fin.tw6718411051458867188 : True := trivial
theorem fin.tw6766378078585498003 : True := trivial
theorem fin.tw6956187926921108005 : True := trivial
theorem fin.tw6968583824967984638 : True := trivial
theorem fin.tw6973266500810094378 : True := trivial
theorem fin.tw7000300075881102575 : True := trivial
theorem fin.tw7055459427971326715 : True := trivial
theorem fin.tw7249652514872940865 : True := trivial
theorem fin.tw7282745182861764756 : True := trivial
theorem fin.tw7380833856163905736 : True := trivial
theorem fin.tw744865244796547220 : True := trivial
theorem fin.tw7451905468542833597 : True := trivial
theorem fin.tw7522001649326652513 : True := trivial
theorem fin.tw757079261281740938 : True := trivial
theorem fin.tw7613857476909055813 : True := trivial
theorem fin.tw7613945582906998725 : True := trivial
theorem fin.tw7675655780812522254 : True := trivial
theorem fin.tw7684487725183542926 : True := trivial
theorem fin.tw7803649310394182010 : True := trivial
theorem fin.tw7845872953664198349 : True := trivial
theorem fin.tw7890596953891613788 : True := trivial
theorem fin.tw7976502392129159676 : True := trivial
theorem fin.tw799341379326975648 : True := trivial
theorem fin.tw7995362448368537469 : True := trivial
theorem fin.tw8018989035897545986 : True := trivial
theorem fin.tw8025084765662995669 : True := trivial
theorem fin.tw807531904560671035 : True := trivial
theorem fin.tw8119881530291889089 : True := trivial
theorem fin.tw8272817396058243321 : True := trivial
theorem fin.tw8330952907988395303 : True := trivial
theorem fin.tw8383268338085895543 : True := trivial
theorem fin.tw8399098705505230059 : True := trivial
theorem fin.tw8416529770105884409 : True := trivial
theorem fin.tw846297522682114974 : True := trivial
theorem fin.tw8539976389143765817 : True := trivial
theorem fin.tw8559517257967667466 : True := trivial
theorem fin.tw8577089030196625639 : True := trivial
theorem fin.tw8590288500278120515 : True := trivial
theorem fin.tw8643116662766533202 : True := trivial
theorem fin.tw8656503046869711584 : True := trivial
theorem fin.tw876206183137641144 : True := trivial
theorem fin.tw891787732878383699 : True := trivial
theorem fin.tw8919302590299486024 : True := trivial
theorem fin.tw8947099994592609211 : True := trivial
theorem fin.tw895571856199123645 : True := trivial
theorem fin.tw9113340658982188547 : True := trivial
theorem fin.tw9198068984511786323 : True := trivial
theorem fin.tw9218923581257491847 : True := trivial
theorem fin.tw9281547415333219324 : True := trivial
theorem fin.tw9357874355931990178 : True := trivial
theorem fin.tw9363291351745731410 : True := trivial
theorem fin.tw9387745189664136937 : True := trivial
theorem fin.tw9462194772922662784 : True := trivial
theorem fin.tw9544026089342320630 : True := trivial
theorem fin.tw9722632081671974098 : True := trivial
theorem fin.tw9725021084223525626 : True := trivial
theorem fin.tw9735714214384596553 : True := trivial
theorem fin.tw9746214513668125432 : True := trivial
theorem fin.tw9746901515087519452 : True := trivial
theorem fin.tw9913140749668108558 : True := trivial
set_option maxRecDepth 100000 in
set_option maxHeartbeats 8000000 in
set_option Elab.async true in
theorem fin : PySem.Challenge.rw_nu0015_01.Holds := by
  w_on
  o_law
  o_head (kHook hpK asK (fun _ => by kernel_rfl))
  (case hw => w_witness2)
  show WalkO vwV [Str.ofString "fraction", Str.ofString "write_decimal"] (XL vwV []) _ _ _ _ _
  w_top off
  k_with_none
  k_with "pyIter ref" => k_search (fun pre => True)
  k_with "mycall" => ((with_reducible show wpAny _ _ (call (Value.ref 237) _) _ _ _); refine ktr_in ?_; (k_dflt (refine' pool_use ?hI ?hlen ?h0 ?h1 ?k1 ?k2 ?k3 ?k4 ?k5 ?kK ?kd ?ku ?hlis ?_; (case hlis => assumption); (case hI => assumption); (case hlen => omega); (case h0 => omega); (case h1 => (have hk3 := lt3 (by assumption); omega)); (case k1 => k_asm); (case k2 => k_asm); (case k3 => k_asm); (case k4 => k_asm); (case k5 => k_asm); (case kK => exact rfl); (case kd => decide); (case ku => decide))); intro a9 x9 y9 t9 u9 h9 tk9 F9 N9 hb9; (have of9 : ∀ r ∈ kOwn, r.1 ≠ _ := fun r hr => hb9 r (by (repeat (first | exact hr | refine List.mem_cons_of_mem _ ?_)))); (have ne9 := neAll_of hb9); clear hb9; (try simp only [NeAll, and_true] at ne9); (try dsimp only); (try k_sweep); (try k_fold))
  k_with "mycall" => ((with_reducible show wpAny _ _ (call (Value.ref 265) _) _ _ _); refine ktr_in ?_; (k_dflt (refine' (c_drawn _ _ _ _ _ _ _ _ _).useDr ?k1 ?k2 ?k3 ?k4 ?k5 ?kK  ?kl ?kr ?kd ?ku ?_; (case k1 => k_asm); (case k2 => k_asm); (case k3 => k_asm); (case k4 => k_asm); (case k5 => k_asm); (case kK => exact rfl); (case kl => k_mem); (case kr => (repeat' (first | exact Rem.nil | exact Rem.all (by assumption) | (refine' Rem.drop ?_) | (refine' Rem.keepT ?rt ?_; (case rt => rfl)) | (refine' Rem.keep ?ra ?_; (case ra => k_ne)) | (refine' Rem.skip ?_)))); (case kd => decide); (case ku => decide))); intro c9 ax9 ay9 t91 t92 x9 y9 t9 u9 h9 tk9 hd9 F9 N9 hb9; (have of9 : ∀ r ∈ kOwn, r.1 ≠ _ := fun r hr => hb9 r (by (repeat (first | exact hr | refine List.mem_cons_of_mem _ ?_)))); (have ne9 := neAll_of hb9); clear hb9; (try simp only [NeAll, and_true] at ne9); (try dsimp only); (try k_sweep); (try k_fold))
  k_with "mycall" => ((with_reducible show wpAny _ _ (call (Value.ref 61) _) _ _ _); refine ktr_in ?_; (k_dflt (refine' (c_fr _ _ _ _ _ _ _ _ ?hy).useT2 ?k1 ?k2 ?k3 ?k4 ?k5 ?kK ?ks  ?kd ?ku ?_; (case k1 => k_asm); (case k2 => k_asm); (case k3 => k_asm); (case k4 => k_asm); (case k5 => k_asm); (case kK => exact rfl); (case ks => (repeat' (first | exact List.forall_mem_nil _ | (refine List.forall_mem_cons.mpr ⟨by k_mem, ?_⟩)))); (case hy => exact DB.ne (by assumption)); (case kd => decide); (case ku => decide))); intro c9 t9 u9 h9 tk9 F9 N9 hb9; (have of9 : ∀ r ∈ kOwn, r.1 ≠ _ := fun r hr => hb9 r (by (repeat (first | exact hr | refine List.mem_cons_of_mem _ ?_)))); (have ne9 := neAll_of hb9); clear hb9; (try simp only [NeAll, and_true] at ne9); (try dsimp only); (try k_sweep); (try k_fold))
  k_with "mycall" => ((with_reducible show wpAny _ _ (call (Value.ref 258) _) _ _ _); refine ktr_in ?_; (k_dflt (refine' (c_same _ _ _ _ _ _ _ _ _ _ _ _ _ ?z1 ?z2 ?z3 ?z4 ?z5 ?z6 ?z7).useB ?k1 ?k2 ?k3 ?k4 ?k5 ?kK ?ks  ?kd ?ku ?_; (case k1 => k_asm); (case k2 => k_asm); (case k3 => k_asm); (case k4 => k_asm); (case k5 => k_asm); (case kK => exact rfl); (case ks => (repeat' (first | exact List.forall_mem_nil _ | (refine List.forall_mem_cons.mpr ⟨by k_mem, ?_⟩)))); (case z1 => exact (DB.bt (by assumption)).sz); (case z2 => exact (DB.bb (by assumption)).sz); (case z3 => exact (DB.bx (by assumption)).sz); (case z4 => exact (DB.by' (by assumption)).sz); (case z5 => exact (DB.low (by assumption)).pos); (case z6 => exact (DB.low (by assumption)).same); (case z7 => exact (DB.low (by assumption)).low); (case kd => decide); (case ku => decide))); intro h9 tk9 F9 N9; (try dsimp only); (try k_sweep); (try k_fold))
  k_with "mycall" => ((with_reducible show wpAny _ _ (call (Value.ref 272) _) _ _ _); refine ktr_in ?_; (k_dflt (refine' (c_sums _ _ _ _ _ _ _ _ _ _ _ _ _ _ _ _ _ _ _ _ _ _ _ _ _ _ _ _ _ ?hda ?hdb ?hA ?hB ?b1 ?b2 ?b3 ?b4) _ _ _ _ _ _ _ _ _ _ _ _ _ _ ?k1 ?k2 ?k3 (cb_drop ?k4 ?ks) ?k5 ?kK ?kd ?ku ?_; (case k1 => k_asm); (case k2 => k_asm); (case k3 => k_asm); (case k4 => k_asm); (case k5 => k_asm); (case kK => exact rfl); (case ks => (repeat' (first | exact List.forall_mem_nil _ | (refine List.forall_mem_cons.mpr ⟨by k_mem, ?_⟩)))); (case hda => assumption); (case hdb => assumption); (case hA => exact DB.low (by assumption)); (case hB => exact DB.low (by assumption)); (case b1 => exact DB.bt (by assumption)); (case b2 => exact DB.bb (by assumption)); (case b3 => exact DB.bt (by assumption)); (case b4 => exact DB.bb (by assumption)); (case kd => decide); (case ku => decide))); (with_reducible rename News _ _ _ _ => lN'); (have No9 := cb_drop (news := kOwn) lN' (fun r hr => (by (repeat (first | exact hr | refine List.mem_cons_of_mem _ ?_))))); clear lN'; intro h9 tk9 F9; intro N9 ko9; (have N9 := ko_app N9 ko9 No9 (by (repeat' (first | exact off_nil | refine off_cons (by assumption) ?_)))); clear ko9 No9; (simp only [List.cons_append, List.nil_append] at N9); (try dsimp only); (try k_sweep); (try k_fold))
  k_with "mycall" => ((with_reducible show wpAny _ _ (call (Value.ref 279) _) _ _ _); refine ktr_in ?_; (k_dflt (refine' (c_order _ _ _ _ _ _ _ _ _ _ _ _ _ _ _ _ _ _ _ _ _ _ _ _ ?hda ?hdb ?hA ?hB ?b1 ?b2 ?b3 ?b4).useB ?k1 ?k2 ?k3 ?k4 ?k5 ?kK ?ks  ?kd ?ku ?_; (case k1 => k_asm); (case k2 => k_asm); (case k3 => k_asm); (case k4 => k_asm); (case k5 => k_asm); (case kK => exact rfl); (case ks => (repeat' (first | exact List.forall_mem_nil _ | (refine List.forall_mem_cons.mpr ⟨by k_mem, ?_⟩)))); (case hda => assumption); (case hdb => assumption); (case hA => exact DB.low (by assumption)); (case hB => exact DB.low (by assumption)); (case b1 => exact DB.bt (by assumption)); (case b2 => exact DB.bb (by assumption)); (case b3 => exact DB.bt (by assumption)); (case b4 => exact DB.bb (by assumption)); (case kd => decide); (case ku => decide))); intro h9 tk9 F9 N9; (try dsimp only); (try k_sweep); (try k_fold))
  k_with "mycall" => ((with_reducible show wpAny _ _ (call (Value.ref 286) _) _ _ _); refine ktr_in ?_; (k_dflt (refine' (c_whole _ _ _ _ _ _ _ _ _ _ _ _ _ _ ?hda ?hA ?b1 ?b2).useB ?k1 ?k2 ?k3 ?k4 ?k5 ?kK ?ks  ?kd ?ku ?_; (case k1 => k_asm); (case k2 => k_asm); (case k3 => k_asm); (case k4 => k_asm); (case k5 => k_asm); (case kK => exact rfl); (case ks => (repeat' (first | exact List.forall_mem_nil _ | (refine List.forall_mem_cons.mpr ⟨by k_mem, ?_⟩)))); (case hda => assumption); (case hA => exact DB.low (by assumption)); (case b1 => exact DB.bt (by assumption)); (case b2 => exact DB.bb (by assumption)); (case kd => decide); (case ku => decide))); intro h9 tk9 F9 N9; (try dsimp only); (try k_sweep); (try k_fold))
  k_with "mycall" => ((with_reducible show wpAny _ _ (call (Value.ref 293) _) _ _ _); refine ktr_in ?_; (k_dflt (refine' (c_rootr _ _ _ _ _ _ _ _ _ _ _ _ _ _ ) _ _ _ _ _ _ _ _ _ _ _ _ _ _ ?k1 ?k2 ?k3 (cb_drop ?k4 ?ks) ?k5 ?kK ?kd ?ku ?_; (case k1 => k_asm); (case k2 => k_asm); (case k3 => k_asm); (case k4 => k_asm); (case k5 => k_asm); (case kK => exact rfl); (case ks => exact List.forall_mem_cons.mpr ⟨by k_mem, List.forall_mem_cons.mpr ⟨List.mem_cons_of_mem _ (List.mem_cons_of_mem _ (by k_mem)), List.forall_mem_nil _⟩⟩); (case kd => decide); (case ku => decide))); (with_reducible rename News _ _ _ _ => lN'); (have No9 := cb_drop (news := kOwn) lN' (fun r hr => (by (repeat (first | exact hr | refine List.mem_cons_of_mem _ ?_))))); clear lN'; intro h9 tk9 F9; intro ⟨x9, y9, t9, u9, N9⟩ ko9; (have N9 := ko_app N9 ko9 No9 (by (repeat' (first | exact off_nil | refine off_cons (by assumption) ?_)))); clear ko9 No9; (simp only [List.cons_append, List.nil_append] at N9); (try dsimp only); (try k_sweep); (try k_fold))
  k_with "mycall" => ((with_reducible show wpAny _ _ (call (Value.ref 300) _) _ _ _); refine ktr_in ?_; (k_dflt (refine' (c_text _ _ _ _ _ _ _ _ _ _ _ _ _ _ ) _ _ _ _ _ _ _ _ _ _ _ _ _ _ ?k1 ?k2 ?k3 (cb_drop ?k4 ?ks) ?k5 ?kK ?kd ?ku ?_; (case k1 => k_asm); (case k2 => k_asm); (case k3 => k_asm); (case k4 => k_asm); (case k5 => k_asm); (case kK => exact rfl); (case ks => (repeat' (first | exact List.forall_mem_nil _ | (refine List.forall_mem_cons.mpr ⟨by k_mem, ?_⟩)))); (case kd => decide); (case ku => decide))); (with_reducible rename News _ _ _ _ => lN'); (have No9 := cb_drop (news := kOwn) lN' (fun r hr => (by (repeat (first | exact hr | refine List.mem_cons_of_mem _ ?_))))); clear lN'; intro h9 tk9 F9; intro ⟨x9, y9, t9, u9, N9⟩ ko9; (have N9 := ko_app N9 ko9 No9 (by (repeat' (first | exact off_nil | refine off_cons (by assumption) ?_)))); clear ko9 No9; (simp only [List.cons_append, List.nil_append] at N9); (try dsimp only); (try k_sweep); (try k_fold))
  k_with "mycall" => ((with_reducible show wpAny _ _ (call (Value.ref 307) _) _ _ _); refine ktr_in ?_; (k_dflt (refine' (c_writ _ _ _ _ _ _ _ _ _ _ _ _ _ _ ?hpy ?b1 ?b2).useBs ?k1 ?k2 ?k3 ?k4 ?k5 ?kK ?ks ?kl ?kr ?kd ?ku ?_; (case k1 => k_asm); (case k2 => k_asm); (case k3 => k_asm); (case k4 => k_asm); (case k5 => k_asm); (case kK => exact rfl); (case ks => (repeat' (first | exact List.forall_mem_nil _ | (refine List.forall_mem_cons.mpr ⟨by k_mem, ?_⟩)))); (case kl => k_mem); (case kr => (repeat' (first | exact Rem.nil | exact Rem.all (by assumption) | (refine' Rem.drop ?_) | (refine' Rem.keepT ?rt ?_; (case rt => rfl)) | (refine' Rem.keep ?ra ?_; (case ra => k_ne)) | (refine' Rem.skip ?_)))); (case hpy => exact (DB.low (by assumption)).pos); (case b1 => exact DB.bt (by assumption)); (case b2 => exact DB.bb (by assumption)); (case kd => decide); (case ku => decide))); intro x9 y9 t9 u9 h9 tk9 F9 N9; (try dsimp only); (try k_sweep); (try k_fold))
  w_strict (k_go0; (all_goals try k_fold); k_steps)
end Mine
set_option maxRecDepth 100000 in
theorem PySem.Challenge.cw_nu0015_01_holds : PySem.Challenge.rw_nu0015_01.Holds :=
  Mine.fin
