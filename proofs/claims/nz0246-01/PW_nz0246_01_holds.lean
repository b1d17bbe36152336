import PyProof.Rows.All
import Wide.All
import OpenK.AllK
import Wide.FinOn
import Lean
import PySem.Challenge.RW_nz0246_01
open PySem PySem.W PyProof.Rows PySem.Calls
set_option Elab.async false
set_option maxRecDepth 100000
set_option maxHeartbeats 8000000
set_option linter.unusedVariables false
set_option compiler.extract_closed false
namespace Mine
/-! Head -/
/-- what the top makes and the law's walk reads: the objects by their places (the functions' own parts are taken from the given text) -/
noncomputable def hd.heap_39 : Params → Frag := by
  refine' (?f : ∀ {n1_0 i1_0 n1 i1 n2 i2 n4 i4 n5_0 i5_0 n5 i5 n6_0 i6_0 n6_1 i6_1 n6_2 i6_2 n6_3 i6_3 n6_4 i6_4 n6_5 i6_5 n6_6 i6_6 n6_7 i6_7 n6 i6 n8_0 i8_0 n8_1 i8_1 n8_2 i8_2 n8 i8 n13 i13 n14 i14 n16 i16 n17 i17 n18 i18 n19 i19 n21 i21 n22 i22 n23 i23 n24 i24 n25 i25 n26 i26 n27 i27 n28 i28 n29 i29 : Str} {a1_0 a4 a5_0 a6_0 a6_1 a6_2 a6_3 a6_4 a6_5 a6_6 a6_7 a8_0 a8_1 a8_2 a13 a14 a16 a17 a18 a19 a21 a22 a23 a24 a25 a26 a27 a28 a29 : Arguments} {b1_0 b4 b5_0 b6_0 b6_1 b6_2 b6_3 b6_4 b6_5 b6_6 b6_7 b8_0 b8_1 b8_2 b13 b14 b16 b17 b18 b19 b21 b22 b23 b24 b25 b26 b27 b28 b29 : List Stmt} {d1_0 c1 d1 c2 d2 d4 d5_0 c5 d5 d6_0 d6_1 d6_2 d6_3 d6_4 d6_5 d6_6 d6_7 c6 d6 d8_0 d8_1 d8_2 c8 d8 d13 d14 d16 d17 d18 d19 d21 d22 d23 d24 d25 d26 d27 d28 d29 : List Expr} {r1_0 r4 r5_0 r6_0 r6_1 r6_2 r6_3 r6_4 r6_5 r6_6 r6_7 r8_0 r8_1 r8_2 r13 r14 r16 r17 r18 r19 r21 r22 r23 r24 r25 r26 r27 r28 r29 : Option Expr} {t1_0 t1 t2 t4 t5_0 t5 t6_0 t6_1 t6_2 t6_3 t6_4 t6_5 t6_6 t6_7 t6 t8_0 t8_1 t8_2 t8 t13 t14 t16 t17 t18 t19 t21 t22 t23 t24 t25 t26 t27 t28 t29 : List TypeParam} {s1_0 s1 s2 s4 s5_0 s5 s6_0 s6_1 s6_2 s6_3 s6_4 s6_5 s6_6 s6_7 s6 s8_0 s8_1 s8_2 s8 s13 s14 s16 s17 s18 s19 s21 s22 s23 s24 s25 s26 s27 s28 s29 : Scope} {u1_0 u1 u2 u4 u5_0 u5 u6_0 u6_1 u6_2 u6_3 u6_4 u6_5 u6_6 u6_7 u6 u8_0 u8_1 u8_2 u8 u13 u14 u16 u17 u18 u19 u21 u22 u23 u24 u25 u26 u27 u28 u29 : Option Scope} {p1_0 p1 p2 p4 p5_0 p5 p6_0 p6_1 p6_2 p6_3 p6_4 p6_5 p6_6 p6_7 p6 p8_0 p8_1 p8_2 p8 p13 p14 p16 p17 p18 p19 p21 p22 p23 p24 p25 p26 p27 p28 p29 : Pos} {x0 x2_0 x3 x7 x9 x10 x11 x12 x15 x20 : Stmt} {k1 k2 k5 k6 k8 : List Keyword} {l1 l2 l5 l6 l8 : List Str}, PySem.Challenge.pw_nz0246_01.main.body = [x0, .ClassDef n1 c1 k1 [.FunctionDef n1_0 a1_0 b1_0 d1_0 r1_0 t1_0 s1_0 u1_0 i1_0 p1_0] d1 t1 s1 u1 i1 l1 p1, .ClassDef n2 c2 k2 [x2_0] d2 t2 s2 u2 i2 l2 p2, x3, .FunctionDef n4 a4 b4 d4 r4 t4 s4 u4 i4 p4, .ClassDef n5 c5 k5 [.FunctionDef n5_0 a5_0 b5_0 d5_0 r5_0 t5_0 s5_0 u5_0 i5_0 p5_0] d5 t5 s5 u5 i5 l5 p5, .ClassDef n6 c6 k6 [.FunctionDef n6_0 a6_0 b6_0 d6_0 r6_0 t6_0 s6_0 u6_0 i6_0 p6_0, .FunctionDef n6_1 a6_1 b6_1 d6_1 r6_1 t6_1 s6_1 u6_1 i6_1 p6_1, .FunctionDef n6_2 a6_2 b6_2 d6_2 r6_2 t6_2 s6_2 u6_2 i6_2 p6_2, .FunctionDef n6_3 a6_3 b6_3 d6_3 r6_3 t6_3 s6_3 u6_3 i6_3 p6_3, .FunctionDef n6_4 a6_4 b6_4 d6_4 r6_4 t6_4 s6_4 u6_4 i6_4 p6_4, .FunctionDef n6_5 a6_5 b6_5 d6_5 r6_5 t6_5 s6_5 u6_5 i6_5 p6_5, .FunctionDef n6_6 a6_6 b6_6 d6_6 r6_6 t6_6 s6_6 u6_6 i6_6 p6_6, .FunctionDef n6_7 a6_7 b6_7 d6_7 r6_7 t6_7 s6_7 u6_7 i6_7 p6_7] d6 t6 s6 u6 i6 l6 p6, x7, .ClassDef n8 c8 k8 [.FunctionDef n8_0 a8_0 b8_0 d8_0 r8_0 t8_0 s8_0 u8_0 i8_0 p8_0, .FunctionDef n8_1 a8_1 b8_1 d8_1 r8_1 t8_1 s8_1 u8_1 i8_1 p8_1, .FunctionDef n8_2 a8_2 b8_2 d8_2 r8_2 t8_2 s8_2 u8_2 i8_2 p8_2] d8 t8 s8 u8 i8 l8 p8, x9, x10, x11, x12, .FunctionDef n13 a13 b13 d13 r13 t13 s13 u13 i13 p13, .FunctionDef n14 a14 b14 d14 r14 t14 s14 u14 i14 p14, x15, .FunctionDef n16 a16 b16 d16 r16 t16 s16 u16 i16 p16, .FunctionDef n17 a17 b17 d17 r17 t17 s17 u17 i17 p17, .FunctionDef n18 a18 b18 d18 r18 t18 s18 u18 i18 p18, .FunctionDef n19 a19 b19 d19 r19 t19 s19 u19 i19 p19, x20, .FunctionDef n21 a21 b21 d21 r21 t21 s21 u21 i21 p21, .FunctionDef n22 a22 b22 d22 r22 t22 s22 u22 i22 p22, .FunctionDef n23 a23 b23 d23 r23 t23 s23 u23 i23 p23, .FunctionDef n24 a24 b24 d24 r24 t24 s24 u24 i24 p24, .FunctionDef n25 a25 b25 d25 r25 t25 s25 u25 i25 p25, .FunctionDef n26 a26 b26 d26 r26 t26 s26 u26 i26 p26, .FunctionDef n27 a27 b27 d27 r27 t27 s27 u27 i27 p27, .FunctionDef n28 a28 b28 d28 r28 t28 s28 u28 i28 p28, .FunctionDef n29 a29 b29 d29 r29 t29 s29 u29 i29 p29] → Params → List (Nat × Obj)) ?p
  case p => exact rfl
  case f =>
    intro n1_0 i1_0 n1 i1 n2 i2 n4 i4 n5_0 i5_0 n5 i5 n6_0 i6_0 n6_1 i6_1 n6_2 i6_2 n6_3 i6_3 n6_4 i6_4 n6_5 i6_5 n6_6 i6_6 n6_7 i6_7 n6 i6 n8_0 i8_0 n8_1 i8_1 n8_2 i8_2 n8 i8 n13 i13 n14 i14 n16 i16 n17 i17 n18 i18 n19 i19 n21 i21 n22 i22 n23 i23 n24 i24 n25 i25 n26 i26 n27 i27 n28 i28 n29 i29 a1_0 a4 a5_0 a6_0 a6_1 a6_2 a6_3 a6_4 a6_5 a6_6 a6_7 a8_0 a8_1 a8_2 a13 a14 a16 a17 a18 a19 a21 a22 a23 a24 a25 a26 a27 a28 a29 b1_0 b4 b5_0 b6_0 b6_1 b6_2 b6_3 b6_4 b6_5 b6_6 b6_7 b8_0 b8_1 b8_2 b13 b14 b16 b17 b18 b19 b21 b22 b23 b24 b25 b26 b27 b28 b29 d1_0 c1 d1 c2 d2 d4 d5_0 c5 d5 d6_0 d6_1 d6_2 d6_3 d6_4 d6_5 d6_6 d6_7 c6 d6 d8_0 d8_1 d8_2 c8 d8 d13 d14 d16 d17 d18 d19 d21 d22 d23 d24 d25 d26 d27 d28 d29 r1_0 r4 r5_0 r6_0 r6_1 r6_2 r6_3 r6_4 r6_5 r6_6 r6_7 r8_0 r8_1 r8_2 r13 r14 r16 r17 r18 r19 r21 r22 r23 r24 r25 r26 r27 r28 r29 t1_0 t1 t2 t4 t5_0 t5 t6_0 t6_1 t6_2 t6_3 t6_4 t6_5 t6_6 t6_7 t6 t8_0 t8_1 t8_2 t8 t13 t14 t16 t17 t18 t19 t21 t22 t23 t24 t25 t26 t27 t28 t29 s1_0 s1 s2 s4 s5_0 s5 s6_0 s6_1 s6_2 s6_3 s6_4 s6_5 s6_6 s6_7 s6 s8_0 s8_1 s8_2 s8 s13 s14 s16 s17 s18 s19 s21 s22 s23 s24 s25 s26 s27 s28 s29 u1_0 u1 u2 u4 u5_0 u5 u6_0 u6_1 u6_2 u6_3 u6_4 u6_5 u6_6 u6_7 u6 u8_0 u8_1 u8_2 u8 u13 u14 u16 u17 u18 u19 u21 u22 u23 u24 u25 u26 u27 u28 u29 p1_0 p1 p2 p4 p5_0 p5 p6_0 p6_1 p6_2 p6_3 p6_4 p6_5 p6_6 p6_7 p6 p8_0 p8_1 p8_2 p8 p13 p14 p16 p17 p18 p19 p21 p22 p23 p24 p25 p26 p27 p28 p29 x0 x2_0 x3 x7 x9 x10 x11 x12 x15 x20 k1 k2 k5 k6 k8 l1 l2 l5 l6 l8 _
    exact fun P =>
      (nat_lit 2, { cls := Value.none, data := Data.dict #[{ hash := PyData.keyHash P (Str.ofString "type.__subclasses__.Exception.0"), key := Value.str (Str.ofString "type.__subclasses__.Exception.0") 214, val := Value.int 31 0 }, { hash := PyData.keyHash P (Str.ofString "type.__subclasses__.Exception.n"), key := Value.str (Str.ofString "type.__subclasses__.Exception.n") 215, val := Value.int 1 0 }] 2 }) ::
      (nat_lit 3, { cls := Value.type "dict", data := Data.dict #[{ hash := PyData.keyHash P (Str.ofString "__name__"), key := Value.str (Str.ofString "__name__") 165, val := Value.str (Str.ofString "law_nz0246_01") 524 }, { hash := PyData.keyHash P (Str.ofString "__doc__"), key := Value.str (Str.ofString "__doc__") 166, val := Value.none }, { hash := PyData.keyHash P (Str.ofString "__package__"), key := Value.str (Str.ofString "__package__") 167, val := Value.none }, { hash := PyData.keyHash P (Str.ofString "__loader__"), key := Value.str (Str.ofString "__loader__") 168, val := Value.builtin "__main__.__loader__#opaque" }, { hash := PyData.keyHash P (Str.ofString "__spec__"), key := Value.str (Str.ofString "__spec__") 169, val := Value.none }, { hash := PyData.keyHash P (Str.ofString "__annotations__"), key := Value.str (Str.ofString "__annotations__") 170, val := Value.ref 6 }, { hash := PyData.keyHash P (Str.ofString "__builtins__"), key := Value.str (Str.ofString "__builtins__") 171, val := Value.ref 4 }, { hash := PyData.keyHash P (Str.ofString "__file__"), key := Value.str (Str.ofString "__file__") 173, val := Value.str (Str.ofString "/claim/cut.py") 172 }, { hash := PyData.keyHash P (Str.ofString "__cached__"), key := Value.str (Str.ofString "__cached__") 174, val := Value.none }, { hash := PyData.keyHash P (Str.ofString "PressError"), key := Value.str (Str.ofString "PressError") 217, val := Value.ref 31 }, { hash := PyData.keyHash P (Str.ofString "FrameError"), key := Value.str (Str.ofString "FrameError") 233, val := Value.ref 44 }, { hash := PyData.keyHash P (Str.ofString "parts"), key := Value.str (Str.ofString "parts") 243, val := Value.ref 53 }, { hash := PyData.keyHash P (Str.ofString "Component"), key := Value.str (Str.ofString "Component") 278, val := Value.ref 70 }, { hash := PyData.keyHash P (Str.ofString "Frame"), key := Value.str (Str.ofString "Frame") 372, val := Value.ref 136 }, { hash := PyData.keyHash P (Str.ofString "Grid"), key := Value.str (Str.ofString "Grid") 424, val := Value.ref 169 }, { hash := PyData.keyHash P (Str.ofString "SWAPPING"), key := Value.str (Str.ofString "SWAPPING") 431, val := Value.ref 174 }, { hash := PyData.keyHash P (Str.ofString "MIRRORING"), key := Value.str (Str.ofString "MIRRORING") 436, val := Value.ref 175 }, { hash := PyData.keyHash P (Str.ofString "FLIPPING"), key := Value.str (Str.ofString "FLIPPING") 441, val := Value.ref 176 }, { hash := PyData.keyHash P (Str.ofString "unit_size"), key := Value.str (Str.ofString "unit_size") 448, val := Value.ref 183 }, { hash := PyData.keyHash P (Str.ofString "is_whole"), key := Value.str (Str.ofString "is_whole") 461, val := Value.ref 190 }, { hash := PyData.keyHash P (Str.ofString "copied_components"), key := Value.str (Str.ofString "copied_components") 472, val := Value.ref 197 }, { hash := PyData.keyHash P (Str.ofString "cropped_frame"), key := Value.str (Str.ofString "cropped_frame") 487, val := Value.ref 204 }, { hash := PyData.keyHash P (Str.ofString "cropped_grid"), key := Value.str (Str.ofString "cropped_grid") 509, val := Value.ref 211 }, { hash := PyData.keyHash P (Str.ofString "trimmed_grid"), key := Value.str (Str.ofString "trimmed_grid") 523, val := Value.ref 218 }, { hash := PyData.keyHash P (Str.ofString "_law_pool"), key := Value.str (Str.ofString "_law_pool") 536, val := Value.ref 225 }, { hash := PyData.keyHash P (Str.ofString "_law_take"), key := Value.str (Str.ofString "_law_take") 545, val := Value.ref 232 }, { hash := PyData.keyHash P (Str.ofString "_law_one"), key := Value.str (Str.ofString "_law_one") 553, val := Value.ref 239 }, { hash := PyData.keyHash P (Str.ofString "_law_frame"), key := Value.str (Str.ofString "_law_frame") 559, val := Value.ref 244 }, { hash := PyData.keyHash P (Str.ofString "_law_filled"), key := Value.str (Str.ofString "_law_filled") 573, val := Value.ref 251 }, { hash := PyData.keyHash P (Str.ofString "_law_shown"), key := Value.str (Str.ofString "_law_shown") 579, val := Value.ref 256 }, { hash := PyData.keyHash P (Str.ofString "_law_left"), key := Value.str (Str.ofString "_law_left") 588, val := Value.ref 263 }, { hash := PyData.keyHash P (Str.ofString "_law_is_part"), key := Value.str (Str.ofString "_law_is_part") 594, val := Value.ref 268 }, { hash := PyData.keyHash P (Str.ofString "law"), key := Value.str (Str.ofString "law") 600, val := Value.ref 273 }] 33 }) ::
      (nat_lit 15, { cls := Value.type "tuple", data := Data.seq #[Value.type "Exception"] }) ::
      (nat_lit 22, { cls := Value.type "tuple", data := Data.seq #[] }) ::
      (nat_lit 24, { cls := Value.type "tuple", data := Data.seq #[Value.str (Str.ofString "self") 204, Value.str (Str.ofString "message") 205] }) ::
      (nat_lit 25, { cls := Value.type "tuple", data := Data.seq #[] }) ::
      (nat_lit 27, { cls := Value.type "code", data := Data.fields #[Value.str (Str.ofString "__init__") 201, Value.str (Str.ofString "PressError.__init__") 202, Value.str (Str.ofString "/claim/cut.py") 203, Value.int 4 0, Value.int 2 0, Value.int 0 0, Value.int 0 0, Value.int 3 0, Value.ref 22, Value.bool true, Value.int 181 0, Value.ref 23, Value.none, Value.ref 24, Value.ref 25, Value.ref 26, Value.int 206 0, Value.int 4 0, Value.str (Str.ofString "/claim/cut.py") 207] }) ::
      (nat_lit 28, { cls := Value.type "function", data := Data.func { name := Str.ofString "__init__", qualname := Str.ofString "PressError.__init__", params := a1_0, body := FuncBody.stmts b1_0, scope := s1_0, globals := 3, closure := [], defaults := Value.none, kwdefaults := Value.none, pyModule := Value.str (Str.ofString "pixelpress.errors") 187, code := Value.ref 27 } }) ::
      (nat_lit 29, { cls := Value.type "tuple", data := Data.seq #[Value.str (Str.ofString "message") 209] }) ::
      (nat_lit 30, { cls := Value.type "dict", data := Data.dict #[{ hash := PyData.keyHash P (Str.ofString "__module__"), key := Value.str (Str.ofString "__module__") 196, val := Value.str (Str.ofString "pixelpress.errors") 187 }, { hash := PyData.keyHash P (Str.ofString "__firstlineno__"), key := Value.str (Str.ofString "__firstlineno__") 200, val := Value.int 2 199 }, { hash := PyData.keyHash P (Str.ofString "__init__"), key := Value.str (Str.ofString "__init__") 208, val := Value.ref 28 }, { hash := PyData.keyHash P (Str.ofString "__static_attributes__"), key := Value.str (Str.ofString "__static_attributes__") 210, val := Value.ref 29 }, { hash := PyData.keyHash P (Str.ofString "__weakref__"), key := Value.str (Str.ofString "__weakref__") 212, val := Value.ref 32 }, { hash := PyData.keyHash P (Str.ofString "__doc__"), key := Value.str (Str.ofString "__doc__") 213, val := Value.none }] 3 }) ::
      (nat_lit 31, { cls := Value.type "type", data := Data.cls { name := Str.ofString "PressError", bases := [Value.type "Exception"], mro := [Value.ref 31, Value.type "Exception", Value.type "BaseException", Value.type "object"], ns := 30, qualname := Str.ofString "PressError", subclasses := [Value.ref 44] }, slots := #[some (Value.ref 15), none, some (Value.str (Str.ofString "PressError") 189), some (Value.str (Str.ofString "PressError") 197), some (Value.builtin "Exception.__new__"), some (Value.bool true)] }) ::
      (nat_lit 32, { cls := Value.type "getset_descriptor", data := Data.fields #[Value.str (Str.ofString "__weakref__") 211, Value.ref 31, Value.builtin "ExceptionGroup.__weakref__", Value.none] }) ::
      (nat_lit 35, { cls := Value.type "tuple", data := Data.seq #[Value.ref 31] }) ::
      (nat_lit 42, { cls := Value.type "tuple", data := Data.seq #[] }) ::
      (nat_lit 43, { cls := Value.type "dict", data := Data.dict #[{ hash := PyData.keyHash P (Str.ofString "__module__"), key := Value.str (Str.ofString "__module__") 225, val := Value.str (Str.ofString "pixelpress.errors") 187 }, { hash := PyData.keyHash P (Str.ofString "__firstlineno__"), key := Value.str (Str.ofString "__firstlineno__") 229, val := Value.int 7 228 }, { hash := PyData.keyHash P (Str.ofString "__static_attributes__"), key := Value.str (Str.ofString "__static_attributes__") 230, val := Value.ref 42 }, { hash := PyData.keyHash P (Str.ofString "__doc__"), key := Value.str (Str.ofString "__doc__") 231, val := Value.none }] 2 }) ::
      (nat_lit 44, { cls := Value.type "type", data := Data.cls { name := Str.ofString "FrameError", bases := [Value.ref 31], mro := [Value.ref 44, Value.ref 31, Value.type "Exception", Value.type "BaseException", Value.type "object"], ns := 43, qualname := Str.ofString "FrameError" }, slots := #[some (Value.ref 35), none, some (Value.str (Str.ofString "FrameError") 218), some (Value.str (Str.ofString "FrameError") 226), some (Value.builtin "Exception.__new__"), some (Value.bool true)] }) ::
      (nat_lit 47, { cls := Value.type "tuple", data := Data.seq #[] }) ::
      (nat_lit 49, { cls := Value.type "tuple", data := Data.seq #[Value.str (Str.ofString "many") 239, Value.str (Str.ofString "size") 240] }) ::
      (nat_lit 50, { cls := Value.type "tuple", data := Data.seq #[] }) ::
      (nat_lit 52, { cls := Value.type "code", data := Data.fields #[Value.str (Str.ofString "parts") 236, Value.str (Str.ofString "parts") 237, Value.str (Str.ofString "/claim/cut.py") 238, Value.int 10 0, Value.int 2 0, Value.int 0 0, Value.int 0 0, Value.int 3 0, Value.ref 47, Value.bool true, Value.int 181 0, Value.ref 48, Value.none, Value.ref 49, Value.ref 50, Value.ref 51, Value.int 241 0, Value.int 10 0, Value.str (Str.ofString "/claim/cut.py") 242] }) ::
      (nat_lit 53, { cls := Value.type "function", data := Data.func { name := Str.ofString "parts", qualname := Str.ofString "parts", params := a4, body := FuncBody.stmts b4, scope := s4, globals := 3, closure := [], defaults := Value.none, kwdefaults := Value.none, pyModule := Value.str (Str.ofString "pixelpress.frames") 234, code := Value.ref 52 } }) ::
      (nat_lit 61, { cls := Value.type "tuple", data := Data.seq #[] }) ::
      (nat_lit 63, { cls := Value.type "tuple", data := Data.seq #[Value.str (Str.ofString "self") 259, Value.str (Str.ofString "ident") 260, Value.str (Str.ofString "across") 261, Value.str (Str.ofString "down") 262, Value.str (Str.ofString "quant") 263] }) ::
      (nat_lit 64, { cls := Value.type "tuple", data := Data.seq #[] }) ::
      (nat_lit 66, { cls := Value.type "code", data := Data.fields #[Value.str (Str.ofString "__init__") 256, Value.str (Str.ofString "Component.__init__") 257, Value.str (Str.ofString "/claim/cut.py") 258, Value.int 14 0, Value.int 5 0, Value.int 0 0, Value.int 0 0, Value.int 3 0, Value.ref 61, Value.bool true, Value.int 181 0, Value.ref 62, Value.none, Value.ref 63, Value.ref 64, Value.ref 65, Value.int 264 0, Value.int 14 0, Value.str (Str.ofString "/claim/cut.py") 265] }) ::
      (nat_lit 67, { cls := Value.type "function", data := Data.func { name := Str.ofString "__init__", qualname := Str.ofString "Component.__init__", params := a5_0, body := FuncBody.stmts b5_0, scope := s5_0, globals := 3, closure := [], defaults := Value.none, kwdefaults := Value.none, pyModule := Value.str (Str.ofString "pixelpress.frames") 234, code := Value.ref 66 } }) ::
      (nat_lit 68, { cls := Value.type "tuple", data := Data.seq #[Value.str (Str.ofString "across") 267, Value.str (Str.ofString "down") 268, Value.str (Str.ofString "ident") 269, Value.str (Str.ofString "quant") 270] }) ::
      (nat_lit 69, { cls := Value.type "dict", data := Data.dict #[{ hash := PyData.keyHash P (Str.ofString "__module__"), key := Value.str (Str.ofString "__module__") 251, val := Value.str (Str.ofString "pixelpress.frames") 234 }, { hash := PyData.keyHash P (Str.ofString "__firstlineno__"), key := Value.str (Str.ofString "__firstlineno__") 255, val := Value.int 12 254 }, { hash := PyData.keyHash P (Str.ofString "__init__"), key := Value.str (Str.ofString "__init__") 266, val := Value.ref 67 }, { hash := PyData.keyHash P (Str.ofString "__static_attributes__"), key := Value.str (Str.ofString "__static_attributes__") 271, val := Value.ref 68 }, { hash := PyData.keyHash P (Str.ofString "__dict__"), key := Value.str (Str.ofString "__dict__") 273, val := Value.ref 71 }, { hash := PyData.keyHash P (Str.ofString "__weakref__"), key := Value.str (Str.ofString "__weakref__") 275, val := Value.ref 72 }, { hash := PyData.keyHash P (Str.ofString "__doc__"), key := Value.str (Str.ofString "__doc__") 276, val := Value.none }] 4 }) ::
      (nat_lit 70, { cls := Value.type "type", data := Data.cls { name := Str.ofString "Component", bases := [Value.type "object"], mro := [Value.ref 70, Value.type "object"], ns := 69, qualname := Str.ofString "Component" }, slots := #[none, none, some (Value.str (Str.ofString "Component") 244), some (Value.str (Str.ofString "Component") 252), some (Value.builtin "object.__new__"), some (Value.bool true)] }) ::
      (nat_lit 71, { cls := Value.type "getset_descriptor", data := Data.fields #[Value.str (Str.ofString "__dict__") 272, Value.ref 70, Value.builtin "function.__dict__", Value.builtin "function.__dict__#set"] }) ::
      (nat_lit 72, { cls := Value.type "getset_descriptor", data := Data.fields #[Value.str (Str.ofString "__weakref__") 274, Value.ref 70, Value.builtin "ExceptionGroup.__weakref__", Value.none] }) ::
      (nat_lit 82, { cls := Value.type "tuple", data := Data.seq #[] }) ::
      (nat_lit 84, { cls := Value.type "tuple", data := Data.seq #[Value.str (Str.ofString "self") 294, Value.str (Str.ofString "kind") 295, Value.str (Str.ofString "precision") 296, Value.str (Str.ofString "height") 297, Value.str (Str.ofString "width") 298, Value.str (Str.ofString "components") 299, Value.str (Str.ofString "n") 300] }) ::
      (nat_lit 85, { cls := Value.type "tuple", data := Data.seq #[] }) ::
      (nat_lit 87, { cls := Value.type "code", data := Data.fields #[Value.str (Str.ofString "__init__") 291, Value.str (Str.ofString "Frame.__init__") 292, Value.str (Str.ofString "/claim/cut.py") 293, Value.int 21 0, Value.int 7 0, Value.int 0 0, Value.int 0 0, Value.int 3 0, Value.ref 82, Value.bool true, Value.int 181 0, Value.ref 83, Value.none, Value.ref 84, Value.ref 85, Value.ref 86, Value.int 301 0, Value.int 21 0, Value.str (Str.ofString "/claim/cut.py") 302] }) ::
      (nat_lit 88, { cls := Value.type "function", data := Data.func { name := Str.ofString "__init__", qualname := Str.ofString "Frame.__init__", params := a6_0, body := FuncBody.stmts b6_0, scope := s6_0, globals := 3, closure := [], defaults := Value.none, kwdefaults := Value.none, pyModule := Value.str (Str.ofString "pixelpress.frames") 234, code := Value.ref 87 } }) ::
      (nat_lit 89, { cls := Value.type "tuple", data := Data.seq #[] }) ::
      (nat_lit 92, { cls := Value.type "code", data := Data.fields #[Value.str (Str.ofString "most_across") 304, Value.str (Str.ofString "Frame.most_across") 305, Value.str (Str.ofString "/claim/cut.py") 306, Value.int 29 0, Value.int 1 0, Value.int 0 0, Value.int 0 0, Value.int 3 0, Value.ref 89, Value.bool true, Value.int 181 0, Value.ref 90, Value.none, Value.none, Value.none, Value.ref 91, Value.int 307 0, Value.int 29 0, Value.str (Str.ofString "/claim/cut.py") 308] }) ::
      (nat_lit 93, { cls := Value.type "function", data := Data.func { name := Str.ofString "most_across", qualname := Str.ofString "Frame.most_across", params := a6_1, body := FuncBody.stmts b6_1, scope := s6_1, globals := 3, closure := [], defaults := Value.none, kwdefaults := Value.none, pyModule := Value.str (Str.ofString "pixelpress.frames") 234, code := Value.ref 92 } }) ::
      (nat_lit 94, { cls := Value.type "tuple", data := Data.seq #[] }) ::
      (nat_lit 97, { cls := Value.type "code", data := Data.fields #[Value.str (Str.ofString "most_down") 310, Value.str (Str.ofString "Frame.most_down") 311, Value.str (Str.ofString "/claim/cut.py") 312, Value.int 32 0, Value.int 1 0, Value.int 0 0, Value.int 0 0, Value.int 3 0, Value.ref 94, Value.bool true, Value.int 181 0, Value.ref 95, Value.none, Value.none, Value.none, Value.ref 96, Value.int 313 0, Value.int 32 0, Value.str (Str.ofString "/claim/cut.py") 314] }) ::
      (nat_lit 98, { cls := Value.type "function", data := Data.func { name := Str.ofString "most_down", qualname := Str.ofString "Frame.most_down", params := a6_2, body := FuncBody.stmts b6_2, scope := s6_1, globals := 3, closure := [], defaults := Value.none, kwdefaults := Value.none, pyModule := Value.str (Str.ofString "pixelpress.frames") 234, code := Value.ref 97 } }) ::
      (nat_lit 99, { cls := Value.type "tuple", data := Data.seq #[] }) ::
      (nat_lit 101, { cls := Value.type "tuple", data := Data.seq #[Value.str (Str.ofString "self") 319] }) ::
      (nat_lit 102, { cls := Value.type "tuple", data := Data.seq #[] }) ::
      (nat_lit 104, { cls := Value.type "code", data := Data.fields #[Value.str (Str.ofString "mcus_across") 316, Value.str (Str.ofString "Frame.mcus_across") 317, Value.str (Str.ofString "/claim/cut.py") 318, Value.int 35 0, Value.int 1 0, Value.int 0 0, Value.int 0 0, Value.int 3 0, Value.ref 99, Value.bool true, Value.int 181 0, Value.ref 100, Value.none, Value.ref 101, Value.ref 102, Value.ref 103, Value.int 320 0, Value.int 35 0, Value.str (Str.ofString "/claim/cut.py") 321] }) ::
      (nat_lit 105, { cls := Value.type "function", data := Data.func { name := Str.ofString "mcus_across", qualname := Str.ofString "Frame.mcus_across", params := a6_3, body := FuncBody.stmts b6_3, scope := s6_3, globals := 3, closure := [], defaults := Value.none, kwdefaults := Value.none, pyModule := Value.str (Str.ofString "pixelpress.frames") 234, code := Value.ref 104 } }) ::
      (nat_lit 106, { cls := Value.type "tuple", data := Data.seq #[] }) ::
      (nat_lit 108, { cls := Value.type "tuple", data := Data.seq #[Value.str (Str.ofString "self") 326] }) ::
      (nat_lit 109, { cls := Value.type "tuple", data := Data.seq #[] }) ::
      (nat_lit 111, { cls := Value.type "code", data := Data.fields #[Value.str (Str.ofString "mcus_down") 323, Value.str (Str.ofString "Frame.mcus_down") 324, Value.str (Str.ofString "/claim/cut.py") 325, Value.int 38 0, Value.int 1 0, Value.int 0 0, Value.int 0 0, Value.int 3 0, Value.ref 106, Value.bool true, Value.int 181 0, Value.ref 107, Value.none, Value.ref 108, Value.ref 109, Value.ref 110, Value.int 327 0, Value.int 38 0, Value.str (Str.ofString "/claim/cut.py") 328] }) ::
      (nat_lit 112, { cls := Value.type "function", data := Data.func { name := Str.ofString "mcus_down", qualname := Str.ofString "Frame.mcus_down", params := a6_4, body := FuncBody.stmts b6_4, scope := s6_3, globals := 3, closure := [], defaults := Value.none, kwdefaults := Value.none, pyModule := Value.str (Str.ofString "pixelpress.frames") 234, code := Value.ref 111 } }) ::
      (nat_lit 113, { cls := Value.type "tuple", data := Data.seq #[] }) ::
      (nat_lit 115, { cls := Value.type "tuple", data := Data.seq #[Value.str (Str.ofString "self") 333, Value.str (Str.ofString "place") 334, Value.str (Str.ofString "component") 335, Value.str (Str.ofString "width") 336] }) ::
      (nat_lit 116, { cls := Value.type "tuple", data := Data.seq #[] }) ::
      (nat_lit 118, { cls := Value.type "code", data := Data.fields #[Value.str (Str.ofString "plane_size") 330, Value.str (Str.ofString "Frame.plane_size") 331, Value.str (Str.ofString "/claim/cut.py") 332, Value.int 41 0, Value.int 2 0, Value.int 0 0, Value.int 0 0, Value.int 3 0, Value.ref 113, Value.bool true, Value.int 181 0, Value.ref 114, Value.none, Value.ref 115, Value.ref 116, Value.ref 117, Value.int 337 0, Value.int 41 0, Value.str (Str.ofString "/claim/cut.py") 338] }) ::
      (nat_lit 119, { cls := Value.type "function", data := Data.func { name := Str.ofString "plane_size", qualname := Str.ofString "Frame.plane_size", params := a6_5, body := FuncBody.stmts b6_5, scope := s6_5, globals := 3, closure := [], defaults := Value.none, kwdefaults := Value.none, pyModule := Value.str (Str.ofString "pixelpress.frames") 234, code := Value.ref 118 } }) ::
      (nat_lit 120, { cls := Value.type "tuple", data := Data.seq #[] }) ::
      (nat_lit 122, { cls := Value.type "tuple", data := Data.seq #[Value.str (Str.ofString "self") 343, Value.str (Str.ofString "place") 344, Value.str (Str.ofString "width") 345, Value.str (Str.ofString "height") 346] }) ::
      (nat_lit 123, { cls := Value.type "tuple", data := Data.seq #[] }) ::
      (nat_lit 125, { cls := Value.type "code", data := Data.fields #[Value.str (Str.ofString "blocks") 340, Value.str (Str.ofString "Frame.blocks") 341, Value.str (Str.ofString "/claim/cut.py") 342, Value.int 46 0, Value.int 2 0, Value.int 0 0, Value.int 0 0, Value.int 3 0, Value.ref 120, Value.bool true, Value.int 181 0, Value.ref 121, Value.none, Value.ref 122, Value.ref 123, Value.ref 124, Value.int 347 0, Value.int 46 0, Value.str (Str.ofString "/claim/cut.py") 348] }) ::
      (nat_lit 126, { cls := Value.type "function", data := Data.func { name := Str.ofString "blocks", qualname := Str.ofString "Frame.blocks", params := a6_6, body := FuncBody.stmts b6_6, scope := s6_6, globals := 3, closure := [], defaults := Value.none, kwdefaults := Value.none, pyModule := Value.str (Str.ofString "pixelpress.frames") 234, code := Value.ref 125 } }) ::
      (nat_lit 127, { cls := Value.type "tuple", data := Data.seq #[] }) ::
      (nat_lit 129, { cls := Value.type "tuple", data := Data.seq #[Value.str (Str.ofString "self") 353, Value.str (Str.ofString "place") 354, Value.str (Str.ofString "component") 355] }) ::
      (nat_lit 130, { cls := Value.type "tuple", data := Data.seq #[] }) ::
      (nat_lit 132, { cls := Value.type "code", data := Data.fields #[Value.str (Str.ofString "padded") 350, Value.str (Str.ofString "Frame.padded") 351, Value.str (Str.ofString "/claim/cut.py") 352, Value.int 50 0, Value.int 2 0, Value.int 0 0, Value.int 0 0, Value.int 3 0, Value.ref 127, Value.bool true, Value.int 181 0, Value.ref 128, Value.none, Value.ref 129, Value.ref 130, Value.ref 131, Value.int 356 0, Value.int 50 0, Value.str (Str.ofString "/claim/cut.py") 357] }) ::
      (nat_lit 133, { cls := Value.type "function", data := Data.func { name := Str.ofString "padded", qualname := Str.ofString "Frame.padded", params := a6_7, body := FuncBody.stmts b6_7, scope := s6_7, globals := 3, closure := [], defaults := Value.none, kwdefaults := Value.none, pyModule := Value.str (Str.ofString "pixelpress.frames") 234, code := Value.ref 132 } }) ::
      (nat_lit 134, { cls := Value.type "tuple", data := Data.seq #[Value.str (Str.ofString "components") 359, Value.str (Str.ofString "height") 360, Value.str (Str.ofString "kind") 361, Value.str (Str.ofString "n") 362, Value.str (Str.ofString "precision") 363, Value.str (Str.ofString "width") 364] }) ::
      (nat_lit 135, { cls := Value.type "dict", data := Data.dict #[{ hash := PyData.keyHash P (Str.ofString "__module__"), key := Value.str (Str.ofString "__module__") 286, val := Value.str (Str.ofString "pixelpress.frames") 234 }, { hash := PyData.keyHash P (Str.ofString "__firstlineno__"), key := Value.str (Str.ofString "__firstlineno__") 290, val := Value.int 19 289 }, { hash := PyData.keyHash P (Str.ofString "__init__"), key := Value.str (Str.ofString "__init__") 303, val := Value.ref 88 }, { hash := PyData.keyHash P (Str.ofString "most_across"), key := Value.str (Str.ofString "most_across") 309, val := Value.ref 93 }, { hash := PyData.keyHash P (Str.ofString "most_down"), key := Value.str (Str.ofString "most_down") 315, val := Value.ref 98 }, { hash := PyData.keyHash P (Str.ofString "mcus_across"), key := Value.str (Str.ofString "mcus_across") 322, val := Value.ref 105 }, { hash := PyData.keyHash P (Str.ofString "mcus_down"), key := Value.str (Str.ofString "mcus_down") 329, val := Value.ref 112 }, { hash := PyData.keyHash P (Str.ofString "plane_size"), key := Value.str (Str.ofString "plane_size") 339, val := Value.ref 119 }, { hash := PyData.keyHash P (Str.ofString "blocks"), key := Value.str (Str.ofString "blocks") 349, val := Value.ref 126 }, { hash := PyData.keyHash P (Str.ofString "padded"), key := Value.str (Str.ofString "padded") 358, val := Value.ref 133 }, { hash := PyData.keyHash P (Str.ofString "__static_attributes__"), key := Value.str (Str.ofString "__static_attributes__") 365, val := Value.ref 134 }, { hash := PyData.keyHash P (Str.ofString "__dict__"), key := Value.str (Str.ofString "__dict__") 367, val := Value.ref 137 }, { hash := PyData.keyHash P (Str.ofString "__weakref__"), key := Value.str (Str.ofString "__weakref__") 369, val := Value.ref 138 }, { hash := PyData.keyHash P (Str.ofString "__doc__"), key := Value.str (Str.ofString "__doc__") 370, val := Value.none }] 4 }) ::
      (nat_lit 136, { cls := Value.type "type", data := Data.cls { name := Str.ofString "Frame", bases := [Value.type "object"], mro := [Value.ref 136, Value.type "object"], ns := 135, qualname := Str.ofString "Frame" }, slots := #[none, none, some (Value.str (Str.ofString "Frame") 279), some (Value.str (Str.ofString "Frame") 287), some (Value.builtin "object.__new__"), some (Value.bool true)] }) ::
      (nat_lit 137, { cls := Value.type "getset_descriptor", data := Data.fields #[Value.str (Str.ofString "__dict__") 366, Value.ref 136, Value.builtin "function.__dict__", Value.builtin "function.__dict__#set"] }) ::
      (nat_lit 138, { cls := Value.type "getset_descriptor", data := Data.fields #[Value.str (Str.ofString "__weakref__") 368, Value.ref 136, Value.builtin "ExceptionGroup.__weakref__", Value.none] }) ::
      (nat_lit 148, { cls := Value.type "tuple", data := Data.seq #[] }) ::
      (nat_lit 151, { cls := Value.type "code", data := Data.fields #[Value.str (Str.ofString "__init__") 387, Value.str (Str.ofString "Grid.__init__") 388, Value.str (Str.ofString "/claim/cut.py") 389, Value.int 56 0, Value.int 2 0, Value.int 0 0, Value.int 0 0, Value.int 3 0, Value.ref 148, Value.bool true, Value.int 181 0, Value.ref 149, Value.none, Value.none, Value.none, Value.ref 150, Value.int 390 0, Value.int 56 0, Value.str (Str.ofString "/claim/cut.py") 391] }) ::
      (nat_lit 152, { cls := Value.type "function", data := Data.func { name := Str.ofString "__init__", qualname := Str.ofString "Grid.__init__", params := a8_0, body := FuncBody.stmts b8_0, scope := s8_0, globals := 3, closure := [], defaults := Value.none, kwdefaults := Value.none, pyModule := Value.str (Str.ofString "pixelpress.grid") 373, code := Value.ref 151 } }) ::
      (nat_lit 153, { cls := Value.type "tuple", data := Data.seq #[] }) ::
      (nat_lit 155, { cls := Value.type "tuple", data := Data.seq #[Value.str (Str.ofString "self") 396, Value.str (Str.ofString "place") 397, Value.str (Str.ofString "x") 398, Value.str (Str.ofString "y") 399, Value.str (Str.ofString "row") 400] }) ::
      (nat_lit 156, { cls := Value.type "tuple", data := Data.seq #[] }) ::
      (nat_lit 158, { cls := Value.type "code", data := Data.fields #[Value.str (Str.ofString "get") 393, Value.str (Str.ofString "Grid.get") 394, Value.str (Str.ofString "/claim/cut.py") 395, Value.int 63 0, Value.int 4 0, Value.int 0 0, Value.int 0 0, Value.int 3 0, Value.ref 153, Value.bool true, Value.int 181 0, Value.ref 154, Value.none, Value.ref 155, Value.ref 156, Value.ref 157, Value.int 401 0, Value.int 63 0, Value.str (Str.ofString "/claim/cut.py") 402] }) ::
      (nat_lit 159, { cls := Value.type "function", data := Data.func { name := Str.ofString "get", qualname := Str.ofString "Grid.get", params := a8_1, body := FuncBody.stmts b8_1, scope := s8_1, globals := 3, closure := [], defaults := Value.none, kwdefaults := Value.none, pyModule := Value.str (Str.ofString "pixelpress.grid") 373, code := Value.ref 158 } }) ::
      (nat_lit 160, { cls := Value.type "tuple", data := Data.seq #[] }) ::
      (nat_lit 162, { cls := Value.type "tuple", data := Data.seq #[Value.str (Str.ofString "self") 407, Value.str (Str.ofString "place") 408, Value.str (Str.ofString "x") 409, Value.str (Str.ofString "y") 410, Value.str (Str.ofString "row") 411] }) ::
      (nat_lit 163, { cls := Value.type "tuple", data := Data.seq #[] }) ::
      (nat_lit 165, { cls := Value.type "code", data := Data.fields #[Value.str (Str.ofString "put") 404, Value.str (Str.ofString "Grid.put") 405, Value.str (Str.ofString "/claim/cut.py") 406, Value.int 67 0, Value.int 5 0, Value.int 0 0, Value.int 0 0, Value.int 3 0, Value.ref 160, Value.bool true, Value.int 181 0, Value.ref 161, Value.none, Value.ref 162, Value.ref 163, Value.ref 164, Value.int 412 0, Value.int 67 0, Value.str (Str.ofString "/claim/cut.py") 413] }) ::
      (nat_lit 166, { cls := Value.type "function", data := Data.func { name := Str.ofString "put", qualname := Str.ofString "Grid.put", params := a8_2, body := FuncBody.stmts b8_2, scope := s8_2, globals := 3, closure := [], defaults := Value.none, kwdefaults := Value.none, pyModule := Value.str (Str.ofString "pixelpress.grid") 373, code := Value.ref 165 } }) ::
      (nat_lit 167, { cls := Value.type "tuple", data := Data.seq #[Value.str (Str.ofString "many") 415, Value.str (Str.ofString "planes") 416] }) ::
      (nat_lit 168, { cls := Value.type "dict", data := Data.dict #[{ hash := PyData.keyHash P (Str.ofString "__module__"), key := Value.str (Str.ofString "__module__") 382, val := Value.str (Str.ofString "pixelpress.grid") 373 }, { hash := PyData.keyHash P (Str.ofString "__firstlineno__"), key := Value.str (Str.ofString "__firstlineno__") 386, val := Value.int 54 385 }, { hash := PyData.keyHash P (Str.ofString "__init__"), key := Value.str (Str.ofString "__init__") 392, val := Value.ref 152 }, { hash := PyData.keyHash P (Str.ofString "get"), key := Value.str (Str.ofString "get") 403, val := Value.ref 159 }, { hash := PyData.keyHash P (Str.ofString "put"), key := Value.str (Str.ofString "put") 414, val := Value.ref 166 }, { hash := PyData.keyHash P (Str.ofString "__static_attributes__"), key := Value.str (Str.ofString "__static_attributes__") 417, val := Value.ref 167 }, { hash := PyData.keyHash P (Str.ofString "__dict__"), key := Value.str (Str.ofString "__dict__") 419, val := Value.ref 170 }, { hash := PyData.keyHash P (Str.ofString "__weakref__"), key := Value.str (Str.ofString "__weakref__") 421, val := Value.ref 171 }, { hash := PyData.keyHash P (Str.ofString "__doc__"), key := Value.str (Str.ofString "__doc__") 422, val := Value.none }] 4 }) ::
      (nat_lit 169, { cls := Value.type "type", data := Data.cls { name := Str.ofString "Grid", bases := [Value.type "object"], mro := [Value.ref 169, Value.type "object"], ns := 168, qualname := Str.ofString "Grid" }, slots := #[none, none, some (Value.str (Str.ofString "Grid") 375), some (Value.str (Str.ofString "Grid") 383), some (Value.builtin "object.__new__"), some (Value.bool true)] }) ::
      (nat_lit 170, { cls := Value.type "getset_descriptor", data := Data.fields #[Value.str (Str.ofString "__dict__") 418, Value.ref 169, Value.builtin "function.__dict__", Value.builtin "function.__dict__#set"] }) ::
      (nat_lit 171, { cls := Value.type "getset_descriptor", data := Data.fields #[Value.str (Str.ofString "__weakref__") 420, Value.ref 169, Value.builtin "ExceptionGroup.__weakref__", Value.none] }) ::
      (nat_lit 174, { cls := Value.type "tuple", data := Data.seq #[Value.str (Str.ofString "left") 427, Value.str (Str.ofString "right") 428, Value.str (Str.ofString "swap") 429, Value.str (Str.ofString "cross") 430] }) ::
      (nat_lit 175, { cls := Value.type "tuple", data := Data.seq #[Value.str (Str.ofString "back") 432, Value.str (Str.ofString "right") 433, Value.str (Str.ofString "mirror") 434, Value.str (Str.ofString "cross") 435] }) ::
      (nat_lit 176, { cls := Value.type "tuple", data := Data.seq #[Value.str (Str.ofString "left") 437, Value.str (Str.ofString "back") 438, Value.str (Str.ofString "flip") 439, Value.str (Str.ofString "cross") 440] }) ::
      (nat_lit 177, { cls := Value.type "tuple", data := Data.seq #[] }) ::
      (nat_lit 179, { cls := Value.type "tuple", data := Data.seq #[Value.str (Str.ofString "frame") 445] }) ::
      (nat_lit 180, { cls := Value.type "tuple", data := Data.seq #[] }) ::
      (nat_lit 182, { cls := Value.type "code", data := Data.fields #[Value.str (Str.ofString "unit_size") 442, Value.str (Str.ofString "unit_size") 443, Value.str (Str.ofString "/claim/cut.py") 444, Value.int 73 0, Value.int 1 0, Value.int 0 0, Value.int 0 0, Value.int 3 0, Value.ref 177, Value.bool true, Value.int 181 0, Value.ref 178, Value.none, Value.ref 179, Value.ref 180, Value.ref 181, Value.int 446 0, Value.int 73 0, Value.str (Str.ofString "/claim/cut.py") 447] }) ::
      (nat_lit 183, { cls := Value.type "function", data := Data.func { name := Str.ofString "unit_size", qualname := Str.ofString "unit_size", params := a13, body := FuncBody.stmts b13, scope := s13, globals := 3, closure := [], defaults := Value.none, kwdefaults := Value.none, pyModule := Value.str (Str.ofString "pixelpress.turning") 425, code := Value.ref 182 } }) ::
      (nat_lit 184, { cls := Value.type "tuple", data := Data.seq #[] }) ::
      (nat_lit 186, { cls := Value.type "tuple", data := Data.seq #[Value.str (Str.ofString "frame") 452, Value.str (Str.ofString "word") 453, Value.str (Str.ofString "wide") 454, Value.str (Str.ofString "high") 455, Value.str (Str.ofString "swaps") 456, Value.str (Str.ofString "turns_across") 457, Value.str (Str.ofString "turns_down") 458] }) ::
      (nat_lit 187, { cls := Value.type "tuple", data := Data.seq #[] }) ::
      (nat_lit 189, { cls := Value.type "code", data := Data.fields #[Value.str (Str.ofString "is_whole") 449, Value.str (Str.ofString "is_whole") 450, Value.str (Str.ofString "/claim/cut.py") 451, Value.int 75 0, Value.int 2 0, Value.int 0 0, Value.int 0 0, Value.int 3 0, Value.ref 184, Value.bool true, Value.int 181 0, Value.ref 185, Value.none, Value.ref 186, Value.ref 187, Value.ref 188, Value.int 459 0, Value.int 75 0, Value.str (Str.ofString "/claim/cut.py") 460] }) ::
      (nat_lit 190, { cls := Value.type "function", data := Data.func { name := Str.ofString "is_whole", qualname := Str.ofString "is_whole", params := a14, body := FuncBody.stmts b14, scope := s14, globals := 3, closure := [], defaults := Value.none, kwdefaults := Value.none, pyModule := Value.str (Str.ofString "pixelpress.turning") 425, code := Value.ref 189 } }) ::
      (nat_lit 191, { cls := Value.type "tuple", data := Data.seq #[] }) ::
      (nat_lit 193, { cls := Value.type "tuple", data := Data.seq #[Value.str (Str.ofString "frame") 467, Value.str (Str.ofString "found") 468, Value.str (Str.ofString "component") 469] }) ::
      (nat_lit 194, { cls := Value.type "tuple", data := Data.seq #[] }) ::
      (nat_lit 196, { cls := Value.type "code", data := Data.fields #[Value.str (Str.ofString "copied_components") 464, Value.str (Str.ofString "copied_components") 465, Value.str (Str.ofString "/claim/cut.py") 466, Value.int 82 0, Value.int 1 0, Value.int 0 0, Value.int 0 0, Value.int 3 0, Value.ref 191, Value.bool true, Value.int 181 0, Value.ref 192, Value.none, Value.ref 193, Value.ref 194, Value.ref 195, Value.int 470 0, Value.int 82 0, Value.str (Str.ofString "/claim/cut.py") 471] }) ::
      (nat_lit 197, { cls := Value.type "function", data := Data.func { name := Str.ofString "copied_components", qualname := Str.ofString "copied_components", params := a16, body := FuncBody.stmts b16, scope := s16, globals := 3, closure := [], defaults := Value.none, kwdefaults := Value.none, pyModule := Value.str (Str.ofString "pixelpress.cropping") 462, code := Value.ref 196 } }) ::
      (nat_lit 198, { cls := Value.type "tuple", data := Data.seq #[] }) ::
      (nat_lit 200, { cls := Value.type "tuple", data := Data.seq #[Value.str (Str.ofString "frame") 476, Value.str (Str.ofString "x") 477, Value.str (Str.ofString "y") 478, Value.str (Str.ofString "across") 479, Value.str (Str.ofString "down") 480, Value.str (Str.ofString "wide") 481, Value.str (Str.ofString "high") 482, Value.str (Str.ofString "width") 483, Value.str (Str.ofString "height") 484] }) ::
      (nat_lit 201, { cls := Value.type "tuple", data := Data.seq #[] }) ::
      (nat_lit 203, { cls := Value.type "code", data := Data.fields #[Value.str (Str.ofString "cropped_frame") 473, Value.str (Str.ofString "cropped_frame") 474, Value.str (Str.ofString "/claim/cut.py") 475, Value.int 87 0, Value.int 5 0, Value.int 0 0, Value.int 0 0, Value.int 3 0, Value.ref 198, Value.bool true, Value.int 181 0, Value.ref 199, Value.none, Value.ref 200, Value.ref 201, Value.ref 202, Value.int 485 0, Value.int 87 0, Value.str (Str.ofString "/claim/cut.py") 486] }) ::
      (nat_lit 204, { cls := Value.type "function", data := Data.func { name := Str.ofString "cropped_frame", qualname := Str.ofString "cropped_frame", params := a17, body := FuncBody.stmts b17, scope := s17, globals := 3, closure := [], defaults := Value.none, kwdefaults := Value.none, pyModule := Value.str (Str.ofString "pixelpress.cropping") 462, code := Value.ref 203 } }) ::
      (nat_lit 205, { cls := Value.type "tuple", data := Data.seq #[] }) ::
      (nat_lit 207, { cls := Value.type "tuple", data := Data.seq #[Value.str (Str.ofString "grid") 491, Value.str (Str.ofString "frame") 492, Value.str (Str.ofString "x") 493, Value.str (Str.ofString "y") 494, Value.str (Str.ofString "across") 495, Value.str (Str.ofString "down") 496, Value.str (Str.ofString "later") 497, Value.str (Str.ofString "found") 498, Value.str (Str.ofString "place") 499, Value.str (Str.ofString "component") 500, Value.str (Str.ofString "left") 501, Value.str (Str.ofString "top") 502, Value.str (Str.ofString "wide") 503, Value.str (Str.ofString "high") 504, Value.str (Str.ofString "row") 505, Value.str (Str.ofString "column") 506] }) ::
      (nat_lit 208, { cls := Value.type "tuple", data := Data.seq #[] }) ::
      (nat_lit 210, { cls := Value.type "code", data := Data.fields #[Value.str (Str.ofString "cropped_grid") 488, Value.str (Str.ofString "cropped_grid") 489, Value.str (Str.ofString "/claim/cut.py") 490, Value.int 94 0, Value.int 6 0, Value.int 0 0, Value.int 0 0, Value.int 3 0, Value.ref 205, Value.bool true, Value.int 181 0, Value.ref 206, Value.none, Value.ref 207, Value.ref 208, Value.ref 209, Value.int 507 0, Value.int 94 0, Value.str (Str.ofString "/claim/cut.py") 508] }) ::
      (nat_lit 211, { cls := Value.type "function", data := Data.func { name := Str.ofString "cropped_grid", qualname := Str.ofString "cropped_grid", params := a18, body := FuncBody.stmts b18, scope := s18, globals := 3, closure := [], defaults := Value.none, kwdefaults := Value.none, pyModule := Value.str (Str.ofString "pixelpress.cropping") 462, code := Value.ref 210 } }) ::
      (nat_lit 212, { cls := Value.type "tuple", data := Data.seq #[] }) ::
      (nat_lit 214, { cls := Value.type "tuple", data := Data.seq #[Value.str (Str.ofString "grid") 513, Value.str (Str.ofString "frame") 514, Value.str (Str.ofString "word") 515, Value.str (Str.ofString "wide") 516, Value.str (Str.ofString "high") 517, Value.str (Str.ofString "swaps") 518, Value.str (Str.ofString "across") 519, Value.str (Str.ofString "down") 520] }) ::
      (nat_lit 215, { cls := Value.type "tuple", data := Data.seq #[] }) ::
      (nat_lit 217, { cls := Value.type "code", data := Data.fields #[Value.str (Str.ofString "trimmed_grid") 510, Value.str (Str.ofString "trimmed_grid") 511, Value.str (Str.ofString "/claim/cut.py") 512, Value.int 105 0, Value.int 3 0, Value.int 0 0, Value.int 0 0, Value.int 3 0, Value.ref 212, Value.bool true, Value.int 181 0, Value.ref 213, Value.none, Value.ref 214, Value.ref 215, Value.ref 216, Value.int 521 0, Value.int 105 0, Value.str (Str.ofString "/claim/cut.py") 522] }) ::
      (nat_lit 218, { cls := Value.type "function", data := Data.func { name := Str.ofString "trimmed_grid", qualname := Str.ofString "trimmed_grid", params := a19, body := FuncBody.stmts b19, scope := s19, globals := 3, closure := [], defaults := Value.none, kwdefaults := Value.none, pyModule := Value.str (Str.ofString "pixelpress.cropping") 462, code := Value.ref 217 } }) ::
      (nat_lit 219, { cls := Value.type "tuple", data := Data.seq #[] }) ::
      (nat_lit 221, { cls := Value.type "tuple", data := Data.seq #[Value.str (Str.ofString "script") 529, Value.str (Str.ofString "k") 530, Value.str (Str.ofString "cell") 531, Value.str (Str.ofString "big") 532, Value.str (Str.ofString "mixed") 533] }) ::
      (nat_lit 222, { cls := Value.type "tuple", data := Data.seq #[] }) ::
      (nat_lit 224, { cls := Value.type "code", data := Data.fields #[Value.str (Str.ofString "_law_pool") 526, Value.str (Str.ofString "_law_pool") 527, Value.str (Str.ofString "/claim/cut.py") 528, Value.int 117 0, Value.int 2 0, Value.int 0 0, Value.int 0 0, Value.int 3 0, Value.ref 219, Value.bool true, Value.int 181 0, Value.ref 220, Value.none, Value.ref 221, Value.ref 222, Value.ref 223, Value.int 534 0, Value.int 117 0, Value.str (Str.ofString "/claim/cut.py") 535] }) ::
      (nat_lit 225, { cls := Value.type "function", data := Data.func { name := Str.ofString "_law_pool", qualname := Str.ofString "_law_pool", params := a21, body := FuncBody.stmts b21, scope := s21, globals := 3, closure := [], defaults := Value.none, kwdefaults := Value.none, pyModule := Value.str (Str.ofString "law_nz0246_01") 524, code := Value.ref 224 } }) ::
      (nat_lit 226, { cls := Value.type "tuple", data := Data.seq #[] }) ::
      (nat_lit 228, { cls := Value.type "tuple", data := Data.seq #[Value.str (Str.ofString "source") 540, Value.str (Str.ofString "top") 541, Value.str (Str.ofString "got") 542] }) ::
      (nat_lit 229, { cls := Value.type "tuple", data := Data.seq #[] }) ::
      (nat_lit 231, { cls := Value.type "code", data := Data.fields #[Value.str (Str.ofString "_law_take") 537, Value.str (Str.ofString "_law_take") 538, Value.str (Str.ofString "/claim/cut.py") 539, Value.int 124 0, Value.int 2 0, Value.int 0 0, Value.int 0 0, Value.int 3 0, Value.ref 226, Value.bool true, Value.int 181 0, Value.ref 227, Value.none, Value.ref 228, Value.ref 229, Value.ref 230, Value.int 543 0, Value.int 124 0, Value.str (Str.ofString "/claim/cut.py") 544] }) ::
      (nat_lit 232, { cls := Value.type "function", data := Data.func { name := Str.ofString "_law_take", qualname := Str.ofString "_law_take", params := a22, body := FuncBody.stmts b22, scope := s22, globals := 3, closure := [], defaults := Value.none, kwdefaults := Value.none, pyModule := Value.str (Str.ofString "law_nz0246_01") 524, code := Value.ref 231 } }) ::
      (nat_lit 233, { cls := Value.type "tuple", data := Data.seq #[] }) ::
      (nat_lit 235, { cls := Value.type "tuple", data := Data.seq #[Value.str (Str.ofString "source") 549, Value.str (Str.ofString "things") 550] }) ::
      (nat_lit 236, { cls := Value.type "tuple", data := Data.seq #[] }) ::
      (nat_lit 238, { cls := Value.type "code", data := Data.fields #[Value.str (Str.ofString "_law_one") 546, Value.str (Str.ofString "_law_one") 547, Value.str (Str.ofString "/claim/cut.py") 548, Value.int 131 0, Value.int 2 0, Value.int 0 0, Value.int 0 0, Value.int 3 0, Value.ref 233, Value.bool true, Value.int 181 0, Value.ref 234, Value.none, Value.ref 235, Value.ref 236, Value.ref 237, Value.int 551 0, Value.int 131 0, Value.str (Str.ofString "/claim/cut.py") 552] }) ::
      (nat_lit 239, { cls := Value.type "function", data := Data.func { name := Str.ofString "_law_one", qualname := Str.ofString "_law_one", params := a23, body := FuncBody.stmts b23, scope := s23, globals := 3, closure := [], defaults := Value.none, kwdefaults := Value.none, pyModule := Value.str (Str.ofString "law_nz0246_01") 524, code := Value.ref 238 } }) ::
      (nat_lit 240, { cls := Value.type "tuple", data := Data.seq #[] }) ::
      (nat_lit 243, { cls := Value.type "code", data := Data.fields #[Value.str (Str.ofString "_law_frame") 554, Value.str (Str.ofString "_law_frame") 555, Value.str (Str.ofString "/claim/cut.py") 556, Value.int 133 0, Value.int 1 0, Value.int 0 0, Value.int 0 0, Value.int 3 0, Value.ref 240, Value.bool true, Value.int 181 0, Value.ref 241, Value.none, Value.none, Value.none, Value.ref 242, Value.int 557 0, Value.int 133 0, Value.str (Str.ofString "/claim/cut.py") 558] }) ::
      (nat_lit 244, { cls := Value.type "function", data := Data.func { name := Str.ofString "_law_frame", qualname := Str.ofString "_law_frame", params := a24, body := FuncBody.stmts b24, scope := s24, globals := 3, closure := [], defaults := Value.none, kwdefaults := Value.none, pyModule := Value.str (Str.ofString "law_nz0246_01") 524, code := Value.ref 243 } }) ::
      (nat_lit 245, { cls := Value.type "tuple", data := Data.seq #[] }) ::
      (nat_lit 247, { cls := Value.type "tuple", data := Data.seq #[Value.str (Str.ofString "source") 563, Value.str (Str.ofString "frame") 564, Value.str (Str.ofString "grid") 565, Value.str (Str.ofString "number") 566, Value.str (Str.ofString "place") 567, Value.str (Str.ofString "across") 568, Value.str (Str.ofString "down") 569, Value.str (Str.ofString "spot") 570] }) ::
      (nat_lit 248, { cls := Value.type "tuple", data := Data.seq #[] }) ::
      (nat_lit 250, { cls := Value.type "code", data := Data.fields #[Value.str (Str.ofString "_law_filled") 560, Value.str (Str.ofString "_law_filled") 561, Value.str (Str.ofString "/claim/cut.py") 562, Value.int 140 0, Value.int 2 0, Value.int 0 0, Value.int 0 0, Value.int 3 0, Value.ref 245, Value.bool true, Value.int 181 0, Value.ref 246, Value.none, Value.ref 247, Value.ref 248, Value.ref 249, Value.int 571 0, Value.int 140 0, Value.str (Str.ofString "/claim/cut.py") 572] }) ::
      (nat_lit 251, { cls := Value.type "function", data := Data.func { name := Str.ofString "_law_filled", qualname := Str.ofString "_law_filled", params := a25, body := FuncBody.stmts b25, scope := s25, globals := 3, closure := [], defaults := Value.none, kwdefaults := Value.none, pyModule := Value.str (Str.ofString "law_nz0246_01") 524, code := Value.ref 250 } }) ::
      (nat_lit 252, { cls := Value.type "tuple", data := Data.seq #[] }) ::
      (nat_lit 255, { cls := Value.type "code", data := Data.fields #[Value.str (Str.ofString "_law_shown") 574, Value.str (Str.ofString "_law_shown") 575, Value.str (Str.ofString "/claim/cut.py") 576, Value.int 148 0, Value.int 2 0, Value.int 0 0, Value.int 0 0, Value.int 3 0, Value.ref 252, Value.bool true, Value.int 181 0, Value.ref 253, Value.none, Value.none, Value.none, Value.ref 254, Value.int 577 0, Value.int 148 0, Value.str (Str.ofString "/claim/cut.py") 578] }) ::
      (nat_lit 256, { cls := Value.type "function", data := Data.func { name := Str.ofString "_law_shown", qualname := Str.ofString "_law_shown", params := a26, body := FuncBody.stmts b26, scope := s26, globals := 3, closure := [], defaults := Value.none, kwdefaults := Value.none, pyModule := Value.str (Str.ofString "law_nz0246_01") 524, code := Value.ref 255 } }) ::
      (nat_lit 257, { cls := Value.type "tuple", data := Data.seq #[] }) ::
      (nat_lit 259, { cls := Value.type "tuple", data := Data.seq #[Value.str (Str.ofString "size") 583, Value.str (Str.ofString "unit") 584, Value.str (Str.ofString "is_cut") 585] }) ::
      (nat_lit 260, { cls := Value.type "tuple", data := Data.seq #[] }) ::
      (nat_lit 262, { cls := Value.type "code", data := Data.fields #[Value.str (Str.ofString "_law_left") 580, Value.str (Str.ofString "_law_left") 581, Value.str (Str.ofString "/claim/cut.py") 582, Value.int 155 0, Value.int 3 0, Value.int 0 0, Value.int 0 0, Value.int 3 0, Value.ref 257, Value.bool true, Value.int 181 0, Value.ref 258, Value.none, Value.ref 259, Value.ref 260, Value.ref 261, Value.int 586 0, Value.int 155 0, Value.str (Str.ofString "/claim/cut.py") 587] }) ::
      (nat_lit 263, { cls := Value.type "function", data := Data.func { name := Str.ofString "_law_left", qualname := Str.ofString "_law_left", params := a27, body := FuncBody.stmts b27, scope := s27, globals := 3, closure := [], defaults := Value.none, kwdefaults := Value.none, pyModule := Value.str (Str.ofString "law_nz0246_01") 524, code := Value.ref 262 } }) ::
      (nat_lit 264, { cls := Value.type "tuple", data := Data.seq #[] }) ::
      (nat_lit 267, { cls := Value.type "code", data := Data.fields #[Value.str (Str.ofString "_law_is_part") 589, Value.str (Str.ofString "_law_is_part") 590, Value.str (Str.ofString "/claim/cut.py") 591, Value.int 157 0, Value.int 5 0, Value.int 0 0, Value.int 0 0, Value.int 3 0, Value.ref 264, Value.bool true, Value.int 181 0, Value.ref 265, Value.none, Value.none, Value.none, Value.ref 266, Value.int 592 0, Value.int 157 0, Value.str (Str.ofString "/claim/cut.py") 593] }) ::
      (nat_lit 268, { cls := Value.type "function", data := Data.func { name := Str.ofString "_law_is_part", qualname := Str.ofString "_law_is_part", params := a28, body := FuncBody.stmts b28, scope := s28, globals := 3, closure := [], defaults := Value.none, kwdefaults := Value.none, pyModule := Value.str (Str.ofString "law_nz0246_01") 524, code := Value.ref 267 } }) ::
      (nat_lit 269, { cls := Value.type "tuple", data := Data.seq #[] }) ::
      (nat_lit 272, { cls := Value.type "code", data := Data.fields #[Value.str (Str.ofString "law") 595, Value.str (Str.ofString "law") 596, Value.str (Str.ofString "/claim/cut.py") 597, Value.int 169 0, Value.int 1 0, Value.int 0 0, Value.int 0 0, Value.int 3 0, Value.ref 269, Value.bool true, Value.int 181 0, Value.ref 270, Value.none, Value.none, Value.none, Value.ref 271, Value.int 598 0, Value.int 169 0, Value.str (Str.ofString "/claim/cut.py") 599] }) ::
      (nat_lit 273, { cls := Value.type "function", data := Data.func { name := Str.ofString "law", qualname := Str.ofString "law", params := a29, body := FuncBody.stmts b29, scope := s29, globals := 3, closure := [], defaults := Value.none, kwdefaults := Value.none, pyModule := Value.str (Str.ofString "law_nz0246_01") 524, code := Value.ref 272 } }) :: []
abbrev pg : Program := PySem.Challenge.rw_nz0246_01.row.toRowW.1
noncomputable def hd.view_39 : Program := by
  refine' (?f : ∀ {x0 x1 x2 x3 x4 x5 x6 x7 x8 x9 x10 x11 x12 x13 x14 x15 x16 x17 x18 x19 x20 x21 x22 x23 x24 x25 x26 x27 x28 x29 : Stmt}, PySem.Challenge.pw_nz0246_01.main.body = [x0, x1, x2, x3, x4, x5, x6, x7, x8, x9, x10, x11, x12, x13, x14, x15, x16, x17, x18, x19, x20, x21, x22, x23, x24, x25, x26, x27, x28, x29] → Program) ?p
  case p => exact rfl
  case f =>
    intro x0 x1 x2 x3 x4 x5 x6 x7 x8 x9 x10 x11 x12 x13 x14 x15 x16 x17 x18 x19 x20 x21 x22 x23 x24 x25 x26 x27 x28 x29 _
    exact ⟨⟨[x1, x2, x4, x5, x6, x8, x10, x11, x12, x13, x14, x16, x17, x18, x19, x21, x22, x23, x24, x25, x26, x27, x28, x29], pg.main.scope, pg.main.futureAnnotations, pg.main.file, pg.main.more⟩, pg.modules, pg.parses, pg.absent, pg.harvested, pg.given⟩
abbrev ats : List Addr := [nat_lit 2, nat_lit 3, nat_lit 15, nat_lit 22, nat_lit 24, nat_lit 25, nat_lit 27, nat_lit 28, nat_lit 29, nat_lit 30, nat_lit 31, nat_lit 32, nat_lit 35, nat_lit 42, nat_lit 43, nat_lit 44, nat_lit 47, nat_lit 49, nat_lit 50, nat_lit 52, nat_lit 53, nat_lit 61, nat_lit 63, nat_lit 64, nat_lit 66, nat_lit 67, nat_lit 68, nat_lit 69, nat_lit 70, nat_lit 71, nat_lit 72, nat_lit 82, nat_lit 84, nat_lit 85, nat_lit 87, nat_lit 88, nat_lit 89, nat_lit 92, nat_lit 93, nat_lit 94, nat_lit 97, nat_lit 98, nat_lit 99, nat_lit 101, nat_lit 102, nat_lit 104, nat_lit 105, nat_lit 106, nat_lit 108, nat_lit 109, nat_lit 111, nat_lit 112, nat_lit 113, nat_lit 115, nat_lit 116, nat_lit 118, nat_lit 119, nat_lit 120, nat_lit 122, nat_lit 123, nat_lit 125, nat_lit 126, nat_lit 127, nat_lit 129, nat_lit 130, nat_lit 132, nat_lit 133, nat_lit 134, nat_lit 135, nat_lit 136, nat_lit 137, nat_lit 138, nat_lit 148, nat_lit 151, nat_lit 152, nat_lit 153, nat_lit 155, nat_lit 156, nat_lit 158, nat_lit 159, nat_lit 160, nat_lit 162, nat_lit 163, nat_lit 165, nat_lit 166, nat_lit 167, nat_lit 168, nat_lit 169, nat_lit 170, nat_lit 171, nat_lit 174, nat_lit 175, nat_lit 176, nat_lit 177, nat_lit 179, nat_lit 180, nat_lit 182, nat_lit 183, nat_lit 184, nat_lit 186, nat_lit 187, nat_lit 189, nat_lit 190, nat_lit 191, nat_lit 193, nat_lit 194, nat_lit 196, nat_lit 197, nat_lit 198, nat_lit 200, nat_lit 201, nat_lit 203, nat_lit 204, nat_lit 205, nat_lit 207, nat_lit 208, nat_lit 210, nat_lit 211, nat_lit 212, nat_lit 214, nat_lit 215, nat_lit 217, nat_lit 218, nat_lit 219, nat_lit 221, nat_lit 222, nat_lit 224, nat_lit 225, nat_lit 226, nat_lit 228, nat_lit 229, nat_lit 231, nat_lit 232, nat_lit 233, nat_lit 235, nat_lit 236, nat_lit 238, nat_lit 239, nat_lit 240, nat_lit 243, nat_lit 244, nat_lit 245, nat_lit 247, nat_lit 248, nat_lit 250, nat_lit 251, nat_lit 252, nat_lit 255, nat_lit 256, nat_lit 257, nat_lit 259, nat_lit 260, nat_lit 262, nat_lit 263, nat_lit 264, nat_lit 267, nat_lit 268, nat_lit 269, nat_lit 272, nat_lit 273]
theorem ats_eq (P : Params) : ats = (hd.heap_39 P).map (·.1) := by kernel_rfl
theorem top_ok : ∀ (w : World) (os : OsState), (topFrom treeTable pg w 4150 ⟨boot_heap w.params, Array.mk [], boot_drawn, boot_toks, os⟩).map (fun s => (openSeen hd.view_39 [] (importedModules pg.main.body) (fun s => xlAt hd.view_39 [] s && recOk (RowW.records (OpenRow.toRowW PySem.Challenge.rw_nz0246_01.row)) s) true s, (kHook hd.heap_39 ats ats_eq).obs s)) = some (openGood hd.view_39 [], (kHook hd.heap_39 ats ats_eq).val w) := by
  intro w os
  unfold topFrom
  rw [PySem.W.Fast.te14082659384304107361, PySem.W.Fast.te14364793385576792824, PySem.W.Fast.te5923862056798008813, PySem.W.Fast.te4187177175401517315, PySem.W.Fast.te8920871248978507458]
  kernel_rfl
theorem said_ok : PySem.Challenge.rw_nz0246_01.wellSaid = true := by
  unfold OpenLaw.wellSaid OpenRow.wellSaid OpenRow.partSaid looksOpen
  rw [PySem.W.Fast.te8326940854005059898, PySem.W.Fast.te17119622794617984870, PySem.W.Fast.te8377067652309620493, PySem.W.Fast.te17868728402115742887, PySem.W.Fast.te13343964577679436407, PySem.W.Fast.te5923862056798008813, PySem.W.Fast.te17691160309236699985, PySem.W.Fast.te11788848310118352699, PySem.W.Fast.te797321630700447069, PySem.W.Fast.te6984425678791042302]
  repeat' with_reducible refine look_both ?_ ?_
  all_goals decide +kernel
theorem left_of {p q : Program} {loose : List Str} {Xt : Shared → Bool} {α : Type} {Yf : Shared → α} {Ya : World → α} {N : Nat}
    (hb : ∀ w : World, (fencedOpening treeTable p w N).map (fun s => (s.heap, s.gens, s.drawn, s.toks)) = some (boot_heap w.params, Array.mk [], boot_drawn, boot_toks))
    (ht : ∀ (w : World) (os : OsState), (topFrom treeTable p w N ⟨boot_heap w.params, Array.mk [], boot_drawn, boot_toks, os⟩).map (fun s => (openSeen q loose (importedModules p.main.body) Xt true s, Yf s)) = some (openGood q loose, Ya w)) : LeftO p q loose Xt Yf Ya N := fun w => by
  obtain ⟨⟨h, gs, d, k, os⟩, e, e'⟩ := Option.map_eq_some_iff.mp (hb w)
  obtain ⟨rfl, rfl, rfl, rfl⟩ : h = boot_heap w.params ∧ gs = Array.mk [] ∧ d = boot_drawn ∧ k = boot_toks := by simpa using e'
  unfold openEnds
  rw [e]
  exact ht w os
theorem boot_ok : ∀ w : World, (fencedOpening treeTable pg w 4150).map (fun s => (s.heap, s.gens, s.drawn, s.toks)) = some (boot_heap w.params, Array.mk [], boot_drawn, boot_toks) := boot_open (by kernel_rfl) (by decide) (fun s => by kernel_rfl)
theorem left_ok : LeftO pg hd.view_39 [] (fun s => xlAt hd.view_39 [] s && recOk (RowW.records (OpenRow.toRowW PySem.Challenge.rw_nz0246_01.row)) s) (kHook hd.heap_39 ats ats_eq).obs (kHook hd.heap_39 ats ats_eq).val 4150 := left_of boot_ok top_ok
theorem imps_ok : importsNone hd.view_39 = true := by decide +kernel
theorem names_ok : namesOk hd.view_39 (looseW hd.view_39 []) (namesW hd.view_39 []) = true := by decide +kernel
theorem hd {d : DefRec} {kwd : List (Str × Expr)} (hdef : defOf hd.view_39 PySem.Challenge.rw_nz0246_01.row.name = some (d, kwd)) (hp : PySem.Challenge.rw_nz0246_01.row.prog.theDef PySem.Challenge.rw_nz0246_01.row.name = some (d.params, d.body, d.scope)) (hk : kwWritten? d.params.kwonlyargs d.params.kw_defaults = some kwd)
    (call : WalkO hd.view_39 [] (XL hd.view_39 []) (kHook hd.heap_39 ats ats_eq).says (OpenRow.toRowW PySem.Challenge.rw_nz0246_01.row) d kwd fun f vs => PySem.call f vs) : PySem.Challenge.rw_nz0246_01.Holds :=
  holds_law said_ok fun said => holds_open (q := hd.view_39) (loose := []) (Xt := fun s => xlAt hd.view_39 [] s && recOk (RowW.records (OpenRow.toRowW PySem.Challenge.rw_nz0246_01.row)) s) (XP := XL hd.view_39 []) (Yf := (kHook hd.heap_39 ats ats_eq).obs) (Ya := (kHook hd.heap_39 ats ats_eq).val) (YP := (kHook hd.heap_39 ats ats_eq).says) (N := 4150)
    left_ok (kHook hd.heap_39 ats ats_eq).of (kHook hd.heap_39 ats ats_eq).keeps (fun s e => xl_of s (Bool.and_eq_true_iff.mp e).1) XL.keeps hdef hp hk (fun s e => recFacts_of (Bool.and_eq_true_iff.mp e).2) rfl said (by decide +kernel) ⟨rfl, rfl, rfl, rfl, rfl, by decide +kernel⟩ (by w_witness2) call
/-! Inf1 -/
section
variable {prog : Program} {w : World} {A : Around} {E : Value → Shared → Prop} {s : Shared}

theorem unchain_entry : entryFor table "proto.unchain" = some Builtin.«proto.unchain» := entryFor_of_fast (by kernel_rfl)

theorem raiseNew_some {α : Type} {eh e : Addr} {oh oe : Obj} {vs ws : Array Value} {Q : α → Shared → Prop} (hh : A.handled = some (.ref eh)) (ho : s.heap.get? eh = some oh) (hd : oh.data = .fields vs) (h2 : vs[2]? = some .none) (hne : eh ≠ e)
    (he : s.heap.get? e = some oe) (hde : oe.data = .fields ws) (hsz : 2 < ws.size) (h : E (.ref e) { s with heap := s.heap.update e (Obj.mapFields (·.setIfInBounds 2 (.ref eh))) }) :
    wpAny (model prog w) A (raiseNew (.ref e) : Sem α) Q E s := by
  unfold raiseNew
  refine wpAny_bind (wpAny_handled ?_)
  rw [hh]
  dsimp only
  rw [if_pos (by simp [hne])]
  refine wpAny_bind ?_
  refine wpAny_holding (wpAny_runValue (codeAny_builtin unchain_entry ?_))
  unfold Builtin.«proto.unchain»
  refine wpAny_bind (wpAny_field ho hd h2 ?_)
  rw [if_pos (by rfl)]
  refine wpAny_bind (wpAny_pure ?_)
  refine wpAny_pure ?_
  show wpAny _ _ (updateField e 2 (.ref eh) >>= _) _ _ _
  refine wpAny_bind ?_
  unfold updateField
  refine wpAny_bind (wpAny_load he ?_)
  rw [hde]
  dsimp only
  rw [if_pos hsz]
  exact wpAny_update he (wpAny_throw h)

/-- what is being handled: nothing, or an exception whose context is None -/
def HFp (A : Around) (hf : List Addr) (h : Heap) : Prop :=
  (A.handled = none ∧ hf = []) ∨ ∃ eh oh vs, A.handled = some (.ref eh) ∧ hf = [eh] ∧ h.get? eh = some oh ∧ oh.data = .fields vs ∧ vs[2]? = some .none
theorem HFp.keep {hf : List Addr} {h h' : Heap} (x : HFp A hf h) (k : ∀ b ∈ hf, ∀ o, h.get? b = some o → h'.get? b = some o) : HFp A hf h' := by
  rcases x with x | ⟨eh, oh, vs, a, b, c, d⟩
  · exact .inl x
  · exact .inr ⟨eh, oh, vs, a, b, k _ (by rw [b]; exact .head _) _ c, d⟩

/-- a new StopIteration is raised, whatever is being handled -/
theorem stop_raise {α : Type} {hf : List Addr} {Q : α → Shared → Prop} (it : Addr) (hH : HFp A hf s.heap)
    (hE : ∀ e h', (∃ o, h'.get? e = some o ∧ o.cls = .type "StopIteration") → Heap.ExtBut it s.heap h' → E (.ref e) { s with heap := h' }) :
    wpAny (model prog w) A (newExc (.type "StopIteration") [] >>= fun e => (raiseNew e : Sem α)) Q E s := by
  refine wpAny_bind ?_
  simp only [newExc, newTuple]
  refine wpAny_bind (wpAny_newObj_type ?_ (by size_fits))
  refine wpAny_bind (m := firstArgMember _ _) (wpAny_of_eq (a := Value.none) (by first | rfl | (simp only [firstArgMember]; rfl)) ?_)
  refine wpAny_newObj_type ?_ (by size_fits)
  rcases hH with ⟨hh, _⟩ | ⟨eh, oh, vs, hh, hb, ho, hd, h2⟩
  · refine wpAny_raiseNew_none hh ?_
    exact hE _ _ ⟨_, Heap.get?_push_size _ rfl, rfl⟩ (((Heap.ExtBut.refl it s.heap).push _).push _)
  · refine raiseNew_some (eh := eh) hh (Heap.get?_push_of_some _ (Heap.get?_push_of_some _ ho)) hd h2 ?_ (Heap.get?_push_size _ rfl) rfl (by simp; omega) ?_
    · intro e; have := Heap.lt_size ho; rw [e, Heap.size_push] at this; exact Nat.lt_irrefl _ (Nat.lt_of_succ_lt this)
    refine hE _ _ ⟨_, Heap.get?_update_self _ (Heap.get?_push_size _ rfl) rfl, rfl⟩ ?_
    intro b o hb hbo
    rw [Heap.get?_update_other _ _ (by intro e; have := Heap.lt_size hbo; rw [← e, Heap.size_push] at this; exact Nat.lt_irrefl _ (Nat.lt_of_succ_lt this))]
    exact Heap.get?_push_of_some _ (Heap.get?_push_of_some _ hbo)

theorem pyNext_list_end {it l : Addr} {i : Nat} {items} {hf : List Addr} {Q : Option Value → Shared → Prop} (hH : HFp A hf s.heap) (hn : it ∉ hf)
    (hit : s.heap.IsListIter it l i) (hl : s.heap.IsList l items) (hx : items[i]? = none)
    (hQ : ∀ h', Heap.ExtBut it s.heap h' → Q none { s with heap := h' }) : wpAny (model prog w) A (pyNext (.ref it)) Q E s := by
  obtain ⟨o, ho, hc, hd⟩ := id hit
  obtain ⟨ol, hol, _, nl, hdl⟩ := hl
  unfold pyNext
  refine wpAny_bind (wpAny_attempt (wpAny_callSpecial?_slot (name := Str.ofString "__next__") hit.typeIs slot_listiter_next
    (wpAny_call_entry slot_listiter_next hit.typeIs entry_listiter_next ?_ (args_listiter_next _))))
  show wpAny _ _ (field (.ref it) 0 >>= _) _ _ s
  refine wpAny_bind (wpAny_field ho hd (x := .ref l) rfl ?_)
  show wpAny _ _ (if (Value.ref l == Value.none) = true then _ else _) _ _ s
  rw [if_neg (show ¬ ((Value.ref l == Value.none) = true) from Bool.false_ne_true)]
  show wpAny _ _ (field (.ref it) 1 >>= _) _ _ s
  refine wpAny_bind (wpAny_field ho hd (x := .int i 0) rfl ?_)
  show wpAny _ _ (seqItems? (.ref l) >>= _) _ _ s
  refine wpAny_bind (wpAny_seqItems hol hdl ?_)
  simp only [Int.toNat_natCast, hx]
  refine wpAny_bind (wpAny_rule (wpAny_bind (wpAny_setField ho hd (by simp) ?_)))
  refine stop_raise it (hf := hf) ?_ ?_
  · exact hH.keep fun b hb o' e => (Heap.get?_update_other _ _ (show it ≠ b from fun q => hn (by rw [q]; exact hb))).trans e
  · rintro e h' ⟨oe, he, hce⟩ he'
    refine wpAny_bind (wpAny_isInstance (T := "StopIteration") (b := true) ⟨_, he, hce⟩ isSubtype_stop ?_)
    exact wpAny_pure (hQ _ fun b o' hb e => he' b o' hb ((Heap.get?_update_other _ _ (Ne.symm hb)).trans e))

theorem pyNext_range_end {it : Addr} {x left step : Int} {hf : List Addr} {Q : Option Value → Shared → Prop} (hH : HFp A hf s.heap) (hit : IsRangeIter s.heap it x left step) (hleft : left ≤ 0)
    (hQ : ∀ h', Heap.ExtBut it s.heap h' → Q none { s with heap := h' }) : wpAny (model prog w) A (pyNext (.ref it)) Q E s := by
  have hT : s.TypeIs (.ref it) "range_iterator" := ⟨_, hit, rfl⟩
  unfold pyNext
  refine wpAny_bind (wpAny_attempt (wpAny_callSpecial?_slot (name := Str.ofString "__next__") hT F.slot_range_iterator_next
    (wpAny_call_entry F.slot_range_iterator_next hT F.entry_range_iterator_next ?_ (F.args_range_iterator_next_1 _))))
  show wpAny _ _ (field (.ref it) 0 >>= _) _ _ s
  refine wpAny_bind (wpAny_field hit rfl (x := rawInt x) rfl ?_)
  show wpAny _ _ (field (.ref it) 1 >>= _) _ _ s
  refine wpAny_bind (wpAny_field hit rfl (x := rawInt left) rfl ?_)
  show wpAny _ _ (field (.ref it) 2 >>= _) _ _ s
  refine wpAny_bind (wpAny_field hit rfl (x := rawInt step) rfl ?_)
  show wpAny _ _ (if left ≤ 0 then _ else _) _ _ s
  rw [if_pos hleft]
  refine wpAny_bind (wpAny_rule ?_)
  refine wpAny_bind ?_
  refine stop_raise it (hf := hf) hH ?_
  rintro e h' ⟨oe, he, hce⟩ he'
  refine wpAny_bind (wpAny_isInstance (T := "StopIteration") (b := true) ⟨_, he, hce⟩ isSubtype_stop ?_)
  exact wpAny_pure (hQ _ he')

theorem walksList (I ax : Addr) (hne : ax ≠ I) (items : Array Value) (hf : List Addr) (hn : I ∉ hf) :
    Walks prog w A I (I :: ax :: hf) [I] items.size (fun i v => items[i]? = some v) (fun i h => h.IsListIter I ax i ∧ h.IsList ax items ∧ HFp A hf h) where
  sub := fun b hb => by simp at hb; simp [hb]
  frame := fun _ _ _ st hk => ⟨st.1.at fun o e => hk I (by simp) o e, st.2.1.at fun o e => hk ax (by simp) o e, st.2.2.keep fun b hb o e => hk b (by simp [hb]) o e⟩
  item := fun i s Q E hi st hQ => by
    refine wpAny_pyNext_list_item st.1 st.2.1 (x := items[i]) (by simp [hi]) fun h' hit' hs' => ?_
    exact hQ _ h' s.toks (by simp [hi]) ⟨hit', st.2.1.extBut hs'.extBut hne, st.2.2.keep fun b hb o e => hs'.extBut b o (fun q => hn (q ▸ hb)) e⟩ fun b o hb e => hs'.extBut b o (fun h => hb (by simp [h])) e
  done := fun s Q E st hQ => pyNext_list_end st.2.2 hn st.1 st.2.1 (by simp) fun h' he' => hQ h' s.toks fun b o hb e => he' b o (fun h => hb (by simp [h])) e
  self := fun _ _ _ _ st hQ => wpAny_pyIter_listiter st.1 hQ

theorem walksRange (I : Addr) (a : Int) (n : Nat) (hf : List Addr) (hn : I ∉ hf) :
    Walks prog w A I (I :: hf) [I] n (fun i v => i < n ∧ ∃ t, v = .int (a + i) t) (fun i h => IsRangeIter h I (a + (i : Nat)) ((n : Int) - (i : Nat)) 1 ∧ HFp A hf h) where
  sub := fun b hb => by simp at hb; simp [hb]
  frame := fun _ _ _ st hk => ⟨hk I (by simp) _ st.1, st.2.keep fun b hb o e => hk b (by simp [hb]) o e⟩
  item := fun i s Q E hi st hQ => by
    refine wpAny_pyNext_range_item st.1 (by omega) fun h' hit' hs' => ?_
    refine hQ _ h' _ ⟨hi, _, rfl⟩ ⟨?_, st.2.keep fun b hb o e => hs'.extBut b o (fun q => hn (q ▸ hb)) e⟩ fun b o hb e => hs'.extBut b o (fun h => hb (by simp [h])) e
    have e1 : a + ((i + 1 : Nat) : Int) = a + (i : Nat) + 1 := by omega
    have e2 : (n : Int) - ((i + 1 : Nat) : Int) = (n : Int) - (i : Nat) - 1 := by omega
    rw [e1, e2]; exact hit'
  done := fun s Q E st hQ => pyNext_range_end st.2 st.1 (by omega) fun h' he' => hQ h' s.toks fun b o hb e => he' b o (fun h => hb (by simp [h])) e
  self := fun _ _ _ _ st hQ => wpAny_pyIter_rangeiter st.1 hQ
end
/-! Inf2 -/
abbrev Led := List (Addr × Obj)
def Abv (nx tl : Led) : Prop := ∀ q ∈ nx, ∀ p ∈ tl, q.1 < p.1

/-- the end of a turn: own stands as it stood, C is a namespace, the ledger is nx' -/
def KEnd (h₀ : Heap) (L : Addr) (m : Str → Option Value) (C : Addr) (own : Led) (J : Led → Prop) (Mi : (Str → Option Value) → Prop) (s s' : Shared) : Prop :=
  ∃ h' tk' nx' mC', s' = { s with heap := h', toks := tk' } ∧ Fr h₀ L h' m ∧ News h₀ L h' (nx' ++ own) ∧ OwnOff own (nx'.map (·.1)) ∧ h'.Ns C mC' ∧ (∀ p ∈ nx', p.1 ≠ C) ∧ J nx' ∧ Mi mC'

theorem own_of (h : Heap) : ∀ wr : List Addr, (∀ b ∈ wr, ∃ o, h.get? b = some o) → ∃ own : Led, (∀ p ∈ own, h.get? p.1 = some p.2 ∧ p.1 ∈ wr) ∧ ∀ b ∈ wr, ∃ o, (b, o) ∈ own
  | [], _ => ⟨[], fun _ h => (nomatch h), fun _ h => (nomatch h)⟩
  | b :: r, hl => by
    obtain ⟨own, h1, h2⟩ := own_of h r fun b hb => hl b (.tail _ hb)
    obtain ⟨o, ho⟩ := hl b (.head _)
    refine ⟨(b, o) :: own, fun p hp => ?_, fun b' hb' => ?_⟩
    · rcases List.mem_cons.mp hp with rfl | hp
      · exact ⟨ho, .head _⟩
      · exact ⟨(h1 p hp).1, .tail _ (h1 p hp).2⟩
    · rcases List.mem_cons.mp hb' with rfl | hb'
      · exact ⟨o, .head _⟩
      · obtain ⟨o', h'⟩ := h2 b' hb'
        exact ⟨o', .tail _ h'⟩

section
variable {prog : Program} {w : World} {A : Around} {s : Shared}

theorem kloop {h₀ : Heap} {L : Addr} {m : Str → Option Value} {I : Addr} {fp wr : List Addr} {n : Nat} {P : Nat → Value → Prop} {St : Nat → Heap → Prop} (W : Walks prog w A I fp wr n P St) {cenv : Env} {x : Str} {px : Pos} {C : Addr} (hC : cenv.locals = C)
    (hx : cenv.kindOf x = some .local) (hp : (cenv.scope.kind == .class || (cenv.scope.kind == .module && cenv.locals != cenv.globals)) = false)
    (cst : Led) (J : Nat → Led → Prop) (hfp : ∀ b ∈ fp, b ∈ wr ∨ ∃ o, (b, o) ∈ cst) (hJc : ∀ i nx, J i nx → ∀ p ∈ cst, p ∈ nx)
    (hlive : ∀ i h, St i h → ∀ b ∈ wr, ∃ o, h.get? b = some o) (hwL : L ∉ wr) (hw0 : ∀ b ∈ wr, h₀.get? b = none) (hwC : C ∉ wr) (hCL : C ≠ L) (hC0 : h₀.get? C = none)
    {B : (Shared → Prop) → (Value → Shared → Prop) → Shared → Prop} (hB : ∀ Q Q' E s, (∀ s, Q s → Q' s) → B Q E s → B Q' E s) {R : Result → Shared → Prop} {c : Code}
    (hloop : ∀ (Iv : Nat → Shared → Prop), (∀ k s, Iv k s → wpAny (model prog w) A (pyNext (.ref I)) (fun r s₁ => match r with
      | none => R (.ok .next) s₁
      | some v => wpAny (model prog w) A (assign (.Name x px) cenv v) (fun _ s₂ => B (fun s₅ => ∃ k', k' < k ∧ Iv k' s₅) (notedBy (model prog w) A cenv fun e s' => R (.error e) s') s₂)
          (notedBy (model prog w) A cenv fun e s' => R (.error e) s') s₁) (notedBy (model prog w) A cenv fun e s' => R (.error e) s') s) → ∀ k s, Iv k s → codeAny (model prog w) A c R s)
    (Mi : (Str → Option Value) → Prop) (turn : ∀ i v h tk own nx mC, i < n → P i v → J i nx → Fr h₀ L h m → News h₀ L h (nx ++ own) → Mi mC → h.Ns C (fun y => if y = x then some v else mC y) → OwnOff own (nx.map (·.1)) → (∀ p ∈ nx ++ own, p.1 ≠ C) → ∀ E',
      B (fun s' => KEnd h₀ L m C own (J (i + 1)) Mi { s with heap := h, toks := tk } s') E' { s with heap := h, toks := tk })
    (done : ∀ h tk nx mC, J n nx → Fr h₀ L h m → News h₀ L h nx → h.Ns C mC → Mi mC → (∀ p ∈ nx, p.1 ≠ C) → R (.ok .next) { s with heap := h, toks := tk })
    {nx : Led} {mC : Str → Option Value} (hst : St 0 s.heap) (F : Fr h₀ L s.heap m) (N : News h₀ L s.heap nx) (hn : s.heap.Ns C mC) (hnC : ∀ p ∈ nx, p.1 ≠ C) (hnw : ∀ p ∈ nx, p.1 ∉ wr) (hJ : J 0 nx) (hMi : Mi mC) : codeAny (model prog w) A c R s := by
  subst hC
  refine hloop (fun k s' => ∃ i h' tk mC nx, s' = { s with heap := h', toks := tk } ∧ i ≤ n ∧ k = n + 1 - i ∧ St i h' ∧ Fr h₀ L h' m ∧ News h₀ L h' nx ∧ h'.Ns cenv.locals mC ∧ (∀ p ∈ nx, p.1 ≠ cenv.locals) ∧ (∀ p ∈ nx, p.1 ∉ wr) ∧ J i nx ∧ Mi mC)
    ?_ (n + 1) s ⟨0, s.heap, s.toks, mC, nx, rfl, Nat.zero_le _, rfl, hst, F, N, hn, hnC, hnw, hJ, hMi⟩
  rintro k s' ⟨i, H, tk, mC, nx, rfl, hin, rfl, hst, F, N, hn, hnC, hnw, hJ, hMi⟩
  by_cases hlt : i < n
  · refine W.item i _ _ _ hlt hst fun v h₁ tk₁ hPv hst₁ hk₁ => ?_
    refine wpAny_assign_Name (wpAny_storeName_local hx (hn.at' fun o e => hk₁ _ o hwC e) (fun h₂ hn₂ hs₂ => ?_) hp)
    have up : ∀ b o, b ≠ cenv.locals → b ∉ wr → H.get? b = some o → h₂.get? b = some o := fun b o hbC hbw e => hs₂.extBut b o hbC (hk₁ b o hbw e)
    have F₂ : Fr h₀ L h₂ m := ⟨F.ns.at' fun o e => up L o (Ne.symm hCL) hwL e,
      fun b o e => up b o (fun q => by rw [q, hC0] at e; cases e) (fun q => by rw [hw0 b q] at e; cases e) (F.keep b o e), F.above⟩
    have N₂ : News h₀ L h₂ nx := fun p hp => ⟨up _ _ (hnC p hp) (hnw p hp) (N p hp).1, (N p hp).2⟩
    obtain ⟨own, ho1, ho2⟩ := own_of h₂ wr fun b hb => by
      obtain ⟨o, ho⟩ := hlive _ _ hst₁ b hb
      exact ⟨o, hs₂.extBut b o (fun q => hwC (by rw [← q]; exact hb)) ho⟩
    have N₃ : News h₀ L h₂ (nx ++ own) := fun p hp => (List.mem_append.mp hp).elim (N₂ p) fun hp => ⟨(ho1 p hp).1, fun q => hwL (by rw [← q]; exact (ho1 p hp).2), hw0 _ (ho1 p hp).2⟩
    have hoff : OwnOff own (nx.map (·.1)) := fun p hp b hb e => by
      obtain ⟨q, hq, rfl⟩ := List.mem_map.mp hb
      exact hnw q hq (by rw [← e]; exact (ho1 p hp).2)
    have hCn : ∀ p ∈ nx ++ own, p.1 ≠ cenv.locals := fun p hp => (List.mem_append.mp hp).elim (hnC p) fun hp q => hwC (by rw [← q]; exact (ho1 p hp).2)
    have hst₂ : St (i + 1) h₂ := W.frame _ _ _ hst₁ fun b hb o e => by
      refine hs₂.extBut b o ?_ e
      rcases hfp b hb with hb | ⟨o', hb⟩
      · exact fun q => hwC (by rw [← q]; exact hb)
      · exact hnC _ (hJc _ _ hJ _ hb)
    refine hB _ _ _ _ (fun s₅ q => ?_) (turn i v h₂ _ own nx _ hlt hPv hJ F₂ N₃ hMi hn₂ hoff hCn _)
    obtain ⟨h', tk', nx', mC', rfl, F', N', hoff', hn', hC', hJ', hMi'⟩ := q
    refine ⟨n + 1 - (i + 1), by omega, i + 1, h', tk', mC', nx', rfl, hlt, rfl, ?_, F', fun p hp => N' p (List.mem_append.mpr (.inl hp)), hn', hC', fun p hp hw => ?_, hJ', hMi'⟩
    · refine W.frame _ _ _ hst₂ fun b hb o e => ?_
      rcases hfp b hb with hb | ⟨o', hb⟩
      · obtain ⟨o', ho'⟩ := ho2 b hb
        have e1 := (ho1 _ ho').1
        rw [e] at e1
        rw [Option.some.inj e1]
        exact (N' _ (List.mem_append.mpr (.inr ho'))).1
      · have e1 := (N₂ _ (hJc _ _ hJ _ hb)).1
        rw [e] at e1
        rw [Option.some.inj e1]
        exact (N' _ (List.mem_append.mpr (.inl (hJc _ _ hJ' _ hb)))).1
    · obtain ⟨o', ho'⟩ := ho2 _ hw
      exact hoff' _ ho' p.1 (List.mem_map.mpr ⟨p, hp, rfl⟩) rfl
  · have hin : i = n := by omega
    subst hin
    refine W.done _ _ _ hst fun h₁ tk₁ hk₁ => ?_
    exact done h₁ tk₁ nx mC hJ ⟨F.ns.at' fun o e => hk₁ _ o hwL e, fun b o e => hk₁ b o (fun q => by rw [hw0 b q] at e; cases e) (F.keep b o e), F.above⟩ (fun p hp => ⟨hk₁ _ _ (hnw p hp) (N p hp).1, (N p hp).2⟩) (hn.at' fun o e => hk₁ _ o hwC e) hMi hnC
end
/-! Inf3 -/
section
variable {prog : Program} {w : World} {A : Around} {s : Shared} {R : Result → Shared → Prop}

/-- an item's turn: reckon it and append it -/
def BItem (prog : Program) (w : World) (A : Around) (elt : Expr) (acc : Value) (env : Env) (Q : Shared → Prop) (E : Value → Shared → Prop) (s : Shared) : Prop :=
  wpAny (model prog w) A (eval elt env) (fun v s' => wpAny (model prog w) A (call (.builtin "list.append") [acc, v]) (fun _ s'' => Q s'') E s') E s
theorem BItem.mono {elt : Expr} {acc : Value} {env : Env} : ∀ Q Q' E s, (∀ s, Q s → Q' s) → BItem prog w A elt acc env Q E s → BItem prog w A elt acc env Q' E s :=
  fun _ _ _ _ k h => wpAny_mono h (fun _ _ h => wpAny_mono h (fun _ _ h => k _ h) fun _ _ h => h) fun _ _ h => h
/-- a clause's turn: the next clause's loop -/
def BNext (prog : Program) (w : World) (A : Around) (e i1 : Expr) (acc : Value) (env : Env) (Q : Shared → Prop) (E : Value → Shared → Prop) (s : Shared) : Prop :=
  wpAny (model prog w) A (eval i1 env) (fun y s₁ => wpAny (model prog w) A (foldedSetIterable i1 env y) (fun y s₂ => wpAny (model prog w) A (pyIter y) (fun it s₃ =>
    codeAny (model prog w) A (.compStart e 1 it acc env) (fun r s₄ => match r with | .ok _ => Q s₄ | .error e => cameBackBy (model prog w) A env E e s₄) s₃) E s₂) E s₁) E s
theorem BNext.mono {e i1 : Expr} {acc : Value} {env : Env} : ∀ Q Q' E s, (∀ s, Q s → Q' s) → BNext prog w A e i1 acc env Q E s → BNext prog w A e i1 acc env Q' E s :=
  fun _ _ _ _ k h => wpAny_mono h (fun _ _ h => wpAny_mono h (fun _ _ h => wpAny_mono h (fun _ _ h => codeAny_mono h fun r s h => by cases r with
    | ok f => exact k _ h
    | error e => exact h) fun _ _ h => h) fun _ _ h => h) fun _ _ h => h

/-- what a loop of a comprehension's block asks -/
def LoopBy (prog : Program) (w : World) (A : Around) (R : Result → Shared → Prop) (cenv : Env) (it : Value) (x : Str) (px : Pos) (B : (Shared → Prop) → (Value → Shared → Prop) → Shared → Prop) (c : Code) : Prop :=
  ∀ (Iv : Nat → Shared → Prop), (∀ k s, Iv k s → wpAny (model prog w) A (pyNext it) (fun r s₁ => match r with
      | none => R (.ok .next) s₁
      | some v => wpAny (model prog w) A (assign (.Name x px) cenv v) (fun _ s₂ => B (fun s₅ => ∃ k', k' < k ∧ Iv k' s₅) (notedBy (model prog w) A cenv fun e s' => R (.error e) s') s₂)
          (notedBy (model prog w) A cenv fun e s' => R (.error e) s') s₁) (notedBy (model prog w) A cenv fun e s' => R (.error e) s') s) → ∀ k s, Iv k s → codeAny (model prog w) A c R s

theorem loopOne {elt iter : Expr} {scope : Scope} {pos px : Pos} {x : Str} {it acc : Value} {env : Env} :
    LoopBy prog w A R env it x px (BItem prog w A elt acc env) (.compLoop (.ListComp elt [⟨.Name x px, iter, [], 0⟩] scope pos) 0 it acc env) := by
  intro Iv turn k s hI
  refine codeAny_loop rfl Iv (fun n s hI => ?_) k hI
  show wpAny _ A ((compTurn (.ListComp elt [⟨.Name x px, iter, [], 0⟩] scope pos) 0 it acc env).onRaise (fun x => do noteFrame x env; theTreesLotGoes x)) _ _ s
  refine wpAny_noted ?_
  rw [compTurn_list]
  refine wpAny_bind (wpAny_standAt (wpAny_bind (wpAny_mono (turn n s hI) (fun r s₁ h₁ => ?_) fun _ _ h' => h')))
  cases r with
  | none => exact wpAny_pure h₁
  | some v =>
    refine wpAny_bind (wpAny_of_eq (a := ()) rfl ?_)
    refine wpAny_bind (wpAny_mono h₁ (fun _ s₂ h₂ => ?_) fun _ _ h' => h')
    refine wpAny_bind (wpAny_tests_nil ?_)
    dsimp only
    rw [if_pos rfl]
    exact wpAny_bind (wpAny_bind (wpAny_mono h₂ (fun _ s₃ h₃ => wpAny_bind (wpAny_mono h₃ (fun _ s₅ h₅ => wpAny_pure (wpAny_pure ⟨rfl, h₅⟩)) fun _ _ h' => h')) fun _ _ h' => h'))

theorem compTurn_two1 (elt t0 i0 t1 i1 : Expr) (scope : Scope) (pos : Pos) (it acc : Value) (env : Env) :
    compTurn (.ListComp elt [⟨t0, i0, [], 0⟩, ⟨t1, i1, [], 0⟩] scope pos) 1 it acc env = (do
      standAt i1.pos
      match ← pyNext it with
      | none => pure (.done .next)
      | some v =>
        letOwnedTupleGo t1 it v
        assign t1 env v
        let mut ok := true
        for c in ([] : List Expr) do
          if ok then ok ← isTrue c env (eval c env)
        if ok then
          (do let _ ← call (.builtin "list.append") [acc, ← eval elt env])
        again (.compLoop (.ListComp elt [⟨t0, i0, [], 0⟩, ⟨t1, i1, [], 0⟩] scope pos) 1 it acc env)) := by rfl

theorem loopTwo0 {elt i0 t1 i1 : Expr} {scope : Scope} {pos px : Pos} {x : Str} {it acc : Value} {env : Env} :
    LoopBy prog w A R env it x px (BNext prog w A (.ListComp elt [⟨.Name x px, i0, [], 0⟩, ⟨t1, i1, [], 0⟩] scope pos) i1 acc env)
      (.compLoop (.ListComp elt [⟨.Name x px, i0, [], 0⟩, ⟨t1, i1, [], 0⟩] scope pos) 0 it acc env) := by
  intro Iv turn k s hI
  refine codeAny_loop rfl Iv (fun n s hI => ?_) k hI
  show wpAny _ A ((compTurn (.ListComp elt [⟨.Name x px, i0, [], 0⟩, ⟨t1, i1, [], 0⟩] scope pos) 0 it acc env).onRaise (fun x => do noteFrame x env; theTreesLotGoes x)) _ _ s
  refine wpAny_noted ?_
  unfold compTurn
  refine wpAny_bind (wpAny_standAt ?_)
  refine wpAny_bind (wpAny_mono (turn n s hI) (fun r s₁ h₁ => ?_) fun _ _ h' => h')
  cases r with
  | none => exact wpAny_pure h₁
  | some v =>
    refine wpAny_bind (wpAny_of_eq (a := ()) rfl ?_)
    refine wpAny_bind (wpAny_mono h₁ (fun _ s₂ h₂ => ?_) fun _ _ h' => h')
    refine wpAny_bind (wpAny_tests_nil ?_)
    dsimp only
    rw [if_pos rfl]
    refine wpAny_bind (wpAny_mono h₂ (fun y s₃ h₃ => ?_) fun _ _ h' => h')
    refine wpAny_bind (wpAny_standAt ?_)
    show wpAny _ A (foldedSetIterable i1 env y >>= _) _ _ _
    refine wpAny_bind (wpAny_mono h₃ (fun y s₄ h₄ => ?_) fun _ _ h' => h')
    show wpAny _ A (holding [y] (pyIter y) >>= _) _ _ _
    refine wpAny_bind (wpAny_holding (wpAny_mono h₄ (fun it' s₅ h₅ => ?_) fun _ _ h' => h'))
    refine wpAny_bind (wpAny_runOwn (codeAny_mono h₅ fun r s₆ h₆ => ?_))
    cases r with
    | ok f => exact wpAny_pure ⟨rfl, h₆⟩
    | error e => exact h₆
theorem loopTwo1 {elt t0 i0 i1 : Expr} {scope : Scope} {pos px : Pos} {x : Str} {it acc : Value} {env : Env} :
    LoopBy prog w A R env it x px (BItem prog w A elt acc env) (.compLoop (.ListComp elt [⟨t0, i0, [], 0⟩, ⟨.Name x px, i1, [], 0⟩] scope pos) 1 it acc env) := by
  intro Iv turn k s hI
  refine codeAny_loop rfl Iv (fun n s hI => ?_) k hI
  show wpAny _ A ((compTurn (.ListComp elt [⟨t0, i0, [], 0⟩, ⟨.Name x px, i1, [], 0⟩] scope pos) 1 it acc env).onRaise (fun x => do noteFrame x env; theTreesLotGoes x)) _ _ s
  refine wpAny_noted ?_
  rw [compTurn_two1]
  refine wpAny_bind (wpAny_standAt (wpAny_bind (wpAny_mono (turn n s hI) (fun r s₁ h₁ => ?_) fun _ _ h' => h')))
  cases r with
  | none => exact wpAny_pure h₁
  | some v =>
    refine wpAny_bind (wpAny_of_eq (a := ()) rfl ?_)
    refine wpAny_bind (wpAny_mono h₁ (fun _ s₂ h₂ => ?_) fun _ _ h' => h')
    refine wpAny_bind (wpAny_tests_nil ?_)
    dsimp only
    rw [if_pos rfl]
    exact wpAny_bind (wpAny_bind (wpAny_mono h₂ (fun _ s₃ h₃ => wpAny_bind (wpAny_mono h₃ (fun _ s₅ h₅ => wpAny_pure (wpAny_pure ⟨rfl, h₅⟩)) fun _ _ h' => h')) fun _ _ h' => h'))

/-- the start of a block's loop, at either depth: the iterator is asked for itself, or not -/
theorem compStart_at {e : Expr} {d : Nat} {x iter : Expr} {it acc : Value} {env : Env} (hcl : ∃ elt gens scope pos, e = .ListComp elt gens scope pos ∧ gens[d]? = some ⟨x, iter, [], 0⟩)
    (h0 : codeAny (model prog w) A (.compLoop e d it acc env) R s) (h1 : wpAny (model prog w) A (pyIter it) (fun it' s' => it' = it ∧ s' = s) (fun _ _ => False) s) :
    codeAny (model prog w) A (.compStart e d it acc env) R s := by
  obtain ⟨elt, gens, scope, pos, rfl, hg⟩ := hcl
  refine codeAny_of_tree ?_
  show wpAny _ _ ((compStart (.ListComp elt gens scope pos) d it acc env).onRaise (fun x => do noteFrame x env; standAt theWindowsPlace)) _ _ s
  refine wpAny_notedAt ?_
  unfold compStart
  have hg' : (clausesOf (.ListComp elt gens scope pos))[d]? = some ⟨x, iter, [], 0⟩ := hg
  rw [hg']
  show wpAny _ _ (ask >>= _) _ _ s
  refine wpAny_bind (wpAny_askSetting (wpAny_ite ?_))
  split
  · first
      | exact wpAny_bind (wpAny_pure (wpAny_pure (And.intro rfl h0)))
      | exact wpAny_pure (And.intro rfl h0)
  · refine wpAny_bind (wpAny_rule ?_)
    show wpAny _ _ (standAt iter.pos >>= _) _ _ s
    exact wpAny_bind (wpAny_standAt (wpAny_bind (wpAny_mono h1 (fun it' s' h' => by obtain ⟨rfl, rfl⟩ := h'; exact wpAny_pure (And.intro rfl h0)) fun _ _ x => x.elim)))
end
/-! Inf4 -/
section
variable {prog : Program} {w : World} {A : Around} {s : Shared}

/-- behind a comprehension's first iterable: the rest -/
def CompGo (prog : Program) (w : World) (A : Around) (E : Value → Shared → Prop) (env : Env) (scope : Scope) (cl : List (Str × Addr)) (e : Expr) (Q : Value → Shared → Prop) (xv : Value) (s₁ : Shared) : Prop :=
  wpAny (model prog w) A (pyIter xv) (fun it s₂ => wpAny (model prog w) A (newList []) (fun acc s₃ => wpAny (model prog w) A (newFunctionEnv scope env.globals cl [] env.qual none .none (some env)) (fun cenv s₄ =>
    codeAny (model prog w) A (.compStart e 0 it acc { cenv with scope := relabel scope env }) (compPost (model prog w) A E none Q acc cenv.locals) s₄) E s₃) E s₂) E s₁

theorem comp_start {elt iter : Expr} {x : Expr} {ifs : List Expr} {gs : List Comprehension} {scope : Scope} {cl : List (Str × Addr)} {pos : Pos} {env : Env} {Q : Value → Shared → Prop} {E : Value → Shared → Prop}
    (hclos : closureFor scope env = pure cl) (hkind : scope.kind = .function) (hnames : ∀ y ∈ scope.names, y.2 = .local → scope.names.lookup y.1 = some .local)
    (h : wpAny (model prog w) A (eval iter env) (fun xv s₁ => CompGo prog w A E env scope cl (.ListComp elt (⟨x, iter, ifs, 0⟩ :: gs) scope pos) Q xv s₁) E s)
    (hs : ∀ x, foldedSetIterable iter env x = pure x := by intro _; rfl) :
    wpAny (model prog w) A (eval (.ListComp elt (⟨x, iter, ifs, 0⟩ :: gs) scope pos) env) Q E s := by
  show wpAny (model prog w) A (comprehension (.ListComp elt (⟨x, iter, ifs, 0⟩ :: gs) scope pos) scope env _ (newList []) false (eval iter env)) Q E s
  exact wpAny_comprehension_free (use := none) rfl hs hclos hkind hnames h

theorem Abv.nil {nx : Led} : Abv nx [] := fun _ _ _ h => nomatch h
theorem Abv.app {nx led tl tl' : Led} (a : Abv nx tl) (b : Abv led tl') (hs : ∀ p ∈ nx, p ∈ led) : Abv nx (tl' ++ tl) := fun q hq p hp =>
  (List.mem_append.mp hp).elim (fun h => b q (hs q hq) p h) fun h => a q hq p h
theorem Abv.ne {led tl : Led} (a : Abv led tl) {D : Addr} {o : Obj} (h : (D, o) ∈ led) : ∀ p ∈ tl, p.1 ≠ D := fun p hp => Nat.ne_of_gt (a _ h p hp)

section
variable {h₀ : Heap} {L : Addr} {m : Str → Option Value} {nx₀ : Led} {n : Nat} {env : Env} {scope : Scope} {cl : List (Str × Addr)} {elt : Expr} {Pv : Nat → (Str → Option Value) → Prop} {G : Nat → List Value → Led → Prop}

/-- how an item's turn ends -/
def ItemEnd (s₁ : Shared) (h₀ : Heap) (L : Addr) (m : Str → Option Value) (led : Led) (G1 : Value → Led → Prop) (y : Value) (s' : Shared) : Prop :=
  ∃ h' tk' tl, s' = { s₁ with heap := h', toks := tk' } ∧ Fr h₀ L h' m ∧ News h₀ L h' (tl ++ led) ∧ Abv led tl ∧ G1 y tl
/-- an item's turn, as its user shows it -/
def ItemTurn (prog : Program) (w : World) (A : Around) (s₁ : Shared) (h₀ : Heap) (L : Addr) (m : Str → Option Value) (n : Nat) (env : Env) (scope : Scope) (cl : List (Str × Addr)) (elt : Expr) (Pv : Nat → (Str → Option Value) → Prop) (G : Nat → List Value → Led → Prop) : Prop :=
  ∀ i h tk ys nx led mC C oC, i < n → Pv i mC → (∀ p ∈ nx, p ∈ led) → (C, oC) ∈ led → G i ys nx → Fr h₀ L h m → News h₀ L h led → h.Ns C mC → ∀ E',
    wpAny (model prog w) A (eval elt (compEnvC scope cl C env)) (ItemEnd s₁ h₀ L m led (fun y tl => G (i + 1) (ys ++ [y]) (tl ++ nx))) E' { s₁ with heap := h, toks := tk }

/-- the ledger within a block: what it builds ahead -/
def JItem (nx₀ : Led) (D : Addr) (G : Nat → List Value → Led → Prop) (i : Nat) (nx : Led) : Prop :=
  ∃ ys nD tl, nx = (D, listOf ys.toArray nD) :: (tl ++ nx₀) ∧ ys.length = i ∧ Abv nx₀ tl ∧ (∀ p ∈ tl ++ nx₀, p.1 ≠ D) ∧ G i ys (tl ++ nx₀)

theorem item_turn {s₁ : Shared} {C D : Addr} (T : ItemTurn prog w A s₁ h₀ L m n env scope cl elt Pv G) (hCL : C ≠ L) (hC0 : h₀.get? C = none) (hz : n ≤ sizeLine)
    {i : Nat} {h : Heap} {tk : Nat} {own nx : Led} {mC : Str → Option Value} (hi : i < n) (hP : Pv i mC) (hJ : JItem nx₀ D G i nx) (F : Fr h₀ L h m) (N : News h₀ L h (nx ++ own)) (hn : h.Ns C mC) (hoff : OwnOff own (nx.map (·.1)))
    (hC : ∀ p ∈ nx ++ own, p.1 ≠ C) {Mi : (Str → Option Value) → Prop} (hMi : Mi mC) (E' : Value → Shared → Prop) :
    BItem prog w A elt (.ref D) (compEnvC scope cl C env) (fun s' => KEnd h₀ L m C own (JItem nx₀ D G (i + 1)) Mi { s₁ with heap := h, toks := tk } s') E' { s₁ with heap := h, toks := tk } := by
  obtain ⟨ys, nD, tl, rfl, hlen, hab, hD, hG⟩ := hJ
  obtain ⟨oC, es, ep, hoC, hrest⟩ := id hn
  have N₁ : News h₀ L h ((C, oC) :: (((D, listOf ys.toArray nD) :: (tl ++ nx₀)) ++ own)) := fun p hp => by
    rcases List.mem_cons.mp hp with rfl | hp
    · exact ⟨hoC, hCL, hC0⟩
    · exact N p hp
  refine wpAny_mono (T i h tk ys (tl ++ nx₀) ((C, oC) :: (((D, listOf ys.toArray nD) :: (tl ++ nx₀)) ++ own)) mC C oC hi hP
    (fun p hp => .tail _ (List.mem_append.mpr (.inl (.tail _ hp)))) (.head _) hG F N₁ hn _) (fun y s' q => ?_) fun _ _ e => e
  obtain ⟨h', tk', tl', rfl, F', N', hab', hG'⟩ := q
  have hDm : (D, listOf ys.toArray nD) ∈ (C, oC) :: (((D, listOf ys.toArray nD) :: (tl ++ nx₀)) ++ own) := .tail _ (.head _)
  have hDp := N' _ (List.mem_append.mpr (.inr hDm))
  have hsz : ys.toArray.size ≤ sizeLine := by rw [List.size_toArray, hlen]; exact Nat.le_of_lt (Nat.lt_of_lt_of_le hi hz)
  refine wpAny_list_append_plain (hsz := hsz) (items := ys.toArray) ⟨nD, hDp.1⟩ fun h₅ hl₅ hs₅ => ?_
  obtain ⟨nD', hD'⟩ := hl₅
  have e : ys.toArray.push y = (ys ++ [y]).toArray := by simp
  rw [e] at hD'
  have hC' := N' _ (List.mem_append.mpr (.inr (List.Mem.head (a := (C, oC)) _)))
  have hCD : C ≠ D := fun q => hC (D, listOf ys.toArray nD) (.head _) q.symm
  have hDL : D ≠ L := hDp.2.1
  have hDt : ∀ p ∈ tl' ++ (tl ++ nx₀), p.1 ≠ D := fun p hp => (List.mem_append.mp hp).elim (Abv.ne hab' hDm p) (hD p)
  have keep : ∀ p ∈ tl' ++ ((C, oC) :: (((D, listOf ys.toArray nD) :: (tl ++ nx₀)) ++ own)), p.1 ≠ D → h₅.get? p.1 = some p.2 := fun p hp hne => (hs₅.extBut _ _ hne (N' p hp).1)
  refine ⟨h₅, _, (D, listOf (ys ++ [y]).toArray nD') :: (tl' ++ (tl ++ nx₀)), mC, rfl, ?_, ?_, ?_, ?_, ?_, ⟨ys ++ [y], nD', tl' ++ tl, by simp, by simp [hlen], ?_, ?_, ?_⟩, hMi⟩
  · exact ⟨F'.ns.at' fun o e => hs₅.extBut _ _ (Ne.symm hDL) e, fun b o e => hs₅.extBut b o (fun q => by rw [q, hDp.2.2] at e; cases e) (F'.keep b o e), F'.above⟩
  · intro p hp
    rcases List.mem_append.mp hp with hp | hp
    · rcases List.mem_cons.mp hp with rfl | hp
      · exact ⟨hD', hDp.2⟩
      · rcases List.mem_append.mp hp with hp' | hp'
        · exact ⟨keep p (List.mem_append.mpr (.inl hp')) (hDt p hp), (N' p (List.mem_append.mpr (.inl hp'))).2⟩
        · have hm : p ∈ tl' ++ ((C, oC) :: (((D, listOf ys.toArray nD) :: (tl ++ nx₀)) ++ own)) := List.mem_append.mpr (.inr (.tail _ (List.mem_append.mpr (.inl (.tail _ hp')))))
          exact ⟨keep p hm (hDt p hp), (N' p hm).2⟩
    · have hm : p ∈ tl' ++ ((C, oC) :: (((D, listOf ys.toArray nD) :: (tl ++ nx₀)) ++ own)) := List.mem_append.mpr (.inr (.tail _ (List.mem_append.mpr (.inr hp))))
      exact ⟨keep p hm (hoff p hp D (List.mem_map.mpr ⟨_, .head _, rfl⟩)), (N' p hm).2⟩
  · intro p hp b hb q
    obtain ⟨u, hu, rfl⟩ := List.mem_map.mp hb
    rcases List.mem_cons.mp hu with rfl | hu
    · exact hoff p hp D (List.mem_map.mpr ⟨_, .head _, rfl⟩) q
    · rcases List.mem_append.mp hu with hu | hu
      · exact Nat.ne_of_lt (hab' p (.tail _ (List.mem_append.mpr (.inr hp))) u hu) q
      · exact hoff p hp u.1 (List.mem_map.mpr ⟨u, .tail _ hu, rfl⟩) q
  · exact ⟨oC, es, ep, hs₅.extBut _ _ hCD hC'.1, hrest⟩
  · intro p hp
    rcases List.mem_cons.mp hp with rfl | hp
    · exact Ne.symm hCD
    · rcases List.mem_append.mp hp with hp | hp
      · exact Abv.ne hab' (.head _) p hp
      · exact hC p (List.mem_append.mpr (.inl (.tail _ hp)))
  · exact Abv.app hab hab' fun p hp => .tail _ (List.mem_append.mpr (.inl (.tail _ (List.mem_append.mpr (.inr hp)))))
  · rw [List.append_assoc]; exact hDt
  · rw [List.append_assoc]; exact hG'
end
end
/-! Inf5 -/
section
variable {prog : Program} {w : World} {A : Around} {E : Value → Shared → Prop}
variable {h₀ : Heap} {L : Addr} {m : Str → Option Value} {nx₀ : Led} {n : Nat} {env : Env} {scope : Scope} {cl : List (Str × Addr)} {elt iter : Expr} {x : Str} {px pos : Pos} {Pv : Nat → (Str → Option Value) → Prop} {Pw : Nat → Value → Prop} {G : Nat → List Value → Led → Prop} {Q : Value → Shared → Prop}

/-- what holds behind a comprehension of items that are made -/
def ItemsDone (s₁ : Shared) (h₀ : Heap) (L : Addr) (m : Str → Option Value) (nx₀ : Led) (n : Nat) (G : Nat → List Value → Led → Prop) (Q : Value → Shared → Prop) : Prop :=
  ∀ D h tk ys tl nD, ys.length = n → Fr h₀ L h m → News h₀ L h ((D, listOf ys.toArray nD) :: (tl ++ nx₀)) → Abv nx₀ ((D, listOf ys.toArray nD) :: tl) → (∀ p ∈ tl, p.1 ≠ D) → G n ys (tl ++ nx₀) → Q (.ref D) { s₁ with heap := h, toks := tk }

theorem fr_fresh {h h' : Heap} (F : Fr h₀ L h m) (k : ∀ b o, h.get? b = some o → h'.get? b = some o) : Fr h₀ L h' m := F.keeps k

/-- the same, with the block's names still there -/
def ItemsDoneR (s₁ : Shared) (h₀ : Heap) (L : Addr) (m : Str → Option Value) (nx₀ : Led) (n : Nat) (G : Nat → List Value → Led → Prop) (Rr : Value → Addr → Result → Shared → Prop) : Prop :=
  ∀ D C h tk ys tl nD mC, ys.length = n → Fr h₀ L h m → News h₀ L h ((D, listOf ys.toArray nD) :: (tl ++ nx₀)) → Abv nx₀ ((D, listOf ys.toArray nD) :: tl) → (∀ p ∈ tl, p.1 ≠ D) → G n ys (tl ++ nx₀) →
    h.Ns C mC → C ≠ L → h₀.get? C = none → (∀ p ∈ (D, listOf ys.toArray nD) :: (tl ++ nx₀), p.1 ≠ C) → Rr (.ref D) C (.ok .next) { s₁ with heap := h, toks := tk }
def CompGoR (prog : Program) (w : World) (A : Around) (E : Value → Shared → Prop) (env : Env) (scope : Scope) (cl : List (Str × Addr)) (e : Expr) (Rr : Value → Addr → Result → Shared → Prop) (xv : Value) (s₁ : Shared) : Prop :=
  wpAny (model prog w) A (pyIter xv) (fun it s₂ => wpAny (model prog w) A (newList []) (fun acc s₃ => wpAny (model prog w) A (newFunctionEnv scope env.globals cl [] env.qual none .none (some env)) (fun cenv s₄ =>
    codeAny (model prog w) A (.compStart e 0 it acc { cenv with scope := relabel scope env }) (Rr acc cenv.locals) s₄) E s₃) E s₂) E s₁
theorem ItemsDone.toR {s₁ : Shared} (hd : ItemsDone s₁ h₀ L m nx₀ n G Q) : ItemsDoneR s₁ h₀ L m nx₀ n G (fun acc C => compPost (model prog w) A E none Q acc C) := by
  intro D C h tk ys tl nD mC hlen F' N' hab hD' hG' hn hCL hC0 hC
  refine ⟨mC, hn, fun h' hs' => ?_⟩
  refine hd _ h' tk ys tl nD hlen ⟨F'.ns.at' fun o e => hs'.extBut _ _ (Ne.symm hCL) e, fun b o e => hs'.extBut b o (fun q => by have e' : h₀.get? C = some o := (congrArg h₀.get? q).symm.trans e; rw [hC0] at e'; cases e') (F'.keep b o e), F'.above⟩
    (fun p hp => ⟨hs'.extBut _ _ (hC p hp) (N' p hp).1, (N' p hp).2⟩) hab hD' hG'
theorem comp_block1R {Rr : Value → Addr → Result → Shared → Prop} {s₂ : Shared} {I : Addr} {fp wr : List Addr} {St : Nat → Heap → Prop} (W : Walks prog w A I fp wr n Pw St) (hst : St 0 s₂.heap) (F : Fr h₀ L s₂.heap m) (N : News h₀ L s₂.heap nx₀)
    (hw : ∀ b ∈ wr, b < s₂.heap.objs.size ∧ h₀.get? b = none ∧ b ≠ L ∧ ∀ p ∈ nx₀, p.1 ≠ b) (cst : Led) (hfp : ∀ b ∈ fp, b ∈ wr ∨ ∃ o, (b, o) ∈ cst) (hcst : ∀ p ∈ cst, p ∈ nx₀)
    (hlive : ∀ i h, St i h → ∀ b ∈ wr, ∃ o, h.get? b = some o) (hkind : scope.kind = .function) (hcell : ∀ y ∈ scope.names, y.2 ≠ .cell) (hx : scope.names.lookup x = some .local)
    (T : ItemTurn prog w A s₂ h₀ L m n env scope cl elt (fun i mC => ∃ v, Pw i v ∧ mC x = some v) G) (hz : n ≤ sizeLine) (hG : G 0 [] nx₀) (hdone : ItemsDoneR s₂ h₀ L m nx₀ n G Rr) :
    wpAny (model prog w) A (newList []) (fun acc s₃ => wpAny (model prog w) A (newFunctionEnv scope env.globals cl [] env.qual none .none (some env)) (fun cenv s₄ =>
      codeAny (model prog w) A (.compStart (.ListComp elt [⟨.Name x px, iter, [], 0⟩] scope pos) 0 (.ref I) acc { cenv with scope := relabel scope env }) (Rr acc cenv.locals) s₄) E s₃) E s₂ := by
  refine wpAny_newObj_type (wpAny_newFunctionEnv hcell (by intro y hy; simp at hy) (fun h₁ hns₁ hsb₁ => ?_) hkind)
  dsimp only at hns₁ hsb₁ ⊢
  have hD : s₂.heap.get? s₂.heap.objs.size = none := by
    cases e : s₂.heap.get? s₂.heap.objs.size with
    | none => rfl
    | some o => exact absurd (Heap.lt_size e) (Nat.lt_irrefl _)
  have h0D : h₀.get? s₂.heap.objs.size = none := next_is_new F
  generalize hH2 : s₂.heap.push { cls := .type "list", dict := none, data := .seq ([] : List Value).toArray } = H2 at hns₁ hsb₁ ⊢
  have hCs : H2.objs.size = s₂.heap.objs.size + 1 := by rw [← hH2, Heap.size_push]
  have up : ∀ b o, s₂.heap.get? b = some o → h₁.get? b = some o := fun b o e =>
    hsb₁.extBut b o (by rw [hCs]; exact Nat.ne_of_lt (Nat.lt_succ_of_lt (Heap.lt_size e))) (Heap.get?_push_of_some _ (by rw [← hH2]; exact Heap.get?_push_of_some _ e))
  have hDC : s₂.heap.objs.size ≠ H2.objs.size := by rw [hCs]; exact Nat.ne_of_lt (Nat.lt_succ_self _)
  have hDo : h₁.get? s₂.heap.objs.size = some (listOf ([] : List Value).toArray 0) :=
    hsb₁.extBut _ _ hDC (Heap.get?_push_of_some _ (by rw [← hH2]; exact Heap.get?_push_size _ rfl))
  have F₁ : Fr h₀ L h₁ m := F.keeps up
  have hLs : L < s₂.heap.objs.size := F.ns.lt
  have hDL : s₂.heap.objs.size ≠ L := Nat.ne_of_gt hLs
  have hCL : H2.objs.size ≠ L := by rw [hCs]; exact Nat.ne_of_gt (Nat.lt_succ_of_lt hLs)
  have hC0 : h₀.get? H2.objs.size = none := by
    cases e : h₀.get? H2.objs.size with
    | none => rfl
    | some o => exact absurd (Heap.lt_size (F.keep _ _ e)) (by rw [hCs]; exact Nat.not_lt.mpr (Nat.le_succ _))
  have N₁ : News h₀ L h₁ ((s₂.heap.objs.size, listOf ([] : List Value).toArray 0) :: ([] ++ nx₀)) := fun p hp => by
    rcases List.mem_cons.mp hp with rfl | hp
    · exact ⟨hDo, hDL, h0D⟩
    · exact ⟨up _ _ (N p hp).1, (N p hp).2⟩
  have hlt : ∀ p ∈ nx₀, p.1 < s₂.heap.objs.size := fun p hp => Heap.lt_size (N p hp).1
  refine compStart_at (s := _) ⟨elt, _, scope, pos, rfl, rfl⟩ ?_ (W.self 0 _ _ _ (W.frame _ _ _ hst fun b _ o e => up b o e) ⟨rfl, rfl⟩)
  refine kloop (h₀ := h₀) (L := L) (m := m) W (cenv := compEnvC scope cl H2.objs.size env) (x := x) (px := px) (C := H2.objs.size) rfl (lookup_relabel_local hx) (by simp [compEnvC, relabel, hkind]) cst (JItem nx₀ s₂.heap.objs.size G) hfp ?_ hlive
    (fun h => (hw _ h).2.2.1 rfl) (fun b hb => (hw b hb).2.1) (fun h => by have := (hw _ h).1; rw [hCs] at this; exact Nat.lt_irrefl _ (Nat.lt_of_succ_lt this)) hCL hC0 (BItem.mono (elt := elt) (acc := .ref s₂.heap.objs.size) (env := compEnvC scope cl H2.objs.size env)) loopOne (fun _ => True) ?_ ?_ (nx := (s₂.heap.objs.size, listOf ([] : List Value).toArray 0) :: ([] ++ nx₀)) (W.frame _ _ _ hst fun b _ o e => up b o e) F₁ N₁ hns₁ ?_ ?_ ?_ trivial
  · rintro i nx ⟨ys, nD, tl, rfl, _⟩ p hp
    exact .tail _ (List.mem_append.mpr (.inr (hcst p hp)))
  · intro i v h tk own nx mC hi hP hJ F' N' _ hn hoff hC E'
    exact item_turn T hCL hC0 hz hi ⟨v, hP, if_pos rfl⟩ hJ F' N' hn hoff hC trivial E'
  · rintro h tk nx mC ⟨ys, nD, tl, rfl, hlen, hab, hD', hG'⟩ F' N' hn _ hC
    refine hdone _ _ h tk ys tl nD mC hlen F' N' ?_ (fun p hp => hD' p (List.mem_append.mpr (.inl hp))) hG' hn hCL hC0 hC
    intro q hq p hp
    rcases List.mem_cons.mp hp with rfl | hp
    · exact hlt q hq
    · exact hab q hq p hp
  · intro p hp
    rcases List.mem_cons.mp hp with rfl | hp
    · exact hDC
    · rw [hCs]; exact Nat.ne_of_lt (Nat.lt_succ_of_lt (hlt p hp))
  · intro p hp q
    rcases List.mem_cons.mp hp with rfl | hp
    · exact Nat.lt_irrefl _ (hw _ q).1
    · exact (hw _ q).2.2.2 p hp rfl
  · exact ⟨[], 0, [], rfl, rfl, Abv.nil, fun p hp => Nat.ne_of_lt (hlt p hp), hG⟩

/-- a comprehension over a range by ones -/
theorem comp_rangeR {Rr : Value → Addr → Result → Shared → Prop} {s₁ : Shared} {r : Addr} {a₀ b₀ : Int} {t u v : Tok} {hf : List Addr} (hr : IsRange s₁.heap r a₀ b₀ 1 t u v) (hsmall : Builtin.Range.small a₀ b₀ 1 = true) (hsz : Builtin.Range.rangeSize a₀ b₀ 1 = (n : Int)) (hH : HFp A hf s₁.heap)
    (F : Fr h₀ L s₁.heap m) (N : News h₀ L s₁.heap nx₀) (hhf : ∀ b ∈ hf, ∃ o, (b, o) ∈ nx₀) (hkind : scope.kind = .function) (hcell : ∀ y ∈ scope.names, y.2 ≠ .cell) (hx : scope.names.lookup x = some .local)
    (T : ItemTurn prog w A s₁ h₀ L m n env scope cl elt (fun i mC => ∃ v, (i < n ∧ ∃ t, v = .int (a₀ + i) t) ∧ mC x = some v) G) (hz : n ≤ sizeLine) (hG : G 0 [] nx₀) (hdone : ItemsDoneR s₁ h₀ L m nx₀ n G Rr) :
    CompGoR prog w A E env scope cl (.ListComp elt [⟨.Name x px, iter, [], 0⟩] scope pos) Rr (.ref r) s₁ := by
  unfold CompGoR
  refine wpAny_pyIter_range hr hsmall ?_
  rw [hsz]
  have up : ∀ b o, s₁.heap.get? b = some o → (s₁.heap.push { cls := .type "range_iterator", data := .fields #[rawInt a₀, rawInt (n : Int), rawInt 1] }).get? b = some o := fun b o e => Heap.get?_push_of_some _ e
  have hlt : ∀ p ∈ nx₀, p.1 < s₁.heap.objs.size := fun p hp => Heap.lt_size (N p hp).1
  have hIf : s₁.heap.objs.size ∉ hf := fun h => by obtain ⟨o, ho⟩ := hhf _ h; exact Nat.lt_irrefl _ (hlt _ ho)
  obtain ⟨cst, hc1, hc2⟩ := own_of s₁.heap hf fun b hb => by obtain ⟨o, ho⟩ := hhf b hb; exact ⟨o, (N _ ho).1⟩
  refine comp_block1R (walksRange s₁.heap.objs.size a₀ n hf hIf) ⟨?_, hH.keep fun b _ o e => up b o e⟩ (F.keeps up) (fun p hp => ⟨up _ _ (N p hp).1, (N p hp).2⟩) ?_ cst ?_ ?_ ?_ hkind hcell hx T hz hG hdone
  · show IsRangeIter _ _ _ _ _
    simpa using Heap.get?_push_size _ rfl
  · intro b hb
    rw [List.mem_singleton.mp hb]
    exact ⟨by show s₁.heap.objs.size < (s₁.heap.push _).objs.size; rw [Heap.size_push]; exact Nat.lt_succ_self _, next_is_new F, Nat.ne_of_gt F.ns.lt, fun p hp => Nat.ne_of_lt (hlt p hp)⟩
  · intro b hb
    rcases List.mem_cons.mp hb with rfl | hb
    · exact .inl (.head _)
    · exact .inr (hc2 b hb)
  · intro p hp
    obtain ⟨e1, e2⟩ := hc1 p hp
    obtain ⟨o, ho⟩ := hhf _ e2
    have e3 := (N _ ho).1
    rw [e1] at e3
    have : p = (p.1, o) := Prod.ext rfl (Option.some.inj e3)
    rw [this]; exact ho
  · rintro i h ⟨hi, _⟩ b hb
    rw [List.mem_singleton.mp hb]
    exact ⟨_, hi⟩

/-- a comprehension over a list of the ledger's -/
theorem comp_listR {Rr : Value → Addr → Result → Shared → Prop} {s₁ : Shared} {l : Addr} {vs : List Value} {nl : Nat} {hf : List Addr} (hl : (l, listOf vs.toArray nl) ∈ nx₀) (hH : HFp A hf s₁.heap)
    (F : Fr h₀ L s₁.heap m) (N : News h₀ L s₁.heap nx₀) (hhf : ∀ b ∈ hf, ∃ o, (b, o) ∈ nx₀) (hkind : scope.kind = .function) (hcell : ∀ y ∈ scope.names, y.2 ≠ .cell) (hx : scope.names.lookup x = some .local)
    (T : ItemTurn prog w A s₁ h₀ L m vs.length env scope cl elt (fun i mC => ∃ v, vs[i]? = some v ∧ mC x = some v) G) (hz : vs.length ≤ sizeLine) (hG : G 0 [] nx₀) (hdone : ItemsDoneR s₁ h₀ L m nx₀ vs.length G Rr) :
    CompGoR prog w A E env scope cl (.ListComp elt [⟨.Name x px, iter, [], 0⟩] scope pos) Rr (.ref l) s₁ := by
  unfold CompGoR
  have hls : s₁.heap.IsList l vs.toArray := ⟨_, (N _ hl).1, rfl, nl, rfl⟩
  refine wpAny_pyIter_list hls ?_
  have up : ∀ b o, s₁.heap.get? b = some o → (s₁.heap.push { cls := .type "list_iterator", data := .fields #[.ref l, .int 0 0] }).get? b = some o := fun b o e => Heap.get?_push_of_some _ e
  have hlt : ∀ p ∈ nx₀, p.1 < s₁.heap.objs.size := fun p hp => Heap.lt_size (N p hp).1
  have hIf : s₁.heap.objs.size ∉ hf := fun h => by obtain ⟨o, ho⟩ := hhf _ h; exact Nat.lt_irrefl _ (hlt _ ho)
  obtain ⟨cst, hc1, hc2⟩ := own_of s₁.heap hf fun b hb => by obtain ⟨o, ho⟩ := hhf b hb; exact ⟨o, (N _ ho).1⟩
  have W := walksList (prog := prog) (w := w) (A := A) s₁.heap.objs.size l (Nat.ne_of_lt (hlt _ hl)) vs.toArray hf hIf
  have hlen : vs.toArray.size = vs.length := by simp
  rw [hlen] at W
  have W' : Walks prog w A s₁.heap.objs.size (s₁.heap.objs.size :: l :: hf) [s₁.heap.objs.size] vs.length (fun i v => vs[i]? = some v) (fun i h => h.IsListIter s₁.heap.objs.size l i ∧ h.IsList l vs.toArray ∧ HFp A hf h) := by simpa using W
  refine comp_block1R W' ⟨⟨_, Heap.get?_push_size _ rfl, rfl, rfl⟩, hls.at fun o e => up _ o e, hH.keep fun b _ o e => up b o e⟩ (F.keeps up) (fun p hp => ⟨up _ _ (N p hp).1, (N p hp).2⟩) ?_ ((l, listOf vs.toArray nl) :: cst) ?_ ?_ ?_ hkind hcell hx T hz hG hdone
  · intro b hb
    rw [List.mem_singleton.mp hb]
    exact ⟨by show s₁.heap.objs.size < (s₁.heap.push _).objs.size; rw [Heap.size_push]; exact Nat.lt_succ_self _, next_is_new F, Nat.ne_of_gt F.ns.lt, fun p hp => Nat.ne_of_lt (hlt p hp)⟩
  · intro b hb
    rcases List.mem_cons.mp hb with rfl | hb
    · exact .inl (.head _)
    · rcases List.mem_cons.mp hb with rfl | hb
      · exact .inr ⟨_, .head _⟩
      · obtain ⟨o, ho⟩ := hc2 b hb
        exact .inr ⟨o, .tail _ ho⟩
  · intro p hp
    rcases List.mem_cons.mp hp with rfl | hp
    · exact hl
    · obtain ⟨e1, e2⟩ := hc1 p hp
      obtain ⟨o, ho⟩ := hhf _ e2
      have e3 := (N _ ho).1
      rw [e1] at e3
      have : p = (p.1, o) := Prod.ext rfl (Option.some.inj e3)
      rw [this]; exact ho
  · rintro i h ⟨⟨o, hi, _⟩, _⟩ b hb
    rw [List.mem_singleton.mp hb]
    exact ⟨_, hi⟩
theorem comp_range {s₁ : Shared} {r : Addr} {a₀ b₀ : Int} {t u v : Tok} {hf : List Addr} (hr : IsRange s₁.heap r a₀ b₀ 1 t u v) (hsmall : Builtin.Range.small a₀ b₀ 1 = true) (hsz : Builtin.Range.rangeSize a₀ b₀ 1 = (n : Int)) (hH : HFp A hf s₁.heap)
    (F : Fr h₀ L s₁.heap m) (N : News h₀ L s₁.heap nx₀) (hhf : ∀ b ∈ hf, ∃ o, (b, o) ∈ nx₀) (hkind : scope.kind = .function) (hcell : ∀ y ∈ scope.names, y.2 ≠ .cell) (hx : scope.names.lookup x = some .local)
    (T : ItemTurn prog w A s₁ h₀ L m n env scope cl elt (fun i mC => ∃ v, (i < n ∧ ∃ t, v = .int (a₀ + i) t) ∧ mC x = some v) G) (hz : n ≤ sizeLine) (hG : G 0 [] nx₀) (hdone : ItemsDone s₁ h₀ L m nx₀ n G Q) :
    CompGo prog w A E env scope cl (.ListComp elt [⟨.Name x px, iter, [], 0⟩] scope pos) Q (.ref r) s₁ :=
  comp_rangeR (Rr := fun acc C => compPost (model prog w) A E none Q acc C) hr hsmall hsz hH F N hhf hkind hcell hx T hz hG hdone.toR
theorem comp_list {s₁ : Shared} {l : Addr} {vs : List Value} {nl : Nat} {hf : List Addr} (hl : (l, listOf vs.toArray nl) ∈ nx₀) (hH : HFp A hf s₁.heap)
    (F : Fr h₀ L s₁.heap m) (N : News h₀ L s₁.heap nx₀) (hhf : ∀ b ∈ hf, ∃ o, (b, o) ∈ nx₀) (hkind : scope.kind = .function) (hcell : ∀ y ∈ scope.names, y.2 ≠ .cell) (hx : scope.names.lookup x = some .local)
    (T : ItemTurn prog w A s₁ h₀ L m vs.length env scope cl elt (fun i mC => ∃ v, vs[i]? = some v ∧ mC x = some v) G) (hz : vs.length ≤ sizeLine) (hG : G 0 [] nx₀) (hdone : ItemsDone s₁ h₀ L m nx₀ vs.length G Q) :
    CompGo prog w A E env scope cl (.ListComp elt [⟨.Name x px, iter, [], 0⟩] scope pos) Q (.ref l) s₁ :=
  comp_listR (Rr := fun acc C => compPost (model prog w) A E none Q acc C) hl hH F N hhf hkind hcell hx T hz hG hdone.toR

/-- a comprehension that is at once given a name -/
theorem comp_assign {elt iter : Expr} {x : Expr} {ifs : List Expr} {gs : List Comprehension} {scope : Scope} {cl : List (Str × Addr)} {pos spos py : Pos} {y : Str} {env : Env} {Q : Flow → Shared → Prop} {E : Value → Shared → Prop} {s : Shared}
    (hsw : swapsWith (.ListComp elt (⟨x, iter, ifs, 0⟩ :: gs) scope pos) (some (.Name y py)) spos.line env = pure true)
    (hclos : closureFor scope env = pure cl) (hkind : scope.kind = .function) (hnames : ∀ y ∈ scope.names, y.2 = .local → scope.names.lookup y.1 = some .local)
    (h : wpAny (model prog w) A (eval iter env) (fun xv s₁ => CompGoR prog w A E env scope cl (.ListComp elt (⟨x, iter, ifs, 0⟩ :: gs) scope pos) (compPost (model prog w) A E (some (assign (.Name y py) env)) (fun _ s' => Q .next s')) xv s₁) E s)
    (hs : ∀ x, foldedSetIterable iter env x = pure x := by intro _; rfl) :
    wpAny (model prog w) A (exec (.Assign [.Name y py] (.ListComp elt (⟨x, iter, ifs, 0⟩ :: gs) scope pos) spos) env) Q E s := by
  rw [exec_Assign_Name_used _ _ _ _ hsw]
  refine wpAny_bind (wpAny_standAt (wpAny_bind ?_))
  show wpAny _ A (do let _ ← comprehension (.ListComp elt (⟨x, iter, ifs, 0⟩ :: gs) scope pos) scope env _ (newList []) false (eval iter env) (some (assign (.Name y py) env))) _ _ s
  exact wpAny_bind (wpAny_mono (wpAny_comprehension_free (use := some (assign (.Name y py) env)) (Q := fun _ s' => Q .next s') rfl hs hclos hkind hnames h) (fun _ s' hq => wpAny_pure (wpAny_pure hq)) fun _ _ e => e)
/-- what the name's giving asks -/
theorem ItemsDoneR.assign {s₁ : Shared} {y : Str} {py : Pos} {env : Env} {Q : Value → Shared → Prop} {m : Str → Option Value} (hL : env.locals = L) (hy : env.kindOf y = some .local)
    (hp : (env.scope.kind == .class || (env.scope.kind == .module && env.locals != env.globals)) = false)
    (hd : ∀ D h tk ys tl nD, ys.length = n → Fr h₀ L h (fun z => if z = y then some (.ref D) else m z) → News h₀ L h ((D, listOf ys.toArray nD) :: (tl ++ nx₀)) → Abv nx₀ ((D, listOf ys.toArray nD) :: tl) → (∀ p ∈ tl, p.1 ≠ D) → G n ys (tl ++ nx₀) → Q .none { s₁ with heap := h, toks := tk }) :
    ItemsDoneR s₁ h₀ L m nx₀ n G (compPost (model prog w) A E (some (assign (.Name y py) env)) Q) := by
  subst hL
  intro D C h tk ys tl nD mC hlen F' N' hab hD' hG' hn hCL hC0 hC
  show wpAny _ A (PySem.assign (.Name y py) env (.ref D)) _ _ _
  refine wpAny_assign_Name (wpAny_storeName_local hy F'.ns (fun h₂ hn₂ hs₂ => ?_) hp)
  have hL₀ : h₀.get? env.locals = none := Heap.get?_none_of_le F'.above
  have F₂ : Fr h₀ env.locals h₂ (fun z => if z = y then some (.ref D) else m z) := ⟨hn₂, fun b o e => hs₂.extBut b o (fun q => by rw [q, hL₀] at e; cases e) (F'.keep b o e), F'.above⟩
  refine ⟨mC, hn.sameBut hs₂ hCL, fun h'' hs'' => hd D h'' _ ys tl nD hlen (F₂.change hs'' hCL hC0) (fun p hp => ?_) hab hD' hG'⟩
  have z : h₂.get? p.1 = some p.2 := hs₂.extBut _ _ (N' p hp).2.1 (N' p hp).1
  exact ⟨hs''.extBut _ _ (hC p hp) z, (N' p hp).2⟩
end
/-! Inf6 -/
section
variable {prog : Program} {w : World} {A : Around} {E : Value → Shared → Prop}
variable {h₀ : Heap} {L : Addr} {m : Str → Option Value} {nx₀ : Led} {n0 n1 : Nat} {env : Env} {scope : Scope} {cl : List (Str × Addr)} {elt i0 i1 : Expr} {x0 x1 : Str} {p0 p1 pos : Pos} {G : Nat → List Value → Led → Prop} {Q : Value → Shared → Prop}

/-- how a second clause's iterable ends -/
def IterEnd (s₁ : Shared) (h₀ : Heap) (L : Addr) (m : Str → Option Value) (led : Led) (n1 : Nat) (xv : Value) (s' : Shared) : Prop :=
  ∃ r h' tk' t u v, xv = .ref r ∧ s' = { s₁ with heap := h', toks := tk' } ∧ Fr h₀ L h' m ∧ News h₀ L h' led ∧ IsRange h' r 0 (n1 : Int) 1 t u v
def InnerIter (prog : Program) (w : World) (A : Around) (s₁ : Shared) (h₀ : Heap) (L : Addr) (m : Str → Option Value) (nx₀ : Led) (n1 : Nat) (env : Env) (scope : Scope) (cl : List (Str × Addr)) (i1 : Expr) : Prop :=
  ∀ h tk led mC C oC, (∀ p ∈ nx₀, p ∈ led) → (C, oC) ∈ led → Fr h₀ L h m → News h₀ L h led → h.Ns C mC → ∀ E',
    wpAny (model prog w) A (eval i1 (compEnvC scope cl C env)) (IterEnd s₁ h₀ L m led n1) E' { s₁ with heap := h, toks := tk }

abbrev PairAt (x0 x1 : Str) (n0 n1 : Nat) (k : Nat) (mC : Str → Option Value) : Prop := ∃ i j t t', i < n0 ∧ j < n1 ∧ k = i * n1 + j ∧ mC x0 = some (.int (i : Int) t) ∧ mC x1 = some (.int (j : Int) t')

theorem inner_loop {s₁ : Shared} {C D : Addr} {hf : List Addr} (T : ItemTurn prog w A s₁ h₀ L m (n0 * n1) env scope cl elt (PairAt x0 x1 n0 n1) G) (hCL : C ≠ L) (hC0 : h₀.get? C = none) (hz : n0 * n1 ≤ sizeLine) (hne : x0 ≠ x1)
    (hkind : scope.kind = .function) (hx1 : scope.names.lookup x1 = some .local) (hhf : ∀ b ∈ hf, ∃ o, (b, o) ∈ nx₀) {i : Nat} (hi : i < n0) {I1 : Addr} {h : Heap} {tk : Nat} {own nx : Led} {mC : Str → Option Value} {R : Result → Shared → Prop} {t : Tok}
    (hit : IsRangeIter h I1 0 (n1 : Int) 1) (hI1 : ∀ p ∈ nx ++ own, p.1 ≠ I1) (hI1L : L ≠ I1) (hI10 : h₀.get? I1 = none) (hI1C : C ≠ I1) (hH : HFp A hf h)
    (hJ : JItem nx₀ D G (i * n1) nx) (F : Fr h₀ L h m) (N : News h₀ L h (nx ++ own)) (hn : h.Ns C mC) (hmC : mC x0 = some (.int (i : Int) t)) (hoff : OwnOff own (nx.map (·.1))) (hC : ∀ p ∈ nx ++ own, p.1 ≠ C)
    (hR : ∀ s', KEnd h₀ L m C own (JItem nx₀ D G ((i + 1) * n1)) (fun _ => True) { s₁ with heap := h, toks := tk } s' → R (.ok .next) s') :
    codeAny (model prog w) A (.compLoop (.ListComp elt [⟨.Name x0 p0, i0, [], 0⟩, ⟨.Name x1 p1, i1, [], 0⟩] scope pos) 1 (.ref I1) (.ref D) (compEnvC scope cl C env)) R { s₁ with heap := h, toks := tk } := by
  have hIf : I1 ∉ hf := fun hb => by
    obtain ⟨o, ho⟩ := hhf _ hb
    obtain ⟨_, _, _, rfl, _⟩ := hJ
    exact hI1 _ (List.mem_append.mpr (.inl (.tail _ (List.mem_append.mpr (.inr ho))))) rfl
  obtain ⟨cst, hc1, hc2⟩ := own_of h hf fun b hb => by
    obtain ⟨o, ho⟩ := hhf b hb
    obtain ⟨_, _, _, rfl, _⟩ := hJ
    exact ⟨o, (N _ (List.mem_append.mpr (.inl (.tail _ (List.mem_append.mpr (.inr ho)))))).1⟩
  have hcst : ∀ p ∈ cst, p ∈ nx₀ := fun p hp => by
    obtain ⟨e1, e2⟩ := hc1 p hp
    obtain ⟨o, ho⟩ := hhf _ e2
    obtain ⟨_, _, _, rfl, _⟩ := hJ
    have e3 := (N _ (List.mem_append.mpr (.inl (.tail _ (List.mem_append.mpr (.inr ho)))))).1
    rw [e1] at e3
    have : p = (p.1, o) := Prod.ext rfl (Option.some.inj e3)
    rw [this]; exact ho
  refine kloop (s := { s₁ with heap := h, toks := tk }) (h₀ := h₀) (L := L) (m := m) (walksRange I1 0 n1 hf hIf) (cenv := compEnvC scope cl C env) (x := x1) (px := p1) (C := C) rfl (lookup_relabel_local hx1) (by simp [compEnvC, relabel, hkind]) cst
    (fun j nx' => ∃ nxx, nx' = nxx ++ own ∧ OwnOff own (nxx.map (·.1)) ∧ JItem nx₀ D G (i * n1 + j) nxx) ?_ ?_ ?_ ?_ ?_ ?_ hCL hC0 (BItem.mono (elt := elt) (acc := .ref D) (env := compEnvC scope cl C env)) loopTwo1 (fun mC => ∃ t, mC x0 = some (.int (i : Int) t)) ?_ ?_
    (nx := nx ++ own) ⟨by simpa using hit, hH⟩ F N hn hC ?_ ⟨nx, rfl, hoff, hJ⟩ ⟨t, hmC⟩
  · intro b hb
    rcases List.mem_cons.mp hb with rfl | hb
    · exact .inl (.head _)
    · exact .inr (hc2 b hb)
  · rintro j nx' ⟨nxx, rfl, _, ys, nD, tl, rfl, _⟩ p hp
    exact List.mem_append.mpr (.inl (.tail _ (List.mem_append.mpr (.inr (hcst p hp)))))
  · rintro j h ⟨hi, _⟩ b hb
    rw [List.mem_singleton.mp hb]
    exact ⟨_, hi⟩
  · exact fun hb => hI1L (List.mem_singleton.mp hb)
  · intro b hb
    rw [List.mem_singleton.mp hb]; exact hI10
  · exact fun hb => hI1C (List.mem_singleton.mp hb)
  · rintro j v h' tk' own1 nx' mC' hj ⟨_, t', rfl⟩ ⟨nxx, rfl, hoff', hJ'⟩ F' N' ⟨t0, hM⟩ hn' hoff1 hC' E'
    have e0 : (0 : Int) + (j : Nat) = (j : Nat) := by omega
    rw [e0] at hn'
    have hk : i * n1 + j < n0 * n1 := by
      have : (i + 1) * n1 ≤ n0 * n1 := Nat.mul_le_mul_right _ hi
      rw [Nat.add_mul, Nat.one_mul] at this
      omega
    have hoff2 : OwnOff (own ++ own1) (nxx.map (·.1)) := fun p hp b hb => (List.mem_append.mp hp).elim (fun hp => hoff' p hp b hb) fun hp => hoff1 p hp b (by rw [List.map_append]; exact List.mem_append.mpr (.inl hb))
    have N2 : News h₀ L h' (nxx ++ (own ++ own1)) := by rw [← List.append_assoc]; exact N'
    have hC2 : ∀ p ∈ nxx ++ (own ++ own1), p.1 ≠ C := by rw [← List.append_assoc]; exact hC'
    have key := item_turn (tk := tk') (Mi := fun mC => ∃ t, mC x0 = some (.int (i : Int) t)) T hCL hC0 hz hk ⟨i, j, t0, t', hi, hj, rfl, (if_neg hne).trans hM, if_pos rfl⟩ hJ' F' N2 hn' hoff2 hC2 ⟨t0, (if_neg hne).trans hM⟩ E'
    refine BItem.mono _ _ _ _ (fun s' q => ?_) key
    obtain ⟨h2, tk2, nx2, mC2, e, F2, N2, hoff2, hn2, hC2, hJ2, hM2⟩ := q
    refine ⟨h2, tk2, nx2 ++ own, mC2, e, F2, by rw [List.append_assoc]; exact N2, ?_, hn2, ?_, ⟨nx2, rfl, fun p hp => hoff2 p (List.mem_append.mpr (.inl hp)), hJ2⟩, hM2⟩
    · intro p hp b hb
      rw [List.map_append] at hb
      rcases List.mem_append.mp hb with hb | hb
      · exact hoff2 p (List.mem_append.mpr (.inr hp)) b hb
      · exact hoff1 p hp b (by rw [List.map_append]; exact List.mem_append.mpr (.inr hb))
    · intro p hp
      rcases List.mem_append.mp hp with hp | hp
      · exact hC2 p hp
      · exact hC' p (List.mem_append.mpr (.inl (List.mem_append.mpr (.inr hp))))
  · rintro h' tk' nx' mC' ⟨nxx, rfl, hoff', hJ'⟩ F' N' hn' _ hC'
    refine hR _ ⟨h', tk', nxx, mC', rfl, F', N', hoff', hn', fun p hp => hC' p (List.mem_append.mpr (.inl hp)), ?_, trivial⟩
    have : (i + 1) * n1 = i * n1 + n1 := by rw [Nat.add_mul, Nat.one_mul]
    rw [this]; exact hJ'
  · intro p hp hb
    exact hI1 p hp (List.mem_singleton.mp hb)

theorem comp_range2 {s₁ : Shared} {r : Addr} {t u v : Tok} {hf : List Addr} (hr : IsRange s₁.heap r 0 (n0 : Int) 1 t u v) (hsm0 : Builtin.Range.small 0 (n0 : Int) 1 = true) (hsz0 : Builtin.Range.rangeSize 0 (n0 : Int) 1 = (n0 : Int))
    (hsm1 : Builtin.Range.small 0 (n1 : Int) 1 = true) (hsz1 : Builtin.Range.rangeSize 0 (n1 : Int) 1 = (n1 : Int)) (hH : HFp A hf s₁.heap)
    (F : Fr h₀ L s₁.heap m) (N : News h₀ L s₁.heap nx₀) (hhf : ∀ b ∈ hf, ∃ o, (b, o) ∈ nx₀) (hkind : scope.kind = .function) (hcell : ∀ y ∈ scope.names, y.2 ≠ .cell) (hx0 : scope.names.lookup x0 = some .local) (hx1 : scope.names.lookup x1 = some .local) (hne : x0 ≠ x1)
    (hs1 : ∀ C y, foldedSetIterable i1 (compEnvC scope cl C env) y = pure y) (V : InnerIter prog w A s₁ h₀ L m nx₀ n1 env scope cl i1)
    (T : ItemTurn prog w A s₁ h₀ L m (n0 * n1) env scope cl elt (PairAt x0 x1 n0 n1) G) (hz : n0 * n1 ≤ sizeLine) (hG : G 0 [] nx₀) (hdone : ItemsDone s₁ h₀ L m nx₀ (n0 * n1) G Q) :
    CompGo prog w A E env scope cl (.ListComp elt [⟨.Name x0 p0, i0, [], 0⟩, ⟨.Name x1 p1, i1, [], 0⟩] scope pos) Q (.ref r) s₁ := by
  unfold CompGo
  refine wpAny_pyIter_range hr hsm0 ?_
  rw [hsz0]
  have hlt₁ : ∀ p ∈ nx₀, p.1 < s₁.heap.objs.size := fun p hp => Heap.lt_size (N p hp).1
  have hIf : s₁.heap.objs.size ∉ hf := fun h => by obtain ⟨o, ho⟩ := hhf _ h; exact Nat.lt_irrefl _ (hlt₁ _ ho)
  obtain ⟨cst, hc1, hc2⟩ := own_of s₁.heap hf fun b hb => by obtain ⟨o, ho⟩ := hhf b hb; exact ⟨o, (N _ ho).1⟩
  have hI0 : h₀.get? s₁.heap.objs.size = none := next_is_new F
  generalize hS : ({ s₁ with heap := s₁.heap.push { cls := .type "range_iterator", data := .fields #[rawInt 0, rawInt (n0 : Int), rawInt 1] } } : Shared) = s₂
  have up₂ : ∀ b o, s₁.heap.get? b = some o → s₂.heap.get? b = some o := fun b o e => by rw [← hS]; exact Heap.get?_push_of_some _ e
  have hIi : IsRangeIter s₂.heap s₁.heap.objs.size 0 (n0 : Int) 1 := by rw [← hS]; exact Heap.get?_push_size _ rfl
  have F₂ : Fr h₀ L s₂.heap m := F.keeps up₂
  have N₂ : News h₀ L s₂.heap nx₀ := fun p hp => ⟨up₂ _ _ (N p hp).1, (N p hp).2⟩
  have hs₂ : s₂.heap.objs.size = s₁.heap.objs.size + 1 := by rw [← hS]; exact Heap.size_push ..
  refine wpAny_newObj_type (wpAny_newFunctionEnv hcell (by intro y hy; simp at hy) (fun h₁ hns₁ hsb₁ => ?_) hkind)
  dsimp only at hns₁ hsb₁ ⊢
  have h0D : h₀.get? s₂.heap.objs.size = none := next_is_new F₂
  generalize hH2 : s₂.heap.push { cls := .type "list", dict := none, data := .seq ([] : List Value).toArray } = H2 at hns₁ hsb₁ ⊢
  have hCs : H2.objs.size = s₂.heap.objs.size + 1 := by rw [← hH2, Heap.size_push]
  have up : ∀ b o, s₂.heap.get? b = some o → h₁.get? b = some o := fun b o e =>
    hsb₁.extBut b o (by rw [hCs]; exact Nat.ne_of_lt (Nat.lt_succ_of_lt (Heap.lt_size e))) (Heap.get?_push_of_some _ (by rw [← hH2]; exact Heap.get?_push_of_some _ e))
  have hDC : s₂.heap.objs.size ≠ H2.objs.size := by rw [hCs]; exact Nat.ne_of_lt (Nat.lt_succ_self _)
  have hDo : h₁.get? s₂.heap.objs.size = some (listOf ([] : List Value).toArray 0) :=
    hsb₁.extBut _ _ hDC (Heap.get?_push_of_some _ (by rw [← hH2]; exact Heap.get?_push_size _ rfl))
  have F₁ : Fr h₀ L h₁ m := F₂.keeps up
  have hLs : L < s₂.heap.objs.size := F₂.ns.lt
  have hDL : s₂.heap.objs.size ≠ L := Nat.ne_of_gt hLs
  have hCL : H2.objs.size ≠ L := by rw [hCs]; exact Nat.ne_of_gt (Nat.lt_succ_of_lt hLs)
  have hC0 : h₀.get? H2.objs.size = none := by
    cases e : h₀.get? H2.objs.size with
    | none => rfl
    | some o => exact absurd (Heap.lt_size (F₂.keep _ _ e)) (by rw [hCs]; exact Nat.not_lt.mpr (Nat.le_succ _))
  have N₁ : News h₀ L h₁ ((s₂.heap.objs.size, listOf ([] : List Value).toArray 0) :: ([] ++ nx₀)) := fun p hp => by
    rcases List.mem_cons.mp hp with rfl | hp
    · exact ⟨hDo, hDL, h0D⟩
    · exact ⟨up _ _ (N₂ p hp).1, (N₂ p hp).2⟩
  have hlt : ∀ p ∈ nx₀, p.1 < s₂.heap.objs.size := fun p hp => Heap.lt_size (N₂ p hp).1
  have eqS : ∀ (h : Heap) (tk : Nat), ({ s₂ with heap := h, toks := tk } : Shared) = { s₁ with heap := h, toks := tk } := fun h tk => by rw [← hS]
  refine compStart_at (s := _) ⟨elt, _, scope, pos, rfl, rfl⟩ ?_ (wpAny_pyIter_rangeiter (up _ _ hIi) ⟨rfl, rfl⟩)
  refine kloop (h₀ := h₀) (L := L) (m := m) (walksRange s₁.heap.objs.size 0 n0 hf hIf) (cenv := compEnvC scope cl H2.objs.size env) (x := x0) (px := p0) (C := H2.objs.size) rfl (lookup_relabel_local hx0) (by simp [compEnvC, relabel, hkind]) cst (fun i => JItem nx₀ s₂.heap.objs.size G (i * n1))
    ?_ ?_ ?_ ?_ ?_ ?_ hCL hC0 (BNext.mono (e := .ListComp elt [⟨.Name x0 p0, i0, [], 0⟩, ⟨.Name x1 p1, i1, [], 0⟩] scope pos) (i1 := i1) (acc := .ref s₂.heap.objs.size) (env := compEnvC scope cl H2.objs.size env)) loopTwo0 (fun _ => True) ?_ ?_
    (nx := (s₂.heap.objs.size, listOf ([] : List Value).toArray 0) :: ([] ++ nx₀)) ⟨by simpa using up _ _ hIi, hH.keep fun b _ o e => up _ _ (up₂ _ _ e)⟩ F₁ N₁ hns₁ ?_ ?_ ?_ trivial
  · intro b hb
    rcases List.mem_cons.mp hb with rfl | hb
    · exact .inl (.head _)
    · exact .inr (hc2 b hb)
  · rintro i nx ⟨ys, nD, tl, rfl, _⟩ p hp
    obtain ⟨e1, e2⟩ := hc1 p hp
    obtain ⟨o, ho⟩ := hhf _ e2
    have e3 := (N _ ho).1
    rw [e1] at e3
    have : p = (p.1, o) := Prod.ext rfl (Option.some.inj e3)
    rw [this]
    exact .tail _ (List.mem_append.mpr (.inr ho))
  · rintro i h ⟨hi, _⟩ b hb
    rw [List.mem_singleton.mp hb]
    exact ⟨_, hi⟩
  · exact fun hb => Nat.ne_of_lt F.ns.lt (List.mem_singleton.mp hb)
  · intro b hb
    rw [List.mem_singleton.mp hb]; exact hI0
  · intro hb
    have := List.mem_singleton.mp hb
    rw [hCs, hs₂] at this
    exact Nat.ne_of_gt (Nat.lt_succ_of_lt (Nat.lt_succ_self _)) this
  · rintro i v h tk own nx mC hi ⟨_, t', rfl⟩ hJ F' N' _ hn hoff hC E'
    have e0 : (0 : Int) + (i : Nat) = (i : Nat) := by omega
    rw [e0] at hn
    obtain ⟨oC, es, ep, hoC, hrest⟩ := id hn
    have N₃ : News h₀ L h ((H2.objs.size, oC) :: (nx ++ own)) := fun p hp => by
      rcases List.mem_cons.mp hp with rfl | hp
      · exact ⟨hoC, hCL, hC0⟩
      · exact N' p hp
    have hsub : ∀ p ∈ nx₀, p ∈ nx := fun p hp => by
      obtain ⟨ys, nD, tl, rfl, _⟩ := hJ
      exact .tail _ (List.mem_append.mpr (.inr hp))
    have key := V h tk ((H2.objs.size, oC) :: (nx ++ own)) _ H2.objs.size oC (fun p hp => .tail _ (List.mem_append.mpr (.inl (hsub p hp)))) (.head _) F' N₃ hn E'
    unfold BNext
    show wpAny (model prog w) A (eval i1 (compEnvC scope cl H2.objs.size env)) _ E' { s₂ with heap := h, toks := tk }
    rw [eqS]
    refine wpAny_mono key (fun xv s' q => ?_) fun _ _ e => e
    obtain ⟨r1, h', tk', t1, u1, v1, rfl, rfl, F4, N4, hr1⟩ := q
    refine wpAny_of_eq (hs1 _ _) ?_
    refine wpAny_pyIter_range hr1 hsm1 ?_
    rw [hsz1]
    have up4 : ∀ b o, h'.get? b = some o → (h'.push { cls := .type "range_iterator", data := .fields #[rawInt 0, rawInt (n1 : Int), rawInt 1] }).get? b = some o := fun b o e => Heap.get?_push_of_some _ e
    have hIt : IsRangeIter (h'.push { cls := .type "range_iterator", data := .fields #[rawInt 0, rawInt (n1 : Int), rawInt 1] }) h'.objs.size 0 (n1 : Int) 1 := Heap.get?_push_size _ rfl
    have hlt4 : ∀ p ∈ (H2.objs.size, oC) :: (nx ++ own), p.1 < h'.objs.size := fun p hp => Heap.lt_size (N4 p hp).1
    refine compStart_at (s := _) ⟨elt, _, scope, pos, rfl, rfl⟩ ?_ (wpAny_pyIter_rangeiter hIt ⟨rfl, rfl⟩)
    refine inner_loop (hf := hf) T hCL hC0 hz hne hkind hx1 hhf hi (I1 := h'.objs.size) (mC := fun y => if y = x0 then some (.int (i : Int) t') else mC y) (t := t') hIt (fun p hp => Nat.ne_of_lt (hlt4 p (.tail _ hp))) (Nat.ne_of_lt F4.ns.lt) (next_is_new F4) (Nat.ne_of_lt (hlt4 _ (.head _)))
      (hH.keep fun b hb o e => ?_) hJ (F4.keeps up4) (fun p hp => ⟨up4 _ _ (N4 p (.tail _ hp)).1, (N4 p (.tail _ hp)).2⟩) ⟨oC, es, ep, up4 _ _ (N4 _ (.head _)).1, hrest⟩ (if_pos rfl) hoff hC ?_
    · obtain ⟨o', ho'⟩ := hhf b hb
      have e1 := (N _ ho').1
      rw [e] at e1
      rw [Option.some.inj e1]
      exact up4 _ _ (N4 _ (.tail _ (List.mem_append.mpr (.inl (hsub _ ho'))))).1
    · intro s' q
      obtain ⟨h2, tk2, nx2, mC2, rfl, rest⟩ := q
      exact ⟨h2, tk2, nx2, mC2, rfl, rest⟩
  · rintro h tk nx mC ⟨ys, nD, tl, rfl, hlen, hab, hD', hG'⟩ F' N' hn _ hC
    refine ⟨mC, hn, fun h' hs' => ?_⟩
    have := hdone _ h' tk ys tl nD hlen ⟨F'.ns.at' fun o e => hs'.extBut _ _ (Ne.symm hCL) e, fun b o e => hs'.extBut b o (fun q => by have e' : h₀.get? H2.objs.size = some o := (congrArg h₀.get? q).symm.trans e; rw [hC0] at e'; cases e') (F'.keep b o e), F'.above⟩
      (fun p hp => ⟨hs'.extBut _ _ (hC p hp) (N' p hp).1, (N' p hp).2⟩) ?_ (fun p hp => hD' p (List.mem_append.mpr (.inl hp))) hG'
    · rw [← eqS] at this; exact this
    intro q hq p hp
    rcases List.mem_cons.mp hp with rfl | hp
    · exact hlt q hq
    · exact hab q hq p hp
  · intro p hp
    rcases List.mem_cons.mp hp with rfl | hp
    · exact hDC
    · rw [hCs]; exact Nat.ne_of_lt (Nat.lt_succ_of_lt (hlt p hp))
  · intro p hp q
    have q' := List.mem_singleton.mp q
    rcases List.mem_cons.mp hp with rfl | hp
    · rw [show s₂.heap.objs.size = s₁.heap.objs.size + 1 from hs₂] at q'
      exact Nat.ne_of_gt (Nat.lt_succ_self _) q'
    · exact Nat.ne_of_lt (hlt₁ p hp) q'
  · refine ⟨[], 0, [], rfl, by simp, Abv.nil, fun p hp => Nat.ne_of_lt (hlt p hp), ?_⟩
    rw [Nat.zero_mul]; exact hG
end
/-! Inf7 -/
section
variable {prog : Program} {w : World} {A : Around} {s : Shared} {env : Env} {h₀ : Heap}

def ForGo (prog : Program) (w : World) (A : Around) (h₀ : Heap) (env : Env) (x : Str) (body : List Stmt) (Q : Flow → Shared → Prop) (xv : Value) (s₁ : Shared) : Prop :=
  wpAny (model prog w) A (pyIter xv) (fun it s₂ => LoopAtV prog w A h₀ env x body Q (fun _ _ => False) it s₂) (fun _ _ => False) s₁

theorem for_start {E : Value → Shared → Prop} {Q : Flow → Shared → Prop} {x : Str} {px pos : Pos} {iter : Expr} {body : List Stmt} (h₀ : Heap) (hx : env.kindOf x = some .local)
    (hp : (env.scope.kind == .class || (env.scope.kind == .module && env.locals != env.globals)) = false)
    (h : wpAny (model prog w) A (eval iter env) (fun xv s₁ => ForGo prog w A h₀ env x body Q xv s₁) (fun _ _ => False) s)
    (hs : ∀ x, foldedSetIterable iter env x = pure x := by intro _; rfl) :
    wpAny (model prog w) A (exec (.For (.Name x px) iter body [] pos) env) Q E s :=
  wpAny_mono (For_invV (E := fun _ _ => False) h₀ hx hp h hs) (fun _ _ q => q) fun _ _ f => f.elim

theorem for_startF {E : Value → Shared → Prop} {Q : Flow → Shared → Prop} {x : Str} {px pos : Pos} {iter : Expr} {body : List Stmt} {h₀ h : Heap} {m : Str → Option Value} (_F : Fr h₀ env.locals h m) (hx : env.kindOf x = some .local)
    (hp : (env.scope.kind == .class || (env.scope.kind == .module && env.locals != env.globals)) = false)
    (h : wpAny (model prog w) A (eval iter env) (fun xv s₁ => ForGo prog w A h₀ env x body Q xv s₁) (fun _ _ => False) s)
    (hs : ∀ x, foldedSetIterable iter env x = pure x := by intro _; rfl) :
    wpAny (model prog w) A (exec (.For (.Name x px) iter body [] pos) env) Q E s := for_start h₀ hx hp h hs
/-- how a turn ends -/
def TurnEnd (h₀ : Heap) (L : Addr) (own : Led) (I : Addr) (J : (Str → Option Value) → Led → Prop) (s₁ : Shared) (f : Flow) (s' : Shared) : Prop :=
  f = .next ∧ ∃ h' tk' m' nx', s' = { s₁ with heap := h', toks := tk' } ∧ Fr h₀ L h' m' ∧ News h₀ L h' (nx' ++ own) ∧ (∀ p ∈ nx', p.1 ≠ I) ∧ J m' nx'

theorem for_range {s₁ : Shared} {r : Addr} {a₀ b₀ : Int} {t u v : Tok} {n : Nat} {hf : List Addr} {m₀ : Str → Option Value} {nx₀ : Led} {x : Str} {body : List Stmt} {Q : Flow → Shared → Prop}
    (hr : IsRange s₁.heap r a₀ b₀ 1 t u v) (hsmall : Builtin.Range.small a₀ b₀ 1 = true) (hsz : Builtin.Range.rangeSize a₀ b₀ 1 = (n : Int)) (hH : HFp A hf s₁.heap)
    (F : Fr h₀ env.locals s₁.heap m₀) (N : News h₀ env.locals s₁.heap nx₀) (hhf : ∀ b ∈ hf, ∃ o, (b, o) ∈ nx₀) (J : Nat → (Str → Option Value) → Led → Prop) (hJ : J 0 m₀ nx₀)
    (turn : ∀ i t h tk own nx m₁ I oI, i < n → J i m₁ nx → (I, oI) ∈ own → (∀ q ∈ own, q.1 = I ∨ q.1 ∈ hf) → (∀ p ∈ nx, p.1 ≠ I) → Fr h₀ env.locals h (fun y => if y = x then some (.int (a₀ + (i : Nat)) t) else m₁ y) → News h₀ env.locals h (nx ++ own) →
      wpAny (model prog w) A (execs body env) (TurnEnd h₀ env.locals own I (J (i + 1)) { s₁ with heap := h, toks := tk }) (fun _ _ => False) { s₁ with heap := h, toks := tk })
    (done : ∀ h tk m₁ nx, J n m₁ nx → Fr h₀ env.locals h m₁ → News h₀ env.locals h nx → Q .next { s₁ with heap := h, toks := tk }) :
    ForGo prog w A h₀ env x body Q (.ref r) s₁ := by
  unfold ForGo
  refine wpAny_pyIter_range hr hsmall ?_
  rw [hsz]
  have up : ∀ b o, s₁.heap.get? b = some o → (s₁.heap.push { cls := .type "range_iterator", data := .fields #[rawInt a₀, rawInt (n : Int), rawInt 1] }).get? b = some o := fun b o e => Heap.get?_push_of_some _ e
  have hlt : ∀ p ∈ nx₀, p.1 < s₁.heap.objs.size := fun p hp => Heap.lt_size (N p hp).1
  have hIf : s₁.heap.objs.size ∉ hf := fun h => by obtain ⟨o, ho⟩ := hhf _ h; exact Nat.lt_irrefl _ (hlt _ ho)
  refine ⟨s₁.heap.objs.size, s₁.heap.objs.size :: hf, [s₁.heap.objs.size], n, _, _, m₀, nx₀, J, rfl, walksRange s₁.heap.objs.size a₀ n hf hIf, ?_, ?_, ?_, ⟨by simpa using Heap.get?_push_size _ rfl, hH.keep fun b _ o e => up b o e⟩, F.keeps up, (fun p hp => ⟨up _ _ (N p hp).1, (N p hp).2⟩), hJ, ?_, ?_⟩
  · intro hm
    rcases List.mem_cons.mp hm with e | hm
    · exact Nat.ne_of_lt F.ns.lt e
    · obtain ⟨o, ho⟩ := hhf _ hm
      exact (N _ ho).2.1 rfl
  · intro b hb
    rw [List.mem_singleton.mp hb]
    exact next_is_new F
  · intro p hp hb
    exact Nat.ne_of_lt (hlt p hp) (List.mem_singleton.mp hb)
  · rintro i v m₁ nx s₂ own ⟨h, tk, rfl⟩ hi ⟨_, t', rfl⟩ hJ' hnw hown hget hin hst F' N'
    obtain ⟨oI, hoI⟩ : ∃ oI, (s₁.heap.objs.size, oI) ∈ own := ⟨_, hin _ (.head _) (next_is_new F) _ hst.1⟩
    refine wpAny_mono (turn i t' h tk own nx m₁ s₁.heap.objs.size oI hi hJ' hoI (fun q hq => List.mem_cons.mp (hown q hq)) (fun p hp q => hnw p hp (List.mem_singleton.mpr q)) F' fun p hp => N' p ((List.mem_append.mp hp).elim (fun h => List.mem_append.mpr (.inr h)) fun h => List.mem_append.mpr (.inl h))) (fun f s' q => ?_) fun _ _ f => f
    obtain ⟨rfl, h', tk', m', nx', rfl, F2, N2, hI2, hJ2⟩ := q
    exact LoopStepV.next ⟨rfl, h', tk', m', nx', rfl, F2, fun p hp => N2 p ((List.mem_append.mp hp).elim (fun h => List.mem_append.mpr (.inr h)) fun h => List.mem_append.mpr (.inl h)), fun p hp hb => hI2 p hp (List.mem_singleton.mp hb), hJ2⟩
  · intro h' tk' m' nx' F' N' _ hJ'
    exact done h' tk' m' nx' hJ' F' N'
end
/-! Inf8 -/
section
variable {prog : Program} {w : World} {A : Around} {E : Value → Shared → Prop} {s : Shared} {h₀ : Heap} {L l : Addr} {m : Str → Option Value} {news : Led}

theorem max_any {vs : List Value} {ns : List Int} {hf : List Addr} {Q : Value → Shared → Prop} (hH : HFp A hf s.heap) (hhf : ∀ b ∈ hf, ∃ o, (b, o) ∈ news) (F : Fr h₀ L s.heap m) (N : News h₀ L s.heap news)
    (hl : s.heap.IsList l vs.toArray) (hi : IntsAre vs ns) (hne : 0 < ns.length)
    (h : ∀ h' M (t : Tok) tk, Fr h₀ L h' m → News h₀ L h' news → M ∈ ns → (∀ a, a ∈ ns → a ≤ M) → Q (.int M t) { s with heap := h', toks := tk }) :
    wpAny (model prog w) A (call (.builtin "max") [.ref l]) Q E s := by
  obtain ⟨xs, e⟩ := hi.allInts.items
  have hns : ns = xs.toList.map (·.1) := by
    rw [← hi.numsOf, ← nums_intItems, ← e]
  have hsz : 0 < xs.size := by
    have h3 := hne; rw [hns, List.length_map, Array.length_toList] at h3; exact h3
  rw [e] at hl
  have key : ∀ v h' tk, (intItems xs)[argBest (fun i j => decide (numAt xs i > numAt xs j)) (xs.size - 1)]? = some v → (∀ b o, s.heap.get? b = some o → h'.get? b = some o) → Q v { s with heap := h', toks := tk } := fun v h' tk hv hk => by
    obtain ⟨t, rfl⟩ := intItems_at hv
    obtain ⟨h1, h2⟩ := argBest_gt (numAt xs) (xs.size - 1)
    refine h _ _ t tk (F.grownK hk) (N.grown hk) ?_ fun a ha => ?_
    · rw [hns, numAt_eq]; exact getD_mem (by rw [List.length_map, Array.length_toList]; omega)
    · rw [hns] at ha
      obtain ⟨j, hj, rfl⟩ := mem_getD ha
      rw [List.length_map, Array.length_toList] at hj
      rw [← numAt_eq]; exact h2 j (by omega)
  have hlt : ∀ b ∈ hf, b < s.heap.objs.size := fun b hb => by obtain ⟨o, ho⟩ := hhf b hb; exact Heap.lt_size (N _ ho).1
  refine call_max_walk (wpAny_pyIter_list hl ?_)
  have hIf : s.heap.objs.size ∉ hf := fun hb => Nat.lt_irrefl _ (hlt _ hb)
  have hll : l < s.heap.objs.size := by obtain ⟨o, ho, _⟩ := hl; exact Heap.lt_size ho
  have up : ∀ b o, s.heap.get? b = some o → (s.heap.push { cls := .type "list_iterator", data := .fields #[.ref l, .int 0 0] }).get? b = some o := fun b o e => Heap.get?_push_of_some _ e
  refine ⟨_, _, _, _, _, _, _, rfl, walksList (A := A.in1) s.heap.objs.size l (Nat.ne_of_lt hll) (intItems xs) hf hIf, ⟨⟨_, Heap.get?_push_size _ rfl, rfl, rfl⟩, hl.at fun o e => up _ o e, ?_⟩, ?_, by simpa [intItems] using hsz, CmpOf.ints_gt (numAt xs) (fun _ _ => intItems_at), fun v h' tk hP hk => ?_⟩
  · exact HFp.keep (A := A.in1) hH fun b _ o e => up b o e
  · intro b hb
    show b < (s.heap.push _).objs.size
    rw [Heap.size_push]
    rcases List.mem_cons.mp hb with rfl | hb
    · exact Nat.lt_succ_self _
    · rcases List.mem_cons.mp hb with rfl | hb
      · exact Nat.lt_succ_of_lt hll
      · exact Nat.lt_succ_of_lt (hlt b hb)
  · refine key v h' tk (by simpa [intItems] using hP) fun b o e => hk b o (fun hm => ?_) (up b o e)
    have := Heap.lt_size e
    rw [List.mem_singleton.mp hm] at this
    exact Nat.lt_irrefl _ this
end
/-! Inf9 -/
section
variable {prog : Program} {w : World} {A : Around} {s : Shared} {env : Env} {h₀ : Heap}

def ForGoT (prog : Program) (w : World) (A : Around) (h₀ : Heap) (env : Env) (target : Expr) (body : List Stmt) (Q : Flow → Shared → Prop) (xv : Value) (s₁ : Shared) : Prop :=
  wpAny (model prog w) A (pyIter xv) (fun it s₂ => LoopAtT prog w A h₀ env target body Q (fun _ _ => False) it s₂) (fun _ _ => False) s₁

theorem for_startT {E : Value → Shared → Prop} {Q : Flow → Shared → Prop} {target : Expr} {pos : Pos} {iter : Expr} {body : List Stmt} {h₀ h : Heap} {m : Str → Option Value} (_F : Fr h₀ env.locals h m)
    (h : wpAny (model prog w) A (eval iter env) (fun xv s₁ => ForGoT prog w A h₀ env target body Q xv s₁) (fun _ _ => False) s)
    (hs : ∀ x, foldedSetIterable iter env x = pure x := by intro _; rfl) :
    wpAny (model prog w) A (exec (.For target iter body [] pos) env) Q E s :=
  wpAny_mono (For_invT (E := fun _ _ => False) h₀ h hs) (fun _ _ q => q) fun _ _ f => f.elim

theorem for_rangeT {s₁ : Shared} {r : Addr} {a₀ b₀ : Int} {t u v : Tok} {n : Nat} {hf : List Addr} {m₀ : Str → Option Value} {nx₀ : Led} {x : Str} {px : Pos} {body : List Stmt} {Q : Flow → Shared → Prop}
    (hr : IsRange s₁.heap r a₀ b₀ 1 t u v) (hsmall : Builtin.Range.small a₀ b₀ 1 = true) (hsz : Builtin.Range.rangeSize a₀ b₀ 1 = (n : Int)) (hH : HFp A hf s₁.heap)
    (F : Fr h₀ env.locals s₁.heap m₀) (N : News h₀ env.locals s₁.heap nx₀) (hhf : ∀ b ∈ hf, ∃ o, (b, o) ∈ nx₀) (J : Nat → (Str → Option Value) → Led → Prop) (hJ : J 0 m₀ nx₀)
    (turn : ∀ i t s own nx m₁ I oI, i < n → J i m₁ nx → (I, oI) ∈ own → (∀ q ∈ own, q.1 = I ∨ q.1 ∈ hf) → (∀ p ∈ nx, p.1 ≠ I) → Fr h₀ env.locals s.heap m₁ → News h₀ env.locals s.heap (nx ++ own) →
      wpAny (model prog w) A (assign (.Name x px) env (.int (a₀ + (i : Nat)) t)) (fun _ s₃ => wpAny (model prog w) A (execs body env) (TurnEnd h₀ env.locals own I (J (i + 1)) s) (fun _ _ => False) s₃) (fun _ _ => False) s)
    (done : ∀ h tk m₁ nx, J n m₁ nx → Fr h₀ env.locals h m₁ → News h₀ env.locals h nx → Q .next { s₁ with heap := h, toks := tk }) :
    ForGoT prog w A h₀ env (.Name x px) body Q (.ref r) s₁ := by
  unfold ForGoT
  refine wpAny_pyIter_range hr hsmall ?_
  rw [hsz]
  have up : ∀ b o, s₁.heap.get? b = some o → (s₁.heap.push { cls := .type "range_iterator", data := .fields #[rawInt a₀, rawInt (n : Int), rawInt 1] }).get? b = some o := fun b o e => Heap.get?_push_of_some _ e
  have hlt : ∀ p ∈ nx₀, p.1 < s₁.heap.objs.size := fun p hp => Heap.lt_size (N p hp).1
  have hIf : s₁.heap.objs.size ∉ hf := fun h => by obtain ⟨o, ho⟩ := hhf _ h; exact Nat.lt_irrefl _ (hlt _ ho)
  refine ⟨s₁.heap.objs.size, s₁.heap.objs.size :: hf, [s₁.heap.objs.size], n, _, _, m₀, nx₀, J, rfl, walksRange s₁.heap.objs.size a₀ n hf hIf, ?_, ?_, ?_, ⟨by simpa using Heap.get?_push_size _ rfl, hH.keep fun b _ o e => up b o e⟩, F.keeps up, (fun p hp => ⟨up _ _ (N p hp).1, (N p hp).2⟩), (fun _ _ _ _ _ q => wpAny_of_eq (a := ()) rfl q), hJ, ?_, ?_⟩
  · intro hm
    rcases List.mem_cons.mp hm with e | hm
    · exact Nat.ne_of_lt F.ns.lt e
    · obtain ⟨o, ho⟩ := hhf _ hm
      exact (N _ ho).2.1 rfl
  · intro b hb
    rw [List.mem_singleton.mp hb]
    exact next_is_new F
  · intro p hp hb
    exact Nat.ne_of_lt (hlt p hp) (List.mem_singleton.mp hb)
  · rintro i v m₁ nx s₂ own hi ⟨_, t', rfl⟩ hJ' hnw hown hget hin hst F' N'
    obtain ⟨oI, hoI⟩ : ∃ oI, (s₁.heap.objs.size, oI) ∈ own := ⟨_, hin _ (.head _) (next_is_new F) _ hst.1⟩
    refine wpAny_mono (turn i t' s₂ own nx m₁ s₁.heap.objs.size oI hi hJ' hoI (fun q hq => List.mem_cons.mp (hown q hq)) (fun p hp q => hnw p hp (List.mem_singleton.mpr q)) F' fun p hp => N' p ((List.mem_append.mp hp).elim (fun h => List.mem_append.mpr (.inr h)) fun h => List.mem_append.mpr (.inl h))) (fun _ s₃ q => wpAny_mono q (fun f s' q => ?_) fun _ _ f => f) fun _ _ f => f
    obtain ⟨rfl, h', tk', m', nx', rfl, F2, N2, hI2, hJ2⟩ := q
    exact ⟨rfl, h', tk', m', nx', rfl, F2, fun p hp => N2 p ((List.mem_append.mp hp).elim (fun h => List.mem_append.mpr (.inr h)) fun h => List.mem_append.mpr (.inl h)), fun p hp hb => hI2 p hp (List.mem_singleton.mp hb), hJ2⟩
  · intro h' tk' m' nx' F' N' _ hJ'
    exact done h' tk' m' nx' hJ' F' N'
end
/-! Inf10 -/
section
variable {prog : Program} {w : World} {A : Around} {E : Value → Shared → Prop} {s : Shared} {env : Env} {h₀ : Heap} {L : Addr} {m : Str → Option Value} {news : Led}

theorem next_tuple_endH {it t : Addr} {i : Nat} {items} {hf : List Addr} {Q : Option Value → Shared → Prop} (hH : HFp A hf s.heap) (hn : it ∉ hf)
    (hit : IsTupIter s.heap it t i) (ht : IsTup s.heap t items) (hx : items[i]? = none)
    (hQ : ∀ h', Heap.ExtBut it s.heap h' → Q none { s with heap := h' }) : wpAny (model prog w) A (pyNext (.ref it)) Q E s := by
  obtain ⟨o, ho, hc, hd⟩ := id hit
  obtain ⟨ol, hol, _, nl, hdl⟩ := ht
  unfold pyNext
  refine wpAny_bind (wpAny_attempt (wpAny_callSpecial?_slot (name := Str.ofString "__next__") hit.typeIs slot_tupleiter_next
    (wpAny_call_entry slot_tupleiter_next hit.typeIs entry_tupleiter_next ?_ (args_tupleiter_next _))))
  show wpAny _ _ (field (.ref it) 0 >>= _) _ _ s
  refine wpAny_bind (wpAny_field ho hd (x := .ref t) rfl ?_)
  show wpAny _ _ (if (Value.ref t == Value.none) = true then _ else _) _ _ s
  rw [if_neg (show ¬ ((Value.ref t == Value.none) = true) from Bool.false_ne_true)]
  show wpAny _ _ (field (.ref it) 1 >>= _) _ _ s
  refine wpAny_bind (wpAny_field ho hd (x := .int i 0) rfl ?_)
  show wpAny _ _ (seqItems? (.ref t) >>= _) _ _ s
  refine wpAny_bind (wpAny_seqItems hol hdl ?_)
  simp only [Int.toNat_natCast, hx]
  refine wpAny_bind (wpAny_rule (wpAny_bind (wpAny_setField ho hd (by simp) ?_)))
  refine stop_raise it (hf := hf) ?_ ?_
  · exact hH.keep fun b hb o' e => (Heap.get?_update_other _ _ (show it ≠ b from fun q => hn (by rw [q]; exact hb))).trans e
  · rintro e h' ⟨oe, he, hce⟩ he'
    refine wpAny_bind (wpAny_isInstance (T := "StopIteration") (b := true) ⟨_, he, hce⟩ isSubtype_stop ?_)
    exact wpAny_pure (hQ _ fun b o' hb e => he' b o' hb ((Heap.get?_update_other _ _ (Ne.symm hb)).trans e))

theorem unpack_H {elts : List Expr} {k : Nat} {pos : Pos} {t : Addr} {items : Array Value} {hf : List Addr} {Q : Unit → Shared → Prop} (hH : HFp A hf s.heap) (hhf : ∀ b ∈ hf, ∃ o, (b, o) ∈ news) (F : Fr h₀ L s.heap m) (N : News h₀ L s.heap news)
    {nt : Nat} (hm : (t, ({ cls := .type "tuple", data := .seq items nt } : Obj)) ∈ news) (hn : (assignEach elts env).length = items.size) (hstar : (assignEach elts env).findIdx? (·.1) = none)
    (h : ∀ h', Fr h₀ L h' m → News h₀ L h' news → wpAny (model prog w) A (assignInOrder ((assignEach elts env).map (·.2)) items.toList) Q E { s with heap := h' }) :
    wpAny (model prog w) A (assign (.Tuple elts k pos) env (.ref t)) Q E s := by
  have ht : IsTup s.heap t items := ⟨_, (N _ hm).1, rfl, _, rfl⟩
  have hlt : t ≠ s.heap.objs.size := Nat.ne_of_lt (Heap.lt_size (N _ hm).1)
  have hIf : s.heap.objs.size ∉ hf := fun hb => by obtain ⟨o, ho⟩ := hhf _ hb; exact Nat.lt_irrefl _ (Heap.lt_size (N _ ho).1)
  rw [assign_Tuple]
  refine wpAny_bind (wpAny_standAt ?_)
  unfold unpack
  rw [hn, hstar]
  refine wpAny_bind (wpAny_holding ?_)
  unfold unpackItems notIterableAtAll
  refine wpAny_bind (wpAny_bind (wpAny_specialOf ht.typeIs slot_tuple_iter.lookup ?_))
  refine wpAny_pure ?_
  simp only [Bool.false_eq_true, if_false]
  refine wpAny_bind (wpAny_holding (iter_tuple ht ?_))
  refine wpAny_bind (wpAny_holding (draw_tuple hlt items.size 0 _ _ ⟨_, Heap.get?_push_size _ rfl, rfl, rfl⟩ (ht.push _) (by omega) fun h₁ hit₁ hs₁ => ?_))
  rw [List.drop_zero, List.take_of_length_le (by simp), if_neg (by simp)]
  refine wpAny_bind (wpAny_holding (next_tuple_endH (hf := hf) (hH.keep fun b hb o e => hs₁.extBut b o (fun q => hIf (by rw [← q]; exact hb)) (Heap.get?_push_of_some _ e)) hIf hit₁ ((ht.push _).extBut hs₁.extBut hlt) (by simp) fun h₂ he₂ => ?_))
  simp only [Option.isSome_none, Bool.false_eq_true, if_false]
  have he : Heap.ExtBut s.heap.objs.size s.heap h₂ := fun b o hb e => he₂ b o hb (hs₁.extBut b o hb (Heap.get?_push_of_some _ e))
  exact wpAny_pure (h h₂ (F.extBut he (Nat.le_refl _)) (N.extBut he (Nat.le_refl _)))
end
/-! Inf11 -/
section
variable {prog : Program} {w : World} {A : Around} {s : Shared} {env : Env} {h₀ : Heap}

theorem for_list {s₁ : Shared} {l : Addr} {vs : List Value} {nl : Nat} {m₀ : Str → Option Value} {nx₀ : Led} {x : Str} {body : List Stmt} {Q : Flow → Shared → Prop}
    (hl : (l, listOf vs.toArray nl) ∈ nx₀) (hA : A.handled = none) (F : Fr h₀ env.locals s₁.heap m₀) (N : News h₀ env.locals s₁.heap nx₀) (J : Nat → (Str → Option Value) → Led → Prop) (hJ : J 0 m₀ nx₀)
    (turn : ∀ i v h tk own nx m₁ I oI, i < vs.length → vs[i]? = some v → J i m₁ nx → (I, oI) ∈ own → (∀ q ∈ own, q.1 = I ∨ q.1 = l) → (∀ p ∈ nx, p.1 ≠ I) → Fr h₀ env.locals h (fun y => if y = x then some v else m₁ y) → News h₀ env.locals h (nx ++ own) →
      wpAny (model prog w) A (execs body env) (TurnEnd h₀ env.locals own I (J (i + 1)) { s₁ with heap := h, toks := tk }) (fun _ _ => False) { s₁ with heap := h, toks := tk })
    (done : ∀ h tk m₁ nx, J vs.length m₁ nx → Fr h₀ env.locals h m₁ → News h₀ env.locals h nx → Q .next { s₁ with heap := h, toks := tk }) :
    ForGo prog w A h₀ env x body Q (.ref l) s₁ := by
  unfold ForGo
  have hls : s₁.heap.IsList l vs.toArray := ⟨_, (N _ hl).1, rfl, nl, rfl⟩
  refine wpAny_pyIter_list hls ?_
  have up : ∀ b o, s₁.heap.get? b = some o → (s₁.heap.push { cls := .type "list_iterator", data := .fields #[.ref l, .int 0 0] }).get? b = some o := fun b o e => Heap.get?_push_of_some _ e
  have hlt : ∀ p ∈ nx₀, p.1 < s₁.heap.objs.size := fun p hp => Heap.lt_size (N p hp).1
  have W := walksList (prog := prog) (w := w) (A := A) s₁.heap.objs.size l (Nat.ne_of_lt (hlt _ hl)) vs.toArray [] (fun h => nomatch h)
  have W' : Walks prog w A s₁.heap.objs.size [s₁.heap.objs.size, l] [s₁.heap.objs.size] vs.length (fun i v => vs[i]? = some v) (fun i h => h.IsListIter s₁.heap.objs.size l i ∧ h.IsList l vs.toArray ∧ HFp A [] h) := by simpa using W
  refine ⟨s₁.heap.objs.size, [s₁.heap.objs.size, l], [s₁.heap.objs.size], vs.length, _, _, m₀, nx₀, J, rfl, W', ?_, ?_, ?_, ⟨⟨_, Heap.get?_push_size _ rfl, rfl, rfl⟩, hls.at fun o e => up _ o e, .inl ⟨hA, rfl⟩⟩, F.keeps up, (fun p hp => ⟨up _ _ (N p hp).1, (N p hp).2⟩), hJ, ?_, ?_⟩
  · intro hm
    rcases List.mem_cons.mp hm with e | hm
    · exact Nat.ne_of_lt F.ns.lt e
    · exact (N _ hl).2.1 (List.mem_singleton.mp hm).symm
  · intro b hb
    rw [List.mem_singleton.mp hb]
    exact next_is_new F
  · intro p hp hb
    exact Nat.ne_of_lt (hlt p hp) (List.mem_singleton.mp hb)
  · rintro i v m₁ nx s₂ own ⟨h, tk, rfl⟩ hi hv hJ' hnw hown hget hin hst F' N'
    obtain ⟨oI, hoI⟩ : ∃ oI, (s₁.heap.objs.size, oI) ∈ own := by
      obtain ⟨⟨o, ho, _⟩, _⟩ := hst
      exact ⟨_, hin _ (.head _) (next_is_new F) _ ho⟩
    refine wpAny_mono (turn i v h tk own nx m₁ s₁.heap.objs.size oI hi hv hJ' hoI (fun q hq => by
      rcases List.mem_cons.mp (hown q hq) with e | e
      · exact .inl e
      · exact .inr (List.mem_singleton.mp e)) (fun p hp q => hnw p hp (List.mem_singleton.mpr q)) F' fun p hp => N' p ((List.mem_append.mp hp).elim (fun h => List.mem_append.mpr (.inr h)) fun h => List.mem_append.mpr (.inl h))) (fun f s' q => ?_) fun _ _ f => f
    obtain ⟨rfl, h', tk', m', nx', rfl, F2, N2, hI2, hJ2⟩ := q
    exact LoopStepV.next ⟨rfl, h', tk', m', nx', rfl, F2, fun p hp => N2 p ((List.mem_append.mp hp).elim (fun h => List.mem_append.mpr (.inr h)) fun h => List.mem_append.mpr (.inl h)), fun p hp hb => hI2 p hp (List.mem_singleton.mp hb), hJ2⟩
  · intro h' tk' m' nx' F' N' _ hJ'
    exact done h' tk' m' nx' hJ' F' N'
end
/-! Sp -/
theorem tc_units (A : Around) (a : Args) : (A.under (Code.builtin "type.__call__" a)).units = A.units + 1 := rfl
/-- where a call is made: anything may be handled -/
abbrev Ar (hdl : Option Value) (dp un : Nat) (gd : Option (List Code)) (cn : Str) (cs : Scope) (L a : Addr) (ccd : Value) (cl : List (Str × Addr)) (outer : List Env) : Around :=
  { handled := hdl, depth := dp, frames := some (envX cn cs L a ccd cl :: outer), guards := gd, units := un }

def Ret (h₀ : Heap) (L : Addr) (m : Str → Option Value) (s : Shared) (post : Value → Led → Prop) (Q : Value → Shared → Prop) : Prop :=
  ∀ r news' h' tk', Fr h₀ L h' m → News h₀ L h' news' → post r news' → Q r { s with heap := h', toks := tk' }

/-- what is handled where the call is made -/
def HOk (hdl : Option Value) (news : Led) : Prop := hdl = none ∨ ∃ eh oh vs, hdl = some (.ref eh) ∧ (eh, oh) ∈ news ∧ oh.data = .fields vs ∧ vs[2]? = some .none
theorem HOk.mono {hdl : Option Value} {news news' : Led} (h : HOk hdl news) (hs : ∀ p ∈ news, p ∈ news') : HOk hdl news' :=
  h.imp id fun ⟨eh, oh, vs, a, b, c⟩ => ⟨eh, oh, vs, a, hs _ b, c⟩
/-- the addresses of what is handled -/
def hfOf : Option Value → List Addr
  | some (.ref e) => [e]
  | _ => []
theorem HOk.fp {A : Around} {hdl : Option Value} {news : Led} {h₀ h : Heap} {L : Addr} (H : HOk hdl news) (N : News h₀ L h news) (hA : A.handled = hdl) : HFp A (hfOf hdl) h := by
  rcases H with rfl | ⟨eh, oh, vs, rfl, hm, hd, h2⟩
  · exact .inl ⟨hA, rfl⟩
  · exact .inr ⟨eh, oh, vs, hA, rfl, (N _ hm).1, hd, h2⟩
theorem HOk.hf {hdl : Option Value} {news : Led} (H : HOk hdl news) : ∀ b ∈ hfOf hdl, ∃ o, (b, o) ∈ news := by
  rcases H with rfl | ⟨eh, oh, vs, rfl, hm, hd, h2⟩
  · exact fun _ h => nomatch h
  · exact fun b hb => by rw [List.mem_singleton.mp hb]; exact ⟨_, hm⟩

def Spec (b : Nat) (w : World) (mean : ExcName → Option Value) (mg mb : Str → Option Value) (hdl : Option Value) (f : Addr) (vs : List Value) (news : Led) (post : Value → Led → Prop) : Prop :=
  ∀ (dp un : Nat) (gd : Option (List Code)) (cn : Str) (cs : Scope) (a : Addr) (ccd : Value) (cl : List (Str × Addr)) (outer : List Env) (A₀ : Around) (base h₀ : Heap) (L : Addr) (m : Str → Option Value) (s : Shared)
    (Q E : Value → Shared → Prop),
    Below A₀ base outer h₀ → Fr h₀ L s.heap m → (hd.heap_39 w.params).In h₀ → News h₀ L s.heap news → Top hd.view_39 (looseW hd.view_39 []) mean mg mb h₀ → cs.kind = .function → dp + b < recursionLimit → un + 8 * b < cLine →
    Ret h₀ L m s post Q →
    wpAny (model PySem.Challenge.rw_nz0246_01.row.prog w) (Ar hdl dp un gd cn cs L a ccd cl outer) (call (.ref f) vs) Q E s

theorem Spec.use {b : Nat} {w : World} {mean : ExcName → Option Value} {mg mb : Str → Option Value} {hdl : Option Value} {f : Addr} {vs : List Value} {news : Led} {post : Value → Led → Prop} (S : Spec b w mean mg mb hdl f vs news post)
    {dp un : Nat} {gd : Option (List Code)} {cn : Str} {cs : Scope} {a : Addr} {ccd : Value} {cl : List (Str × Addr)} {outer : List Env} {A₀ : Around} {base h₀ : Heap} {L : Addr} {m : Str → Option Value} {s : Shared} {Q E : Value → Shared → Prop}
    (B : Below A₀ base outer h₀) (F : Fr h₀ L s.heap m) (X : (hd.heap_39 w.params).In h₀) (N : News h₀ L s.heap news) (T : Top hd.view_39 (looseW hd.view_39 []) mean mg mb h₀) (hk : cs.kind = .function) (hdp : dp + b < recursionLimit) (hun : un + 8 * b < cLine)
    (ret : ∀ r news' h' tk', Fr h₀ L h' m → News h₀ L h' news' → post r news' → Q r { s with heap := h', toks := tk' }) :
    wpAny (model PySem.Challenge.rw_nz0246_01.row.prog w) (Ar hdl dp un gd cn cs L a ccd cl outer) (call (.ref f) vs) Q E s := S dp un gd cn cs a ccd cl outer A₀ base h₀ L m s Q E B F X N T hk hdp hun ret

structure CompD where
  ident : Int
  across : Int
  down : Int
  quant : Int
structure FrameD where
  height : Int
  width : Int
  cs : List CompD

abbrev kh (P : Params) (x : Str) : Int := PyData.keyHash P x
def CompObj (P : Params) (news : Led) (v : Value) (c : CompD) : Prop :=
  ∃ x dx t1 t2 t3 t4 u1 u2 u3 u4, v = .ref x ∧ (x, instObj 70 dx) ∈ news ∧
    (dx, dictOf [⟨kh P "ident", .str "ident" t1, .int c.ident u1⟩, ⟨kh P "across", .str "across" t2, .int c.across u2⟩, ⟨kh P "down", .str "down" t3, .int c.down u3⟩, ⟨kh P "quant", .str "quant" t4, .int c.quant u4⟩] 4) ∈ news
def CompAll (P : Params) (news : Led) (vs : List Value) (cs : List CompD) : Prop := vs.length = cs.length ∧ ∀ (i : Nat) (v : Value), vs[i]? = some v → ∃ c, cs[i]? = some c ∧ CompObj P news v c
def FrameObj (P : Params) (news : Led) (v : Value) (f : FrameD) : Prop :=
  ∃ x dx cl nn vs t1 t2 t3 t4 t5 t6 u1 u2 u3 u4 u6, v = .ref x ∧ (x, instObj 136 dx) ∈ news ∧
    (dx, dictOf [⟨kh P "kind", .str "kind" t1, .str "progressive" u1⟩, ⟨kh P "precision", .str "precision" t2, .int 8 u2⟩, ⟨kh P "height", .str "height" t3, .int f.height u3⟩, ⟨kh P "width", .str "width" t4, .int f.width u4⟩,
      ⟨kh P "components", .str "components" t5, .ref cl⟩, ⟨kh P "n", .str "n" t6, .int 2 u6⟩] 6) ∈ news ∧ (cl, listOf vs.toArray nn) ∈ news ∧ CompAll P news vs f.cs
theorem CompObj.mono {P : Params} {news news' : Led} {v : Value} {c : CompD} (h : CompObj P news v c) (hs : ∀ p ∈ news, p ∈ news') : CompObj P news' v c := by
  obtain ⟨x, dx, t1, t2, t3, t4, u1, u2, u3, u4, e, a, b⟩ := h
  exact ⟨x, dx, t1, t2, t3, t4, u1, u2, u3, u4, e, hs _ a, hs _ b⟩
theorem CompAll.mono {P : Params} {news news' : Led} {vs : List Value} {cs : List CompD} (h : CompAll P news vs cs) (hs : ∀ p ∈ news, p ∈ news') : CompAll P news' vs cs :=
  ⟨h.1, fun i v e => let ⟨c, a, b⟩ := h.2 i v e; ⟨c, a, b.mono hs⟩⟩
theorem FrameObj.mono {P : Params} {news news' : Led} {v : Value} {f : FrameD} (h : FrameObj P news v f) (hs : ∀ p ∈ news, p ∈ news') : FrameObj P news' v f := by
  obtain ⟨x, dx, cl, nn, vs, t1, t2, t3, t4, t5, t6, u1, u2, u3, u4, u6, e, a, b, c, d⟩ := h
  exact ⟨x, dx, cl, nn, vs, t1, t2, t3, t4, t5, t6, u1, u2, u3, u4, u6, e, hs _ a, hs _ b, hs _ c, d.mono hs⟩

def mx (ns : List Int) : Int := ns.max?.getD 0
theorem mx_eq {ns : List Int} {M : Int} (h1 : M ∈ ns) (h2 : ∀ a, a ∈ ns → a ≤ M) : mx ns = M := by
  have : ns.max? = some M := List.max?_eq_some_iff.mpr ⟨h1, h2⟩
  rw [mx, this]; rfl
abbrev mA (f : FrameD) : Int := mx (f.cs.map (·.across))
abbrev mD (f : FrameD) : Int := mx (f.cs.map (·.down))
theorem CompAll.at' {P : Params} {news : Led} {vs : List Value} {cs : List CompD} (h : CompAll P news vs cs) {i : Nat} {c : CompD} (e : cs[i]? = some c) : ∃ v, vs[i]? = some v ∧ CompObj P news v c := by
  have hi : i < vs.length := by rw [h.1]; exact (List.getElem?_eq_some_iff.mp e).1
  obtain ⟨c', h1, h2⟩ := h.2 i vs[i] (List.getElem?_eq_getElem hi)
  rw [e] at h1
  cases h1
  exact ⟨_, List.getElem?_eq_getElem hi, h2⟩
/-- the ledger has grown, by what lies above -/
def Grow (news n : Led) : Prop := ∃ tl, n = tl ++ news ∧ Abv news tl
theorem grow_nil {news : Led} : Grow news news := ⟨[], rfl, Abv.nil⟩
theorem grow_app {news n tl : Led} (h : Grow news n) (a : Abv n tl) : Grow news (tl ++ n) := by
  obtain ⟨tl', rfl, a'⟩ := h
  exact ⟨tl ++ tl', (List.append_assoc ..).symm, Abv.app a' a fun p hp => List.mem_append.mpr (.inr hp)⟩
theorem grow_cons {news n : Led} {d : Addr} {o : Obj} (h : Grow news n) (a : ∀ p ∈ n, p.1 < d) : Grow news ((d, o) :: n) :=
  grow_app (tl := [(d, o)]) h fun q hq p hp => by rw [List.mem_singleton.mp hp]; exact a q hq
theorem grow_consL {news n : Led} {d : Addr} {o : Obj} (h : Grow news n) (a : AllLt d n) : Grow news ((d, o) :: n) := grow_cons h (ktn_ltOf a)
theorem Grow.sub {news n : Led} (h : Grow news n) : ∀ p ∈ news, p ∈ n := by
  obtain ⟨tl, rfl, _⟩ := h
  exact fun p hp => List.mem_append.mpr (.inr hp)
theorem Grow.trans {a b c : Led} (x : Grow a b) (y : Grow b c) : Grow a c := by
  obtain ⟨tl, rfl, h⟩ := y
  exact grow_app x h
theorem item_of {prog : Program} {w : World} {A : Around} {E : Value → Shared → Prop} {s : Shared} {value slice : PySem.Expr} {h₀ : Heap} {L l : Addr} {news : Led} {vs : List Value} {nl : Nat} {k : Int} {u : Tok} {v : Value} {Q : Value → Shared → Prop}
    (hm : (l, listOf vs.toArray nl) ∈ news) (N : News h₀ L s.heap news) (h0 : 0 ≤ k) (hhi : k < 2 ^ 63) (hx : vs[k.toNat]? = some v) (h : Q v s)
    (hs : subscripted slice false (.ref l) (.int k u) = operate [.ref l, .int k u] (getItem (.ref l) (.int k u))) :
    wpAny (model prog w) A (subscriptTail value slice (.ref l) (.int k u)) Q E s :=
  have hL : s.heap.IsList l vs.toArray := ⟨_, (N _ hm).1, rfl, nl, rfl⟩
  tail_any hL.typeIs slot_list_getitem.lookup (wpAny_getItem_list hL h0 hhi (by simpa using hx) h) hs
theorem len_of {prog : Program} {w : World} {A : Around} {E : Value → Shared → Prop} {s : Shared} {h₀ : Heap} {L l : Addr} {news : Led} {vs : List Value} {nl : Nat} {Q : Value → Shared → Prop}
    (hm : (l, listOf vs.toArray nl) ∈ news) (N : News h₀ L s.heap news) (hb : vs.length < 2 ^ 62) (h : Q (.int (vs.length : Int) (s.toks + 1)) { s with toks := s.toks + 1 + 1 }) : wpAny (model prog w) A (call (.builtin "len") [.ref l]) Q E s :=
  len_list (items := vs.toArray) ⟨_, (N _ hm).1, rfl, nl, rfl⟩ (by rw [List.size_toArray]; omega) (by rw [List.size_toArray]; exact h)
theorem mem_hd {a : Addr × Obj} {l : Led} : a ∈ a :: l := .head _
theorem mem_tl {a b : Addr × Obj} {l : Led} (h : a ∈ l) : a ∈ b :: l := .tail _ h
theorem mem_l {a : Addr × Obj} {l l' : Led} (h : a ∈ l) : a ∈ l ++ l' := List.mem_append.mpr (.inl h)
theorem mem_r {a : Addr × Obj} {l l' : Led} (h : a ∈ l') : a ∈ l ++ l' := List.mem_append.mpr (.inr h)
abbrev tupOf (vs : Array Value) : Obj := { cls := .type "tuple", data := .seq vs }
theorem name_C {M : Model} {A : Around} {E : Value → Shared → Prop} {s : Shared} {scope : Scope} {cl : List (Str × Addr)} {C : Addr} {env : Env} {mC : Str → Option Value} {x : Str} {pos : Pos} {v : Value} {Q : Value → Shared → Prop}
    (hn : s.heap.Ns C mC) (hv : mC x = some v) (h : Q v s) (hk : scope.kind = .function) (hl : (compEnvC scope cl C env).kindOf x = some .local) (hd : (x == ("__debug__" : Str)) = false) :
    wpAny M A (eval (.Name x pos) (compEnvC scope cl C env)) Q E s := wpAny_Name (wpAny_loadName_local (by exact hk) hl hn hv h) hd
/-! Go -/
theorem FrameObj.elim {P : Params} {news : Led} {v : Value} {f : FrameD} {X : Prop} (h : FrameObj P news v f) (k : ∀ x dx cl nn vs t1 t2 t3 t4 t5 t6 u1 u2 u3 u4 u6, v = .ref x → (x, instObj 136 dx) ∈ news →
    (dx, dictOf [⟨kh P "kind", .str "kind" t1, .str "progressive" u1⟩, ⟨kh P "precision", .str "precision" t2, .int 8 u2⟩, ⟨kh P "height", .str "height" t3, .int f.height u3⟩, ⟨kh P "width", .str "width" t4, .int f.width u4⟩,
      ⟨kh P "components", .str "components" t5, .ref cl⟩, ⟨kh P "n", .str "n" t6, .int 2 u6⟩] 6) ∈ news → (cl, listOf vs.toArray nn) ∈ news → CompAll P news vs f.cs → X) : X :=
  let ⟨_, _, _, _, _, _, _, _, _, _, _, _, _, _, _, _, e, a, b, c, d⟩ := h; k _ _ _ _ _ _ _ _ _ _ _ _ _ _ _ _ e a b c d
theorem CompObj.elim {P : Params} {news : Led} {v : Value} {A : CompD → Prop} {X : Prop} (h : ∃ c, A c ∧ CompObj P news v c) (k : ∀ c, A c → ∀ x dx t1 t2 t3 t4 u1 u2 u3 u4, v = .ref x → (x, instObj 70 dx) ∈ news →
    (dx, dictOf [⟨kh P "ident", .str "ident" t1, .int c.ident u1⟩, ⟨kh P "across", .str "across" t2, .int c.across u2⟩, ⟨kh P "down", .str "down" t3, .int c.down u3⟩, ⟨kh P "quant", .str "quant" t4, .int c.quant u4⟩] 4) ∈ news → X) : X :=
  let ⟨_, hA, _, _, _, _, _, _, _, _, _, _, e, a, b⟩ := h; k _ hA _ _ _ _ _ _ _ _ _ _ e a b
theorem CompObj.elim' {P : Params} {news : Led} {c : CompD} {A : Value → Prop} {X : Prop} (h : ∃ v, A v ∧ CompObj P news v c) (k : ∀ v, A v → ∀ x dx t1 t2 t3 t4 u1 u2 u3 u4, v = .ref x → (x, instObj 70 dx) ∈ news →
    (dx, dictOf [⟨kh P "ident", .str "ident" t1, .int c.ident u1⟩, ⟨kh P "across", .str "across" t2, .int c.across u2⟩, ⟨kh P "down", .str "down" t3, .int c.down u3⟩, ⟨kh P "quant", .str "quant" t4, .int c.quant u4⟩] 4) ∈ news → X) : X :=
  let ⟨_, hA, _, _, _, _, _, _, _, _, _, _, e, a, b⟩ := h; k _ hA _ _ _ _ _ _ _ _ _ _ e a b
theorem lex_split {k i y j x q : Nat} (hk : k < i ∨ k = i ∧ (y < j ∨ y = j ∧ x < q + 1)) (hnew : ¬(k = i ∧ y = j ∧ x = q)) : k < i ∨ k = i ∧ (y < j ∨ y = j ∧ x < q) := by
  rcases hk with h | ⟨h, h1 | ⟨h1, h2⟩⟩
  · exact .inl h
  · exact .inr ⟨h, .inl h1⟩
  · exact .inr ⟨h, .inr ⟨h1, Nat.lt_of_le_of_ne (Nat.le_of_lt_succ h2) fun e => hnew ⟨h, h1, e⟩⟩⟩
theorem lex_one {k i u j : Nat} (hk : k < i ∨ k = i ∧ u < j + 1) (ho : ¬(k < i ∨ (k = i ∧ u < j))) : k = i ∧ u = j := by
  rcases hk with h | ⟨h, h1⟩
  · exact absurd (.inl h) ho
  · exact ⟨h, Nat.le_antisymm (Nat.le_of_lt_succ h1) (Nat.le_of_not_lt fun e => ho (.inr ⟨h, e⟩))⟩
theorem roomD {dp B b R : Nat} (h : dp + B < R) (hb : Nat.ble (1 + b) B = true) : dp + 1 + b < R := by have := Nat.le_of_ble_eq_true hb; omega
theorem roomD0 {dp B b R : Nat} (h : dp + B < R) (hb : Nat.ble b B = true) : dp + b < R := by have := Nat.le_of_ble_eq_true hb; omega
theorem roomU {un B b k R : Nat} (h : un + 8 * B < R) (hb : Nat.ble (k + 8 * b) (8 * B) = true) : un + k + 8 * b < R := by have := Nat.le_of_ble_eq_true hb; omega
theorem roomU0 {un B b R : Nat} (h : un + 8 * B < R) (hb : Nat.ble (8 * b) (8 * B) = true) : un + 8 * b < R := by have := Nat.le_of_ble_eq_true hb; omega
theorem via {G : Prop} (h : ∀ X : Prop, (G → X) → X) : G := h G id
/-- a call that a contract meets -/
def Go (w : World) (mean : ExcName → Option Value) (mg mb : Str → Option Value) (hdl : Option Value) (dp un : Nat) (h₀ : Heap) (L : Addr) (m : Str → Option Value) (s : Shared) (f : Addr) (vs : List Value) (news : Led) (Q : Value → Shared → Prop) : Prop :=
  ∃ (b : Nat) (post : Value → Led → Prop), Spec b w mean mg mb hdl f vs news post ∧ dp + b < recursionLimit ∧ un + 8 * b < cLine ∧ Ret h₀ L m s post Q
theorem Go.mk {w : World} {mean : ExcName → Option Value} {mg mb : Str → Option Value} {hdl : Option Value} {dp un : Nat} {h₀ : Heap} {L : Addr} {m : Str → Option Value} {s : Shared} {f : Addr} {vs : List Value} {news : Led} {Q : Value → Shared → Prop} {b : Nat} {post : Value → Led → Prop}
    (S : Spec b w mean mg mb hdl f vs news post) (h1 : dp + b < recursionLimit) (h2 : un + 8 * b < cLine) (ret : ∀ r news' h' tk', Fr h₀ L h' m → News h₀ L h' news' → post r news' → Q r { s with heap := h', toks := tk' }) : Go w mean mg mb hdl dp un h₀ L m s f vs news Q := ⟨b, post, S, h1, h2, ret⟩
theorem Spec.go {w : World} {mean : ExcName → Option Value} {mg mb : Str → Option Value} {hdl : Option Value} {f : Addr} {vs : List Value} {news : Led}
    {dp un : Nat} {gd : Option (List Code)} {cn : Str} {cs : Scope} {a : Addr} {ccd : Value} {cl : List (Str × Addr)} {outer : List Env} {A₀ : Around} {base h₀ : Heap} {L : Addr} {m : Str → Option Value} {s : Shared} {Q E : Value → Shared → Prop}
    (B : Below A₀ base outer h₀) (F : Fr h₀ L s.heap m) (X : (hd.heap_39 w.params).In h₀) (N : News h₀ L s.heap news) (T : Top hd.view_39 (looseW hd.view_39 []) mean mg mb h₀) (hk : cs.kind = .function) (R : Go w mean mg mb hdl dp un h₀ L m s f vs news Q) :
    wpAny (model PySem.Challenge.rw_nz0246_01.row.prog w) (Ar hdl dp un gd cn cs L a ccd cl outer) (call (.ref f) vs) Q E s :=
  let ⟨_, _, S, h1, h2, ret⟩ := R; S dp un gd cn cs a ccd cl outer A₀ base h₀ L m s Q E B F X N T hk h1 h2 ret
section
/-! curried: what a contract gives, one by one -/
variable {w : World} {mean : ExcName → Option Value} {mg mb : Str → Option Value} {hdl : Option Value} {dp un : Nat} {h₀ : Heap} {L : Addr} {m : Str → Option Value} {s : Shared} {f : Addr} {vs : List Value} {news : Led} {Q : Value → Shared → Prop} {b : Nat}
theorem Go.int {e : Int} (S : Spec b w mean mg mb hdl f vs news (fun r n' => n' = news ∧ ∃ t, r = .int e t)) (h1 : dp + b < recursionLimit) (h2 : un + 8 * b < cLine)
    (ret : ∀ h' tk', Fr h₀ L h' m → ∀ t, News h₀ L h' news → Q (.int e t) { s with heap := h', toks := tk' }) : Go w mean mg mb hdl dp un h₀ L m s f vs news Q :=
  .mk S h1 h2 fun _ _ _ _ F N ⟨e1, _, e2⟩ => by subst e1 e2; exact ret _ _ F _ N
theorem Go.intG {e : Int} (S : Spec b w mean mg mb hdl f vs news (fun r n' => Grow news n' ∧ ∃ t, r = .int e t)) (h1 : dp + b < recursionLimit) (h2 : un + 8 * b < cLine)
    (ret : ∀ h' tk', Fr h₀ L h' m → ∀ tl, Abv news tl → ∀ t, News h₀ L h' (tl ++ news) → Q (.int e t) { s with heap := h', toks := tk' }) : Go w mean mg mb hdl dp un h₀ L m s f vs news Q :=
  .mk S h1 h2 fun _ _ _ _ F N ⟨⟨_, e1, a⟩, _, e2⟩ => by subst e1 e2; exact ret _ _ F _ a _ N
theorem Go.tupG {O : Tok → Tok → Obj} (S : Spec b w mean mg mb hdl f vs news (fun r n' => Grow news n' ∧ ∃ tp t1 t2, r = .ref tp ∧ (tp, O t1 t2) ∈ n')) (h1 : dp + b < recursionLimit) (h2 : un + 8 * b < cLine)
    (ret : ∀ h' tk', Fr h₀ L h' m → ∀ tl, Abv news tl → ∀ tp t1 t2, News h₀ L h' (tl ++ news) → (tp, O t1 t2) ∈ tl ++ news → Q (.ref tp) { s with heap := h', toks := tk' }) : Go w mean mg mb hdl dp un h₀ L m s f vs news Q :=
  .mk S h1 h2 fun _ _ _ _ F N ⟨⟨_, e1, a⟩, _, _, _, e2, hm⟩ => by subst e1 e2; exact ret _ _ F _ a _ _ _ N hm
theorem Go.objG {R : Value → Led → Prop} (S : Spec b w mean mg mb hdl f vs news (fun r n' => Grow news n' ∧ R r n')) (h1 : dp + b < recursionLimit) (h2 : un + 8 * b < cLine)
    (ret : ∀ r h' tk', Fr h₀ L h' m → ∀ tl, Abv news tl → News h₀ L h' (tl ++ news) → R r (tl ++ news) → Q r { s with heap := h', toks := tk' }) : Go w mean mg mb hdl dp un h₀ L m s f vs news Q :=
  .mk S h1 h2 fun _ _ _ _ F N ⟨⟨_, e1, a⟩, hr⟩ => by subst e1; exact ret _ _ _ F _ a N hr
theorem Go.boolG {R : Bool → Prop} (S : Spec b w mean mg mb hdl f vs news (fun r n' => Grow news n' ∧ ∃ b, r = .bool b ∧ R b)) (h1 : dp + b < recursionLimit) (h2 : un + 8 * b < cLine)
    (ret : ∀ h' tk', Fr h₀ L h' m → ∀ tl, Abv news tl → ∀ b, R b → News h₀ L h' (tl ++ news) → Q (.bool b) { s with heap := h', toks := tk' }) : Go w mean mg mb hdl dp un h₀ L m s f vs news Q :=
  .mk S h1 h2 fun _ _ _ _ F N ⟨⟨_, e1, a⟩, _, e2, hr⟩ => by subst e1 e2; exact ret _ _ F _ a _ hr N
theorem Go.trueG (S : Spec b w mean mg mb hdl f vs news (fun r n' => Grow news n' ∧ r = .bool true)) (h1 : dp + b < recursionLimit) (h2 : un + 8 * b < cLine)
    (ret : ∀ h' tk', Fr h₀ L h' m → ∀ tl, Abv news tl → News h₀ L h' (tl ++ news) → Q (.bool true) { s with heap := h', toks := tk' }) : Go w mean mg mb hdl dp un h₀ L m s f vs news Q :=
  .mk S h1 h2 fun _ _ _ _ F N ⟨⟨_, e1, a⟩, e2⟩ => by subst e1 e2; exact ret _ _ F _ a N
theorem Go.lstG {R : List Value → Led → Prop} (S : Spec b w mean mg mb hdl f vs news (fun r n' => Grow news n' ∧ ∃ l vs nl, r = .ref l ∧ (l, listOf vs.toArray nl) ∈ n' ∧ R vs n')) (h1 : dp + b < recursionLimit) (h2 : un + 8 * b < cLine)
    (ret : ∀ h' tk', Fr h₀ L h' m → ∀ tl, Abv news tl → ∀ l vs nl, News h₀ L h' (tl ++ news) → (l, listOf vs.toArray nl) ∈ tl ++ news → R vs (tl ++ news) → Q (.ref l) { s with heap := h', toks := tk' }) : Go w mean mg mb hdl dp un h₀ L m s f vs news Q :=
  .mk S h1 h2 fun _ _ _ _ F N ⟨⟨_, e1, a⟩, _, _, _, e2, hm, hr⟩ => by subst e1 e2; exact ret _ _ F _ a _ _ _ N hm hr
theorem Go.own {R : Value → Led → Prop} (S : Spec b w mean mg mb hdl f vs news (fun r n' => ∃ tl, n' = tl ++ news ∧ Abv news tl ∧ R r tl)) (h1 : dp + b < recursionLimit) (h2 : un + 8 * b < cLine)
    (ret : ∀ r h' tk', Fr h₀ L h' m → ∀ tl, Abv news tl → R r tl → News h₀ L h' (tl ++ news) → Q r { s with heap := h', toks := tk' }) : Go w mean mg mb hdl dp un h₀ L m s f vs news Q :=
  .mk S h1 h2 fun _ _ _ _ F N ⟨_, e1, a, hr⟩ => by subst e1; exact ret _ _ _ F _ a hr N
theorem Go.frm {A B : Int} {C : List CompD} (S : Spec b w mean mg mb hdl f vs news (fun r n' => Grow news n' ∧ ∃ hh ww, FrameObj w.params n' r ⟨hh, ww, C⟩ ∧ hh = A ∧ ww = B)) (h1 : dp + b < recursionLimit) (h2 : un + 8 * b < cLine)
    (ret : ∀ r h' tk', Fr h₀ L h' m → ∀ tl, Abv news tl → News h₀ L h' (tl ++ news) → FrameObj w.params (tl ++ news) r ⟨A, B, C⟩ → Q r { s with heap := h', toks := tk' }) : Go w mean mg mb hdl dp un h₀ L m s f vs news Q :=
  .mk S h1 h2 fun _ _ _ _ F N ⟨⟨_, e1, a⟩, _, _, hf, e2, e3⟩ => by subst e1 e2 e3; exact ret _ _ _ F _ a N hf
theorem Go.src {nf : Obj → Led} {K : Obj → Prop} {top : Int} (S : Spec b w mean mg mb hdl f vs news (fun r n' => ∃ o', n' = nf o' ∧ K o' ∧ ∃ g t, r = .int g t ∧ 0 ≤ g ∧ g < top)) (h1 : dp + b < recursionLimit) (h2 : un + 8 * b < cLine)
    (ret : ∀ h' tk', Fr h₀ L h' m → ∀ o', K o' → ∀ g t, 0 ≤ g → g < top → News h₀ L h' (nf o') → Q (.int g t) { s with heap := h', toks := tk' }) : Go w mean mg mb hdl dp un h₀ L m s f vs news Q :=
  .mk S h1 h2 fun _ _ _ _ F N ⟨_, e1, ho, _, _, e2, hg, hg'⟩ => by subst e1 e2; exact ret _ _ F _ ho _ _ hg hg' N
theorem Go.one {nf : Obj → Led} {K : Obj → Prop} {us : List Value} (S : Spec b w mean mg mb hdl f vs news (fun r n' => ∃ o', n' = nf o' ∧ K o' ∧ ∃ i, i < us.length ∧ us[i]? = some r)) (h1 : dp + b < recursionLimit) (h2 : un + 8 * b < cLine)
    (ret : ∀ r h' tk', Fr h₀ L h' m → ∀ o', K o' → ∀ i, i < us.length → us[i]? = some r → News h₀ L h' (nf o') → Q r { s with heap := h', toks := tk' }) : Go w mean mg mb hdl dp un h₀ L m s f vs news Q :=
  .mk S h1 h2 fun _ _ _ _ F N ⟨_, e1, ho, _, hi, hi'⟩ => by subst e1; exact ret _ _ _ F _ ho _ hi hi' N
end
local macro_rules | `(tactic| walk_at $s:str) => `(tactic| k_extra $s)
variable {w : World} {mean : ExcName → Option Value} {mg mb : Str → Option Value} {hdl : Option Value} {news rest : Led}
/-! C1 -/
theorem parts_spec {many size : Int} {t u : Tok} (hs : 0 < size) (hs2 : size < 1000000) :
    Spec 2 w mean mg mb hdl 53 [.int many t, .int size u] news (fun r n' => n' = news ∧ ∃ t, r = .int ((many + size - 1) / size) t) := by
  k_with_none
  (k_with "fr0" => exact FrameObj.mono (by assumption) (fun p9 h9 => by (repeat (first | exact h9 | (refine List.mem_append.mpr (Or.inr ?_)) | (refine List.Mem.tail _ ?_)))))
  (k_with "ho0" => exact HOk.mono (by assumption) (fun p9 h9 => by (repeat (first | exact h9 | (refine List.mem_append.mpr (Or.inr ?_)) | (refine List.Mem.tail _ ?_)))))
  (k_with "d" => first | exact roomD hdp rfl | exact roomD0 hdp rfl | ktr_room | omega)
  (k_with "u" => first | exact roomU hun rfl | exact roomU0 hun rfl | ktr_units | omega | (simp only [tc_units, units_deeper]; omega))
  (k_with "eval ListComp" => (k_here; with_unfolding_all refine' comp_start ?z9k1 ?z9k2 ?z9k3 ?_; (case z9k1 => exact rfl); (case z9k2 => exact rfl); (case z9k3 => decide)))
  (k_with "eval Name" => (k_here; with_unfolding_all refine' name_C (by with_reducible assumption) ?z9hv ?_ ?z9k1 ?z9k2 ?z9k3; (case z9k1 => exact rfl); (case z9k2 => exact rfl); (case z9k3 => decide); (case z9hv => assumption)))
  unfold Spec
  k_fill
  intro dp un gd cn0 cs0 a0 ccd0 cl0 outer A₀ base h₀ L m s Q E B F X N T hk hdp hun hret
  refine wpAny_call ?_
  refine' code_def (binds := [(Str.ofString "many", .int many t), (Str.ofString "size", .int size u)]) ?k1 ?k2 ?k3 ?k4 ?k5 ?kA ?kF ?kK ?k6 ?k7 ?k8 ?k9 ?kB ?_ ?c2 ?c3 ?c4 ?c5
  (case kA => exact rfl); (case kF => exact rfl); (case kK => assumption); (case k1 => k_asm); (case k2 => k_asm); (case k3 => k_asm); (case k4 => k_asm); (case k5 => k_asm); (case k6 => k_is); (case k7 => k_is); (case k8 => ktr_room)
  (case k9 => exact BindsTo.of_eq rfl); (case c5 => decide); (case kB => exact locs rfl); (case c2 => exact rfl); (case c3 => exact rfl); (case c4 => exact rfl)
  intro g' L' h' FG' F' N' B' X' T'
  (try dsimp only)
  (try k_fold)
  k_steps
  all_goals exact hret _ _ _ _ (by k_asm) (by k_asm) ⟨rfl, _, by rw [Int.fdiv_eq_ediv_of_nonneg _ (Int.le_of_lt hs)]⟩
theorem most_across_spec {v : Value} {f : FrameD} (hf : FrameObj w.params news v f) (H : HOk hdl news) (hn : 0 < f.cs.length) (hn2 : f.cs.length ≤ 2) :
    Spec 2 w mean mg mb hdl 93 [v] news (fun r n' => Grow news n' ∧ ∃ t, r = .int (mA f) t) := by
  k_with_none
  (k_with "fr0" => exact FrameObj.mono (by assumption) (fun p9 h9 => by (repeat (first | exact h9 | (refine List.mem_append.mpr (Or.inr ?_)) | (refine List.Mem.tail _ ?_)))))
  (k_with "ho0" => exact HOk.mono (by assumption) (fun p9 h9 => by (repeat (first | exact h9 | (refine List.mem_append.mpr (Or.inr ?_)) | (refine List.Mem.tail _ ?_)))))
  (k_with "d" => first | exact roomD hdp rfl | exact roomD0 hdp rfl | ktr_room | omega)
  (k_with "u" => first | exact roomU hun rfl | exact roomU0 hun rfl | ktr_units | omega | (simp only [tc_units, units_deeper]; omega))
  (k_with "eval ListComp" => (k_here; with_unfolding_all refine' comp_start ?z9k1 ?z9k2 ?z9k3 ?_; (case z9k1 => exact rfl); (case z9k2 => exact rfl); (case z9k3 => decide)))
  (k_with "eval Name" => (k_here; with_unfolding_all refine' name_C (by with_reducible assumption) ?z9hv ?_ ?z9k1 ?z9k2 ?z9k3; (case z9k1 => exact rfl); (case z9k2 => exact rfl); (case z9k3 => decide); (case z9hv => assumption)))
  unfold Spec
  k_fill
  intro dp un gd cn0 cs0 a0 ccd0 cl0 outer A₀ base h₀ L m s Q E B F X N T hk hdp hun hret
  refine via fun X9 hX9 => ?_
  refine FrameObj.elim (hf) fun x dx cl nn vs t1 t2 t3 t4 t5 t6 u1 u2 u3 u4 u6 e9 hx hdx hcl hcs => ?_
  subst e9
  clear hf
  refine hX9 ?_
  clear hX9 X9
  refine wpAny_call ?_
  refine' code_def (binds := [(Str.ofString "self", .ref x)]) ?k1 ?k2 ?k3 ?k4 ?k5 ?kA ?kF ?kK ?k6 ?k7 ?k8 ?k9 ?kB ?_ ?c2 ?c3 ?c4 ?c5
  (case kA => exact rfl); (case kF => exact rfl); (case kK => assumption); (case k1 => k_asm); (case k2 => k_asm); (case k3 => k_asm); (case k4 => k_asm); (case k5 => k_asm); (case k6 => k_is); (case k7 => k_is); (case k8 => ktr_room)
  (case k9 => exact BindsTo.of_eq rfl); (case c5 => decide); (case kB => exact locs rfl); (case c2 => exact rfl); (case c3 => exact rfl); (case c4 => exact rfl)
  intro g' L' h' FG' F' N' B' X' T'
  (try dsimp only)
  (try k_fold)
  k_steps
  refine comp_list (G := fun i ys nx => CompAll w.params nx vs f.cs ∧ IntsAre ys ((f.cs.take i).map (·.across))) hcl (HOk.fp H N' rfl) F' N' H.hf rfl (by decide) rfl ?T ?hz ⟨hcs, .nil⟩ ?D
  case hz => have := hcs.1; rw [sizeLine_eq]; omega
  case T =>
    intro i h tk ys nx led mC C oC hi hv hs hC hG F N hn E'
    refine via fun X9 hX9 => ?_
    obtain ⟨v, hv1, hv2⟩ := hv
    obtain ⟨hcs, hys⟩ := hG
    refine CompObj.elim (hcs.2 i v hv1) fun c hc1 xc dxc t1 t2 t3 t4 u1 u2 u3 u4 e9 hxc hdxc => ?_
    subst e9
    refine hX9 ?_
    clear hX9 X9
    replace hxc := hs _ hxc
    replace hdxc := hs _ hdxc
    k_steps
    refine ⟨_, _, [], rfl, F, N, Abv.nil, hcs, ?_⟩
    rw [List.take_add_one, hc1, List.map_append]
    exact IntsAre.append hys (.cons _ _ .nil)
  case D =>
    intro D h tk ys tl nD hlen F N hab hne hG
    have hys : IntsAre ys (f.cs.map (·.across)) := by
      have := hG.2
      rw [hcs.1, List.take_length] at this; exact this
    k_steps
    refine max_any (HOk.fp (H.mono fun p hp => .tail _ (List.mem_append.mpr (.inr hp))) N rfl) (fun b hb => let ⟨o, ho⟩ := H.hf b hb; ⟨o, .tail _ (List.mem_append.mpr (.inr ho))⟩) F N ⟨_, (N _ (.head _)).1, rfl, nD, rfl⟩ hys (by rw [List.length_map]; exact hn) fun h' M t tk' F' N' hM1 hM2 => ?_
    dsimp only
    k_steps
    exact hret _ _ _ _ (by k_asm) (by k_asm) ⟨⟨(D, listOf ys.toArray nD) :: tl, rfl, hab⟩, t, by rw [show mA f = M from mx_eq hM1 hM2]⟩
theorem most_down_spec {v : Value} {f : FrameD} (hf : FrameObj w.params news v f) (H : HOk hdl news) (hn : 0 < f.cs.length) (hn2 : f.cs.length ≤ 2) :
    Spec 2 w mean mg mb hdl 98 [v] news (fun r n' => Grow news n' ∧ ∃ t, r = .int (mD f) t) := by
  k_with_none
  (k_with "fr0" => exact FrameObj.mono (by assumption) (fun p9 h9 => by (repeat (first | exact h9 | (refine List.mem_append.mpr (Or.inr ?_)) | (refine List.Mem.tail _ ?_)))))
  (k_with "ho0" => exact HOk.mono (by assumption) (fun p9 h9 => by (repeat (first | exact h9 | (refine List.mem_append.mpr (Or.inr ?_)) | (refine List.Mem.tail _ ?_)))))
  (k_with "d" => first | exact roomD hdp rfl | exact roomD0 hdp rfl | ktr_room | omega)
  (k_with "u" => first | exact roomU hun rfl | exact roomU0 hun rfl | ktr_units | omega | (simp only [tc_units, units_deeper]; omega))
  (k_with "eval ListComp" => (k_here; with_unfolding_all refine' comp_start ?z9k1 ?z9k2 ?z9k3 ?_; (case z9k1 => exact rfl); (case z9k2 => exact rfl); (case z9k3 => decide)))
  (k_with "eval Name" => (k_here; with_unfolding_all refine' name_C (by with_reducible assumption) ?z9hv ?_ ?z9k1 ?z9k2 ?z9k3; (case z9k1 => exact rfl); (case z9k2 => exact rfl); (case z9k3 => decide); (case z9hv => assumption)))
  unfold Spec
  k_fill
  intro dp un gd cn0 cs0 a0 ccd0 cl0 outer A₀ base h₀ L m s Q E B F X N T hk hdp hun hret
  refine via fun X9 hX9 => ?_
  refine FrameObj.elim (hf) fun x dx cl nn vs t1 t2 t3 t4 t5 t6 u1 u2 u3 u4 u6 e9 hx hdx hcl hcs => ?_
  subst e9
  clear hf
  refine hX9 ?_
  clear hX9 X9
  refine wpAny_call ?_
  refine' code_def (binds := [(Str.ofString "self", .ref x)]) ?k1 ?k2 ?k3 ?k4 ?k5 ?kA ?kF ?kK ?k6 ?k7 ?k8 ?k9 ?kB ?_ ?c2 ?c3 ?c4 ?c5
  (case kA => exact rfl); (case kF => exact rfl); (case kK => assumption); (case k1 => k_asm); (case k2 => k_asm); (case k3 => k_asm); (case k4 => k_asm); (case k5 => k_asm); (case k6 => k_is); (case k7 => k_is); (case k8 => ktr_room)
  (case k9 => exact BindsTo.of_eq rfl); (case c5 => decide); (case kB => exact locs rfl); (case c2 => exact rfl); (case c3 => exact rfl); (case c4 => exact rfl)
  intro g' L' h' FG' F' N' B' X' T'
  (try dsimp only)
  (try k_fold)
  k_steps
  refine comp_list (G := fun i ys nx => CompAll w.params nx vs f.cs ∧ IntsAre ys ((f.cs.take i).map (·.down))) hcl (HOk.fp H N' rfl) F' N' H.hf rfl (by decide) rfl ?T ?hz ⟨hcs, .nil⟩ ?D
  case hz => have := hcs.1; rw [sizeLine_eq]; omega
  case T =>
    intro i h tk ys nx led mC C oC hi hv hs hC hG F N hn E'
    refine via fun X9 hX9 => ?_
    obtain ⟨v, hv1, hv2⟩ := hv
    obtain ⟨hcs, hys⟩ := hG
    refine CompObj.elim (hcs.2 i v hv1) fun c hc1 xc dxc t1 t2 t3 t4 u1 u2 u3 u4 e9 hxc hdxc => ?_
    subst e9
    refine hX9 ?_
    clear hX9 X9
    replace hxc := hs _ hxc
    replace hdxc := hs _ hdxc
    k_steps
    refine ⟨_, _, [], rfl, F, N, Abv.nil, hcs, ?_⟩
    rw [List.take_add_one, hc1, List.map_append]
    exact IntsAre.append hys (.cons _ _ .nil)
  case D =>
    intro D h tk ys tl nD hlen F N hab hne hG
    have hys : IntsAre ys (f.cs.map (·.down)) := by
      have := hG.2
      rw [hcs.1, List.take_length] at this; exact this
    k_steps
    refine max_any (HOk.fp (H.mono fun p hp => .tail _ (List.mem_append.mpr (.inr hp))) N rfl) (fun b hb => let ⟨o, ho⟩ := H.hf b hb; ⟨o, .tail _ (List.mem_append.mpr (.inr ho))⟩) F N ⟨_, (N _ (.head _)).1, rfl, nD, rfl⟩ hys (by rw [List.length_map]; exact hn) fun h' M t tk' F' N' hM1 hM2 => ?_
    dsimp only
    k_steps
    exact hret _ _ _ _ (by k_asm) (by k_asm) ⟨⟨(D, listOf ys.toArray nD) :: tl, rfl, hab⟩, t, by rw [show mD f = M from mx_eq hM1 hM2]⟩
theorem mcus_across_spec {v : Value} {f : FrameD} (hf : FrameObj w.params news v f) (H : HOk hdl news) (hn : 0 < f.cs.length) (hn2 : f.cs.length ≤ 2) (hA : 0 < mA f ∧ mA f ≤ 2) :
    Spec 4 w mean mg mb hdl 105 [v] news (fun r n' => Grow news n' ∧ ∃ t, r = .int ((f.width + 2 * mA f - 1) / (2 * mA f)) t) := by
  k_with_none
  (k_with "fr0" => exact FrameObj.mono (by assumption) (fun p9 h9 => by (repeat (first | exact h9 | (refine List.mem_append.mpr (Or.inr ?_)) | (refine List.Mem.tail _ ?_)))))
  (k_with "ho0" => exact HOk.mono (by assumption) (fun p9 h9 => by (repeat (first | exact h9 | (refine List.mem_append.mpr (Or.inr ?_)) | (refine List.Mem.tail _ ?_)))))
  (k_with "d" => first | exact roomD hdp rfl | exact roomD0 hdp rfl | ktr_room | omega)
  (k_with "u" => first | exact roomU hun rfl | exact roomU0 hun rfl | ktr_units | omega | (simp only [tc_units, units_deeper]; omega))
  (k_with "eval ListComp" => (k_here; with_unfolding_all refine' comp_start ?z9k1 ?z9k2 ?z9k3 ?_; (case z9k1 => exact rfl); (case z9k2 => exact rfl); (case z9k3 => decide)))
  (k_with "eval Name" => (k_here; with_unfolding_all refine' name_C (by with_reducible assumption) ?z9hv ?_ ?z9k1 ?z9k2 ?z9k3; (case z9k1 => exact rfl); (case z9k2 => exact rfl); (case z9k3 => decide); (case z9hv => assumption)))
  (k_with "call ref" => (k_here; with_unfolding_all refine' Spec.go ?z9uB ?z9uF ?z9uX ?z9uN ?z9uT ?z9uk ?_; (case z9uB => k_asm); (case z9uF => k_asm); (case z9uX => k_asm); (case z9uN => k_asm); (case z9uT => k_asm); (case z9uk => first | exact rfl | assumption); (first | (refine' Go.intG (most_across_spec ?z9pa ?z9pb ?z9pc ?z9pd) ?z9p8 ?z9p9 ?_; (case z9pa => k_extra "fr0"); (case z9pb => k_extra "ho0"); (case z9pc => assumption); (case z9pd => assumption); (case z9p8 => k_extra "d"); (case z9p9 => k_extra "u"); intro h9 tk9 F9 tl9 ha9 t9 N9; revert h9 tk9 F9 tl9 ha9 t9 N9; intro _ _ _ _ _ _ _) | (refine' Go.intG (most_down_spec ?z9pa ?z9pb ?z9pc ?z9pd) ?z9p8 ?z9p9 ?_; (case z9pa => k_extra "fr0"); (case z9pb => k_extra "ho0"); (case z9pc => assumption); (case z9pd => assumption); (case z9p8 => k_extra "d"); (case z9p9 => k_extra "u"); intro h9 tk9 F9 tl9 ha9 t9 N9; revert h9 tk9 F9 tl9 ha9 t9 N9; intro _ _ _ _ _ _ _) | (refine' Go.int (parts_spec ?z9pa ?z9pb) ?z9p8 ?z9p9 ?_; (case z9pa => first | with_reducible assumption | decide | omega); (case z9pb => first | with_reducible assumption | decide | omega); (case z9p8 => k_extra "d"); (case z9p9 => k_extra "u"); intro h9 tk9 F9 t9 N9; revert h9 tk9 F9 t9 N9; intro _ _ _ _ _)); (try k_sweep); (try dsimp only); (try k_fold)))
  unfold Spec
  k_fill
  intro dp un gd cn0 cs0 a0 ccd0 cl0 outer A₀ base h₀ L m s Q E B F X N T hk hdp hun hret
  have hf' := hf
  refine via fun X9 hX9 => ?_
  refine FrameObj.elim (hf) fun x dx cl nn vs t1 t2 t3 t4 t5 t6 u1 u2 u3 u4 u6 e9 hx hdx hcl hcs => ?_
  subst e9
  clear hf
  refine hX9 ?_
  clear hX9 X9
  refine wpAny_call ?_
  refine' code_def (binds := [(Str.ofString "self", .ref x)]) ?k1 ?k2 ?k3 ?k4 ?k5 ?kA ?kF ?kK ?k6 ?k7 ?k8 ?k9 ?kB ?_ ?c2 ?c3 ?c4 ?c5
  (case kA => exact rfl); (case kF => exact rfl); (case kK => assumption); (case k1 => k_asm); (case k2 => k_asm); (case k3 => k_asm); (case k4 => k_asm); (case k5 => k_asm); (case k6 => k_is); (case k7 => k_is); (case k8 => ktr_room)
  (case k9 => exact BindsTo.of_eq rfl); (case c5 => decide); (case kB => exact locs rfl); (case c2 => exact rfl); (case c3 => exact rfl); (case c4 => exact rfl)
  intro g' L' h' FG' F' N' B' X' T'
  (try dsimp only)
  (try k_fold)
  k_steps
  all_goals exact hret _ _ _ _ (by k_asm) (by k_asm) ⟨by (repeat (first | exact grow_nil | (refine grow_app ?_ (by assumption)) | (refine grow_consL ?_ (by first | assumption | exact allLt_of (by assumption))))), _, rfl⟩
theorem mcus_down_spec {v : Value} {f : FrameD} (hf : FrameObj w.params news v f) (H : HOk hdl news) (hn : 0 < f.cs.length) (hn2 : f.cs.length ≤ 2) (hA : 0 < mD f ∧ mD f ≤ 2) :
    Spec 4 w mean mg mb hdl 112 [v] news (fun r n' => Grow news n' ∧ ∃ t, r = .int ((f.height + 2 * mD f - 1) / (2 * mD f)) t) := by
  k_with_none
  (k_with "fr0" => exact FrameObj.mono (by assumption) (fun p9 h9 => by (repeat (first | exact h9 | (refine List.mem_append.mpr (Or.inr ?_)) | (refine List.Mem.tail _ ?_)))))
  (k_with "ho0" => exact HOk.mono (by assumption) (fun p9 h9 => by (repeat (first | exact h9 | (refine List.mem_append.mpr (Or.inr ?_)) | (refine List.Mem.tail _ ?_)))))
  (k_with "d" => first | exact roomD hdp rfl | exact roomD0 hdp rfl | ktr_room | omega)
  (k_with "u" => first | exact roomU hun rfl | exact roomU0 hun rfl | ktr_units | omega | (simp only [tc_units, units_deeper]; omega))
  (k_with "eval ListComp" => (k_here; with_unfolding_all refine' comp_start ?z9k1 ?z9k2 ?z9k3 ?_; (case z9k1 => exact rfl); (case z9k2 => exact rfl); (case z9k3 => decide)))
  (k_with "eval Name" => (k_here; with_unfolding_all refine' name_C (by with_reducible assumption) ?z9hv ?_ ?z9k1 ?z9k2 ?z9k3; (case z9k1 => exact rfl); (case z9k2 => exact rfl); (case z9k3 => decide); (case z9hv => assumption)))
  (k_with "call ref" => (k_here; with_unfolding_all refine' Spec.go ?z9uB ?z9uF ?z9uX ?z9uN ?z9uT ?z9uk ?_; (case z9uB => k_asm); (case z9uF => k_asm); (case z9uX => k_asm); (case z9uN => k_asm); (case z9uT => k_asm); (case z9uk => first | exact rfl | assumption); (first | (refine' Go.intG (most_across_spec ?z9pa ?z9pb ?z9pc ?z9pd) ?z9p8 ?z9p9 ?_; (case z9pa => k_extra "fr0"); (case z9pb => k_extra "ho0"); (case z9pc => assumption); (case z9pd => assumption); (case z9p8 => k_extra "d"); (case z9p9 => k_extra "u"); intro h9 tk9 F9 tl9 ha9 t9 N9; revert h9 tk9 F9 tl9 ha9 t9 N9; intro _ _ _ _ _ _ _) | (refine' Go.intG (most_down_spec ?z9pa ?z9pb ?z9pc ?z9pd) ?z9p8 ?z9p9 ?_; (case z9pa => k_extra "fr0"); (case z9pb => k_extra "ho0"); (case z9pc => assumption); (case z9pd => assumption); (case z9p8 => k_extra "d"); (case z9p9 => k_extra "u"); intro h9 tk9 F9 tl9 ha9 t9 N9; revert h9 tk9 F9 tl9 ha9 t9 N9; intro _ _ _ _ _ _ _) | (refine' Go.int (parts_spec ?z9pa ?z9pb) ?z9p8 ?z9p9 ?_; (case z9pa => first | with_reducible assumption | decide | omega); (case z9pb => first | with_reducible assumption | decide | omega); (case z9p8 => k_extra "d"); (case z9p9 => k_extra "u"); intro h9 tk9 F9 t9 N9; revert h9 tk9 F9 t9 N9; intro _ _ _ _ _)); (try k_sweep); (try dsimp only); (try k_fold)))
  unfold Spec
  k_fill
  intro dp un gd cn0 cs0 a0 ccd0 cl0 outer A₀ base h₀ L m s Q E B F X N T hk hdp hun hret
  have hf' := hf
  refine via fun X9 hX9 => ?_
  refine FrameObj.elim (hf) fun x dx cl nn vs t1 t2 t3 t4 t5 t6 u1 u2 u3 u4 u6 e9 hx hdx hcl hcs => ?_
  subst e9
  clear hf
  refine hX9 ?_
  clear hX9 X9
  refine wpAny_call ?_
  refine' code_def (binds := [(Str.ofString "self", .ref x)]) ?k1 ?k2 ?k3 ?k4 ?k5 ?kA ?kF ?kK ?k6 ?k7 ?k8 ?k9 ?kB ?_ ?c2 ?c3 ?c4 ?c5
  (case kA => exact rfl); (case kF => exact rfl); (case kK => assumption); (case k1 => k_asm); (case k2 => k_asm); (case k3 => k_asm); (case k4 => k_asm); (case k5 => k_asm); (case k6 => k_is); (case k7 => k_is); (case k8 => ktr_room)
  (case k9 => exact BindsTo.of_eq rfl); (case c5 => decide); (case kB => exact locs rfl); (case c2 => exact rfl); (case c3 => exact rfl); (case c4 => exact rfl)
  intro g' L' h' FG' F' N' B' X' T'
  (try dsimp only)
  (try k_fold)
  k_steps
  all_goals exact hret _ _ _ _ (by k_asm) (by k_asm) ⟨by (repeat (first | exact grow_nil | (refine grow_app ?_ (by assumption)) | (refine grow_consL ?_ (by first | assumption | exact allLt_of (by assumption))))), _, rfl⟩
abbrev mW (f : FrameD) : Int := (f.width + 2 * mA f - 1) / (2 * mA f)
abbrev mH (f : FrameD) : Int := (f.height + 2 * mD f - 1) / (2 * mD f)
theorem padded_spec {v : Value} {f : FrameD} {k : Int} {tk0 : Tok} {c : CompD} (hf : FrameObj w.params news v f) (H : HOk hdl news) (hn : 0 < f.cs.length) (hn2 : f.cs.length ≤ 2) (hA : 0 < mA f ∧ mA f ≤ 2) (hD : 0 < mD f ∧ mD f ≤ 2)
    (hk0 : 0 ≤ k) (hk2 : k < 2) (hc : f.cs[k.toNat]? = some c) (hc1 : 0 ≤ c.across ∧ c.across ≤ 2) (hc2 : 0 ≤ c.down ∧ c.down ≤ 2) :
    Spec 6 w mean mg mb hdl 133 [v, .int k tk0] news (fun r n' => Grow news n' ∧ ∃ tp t1 t2, r = .ref tp ∧ (tp, tupOf #[.int (mW f * c.across) t1, .int (mH f * c.down) t2]) ∈ n') := by
  k_with_none
  (k_with "fr0" => exact FrameObj.mono (by assumption) (fun p9 h9 => by (repeat (first | exact h9 | (refine List.mem_append.mpr (Or.inr ?_)) | (refine List.Mem.tail _ ?_)))))
  (k_with "ho0" => exact HOk.mono (by assumption) (fun p9 h9 => by (repeat (first | exact h9 | (refine List.mem_append.mpr (Or.inr ?_)) | (refine List.Mem.tail _ ?_)))))
  (k_with "d" => first | exact roomD hdp rfl | exact roomD0 hdp rfl | ktr_room | omega)
  (k_with "u" => first | exact roomU hun rfl | exact roomU0 hun rfl | ktr_units | omega | (simp only [tc_units, units_deeper]; omega))
  (k_with "eval ListComp" => (k_here; with_unfolding_all refine' comp_start ?z9k1 ?z9k2 ?z9k3 ?_; (case z9k1 => exact rfl); (case z9k2 => exact rfl); (case z9k3 => decide)))
  (k_with "eval Name" => (k_here; with_unfolding_all refine' name_C (by with_reducible assumption) ?z9hv ?_ ?z9k1 ?z9k2 ?z9k3; (case z9k1 => exact rfl); (case z9k2 => exact rfl); (case z9k3 => decide); (case z9hv => assumption)))
  (k_with "call ref" => (k_here; with_unfolding_all refine' Spec.go ?z9uB ?z9uF ?z9uX ?z9uN ?z9uT ?z9uk ?_; (case z9uB => k_asm); (case z9uF => k_asm); (case z9uX => k_asm); (case z9uN => k_asm); (case z9uT => k_asm); (case z9uk => first | exact rfl | assumption); (first | (refine' Go.intG (mcus_across_spec ?z9pa ?z9pb ?z9pc ?z9pd ?z9pe) ?z9p8 ?z9p9 ?_; (case z9pa => k_extra "fr0"); (case z9pb => k_extra "ho0"); (case z9pc => assumption); (case z9pd => assumption); (case z9pe => assumption); (case z9p8 => k_extra "d"); (case z9p9 => k_extra "u"); intro h9 tk9 F9 tl9 ha9 t9 N9; revert h9 tk9 F9 tl9 ha9 t9 N9; intro _ _ _ _ _ _ _) | (refine' Go.intG (mcus_down_spec ?z9pa ?z9pb ?z9pc ?z9pd ?z9pe) ?z9p8 ?z9p9 ?_; (case z9pa => k_extra "fr0"); (case z9pb => k_extra "ho0"); (case z9pc => assumption); (case z9pd => assumption); (case z9pe => assumption); (case z9p8 => k_extra "d"); (case z9p9 => k_extra "u"); intro h9 tk9 F9 tl9 ha9 t9 N9; revert h9 tk9 F9 tl9 ha9 t9 N9; intro _ _ _ _ _ _ _) | (refine' Go.intG (most_across_spec ?z9pa ?z9pb ?z9pc ?z9pd) ?z9p8 ?z9p9 ?_; (case z9pa => k_extra "fr0"); (case z9pb => k_extra "ho0"); (case z9pc => assumption); (case z9pd => assumption); (case z9p8 => k_extra "d"); (case z9p9 => k_extra "u"); intro h9 tk9 F9 tl9 ha9 t9 N9; revert h9 tk9 F9 tl9 ha9 t9 N9; intro _ _ _ _ _ _ _) | (refine' Go.intG (most_down_spec ?z9pa ?z9pb ?z9pc ?z9pd) ?z9p8 ?z9p9 ?_; (case z9pa => k_extra "fr0"); (case z9pb => k_extra "ho0"); (case z9pc => assumption); (case z9pd => assumption); (case z9p8 => k_extra "d"); (case z9p9 => k_extra "u"); intro h9 tk9 F9 tl9 ha9 t9 N9; revert h9 tk9 F9 tl9 ha9 t9 N9; intro _ _ _ _ _ _ _) | (refine' Go.int (parts_spec ?z9pa ?z9pb) ?z9p8 ?z9p9 ?_; (case z9pa => first | with_reducible assumption | decide | omega); (case z9pb => first | with_reducible assumption | decide | omega); (case z9p8 => k_extra "d"); (case z9p9 => k_extra "u"); intro h9 tk9 F9 t9 N9; revert h9 tk9 F9 t9 N9; intro _ _ _ _ _)); (try k_sweep); (try dsimp only); (try k_fold)))
  (k_with "subscriptTail" => (k_here; with_unfolding_all refine' item_of ?z9hm ?z9N ?z9h0 ?z9h1 ?z9hx ?_ ?z9hs; (case z9hm => k_mem); (case z9N => k_asm); (case z9h0 => first | assumption | decide | omega); (case z9h1 => first | with_reducible assumption | decide | omega); (case z9hx => assumption); (case z9hs => with_unfolding_all rfl)))
  unfold Spec
  k_fill
  intro dp un gd cn0 cs0 a0 ccd0 cl0 outer A₀ base h₀ L m s Q E B F X N T hk hdp hun hret
  have hf' := hf
  refine via fun X9 hX9 => ?_
  refine FrameObj.elim (hf) fun x dx cl nn vs t1 t2 t3 t4 t5 t6 u1 u2 u3 u4 u6 e9 hx hdx hcl hcs => ?_
  subst e9
  clear hf
  refine CompObj.elim' (hcs.at' hc) fun cv hcv xc dxc s1 s2 s3 s4 r1 r2 r3 r4 e9 hxc hdxc => ?_
  subst e9
  refine hX9 ?_
  clear hX9 X9
  refine wpAny_call ?_
  refine' code_def (binds := [(Str.ofString "self", .ref x), (Str.ofString "place", .int k tk0)]) ?k1 ?k2 ?k3 ?k4 ?k5 ?kA ?kF ?kK ?k6 ?k7 ?k8 ?k9 ?kB ?_ ?c2 ?c3 ?c4 ?c5
  (case kA => exact rfl); (case kF => exact rfl); (case kK => assumption); (case k1 => k_asm); (case k2 => k_asm); (case k3 => k_asm); (case k4 => k_asm); (case k5 => k_asm); (case k6 => k_is); (case k7 => k_is); (case k8 => ktr_room)
  (case k9 => exact BindsTo.of_eq rfl); (case c5 => decide); (case kB => exact locs rfl); (case c2 => exact rfl); (case c3 => exact rfl); (case c4 => exact rfl)
  intro g' L' h' FG' F' N' B' X' T'
  (try dsimp only)
  (try k_fold)
  k_steps
  all_goals exact hret _ _ _ _ (by k_asm) (by k_asm) ⟨by (repeat (first | exact grow_nil | (refine grow_app ?_ (by assumption)) | (refine grow_consL ?_ (by first | assumption | exact allLt_of (by assumption))))), _, _, _, rfl, .head _⟩
/-! C2 -/
theorem grow_inst {news n : Led} {x d : Addr} {o od : Obj} (h : Grow news n) (l1 : AllLt d n) (l2 : @LT.lt Nat _ d x) : Grow news ((x, o) :: (d, od) :: n) :=
  grow_cons (grow_consL h l1) fun p hp => by
    rcases List.mem_cons.mp hp with rfl | hp
    · exact l2
    · exact Nat.lt_trans (ktn_ltOf l1 p hp) l2
theorem abv_inst {n : Led} {x d : Addr} {o od : Obj} (l1 : ∀ p ∈ n, p.1 < d) (l2 : @LT.lt Nat _ d x) : Abv n [(x, o), (d, od)] := fun q hq p hp => by
  rcases List.mem_cons.mp hp with rfl | hp
  · exact Nat.lt_trans (l1 q hq) l2
  · rw [List.mem_singleton.mp hp]; exact l1 q hq
theorem component_spec {ci ca cd cq : Int} {t1 t2 t3 t4 : Tok} :
    Spec 2 w mean mg mb hdl 70 [.int ci t1, .int ca t2, .int cd t3, .int cq t4] news (fun r n' => ∃ tl, n' = tl ++ news ∧ Abv news tl ∧ CompObj w.params tl r ⟨ci, ca, cd, cq⟩) := by
  k_with_none
  (k_with "fr0" => exact FrameObj.mono (by assumption) (fun p9 h9 => by (repeat (first | exact h9 | (refine List.mem_append.mpr (Or.inr ?_)) | (refine List.Mem.tail _ ?_)))))
  (k_with "ho0" => exact HOk.mono (by assumption) (fun p9 h9 => by (repeat (first | exact h9 | (refine List.mem_append.mpr (Or.inr ?_)) | (refine List.Mem.tail _ ?_)))))
  (k_with "d" => first | exact roomD hdp rfl | exact roomD0 hdp rfl | ktr_room | omega)
  (k_with "u" => first | exact roomU hun rfl | exact roomU0 hun rfl | ktr_units | omega | (simp only [tc_units, units_deeper]; omega))
  (k_with "eval ListComp" => (k_here; with_unfolding_all refine' comp_start ?z9k1 ?z9k2 ?z9k3 ?_; (case z9k1 => exact rfl); (case z9k2 => exact rfl); (case z9k3 => decide)))
  unfold Spec
  k_fill
  intro dp un gd cn0 cs0 a0 ccd0 cl0 outer A₀ base h₀ L m s Q E B F X N T hk hdp hun hret
  refine' call_cls ?k1 ?k2 ?k3 ?k4 ?k5 ?k6 ?_
  (case k1 => k_asm); (case k2 => k_asm); (case k3 => k_asm); (case k4 => k_is); (case k5 => k_is); (case k6 => k_is)
  intro x0 d0 h0 F0 N0 l1 l2
  (try k_lt l1)
  (try k_lt2 l2)
  refine' code_def (binds := [(Str.ofString "self", .ref x0), (Str.ofString "ident", .int ci t1), (Str.ofString "across", .int ca t2), (Str.ofString "down", .int cd t3), (Str.ofString "quant", .int cq t4)]) ?k1 ?k2 ?k3 ?k4 ?k5 ?kA ?kF ?kK ?k6 ?k7 ?k8 ?k9 ?kB ?_ ?c2 ?c3 ?c4 ?c5
  (case kA => exact rfl); (case kF => exact rfl); (case kK => assumption); (case k1 => k_asm); (case k2 => k_asm); (case k3 => k_asm); (case k4 => k_asm); (case k5 => k_asm); (case k6 => k_is); (case k7 => k_is); (case k8 => ktr_room)
  (case k9 => exact BindsTo.of_eq rfl); (case c5 => decide); (case kB => exact locs rfl); (case c2 => exact rfl); (case c3 => exact rfl); (case c4 => exact rfl)
  intro g' L' h' FG' F' N' B' X' T'
  (try dsimp only)
  (try k_fold)
  k_steps
  all_goals exact hret _ _ _ _ (by k_asm) (by k_asm) ⟨[_, _], rfl, abv_inst (by assumption) (by assumption), _, _, _, _, _, _, _, _, _, _, rfl, .head _, .tail _ (.head _)⟩
theorem frame_spec {hh ww : Int} {cs : List CompD} {cl : Addr} {nn : Nat} {vs : List Value} {t1 t2 t3 t4 t6 : Tok} (hcl : (cl, listOf vs.toArray nn) ∈ news) (hcs : CompAll w.params news vs cs) :
    Spec 2 w mean mg mb hdl 136 [.str "progressive" t1, .int 8 t2, .int hh t3, .int ww t4, .ref cl, .int 2 t6] news (fun r n' => Grow news n' ∧ FrameObj w.params n' r ⟨hh, ww, cs⟩) := by
  k_with_none
  (k_with "fr0" => exact FrameObj.mono (by assumption) (fun p9 h9 => by (repeat (first | exact h9 | (refine List.mem_append.mpr (Or.inr ?_)) | (refine List.Mem.tail _ ?_)))))
  (k_with "ho0" => exact HOk.mono (by assumption) (fun p9 h9 => by (repeat (first | exact h9 | (refine List.mem_append.mpr (Or.inr ?_)) | (refine List.Mem.tail _ ?_)))))
  (k_with "d" => first | exact roomD hdp rfl | exact roomD0 hdp rfl | ktr_room | omega)
  (k_with "u" => first | exact roomU hun rfl | exact roomU0 hun rfl | ktr_units | omega | (simp only [tc_units, units_deeper]; omega))
  (k_with "eval ListComp" => (k_here; with_unfolding_all refine' comp_start ?z9k1 ?z9k2 ?z9k3 ?_; (case z9k1 => exact rfl); (case z9k2 => exact rfl); (case z9k3 => decide)))
  unfold Spec
  k_fill
  intro dp un gd cn0 cs0 a0 ccd0 cl0 outer A₀ base h₀ L m s Q E B F X N T hk hdp hun hret
  refine' call_cls ?k1 ?k2 ?k3 ?k4 ?k5 ?k6 ?_
  (case k1 => k_asm); (case k2 => k_asm); (case k3 => k_asm); (case k4 => k_is); (case k5 => k_is); (case k6 => k_is)
  intro x0 d0 h0 F0 N0 l1 l2
  (try k_lt l1)
  (try k_lt2 l2)
  refine' code_def (binds := [(Str.ofString "self", .ref x0), (Str.ofString "kind", .str "progressive" t1), (Str.ofString "precision", .int 8 t2), (Str.ofString "height", .int hh t3), (Str.ofString "width", .int ww t4), (Str.ofString "components", .ref cl), (Str.ofString "n", .int 2 t6)]) ?k1 ?k2 ?k3 ?k4 ?k5 ?kA ?kF ?kK ?k6 ?k7 ?k8 ?k9 ?kB ?_ ?c2 ?c3 ?c4 ?c5
  (case kA => exact rfl); (case kF => exact rfl); (case kK => assumption); (case k1 => k_asm); (case k2 => k_asm); (case k3 => k_asm); (case k4 => k_asm); (case k5 => k_asm); (case k6 => k_is); (case k7 => k_is); (case k8 => ktr_room)
  (case k9 => exact BindsTo.of_eq rfl); (case c5 => decide); (case kB => exact locs rfl); (case c2 => exact rfl); (case c3 => exact rfl); (case c4 => exact rfl)
  intro g' L' h' FG' F' N' B' X' T'
  (try dsimp only)
  (try k_fold)
  k_steps
  all_goals exact hret _ _ _ _ (by k_asm) (by k_asm) ⟨grow_inst grow_nil (by first | assumption | exact allLt_of (by assumption)) (by assumption), _, _, _, _, _, _, _, _, _, _, _, _, _, _, _, _, rfl, .head _, .tail _ (.head _), .tail _ (.tail _ hcl), hcs.mono fun p hp => .tail _ (.tail _ hp)⟩
theorem unit_size_spec {v : Value} {f : FrameD} (hf : FrameObj w.params news v f) (H : HOk hdl news) (hn : 0 < f.cs.length) (hn2 : f.cs.length ≤ 2) :
    Spec 4 w mean mg mb hdl 183 [v] news (fun r n' => Grow news n' ∧ ∃ tp t1 t2, r = .ref tp ∧ (tp, tupOf #[.int (mA f * 2) t1, .int (mD f * 2) t2]) ∈ n') := by
  k_with_none
  (k_with "fr0" => exact FrameObj.mono (by assumption) (fun p9 h9 => by (repeat (first | exact h9 | (refine List.mem_append.mpr (Or.inr ?_)) | (refine List.Mem.tail _ ?_)))))
  (k_with "ho0" => exact HOk.mono (by assumption) (fun p9 h9 => by (repeat (first | exact h9 | (refine List.mem_append.mpr (Or.inr ?_)) | (refine List.Mem.tail _ ?_)))))
  (k_with "d" => first | exact roomD hdp rfl | exact roomD0 hdp rfl | ktr_room | omega)
  (k_with "u" => first | exact roomU hun rfl | exact roomU0 hun rfl | ktr_units | omega | (simp only [tc_units, units_deeper]; omega))
  (k_with "eval ListComp" => (k_here; with_unfolding_all refine' comp_start ?z9k1 ?z9k2 ?z9k3 ?_; (case z9k1 => exact rfl); (case z9k2 => exact rfl); (case z9k3 => decide)))
  (k_with "call ref" => (k_here; with_unfolding_all refine' Spec.go ?z9uB ?z9uF ?z9uX ?z9uN ?z9uT ?z9uk ?_; (case z9uB => k_asm); (case z9uF => k_asm); (case z9uX => k_asm); (case z9uN => k_asm); (case z9uT => k_asm); (case z9uk => first | exact rfl | assumption); (first | (refine' Go.intG (most_across_spec ?z9pa ?z9pb ?z9pc ?z9pd) ?z9p8 ?z9p9 ?_; (case z9pa => k_extra "fr0"); (case z9pb => k_extra "ho0"); (case z9pc => assumption); (case z9pd => assumption); (case z9p8 => k_extra "d"); (case z9p9 => k_extra "u"); intro h9 tk9 F9 tl9 ha9 t9 N9; revert h9 tk9 F9 tl9 ha9 t9 N9; intro _ _ _ _ _ _ _) | (refine' Go.intG (most_down_spec ?z9pa ?z9pb ?z9pc ?z9pd) ?z9p8 ?z9p9 ?_; (case z9pa => k_extra "fr0"); (case z9pb => k_extra "ho0"); (case z9pc => assumption); (case z9pd => assumption); (case z9p8 => k_extra "d"); (case z9p9 => k_extra "u"); intro h9 tk9 F9 tl9 ha9 t9 N9; revert h9 tk9 F9 tl9 ha9 t9 N9; intro _ _ _ _ _ _ _)); (try k_sweep); (try dsimp only); (try k_fold)))
  unfold Spec
  k_fill
  intro dp un gd cn0 cs0 a0 ccd0 cl0 outer A₀ base h₀ L m s Q E B F X N T hk hdp hun hret
  have hf' := hf
  refine via fun X9 hX9 => ?_
  refine FrameObj.elim (hf) fun x dx cl nn vs t1 t2 t3 t4 t5 t6 u1 u2 u3 u4 u6 e9 hx hdx hcl hcs => ?_
  subst e9
  clear hf
  refine hX9 ?_
  clear hX9 X9
  refine wpAny_call ?_
  refine' code_def (binds := [(Str.ofString "frame", .ref x)]) ?k1 ?k2 ?k3 ?k4 ?k5 ?kA ?kF ?kK ?k6 ?k7 ?k8 ?k9 ?kB ?_ ?c2 ?c3 ?c4 ?c5
  (case kA => exact rfl); (case kF => exact rfl); (case kK => assumption); (case k1 => k_asm); (case k2 => k_asm); (case k3 => k_asm); (case k4 => k_asm); (case k5 => k_asm); (case k6 => k_is); (case k7 => k_is); (case k8 => ktr_room)
  (case k9 => exact BindsTo.of_eq rfl); (case c5 => decide); (case kB => exact locs rfl); (case c2 => exact rfl); (case c3 => exact rfl); (case c4 => exact rfl)
  intro g' L' h' FG' F' N' B' X' T'
  (try dsimp only)
  (try k_fold)
  k_steps
  all_goals exact hret _ _ _ _ (by k_asm) (by k_asm) ⟨by (repeat (first | exact grow_nil | (refine grow_app ?_ (by assumption)) | (refine grow_consL ?_ (by first | assumption | exact allLt_of (by assumption))))), _, _, _, rfl, .head _⟩
/-! C3 -/
section
/-- the pool of the draws -/
def SrcOk (o : Obj) : Prop := ∃ a b ta tb n0, o = listOf [Value.int a ta, Value.int b tb].toArray n0 ∧ 0 ≤ b ∧ b < 2147483647
local macro_rules | `(tactic| k_all) => `(tactic| assumption)
theorem fm_bd (x : Int) : 0 ≤ Int.fmod x 2147483647 ∧ Int.fmod x 2147483647 < 2147483647 := ⟨Int.fmod_nonneg_of_pos _ (by decide), Int.fmod_lt_of_pos _ (by decide)⟩
theorem sq_ok (x y : Int) : IntMulOk (Int.fmod x 2147483647) y := PySem.IntMulOk.of_left (PySem.intBits_le_64 (by have := (fm_bd x).1; omega) (by have := (fm_bd x).2; omega))
theorem take_spec {src : Addr} {o : Obj} {top : Int} {tt : Tok} (ho : SrcOk o) (hne : ∀ p ∈ rest, p.1 ≠ src) (ht : 0 < top) (ht2 : top < 1000) :
    Spec 2 w mean mg mb none 232 [.ref src, .int top tt] ((src, o) :: rest) (fun r n' => ∃ o', n' = (src, o') :: rest ∧ SrcOk o' ∧ ∃ g t, r = .int g t ∧ 0 ≤ g ∧ g < top) := by
  k_with_none
  (k_with "fr0" => exact FrameObj.mono (by assumption) (fun p9 h9 => by (repeat (first | exact h9 | (refine List.mem_append.mpr (Or.inr ?_)) | (refine List.Mem.tail _ ?_)))))
  (k_with "ho0" => exact HOk.mono (by assumption) (fun p9 h9 => by (repeat (first | exact h9 | (refine List.mem_append.mpr (Or.inr ?_)) | (refine List.Mem.tail _ ?_)))))
  (k_with "d" => first | exact roomD hdp rfl | exact roomD0 hdp rfl | ktr_room | omega)
  (k_with "u" => first | exact roomU hun rfl | exact roomU0 hun rfl | ktr_units | omega | (simp only [tc_units, units_deeper]; omega))
  (k_with "eval ListComp" => (k_here; with_unfolding_all refine' comp_start ?z9k1 ?z9k2 ?z9k3 ?_; (case z9k1 => exact rfl); (case z9k2 => exact rfl); (case z9k3 => decide)))
  (k_with "binaryOp Mult int int" => (with_unfolding_all refine PyProof.Rows.mul_int ?_ (sq_ok _ _)))
  unfold Spec
  k_fill
  intro dp un gd cn0 cs0 a0 ccd0 cl0 outer A₀ base h₀ L m s Q E B F X N T hk hdp hun hret
  refine via fun X9 hX9 => ?_
  obtain ⟨a, b, ta, tb, n0, rfl, hb1, hb2⟩ := ho
  refine hX9 ?_
  clear hX9 X9
  refine wpAny_call ?_
  refine' code_def (binds := [(Str.ofString "source", .ref src), (Str.ofString "top", .int top tt)]) ?k1 ?k2 ?k3 ?k4 ?k5 ?kA ?kF ?kK ?k6 ?k7 ?k8 ?k9 ?kB ?_ ?c2 ?c3 ?c4 ?c5
  (case kA => exact rfl); (case kF => exact rfl); (case kK => assumption); (case k1 => k_asm); (case k2 => k_asm); (case k3 => k_asm); (case k4 => k_asm); (case k5 => k_asm); (case k6 => k_is); (case k7 => k_is); (case k8 => ktr_room)
  (case k9 => exact BindsTo.of_eq rfl); (case c5 => decide); (case kB => exact locs rfl); (case c2 => exact rfl); (case c3 => exact rfl); (case c4 => exact rfl)
  intro g' L' h' FG' F' N' B' X' T'
  (try dsimp only)
  (try k_fold)
  k_steps
  · refine hret _ _ _ _ (by k_asm) (by k_asm) ⟨_, rfl, ⟨_, _, _, _, _, rfl, hb1, hb2⟩, _, _, rfl, Int.fmod_nonneg_of_pos _ ht, Int.fmod_lt_of_pos _ ht⟩
  · refine hret _ _ _ _ (by k_asm) (by k_asm) ⟨_, rfl, ⟨_, _, _, _, _, rfl, (fm_bd _).1, (fm_bd _).2⟩, _, _, rfl, Int.fmod_nonneg_of_pos _ ht, Int.fmod_lt_of_pos _ ht⟩
end
/-! C4 -/
section
/-- a contract over fewer entries serves over more -/
theorem Spec.over {b : Nat} {f : Addr} {vs : List Value} {news' : Led} {post' post : Value → Led → Prop} (S : Spec b w mean mg mb hdl f vs news' post') (hs : ∀ p ∈ news, p ∈ news → p ∈ news' ∨ True)
    (hsub : ∀ p ∈ news', p ∈ news) (hp : ∀ r n', post' r n' → ∃ n'', (∀ p ∈ n'', p ∈ n') ∧ post r n'') : Spec b w mean mg mb hdl f vs news post := by
  intro dp un gd cn cs a ccd cl outer A₀ base h₀ L m s Q E B F X N T hk hdp hun hret
  refine S dp un gd cn cs a ccd cl outer A₀ base h₀ L m s Q E B F X (fun p hp => N p (hsub p hp)) T hk hdp hun fun r n' h' tk' F' N' q => ?_
  obtain ⟨n'', h1, h2⟩ := hp r n' q
  exact hret r n'' h' tk' F' (fun p hp => N' p (h1 p hp)) h2
theorem upd_app {d : Addr} {o o' : Obj} {tl l l' : Led} (h : ∀ p ∈ tl, p.1 ≠ d) (u : Upd d o o' l l') : Upd d o o' (tl ++ l) (tl ++ l') := by
  induction tl with
  | nil => exact u
  | cons p r ih => exact .tail (h p (.head _)) (ih fun q hq => h q (.tail _ hq))
theorem updF_app {d : Addr} {o : Obj} {tl l : Led} {g : Obj → Led} (h : ∀ p ∈ tl, p.1 ≠ d) (u : UpdF d o l g) : UpdF d o (tl ++ l) (fun o' => tl ++ g o') := by
  induction tl with
  | nil => exact u
  | cons p r ih => exact .tail (h p (.head _)) (ih fun q hq => h q (.tail _ hq))
theorem take_any {src : Addr} {o : Obj} {nf : Obj → Led} {top : Int} {tt : Tok} (U : ∀ o', Upd src o o' news (nf o')) (ho : SrcOk o) (ht : 0 < top) (ht2 : top < 1000) :
    Spec 2 w mean mg mb none 232 [.ref src, .int top tt] news (fun r n' => ∃ o', n' = nf o' ∧ SrcOk o' ∧ ∃ g t, r = .int g t ∧ 0 ≤ g ∧ g < top) := by
  refine Spec.over (take_spec (rest := news.filter fun p => decide (p.1 ≠ src)) ho (fun p hp => by simpa using (List.mem_filter.mp hp).2) ht ht2) (fun _ _ _ => .inr trivial) (fun p hp => ?_) ?_
  · rcases List.mem_cons.mp hp with rfl | hp
    · obtain ⟨pre, post, rfl, _⟩ := (U o).split
      exact List.mem_append.mpr (.inr (.head _))
    · exact (List.mem_filter.mp hp).1
  · rintro r n' ⟨o', rfl, h1, h2⟩
    refine ⟨nf o', fun p hp => ?_, o', rfl, h1, h2⟩
    obtain ⟨pre, post, e1, e2, h3, h4⟩ := (U o').split
    rw [e2] at hp
    rcases List.mem_append.mp hp with hp | hp
    · exact .tail _ (List.mem_filter.mpr ⟨by rw [e1]; exact List.mem_append.mpr (.inl hp), by simpa using h3 p hp⟩)
    · rcases List.mem_cons.mp hp with rfl | hp
      · exact .head _
      · exact .tail _ (List.mem_filter.mpr ⟨by rw [e1]; exact List.mem_append.mpr (.inr (.tail _ hp)), by simpa using h4 p hp⟩)
local macro_rules | `(tactic| k_all) => `(tactic| assumption)
local macro_rules | `(tactic| k_upd) => `(tactic| (refine' upd_app ?a ?b; (case a => exact Abv.ne (by assumption) (by k_mem)); (case b => k_upd)))
theorem one_spec {src l : Addr} {o : Obj} {vs : List Value} {nl : Nat} {nf : Obj → Led} (U : ∀ o', Upd src o o' news (nf o')) (ho : SrcOk o) (hl : ∀ o', (l, listOf vs.toArray nl) ∈ nf o') (hl0 : (l, listOf vs.toArray nl) ∈ news) (hv : 0 < vs.length) (hv2 : vs.length < 100) :
    Spec 4 w mean mg mb none 239 [.ref src, .ref l] news (fun r n' => ∃ o', n' = nf o' ∧ SrcOk o' ∧ ∃ i, i < vs.length ∧ vs[i]? = some r) := by
  k_with_none
  (k_with "fr0" => exact FrameObj.mono (by assumption) (fun p9 h9 => by (repeat (first | exact h9 | (refine List.mem_append.mpr (Or.inr ?_)) | (refine List.Mem.tail _ ?_)))))
  (k_with "ho0" => exact HOk.mono (by assumption) (fun p9 h9 => by (repeat (first | exact h9 | (refine List.mem_append.mpr (Or.inr ?_)) | (refine List.Mem.tail _ ?_)))))
  (k_with "d" => first | exact roomD hdp rfl | exact roomD0 hdp rfl | ktr_room | omega)
  (k_with "u" => first | exact roomU hun rfl | exact roomU0 hun rfl | ktr_units | omega | (simp only [tc_units, units_deeper]; omega))
  (k_with "eval ListComp" => (k_here; with_unfolding_all refine' comp_start ?z9k1 ?z9k2 ?z9k3 ?_; (case z9k1 => exact rfl); (case z9k2 => exact rfl); (case z9k3 => decide)))
  (k_with "call ref" => (k_here; with_unfolding_all refine' Spec.go ?z9uB ?z9uF ?z9uX ?z9uN ?z9uT ?z9uk ?_; (case z9uB => k_asm); (case z9uF => k_asm); (case z9uX => k_asm); (case z9uN => k_asm); (case z9uT => k_asm); (case z9uk => first | exact rfl | assumption); (first | (refine' Go.src (take_any ?z9pa ?z9pb ?z9pc ?z9pd) ?z9p8 ?z9p9 ?_; (case z9pa => (first | assumption | (intro o'; k_upd))); (case z9pb => assumption); (case z9pc => first | with_reducible assumption | decide | omega); (case z9pd => first | with_reducible assumption | decide | omega); (case z9p8 => k_extra "d"); (case z9p9 => k_extra "u"); intro h9 tk9 F9 o9 ho9 g9 t9 hg9 hg9' N9; revert h9 tk9 F9 o9 ho9 g9 t9 hg9 hg9' N9; intro _ _ _ _ _ _ _ _ _ _)); (try k_sweep); (try dsimp only); (try k_fold)))
  (k_with "subscriptTail" => (k_here; with_unfolding_all refine' item_of ?z9hm ?z9N ?z9h0 ?z9h1 ?z9hx ?_ ?z9hs; (case z9N => k_asm); (case z9hm => first | k_mem | solve_by_elim); (case z9h0 => first | assumption | decide | omega); (case z9h1 => first | with_reducible assumption | decide | omega); (case z9hx => exact List.getElem?_eq_getElem (by omega)); (case z9hs => with_unfolding_all rfl)))
  (k_with "call builtin:len" => (k_here; with_unfolding_all refine' len_of ?z9hm ?z9N ?z9hb ?_; (case z9hm => k_mem); (case z9N => k_asm); (case z9hb => first | omega | decide)))
  unfold Spec
  k_fill
  intro dp un gd cn0 cs0 a0 ccd0 cl0 outer A₀ base h₀ L m s Q E B F X N T hk hdp hun hret
  refine wpAny_call ?_
  refine' code_def (binds := [(Str.ofString "source", .ref src), (Str.ofString "things", .ref l)]) ?k1 ?k2 ?k3 ?k4 ?k5 ?kA ?kF ?kK ?k6 ?k7 ?k8 ?k9 ?kB ?_ ?c2 ?c3 ?c4 ?c5
  (case kA => exact rfl); (case kF => exact rfl); (case kK => assumption); (case k1 => k_asm); (case k2 => k_asm); (case k3 => k_asm); (case k4 => k_asm); (case k5 => k_asm); (case k6 => k_is); (case k7 => k_is); (case k8 => ktr_room)
  (case k9 => exact BindsTo.of_eq rfl); (case c5 => decide); (case kB => exact locs rfl); (case c2 => exact rfl); (case c3 => exact rfl); (case c4 => exact rfl)
  intro g' L' h' FG' F' N' B' X' T'
  (try dsimp only)
  (try k_fold)
  k_steps
  all_goals exact hret _ _ _ _ (by k_asm) (by k_asm) ⟨_, rfl, by assumption, _, by omega, List.getElem?_eq_getElem (by omega)⟩
end
/-! C4b -/
theorem CompAll.one {P : Params} {news : Led} {v : Value} {c : CompD} (h : CompObj P news v c) : CompAll P news [v] [c] := ⟨rfl, fun i u e => by
  cases i with
  | zero => cases e; exact ⟨c, rfl, h⟩
  | succ i => cases e⟩
theorem CompAll.two {P : Params} {news : Led} {v v' : Value} {c c' : CompD} (h : CompObj P news v c) (h' : CompObj P news v' c') : CompAll P news [v, v'] [c, c'] := ⟨rfl, fun i u e => by
  cases i with
  | zero => cases e; exact ⟨c, rfl, h⟩
  | succ i => cases i with
    | zero => cases e; exact ⟨c', rfl, h'⟩
    | succ i => cases e⟩
section
variable {w : World} {A : Around} {E : Value → Shared → Prop} {h₀ : Heap} {L cl : Addr} {m : Str → Option Value} {nx₀ : Led} {vs : List Value} {nn : Nat} {cs : List CompD} {hdl : Option Value} {env : Env} {scope : Scope} {clz : List (Str × Addr)} {x : Str} {p1 p2 px pos : Pos} {iter : Expr} {Q : Value → Shared → Prop} {s₁ : Shared}
theorem comp_across (X : (hd.heap_39 w.params).In h₀) (F : Fr h₀ L s₁.heap m) (N : News h₀ L s₁.heap nx₀) (hcl : (cl, listOf vs.toArray nn) ∈ nx₀) (hcs : CompAll w.params nx₀ vs cs) (hlen : cs.length ≤ 2) (H : HOk hdl nx₀) (hA : A.handled = hdl)
    (hkind : scope.kind = .function) (hcell : ∀ y ∈ scope.names, y.2 ≠ .cell) (hx : scope.names.lookup x = some .local) (hd : (x == ("__debug__" : Str)) = false)
    (hdone : ∀ D h tk ys tl nD, Fr h₀ L h m → News h₀ L h ((D, listOf ys.toArray nD) :: (tl ++ nx₀)) → Abv nx₀ ((D, listOf ys.toArray nD) :: tl) → IntsAre ys (cs.map (·.across)) → Q (.ref D) { s₁ with heap := h, toks := tk }) :
    CompGo PySem.Challenge.rw_nz0246_01.row.prog w A E env scope clz (.ListComp (.Attribute (.Name x p1) "across" p2) [⟨.Name x px, iter, [], 0⟩] scope pos) Q (.ref cl) s₁ := by
  k_with_none
  (k_with "fr0" => exact FrameObj.mono (by assumption) (fun p9 h9 => by (repeat (first | exact h9 | (refine List.mem_append.mpr (Or.inr ?_)) | (refine List.Mem.tail _ ?_)))))
  (k_with "ho0" => exact HOk.mono (by assumption) (fun p9 h9 => by (repeat (first | exact h9 | (refine List.mem_append.mpr (Or.inr ?_)) | (refine List.Mem.tail _ ?_)))))
  (k_with "d" => first | exact roomD hdp rfl | exact roomD0 hdp rfl | ktr_room | omega)
  (k_with "u" => first | exact roomU hun rfl | exact roomU0 hun rfl | ktr_units | omega | (simp only [tc_units, units_deeper]; omega))
  (k_with "eval ListComp" => (k_here; with_unfolding_all refine' comp_start ?z9k1 ?z9k2 ?z9k3 ?_; (case z9k1 => exact rfl); (case z9k2 => exact rfl); (case z9k3 => decide)))
  revert X; k_fill; intro X
  refine comp_list (G := fun i ys nx => CompAll w.params nx vs cs ∧ IntsAre ys ((cs.take i).map (·.across))) hcl (HOk.fp H N hA) F N H.hf hkind hcell hx ?T ?hz ⟨hcs, .nil⟩ ?D
  case hz => have := hcs.1; rw [sizeLine_eq]; omega
  case T =>
    intro i h tk ys nx led mC C oC hi hv hs hC hG F N hn E'
    refine via fun X9 hX9 => ?_
    obtain ⟨v, hv1, hv2⟩ := hv
    obtain ⟨hcs, hys⟩ := hG
    refine CompObj.elim (hcs.2 i v hv1) fun c hc1 xc dxc t1 t2 t3 t4 u1 u2 u3 u4 e9 hxc hdxc => ?_
    subst e9
    refine hX9 ?_
    clear hX9 X9
    replace hxc := hs _ hxc
    replace hdxc := hs _ hdxc
    refine PyProof.Rows.Attribute_name ?_
    refine name_C hn hv2 ?_ hkind (lookup_relabel_local hx) hd
    k_steps
    refine ⟨_, _, [], rfl, F, N, Abv.nil, hcs, ?_⟩
    rw [List.take_add_one, hc1, List.map_append]
    exact IntsAre.append hys (.cons _ _ .nil)
  case D =>
    intro D h tk ys tl nD hlen F N hab hne hG
    refine hdone D h tk ys tl nD F N hab ?_
    have := hG.2
    rw [hcs.1, List.take_length] at this; exact this
theorem comp_down (X : (hd.heap_39 w.params).In h₀) (F : Fr h₀ L s₁.heap m) (N : News h₀ L s₁.heap nx₀) (hcl : (cl, listOf vs.toArray nn) ∈ nx₀) (hcs : CompAll w.params nx₀ vs cs) (hlen : cs.length ≤ 2) (H : HOk hdl nx₀) (hA : A.handled = hdl)
    (hkind : scope.kind = .function) (hcell : ∀ y ∈ scope.names, y.2 ≠ .cell) (hx : scope.names.lookup x = some .local) (hd : (x == ("__debug__" : Str)) = false)
    (hdone : ∀ D h tk ys tl nD, Fr h₀ L h m → News h₀ L h ((D, listOf ys.toArray nD) :: (tl ++ nx₀)) → Abv nx₀ ((D, listOf ys.toArray nD) :: tl) → IntsAre ys (cs.map (·.down)) → Q (.ref D) { s₁ with heap := h, toks := tk }) :
    CompGo PySem.Challenge.rw_nz0246_01.row.prog w A E env scope clz (.ListComp (.Attribute (.Name x p1) "down" p2) [⟨.Name x px, iter, [], 0⟩] scope pos) Q (.ref cl) s₁ := by
  k_with_none
  (k_with "fr0" => exact FrameObj.mono (by assumption) (fun p9 h9 => by (repeat (first | exact h9 | (refine List.mem_append.mpr (Or.inr ?_)) | (refine List.Mem.tail _ ?_)))))
  (k_with "ho0" => exact HOk.mono (by assumption) (fun p9 h9 => by (repeat (first | exact h9 | (refine List.mem_append.mpr (Or.inr ?_)) | (refine List.Mem.tail _ ?_)))))
  (k_with "d" => first | exact roomD hdp rfl | exact roomD0 hdp rfl | ktr_room | omega)
  (k_with "u" => first | exact roomU hun rfl | exact roomU0 hun rfl | ktr_units | omega | (simp only [tc_units, units_deeper]; omega))
  (k_with "eval ListComp" => (k_here; with_unfolding_all refine' comp_start ?z9k1 ?z9k2 ?z9k3 ?_; (case z9k1 => exact rfl); (case z9k2 => exact rfl); (case z9k3 => decide)))
  revert X; k_fill; intro X
  refine comp_list (G := fun i ys nx => CompAll w.params nx vs cs ∧ IntsAre ys ((cs.take i).map (·.down))) hcl (HOk.fp H N hA) F N H.hf hkind hcell hx ?T ?hz ⟨hcs, .nil⟩ ?D
  case hz => have := hcs.1; rw [sizeLine_eq]; omega
  case T =>
    intro i h tk ys nx led mC C oC hi hv hs hC hG F N hn E'
    refine via fun X9 hX9 => ?_
    obtain ⟨v, hv1, hv2⟩ := hv
    obtain ⟨hcs, hys⟩ := hG
    refine CompObj.elim (hcs.2 i v hv1) fun c hc1 xc dxc t1 t2 t3 t4 u1 u2 u3 u4 e9 hxc hdxc => ?_
    subst e9
    refine hX9 ?_
    clear hX9 X9
    replace hxc := hs _ hxc
    replace hdxc := hs _ hdxc
    refine PyProof.Rows.Attribute_name ?_
    refine name_C hn hv2 ?_ hkind (lookup_relabel_local hx) hd
    k_steps
    refine ⟨_, _, [], rfl, F, N, Abv.nil, hcs, ?_⟩
    rw [List.take_add_one, hc1, List.map_append]
    exact IntsAre.append hys (.cons _ _ .nil)
  case D =>
    intro D h tk ys tl nD hlen F N hab hne hG
    refine hdone D h tk ys tl nD F N hab ?_
    have := hG.2
    rw [hcs.1, List.take_length] at this; exact this
/-- max over a list of ints in the ledger, whatever is handled -/
theorem max_of {prog : Program} {D : Addr} {ys : List Value} {nD : Nat} {ns : List Int} {s : Shared} (hm : (D, listOf ys.toArray nD) ∈ nx₀) (F : Fr h₀ L s.heap m) (N : News h₀ L s.heap nx₀) (hi : IntsAre ys ns) (hne : 0 < ns.length) (H : HOk hdl nx₀) (hA : A.handled = hdl)
    (h : ∀ h' (t : Tok) tk, Fr h₀ L h' m → News h₀ L h' nx₀ → Q (.int (mx ns) t) { s with heap := h', toks := tk }) : wpAny (model prog w) A (call (.builtin "max") [.ref D]) Q E s :=
  max_any (HOk.fp H N hA) H.hf F N ⟨_, (N _ hm).1, rfl, nD, rfl⟩ hi hne fun h' M t tk F' N' h1 h2 => by rw [← mx_eq h1 h2]; exact h h' t tk F' N'
end
/-! C5 -/
local macro_rules | `(tactic| k_lt $_h:ident) => `(tactic| skip)
local macro_rules | `(tactic| k_mem) => `(tactic| first | with_reducible assumption | exact mem_hd | (refine mem_tl ?_; k_mem) | (refine mem_r ?_; k_mem) | (refine mem_l ?_; k_mem))
section
local macro_rules | `(tactic| k_all) => `(tactic| assumption)
local macro_rules | `(tactic| k_upd) => `(tactic| (refine' upd_app ?a ?b; (case a => exact Abv.ne (by assumption) (by k_mem)); (case b => k_upd)))
theorem ints01 {ta tb tc : Tok} {i : Nat} {r : Value} (h : [Value.int 0 ta, Value.int 0 tb, Value.int 1 tc][i]? = some r) : ∃ (e : Int) (t : Tok), r = .int e t ∧ 0 ≤ e ∧ e ≤ 1 := by
  match i, h with
  | 0, h => cases h; exact ⟨_, _, rfl, by decide, by decide⟩
  | 1, h => cases h; exact ⟨_, _, rfl, by decide, by decide⟩
  | 2, h => cases h; exact ⟨_, _, rfl, by decide, by decide⟩
  | n + 3, h => simp at h
theorem Go.one01 {w : World} {mean : ExcName → Option Value} {mg mb : Str → Option Value} {hdl : Option Value} {dp un : Nat} {h₀ : Heap} {L : Addr} {m : Str → Option Value} {s : Shared} {f : Addr} {vs : List Value} {news : Led} {Q : Value → Shared → Prop} {b : Nat} {nf : Obj → Led} {K : Obj → Prop} {ta tb tc : Tok} (S : Spec b w mean mg mb hdl f vs news (fun r n' => ∃ o', n' = nf o' ∧ K o' ∧ ∃ i, i < [Value.int 0 ta, Value.int 0 tb, Value.int 1 tc].length ∧ [Value.int 0 ta, Value.int 0 tb, Value.int 1 tc][i]? = some r)) (h1 : dp + b < recursionLimit) (h2 : un + 8 * b < cLine)
    (ret : ∀ h' tk', Fr h₀ L h' m → ∀ o', K o' → ∀ i, i < [Value.int 0 ta, Value.int 0 tb, Value.int 1 tc].length → News h₀ L h' (nf o') → ∀ d t, 0 ≤ d → d ≤ 1 → Q (.int d t) { s with heap := h', toks := tk' }) : Go w mean mg mb hdl dp un h₀ L m s f vs news Q :=
  .one S h1 h2 fun _ _ _ F _ ho _ hi hi' N => by
    obtain ⟨_, _, rfl, hd, hd'⟩ := ints01 hi'
    exact ret _ _ F _ ho _ hi N _ _ hd hd'
theorem ne_lt {d src : Addr} {o : Obj} {l : Led} (h : ∀ p ∈ l, p.1 < d) (m : (src, o) ∈ l) : d ≠ src := Nat.ne_of_gt (h _ m)
local macro_rules | `(tactic| k_upd) => `(tactic| (refine' Upd.tail (ne_lt (by assumption) (by k_mem)) ?b; (case b => k_upd)))
theorem abv_hd {nx tl : Led} {D : Addr} {o : Obj} (a : Abv nx ((D, o) :: tl)) : ∀ q ∈ nx, q.1 < D := fun q hq => a q hq _ (.head _)
theorem abv_tl {nx tl : Led} {D : Addr} {o : Obj} (a : Abv nx ((D, o) :: tl)) : Abv nx tl := fun q hq p hp => a q hq p (.tail _ hp)
theorem append_of {prog : Program} {A : Around} {E : Value → Shared → Prop} {s : Shared} {h₀ : Heap} {L l : Addr} {m : Str → Option Value} {vs : List Value} {nl : Nat} {v : Value} {nf : Nat → Led} {Q : Value → Shared → Prop}
    (F : Fr h₀ L s.heap m) (N : News h₀ L s.heap news) (U : ∀ n', Upd l (listOf vs.toArray nl) (listOf (vs ++ [v]).toArray n') news (nf n')) (hsz : vs.length ≤ 1000)
    (h : ∀ h' n', Fr h₀ L h' m → News h₀ L h' (nf n') → Q .none { s with heap := h' }) : wpAny (model prog w) A (call (.builtin "list.append") [.ref l, v]) Q E s := by
  obtain ⟨pre, post, e1, _, h1, h2⟩ := (U 0).split
  have hm : (l, listOf vs.toArray nl) ∈ news := by rw [e1]; exact List.mem_append.mpr (.inr (.head _))
  refine wpAny_list_append_plain (items := vs.toArray) ⟨nl, (N _ hm).1⟩ (fun h' hl hs => ?_) (by rw [sizeLine_eq, List.size_toArray]; omega)
  obtain ⟨n', hl⟩ := hl
  have e0 : vs.toArray.push v = (vs ++ [v]).toArray := by simp
  rw [e0] at hl
  refine h h' n' ⟨F.ns.at' fun o e => hs.extBut _ _ (Ne.symm (N _ hm).2.1) e, fun b o e => hs.extBut b o (fun q => by rw [q, (N _ hm).2.2] at e; cases e) (F.keep b o e), F.above⟩ fun p hp => ?_
  obtain ⟨pre, post, e1, e2, h1, h2⟩ := (U n').split
  rw [e2] at hp
  rcases List.mem_append.mp hp with hp | hp
  · have := N p (by rw [e1]; exact List.mem_append.mpr (.inl hp))
    exact ⟨hs.extBut _ _ (h1 p hp) this.1, this.2⟩
  · rcases List.mem_cons.mp hp with rfl | hp
    · exact ⟨hl, (N _ hm).2⟩
    · have := N p (by rw [e1]; exact List.mem_append.mpr (.inr (.tail _ hp)))
      exact ⟨hs.extBut _ _ (h2 p hp) this.1, this.2⟩
theorem ne_map {d : Addr} {l l' : Led} (h : ∀ p ∈ l, p.1 < d) (e : l'.map (·.1) = l.map (·.1)) : ∀ p ∈ l', p.1 ≠ d := fun p hp => by
  have : p.1 ∈ l.map (·.1) := by rw [← e]; exact List.mem_map.mpr ⟨p, hp, rfl⟩
  obtain ⟨q, hq, e'⟩ := List.mem_map.mp this
  rw [← e']
  exact Nat.ne_of_lt (h q hq)
local macro_rules | `(tactic| k_all) => `(tactic| exact ne_map (by assumption) (by simp only [List.map_append, List.map_cons]))
structure FrameOk (f : FrameD) : Prop where
  len0 : 0 < f.cs.length
  len2 : f.cs.length ≤ 2
  acr : ∀ c ∈ f.cs, 1 ≤ c.across ∧ c.across ≤ 2
  dwn : ∀ c ∈ f.cs, 1 ≤ c.down ∧ c.down ≤ 2
  wid : ∃ k e : Int, 1 ≤ k ∧ k ≤ 2 ∧ 0 ≤ e ∧ e ≤ 1 ∧ f.width = 2 * mA f * k - e
  hei : ∃ k e : Int, 1 ≤ k ∧ k ≤ 2 ∧ 0 ≤ e ∧ e ≤ 1 ∧ f.height = 2 * mD f * k - e
theorem src_end {P : Params} {h₀ h : Heap} {L src : Addr} {Z : Led} {o' : Obj} {r : Value} {f : FrameD} (N : News h₀ L h Z) (hs : (src, o') ∈ Z) (ho : SrcOk o') (hf : FrameObj P Z r f) :
    ∃ n'', News h₀ L h ((src, o') :: n'') ∧ (∀ p ∈ n'', p.1 ≠ src) ∧ (∀ p ∈ Z, p.1 ≠ src → p ∈ n'') ∧ FrameObj P n'' r f := by
  have up : ∀ p ∈ Z, p.1 ≠ src → p ∈ Z.filter (fun p => decide (p.1 ≠ src)) := fun p hp h => List.mem_filter.mpr ⟨hp, by simpa using h⟩
  have ne : ∀ a ob, (a, ob) ∈ Z → ob ≠ o' → (a, ob) ∈ Z.filter (fun p => decide (p.1 ≠ src)) := fun a ob hm hne => up _ hm fun e => hne (by
    have h1 := (N _ hm).1
    have h2 := (N _ hs).1
    dsimp only at h1 h2 e
    rw [e, h2] at h1
    exact (Option.some.inj h1).symm)
  obtain ⟨a, b, ta, tb, n0, rfl, _⟩ := ho
  refine ⟨_, fun p hp => ?_, fun p hp => by simpa using (List.mem_filter.mp hp).2, up, ?_⟩
  · rcases List.mem_cons.mp hp with rfl | hp
    · exact N _ hs
    · exact N p (List.mem_filter.mp hp).1
  · obtain ⟨x, dx, cl, nn, vs, t1, t2, t3, t4, t5, t6, u1, u2, u3, u4, u6, rfl, hx, hdx, hcl, hcs⟩ := hf
    refine ⟨x, dx, cl, nn, vs, t1, t2, t3, t4, t5, t6, u1, u2, u3, u4, u6, rfl, ne _ _ hx (by simp), ne _ _ hdx (by simp), ne _ _ hcl ?_, hcs.1, fun i v e => ?_⟩
    · intro e
      have e1 : vs.toArray = #[Value.int a ta, Value.int b tb] := by injection e with _ _ e; injection e
      have e2 : vs = [Value.int a ta, Value.int b tb] := by have := congrArg Array.toList e1; simpa using this
      subst e2
      obtain ⟨c, _, x', _, _, _, _, _, _, _, _, _, h9, _⟩ := hcs.2 0 _ rfl
      cases h9
    · obtain ⟨c, h1, x', dx', s1, s2, s3, s4, r1, r2, r3, r4, e', h2, h3⟩ := hcs.2 i v e
      exact ⟨c, h1, x', dx', s1, s2, s3, s4, r1, r2, r3, r4, e', ne _ _ h2 (by simp), ne _ _ h3 (by simp)⟩
theorem law_frame_spec {src : Addr} {o : Obj} (ho : SrcOk o) (hne : ∀ p ∈ rest, p.1 ≠ src) :
    Spec 8 w mean mg mb none 244 [.ref src] ((src, o) :: rest) (fun r n' => ∃ o' n'', n' = (src, o') :: n'' ∧ (∀ p ∈ n'', p.1 ≠ src) ∧ SrcOk o' ∧ (∀ p ∈ rest, p ∈ n'') ∧ ∃ f, FrameObj w.params n'' r f ∧ FrameOk f) := by
  k_with_none
  (k_with "fr0" => exact FrameObj.mono (by assumption) (fun p9 h9 => by (repeat (first | exact h9 | (refine List.mem_append.mpr (Or.inr ?_)) | (refine List.Mem.tail _ ?_)))))
  (k_with "ho0" => exact HOk.mono (by assumption) (fun p9 h9 => by (repeat (first | exact h9 | (refine List.mem_append.mpr (Or.inr ?_)) | (refine List.Mem.tail _ ?_)))))
  (k_with "d" => first | exact roomD hdp rfl | exact roomD0 hdp rfl | ktr_room | omega)
  (k_with "u" => first | exact roomU hun rfl | exact roomU0 hun rfl | ktr_units | omega | (simp only [tc_units, units_deeper]; omega))
  (k_with "eval ListComp" => (k_here; with_unfolding_all refine' comp_start ?z9k1 ?z9k2 ?z9k3 ?_; (case z9k1 => exact rfl); (case z9k2 => exact rfl); (case z9k3 => decide)))
  (k_with "fr" => exact FrameObj.mono (by assumption) (fun p9 h9 => by k_mem))
  (k_with "ho" => exact HOk.mono (by assumption) (fun p9 h9 => by k_mem))
  (k_with "cm" => exact CompAll.mono (by assumption) (fun p9 h9 => by k_mem))
  (k_with "call ref" => (k_here; with_unfolding_all refine' Spec.go ?z9uB ?z9uF ?z9uX ?z9uN ?z9uT ?z9uk ?_; (case z9uB => k_asm); (case z9uF => k_asm); (case z9uX => k_asm); (case z9uN => k_asm); (case z9uT => k_asm); (case z9uk => first | exact rfl | assumption); (first | (refine' Go.src (take_any ?z9pa ?z9pb ?z9pc ?z9pd) ?z9p8 ?z9p9 ?_; (case z9pa => (first | assumption | (intro o'; k_upd))); (case z9pb => assumption); (case z9pc => first | with_reducible assumption | decide | omega); (case z9pd => first | with_reducible assumption | decide | omega); (case z9p8 => k_extra "d"); (case z9p9 => k_extra "u"); intro h9 tk9 F9 o9 ho9 g9 t9 hg9 hg9' N9; revert h9 tk9 F9 o9 ho9 g9 t9 hg9 hg9' N9; intro _ _ _ _ _ _ _ _ _ _) | (refine' Go.own (component_spec) ?z9p8 ?z9p9 ?_; (case z9p8 => k_extra "d"); (case z9p9 => k_extra "u"); intro r9 h9 tk9 F9 tl9 ha9 hc9 N9; revert r9 h9 tk9 F9 tl9 ha9 hc9 N9; intro _ _ _ _ _ _ _ _) | (refine' Go.objG (frame_spec ?z9pa ?z9pb) ?z9p8 ?z9p9 ?_; (case z9pa => k_mem); (case z9pb => (first | exact CompAll.one (CompObj.mono (by assumption) (fun p9 h9 => by (repeat (first | exact h9 | exact List.mem_append.mpr (Or.inl h9) | (refine List.mem_append.mpr (Or.inr ?_)) | (refine List.Mem.tail _ ?_))))) | exact CompAll.two (CompObj.mono (by assumption) (fun p9 h9 => by (repeat (first | exact h9 | exact List.mem_append.mpr (Or.inl h9) | (refine List.mem_append.mpr (Or.inr ?_)) | (refine List.Mem.tail _ ?_))))) (CompObj.mono (by assumption) (fun p9 h9 => by (repeat (first | exact h9 | exact List.mem_append.mpr (Or.inl h9) | (refine List.mem_append.mpr (Or.inr ?_)) | (refine List.Mem.tail _ ?_))))))); (case z9p8 => k_extra "d"); (case z9p9 => k_extra "u"); intro r9 h9 tk9 F9 tl9 ha9 N9 hf9; revert r9 h9 tk9 F9 tl9 ha9 N9 hf9; intro _ _ _ _ _ _ _ _) | (refine' Go.one01 (one_spec ?z9pa ?z9pb ?z9pc ?z9pd ?z9pe ?z9pf) ?z9p8 ?z9p9 ?_; (case z9pa => (first | assumption | (intro o'; k_upd))); (case z9pb => assumption); (case z9pc => (intro o'; k_mem)); (case z9pd => k_mem); (case z9pe => simp); (case z9pf => simp); (case z9p8 => k_extra "d"); (case z9p9 => k_extra "u"); intro h9 tk9 F9 o9 ho9 i9 hi9 N9 d9 t9 hd9 hd9'; revert h9 tk9 F9 o9 ho9 i9 hi9 N9 d9 t9 hd9 hd9'; intro _ _ _ _ _ _ _ _ _ _ _ _)); (try k_sweep); (try dsimp only); (try k_fold)))
  (k_with "call builtin:list.append" => (k_here; with_unfolding_all refine' append_of ?z9F ?z9N ?z9U ?z9z ?_; (case z9F => k_asm); (case z9N => k_asm); (case z9U => intro n'; k_upd); (case z9z => (simp only [List.length_cons, List.length_nil]; decide)); intro h9 n9 F9 N9; (try simp only [List.cons_append, List.nil_append] at N9); revert h9 n9 F9 N9; intro _ _ _ _; (try dsimp only); (try k_fold)))
  (k_with "CompGo" => (k_here; first   | (with_unfolding_all refine' comp_across ?z9X ?z9F ?z9N ?z9hm ?z9hcs ?z9hl (Or.inl rfl) ?z9hA ?z9k1 ?z9k2 ?z9k3 ?z9k4 ?_; (case z9X => k_asm); (case z9F => k_asm); (case z9N => k_asm); (case z9hm => k_mem); (case z9hcs => first | exact CompAll.one (CompObj.mono (by assumption) (fun p9 h9 => by (repeat (first | exact h9 | exact List.mem_append.mpr (Or.inl h9) | (refine List.mem_append.mpr (Or.inr ?_)) | (refine List.Mem.tail _ ?_))))) | exact CompAll.two (CompObj.mono (by assumption) (fun p9 h9 => by (repeat (first | exact h9 | exact List.mem_append.mpr (Or.inl h9) | (refine List.mem_append.mpr (Or.inr ?_)) | (refine List.Mem.tail _ ?_))))) (CompObj.mono (by assumption) (fun p9 h9 => by (repeat (first | exact h9 | exact List.mem_append.mpr (Or.inl h9) | (refine List.mem_append.mpr (Or.inr ?_)) | (refine List.Mem.tail _ ?_)))))); (case z9hl => first | omega | simp); (case z9hA => exact rfl); (case z9k1 => exact rfl); (case z9k2 => decide); (case z9k3 => exact rfl); (case z9k4 => decide); intro D9 h9 tk9 ys9 tl9 nD9 F9 N9 ha9 hi9; (have hd9 := abv_hd ha9); (replace ha9 := abv_tl ha9); revert D9 h9 tk9 ys9 tl9 nD9 F9 N9 hi9 hd9 ha9; intro _ _ _ _ _ _ _ _ _ _ _; (try dsimp only); (try k_fold))   | (with_unfolding_all refine' comp_down ?z9X ?z9F ?z9N ?z9hm ?z9hcs ?z9hl (Or.inl rfl) ?z9hA ?z9k1 ?z9k2 ?z9k3 ?z9k4 ?_; (case z9X => k_asm); (case z9F => k_asm); (case z9N => k_asm); (case z9hm => k_mem); (case z9hcs => first | exact CompAll.one (CompObj.mono (by assumption) (fun p9 h9 => by (repeat (first | exact h9 | exact List.mem_append.mpr (Or.inl h9) | (refine List.mem_append.mpr (Or.inr ?_)) | (refine List.Mem.tail _ ?_))))) | exact CompAll.two (CompObj.mono (by assumption) (fun p9 h9 => by (repeat (first | exact h9 | exact List.mem_append.mpr (Or.inl h9) | (refine List.mem_append.mpr (Or.inr ?_)) | (refine List.Mem.tail _ ?_))))) (CompObj.mono (by assumption) (fun p9 h9 => by (repeat (first | exact h9 | exact List.mem_append.mpr (Or.inl h9) | (refine List.mem_append.mpr (Or.inr ?_)) | (refine List.Mem.tail _ ?_)))))); (case z9hl => first | omega | simp); (case z9hA => exact rfl); (case z9k1 => exact rfl); (case z9k2 => decide); (case z9k3 => exact rfl); (case z9k4 => decide); intro D9 h9 tk9 ys9 tl9 nD9 F9 N9 ha9 hi9; (have hd9 := abv_hd ha9); (replace ha9 := abv_tl ha9); revert D9 h9 tk9 ys9 tl9 nD9 F9 N9 hi9 hd9 ha9; intro _ _ _ _ _ _ _ _ _ _ _; (try dsimp only); (try k_fold))))
  (k_with "call builtin:max" => (k_here; with_unfolding_all refine' max_of ?z9hm ?z9F ?z9N ?z9hi ?z9hne (Or.inl rfl) ?z9hA ?_; (case z9F => k_asm); (case z9N => k_asm); (case z9hm => k_mem); (case z9hi => assumption); (case z9hne => first | omega | simp); (case z9hA => exact rfl); intro h9 t9 tk9 F9 N9; revert h9 t9 tk9 F9 N9; intro _ _ _ _ _; (try dsimp only); (try k_fold)))
  unfold Spec
  k_fill
  intro dp un gd cn0 cs0 a0 ccd0 cl0 outer A₀ base h₀ L m s Q E B F X N T hk hdp hun hret
  refine wpAny_call ?_
  refine' code_def (binds := [(Str.ofString "source", .ref src)]) ?k1 ?k2 ?k3 ?k4 ?k5 ?kA ?kF ?kK ?k6 ?k7 ?k8 ?k9 ?kB ?_ ?c2 ?c3 ?c4 ?c5
  (case kA => exact rfl); (case kF => exact rfl); (case kK => assumption); (case k1 => k_asm); (case k2 => k_asm); (case k3 => k_asm); (case k4 => k_asm); (case k5 => k_asm); (case k6 => k_is); (case k7 => k_is); (case k8 => ktr_room)
  (case k9 => exact BindsTo.of_eq rfl); (case c5 => decide); (case kB => exact locs rfl); (case c2 => exact rfl); (case c3 => exact rfl); (case c4 => exact rfl)
  intro g' L' h' FG' F' N' B' X' T'
  (try dsimp only)
  (try k_fold)
  k_steps
  all_goals (
    refine via fun X9 hX9 => ?_
    obtain ⟨n'', hN1, hN2, hN3, hN4⟩ := src_end (src := src) (by k_asm) (by k_mem) (by assumption) (FrameObj.mono (by assumption) (fun _ h => h))
    refine hX9 ?_
    clear hX9 X9
    refine hret _ _ _ _ (by k_asm) hN1 ⟨_, n'', rfl, hN2, by assumption, fun p hp => hN3 p (by repeat (first | exact hp | exact List.mem_append.mpr (Or.inl hp) | (refine List.mem_append.mpr (Or.inr ?_)) | (refine List.Mem.tail _ ?_))) (hne p hp), _, hN4, ?_⟩
    refine ⟨by simp, by simp, ?_, ?_, ⟨_, _, ?_, ?_, ?_, ?_, rfl⟩, ⟨_, _, ?_, ?_, ?_, ?_, rfl⟩⟩)
  all_goals first | omega | (intro c hc; simp only [List.mem_cons, List.not_mem_nil, or_false] at hc; first | (rcases hc with rfl | rfl <;> (dsimp only; omega)) | (subst hc; dsimp only; omega))
end
/-! C6 -/
section
variable {prog : Program} {A : Around} {E : Value → Shared → Prop} {s : Shared} {h₀ : Heap} {L l : Addr} {m : Str → Option Value} {vs : List Value} {nl : Nat}
theorem set_of {k : Int} {t : Tok} {v : Value} {nf : Led} {Q : Unit → Shared → Prop} (F : Fr h₀ L s.heap m) (N : News h₀ L s.heap news) (hm : (l, listOf vs.toArray nl) ∈ news) (h0 : 0 ≤ k) (h1 : k < vs.length) (hfit : k < 2 ^ 63)
    (hnf : ∀ p ∈ nf, p = (l, listOf (vs.set k.toNat v).toArray nl) ∨ (p ∈ news ∧ p.1 ≠ l)) (h : ∀ h', Fr h₀ L h' m → News h₀ L h' nf → Q () { s with heap := h' }) :
    wpAny (model prog w) A (setItem (.ref l) (.int k t) v) Q E s := by
  have z := N _ hm
  refine ki_setAt z.1 h0 hfit (by rw [List.size_toArray]; exact h1) (h _ (F.change (Heap.SameBut.update ..) z.2.1 z.2.2) fun p hp => ?_)
  rcases hnf p hp with rfl | ⟨h2, h3⟩
  · refine ⟨?_, z.2⟩
    have q := PySem.IsL.update z.1 (fun its : Array Value => its.setIfInBounds k.toNat v)
    have e1 : vs.toArray.setIfInBounds k.toNat v = (vs.set k.toNat v).toArray := by apply Array.toList_inj.mp; simp
    have e2 : (if (vs.set k.toNat v).toArray.size == vs.toArray.size then nl else nl + 1) = nl := by simp
    rw [e1, e2] at q
    exact q
  · exact ⟨(Heap.get?_update_other _ _ (Ne.symm h3)).trans (N p h2).1, (N p h2).2⟩
theorem copy_of {Q : Value → Shared → Prop} (F : Fr h₀ L s.heap m) (N : News h₀ L s.heap news) (hm : (l, listOf vs.toArray nl) ∈ news) (hb : vs.length ≤ 100000)
    (h : ∀ D c h', Fr h₀ L h' m → News h₀ L h' ((D, listOf vs.toArray c) :: news) → (∀ q ∈ news, q.1 < D) → Q (.ref D) { s with heap := h' }) : wpAny (model prog w) A (call (.type "list") [.ref l]) Q E s :=
  list_copyK F N (items := vs.toArray) ⟨_, (N _ hm).1, rfl, nl, rfl⟩ h (by rw [sizeLine_eq, List.size_toArray]; omega)
end
/-- the rows of a grid: their addresses, and what they hold -/
structure Rows where
  rs : List (List Addr)
  c : Addr → List Value
  n : Addr → Nat
def Rows.led (R : Rows) : Led := R.rs.flatten.map fun a => (a, listOf (R.c a).toArray (R.n a))
def Rows.put (R : Rows) (a : Addr) (x : Nat) (v : Value) : Rows := { R with c := fun b => if b = a then (R.c a).set x v else R.c b }
theorem Rows.mem {R : Rows} {a : Addr} (h : a ∈ R.rs.flatten) : (a, listOf (R.c a).toArray (R.n a)) ∈ R.led := List.mem_map.mpr ⟨a, h, rfl⟩
theorem Rows.of_mem {R : Rows} {p : Addr × Obj} (h : p ∈ R.led) : p.1 ∈ R.rs.flatten ∧ p = (p.1, listOf (R.c p.1).toArray (R.n p.1)) := by
  obtain ⟨a, h1, rfl⟩ := List.mem_map.mp h
  exact ⟨h1, rfl⟩
def MGrid (P : Params) (rest : Led) (v : Value) (R : Rows) : Prop :=
  ∃ (x dx pa : Addr) (nn : Nat) (vs : List Value) (t1 t2 u1 : Tok), v = .ref x ∧ (x, instObj 169 dx) ∈ rest ∧ (dx, dictOf [⟨kh P "many", .str "many" t1, .int (2 * 2) u1⟩, ⟨kh P "planes", .str "planes" t2, .ref pa⟩] 2) ∈ rest ∧ (pa, listOf vs.toArray nn) ∈ rest ∧
    vs.length = R.rs.length ∧ ∀ (i : Nat) (v' : Value), vs[i]? = some v' → ∃ as a1 n1, R.rs[i]? = some as ∧ v' = .ref a1 ∧ (a1, listOf (as.map Value.ref).toArray n1) ∈ rest
theorem MGrid.mono {P : Params} {rest rest' : Led} {v : Value} {R : Rows} (h : MGrid P rest v R) (hs : ∀ p ∈ rest, p ∈ rest') : MGrid P rest' v R := by
  obtain ⟨x, dx, pa, nn, vs, t1, t2, u1, e, h1, h2, h3, h4, h5⟩ := h
  exact ⟨x, dx, pa, nn, vs, t1, t2, u1, e, hs _ h1, hs _ h2, hs _ h3, h4, fun i v' e => let ⟨as, a1, n1, k1, k2, k3⟩ := h5 i v' e; ⟨as, a1, n1, k1, k2, hs _ k3⟩⟩
theorem MGrid.at {P : Params} {rest : Led} {v : Value} {R : Rows} (h : MGrid P rest v R) {R' : Rows} (e : R'.rs = R.rs) : MGrid P rest v R' := by
  obtain ⟨x, dx, pa, nn, vs, t1, t2, u1, e', h1, h2, h3, h4, h5⟩ := h
  exact ⟨x, dx, pa, nn, vs, t1, t2, u1, e', h1, h2, h3, by rw [e]; exact h4, by rw [e]; exact h5⟩
theorem put_set {prog : Program} {A : Around} {E : Value → Shared → Prop} {s : Shared} {h₀ : Heap} {L : Addr} {m : Str → Option Value} {R : Rows} {ra d : Addr} {bvs : List Value} {c : Nat} {x : Int} {tx : Tok} {Q : Unit → Shared → Prop}
    (F : Fr h₀ L s.heap m) (N : News h₀ L s.heap ((d, listOf bvs.toArray c) :: (R.led ++ rest))) (hd : ∀ q ∈ R.led ++ rest, q.1 < d) (hra : ra ∈ R.rs.flatten) (hsep : ∀ q ∈ rest, q.1 ∉ R.rs.flatten) (hx0 : 0 ≤ x) (hx1 : x < (R.c ra).length) (hx2 : x < 1000)
    (h : ∀ h', Fr h₀ L h' m → News h₀ L h' ((R.put ra x.toNat (.ref d)).led ++ ((d, listOf bvs.toArray c) :: rest)) → Q () { s with heap := h' }) : wpAny (model prog w) A (setItem (.ref ra) (.int x tx) (.ref d)) Q E s := by
  refine set_of F N (mem_tl (mem_l (Rows.mem hra))) hx0 hx1 (by omega) (fun p hp => ?_) h
  rcases List.mem_append.mp hp with hp | hp
  · obtain ⟨h1, h2⟩ := Rows.of_mem hp
    by_cases e : p.1 = ra
    · left
      rw [h2, e]
      simp [Rows.put]
    · right
      refine ⟨mem_tl (mem_l ?_), e⟩
      rw [h2]
      have : ((R.put ra x.toNat (.ref d)).c p.1) = R.c p.1 := by simp [Rows.put, e]
      rw [this]
      exact Rows.mem (R := R) h1
  · right
    rcases List.mem_cons.mp hp with rfl | hp
    · exact ⟨mem_hd, Nat.ne_of_gt (hd _ (mem_l (Rows.mem hra)))⟩
    · exact ⟨mem_tl (mem_r hp), fun e => hsep p hp (by rw [e]; exact hra)⟩
theorem put_spec {v : Value} {R : Rows} {p x y : Int} {tp tx ty : Tok} {b : Addr} {bvs : List Value} {nb : Nat} {as : List Addr} {ra : Addr} (hg : MGrid w.params rest v R) (hp0 : 0 ≤ p) (hx0 : 0 ≤ x) (hy0 : 0 ≤ y) (hp1 : p < 1000) (hx1 : x < (R.c ra).length) (hx2 : x < 1000) (hy1 : y < 1000)
    (hp : R.rs[p.toNat]? = some as) (hy : as[y.toNat]? = some ra) (hb : (b, listOf bvs.toArray nb) ∈ rest) (hbl : bvs.length ≤ 1000) (hsep : ∀ q ∈ rest, q.1 ∉ R.rs.flatten) :
    Spec 3 w mean mg mb none 166 [v, .int p tp, .int x tx, .int y ty, .ref b] (R.led ++ rest) (fun r n' => r = .none ∧ ∃ d c, n' = (R.put ra x.toNat (.ref d)).led ++ ((d, listOf bvs.toArray c) :: rest) ∧ (∀ q ∈ R.led ++ rest, q.1 < d)) := by
  k_with_none
  (k_with "fr0" => exact FrameObj.mono (by assumption) (fun p9 h9 => by (repeat (first | exact h9 | (refine List.mem_append.mpr (Or.inr ?_)) | (refine List.Mem.tail _ ?_)))))
  (k_with "ho0" => exact HOk.mono (by assumption) (fun p9 h9 => by (repeat (first | exact h9 | (refine List.mem_append.mpr (Or.inr ?_)) | (refine List.Mem.tail _ ?_)))))
  (k_with "d" => first | exact roomD hdp rfl | exact roomD0 hdp rfl | ktr_room | omega)
  (k_with "u" => first | exact roomU hun rfl | exact roomU0 hun rfl | ktr_units | omega | (simp only [tc_units, units_deeper]; omega))
  (k_with "eval ListComp" => (k_here; with_unfolding_all refine' comp_start ?z9k1 ?z9k2 ?z9k3 ?_; (case z9k1 => exact rfl); (case z9k2 => exact rfl); (case z9k3 => decide)))
  (k_with "fr" => exact FrameObj.mono (by assumption) (fun p9 h9 => by k_mem))
  (k_with "ho" => exact HOk.mono (by assumption) (fun p9 h9 => by k_mem))
  (k_with "cm" => exact CompAll.mono (by assumption) (fun p9 h9 => by k_mem))
  (k_with "subscriptTail" => (k_here; with_unfolding_all refine' item_of ?z9hm ?z9N ?z9h0 ?z9h1 ?z9hx ?_ ?z9hs; (case z9N => k_asm); (case z9hm => k_mem); (case z9h0 => first | assumption | decide | omega); (case z9h1 => first | with_reducible assumption | decide | omega); (case z9hx => assumption); (case z9hs => with_unfolding_all rfl)))
  (k_with "call type:list" => (k_here; with_unfolding_all refine' copy_of ?z9F ?z9N ?z9hm ?z9hb ?_; (case z9F => k_asm); (case z9N => k_asm); (case z9hm => k_mem); (case z9hb => first | assumption | omega | simp); intro D9 c9 h9 F9 N9 hd9; revert D9 c9 h9 F9 N9 hd9; intro _ _ _ _ _ _; (try k_sweep); (try dsimp only); (try k_fold)))
  unfold Spec
  k_fill
  intro dp un gd cn0 cs0 a0 ccd0 cl0 outer A₀ base h₀ L m s Q E B F X N T hk hdp hun hret
  refine via fun X9 hX9 => ?_
  obtain ⟨gx, gd, pa, nn, vs, t1, t2, u1, rfl, h1, h2, h3, h4, h5⟩ := hg
  refine hX9 ?_
  clear hX9 X9
  have hpl : p.toNat < vs.length := by rw [h4]; exact (List.getElem?_eq_some_iff.mp hp).1
  refine via fun X9 hX9 => ?_
  obtain ⟨as', a1, n1, k1, k2, k3⟩ := h5 _ _ (List.getElem?_eq_getElem hpl)
  refine hX9 ?_
  clear hX9 X9
  rw [hp] at k1
  cases k1
  have e1 : vs[p.toNat]? = some (.ref a1) := by rw [List.getElem?_eq_getElem hpl, k2]
  have e2 : (as.map Value.ref)[y.toNat]? = some (.ref ra) := by rw [List.getElem?_map, hy]; rfl
  have hra : ra ∈ R.rs.flatten := List.mem_flatten.mpr ⟨as, List.mem_of_getElem? hp, List.mem_of_getElem? hy⟩
  have hrm := Rows.mem hra
  refine wpAny_call ?_
  refine' code_def (binds := [(Str.ofString "self", .ref gx), (Str.ofString "place", .int p tp), (Str.ofString "x", .int x tx), (Str.ofString "y", .int y ty), (Str.ofString "row", .ref b)]) ?k1 ?k2 ?k3 ?k4 ?k5 ?kA ?kF ?kK ?k6 ?k7 ?k8 ?k9 ?kB ?_ ?c2 ?c3 ?c4 ?c5
  (case kA => exact rfl); (case kF => exact rfl); (case kK => assumption); (case k1 => k_asm); (case k2 => k_asm); (case k3 => k_asm); (case k4 => k_asm); (case k5 => k_asm); (case k6 => k_is); (case k7 => k_is); (case k8 => ktr_room)
  (case k9 => exact BindsTo.of_eq rfl); (case c5 => decide); (case kB => exact locs rfl); (case c2 => exact rfl); (case c3 => exact rfl); (case c4 => exact rfl)
  intro g' L' h' FG' F' N' B' X' T'
  (try dsimp only)
  (try k_fold)
  k_steps
  refine put_set (by k_asm) (by k_asm) (by assumption) hra hsep hx0 hx1 hx2 fun h' F' N' => ?_
  k_steps
  all_goals exact hret _ _ _ _ (by k_asm) (by k_asm) ⟨rfl, _, _, rfl, by assumption⟩
/-! C7 -/
local macro_rules | `(tactic| k_all) => `(tactic| first | assumption | solve_by_elim | exact ne_map (by assumption) (by simp only [List.map_append, List.map_cons]) | exact Abv.ne (by assumption) (by k_mem))
local macro_rules | `(tactic| k_updF) => `(tactic| first | (refine' updF_app ?a ?b; (case a => exact Abv.ne (by assumption) (by k_mem)); (case b => k_updF)) | (refine' UpdF.tail (ne_lt (by assumption) (by k_mem)) ?b; (case b => k_updF)))
local macro_rules | `(tactic| k_upd) => `(tactic| first | (refine' upd_app ?a ?b; (case a => exact Abv.ne (by assumption) (by k_mem)); (case b => k_upd)) | (refine' Upd.tail (ne_lt (by assumption) (by k_mem)) ?b; (case b => k_upd)))
theorem all_app {a : Addr} {l l' : Led} (h : ∀ p ∈ l, p.1 ≠ a) (h' : ∀ p ∈ l', p.1 ≠ a) : ∀ p ∈ l ++ l', p.1 ≠ a := fun p hp => (List.mem_append.mp hp).elim (h p) (h' p)
theorem all_cons {a b : Addr} {o : Obj} {l : Led} (h : b ≠ a) (h' : ∀ p ∈ l, p.1 ≠ a) : ∀ p ∈ (b, o) :: l, p.1 ≠ a := fun p hp => by
  rcases List.mem_cons.mp hp with rfl | hp
  · exact h
  · exact h' p hp
local macro_rules | `(tactic| k_all) => `(tactic| first | with_reducible assumption | (refine' all_app ?a ?b; (case a => k_all); (case b => k_all)) | (refine' all_cons ?a ?b; (case a => assumption); (case b => k_all)))
local macro_rules | `(tactic| k_updF) => `(tactic| first | (refine' UpdF.head ?a; (case a => k_all)) | (refine' UpdF.tail ?a ?b; (case a => assumption); (case b => k_updF)))
local macro_rules | `(tactic| k_upd) => `(tactic| first | (refine' Upd.head ?a; (case a => k_all)) | (refine' Upd.tail ?a ?b; (case a => assumption); (case b => k_upd)))
/-- the names of a function but for the stored ones -/
def Kept (stored : List Str) (m₀ m : Str → Option Value) : Prop := ∃ u : Str → Option Value, m = fun z => if stored.contains z then u z else m₀ z
theorem Kept.refl {stored : List Str} {m : Str → Option Value} : Kept stored m m := ⟨m, by funext z; split <;> rfl⟩
theorem Kept.step {stored : List Str} {m₀ m : Str → Option Value} {x : Str} {v : Option Value} (h : Kept stored m₀ m) (hx : stored.contains x = true) : Kept stored m₀ (fun y => if y = x then v else m y) := by
  obtain ⟨u, rfl⟩ := h
  refine ⟨fun y => if y = x then v else u y, ?_⟩
  funext z
  by_cases e : z = x
  · subst e; dsimp only; rw [if_pos rfl, if_pos hx, if_pos rfl]
  · dsimp only; rw [if_neg e, if_neg e]
theorem FrameOk.a {f : FrameD} (ok : FrameOk f) : 0 < mA f ∧ mA f ≤ 2 := by
  obtain ⟨c, hc⟩ : ∃ c, f.cs.map (·.across) = c ∧ True := ⟨_, rfl, trivial⟩
  have hne : f.cs.map (·.across) ≠ [] := by
    intro e
    have := ok.len0
    rw [← List.length_map (f := (·.across)), e] at this
    exact Nat.lt_irrefl _ this
  obtain ⟨M, hM⟩ : ∃ M, (f.cs.map (·.across)).max? = some M := by
    cases e : (f.cs.map (·.across)).max? with
    | none => exact absurd (List.max?_eq_none_iff.mp e) hne
    | some M => exact ⟨M, rfl⟩
  have h := List.max?_eq_some_iff.mp hM
  have e : mA f = M := mx_eq h.1 h.2
  rw [e]
  obtain ⟨c, h1, h2⟩ := List.mem_map.mp h.1
  have := ok.acr c h1
  omega
theorem FrameOk.d {f : FrameD} (ok : FrameOk f) : 0 < mD f ∧ mD f ≤ 2 := by
  have hne : f.cs.map (·.down) ≠ [] := by
    intro e
    have := ok.len0
    rw [← List.length_map (f := (·.down)), e] at this
    exact Nat.lt_irrefl _ this
  obtain ⟨M, hM⟩ : ∃ M, (f.cs.map (·.down)).max? = some M := by
    cases e : (f.cs.map (·.down)).max? with
    | none => exact absurd (List.max?_eq_none_iff.mp e) hne
    | some M => exact ⟨M, rfl⟩
  have h := List.max?_eq_some_iff.mp hM
  have e : mD f = M := mx_eq h.1 h.2
  rw [e]
  obtain ⟨c, h1, h2⟩ := List.mem_map.mp h.1
  have := ok.dwn c h1
  omega
theorem mcu_bd {W M k e : Int} (hM : 0 < M ∧ M ≤ 2) (hk : 1 ≤ k ∧ k ≤ 2) (he : 0 ≤ e ∧ e ≤ 1) (hW : W = 2 * M * k - e) : (W + 2 * M - 1) / (2 * M) = k := by
  have h1 : M = 1 ∨ M = 2 := by omega
  have h2 : k = 1 ∨ k = 2 := by omega
  have h3 : e = 0 ∨ e = 1 := by omega
  rcases h1 with rfl | rfl <;> rcases h2 with rfl | rfl <;> rcases h3 with rfl | rfl <;> subst hW <;> rfl
theorem FrameOk.mw {f : FrameD} (ok : FrameOk f) : 1 ≤ mW f ∧ mW f ≤ 2 := by
  obtain ⟨k, e, h1, h2, h3, h4, h5⟩ := ok.wid
  have := mcu_bd ok.a ⟨h1, h2⟩ ⟨h3, h4⟩ h5
  rw [mW, this]; exact ⟨h1, h2⟩
theorem FrameOk.mh {f : FrameD} (ok : FrameOk f) : 1 ≤ mH f ∧ mH f ≤ 2 := by
  obtain ⟨k, e, h1, h2, h3, h4, h5⟩ := ok.hei
  have := mcu_bd ok.d ⟨h1, h2⟩ ⟨h3, h4⟩ h5
  rw [mH, this]; exact ⟨h1, h2⟩
/-- the block's width and height of a plane, in blocks -/
abbrev pW (f : FrameD) (c : CompD) : Int := mW f * c.across
abbrev pH (f : FrameD) (c : CompD) : Int := mH f * c.down
theorem mul_bd {a b : Int} (ha : 1 ≤ a ∧ a ≤ 2) (hb : 1 ≤ b ∧ b ≤ 2) : 1 ≤ a * b ∧ a * b ≤ 4 := by
  have h1 : a = 1 ∨ a = 2 := by omega
  have h2 : b = 1 ∨ b = 2 := by omega
  rcases h1 with rfl | rfl <;> rcases h2 with rfl | rfl <;> decide
theorem FrameOk.pw {f : FrameD} (ok : FrameOk f) {c : CompD} (h : c ∈ f.cs) : 1 ≤ pW f c ∧ pW f c ≤ 4 := mul_bd ok.mw (ok.acr c h)
theorem FrameOk.ph {f : FrameD} (ok : FrameOk f) {c : CompD} (h : c ∈ f.cs) : 1 ≤ pH f c ∧ pH f c ≤ 4 := mul_bd ok.mh (ok.dwn c h)
theorem range_sz (n : Nat) : Builtin.Range.rangeSize 0 (n : Int) 1 = (n : Int) := by
  unfold Builtin.Range.rangeSize
  rw [if_pos (by decide)]
  split
  · omega
  · omega
theorem range_small {n : Nat} (h : n < 1000) : Builtin.Range.small 0 (n : Int) 1 = true := by
  unfold Builtin.Range.small
  rw [range_sz]
  simp [Builtin.Range.rangeFitsLong]
  omega
def RowsIn (nx : Led) (as : List Addr) (W : Nat) : Prop := ∀ a ∈ as, ∃ n, (a, listOf (List.replicate W Value.none).toArray n) ∈ nx
def PlaneIn (nx : Led) (v : Value) (as : List Addr) : Prop := ∃ a1 n1, v = .ref a1 ∧ (a1, listOf (as.map Value.ref).toArray n1) ∈ nx
theorem RowsIn.mono {nx nx' : Led} {as : List Addr} {W : Nat} (h : RowsIn nx as W) (hs : ∀ p ∈ nx, p ∈ nx') : RowsIn nx' as W := fun a ha => let ⟨n, e⟩ := h a ha; ⟨n, hs _ e⟩
theorem PlaneIn.mono {nx nx' : Led} {as : List Addr} {v : Value} (h : PlaneIn nx v as) (hs : ∀ p ∈ nx, p ∈ nx') : PlaneIn nx' v as := let ⟨a, n, e, h⟩ := h; ⟨a, n, e, hs _ h⟩
/-- rows that are being built -/
def GRow (nx₀ : Led) (ca : Addr) (oc : Obj) (W : Nat) (ys : List Value) (nx : Led) : Prop :=
  (ca, oc) ∈ nx ∧ ∃ as : List Addr, ys = as.map Value.ref ∧ as.Nodup ∧ ∀ a ∈ as, (∃ n, (a, listOf (List.replicate W Value.none).toArray n) ∈ nx) ∧ ∀ q ∈ nx₀, q.1 < a
/-- the grid's planes that are made -/
def GJ (f : FrameD) (base : Led) (pl ca : Addr) (i : Nat) (nx : Led) : Prop :=
  ∃ (pvs : List Value) (np : Nat) (oc : Obj) (x0 : Option Value) (rs : List (List Addr)) (tl : Led), nx = (pl, listOf pvs.toArray np) :: (ca, oc) :: (tl ++ base) ∧ oc.data = .cell x0 ∧ (∀ q ∈ tl, pl < q.1 ∧ ca < q.1 ∧ ∀ b ∈ base, b.1 < q.1) ∧ pvs.length = i ∧ rs.length = i ∧ rs.flatten.Nodup ∧
    ∀ (k : Nat) (v : Value), pvs[k]? = some v → ∃ (as : List Addr) (c : CompD), rs[k]? = some as ∧ f.cs[k]? = some c ∧ PlaneIn tl v as ∧ (as.length : Int) = pH f c ∧ RowsIn tl as (pW f c).toNat
theorem GJ.start {f : FrameD} {base : Led} {pl ca : Addr} {oc : Obj} {x0 : Option Value} (h : oc.data = .cell x0) : GJ f base pl ca 0 ((pl, listOf #[] 0) :: (ca, oc) :: base) :=
  ⟨[], _, _, _, [], [], rfl, h, by simp, rfl, rfl, List.nodup_nil, fun k v e => by simp at e⟩
section
variable {A : Around} {E : Value → Shared → Prop} {h₀ : Heap} {L ca r : Addr} {m : Str → Option Value} {nx₀ : Led} {env : Env} {scope : Scope} {clz : List (Str × Addr)} {p0 p1 p2 p3 px pos : Pos} {iter : Expr} {Q : Value → Shared → Prop} {s₁ : Shared} {H W : Nat} {b : Int} {t u v tW : Tok} {oc : Obj}
theorem comp_rows (hr : IsRange s₁.heap r 0 b 1 t u v) (hb : b = (H : Int)) (hH : H < 1000) (hW : W < 200) (F : Fr h₀ L s₁.heap m) (N : News h₀ L s₁.heap nx₀) (hm : (ca, oc) ∈ nx₀) (hoc : oc.data = .cell (some (.int (W : Int) tW))) (hA : A.handled = none)
    (hkind : scope.kind = .function) (hcell : ∀ y ∈ scope.names, y.2 ≠ .cell) (hx : scope.names.lookup (Str.ofString "y") = some NameKind.local) (hcl : clz.lookup (Str.ofString "across") = some ca) (hfr : ∀ C, (compEnvC scope clz C env).kindOf (Str.ofString "across") = some NameKind.cell)
    (hdone : ∀ D h tk (as : List Addr) tl nD, Fr h₀ L h m → News h₀ L h ((D, listOf (as.map Value.ref).toArray nD) :: (tl ++ nx₀)) → Abv nx₀ ((D, listOf (as.map Value.ref).toArray nD) :: tl) → as.length = H → as.Nodup → RowsIn tl as W → (∀ q ∈ nx₀, ∀ a ∈ as, q.1 < a) → Q (.ref D) { s₁ with heap := h, toks := tk }) :
    CompGo PySem.Challenge.rw_nz0246_01.row.prog w A E env scope clz (.ListComp (.BinOp (.List [.Constant .none 0 p0] p1) .Mult (.Name "across" p2) p3) [⟨.Name "y" px, iter, [], 0⟩] scope pos) Q (.ref r) s₁ := by
  k_with_none
  (k_with "fr0" => exact FrameObj.mono (by assumption) (fun p9 h9 => by (repeat (first | exact h9 | (refine List.mem_append.mpr (Or.inr ?_)) | (refine List.Mem.tail _ ?_)))))
  (k_with "ho0" => exact HOk.mono (by assumption) (fun p9 h9 => by (repeat (first | exact h9 | (refine List.mem_append.mpr (Or.inr ?_)) | (refine List.Mem.tail _ ?_)))))
  (k_with "d" => first | exact roomD hdp rfl | exact roomD0 hdp rfl | ktr_room | omega)
  (k_with "u" => first | exact roomU hun rfl | exact roomU0 hun rfl | ktr_units | omega | (simp only [tc_units, units_deeper]; omega))
  (k_with "eval ListComp" => (k_here; with_unfolding_all refine' comp_start ?z9k1 ?z9k2 ?z9k3 ?_; (case z9k1 => exact rfl); (case z9k2 => exact rfl); (case z9k3 => decide)))
  (k_with "fr" => exact FrameObj.mono (by assumption) (fun p9 h9 => by k_mem))
  (k_with "ho" => exact HOk.mono (by assumption) (fun p9 h9 => by k_mem))
  (k_with "cm" => exact CompAll.mono (by assumption) (fun p9 h9 => by k_mem))
  (k_with "subscriptTail" => (k_here; with_unfolding_all refine' item_of ?z9hm ?z9N ?z9h0 ?z9h1 ?z9hx ?_ ?z9hs; (case z9N => k_asm); (case z9hm => k_mem); (case z9h0 => first | assumption | decide | omega); (case z9h1 => first | with_reducible assumption | decide | omega); (case z9hx => assumption); (case z9hs => with_unfolding_all rfl)))
  (k_with "call type:list" => (k_here; with_unfolding_all refine' copy_of ?z9F ?z9N ?z9hm ?z9hb ?_; (case z9F => k_asm); (case z9N => k_asm); (case z9hm => k_mem); (case z9hb => first | assumption | omega | simp); intro D9 c9 h9 F9 N9 hd9; revert D9 c9 h9 F9 N9 hd9; intro _ _ _ _ _ _; (try k_sweep); (try dsimp only); (try k_fold)))
  (k_with "call builtin:len" => (k_here; with_unfolding_all refine' len_of ?z9hm ?z9N ?z9hb ?_; (case z9N => k_asm); (case z9hm => k_mem); (case z9hb => first | omega | decide)))
  (k_with "call builtin:list.append" => (k_here; with_unfolding_all refine' append_of ?z9F ?z9N ?z9U ?z9z ?_; (case z9F => k_asm); (case z9N => k_asm); (case z9U => intro n'; k_upd); (case z9z => first | with_reducible assumption | decide | omega); intro h9 n9 F9 N9; (try simp only [List.cons_append, List.nil_append] at N9); revert h9 n9 F9 N9; intro _ _ _ _; (try dsimp only); (try k_fold)))
  (k_with "exec For Name Call cons nil" => (k_here; with_unfolding_all refine' for_startF ?z9lF ?z9k1 ?z9k2 ?_; (case z9lF => assumption); (case z9k1 => exact rfl); (case z9k2 => exact rfl)))
  (k_with "call ref" => (k_here; with_unfolding_all refine' Spec.go ?z9uB ?z9uF ?z9uX ?z9uN ?z9uT ?z9uk ?_; (case z9uB => k_asm); (case z9uF => k_asm); (case z9uX => k_asm); (case z9uN => k_asm); (case z9uT => k_asm); (case z9uk => first | exact rfl | assumption); (first | (refine' Go.tupG (padded_spec ?z9pa ?z9pb ?z9pc ?z9pd ?z9pe ?z9pf ?z9pg ?z9ph ?z9pi ?z9pj ?z9pk) ?z9p8 ?z9p9 ?_; (case z9pa => k_extra "fr"); (case z9pb => exact (.inl rfl)); (case z9pc => assumption); (case z9pd => assumption); (case z9pe => assumption); (case z9pf => assumption); (case z9pg => first | with_reducible assumption | decide | omega); (case z9ph => first | with_reducible assumption | decide | omega); (case z9pi => assumption); (case z9pj => first | with_reducible assumption | decide | omega); (case z9pk => first | with_reducible assumption | decide | omega); (case z9p8 => k_extra "d"); (case z9p9 => k_extra "u"); intro h9 tk9 F9 tl9 ha9 tp9 t9 t9' N9 hm9; (replace hm9 := hm9); revert h9 tk9 F9 tl9 ha9 tp9 t9 t9' N9 hm9; intro _ _ _ _ _ _ _ _ _ _)); (try k_sweep); (try dsimp only); (try k_fold)))
  subst hb
  refine comp_range (n := H) (hf := []) hr (range_small hH) (range_sz _) (.inl ⟨hA, rfl⟩) F N (fun b hb => nomatch hb) hkind hcell hx (G := fun i ys nx => (∀ p ∈ nx₀, p ∈ nx) ∧ GRow nx₀ ca oc W ys nx) ?T ?hz ?G0 ?D
  case hz => rw [sizeLine_eq]; omega
  case G0 => exact ⟨fun p hp => hp, hm, [], rfl, List.nodup_nil, fun a ha => nomatch ha⟩
  case T =>
    intro i h tk ys nx led mC C oC hi hv hs hC hG F N hn E'
    refine via fun X9 hX9 => ?_
    obtain ⟨hsub, hcm, as, rfl, hnd, has⟩ := hG
    refine hX9 ?_
    clear hX9 X9
    have hcm' := hs _ hcm
    have hfr' := hfr C
    have hk' : (compEnvC scope clz C env).scope.kind = .function := hkind
    k_steps
    rename Fr _ _ _ _ => F3
    rename News _ _ _ _ => N3
    rename_i hlt _ _
    refine ldCellK hcl ⟨_, N3.get (mem_tl hcm'), hoc⟩ ?_ hk' hfr' (by decide)
    refine KMa.mul F3 N3 (vs := [Value.none]) ⟨_, (N3 _ mem_hd).1, rfl, _, rfl⟩ (by omega) (by omega) (by simp; omega) (ws := List.replicate W Value.none) (by simp [List.flatten_replicate_singleton]) fun D9 h9 F9 N9 hd9 => ?_
    refine ⟨_, _, [(D9, _), (_, _)], rfl, F9, N9, fun q hq p hp => ?_, fun p hp => mem_r (hsub p hp), mem_r hcm, as ++ [D9], by rw [List.map_append]; rfl, ?_, ?_⟩
    · rcases List.mem_cons.mp hp with rfl | hp
      · exact hd9 q (mem_tl hq)
      · rw [List.mem_singleton.mp hp]
        exact Heap.lt_size (N _ hq).1
    · rw [List.nodup_append]
      refine ⟨hnd, by simp, fun a ha b hb => ?_⟩
      rw [List.mem_singleton.mp hb]
      obtain ⟨⟨n, h1⟩, _⟩ := has a ha
      exact Nat.ne_of_lt (hd9 _ (mem_tl (hs _ h1)))
    · intro a ha
      rcases List.mem_append.mp ha with ha | ha
      · obtain ⟨⟨n, h1⟩, h2⟩ := has a ha
        exact ⟨⟨n, mem_r h1⟩, h2⟩
      · rw [List.mem_singleton.mp ha]
        exact ⟨⟨0, mem_l mem_hd⟩, fun q hq => hd9 q (mem_tl (hs _ (hsub _ hq)))⟩
  case D =>
    intro D h tk ys tl nD hlen F N hab hne hG
    refine via fun X9 hX9 => ?_
    obtain ⟨_, hcm, as, rfl, hnd, has⟩ := hG
    refine hX9 ?_
    clear hX9 X9
    refine hdone D h tk as tl nD F N hab (by simpa using hlen) hnd (fun a ha => ?_) fun q hq a ha => (has a ha).2 q hq
    obtain ⟨⟨n, h1⟩, h2⟩ := has a ha
    rcases List.mem_append.mp h1 with h1 | h1
    · exact ⟨n, h1⟩
    · exact absurd (h2 _ h1) (Nat.lt_irrefl _)
end
theorem GJ.step {f : FrameD} {base own tl tl' : Led} {pl ca I D : Addr} {i np nD : Nat} {pvs : List Value} {oc : Obj} {c : CompD} {oc0 : Option Value} {rs : List (List Addr)} {as : List Addr} {h₀ h : Heap} {L : Addr}
    (N : News h₀ L h (((D, listOf (as.map Value.ref).toArray nD) :: tl') ++ ((pl, listOf (pvs ++ [Value.ref D]).toArray np) :: (ca, oc) :: (tl ++ (base ++ own))))) (hoc : oc.data = .cell oc0)
    (htl : ∀ q ∈ tl, pl < q.1 ∧ ca < q.1 ∧ ∀ b ∈ base, b.1 < q.1) (hnew : ∀ q ∈ ((D, listOf (as.map Value.ref).toArray nD) :: tl'), pl < q.1 ∧ ca < q.1 ∧ (∀ b ∈ base, b.1 < q.1) ∧ I < q.1)
    {np0 : Nat} (hI : ∀ p ∈ (pl, listOf pvs.toArray np0) :: (ca, oc) :: (tl ++ base), p.1 ≠ I)
    (hp : pvs.length = i) (hr : rs.length = i) (hnd : rs.flatten.Nodup) (hpl : ∀ (k : Nat) (v : Value), pvs[k]? = some v → ∃ (as : List Addr) (c : CompD), rs[k]? = some as ∧ f.cs[k]? = some c ∧ PlaneIn tl v as ∧ (as.length : Int) = pH f c ∧ RowsIn tl as (pW f c).toNat)
    (hc : f.cs[i]? = some c) (hlen : (as.length : Int) = pH f c) (hnd2 : as.Nodup) (hrows : RowsIn tl' as (pW f c).toNat) (hab : ∀ q ∈ tl, ∀ a ∈ as, q.1 < a) :
    ∃ nx', News h₀ L h (nx' ++ own) ∧ (∀ p ∈ nx', p.1 ≠ I) ∧ GJ f base pl ca (i + 1) nx' := by
  refine ⟨(pl, listOf (pvs ++ [Value.ref D]).toArray np) :: (ca, oc) :: ((((D, listOf (as.map Value.ref).toArray nD) :: tl') ++ tl) ++ base), fun p hp => N p ?_, fun p hp => ?_, pvs ++ [Value.ref D], np, oc, oc0, rs ++ [as], ((D, listOf (as.map Value.ref).toArray nD) :: tl') ++ tl, rfl, hoc, ?_, by simp [hp], by simp [hr], ?_, ?_⟩
  · simp only [List.mem_append, List.mem_cons] at hp ⊢
    rcases hp with (hp | hp | ((hp | hp) | hp) | hp) | hp
    · exact .inr (.inl hp)
    · exact .inr (.inr (.inl hp))
    · exact .inl (.inl hp)
    · exact .inl (.inr hp)
    · exact .inr (.inr (.inr (.inl hp)))
    · exact .inr (.inr (.inr (.inr (.inl hp))))
    · exact .inr (.inr (.inr (.inr (.inr hp))))
  · rcases List.mem_cons.mp hp with rfl | hp
    · exact hI (pl, listOf pvs.toArray np0) mem_hd
    · rcases List.mem_cons.mp hp with rfl | hp
      · exact hI _ (mem_tl mem_hd)
      · rcases List.mem_append.mp hp with hp | hp
        · rcases List.mem_append.mp hp with hp | hp
          · exact Nat.ne_of_gt (hnew p hp).2.2.2
          · exact hI p (mem_tl (mem_tl (mem_l hp)))
        · exact hI p (mem_tl (mem_tl (mem_r hp)))
  · intro q hq
    rcases List.mem_append.mp hq with hq | hq
    · exact ⟨(hnew q hq).1, (hnew q hq).2.1, (hnew q hq).2.2.1⟩
    · exact htl q hq
  · rw [List.flatten_append, List.nodup_append]
    refine ⟨hnd, by simpa using hnd2, fun a ha b hb => ?_⟩
    have hb' : b ∈ as := by simpa using hb
    obtain ⟨as', ha1, ha2⟩ := List.mem_flatten.mp ha
    obtain ⟨k, hk⟩ := List.getElem?_of_mem ha1
    have hkl : k < pvs.length := by rw [hp, ← hr]; exact (List.getElem?_eq_some_iff.mp hk).1
    obtain ⟨as2, c2, e1, _, _, _, h3⟩ := hpl k _ (List.getElem?_eq_getElem hkl)
    rw [hk] at e1
    cases e1
    obtain ⟨n, hn⟩ := h3 a ha2
    exact Nat.ne_of_lt (hab _ hn b hb')
  · intro k v hk
    by_cases e : k < i
    · rw [List.getElem?_append_left (by omega)] at hk
      obtain ⟨as2, c2, e1, e2, e3, e4, e5⟩ := hpl k v hk
      exact ⟨as2, c2, by rw [List.getElem?_append_left (by omega)]; exact e1, e2, e3.mono fun p hp => mem_r hp, e4, e5.mono fun p hp => mem_r hp⟩
    · have hk2 : k = i := by
        have := (List.getElem?_eq_some_iff.mp hk).1
        simp [hp] at this
        omega
      subst hk2
      rw [List.getElem?_append_right (by omega)] at hk
      simp [hp] at hk
      subst hk
      refine ⟨as, c, by rw [List.getElem?_append_right (by omega)]; simp [hr], hc, ⟨D, nD, rfl, mem_l mem_hd⟩, hlen, hrows.mono fun p hp => mem_l (mem_tl hp)⟩
theorem GJ.step2 {f : FrameD} {base own tl tl2 tl9 : Led} {pl ca I D : Addr} {i np np' nD : Nat} {pvs : List Value} {oc oc' : Obj} {c : CompD} {oc0 : Option Value} {rs : List (List Addr)} {as : List Addr} {h₀ h : Heap} {L : Addr}
    (N : News h₀ L h ((D, listOf (as.map Value.ref).toArray nD) :: (tl2 ++ (tl9 ++ ((pl, listOf (pvs ++ [Value.ref D]).toArray np') :: (ca, oc') :: (tl ++ (base ++ own))))))) (hoc : oc'.data = .cell oc0)
    (htl : ∀ q ∈ tl, pl < q.1 ∧ ca < q.1 ∧ ∀ b ∈ base, b.1 < q.1) (hI : ∀ p ∈ (pl, listOf pvs.toArray np) :: (ca, oc) :: (tl ++ base), p.1 ≠ I)
    {oI : Obj} (hIo : (I, oI) ∈ own) (a9 : Abv ((pl, listOf pvs.toArray np) :: (ca, oc) :: (tl ++ (base ++ own))) tl9) (hD : ∀ q ∈ tl9 ++ ((pl, listOf pvs.toArray np) :: (ca, oc') :: (tl ++ (base ++ own))), q.1 < D) (a2 : Abv (tl9 ++ ((pl, listOf pvs.toArray np) :: (ca, oc') :: (tl ++ (base ++ own)))) tl2)
    (hp : pvs.length = i) (hr : rs.length = i) (hnd : rs.flatten.Nodup) (hpl : ∀ (k : Nat) (v : Value), pvs[k]? = some v → ∃ (as : List Addr) (c : CompD), rs[k]? = some as ∧ f.cs[k]? = some c ∧ PlaneIn tl v as ∧ (as.length : Int) = pH f c ∧ RowsIn tl as (pW f c).toNat)
    (hc : f.cs[i]? = some c) (hlen : (as.length : Int) = pH f c) (hnd2 : as.Nodup) (hrows : RowsIn tl2 as (pW f c).toNat) (hab : ∀ q ∈ tl9 ++ ((pl, listOf pvs.toArray np) :: (ca, oc') :: (tl ++ (base ++ own))), ∀ a ∈ as, q.1 < a) :
    ∃ nx', News h₀ L h (nx' ++ own) ∧ (∀ p ∈ nx', p.1 ≠ I) ∧ GJ f base pl ca (i + 1) nx' := by
  refine GJ.step (I := I) (tl' := tl2 ++ tl9) (np := np') (np0 := np) (oc := oc') (D := D) (tl := tl) (pvs := pvs) (nD := nD) (fun p hp => N p ?_) hoc htl ?_ ?_ hp hr hnd hpl hc hlen hnd2 (hrows.mono fun p hp => mem_l hp) fun q hq => hab q (mem_r (mem_tl (mem_tl (mem_l hq))))
  · simpa only [List.cons_append, List.append_assoc] using hp
  · intro q hq
    rcases List.mem_cons.mp hq with rfl | hq
    · exact ⟨hD _ (mem_r mem_hd), hD _ (mem_r (mem_tl mem_hd)), fun b hb => hD b (mem_r (mem_tl (mem_tl (mem_r (mem_l hb))))), hD _ (mem_r (mem_tl (mem_tl (mem_r (mem_r hIo)))))⟩
    · rcases List.mem_append.mp hq with hq | hq
      · exact ⟨a2 _ (mem_r mem_hd) _ hq, a2 _ (mem_r (mem_tl mem_hd)) _ hq, fun b hb => a2 b (mem_r (mem_tl (mem_tl (mem_r (mem_l hb))))) _ hq, a2 _ (mem_r (mem_tl (mem_tl (mem_r (mem_r hIo))))) _ hq⟩
      · exact ⟨a9 _ mem_hd _ hq, a9 _ (mem_tl mem_hd) _ hq, fun b hb => a9 b (mem_tl (mem_tl (mem_r (mem_l hb)))) _ hq, a9 _ (mem_tl (mem_tl (mem_r (mem_r hIo)))) _ hq⟩
  · intro p hp
    rcases List.mem_cons.mp hp with rfl | hp
    · exact hI (pl, listOf pvs.toArray np) mem_hd
    · rcases List.mem_cons.mp hp with rfl | hp
      · exact hI (ca, oc) (mem_tl mem_hd)
      · exact hI p (mem_tl (mem_tl hp))
/-- a new grid: its rows hold None -/
def GridNew (P : Params) (f : FrameD) (news : Led) (r : Value) (n' : Led) : Prop :=
  ∃ R rest', n' = R.led ++ rest' ∧ (∀ p ∈ news, p ∈ rest') ∧ MGrid P rest' r R ∧ (∀ q ∈ rest', q.1 ∉ R.rs.flatten) ∧ R.rs.flatten.Nodup ∧ R.rs.length = f.cs.length ∧
    ∀ (k : Nat) (c : CompD), f.cs[k]? = some c → ∃ as, R.rs[k]? = some as ∧ (as.length : Int) = pH f c ∧ ∀ a ∈ as, ((R.c a).length : Int) = pW f c
theorem listOf_inj {a b : List Value} {n m : Nat} (h : listOf a.toArray n = listOf b.toArray m) : a = b := by
  have e1 : a.toArray = b.toArray := by injection h with _ _ e; injection e
  have := congrArg Array.toList e1
  simpa using this
open Classical in
theorem grid_end {P : Params} {f : FrameD} {Z news : Led} {pl x0 d0 : Addr} {np : Nat} {pvs : List Value} {rs : List (List Addr)} {h₀ h : Heap} {L : Addr} {t1 t2 u1 : Tok} (N : News h₀ L h Z) (ok : FrameOk f)
    (hpl : (pl, listOf pvs.toArray np) ∈ Z) (hx : (x0, instObj 169 d0) ∈ Z) (hd : (d0, dictOf [⟨kh P "many", .str "many" t1, .int (2 * 2) u1⟩, ⟨kh P "planes", .str "planes" t2, .ref pl⟩] 2) ∈ Z)
    (hp : ∀ (k : Nat) (v : Value), pvs[k]? = some v → ∃ (as : List Addr) (c : CompD), rs[k]? = some as ∧ f.cs[k]? = some c ∧ PlaneIn Z v as ∧ (as.length : Int) = pH f c ∧ RowsIn Z as (pW f c).toNat)
    (hl1 : pvs.length = f.cs.length) (hl2 : rs.length = f.cs.length) (hnd : rs.flatten.Nodup) (hnews : ∀ p ∈ news, p ∈ Z ∧ ∀ a ∈ rs.flatten, p.1 < a) :
    ∃ n', News h₀ L h n' ∧ GridNew P f news (.ref x0) n' := by
  have fn : ∀ {a : Addr} {o o' : Obj}, (a, o) ∈ Z → (a, o') ∈ Z → o = o' := fun h1 h2 => by
    have e1 := (N _ h1).1
    have e2 := (N _ h2).1
    dsimp only at e1 e2
    rw [e1] at e2
    exact Option.some.inj e2
  let cc : Addr → List Value := fun a => if h : ∃ (vs : List Value) (n : Nat), (a, listOf vs.toArray n) ∈ Z then choose h else []
  let nn : Addr → Nat := fun a => if h : ∃ n, (a, listOf (cc a).toArray n) ∈ Z then choose h else 0
  have hcc : ∀ {a : Addr} {vs : List Value} {n : Nat}, (a, listOf vs.toArray n) ∈ Z → cc a = vs ∧ (a, listOf (cc a).toArray (nn a)) ∈ Z := fun {a vs n} hm => by
    have h1 : ∃ (vs : List Value) (n : Nat), (a, listOf vs.toArray n) ∈ Z := ⟨vs, n, hm⟩
    have e1 : cc a = choose h1 := dif_pos h1
    have e2 : ∃ n, (a, listOf (cc a).toArray n) ∈ Z := by rw [e1]; exact choose_spec h1
    have e3 : nn a = choose e2 := dif_pos e2
    obtain ⟨n', hn'⟩ := id e2
    exact ⟨listOf_inj (fn hn' hm), by rw [e3]; exact choose_spec e2⟩
  have hrow : ∀ a ∈ rs.flatten, ∃ (W n : Nat), 0 < W ∧ (a, listOf (List.replicate W Value.none).toArray n) ∈ Z := fun a ha => by
    obtain ⟨as, h1, h2⟩ := List.mem_flatten.mp ha
    obtain ⟨k, hk⟩ := List.getElem?_of_mem h1
    have hkl : k < pvs.length := by rw [hl1, ← hl2]; exact (List.getElem?_eq_some_iff.mp hk).1
    obtain ⟨as2, c2, e1, e2, _, _, h3⟩ := hp k _ (List.getElem?_eq_getElem hkl)
    rw [hk] at e1
    cases e1
    obtain ⟨n, hn⟩ := h3 a h2
    have := ok.pw (List.mem_of_getElem? e2)
    exact ⟨_, n, by omega, hn⟩
  have keep : ∀ {a : Addr} {o : Obj}, (a, o) ∈ Z → (∀ W n, 0 < W → o ≠ listOf (List.replicate W Value.none).toArray n) → (a, o) ∈ Z.filter (fun p => decide (p.1 ∉ rs.flatten)) := fun {a o} h1 h2 => List.mem_filter.mpr ⟨h1, by
    refine decide_eq_true fun hm => ?_
    obtain ⟨W, n, hW, h3⟩ := hrow a hm
    exact h2 W n hW (fn h1 h3)⟩
  have keepR : ∀ {a : Addr} {v : Value} {vs : List Value} {n : Nat} {b : Addr}, v = .ref b → (a, listOf (v :: vs).toArray n) ∈ Z → (a, listOf (v :: vs).toArray n) ∈ Z.filter (fun p => decide (p.1 ∉ rs.flatten)) := fun {a v vs n b} e h1 => keep h1 fun W n hW q => by
    have := listOf_inj q
    subst e
    cases W with
    | zero => exact absurd hW (Nat.lt_irrefl _)
    | succ W => simp [List.replicate_succ] at this
  refine ⟨(Rows.mk rs cc nn).led ++ Z.filter (fun p => decide (p.1 ∉ rs.flatten)), fun p hp' => ?_, ⟨rs, cc, nn⟩, _, rfl, fun p hp' => ?_, ?_, fun q hq => by simpa using (List.mem_filter.mp hq).2, hnd, hl2, fun k c hk => ?_⟩
  · rcases List.mem_append.mp hp' with hp' | hp'
    · obtain ⟨a, ha, rfl⟩ := List.mem_map.mp hp'
      obtain ⟨W, n, _, h3⟩ := hrow a ha
      exact N _ (hcc h3).2
    · exact N _ (List.mem_filter.mp hp').1
  · refine List.mem_filter.mpr ⟨(hnews p hp').1, decide_eq_true fun hm => ?_⟩
    exact Nat.lt_irrefl _ ((hnews p hp').2 _ hm)
  · refine ⟨x0, d0, pl, np, pvs, t1, t2, u1, rfl, keep hx (by intros; simp), keep hd (by intros; simp), ?_, by rw [hl1, hl2], fun i v' e => ?_⟩
    · cases pvs with
      | nil => have := ok.len0; rw [← hl1] at this; exact absurd this (Nat.lt_irrefl _)
      | cons v vs =>
        obtain ⟨as, c, _, _, ⟨a1, n1, e, _⟩, _⟩ := hp 0 v rfl
        exact keepR e hpl
    · obtain ⟨as, c, e1, e2, ⟨a1, n1, e3, e4⟩, e5, _⟩ := hp i v' e
      refine ⟨as, a1, n1, e1, e3, ?_⟩
      cases as with
      | nil => have := ok.ph (List.mem_of_getElem? e2); simp at e5; omega
      | cons a as => exact keepR rfl e4
  · have hkl : k < pvs.length := by rw [hl1]; exact (List.getElem?_eq_some_iff.mp hk).1
    obtain ⟨as, c2, e1, e2, _, e5, h3⟩ := hp k _ (List.getElem?_eq_getElem hkl)
    rw [hk] at e2
    cases e2
    refine ⟨as, e1, e5, fun a ha => ?_⟩
    obtain ⟨n, hn⟩ := h3 a ha
    show ((cc a).length : Int) = _
    rw [(hcc hn).1, List.length_replicate]
    have := ok.pw (List.mem_of_getElem? hk)
    omega
theorem grid_spec {v : Value} {f : FrameD} (hf : FrameObj w.params news v f) (ok : FrameOk f) :
    Spec 8 w mean mg mb none 169 [v] news (GridNew w.params f news) := by
  k_with_none
  (k_with "fr0" => exact FrameObj.mono (by assumption) (fun p9 h9 => by (repeat (first | exact h9 | (refine List.mem_append.mpr (Or.inr ?_)) | (refine List.Mem.tail _ ?_)))))
  (k_with "ho0" => exact HOk.mono (by assumption) (fun p9 h9 => by (repeat (first | exact h9 | (refine List.mem_append.mpr (Or.inr ?_)) | (refine List.Mem.tail _ ?_)))))
  (k_with "d" => first | exact roomD hdp rfl | exact roomD0 hdp rfl | ktr_room | omega)
  (k_with "u" => first | exact roomU hun rfl | exact roomU0 hun rfl | ktr_units | omega | (simp only [tc_units, units_deeper]; omega))
  (k_with "eval ListComp" => (k_here; with_unfolding_all refine' comp_start ?z9k1 ?z9k2 ?z9k3 ?_; (case z9k1 => exact rfl); (case z9k2 => exact rfl); (case z9k3 => decide)))
  (k_with "fr" => exact FrameObj.mono (by assumption) (fun p9 h9 => by k_mem))
  (k_with "ho" => exact HOk.mono (by assumption) (fun p9 h9 => by k_mem))
  (k_with "cm" => exact CompAll.mono (by assumption) (fun p9 h9 => by k_mem))
  (k_with "subscriptTail" => (k_here; with_unfolding_all refine' item_of ?z9hm ?z9N ?z9h0 ?z9h1 ?z9hx ?_ ?z9hs; (case z9N => k_asm); (case z9hm => k_mem); (case z9h0 => first | assumption | decide | omega); (case z9h1 => first | with_reducible assumption | decide | omega); (case z9hx => assumption); (case z9hs => with_unfolding_all rfl)))
  (k_with "call type:list" => (k_here; with_unfolding_all refine' copy_of ?z9F ?z9N ?z9hm ?z9hb ?_; (case z9F => k_asm); (case z9N => k_asm); (case z9hm => k_mem); (case z9hb => first | assumption | omega | simp); intro D9 c9 h9 F9 N9 hd9; revert D9 c9 h9 F9 N9 hd9; intro _ _ _ _ _ _; (try k_sweep); (try dsimp only); (try k_fold)))
  (k_with "call builtin:len" => (k_here; with_unfolding_all refine' len_of ?z9hm ?z9N ?z9hb ?_; (case z9N => k_asm); (case z9hm => k_mem); (case z9hb => first | omega | decide)))
  (k_with "call builtin:list.append" => (k_here; with_unfolding_all refine' append_of ?z9F ?z9N ?z9U ?z9z ?_; (case z9F => k_asm); (case z9N => k_asm); (case z9U => intro n'; k_upd); (case z9z => first | with_reducible assumption | decide | omega); intro h9 n9 F9 N9; (try simp only [List.cons_append, List.nil_append] at N9); revert h9 n9 F9 N9; intro _ _ _ _; (try dsimp only); (try k_fold)))
  (k_with "exec For Name Call cons nil" => (k_here; with_unfolding_all refine' for_startF ?z9lF ?z9k1 ?z9k2 ?_; (case z9lF => assumption); (case z9k1 => exact rfl); (case z9k2 => exact rfl)))
  (k_with "call ref" => (k_here; with_unfolding_all refine' Spec.go ?z9uB ?z9uF ?z9uX ?z9uN ?z9uT ?z9uk ?_; (case z9uB => k_asm); (case z9uF => k_asm); (case z9uX => k_asm); (case z9uN => k_asm); (case z9uT => k_asm); (case z9uk => first | exact rfl | assumption); (first | (refine' Go.tupG (padded_spec ?z9pa ?z9pb ?z9pc ?z9pd ?z9pe ?z9pf ?z9pg ?z9ph ?z9pi ?z9pj ?z9pk) ?z9p8 ?z9p9 ?_; (case z9pa => k_extra "fr"); (case z9pb => exact (.inl rfl)); (case z9pc => assumption); (case z9pd => assumption); (case z9pe => assumption); (case z9pf => assumption); (case z9pg => first | with_reducible assumption | decide | omega); (case z9ph => first | with_reducible assumption | decide | omega); (case z9pi => assumption); (case z9pj => first | with_reducible assumption | decide | omega); (case z9pk => first | with_reducible assumption | decide | omega); (case z9p8 => k_extra "d"); (case z9p9 => k_extra "u"); intro h9 tk9 F9 tl9 ha9 tp9 t9 t9' N9 hm9; (replace hm9 := hm9); revert h9 tk9 F9 tl9 ha9 tp9 t9 t9' N9 hm9; intro _ _ _ _ _ _ _ _ _ _)); (try k_sweep); (try dsimp only); (try k_fold)))
  unfold Spec
  k_fill
  intro dp un gd cn0 cs0 a0 ccd0 cl0 outer A₀ base h₀ L m s Q E B F X N T hk hdp hun hret
  have hf' := hf
  refine via fun X9 hX9 => ?_
  refine FrameObj.elim (hf) fun x dx cl nn vs t1 t2 t3 t4 t5 t6 u1 u2 u3 u4 u6 e9 hx hdx hcl hcs => ?_
  subst e9
  clear hf
  refine hX9 ?_
  clear hX9 X9
  have hvs : vs.length ≤ 2 := by rw [hcs.1]; exact ok.len2
  have ok0 := ok.len0
  have ok2 := ok.len2
  have okA := ok.a
  have okD := ok.d
  refine' call_cls ?k1 ?k2 ?k3 ?k4 ?k5 ?k6 ?_
  (case k1 => k_asm); (case k2 => k_asm); (case k3 => k_asm); (case k4 => k_is); (case k5 => k_is); (case k6 => k_is)
  intro x0 d0 h0 F0 N0 l1 l2
  (try k_lt l1)
  (try k_lt2 l2)
  refine' code_defC (binds := [(Str.ofString "self", .ref x0), (Str.ofString "frame", .ref x)]) ?k1 ?k2 ?k3 ?k4 ?k5 ?kA ?kF ?kK ?k6 ?k7 ?k8 ?k9 ?kB ?kD ?_ ?c2 ?c3 ?c4
  (case kA => exact rfl); (case kF => exact rfl); (case kK => assumption); (case k1 => k_asm); (case k2 => k_asm); (case k3 => k_asm); (case k4 => k_asm); (case k5 => k_asm); (case k6 => k_is); (case k7 => k_is); (case k8 => ktr_room)
  (case k9 => exact BindsTo.of_eq rfl); (case kB => exact rfl); (case kD => decide +kernel); (case c2 => exact rfl); (case c3 => exact rfl); (case c4 => exact rfl)
  intro g' L' h' tk' cells' FG' F' N' Y' B' X' T' l9
  k_cells Y'
  (try simp only [List.cons_append, List.nil_append] at N')
  (try dsimp only)
  (try k_fold)
  have l9d : @LT.lt Nat _ d0 L' := l9 _ (mem_tl mem_hd)
  have l9x : @LT.lt Nat _ x0 L' := l9 _ mem_hd
  k_steps
  rename_i oc' d1' hh3 pl hh2 hpl0 hh1 FF NN hh0 tkk ta ua va hr F1 N1 aa
  have hplca : pl ≠ L' + 1 := (Nat.ne_of_lt (hpl0 _ mem_hd)).symm
  have hx0 : @LT.lt Nat _ x0 pl := hpl0 (x0, _) (mem_tl mem_hd)
  have hd0 : @LT.lt Nat _ d0 pl := hpl0 (d0, _) (mem_tl (mem_tl mem_hd))
  have hbs : ∀ b ∈ news, @LT.lt Nat _ b.1 pl ∧ @LT.lt Nat _ b.1 (L' + 1) := fun b hb => ⟨hpl0 _ (mem_tl (mem_tl (mem_tl hb))), Nat.lt_succ_of_lt (l9 b (mem_tl (mem_tl hb)))⟩
  refine for_range hr (n := vs.length) (hf := []) (range_small (by omega)) (range_sz _) (.inl ⟨rfl, rfl⟩) F1 N1 (fun b hb => nomatch hb) (fun i m nx => Kept ["place", "down"] _ m ∧ GJ f _ _ (L' + 1) i nx) ⟨Kept.refl, GJ.start (by assumption)⟩ ?turn ?done
  case turn =>
    intro i t h tk own nx m₁ I oI hi hJ9 hI hown hIn F1 N1
    refine via fun X9 hX9 => ?_
    obtain ⟨⟨u, rfl⟩, pvs, np, oc, oc0, rs, tl, rfl, hoc, htl, hp1, hr1, hnd, hpl⟩ := hJ9
    refine hX9 ?_
    clear hX9 X9
    have hi2 : (0:Int) + (i:Nat) < 2 := by omega
    refine via fun X9 hX9 => ?_
    obtain ⟨c, hc⟩ : ∃ c, f.cs[((0:Int) + (i:Nat)).toNat]? = some c := ⟨_, List.getElem?_eq_getElem (by rw [hcs.1] at hi; omega)⟩
    refine hX9 ?_
    clear hX9 X9
    have hca := ok.acr c (List.mem_of_getElem? hc)
    have hcd := ok.dwn c (List.mem_of_getElem? hc)
    have hpw := ok.pw (List.mem_of_getElem? hc)
    have hph := ok.ph (List.mem_of_getElem? hc)
    have how : ∀ q ∈ own, q.1 = I := fun q hq => (hown q hq).elim id fun h => nomatch h
    simp only [List.cons_append, List.nil_append, List.append_assoc] at N1
    have sep : ∀ a, (a = pl ∨ a = L' + 1) → (∀ p ∈ tl, p.1 ≠ a) ∧ x0 ≠ a ∧ d0 ≠ a ∧ (∀ p ∈ news, p.1 ≠ a) ∧ (∀ p ∈ own, p.1 ≠ a) := by
      intro a ha
      refine ⟨fun p hp => ?_, ?_, ?_, fun p hp => ?_, fun p hp => ?_⟩
      · rcases ha with rfl | rfl
        · exact Nat.ne_of_gt (htl p hp).1
        · exact Nat.ne_of_gt (htl p hp).2.1
      · rcases ha with rfl | rfl
        · exact Nat.ne_of_lt hx0
        · exact Nat.ne_of_lt (Nat.lt_succ_of_lt l9x)
      · rcases ha with rfl | rfl
        · exact Nat.ne_of_lt hd0
        · exact Nat.ne_of_lt (Nat.lt_succ_of_lt l9d)
      · rcases ha with rfl | rfl
        · exact Nat.ne_of_lt (hbs p hp).1
        · exact Nat.ne_of_lt (hbs p hp).2
      · rw [how p hp]
        rcases ha with rfl | rfl
        · exact (hIn _ mem_hd).symm
        · exact (hIn _ (mem_tl mem_hd)).symm
    refine via fun X9 hX9 => ?_
    obtain ⟨sa1, sa2, sa3, sa4, sa5⟩ := sep pl (.inl rfl)
    obtain ⟨sb1, sb2, sb3, sb4, sb5⟩ := sep _ (.inr rfl)
    refine hX9 ?_
    clear hX9 X9
    have hcapl := hplca.symm
    refine via fun X9 hX9 => ?_
    obtain ⟨H, hH⟩ : ∃ H : Nat, pH f c = (H : Int) := ⟨(pH f c).toNat, by omega⟩
    obtain ⟨W, hW⟩ : ∃ W : Nat, pW f c = (W : Int) := ⟨(pW f c).toNat, by omega⟩
    refine hX9 ?_
    clear hX9 X9
    k_steps
    rename IsRange _ _ _ _ _ _ _ _ => hr2
    rename Fr _ _ _ _ => F2
    rename News _ _ _ _ => N2
    refine' comp_rows (H := H) (W := W) hr2 hH ?z1 ?z2 F2 N2 (ca := L' + 1) ?hm ?hoc ?k1 ?k2 ?k3 ?k4 ?k5 ?k6 ?D
    case hm => k_mem
    case hoc => rw [← hW]; assumption
    (case z1 => omega); (case z2 => omega); (case k1 => exact rfl); (case k2 => exact rfl); (case k3 => decide); (case k4 => exact rfl); (case k5 => exact rfl); (case k6 => exact fun _ => by with_unfolding_all rfl)
    intro D h2 tk2 as tl2 nD2 F N hab hlen hnd2 hrows hrab
    have habD := abv_hd hab
    replace hab := abv_tl hab
    k_steps
    rename Fr _ _ _ _ => F3
    rename News _ _ _ _ => N3
    rename Abv _ _ => ha3
    have e0 : ((0 : Int) + (i : Nat)).toNat = i := by omega
    refine via fun X9 hX9 => ?_
    obtain ⟨nx', k1, k2, k3⟩ := GJ.step2 (own := own) (I := I) (base := (x0, instObj 169 d0) :: _ :: news) N3 (by assumption) htl hIn hI (by assumption) habD ha3 hp1 hr1 hnd hpl (by rw [← e0]; exact hc) (by rw [hlen]; exact hH.symm) hnd2 (by rw [hW]; exact hrows) hrab
    refine hX9 ?_
    clear hX9 X9
    exact ⟨rfl, _, _, _, nx', rfl, F3, k1, k2, Kept.step (Kept.step ⟨u, rfl⟩ (by decide)) (by decide), k3⟩
  case done =>
    intro h tk m₁ nx hJ9 F1 N1
    refine via fun X9 hX9 => ?_
    obtain ⟨⟨u, rfl⟩, pvs, np, oc, oc0, rs, tl, rfl, hoc, htl, hp1, hr1, hnd, hpl⟩ := hJ9
    refine hX9 ?_
    clear hX9 X9
    obtain ⟨n', k1, k2⟩ := grid_end (news := news) N1 ok mem_hd (mem_tl (mem_tl (mem_r mem_hd))) (mem_tl (mem_tl (mem_r (mem_tl mem_hd)))) (fun k v e => by
      refine via fun X9 hX9 => ?_
      obtain ⟨as, c, e1, e2, e3, e4, e5⟩ := hpl k v e
      refine hX9 ?_
      clear hX9 X9
      exact ⟨as, c, e1, e2, e3.mono fun p hp => mem_tl (mem_tl (mem_l hp)), e4, e5.mono fun p hp => mem_tl (mem_tl (mem_l hp))⟩) (hp1.trans hcs.1) (hr1.trans hcs.1) hnd (fun p hp => ⟨mem_tl (mem_tl (mem_r (mem_tl (mem_tl hp)))), fun a ha => by
        refine via fun X9 hX9 => ?_
        obtain ⟨as, h1, h2⟩ := List.mem_flatten.mp ha
        obtain ⟨k, hk⟩ := List.getElem?_of_mem h1
        refine hX9 ?_
        clear hX9 X9
        have hkl : k < pvs.length := by rw [hp1, ← hr1]; exact (List.getElem?_eq_some_iff.mp hk).1
        refine via fun X9 hX9 => ?_
        obtain ⟨as2, c2, e1, e2, _, _, h3⟩ := hpl k _ (List.getElem?_eq_getElem hkl)
        refine hX9 ?_
        clear hX9 X9
        rw [hk] at e1
        cases e1
        obtain ⟨n, hn⟩ := h3 a h2
        exact (htl _ hn).2.2 p (mem_tl (mem_tl hp))⟩)
    clear N1
    k_steps
    exact hret _ n' _ _ (by k_asm) (by k_asm) k2
/-! C8 -/
abbrev blkD (l : List Int) : Dat := Dat.list (l.map Dat.int)
/-- a whole grid: the blocks at their places -/
def GridObj (P : Params) (news : Led) (v : Value) (f : FrameD) (G : Nat → Nat → Nat → List Int) : Prop :=
  ∃ R, MGrid P news v R ∧ (∀ a ∈ R.rs.flatten, (a, listOf (R.c a).toArray (R.n a)) ∈ news) ∧ R.rs.length = f.cs.length ∧
    ∀ (k : Nat) (c : CompD), f.cs[k]? = some c → ∃ as, R.rs[k]? = some as ∧ (as.length : Int) = pH f c ∧ ∀ (y : Nat) (a : Addr), as[y]? = some a → ((R.c a).length : Int) = pW f c ∧ ∀ (x : Nat) (u : Value), (R.c a)[x]? = some u → DatIn news u (blkD (G k y x))
theorem GridObj.mono {P : Params} {news news' : Led} {v : Value} {f : FrameD} {G : Nat → Nat → Nat → List Int} (h : GridObj P news v f G) (hs : ∀ p ∈ news, p ∈ news') : GridObj P news' v f G := by
  obtain ⟨R, h1, h2, h3, h4⟩ := h
  refine ⟨R, h1.mono hs, fun a ha => hs _ (h2 a ha), h3, fun k c hk => ?_⟩
  obtain ⟨as, e1, e2, e3⟩ := h4 k c hk
  exact ⟨as, e1, e2, fun y a ha => ⟨(e3 y a ha).1, fun x u hu => ((e3 y a ha).2 x u hu).mono hs⟩⟩
theorem get_spec {v : Value} {f : FrameD} {G : Nat → Nat → Nat → List Int} {c : CompD} {p x y : Int} {tp tx ty : Tok} (hg : GridObj w.params news v f G) (hc : f.cs[p.toNat]? = some c) (hp0 : 0 ≤ p) (hx0 : 0 ≤ x) (hy0 : 0 ≤ y) (hp1 : p < 1000) (hx1 : x < pW f c) (hx2 : x < 1000) (hy1 : y < pH f c) (hy2 : y < 1000) :
    Spec 2 w mean mg mb hdl 159 [v, .int p tp, .int x tx, .int y ty] news (fun r n' => n' = news ∧ DatIn news r (blkD (G p.toNat y.toNat x.toNat))) := by
  k_with_none
  (k_with "fr0" => exact FrameObj.mono (by assumption) (fun p9 h9 => by (repeat (first | exact h9 | (refine List.mem_append.mpr (Or.inr ?_)) | (refine List.Mem.tail _ ?_)))))
  (k_with "ho0" => exact HOk.mono (by assumption) (fun p9 h9 => by (repeat (first | exact h9 | (refine List.mem_append.mpr (Or.inr ?_)) | (refine List.Mem.tail _ ?_)))))
  (k_with "d" => first | exact roomD hdp rfl | exact roomD0 hdp rfl | ktr_room | omega)
  (k_with "u" => first | exact roomU hun rfl | exact roomU0 hun rfl | ktr_units | omega | (simp only [tc_units, units_deeper]; omega))
  (k_with "eval ListComp" => (k_here; with_unfolding_all refine' comp_start ?z9k1 ?z9k2 ?z9k3 ?_; (case z9k1 => exact rfl); (case z9k2 => exact rfl); (case z9k3 => decide)))
  (k_with "fr" => exact FrameObj.mono (by assumption) (fun p9 h9 => by k_mem))
  (k_with "ho" => exact HOk.mono (by assumption) (fun p9 h9 => by k_mem))
  (k_with "cm" => exact CompAll.mono (by assumption) (fun p9 h9 => by k_mem))
  (k_with "subscriptTail" => (k_here; with_unfolding_all refine' item_of ?z9hm ?z9N ?z9h0 ?z9h1 ?z9hx ?_ ?z9hs; (case z9N => k_asm); (case z9hm => k_mem); (case z9h0 => first | assumption | decide | omega); (case z9h1 => first | with_reducible assumption | decide | omega); (case z9hx => assumption); (case z9hs => with_unfolding_all rfl)))
  (k_with "call type:list" => (k_here; with_unfolding_all refine' copy_of ?z9F ?z9N ?z9hm ?z9hb ?_; (case z9F => k_asm); (case z9N => k_asm); (case z9hm => k_mem); (case z9hb => first | assumption | omega | simp); intro D9 c9 h9 F9 N9 hd9; revert D9 c9 h9 F9 N9 hd9; intro _ _ _ _ _ _; (try k_sweep); (try dsimp only); (try k_fold)))
  (k_with "call builtin:len" => (k_here; with_unfolding_all refine' len_of ?z9hm ?z9N ?z9hb ?_; (case z9N => k_asm); (case z9hm => k_mem); (case z9hb => first | omega | decide)))
  (k_with "call builtin:list.append" => (k_here; with_unfolding_all refine' append_of ?z9F ?z9N ?z9U ?z9z ?_; (case z9F => k_asm); (case z9N => k_asm); (case z9U => intro n'; k_upd); (case z9z => first | with_reducible assumption | decide | omega); intro h9 n9 F9 N9; (try simp only [List.cons_append, List.nil_append] at N9); revert h9 n9 F9 N9; intro _ _ _ _; (try dsimp only); (try k_fold)))
  (k_with "exec For Name Call cons nil" => (k_here; with_unfolding_all refine' for_startF ?z9lF ?z9k1 ?z9k2 ?_; (case z9lF => assumption); (case z9k1 => exact rfl); (case z9k2 => exact rfl)))
  (k_with "gr" => exact GridObj.mono (by assumption) (fun p9 h9 => by k_mem))
  unfold Spec
  k_fill
  intro dp un gd cn0 cs0 a0 ccd0 cl0 outer A₀ base h₀ L m s Q E B F X N T hk hdp hun hret
  refine via fun X9 hX9 => ?_
  obtain ⟨R, ⟨gx, gd, pa, nn, vs, t1, t2, u1, rfl, h1, h2, h3, h4, h5⟩, hrows, hrl, hcells⟩ := hg
  obtain ⟨as, k1, k2, k3⟩ := hcells _ _ hc
  refine hX9 ?_
  clear hX9 X9
  have hpl : p.toNat < vs.length := by rw [h4]; exact (List.getElem?_eq_some_iff.mp k1).1
  refine via fun X9 hX9 => ?_
  obtain ⟨as', a1, n1, e1, e2, e3⟩ := h5 _ _ (List.getElem?_eq_getElem hpl)
  refine hX9 ?_
  clear hX9 X9
  rw [k1] at e1
  cases e1
  have e4 : vs[p.toNat]? = some (.ref a1) := by rw [List.getElem?_eq_getElem hpl, e2]
  have hyl : y.toNat < as.length := by omega
  refine via fun X9 hX9 => ?_
  obtain ⟨ra, hra⟩ : ∃ ra, as[y.toNat]? = some ra := ⟨_, List.getElem?_eq_getElem hyl⟩
  refine hX9 ?_
  clear hX9 X9
  have e5 : (as.map Value.ref)[y.toNat]? = some (.ref ra) := by rw [List.getElem?_map, hra]; rfl
  have hrm := hrows ra (List.mem_flatten.mpr ⟨as, List.mem_of_getElem? k1, List.mem_of_getElem? hra⟩)
  refine via fun X9 hX9 => ?_
  obtain ⟨w1, w2⟩ := k3 _ _ hra
  obtain ⟨u, hu⟩ : ∃ u, (R.c ra)[x.toNat]? = some u := ⟨_, List.getElem?_eq_getElem (by omega)⟩
  refine hX9 ?_
  clear hX9 X9
  have hD := w2 _ _ hu
  refine via fun X9 hX9 => ?_
  obtain ⟨b, hb⟩ : ∃ b, u = .ref b := by cases hD; exact ⟨_, rfl⟩
  refine hX9 ?_
  clear hX9 X9
  subst hb
  refine wpAny_call ?_
  refine' code_def (binds := [(Str.ofString "self", .ref gx), (Str.ofString "place", .int p tp), (Str.ofString "x", .int x tx), (Str.ofString "y", .int y ty)]) ?k1 ?k2 ?k3 ?k4 ?k5 ?kA ?kF ?kK ?k6 ?k7 ?k8 ?k9 ?kB ?_ ?c2 ?c3 ?c4 ?c5
  (case kA => exact rfl); (case kF => exact rfl); (case kK => assumption); (case k1 => k_asm); (case k2 => k_asm); (case k3 => k_asm); (case k4 => k_asm); (case k5 => k_asm); (case k6 => k_is); (case k7 => k_is); (case k8 => ktr_room)
  (case k9 => exact BindsTo.of_eq rfl); (case c5 => decide); (case kB => exact locs rfl); (case c2 => exact rfl); (case c3 => exact rfl); (case c4 => exact rfl)
  intro g' L' h' FG' F' N' B' X' T'
  (try dsimp only)
  (try k_fold)
  k_steps
  all_goals exact hret _ _ _ _ (by k_asm) (by k_asm) ⟨rfl, hD⟩
/-! C9 -/
theorem Kept.num {stored : List Str} {m₀ m : Str → Option Value} {x : Str} {v : Value} (h : Kept stored m₀ m) (hv : m x = some v) : ∃ u : Str → Option Value, m = fun z => if z = x then some v else if stored.contains z then u z else m₀ z := by
  obtain ⟨u, rfl⟩ := h
  refine ⟨u, ?_⟩
  funext z
  by_cases e : z = x
  · subst e; rw [if_pos rfl]; exact hv
  · rw [if_neg e]
theorem Kept.num_back {st st' : List Str} {m₀ m : Str → Option Value} {x : Str} {v : Value} {u : Str → Option Value} (h : Kept st' m₀ m) (hx : st'.contains x = true) (hs : ∀ y ∈ st, st'.contains y = true) :
    Kept st' m₀ (fun z => if z = x then some v else if st.contains z then u z else m z) := by
  refine Kept.step ?_ hx
  obtain ⟨u', rfl⟩ := h
  refine ⟨fun z => if st.contains z then u z else u' z, ?_⟩
  funext z
  by_cases e : st.contains z = true
  · have := hs z (by simpa using e)
    dsimp only
    rw [if_pos e, if_pos this, if_pos e]
  · dsimp only
    rw [if_neg e, if_neg e]
theorem put_any {v : Value} {R : Rows} {p x y : Int} {tp tx ty : Tok} {b : Addr} {bvs : List Value} {nb : Nat} {as : List Addr} {ra : Addr} (hR : ∀ q ∈ R.led, q ∈ news) (hg : MGrid w.params rest v R) (hrest : ∀ q ∈ rest, q ∈ news ∧ q.1 ∉ R.rs.flatten)
    (hp0 : 0 ≤ p) (hx0 : 0 ≤ x) (hy0 : 0 ≤ y) (hp1 : p < 1000) (hx1 : x < (R.c ra).length) (hx2 : x < 1000) (hy1 : y < 1000)
    (hp : R.rs[p.toNat]? = some as) (hy : as[y.toNat]? = some ra) (hb : (b, listOf bvs.toArray nb) ∈ news) (hbn : b ∉ R.rs.flatten) (hbl : bvs.length ≤ 1000) :
    Spec 3 w mean mg mb none 166 [v, .int p tp, .int x tx, .int y ty, .ref b] news (fun r n' => r = .none ∧ ∃ d c, n' = (R.put ra x.toNat (.ref d)).led ++ ((d, listOf bvs.toArray c) :: news.filter (fun q => decide (q.1 ∉ R.rs.flatten))) ∧ (∀ q ∈ news, q.1 < d)) := by
  have sub : ∀ q ∈ R.led ++ news.filter (fun q => decide (q.1 ∉ R.rs.flatten)), q ∈ news := fun q hq => (List.mem_append.mp hq).elim (hR q) fun h => (List.mem_filter.mp h).1
  have hg' := hg.mono (rest' := news.filter (fun q => decide (q.1 ∉ R.rs.flatten))) fun q hq => List.mem_filter.mpr ⟨(hrest q hq).1, decide_eq_true (hrest q hq).2⟩
  refine Spec.over (put_spec (rest := news.filter (fun q => decide (q.1 ∉ R.rs.flatten))) hg' hp0 hx0 hy0 hp1 hx1 hx2 hy1 hp hy (List.mem_filter.mpr ⟨hb, decide_eq_true hbn⟩) hbl fun q hq => by simpa using (List.mem_filter.mp hq).2) (fun _ _ _ => .inr trivial) sub ?_
  rintro r n' ⟨rfl, d, c, rfl, hd⟩
  refine ⟨_, fun p hp => hp, rfl, d, c, rfl, fun q hq => ?_⟩
  by_cases e : q.1 ∈ R.rs.flatten
  · exact hd (q.1, listOf (R.c q.1).toArray (R.n q.1)) (mem_l (Rows.mem e))
  · exact hd _ (mem_r (List.mem_filter.mpr ⟨hq, decide_eq_true e⟩))
def Shape (f : FrameD) (R : Rows) : Prop := R.rs.length = f.cs.length ∧ ∀ (k : Nat) (c : CompD), f.cs[k]? = some c → ∃ as, R.rs[k]? = some as ∧ (as.length : Int) = pH f c ∧ ∀ a ∈ as, ((R.c a).length : Int) = pW f c
theorem Shape.put {f : FrameD} {R : Rows} {a : Addr} {x : Nat} {v : Value} (h : Shape f R) : Shape f (R.put a x v) := by
  refine ⟨h.1, fun k c hk => ?_⟩
  obtain ⟨as, h1, h2, h3⟩ := h.2 k c hk
  refine ⟨as, h1, h2, fun b hb => ?_⟩
  by_cases e : b = a
  · subst e; simp only [Rows.put, if_pos, List.length_set]; exact h3 _ hb
  · simp only [Rows.put, if_neg e]; exact h3 _ hb
def Filled (R : Rows) (rest : Led) (k y x : Nat) : Prop := ∃ as ra u l, R.rs[k]? = some as ∧ as[y]? = some ra ∧ (R.c ra)[x]? = some u ∧ DatIn rest u (blkD l) ∧ l.length = 4
theorem Filled.put {R : Rows} {rest : Led} {k y x : Nat} {ra d : Addr} {x' : Nat} {bvs : List Value} {c : Nat} {l : List Int} (h : Filled R rest k y x) (hb : DatIn ((d, listOf bvs.toArray c) :: rest) (.ref d) (blkD l)) (hl : l.length = 4) :
    Filled (R.put ra x' (.ref d)) ((d, listOf bvs.toArray c) :: rest) k y x := by
  obtain ⟨as, ra', u, l', h1, h2, h3, h4, h5⟩ := h
  by_cases e : ra' = ra
  · subst e
    by_cases e2 : x' = x
    · subst e2
      refine ⟨as, ra', .ref d, l, h1, h2, ?_, hb, hl⟩
      simp only [Rows.put, if_pos]
      rw [List.getElem?_set_self (List.getElem?_eq_some_iff.mp h3).1]
    · refine ⟨as, ra', u, l', h1, h2, ?_, h4.mono fun p hp => mem_tl hp, h5⟩
      simp only [Rows.put, if_pos]
      rw [List.getElem?_set_ne e2]; exact h3
  · refine ⟨as, ra', u, l', h1, h2, ?_, h4.mono fun p hp => mem_tl hp, h5⟩
    simp only [Rows.put, if_neg e]; exact h3
theorem Filled.new {R : Rows} {rest : Led} {k y x : Nat} {as : List Addr} {ra d : Addr} {bvs : List Value} {c : Nat} {l : List Int} (hk : R.rs[k]? = some as) (hy : as[y]? = some ra) (hx : x < (R.c ra).length) (hb : DatIn ((d, listOf bvs.toArray c) :: rest) (.ref d) (blkD l)) (hl : l.length = 4) :
    Filled (R.put ra x (.ref d)) ((d, listOf bvs.toArray c) :: rest) k y x := by
  refine ⟨as, ra, .ref d, l, hk, hy, ?_, hb, hl⟩
  simp only [Rows.put, if_pos]
  rw [List.getElem?_set_self hx]
/-- a place within the planes -/
def InB (f : FrameD) (k y x : Nat) : Prop := ∃ c, f.cs[k]? = some c ∧ (y : Int) < pH f c ∧ (x : Int) < pW f c
def FillSt (f : FrameD) (Z : Led) (src : Addr) (rs : List (List Addr)) (D : Nat → Nat → Nat → Prop) (nx : Led) : Prop :=
  ∃ (R : Rows) (o : Obj) (tl : Led), nx = (src, o) :: (R.led ++ (tl ++ Z)) ∧ R.rs = rs ∧ SrcOk o ∧ (∀ q ∈ tl, q.1 ≠ src ∧ q.1 ∉ rs.flatten ∧ ∀ p ∈ Z, q.1 ≠ p.1) ∧ Shape f R ∧ ∀ k y x, D k y x → Filled R tl k y x
theorem fill_put {h₀ h : Heap} {L src d ra : Addr} {R : Rows} {x c : Nat} {bvs : List Value} {news tl Z own : Led} {o : Obj}
    (N : News h₀ L h ((R.put ra x (.ref d)).led ++ ((d, listOf bvs.toArray c) :: news.filter (fun q => decide (q.1 ∉ R.rs.flatten)))))
    (hn : ∀ p ∈ (src, o) :: (tl ++ (Z ++ own)), p ∈ news ∧ p.1 ∉ R.rs.flatten) :
    News h₀ L h (((src, o) :: ((R.put ra x (.ref d)).led ++ (((d, listOf bvs.toArray c) :: tl) ++ Z))) ++ own) := fun p hp => by
  have up : ∀ p ∈ (src, o) :: (tl ++ (Z ++ own)), p ∈ (R.put ra x (.ref d)).led ++ ((d, listOf bvs.toArray c) :: news.filter (fun q => decide (q.1 ∉ R.rs.flatten))) := fun p hp => mem_r (mem_tl (List.mem_filter.mpr ⟨(hn p hp).1, decide_eq_true (hn p hp).2⟩))
  rcases List.mem_append.mp hp with hp | hp
  · rcases List.mem_cons.mp hp with rfl | hp
    · exact N _ (up _ mem_hd)
    · rcases List.mem_append.mp hp with hp | hp
      · exact N _ (mem_l hp)
      · rcases List.mem_append.mp hp with hp | hp
        · rcases List.mem_cons.mp hp with rfl | hp
          · exact N _ (mem_r mem_hd)
          · exact N _ (up _ (mem_tl (mem_l hp)))
        · exact N _ (up _ (mem_tl (mem_r (mem_l hp))))
  · exact N _ (up _ (mem_tl (mem_r (mem_r hp))))
open Classical in
theorem grid_of {P : Params} {Z tl : Led} {v : Value} {R : Rows} {f : FrameD} (hm : MGrid P Z v R) (hsh : Shape f R) (hD : ∀ k y x, InB f k y x → Filled R tl k y x) :
    ∃ G : Nat → Nat → Nat → List Int, (∀ k y x, (G k y x).length = 4) ∧ GridObj P (R.led ++ (tl ++ Z)) v f G := by
  have key : ∀ k y x, ∃ l : List Int, l.length = 4 ∧ (InB f k y x → ∃ as ra u, R.rs[k]? = some as ∧ as[y]? = some ra ∧ (R.c ra)[x]? = some u ∧ DatIn tl u (blkD l)) := fun k y x => by
    by_cases h : InB f k y x
    · obtain ⟨as, ra, u, l, h1, h2, h3, h4, h5⟩ := hD k y x h
      exact ⟨l, h5, fun _ => ⟨as, ra, u, h1, h2, h3, h4⟩⟩
    · exact ⟨[0, 0, 0, 0], rfl, fun q => absurd q h⟩
  let G : Nat → Nat → Nat → List Int := fun k y x => Classical.choose (key k y x)
  have hG : ∀ k y x, _ := fun k y x => Classical.choose_spec (key k y x)
  refine ⟨G, fun k y x => (hG k y x).1, R, hm.mono fun p hp => mem_r (mem_r hp), fun a ha => mem_l (Rows.mem ha), hsh.1, fun k c hk => ?_⟩
  obtain ⟨as, h1, h2, h3⟩ := hsh.2 k c hk
  refine ⟨as, h1, h2, fun y a ha => ⟨h3 a (List.mem_of_getElem? ha), fun x u hu => ?_⟩⟩
  have hx := (List.getElem?_eq_some_iff.mp hu).1
  have hy := (List.getElem?_eq_some_iff.mp ha).1
  have hl := h3 a (List.mem_of_getElem? ha)
  obtain ⟨as', ra, u', e1, e2, e3, e4⟩ := (hG k y x).2 ⟨c, hk, by omega, by omega⟩
  rw [h1] at e1
  cases e1
  rw [ha] at e2
  cases e2
  rw [hu] at e3
  cases e3
  exact e4.mono fun p hp => mem_r (mem_l hp)
theorem mul_ok {a b : Nat} (h : a < 1000) : IntMulOk (a : Int) (b : Int) := PySem.IntMulOk.of_left (PySem.intBits_le_64 (by omega) (by omega))
theorem fm_nat (j W : Nat) : Int.fmod (0 + (j : Int)) (W : Int) = ((j % W : Nat) : Int) := by
  rw [Int.zero_add, Int.fmod_eq_emod_of_nonneg _ (Int.natCast_nonneg W)]; rfl
theorem fd_nat (j W : Nat) : Int.fdiv (0 + (j : Int)) (W : Int) = ((j / W : Nat) : Int) := by
  rw [Int.zero_add, Int.fdiv_eq_ediv_of_nonneg _ (Int.natCast_nonneg W)]; rfl
theorem law_filled_spec {src : Addr} {o : Obj} {v : Value} {f : FrameD} (ho : SrcOk o) (hne : ∀ p ∈ rest, p.1 ≠ src) (hf : FrameObj w.params rest v f) (ok : FrameOk f) :
    Spec 10 w mean mg mb none 251 [.ref src, v] ((src, o) :: rest) (fun r n' => ∃ o' n'', n' = (src, o') :: n'' ∧ (∀ p ∈ n'', p.1 ≠ src) ∧ SrcOk o' ∧ (∀ p ∈ rest, p ∈ n'') ∧ ∃ G, (∀ k y x, (G k y x).length = 4) ∧ GridObj w.params n'' r f G) := by
  k_with_none
  (k_with "fr0" => exact FrameObj.mono (by assumption) (fun p9 h9 => by (repeat (first | exact h9 | (refine List.mem_append.mpr (Or.inr ?_)) | (refine List.Mem.tail _ ?_)))))
  (k_with "ho0" => exact HOk.mono (by assumption) (fun p9 h9 => by (repeat (first | exact h9 | (refine List.mem_append.mpr (Or.inr ?_)) | (refine List.Mem.tail _ ?_)))))
  (k_with "d" => first | exact roomD hdp rfl | exact roomD0 hdp rfl | ktr_room | omega)
  (k_with "u" => first | exact roomU hun rfl | exact roomU0 hun rfl | ktr_units | omega | (simp only [tc_units, units_deeper]; omega))
  (k_with "eval ListComp" => (k_here; with_unfolding_all refine' comp_start ?z9k1 ?z9k2 ?z9k3 ?_; (case z9k1 => exact rfl); (case z9k2 => exact rfl); (case z9k3 => decide)))
  (k_with "fr" => exact FrameObj.mono (by assumption) (fun p9 h9 => by k_mem))
  (k_with "ho" => exact HOk.mono (by assumption) (fun p9 h9 => by k_mem))
  (k_with "cm" => exact CompAll.mono (by assumption) (fun p9 h9 => by k_mem))
  (k_with "subscriptTail" => (k_here; with_unfolding_all refine' item_of ?z9hm ?z9N ?z9h0 ?z9h1 ?z9hx ?_ ?z9hs; (case z9N => k_asm); (case z9hm => k_mem); (case z9h0 => first | assumption | decide | omega); (case z9h1 => first | with_reducible assumption | decide | omega); (case z9hx => assumption); (case z9hs => with_unfolding_all rfl)))
  (k_with "call type:list" => (k_here; with_unfolding_all refine' copy_of ?z9F ?z9N ?z9hm ?z9hb ?_; (case z9F => k_asm); (case z9N => k_asm); (case z9hm => k_mem); (case z9hb => first | assumption | omega | simp); intro D9 c9 h9 F9 N9 hd9; revert D9 c9 h9 F9 N9 hd9; intro _ _ _ _ _ _; (try k_sweep); (try dsimp only); (try k_fold)))
  (k_with "call builtin:len" => (k_here; with_unfolding_all refine' len_of ?z9hm ?z9N ?z9hb ?_; (case z9N => k_asm); (case z9hm => k_mem); (case z9hb => first | omega | decide)))
  (k_with "call builtin:list.append" => (k_here; with_unfolding_all refine' append_of ?z9F ?z9N ?z9U ?z9z ?_; (case z9F => k_asm); (case z9N => k_asm); (case z9U => intro n'; k_upd); (case z9z => first | with_reducible assumption | decide | omega); intro h9 n9 F9 N9; (try simp only [List.cons_append, List.nil_append] at N9); revert h9 n9 F9 N9; intro _ _ _ _; (try dsimp only); (try k_fold)))
  (k_with "exec For Name Call cons nil" => (k_here; with_unfolding_all refine' for_startF ?z9lF ?z9k1 ?z9k2 ?_; (case z9lF => assumption); (case z9k1 => exact rfl); (case z9k2 => exact rfl)))
  (k_with "gr" => exact GridObj.mono (by assumption) (fun p9 h9 => by k_mem))
  (k_with "call ref" => (k_here; with_unfolding_all refine' Spec.go ?z9uB ?z9uF ?z9uX ?z9uN ?z9uT ?z9uk ?_; (case z9uB => k_asm); (case z9uF => k_asm); (case z9uX => k_asm); (case z9uN => k_asm); (case z9uT => k_asm); (case z9uk => first | exact rfl | assumption); (first | (refine' Go.tupG (padded_spec ?z9pa ?z9pb ?z9pc ?z9pd ?z9pe ?z9pf ?z9pg ?z9ph ?z9pi ?z9pj ?z9pk) ?z9p8 ?z9p9 ?_; (case z9pa => k_extra "fr"); (case z9pb => exact (.inl rfl)); (case z9pc => assumption); (case z9pd => assumption); (case z9pe => assumption); (case z9pf => assumption); (case z9pg => first | with_reducible assumption | decide | omega); (case z9ph => first | with_reducible assumption | decide | omega); (case z9pi => assumption); (case z9pj => first | with_reducible assumption | decide | omega); (case z9pk => first | with_reducible assumption | decide | omega); (case z9p8 => k_extra "d"); (case z9p9 => k_extra "u"); intro h9 tk9 F9 tl9 ha9 tp9 t9 t9' N9 hm9; (try (rename mW _ * _ = _ => q9; rename mH _ * _ = _ => q8; rw [q9, q8] at hm9)); revert h9 tk9 F9 tl9 ha9 tp9 t9 t9' N9 hm9; intro _ _ _ _ _ _ _ _ _ _) | (refine' Go.src (take_any ?z9pa ?z9pb ?z9pc ?z9pd) ?z9p8 ?z9p9 ?_; (case z9pa => (first | assumption | (intro o'; k_upd))); (case z9pb => assumption); (case z9pc => first | with_reducible assumption | decide | omega); (case z9pd => first | with_reducible assumption | decide | omega); (case z9p8 => k_extra "d"); (case z9p9 => k_extra "u"); intro h9 tk9 F9 o9 ho9 g9 t9 hg9 hg9' N9; revert h9 tk9 F9 o9 ho9 g9 t9 hg9 hg9' N9; intro _ _ _ _ _ _ _ _ _ _)); (try k_sweep); (try dsimp only); (try k_fold)))
  (k_with "binaryOp Mult int int" => (k_here; with_unfolding_all refine PyProof.Rows.mul_int ?_ (mul_ok (by omega))))
  unfold Spec
  k_fill
  intro dp un gd cn0 cs0 a0 ccd0 cl0 outer A₀ base h₀ L m s Q E B F X N T hk hdp hun hret
  have hf' := hf
  refine via fun X9 hX9 => ?_
  refine FrameObj.elim (hf) fun x dx cl nn vs t1 t2 t3 t4 t5 t6 u1 u2 u3 u4 u6 e9 hx hdx hcl hcs => ?_
  subst e9
  clear hf
  refine hX9 ?_
  clear hX9 X9
  have hvs : vs.length ≤ 2 := by rw [hcs.1]; exact ok.len2
  have ok0 := ok.len0
  have ok2 := ok.len2
  have okA := ok.a
  have okD := ok.d
  refine wpAny_call ?_
  refine' code_def (binds := [(Str.ofString "source", .ref src), (Str.ofString "frame", .ref x)]) ?k1 ?k2 ?k3 ?k4 ?k5 ?kA ?kF ?kK ?k6 ?k7 ?k8 ?k9 ?kB ?_ ?c2 ?c3 ?c4 ?c5
  (case kA => exact rfl); (case kF => exact rfl); (case kK => assumption); (case k1 => k_asm); (case k2 => k_asm); (case k3 => k_asm); (case k4 => k_asm); (case k5 => k_asm); (case k6 => k_is); (case k7 => k_is); (case k8 => ktr_room)
  (case k9 => exact BindsTo.of_eq rfl); (case c5 => decide); (case kB => exact locs rfl); (case c2 => exact rfl); (case c3 => exact rfl); (case c4 => exact rfl)
  intro g' L' h' FG' F' N' B' X' T'
  (try dsimp only)
  (try k_fold)
  k_steps
  (k_here; with_unfolding_all refine' Spec.use (grid_spec ?up0 ?up1) ?uB ?uF ?uX ?uN ?uT ?uk ?ud ?uu ?_; (case uB => k_asm); (case uF => k_asm); (case uX => k_asm); (case uN => k_asm); (case uT => k_asm); (case uk => first | exact rfl | assumption); (case up0 => exact FrameObj.mono (by assumption) (fun p9 h9 => by k_mem)); (case up1 => assumption); (case ud => first | ktr_room | omega); (case uu => first | ktr_units | omega | (simp only [tc_units, units_deeper]; omega)); intro r9 n9 h9 tk9 F9 N9 hp9; obtain ⟨R, rest9, e9, hs9, hmg, hsep, hnd, hl, hsh⟩ := hp9; subst e9; (have hmg' := hmg); (obtain ⟨gx, gd, pa, nn9, vs9, t91, t92, u91, ev9, hgx, hgd, hpa, _⟩ := hmg); subst ev9; (try k_sweep); (try dsimp only); (try k_fold))
  refine via fun X9 hX9 => ?_
  obtain ⟨Z, hZe⟩ : ∃ Z, Z = rest9.filter fun q => decide (q.1 ≠ src) := ⟨_, rfl⟩
  refine hX9 ?_
  clear hX9 X9
  have hsrc := hs9 _ mem_hd
  have hsrf : src ∉ R.rs.flatten := hsep _ hsrc
  have hZ : ∀ q ∈ Z, q.1 ≠ src ∧ q.1 ∉ R.rs.flatten := fun q hq => by
    rw [hZe] at hq
    exact ⟨by simpa using (List.mem_filter.mp hq).2, hsep q (List.mem_filter.mp hq).1⟩
  have fn : ∀ {a : Addr} {o' : Obj}, (a, o') ∈ rest9 → o' ≠ o → (a, o') ∈ Z := fun {a o'} hm hne => by
    rw [hZe]
    refine List.mem_filter.mpr ⟨hm, decide_eq_true fun e => hne ?_⟩
    have h1 := (N9 _ (mem_r hm)).1
    have h2 := (N9 _ (mem_r hsrc)).1
    dsimp only at h1 h2 e
    rw [e, h2] at h1
    exact (Option.some.inj h1).symm
  have hrZ : ∀ p ∈ rest, p ∈ Z := fun p hp => by
    rw [hZe]
    exact List.mem_filter.mpr ⟨hs9 _ (mem_tl hp), by simpa using hne p hp⟩
  have hfZ : FrameObj w.params Z (.ref x) f := hf'.mono hrZ
  have hmZ : MGrid w.params Z (.ref gx) R := by
    refine via fun X9 hX9 => ?_
    obtain ⟨a, b, oc, d, e, rfl, h1, h2⟩ : ∃ a b ta tb n0, o = listOf [Value.int a ta, Value.int b tb].toArray n0 ∧ 0 ≤ b ∧ b < 2147483647 := ho
    obtain ⟨gx', gd', pa', nn', vs', t1', t2', u1', ev', hg1, hg2, hg3, hg4, hg5⟩ := hmg'
    refine hX9 ?_
    clear hX9 X9
    refine ⟨gx', gd', pa', nn', vs', t1', t2', u1', ev', fn hg1 (by simp), fn hg2 (by simp), fn hg3 fun e => ?_, hg4, fun i v' e => ?_⟩
    · have q := listOf_inj e
      subst q
      refine via fun X9 hX9 => ?_
      obtain ⟨as, a1, n1, _, e', _⟩ := hg5 0 _ rfl
      refine hX9 ?_
      clear hX9 X9
      cases e'
    · obtain ⟨as, a1, n1, e1, e2, e3⟩ := hg5 i v' e
      refine ⟨as, a1, n1, e1, e2, fn e3 fun e => ?_⟩
      have q := listOf_inj e
      cases as with
      | nil => simp at q
      | cons a as => simp at q
  have hgxZ : (gx, instObj 169 gd) ∈ Z := fn hgx (by obtain ⟨a, b, ta, tb, n0, rfl, _⟩ := ho; simp)
  have hgdZ := fn hgd (by obtain ⟨a, b, ta, tb, n0, rfl, _⟩ := ho; simp)
  have hxZ := hrZ _ hx
  have hdxZ := hrZ _ hdx
  have hclZ := hrZ _ hcl
  have N8 : News g' L' h9 ((src, o) :: (R.led ++ ([] ++ Z))) := fun p hp => by
    rcases List.mem_cons.mp hp with rfl | hp
    · exact N9 _ (mem_r hsrc)
    · rcases List.mem_append.mp hp with hp | hp
      · exact N9 _ (mem_l hp)
      · rw [List.nil_append, hZe] at hp
        exact N9 _ (mem_r (List.mem_filter.mp hp).1)
  clear N9
  k_steps
  rename Fr _ _ _ _ => F1
  rename News _ _ _ _ => N1
  rename IsRange _ _ _ _ _ _ _ _ => hr
  refine for_range hr (n := vs.length) (hf := []) (range_small (by omega)) (range_sz _) (.inl ⟨rfl, rfl⟩) F1 (fun p hp => N1 p (mem_tl hp)) (fun b hb => nomatch hb) (fun i m nx => Kept ["number", "place", "across", "down", "spot"] _ m ∧ (∃ n t, m "number" = some (Value.int n t)) ∧ FillSt f Z src R.rs (fun k y x => k < i ∧ InB f k y x) nx)
    ⟨Kept.refl, ⟨_, _, rfl⟩, ⟨R, o, [], rfl, rfl, ho, fun q hq => (nomatch hq), ⟨hl, hsh⟩, fun k y x hk => absurd hk.1 (Nat.not_lt_zero _)⟩⟩ ?turn ?done
  case turn =>
    intro i t h tk own nx m₁ I oI hi hJ9 hI hown hIn F1 N1
    refine via fun X9 hX9 => ?_
    obtain ⟨hK, ⟨n, tn, hn⟩, R1, o1, tl1, rfl, hRe, ho1, htl1, hsh1, hD1⟩ := hJ9
    refine hX9 ?_
    clear hX9 X9
    obtain ⟨u, rfl⟩ := hK.num hn
    have hi2 : (0:Int) + (i:Nat) < 2 := by omega
    refine via fun X9 hX9 => ?_
    obtain ⟨c, hc⟩ : ∃ c, f.cs[((0:Int) + (i:Nat)).toNat]? = some c := ⟨_, List.getElem?_eq_getElem (by rw [hcs.1] at hi; omega)⟩
    refine hX9 ?_
    clear hX9 X9
    have hca := ok.acr c (List.mem_of_getElem? hc)
    have hcd := ok.dwn c (List.mem_of_getElem? hc)
    have hpw := ok.pw (List.mem_of_getElem? hc)
    have hph := ok.ph (List.mem_of_getElem? hc)
    refine via fun X9 hX9 => ?_
    obtain ⟨H, hH⟩ : ∃ H : Nat, mH f * c.down = (H : Int) := ⟨(pH f c).toNat, (Int.toNat_of_nonneg (Int.le_trans (by decide) hph.1)).symm⟩
    obtain ⟨W, hW⟩ : ∃ W : Nat, mW f * c.across = (W : Int) := ⟨(pW f c).toNat, (Int.toNat_of_nonneg (Int.le_trans (by decide) hpw.1)).symm⟩
    refine hX9 ?_
    clear hX9 X9
    have how : ∀ q ∈ own, q.1 = I := fun q hq => (hown q hq).elim id fun h => nomatch h
    have hW1 : 1 ≤ W ∧ W ≤ 4 := by rw [pW, hW] at hpw; omega
    have hH1 : 1 ≤ H ∧ H ≤ 4 := by rw [pH, hH] at hph; omega
    have hWH : W * H ≤ 16 := Nat.mul_le_mul hW1.2 hH1.2
    have hgx1 : (gx, instObj 169 gd) ∈ (src, o1) :: (R1.led ++ (tl1 ++ Z)) := mem_tl (mem_r (mem_r hgxZ))
    have hW' := hW
    have hH' := hH
    k_steps
    rename IsRange _ _ _ _ _ _ _ _ => hr2
    rename Fr _ _ _ _ => F2
    rename News _ _ _ _ => N2
    have hIs : I ≠ src := (hIn _ mem_hd).symm
    have hIf : I ∉ R.rs.flatten := fun hm => by
      rw [← hRe] at hm
      exact hIn _ (mem_tl (mem_l (Rows.mem hm))) rfl
    have hZ2 : ∀ q ∈ Z ++ own, q.1 ≠ src ∧ q.1 ∉ R.rs.flatten := fun q hq => (List.mem_append.mp hq).elim (hZ q) fun hq => by rw [how q hq]; exact ⟨hIs, hIf⟩
    have N3 : News g' L' _ ((src, o1) :: (R1.led ++ (tl1 ++ (Z ++ own)))) := fun p hp => N2 p (mem_r (by
      rcases List.mem_cons.mp hp with rfl | hp
      · exact mem_l mem_hd
      · rcases List.mem_append.mp hp with hp | hp
        · exact mem_l (mem_tl (mem_l hp))
        · rcases List.mem_append.mp hp with hp | hp
          · exact mem_l (mem_tl (mem_r (mem_l hp)))
          · rcases List.mem_append.mp hp with hp | hp
            · exact mem_l (mem_tl (mem_r (mem_r hp)))
            · exact mem_r hp))
    refine for_range hr2 (n := W * H) (hf := []) (by rw [← Int.natCast_mul]; exact range_small (by omega)) (by rw [← Int.natCast_mul]; exact range_sz _) (.inl ⟨rfl, rfl⟩) F2 N3 (fun b hb => nomatch hb) (fun j m nx => Kept ["number", "spot"] _ m ∧ (∃ n t, m "number" = some (Value.int n t)) ∧ FillSt f (Z ++ own) src R.rs (fun k y x => InB f k y x ∧ (k < i ∨ (k = i ∧ y * W + x < j))) nx)
      ⟨Kept.refl, ⟨_, _, rfl⟩, ⟨R1, o1, tl1, rfl, hRe, ho1, ?_, hsh1, ?_⟩⟩ ?turn2 ?done2
    · exact fun q hq => ⟨(htl1 q hq).1, (htl1 q hq).2.1, fun p hp => (List.mem_append.mp hp).elim ((htl1 q hq).2.2 p) fun hp => by rw [how p hp]; exact hIn q (mem_tl (mem_r (mem_l hq)))⟩
    · rintro k y x ⟨hb, h1 | ⟨_, h2⟩⟩
      · exact hD1 _ _ _ ⟨h1, hb⟩
      · exact absurd h2 (Nat.not_lt_zero _)
    case turn2 =>
      clear hrZ
      intro j t2 h2 tk2 own2 nx m₂ I2 oI2 hj hJ9 hI2 hown2 hIn2 F4 N4
      refine via fun X9 hX9 => ?_
      obtain ⟨hK2, ⟨n2, tn2, hn2⟩, R2, o2, tl2, rfl, hRe2, ho2, htl2, hsh2, hD2⟩ := hJ9
      refine hX9 ?_
      clear hX9 X9
      obtain ⟨u2, rfl⟩ := hK2.num hn2
      have how2 : ∀ q ∈ own2, q.1 = I2 := fun q hq => (hown2 q hq).elim id fun h => nomatch h
      have hgx2 : (gx, instObj 169 gd) ∈ (src, o2) :: (R2.led ++ (tl2 ++ (Z ++ own))) := mem_tl (mem_r (mem_r (mem_l hgxZ)))
      clear hgx1
      simp only [List.cons_append, List.nil_append, List.append_assoc] at N4
      have hsA : ∀ p ∈ R2.led, p.1 ≠ src := fun p hp e => hsrf (by rw [← hRe2, ← e]; exact (Rows.of_mem hp).1)
      have hsB : ∀ p ∈ tl2, p.1 ≠ src := fun p hp => (htl2 p hp).1
      have hsC : ∀ p ∈ Z, p.1 ≠ src := fun p hp => (hZ p hp).1
      have hsD : ∀ p ∈ own, p.1 ≠ src := fun p hp => by rw [how p hp]; exact hIs
      have hsE : ∀ p ∈ own2, p.1 ≠ src := fun p hp => by rw [how2 p hp]; exact (hIn2 _ mem_hd).symm
      have e0 : ((0 : Int) + (i : Nat)).toNat = i := by omega
      have hc' := hc
      rw [e0] at hc'
      refine via fun X9 hX9 => ?_
      obtain ⟨as, has1, has2, has3⟩ := hsh2.2 i c hc'
      refine hX9 ?_
      clear hX9 X9
      have hjW : j / W < H := Nat.div_lt_of_lt_mul hj
      have hjm : j % W < W := Nat.mod_lt _ (by omega)
      have hjl : j / W < as.length := by rw [pH, hH] at has2; omega
      refine via fun X9 hX9 => ?_
      obtain ⟨ra, hra⟩ : ∃ ra, as[j / W]? = some ra := ⟨_, List.getElem?_eq_getElem hjl⟩
      refine hX9 ?_
      clear hX9 X9
      have hrl := has3 ra (List.mem_of_getElem? hra)
      rw [pW, hW] at hrl
      have hRf : R2.rs.flatten = R.rs.flatten := by rw [hRe2]
      k_steps
      rename_i hh7 hh9 tkk9 o9 ho9 g9 t9 hg9 hg9' l9 hh8 F9 N9 hl9
      rw [fm_nat, fd_nat]
      refine' Spec.use (put_any (R := R2) (rest := Z) (as := as) (ra := ra) (fun q hq => mem_tl (mem_tl (mem_l hq))) (hmZ.at hRe2) (fun q hq => ⟨mem_tl (mem_tl (mem_r (mem_r (mem_l hq)))), by rw [hRf]; exact (hZ q hq).2⟩) ?p1 ?p2 ?p3 ?p4 ?p5 ?p6 ?p7 ?p8 ?p9 mem_hd ?p10 ?p11) ?uB ?uF ?uX N9 ?uT ?uk ?ud ?uu ?_
      case p1 => omega
      case p2 => exact Int.natCast_nonneg _
      case p3 => exact Int.natCast_nonneg _
      case p4 => omega
      case p5 => rw [hrl]; exact Int.ofNat_lt.mpr hjm
      case p6 => omega
      case p7 => omega
      case p8 => rw [e0]; exact has1
      case p9 => rw [Int.toNat_natCast]; exact hra
      case p10 => exact fun hm => Nat.lt_irrefl _ (hl9 (l9, _) (mem_tl (mem_l (Rows.mem hm))))
      case p11 => simp
      case uB => k_asm
      case uF => k_asm
      case uX => k_asm
      case uT => k_asm
      case uk => exact rfl
      case ud => ktr_room
      case uu => ktr_units
      intro r8 n8 h8 tk8 F8 N8 hp8
      refine via fun X9 hX9 => ?_
      obtain ⟨e8, d8, c8, e8', hd8⟩ := hp8
      refine hX9 ?_
      clear hX9 X9
      subst e8 e8'
      rw [Int.toNat_natCast] at N8
      try dsimp only
      k_steps
      rename Fr _ _ _ _ => F7
      rename News _ _ _ _ => N7
      have hN := fill_put (src := src) (o := o9) (tl := tl2) (Z := Z ++ own) (own := own2) N7 (fun p hp => by
        rcases List.mem_cons.mp hp with rfl | hp
        · exact ⟨mem_tl mem_hd, by rw [hRf]; exact hsrf⟩
        · rcases List.mem_append.mp hp with hp | hp
          · exact ⟨mem_tl (mem_tl (mem_r (mem_l hp))), by rw [hRf]; exact (htl2 p hp).2.1⟩
          · rcases List.mem_append.mp hp with hp | hp
            · refine ⟨mem_tl (mem_tl (mem_r (mem_r ?_))), by rw [hRf]; exact (hZ2 p hp).2⟩
              rcases List.mem_append.mp hp with hp | hp
              · exact mem_l hp
              · exact mem_r (mem_l hp)
            · refine ⟨mem_tl (mem_tl (mem_r (mem_r (mem_r (mem_r hp))))), fun hm => ?_⟩
              rw [how2 p hp] at hm
              exact hIn2 _ (mem_tl (mem_l (Rows.mem hm))) rfl)
      have hblk : ∀ {ta tb tc td : Tok}, DatIn ((d8, listOf [Value.int (n2 + 1) ta, Value.int (g9 - 4) tb, Value.int (7 - (n2 + 1)) tc, Value.int ((n2 + 1).fmod 3 - 1) td].toArray c8) :: tl2) (.ref d8) (blkD [n2 + 1, g9 - 4, 7 - (n2 + 1), (n2 + 1).fmod 3 - 1]) := fun {ta tb tc td} =>
        .list mem_hd (.cons (.int _ _) (.cons (.int _ _) (.cons (.int _ _) (.cons (.int _ _) .nil))))
      refine ⟨rfl, _, _, _, _, rfl, F7, hN, ?_, ?_, ⟨_, _, rfl⟩, R2.put ra (j % W) (.ref d8), o9, _, rfl, hRe2, ho9, ?_, hsh2.put, ?_⟩
      · intro p hp
        rcases List.mem_cons.mp hp with rfl | hp
        · exact hIn2 (src, o2) mem_hd
        · rcases List.mem_append.mp hp with hp | hp
          · intro e
            have := (Rows.of_mem hp).1
            rw [e] at this
            exact hIn2 _ (mem_tl (mem_l (Rows.mem (R := R2) this))) rfl
          · rcases List.mem_append.mp hp with hp | hp
            · rcases List.mem_cons.mp hp with rfl | hp
              · exact Nat.ne_of_gt (hd8 _ (mem_tl (mem_tl (mem_r (mem_r (mem_r (mem_r hI2)))))))
              · exact hIn2 _ (mem_tl (mem_r (mem_l hp)))
            · exact hIn2 _ (mem_tl (mem_r (mem_r hp)))
      · exact Kept.step (Kept.step (Kept.step ⟨u2, rfl⟩ (by decide)) (by decide)) (by decide)
      · intro q hq
        rcases List.mem_cons.mp hq with rfl | hq
        · refine ⟨Nat.ne_of_gt (hd8 _ (mem_tl mem_hd)), fun hm => ?_, fun p hp => Nat.ne_of_gt (hd8 p ?_)⟩
          · rw [← hRf] at hm
            exact Nat.lt_irrefl _ (hd8 _ (mem_tl (mem_tl (mem_l (Rows.mem hm)))))
          · refine mem_tl (mem_tl (mem_r (mem_r ?_)))
            rcases List.mem_append.mp hp with hp | hp
            · exact mem_l hp
            · exact mem_r (mem_l hp)
        · exact htl2 q hq
      · rintro k y x ⟨hb, hk⟩
        by_cases hold : k < i ∨ (k = i ∧ y * W + x < j)
        · exact (hD2 _ _ _ ⟨hb, hold⟩).put hblk rfl
        · have hki : k = i ∧ y * W + x = j := by first | exact lex_one hk hold | omega
          refine via fun X9 hX9 => ?_
          obtain ⟨rfl, hj2⟩ := hki
          obtain ⟨c2, hc2, _, hx2⟩ := hb
          refine hX9 ?_
          clear hX9 X9
          rw [hc'] at hc2
          cases hc2
          rw [pW, hW] at hx2
          have hxW : x < W := by omega
          have e1 : j % W = x := by rw [← hj2, Nat.mul_comm, Nat.mul_add_mod, Nat.mod_eq_of_lt hxW]
          have e2 : j / W = y := by
            rw [← hj2, Nat.mul_comm, Nat.mul_add_div (by omega), Nat.div_eq_of_lt hxW, Nat.add_zero]
          rw [e1]
          rw [e2] at hra
          exact Filled.new has1 hra (by omega) hblk rfl
    case done2 =>
      intro h2 tk2 m₂ nx hJ9 F4 N4
      refine via fun X9 hX9 => ?_
      obtain ⟨hK2, ⟨n2, tn2, hn2⟩, R2, o2, tl2, rfl, hRe2, ho2, htl2, hsh2, hD2⟩ := hJ9
      refine hX9 ?_
      clear hX9 X9
      obtain ⟨u2, rfl⟩ := hK2.num hn2
      have e0 : ((0 : Int) + (i : Nat)).toNat = i := by omega
      k_steps
      refine ⟨rfl, _, _, _, (src, o2) :: (R2.led ++ (tl2 ++ Z)), rfl, by k_asm, fun p hp => ?_, fun p hp => ?_, ?_, ⟨_, _, rfl⟩, R2, o2, tl2, rfl, hRe2, ho2, fun q hq => ⟨(htl2 q hq).1, (htl2 q hq).2.1, fun p hp => (htl2 q hq).2.2 p (mem_l hp)⟩, hsh2, ?_⟩
      · refine N4 p ?_
        rcases List.mem_append.mp hp with hp | hp
        · rcases List.mem_cons.mp hp with rfl | hp
          · exact mem_hd
          · rcases List.mem_append.mp hp with hp | hp
            · exact mem_tl (mem_l hp)
            · rcases List.mem_append.mp hp with hp | hp
              · exact mem_tl (mem_r (mem_l hp))
              · exact mem_tl (mem_r (mem_r (mem_l hp)))
        · exact mem_tl (mem_r (mem_r (mem_r hp)))
      · rcases List.mem_cons.mp hp with rfl | hp
        · exact hIs.symm
        · rcases List.mem_append.mp hp with hp | hp
          · intro e
            have := (Rows.of_mem hp).1
            rw [hRe2, e] at this
            exact hIf this
          · rcases List.mem_append.mp hp with hp | hp
            · exact (htl2 p hp).2.2 _ (mem_r hI)
            · exact hIn p (mem_tl (mem_r (mem_r hp)))
      · exact Kept.num_back (Kept.step (Kept.step (Kept.step (Kept.step ⟨u, rfl⟩ (by decide)) (by decide)) (by decide)) (by decide)) (by decide) (by decide)
      · rintro k y x ⟨hk, hb⟩
        refine hD2 k y x ⟨hb, ?_⟩
        by_cases hki : k < i
        · exact .inl hki
        · have : k = i := by omega
          subst this
          refine .inr ⟨rfl, ?_⟩
          refine via fun X9 hX9 => ?_
          obtain ⟨c2, hc2, hy2, hx2⟩ := hb
          refine hX9 ?_
          clear hX9 X9
          rw [e0] at hc
          rw [hc] at hc2
          cases hc2
          rw [pW, hW] at hx2
          rw [pH, hH] at hy2
          have hx3 : x < W := by omega
          have hy3 : y < H := by omega
          calc y * W + x < y * W + W := by omega
            _ = (y + 1) * W := by rw [Nat.add_mul, Nat.one_mul]
            _ ≤ H * W := Nat.mul_le_mul_right _ hy3
            _ = W * H := Nat.mul_comm ..
  case done =>
    intro h tk m₁ nx hJ9 F1 N1
    refine via fun X9 hX9 => ?_
    obtain ⟨hK, ⟨n, tn, hn⟩, R1, o1, tl1, rfl, hRe, ho1, htl1, hsh1, hD1⟩ := hJ9
    refine hX9 ?_
    clear hX9 X9
    obtain ⟨u, rfl⟩ := hK.num hn
    k_steps
    obtain ⟨G, hG1, hG2⟩ := grid_of (hmZ.at hRe) hsh1 fun k y x hb => hD1 k y x ⟨by
      obtain ⟨c, hc, _⟩ := hb
      have := (List.getElem?_eq_some_iff.mp hc).1
      have e := hcs.1
      omega, hb⟩
    refine hret _ _ _ _ (by k_asm) (by k_asm) ⟨o1, _, rfl, fun p hp => ?_, ho1, fun p hp => mem_r (mem_r (hrZ p hp)), G, hG1, hG2⟩
    rcases List.mem_append.mp hp with hp | hp
    · intro e
      have := (Rows.of_mem hp).1
      rw [hRe, e] at this
      exact hsrf this
    · rcases List.mem_append.mp hp with hp | hp
      · exact (htl1 p hp).1
      · exact (hZ p hp).1
/-! C10 -/
def compD (c : CompD) : Dat := .list [.int c.ident, .int c.across, .int c.down, .int c.quant]
def planeD (f : FrameD) (G : Nat → Nat → Nat → List Int) (k : Nat) : List Dat :=
  match f.cs[k]? with
  | some c => (List.range ((pH f c).toNat * (pW f c).toNat)).map fun s => blkD (G k (s / (pW f c).toNat) (s % (pW f c).toNat))
  | none => []
def headD (f : FrameD) : List Dat := [.str (Str.ofString "progressive"), .int 8, .int f.width, .int f.height, .int 2, .list (f.cs.map compD)]
def shownD (f : FrameD) (G : Nat → Nat → Nat → List Int) : List Dat := headD f ++ (List.range f.cs.length).map fun k => .list (planeD f G k)
def ShJ (f : FrameD) (G : Nat → Nat → Nat → List Int) (news : Led) (cg : Addr × Obj) (fl cp ca : Addr) (i : Nat) (nx : Led) : Prop :=
  ∃ (fvs : List Value) (nf : Nat) (op oa : Obj) (p0 a0 : Option Value) (tl : Led), nx = (fl, listOf fvs.toArray nf) :: (cp, op) :: (ca, oa) :: (tl ++ (cg :: news)) ∧ op.data = .cell p0 ∧ oa.data = .cell a0 ∧
    (∀ q ∈ tl, q.1 ≠ fl ∧ q.1 ≠ cp ∧ q.1 ≠ ca ∧ ∀ b ∈ news, b.1 < q.1) ∧ fvs.length = 6 + i ∧ DatAll (tl ++ (cg :: news)) fvs (headD f ++ (List.range i).map fun k => .list (planeD f G k))
mutual
theorem datIn_drop {news news' : Led} (hs : ∀ p ∈ news, p ∈ news' ∨ ∃ x, p.2.data = .cell x) : ∀ {v : Value} {d : Dat}, DatIn news v d → DatIn news' v d
  | _, _, .none => .none
  | _, _, .bool b => .bool b
  | _, _, .int i t => .int i t
  | _, _, .str x t => .str x t
  | _, _, .bytes b t => .bytes b t
  | _, _, .tuple h r => .tuple ((hs _ h).elim id fun ⟨_, e⟩ => nomatch e) (datAll_drop hs r)
  | _, _, .list h r => .list ((hs _ h).elim id fun ⟨_, e⟩ => nomatch e) (datAll_drop hs r)
theorem datAll_drop {news news' : Led} (hs : ∀ p ∈ news, p ∈ news' ∨ ∃ x, p.2.data = .cell x) : ∀ {vs : List Value} {ds : List Dat}, DatAll news vs ds → DatAll news' vs ds
  | _, _, .nil => .nil
  | _, _, .cons h r => .cons (datIn_drop hs h) (datAll_drop hs r)
end
theorem ShJ.start {f : FrameD} {G : Nat → Nat → Nat → List Int} {news tl0 : Led} {cg : Addr × Obj} {fl cp ca D : Addr} {op oa : Obj} {p0 a0 : Option Value} {nf nD : Nat} {fvs ys : List Value} {h₀ h : Heap} {L : Addr}
    (N : News h₀ L h ((fl, listOf fvs.toArray nf) :: (D, listOf ys.toArray nD) :: (tl0 ++ (ca, oa) :: (cp, op) :: cg :: news))) (hop : op.data = .cell p0) (hoa : oa.data = .cell a0)
    (hfl : ∀ p ∈ (D, listOf ys.toArray nD) :: (tl0 ++ (ca, oa) :: (cp, op) :: cg :: news), p.1 < fl) (hab : Abv ((ca, oa) :: (cp, op) :: cg :: news) ((D, listOf ys.toArray nD) :: tl0))
    (hfv : fvs.length = 6) (hd : DatAll ((D, listOf ys.toArray nD) :: (tl0 ++ cg :: news)) fvs (headD f)) :
    ∃ nx, News h₀ L h nx ∧ (∀ p ∈ news, p ∈ nx) ∧ ShJ f G news cg fl cp ca 0 nx := by
  refine ⟨(fl, listOf fvs.toArray nf) :: (cp, op) :: (ca, oa) :: (((D, listOf ys.toArray nD) :: tl0) ++ (cg :: news)), fun p hp => N p ?_, fun p hp => mem_tl (mem_tl (mem_tl (mem_r (mem_tl hp)))), fvs, nf, op, oa, p0, a0, _, rfl, hop, hoa, fun q hq => ⟨Nat.ne_of_lt (hfl q ?_), Nat.ne_of_gt (hab _ (mem_tl mem_hd) q hq), Nat.ne_of_gt (hab _ mem_hd q hq), fun b hb => hab b (mem_tl (mem_tl (mem_tl hb))) q hq⟩, hfv, ?_⟩
  · rcases List.mem_cons.mp hp with rfl | hp
    · exact mem_hd
    · rcases List.mem_cons.mp hp with rfl | hp
      · exact mem_tl (mem_tl (mem_r (mem_tl mem_hd)))
      · rcases List.mem_cons.mp hp with rfl | hp
        · exact mem_tl (mem_tl (mem_r mem_hd))
        · rcases List.mem_append.mp hp with hp | hp
          · rcases List.mem_cons.mp hp with rfl | hp
            · exact mem_tl mem_hd
            · exact mem_tl (mem_tl (mem_l hp))
          · exact mem_tl (mem_tl (mem_r (mem_tl (mem_tl hp))))
  · rcases List.mem_cons.mp hq with rfl | hq
    · exact mem_hd
    · exact mem_tl (mem_l hq)
  · rw [List.range_zero, List.map_nil, List.append_nil]; exact hd
theorem datAll_ints {news news' : Led} : ∀ {vs : List Value} {l : List Int}, DatAll news vs (l.map Dat.int) → DatAll news' vs (l.map Dat.int)
  | [], [], _ => .nil
  | [], _ :: _, h => nomatch h
  | _ :: _, [], h => nomatch h
  | _ :: _, _ :: _, .cons (.int i t) r => .cons (.int i t) (datAll_ints r)
theorem swap_mem {A B R : Led} {fl : Addr} {o o' : Obj} {p : Addr × Obj} (h : p ∈ A ++ (B ++ (fl, o) :: R)) (hne : p.1 ≠ fl) : p ∈ A ++ (B ++ (fl, o') :: R) := by
  rcases List.mem_append.mp h with h | h
  · exact mem_l h
  · rcases List.mem_append.mp h with h | h
    · exact mem_r (mem_l h)
    · rcases List.mem_cons.mp h with rfl | h
      · exact absurd rfl hne
      · exact mem_r (mem_r (mem_tl h))
theorem blk_open {news : Led} {v : Value} {l : List Int} (h : DatIn news v (blkD l)) (hl : l.length = 4) : ∃ b bvs nb, v = .ref b ∧ (b, listOf bvs.toArray nb) ∈ news ∧ DatAll news bvs (l.map Dat.int) ∧ bvs.length = 4 := by
  cases h with
  | list h r => exact ⟨_, _, _, rfl, h, r, by rw [r.length, List.length_map, hl]⟩
theorem Go.blk {w : World} {mean : ExcName → Option Value} {mg mb : Str → Option Value} {hdl : Option Value} {dp un : Nat} {h₀ : Heap} {L : Addr} {m : Str → Option Value} {s : Shared} {f : Addr} {vs : List Value} {news : Led} {Q : Value → Shared → Prop} {b : Nat} {l : List Int} (S : Spec b w mean mg mb hdl f vs news (fun r n' => n' = news ∧ DatIn news r (blkD l))) (hl : l.length = 4) (h1 : dp + b < recursionLimit) (h2 : un + 8 * b < cLine)
    (ret : ∀ h' tk', Fr h₀ L h' m → News h₀ L h' news → ∀ b bvs nb, (b, listOf bvs.toArray nb) ∈ news → DatAll news bvs (l.map Dat.int) → bvs.length = 4 → DatIn news (.ref b) (blkD l) → Q (.ref b) { s with heap := h', toks := tk' }) : Go w mean mg mb hdl dp un h₀ L m s f vs news Q :=
  .mk S h1 h2 fun _ _ _ _ F N ⟨e1, hd⟩ => by
    subst e1
    obtain ⟨_, _, _, rfl, hb, hq, h4⟩ := blk_open hd hl
    exact ret _ _ F N _ _ _ hb hq h4 hd
theorem law_shown_spec {v gv : Value} {f : FrameD} {G : Nat → Nat → Nat → List Int} (hf : FrameObj w.params news v f) (ok : FrameOk f) (hg : GridObj w.params news gv f G) (hG4 : ∀ k y x, (G k y x).length = 4) (H : HOk hdl news) :
    Spec 8 w mean mg mb hdl 256 [v, gv] news (fun r n' => Grow news n' ∧ DatIn n' r (.list (shownD f G))) := by
  k_with_none
  (k_with "fr0" => exact FrameObj.mono (by assumption) (fun p9 h9 => by (repeat (first | exact h9 | (refine List.mem_append.mpr (Or.inr ?_)) | (refine List.Mem.tail _ ?_)))))
  (k_with "ho0" => exact HOk.mono (by assumption) (fun p9 h9 => by (repeat (first | exact h9 | (refine List.mem_append.mpr (Or.inr ?_)) | (refine List.Mem.tail _ ?_)))))
  (k_with "d" => first | exact roomD hdp rfl | exact roomD0 hdp rfl | ktr_room | omega)
  (k_with "u" => first | exact roomU hun rfl | exact roomU0 hun rfl | ktr_units | omega | (simp only [tc_units, units_deeper]; omega))
  (k_with "eval ListComp" => (k_here; with_unfolding_all refine' comp_start ?z9k1 ?z9k2 ?z9k3 ?_; (case z9k1 => exact rfl); (case z9k2 => exact rfl); (case z9k3 => decide)))
  (k_with "fr" => exact FrameObj.mono (by assumption) (fun p9 h9 => by k_mem))
  (k_with "ho" => exact HOk.mono (by assumption) (fun p9 h9 => by k_mem))
  (k_with "cm" => exact CompAll.mono (by assumption) (fun p9 h9 => by k_mem))
  (k_with "subscriptTail" => (k_here; with_unfolding_all refine' item_of ?z9hm ?z9N ?z9h0 ?z9h1 ?z9hx ?_ ?z9hs; (case z9N => k_asm); (case z9hm => k_mem); (case z9h0 => first | assumption | decide | omega); (case z9h1 => first | with_reducible assumption | decide | omega); (case z9hx => assumption); (case z9hs => with_unfolding_all rfl)))
  (k_with "call type:list" => (k_here; with_unfolding_all refine' copy_of ?z9F ?z9N ?z9hm ?z9hb ?_; (case z9F => k_asm); (case z9N => k_asm); (case z9hm => k_mem); (case z9hb => first | assumption | omega | simp); intro D9 c9 h9 F9 N9 hd9; revert D9 c9 h9 F9 N9 hd9; intro _ _ _ _ _ _; (try k_sweep); (try dsimp only); (try k_fold)))
  (k_with "call builtin:len" => (k_here; with_unfolding_all refine' len_of ?z9hm ?z9N ?z9hb ?_; (case z9N => k_asm); (case z9hm => k_mem); (case z9hb => first | omega | decide)))
  (k_with "call builtin:list.append" => (k_here; with_unfolding_all refine' append_of ?z9F ?z9N ?z9U ?z9z ?_; (case z9F => k_asm); (case z9N => k_asm); (case z9U => intro n'; k_upd); (case z9z => first | with_reducible assumption | decide | omega); intro h9 n9 F9 N9; (try simp only [List.cons_append, List.nil_append] at N9); revert h9 n9 F9 N9; intro _ _ _ _; (try dsimp only); (try k_fold)))
  (k_with "exec For Name Call cons nil" => (k_here; with_unfolding_all refine' for_startF ?z9lF ?z9k1 ?z9k2 ?_; (case z9lF => assumption); (case z9k1 => exact rfl); (case z9k2 => exact rfl)))
  (k_with "gr" => exact GridObj.mono (by assumption) (fun p9 h9 => by k_mem))
  (k_with "exec Assign cons ListComp" => (k_here; with_unfolding_all refine' comp_assign ?z9k0 ?z9k1 ?z9k2 ?z9k3 ?_; (case z9k0 => exact rfl); (case z9k1 => exact rfl); (case z9k2 => exact rfl); (case z9k3 => decide)))
  (k_with "eval Name" => (k_here; with_unfolding_all refine' name_C (by with_reducible assumption) ?z9hv ?_ ?z9k1 ?z9k2 ?z9k3; (case z9k1 => exact rfl); (case z9k2 => exact rfl); (case z9k3 => decide); (case z9hv => assumption)))
  (k_with "exec For Name Call cons nil" => (k_here; with_unfolding_all refine' for_startT ?z9lF ?_; (case z9lF => assumption)))
  (k_with "assign Tuple" => (k_here; with_unfolding_all refine' unpack_H (HOk.fp (HOk.mono (by assumption) (fun p9 h9 => ?z9hs)) ?z9N rfl) ?z9hf ?z9F ?z9N2 ?z9hm ?z9k1 ?z9k2 ?_; (case z9N => k_asm); (case z9N2 => k_asm); (case z9F => k_asm); (case z9hs => k_mem); (case z9hf => (intro b hb; obtain ⟨o, ho⟩ := HOk.hf (by assumption) b hb; exact ⟨o, by k_mem⟩)); (case z9hm => assumption); (case z9k1 => exact rfl); (case z9k2 => exact rfl); intro h9 F9 N9; revert h9 F9 N9; intro _ _ _))
  (k_with "call ref" => (k_here; with_unfolding_all refine' Spec.go ?z9uB ?z9uF ?z9uX ?z9uN ?z9uT ?z9uk ?_; (case z9uB => k_asm); (case z9uF => k_asm); (case z9uX => k_asm); (case z9uN => k_asm); (case z9uT => k_asm); (case z9uk => first | exact rfl | assumption); (first | (refine' Go.blk (get_spec ?z9pa ?z9pb ?z9pc ?z9pd ?z9pe ?z9pf ?z9pg ?z9ph ?z9pi ?z9pj) ?z9p7 ?z9p8 ?z9p9 ?_; (case z9pa => assumption); (case z9pb => assumption); (case z9pc => first | with_reducible assumption | decide | omega); (case z9pd => first | with_reducible assumption | decide | omega); (case z9pe => first | with_reducible assumption | decide | omega); (case z9pf => first | with_reducible assumption | decide | omega); (case z9pg => assumption); (case z9ph => first | with_reducible assumption | decide | omega); (case z9pi => assumption); (case z9pj => first | with_reducible assumption | decide | omega); (case z9p7 => solve_by_elim); (case z9p8 => k_extra "d"); (case z9p9 => k_extra "u"); intro h9 tk9 F9 N9 b9 bvs9 nb9 hb9 hd9 hl9 hD9; revert h9 tk9 F9 N9 b9 bvs9 nb9 hb9 hd9 hl9 hD9; intro _ _ _ _ _ _ _ _ _ _ _) | (refine' Go.tupG (padded_spec ?z9pa ?z9pb ?z9pc ?z9pd ?z9pe ?z9pf ?z9pg ?z9ph ?z9pi ?z9pj ?z9pk) ?z9p8 ?z9p9 ?_; (case z9pa => k_extra "fr"); (case z9pb => k_extra "ho"); (case z9pc => assumption); (case z9pd => assumption); (case z9pe => assumption); (case z9pf => assumption); (case z9pg => first | with_reducible assumption | decide | omega); (case z9ph => first | with_reducible assumption | decide | omega); (case z9pi => assumption); (case z9pj => first | with_reducible assumption | decide | omega); (case z9pk => first | with_reducible assumption | decide | omega); (case z9p8 => k_extra "d"); (case z9p9 => k_extra "u"); intro h9 tk9 F9 tl9 ha9 tp9 t9 t9' N9 hm9; (try (rename mW _ * _ = _ => q9; rename mH _ * _ = _ => q8; rw [q9, q8] at hm9)); revert h9 tk9 F9 tl9 ha9 tp9 t9 t9' N9 hm9; intro _ _ _ _ _ _ _ _ _ _)); (try k_sweep); (try dsimp only); (try k_fold)))
  unfold Spec
  k_fill
  intro dp un gd cn0 cs0 a0 ccd0 cl0 outer A₀ base h₀ L m s Q E B F X N T hk hdp hun hret
  have hf' := hf
  have hg' := hg
  refine via fun X9 hX9 => ?_
  refine FrameObj.elim (hf) fun x dx cl nn vs t1 t2 t3 t4 t5 t6 u1 u2 u3 u4 u6 e9 hx hdx hcl hcs => ?_
  subst e9
  clear hf
  obtain ⟨R, ⟨gx, gd, pa, gnn, gvs, gt1, gt2, gu1, rfl, hgx, hgd, _⟩, _⟩ := hg
  refine hX9 ?_
  clear hX9 X9
  have hvs : vs.length ≤ 2 := by rw [hcs.1]; exact ok.len2
  have ok0 := ok.len0
  have ok2 := ok.len2
  have okA := ok.a
  have okD := ok.d
  refine wpAny_call ?_
  refine' code_defC (binds := [(Str.ofString "frame", .ref x), (Str.ofString "grid", .ref gx)]) ?k1 ?k2 ?k3 ?k4 ?k5 ?kA ?kF ?kK ?k6 ?k7 ?k8 ?k9 ?kB ?kD ?_ ?c2 ?c3 ?c4
  (case kA => exact rfl); (case kF => exact rfl); (case kK => assumption); (case k1 => k_asm); (case k2 => k_asm); (case k3 => k_asm); (case k4 => k_asm); (case k5 => k_asm); (case k6 => k_is); (case k7 => k_is); (case k8 => ktr_room)
  (case k9 => exact BindsTo.of_eq rfl); (case kB => exact rfl); (case kD => decide +kernel); (case c2 => exact rfl); (case c3 => exact rfl); (case c4 => exact rfl)
  intro g' L' h' tk' cells' FG' F' N' Y' B' X' T' l9
  k_cells Y'
  (try simp only [List.cons_append, List.nil_append] at N')
  (try dsimp only)
  (try k_fold)
  rename_i oa0 op0 og da0 dp0 dg
  k_steps
  rename Fr _ _ _ _ => F1
  rename News _ _ _ _ => N1
  refine' comp_listR (hf := hfOf hdl) (nl := nn) (vs := vs) (G := fun i ys nx => CompAll w.params nx vs f.cs ∧ DatAll nx ys ((f.cs.take i).map compD)) ?hl ?hH F1 N1 ?hhf ?k1 ?k2 ?k3 ?T ?hz ?hG0 (ItemsDoneR.assign ?k4 ?k5 ?k6 ?D)
  (case k1 => exact rfl); (case k2 => decide); (case k3 => exact rfl); (case k4 => exact rfl); (case k5 => exact rfl); (case k6 => exact rfl)
  case hl => k_mem
  case hH => exact HOk.fp (H.mono fun p hp => by k_mem) N1 rfl
  case hhf => exact fun b hb => let ⟨o, ho⟩ := H.hf b hb; ⟨o, by k_mem⟩
  case hG0 => exact ⟨hcs.mono fun p hp => by k_mem, .nil⟩
  case hz => rw [sizeLine_eq]; omega
  case T =>
    intro i h tk ys nx led mC C oC hi hv hs hC hG F N hn E'
    refine via fun X9 hX9 => ?_
    obtain ⟨v, hv1, hv2⟩ := hv
    obtain ⟨hcs, hys⟩ := hG
    refine CompObj.elim (hcs.2 i v hv1) fun c hc1 xc dxc t1 t2 t3 t4 u1 u2 u3 u4 e9 hxc hdxc => ?_
    subst e9
    refine hX9 ?_
    clear hX9 X9
    have hxc' := hs _ hxc
    have hdxc' := hs _ hdxc
    k_steps
    rename Fr _ _ _ _ => F3
    rename News _ _ _ _ => N3
    refine ⟨_, _, [(_, _)], rfl, F3, N3, fun q hq p hp => ?_, hcs.mono fun p hp => mem_tl hp, ?_⟩
    · rw [List.mem_singleton.mp hp]
      first | exact Heap.lt_size (N _ hq).1 | (rename_i hlt; exact hlt q hq)
    · rw [List.take_add_one, hc1, List.map_append]
      exact (hys.mono fun p hp => mem_tl hp).append (.one (.list mem_hd (.cons (.int _ _) (.cons (.int _ _) (.cons (.int _ _) (.cons (.int _ _) .nil))))))
  case D =>
    intro D h tk ys tl0 nD hlen F N hab hne hG
    have hys := hG.2
    rw [hcs.1, List.take_length] at hys
    clear hG
    k_steps
    rename_i fl hh1 hfl0 hh2 FF NN hh3 tkk ta ua va hr F1 N1 hzz
    have hdat : DatIn ((D, listOf ys.toArray nD) :: (tl0 ++ (L' + 1, og) :: news)) (.ref D) (.list (f.cs.map compD)) := (.list mem_hd (datAll_drop (fun p hp => by
      rcases List.mem_append.mp hp with hp | hp
      · exact .inl (mem_tl (mem_l hp))
      · rcases List.mem_cons.mp hp with rfl | hp
        · exact .inr ⟨_, da0⟩
        · rcases List.mem_cons.mp hp with rfl | hp
          · exact .inr ⟨_, dp0⟩
          · exact .inl (mem_tl (mem_r hp))) hys))
    refine via fun X9 hX9 => ?_
    obtain ⟨nx0, N0, hs0, hJ0⟩ := ShJ.start (f := f) (G := G) N1 dp0 da0 hfl0 hab rfl (.cons (.str _ _) (.cons (.int _ _) (.cons (.int _ _) (.cons (.int _ _) (.cons (.int _ _) (.cons hdat .nil))))))
    refine hX9 ?_
    clear hX9 X9
    have hfcp : fl ≠ L' + 1 + 1 := (Nat.ne_of_lt (hfl0 (L' + 1 + 1, op0) (mem_tl (mem_r (mem_tl mem_hd))))).symm
    have hfca : fl ≠ L' + 1 + 1 + 1 := (Nat.ne_of_lt (hfl0 (L' + 1 + 1 + 1, oa0) (mem_tl (mem_r mem_hd)))).symm
    have hfcg : L' + 1 ≠ fl := Nat.ne_of_lt (hfl0 (L' + 1, og) (mem_tl (mem_r (mem_tl (mem_tl mem_hd)))))
    have hnf : ∀ p ∈ news, p.1 < fl := fun p hp => hfl0 p (mem_tl (mem_r (mem_tl (mem_tl (mem_tl hp)))))
    refine for_rangeT hr (n := vs.length) (hf := hfOf hdl) (range_small (by omega)) (range_sz _) (HOk.fp (H.mono hs0) N0 rfl) F1 N0 (fun b hb => let ⟨o, ho⟩ := H.hf b hb; ⟨o, hs0 _ ho⟩)
      (fun i m nx => Kept ["down"] _ m ∧ ShJ f G news (L' + 1, og) fl (L' + 1 + 1) (L' + 1 + 1 + 1) i nx) ⟨Kept.refl, hJ0⟩ ?turn ?done
    case turn =>
      intro i t s3 own nx m₁ I oI hi hJ9 hI hown hIn F1 N1
      refine via fun X9 hX9 => ?_
      obtain ⟨⟨u, rfl⟩, fvs, nf, op, oa, p0, a0, tl, rfl, hop, hoa, htl, hfv, hdat⟩ := hJ9
      refine hX9 ?_
      clear hX9 X9
      simp only [List.cons_append, List.nil_append, List.append_assoc] at N1
      have hi2 : (0:Int) + (i:Nat) < 2 := by omega
      refine via fun X9 hX9 => ?_
      obtain ⟨c, hc⟩ : ∃ c, f.cs[((0:Int) + (i:Nat)).toNat]? = some c := ⟨_, List.getElem?_eq_getElem (by rw [hcs.1] at hi; omega)⟩
      refine hX9 ?_
      clear hX9 X9
      have hca := ok.acr c (List.mem_of_getElem? hc)
      have hcd := ok.dwn c (List.mem_of_getElem? hc)
      have hpw := ok.pw (List.mem_of_getElem? hc)
      have hph := ok.ph (List.mem_of_getElem? hc)
      refine via fun X9 hX9 => ?_
      obtain ⟨HH, hH⟩ : ∃ H : Nat, mH f * c.down = (H : Int) := ⟨(pH f c).toNat, (Int.toNat_of_nonneg (Int.le_trans (by decide) hph.1)).symm⟩
      obtain ⟨W, hW⟩ : ∃ W : Nat, mW f * c.across = (W : Int) := ⟨(pW f c).toNat, (Int.toNat_of_nonneg (Int.le_trans (by decide) hpw.1)).symm⟩
      refine hX9 ?_
      clear hX9 X9
      have hW1 : 1 ≤ W ∧ W ≤ 4 := by rw [pW, hW] at hpw; omega
      have hH1 : 1 ≤ HH ∧ HH ≤ 4 := by rw [pH, hH] at hph; omega
      have hW' := hW
      have hH' := hH
      have sep : ∀ a, (a = fl ∨ a = L' + 1 + 1 ∨ a = L' + 1 + 1 + 1) → (∀ p ∈ tl, p.1 ≠ a) ∧ L' + 1 ≠ a ∧ (∀ p ∈ news, p.1 ≠ a) ∧ (∀ p ∈ own, p.1 ≠ a) := by
        intro a ha
        have hn : ∀ p ∈ news, p.1 ≠ a := fun p hp => by
          have h3 := l9 p hp
          rcases ha with rfl | rfl | rfl
          · exact Nat.ne_of_lt (hnf p hp)
          · exact Nat.ne_of_lt (Nat.lt_succ_of_lt (Nat.lt_succ_of_lt h3))
          · exact Nat.ne_of_lt (Nat.lt_succ_of_lt (Nat.lt_succ_of_lt (Nat.lt_succ_of_lt h3)))
        refine ⟨fun p hp => ?_, ?_, hn, fun p hp => ?_⟩
        · rcases ha with rfl | rfl | rfl
          · exact (htl p hp).1
          · exact (htl p hp).2.1
          · exact (htl p hp).2.2.1
        · rcases ha with rfl | rfl | rfl
          · exact hfcg
          · exact Nat.ne_of_lt (Nat.lt_succ_self _)
          · exact Nat.ne_of_lt (Nat.lt_succ_of_lt (Nat.lt_succ_self _))
        · rcases hown p hp with e | e
          · rw [e]
            rcases ha with rfl | rfl | rfl
            · exact (hIn _ mem_hd).symm
            · exact (hIn _ (mem_tl mem_hd)).symm
            · exact (hIn _ (mem_tl (mem_tl mem_hd))).symm
          · obtain ⟨o, ho⟩ := H.hf _ e
            exact hn (_, o) ho
      refine via fun X9 hX9 => ?_
      obtain ⟨sa1, sa2, sa3, sa4⟩ := sep fl (.inl rfl)
      obtain ⟨sb1, sb2, sb3, sb4⟩ := sep _ (.inr (.inl rfl))
      obtain ⟨sc1, sc2, sc3, sc4⟩ := sep _ (.inr (.inr rfl))
      refine hX9 ?_
      clear hX9 X9
      have q1 := hfcp
      have q2 := hfca
      have q3 : L' + 1 + 1 ≠ L' + 1 + 1 + 1 := Nat.ne_of_lt (Nat.lt_succ_self _)
      have q1' := q1.symm
      have q2' := q2.symm
      have q3' := q3.symm
      have e0 : ((0 : Int) + (i : Nat)).toNat = i := by omega
      k_steps
      rename_i op1 dp1 hh4 tk4 tl9 ha9 tp9 t9 t9' hm9 hh5 hh6 oa1 da1 hh7 FF NN hh8 tkk ta ua va hr2 F2 N2 hzz2
      have dg' : og.data = .cell (some (.ref gx)) := dg
      refine' comp_range2 (hf := hfOf hdl) (n0 := HH) (n1 := W) hr2 (range_small (by omega)) (range_sz _) (range_small (by omega)) (range_sz _) ?hH F2 N2 ?hhf ?k1 ?k2 ?k3 ?k4 ?k5 ?k6 ?V (G := fun n ys nx => (∀ p ∈ news, p ∈ nx) ∧ (L' + 1, og) ∈ nx ∧ (L' + 1 + 1, op1) ∈ nx ∧ (L' + 1 + 1 + 1, oa1) ∈ nx ∧ (I, oI) ∈ nx ∧ (fl, listOf fvs.toArray nf) ∈ nx ∧ ∃ tlD : Led, (∀ p ∈ tlD, p ∈ nx ∧ p.1 ≠ fl ∧ p.1 ≠ L' + 1 + 1 ∧ p.1 ≠ L' + 1 + 1 + 1 ∧ p.1 ≠ I ∧ ∀ b ∈ news, b.1 < p.1) ∧ DatAll tlD ys ((List.range n).map fun s => blkD (G i (s / W) (s % W)))) ?T ?hz ?hG0 ?D
      (case k1 => exact rfl); (case k2 => decide); (case k3 => exact rfl); (case k4 => exact rfl); (case k5 => decide); (case k6 => intro _ _; rfl)
      case hH => exact HOk.fp (H.mono fun p hp => by k_mem) N2 rfl
      case hhf => exact fun b hb => let ⟨o, ho⟩ := H.hf b hb; ⟨o, by k_mem⟩
      case hz => rw [sizeLine_eq]; have := Nat.mul_le_mul hH1.2 hW1.2; omega
      case hG0 => exact ⟨fun p hp => by k_mem, by k_mem, by k_mem, by k_mem, by k_mem, by k_mem, [], fun p hp => (nomatch hp), .nil⟩
      case V =>
        clear hg' hf' hgx hgd hx hdx hcl
        intro h tk led mC C oC hs hC F N hn E'
        have hca := hs _ (by k_mem : (L' + 1 + 1 + 1, oa1) ∈ _)
        k_steps
        exact ⟨_, _, _, _, _, _, rfl, rfl, by k_asm, by k_asm, by assumption⟩
      case T =>
        intro n h tk ys nx led mC C oC hi hv hs hC hG F N hn E'
        refine via fun X9 hX9 => ?_
        obtain ⟨iy, ix, ty, tx, hiy, hix, hne', hmy, hmx⟩ := hv
        obtain ⟨g1, g2, g3, g4, g6, g7, tlD, g8, g5⟩ := hG
        refine hX9 ?_
        clear hX9 X9
        have hgl := hg'.mono (news' := led) fun p hp => hs _ (g1 p hp)
        have g2' := hs _ g2
        have g3' := hs _ g3
        have g4' := hs _ g4
        have hgx' := hs _ (g1 _ hgx)
        have hgd' := hs _ (g1 _ hgd)
        have hx1' : ((ix : Nat) : Int) < pW f c := by rw [pW, hW]; omega
        have hy1' : ((iy : Nat) : Int) < pH f c := by rw [pH, hH]; omega
        k_steps
        rename_i bA bvsA nbA hbA hdA hlA hDA DA cA hA FA NA hltA
        refine ⟨_, _, [(DA, _)], rfl, FA, NA, fun q hq p hp => ?_, fun p hp => mem_tl (g1 p hp), mem_tl g2, mem_tl g3, mem_tl g4, mem_tl g6, mem_tl g7, (DA, listOf bvsA.toArray cA) :: tlD, fun p hp => ?_, ?_⟩
        · rw [List.mem_singleton.mp hp]; exact hltA q hq
        · rcases List.mem_cons.mp hp with rfl | hp
          · exact ⟨mem_hd, Nat.ne_of_gt (hltA _ (hs _ g7)), Nat.ne_of_gt (hltA _ g3'), Nat.ne_of_gt (hltA _ g4'), Nat.ne_of_gt (hltA _ (hs _ g6)), fun b hb => hltA b (hs _ (g1 _ hb))⟩
          · exact ⟨mem_tl (g8 p hp).1, (g8 p hp).2⟩
        · rw [List.range_succ, List.map_append]
          refine (g5.mono fun p hp => mem_tl hp).append (.one (.list mem_hd ?_))
          have e1 : n / W = iy := by rw [hne', Nat.mul_comm, Nat.mul_add_div (by omega), Nat.div_eq_of_lt hix, Nat.add_zero]
          have e2 : n % W = ix := by rw [hne', Nat.mul_comm, Nat.mul_add_mod, Nat.mod_eq_of_lt hix]
          rw [e1, e2]
          rw [e0, Int.toNat_natCast, Int.toNat_natCast] at hdA
          exact datAll_ints hdA
      case D =>
        intro D2 h2 tk2 ys2 tl2 nD2 hlen2 F N hab2 hne2 hG2
        refine via fun X9 hX9 => ?_
        obtain ⟨g1, g2, g3, g4, g6, g7, tlD, g8, g5⟩ := hG2
        refine hX9 ?_
        clear hX9 X9
        have habD := abv_hd hab2
        have hab2' := abv_tl hab2
        have hD3 : D2 ≠ fl ∧ D2 ≠ L' + 1 + 1 ∧ D2 ≠ L' + 1 + 1 + 1 ∧ D2 ≠ I ∧ ∀ b ∈ news, b.1 < D2 := ⟨Nat.ne_of_gt (habD (fl, listOf fvs.toArray nf) (by k_mem)), Nat.ne_of_gt (habD (_, op1) (by k_mem)), Nat.ne_of_gt (habD (_, oa1) (by k_mem)), Nat.ne_of_gt (habD (I, oI) (by k_mem)), fun b hb => habD b (by k_mem)⟩
        have hpl : planeD f G i = (List.range (HH * W)).map fun s => blkD (G i (s / W) (s % W)) := by
          rw [e0] at hc
          unfold planeD
          rw [hc]
          simp only [pW, pH, hW, hH, Int.toNat_natCast]
        rw [← hpl] at g5
        k_steps
        rename_i hZ nZ F7 N7
        refine ⟨rfl, _, _, _, (fl, listOf (fvs ++ [Value.ref D2]).toArray nZ) :: (L' + 1 + 1, op1) :: (L' + 1 + 1 + 1, oa1) :: ((((D2, listOf ys2.toArray nD2) :: tlD) ++ tl) ++ ((L' + 1, og) :: news)), rfl, F7, fun p hp => ?_, fun p hp => ?_, ?_, _, _, op1, oa1, _, _, _, rfl, dp1, da1, fun q hq => ?_, ?_, ?_⟩
        · rcases List.mem_append.mp hp with hp | hp
          · rcases List.mem_cons.mp hp with rfl | hp
            · exact N7 _ (mem_tl (mem_r (mem_r mem_hd)))
            · rcases List.mem_cons.mp hp with rfl | hp
              · exact N7 _ (mem_tl (mem_r (mem_r (mem_tl mem_hd))))
              · rcases List.mem_cons.mp hp with rfl | hp
                · exact N7 _ (mem_tl (mem_r (mem_r (mem_tl (mem_tl mem_hd)))))
                · rcases List.mem_append.mp hp with hp | hp
                  · rcases List.mem_append.mp hp with hp | hp
                    · rcases List.mem_cons.mp hp with rfl | hp
                      · exact N7 _ mem_hd
                      · exact N7 _ (mem_tl (swap_mem (g8 p hp).1 (g8 p hp).2.1))
                    · exact N7 _ (mem_tl (mem_r (mem_r (mem_tl (mem_tl (mem_tl (mem_l hp)))))))
                  · rcases List.mem_cons.mp hp with rfl | hp
                    · exact N7 _ (mem_tl (mem_r (mem_r (mem_tl (mem_tl (mem_tl (mem_r mem_hd)))))))
                    · exact N7 _ (mem_tl (mem_r (mem_r (mem_tl (mem_tl (mem_tl (mem_r (mem_tl (mem_l hp)))))))))
          · exact N7 _ (mem_tl (mem_r (mem_r (mem_tl (mem_tl (mem_tl (mem_r (mem_tl (mem_r hp)))))))))
        · rcases List.mem_cons.mp hp with rfl | hp
          · exact hIn (fl, listOf fvs.toArray nf) mem_hd
          · rcases List.mem_cons.mp hp with rfl | hp
            · exact hIn (_, op) (mem_tl mem_hd)
            · rcases List.mem_cons.mp hp with rfl | hp
              · exact hIn (_, oa) (mem_tl (mem_tl mem_hd))
              · rcases List.mem_append.mp hp with hp | hp
                · rcases List.mem_append.mp hp with hp | hp
                  · rcases List.mem_cons.mp hp with rfl | hp
                    · exact hD3.2.2.2.1
                    · exact (g8 p hp).2.2.2.2.1
                  · exact hIn p (mem_tl (mem_tl (mem_tl (mem_l hp))))
                · exact hIn p (mem_tl (mem_tl (mem_tl (mem_r hp))))
        · exact Kept.step ⟨u, rfl⟩ (by decide)
        · rcases List.mem_append.mp hq with hq | hq
          · rcases List.mem_cons.mp hq with rfl | hq
            · exact ⟨hD3.1, hD3.2.1, hD3.2.2.1, hD3.2.2.2.2⟩
            · exact ⟨(g8 q hq).2.1, (g8 q hq).2.2.1, (g8 q hq).2.2.2.1, (g8 q hq).2.2.2.2.2⟩
          · exact htl q hq
        · rw [List.length_append, hfv]; rfl
        · rw [List.range_succ, List.map_append, ← List.append_assoc]
          refine (hdat.mono fun p hp => ?_).append (.one (.list (mem_l (mem_l mem_hd)) (g5.mono fun p hp => mem_l (mem_l (mem_tl hp)))))
          rcases List.mem_append.mp hp with hp | hp
          · exact mem_l (mem_r hp)
          · exact mem_r hp
    case done =>
      intro h tk m₁ nx hJ9 F1 N1
      refine via fun X9 hX9 => ?_
      obtain ⟨⟨u, rfl⟩, fvs, nf, op, oa, p0, a0, tl, rfl, hop, hoa, htl, hfv, hdat⟩ := hJ9
      refine hX9 ?_
      clear hX9 X9
      k_steps
      rename Fr _ _ _ _ => F7
      rename News _ _ _ _ => N7
      refine hret _ (((fl, listOf fvs.toArray nf) :: tl ++ [(L' + 1, og)]) ++ news) _ _ (by k_asm) (fun p hp => ?_) ⟨⟨_, rfl, ?_⟩, .list (mem_l (mem_l mem_hd)) ?_⟩
      · refine N7 p ?_
        rcases List.mem_append.mp hp with hp | hp
        · rcases List.mem_append.mp hp with hp | hp
          · rcases List.mem_cons.mp hp with rfl | hp
            · exact mem_hd
            · exact mem_tl (mem_tl (mem_tl (mem_l hp)))
          · exact mem_tl (mem_tl (mem_tl (mem_r (List.mem_singleton.mp hp ▸ mem_hd))))
        · exact mem_tl (mem_tl (mem_tl (mem_r (mem_tl hp))))
      · intro q hq p hp
        rcases List.mem_append.mp hp with hp | hp
        · rcases List.mem_cons.mp hp with rfl | hp
          · exact hnf q hq
          · exact (htl p hp).2.2.2 q hq
        · rw [List.mem_singleton.mp hp]
          exact Nat.lt_succ_of_lt (l9 q hq)
      · rw [hcs.1] at hdat
        refine hdat.mono fun p hp => ?_
        rcases List.mem_append.mp hp with hp | hp
        · exact mem_l (mem_l (mem_tl hp))
        · rcases List.mem_cons.mp hp with rfl | hp
          · exact mem_l (mem_r mem_hd)
          · exact mem_r hp
/-! C11 -/
/-- the eight turns: does one cut across, does it cut down -/
inductive TurnOk : Str → Bool → Bool → Prop
  | back : TurnOk (Str.ofString "back") true true
  | right : TurnOk (Str.ofString "right") false true
  | left : TurnOk (Str.ofString "left") true false
  | mirror : TurnOk (Str.ofString "mirror") true false
  | flip : TurnOk (Str.ofString "flip") false true
  | swap : TurnOk (Str.ofString "swap") false false
  | cross : TurnOk (Str.ofString "cross") true true
  | stay : TurnOk (Str.ofString "stay") false false
theorem in_KT {prog : Program} {A : Around} {E : Value → Shared → Prop} {s : Shared} {K : Frag} {h₀ : Heap} {L t : Addr} {m : Str → Option Value} {od : Option Addr} {items : Array Value} {n : Nat} {sl : Array (Option Value)} {ys : List Str} {x : Str} {u : Tok} {Q : Value → Shared → Prop} (b : Bool)
    (F : Fr h₀ L s.heap m) (X : K.In h₀) (hl : K.lookup t = some ⟨.type "tuple", od, .seq items n, sl⟩) (hi : StrsAre items.toList ys) (hb : ys.any (· == x) = b) (h : Q (.bool b) s) : wpAny (model prog w) A (compareOp .In (.str x u) (.ref t)) Q E s :=
  in_tuple_strs ⟨_, F.keep _ _ (X _ _ hl), rfl, _, rfl⟩ hi (by rw [hb]; exact h)
theorem is_whole_spec {v : Value} {f : FrameD} {wd : Str} {tw : Tok} {ta td : Bool} (hf : FrameObj w.params news v f) (ok : FrameOk f) (hw : TurnOk wd ta td) :
    Spec 6 w mean mg mb none 190 [v, .str wd tw] news (fun r n' => Grow news n' ∧ ∃ b, r = .bool b ∧ (b = true ↔ (ta = true → f.width.fmod (mA f * 2) = 0) ∧ (td = true → f.height.fmod (mD f * 2) = 0))) := by
  k_with_none
  (k_with "fr0" => exact FrameObj.mono (by assumption) (fun p9 h9 => by (repeat (first | exact h9 | (refine List.mem_append.mpr (Or.inr ?_)) | (refine List.Mem.tail _ ?_)))))
  (k_with "ho0" => exact HOk.mono (by assumption) (fun p9 h9 => by (repeat (first | exact h9 | (refine List.mem_append.mpr (Or.inr ?_)) | (refine List.Mem.tail _ ?_)))))
  (k_with "d" => first | exact roomD hdp rfl | exact roomD0 hdp rfl | ktr_room | omega)
  (k_with "u" => first | exact roomU hun rfl | exact roomU0 hun rfl | ktr_units | omega | (simp only [tc_units, units_deeper]; omega))
  (k_with "eval ListComp" => (k_here; with_unfolding_all refine' comp_start ?z9k1 ?z9k2 ?z9k3 ?_; (case z9k1 => exact rfl); (case z9k2 => exact rfl); (case z9k3 => decide)))
  (k_with "fr" => exact FrameObj.mono (by assumption) (fun p9 h9 => by k_mem))
  (k_with "ho" => exact HOk.mono (by assumption) (fun p9 h9 => by k_mem))
  (k_with "cm" => exact CompAll.mono (by assumption) (fun p9 h9 => by k_mem))
  (k_with "subscriptTail" => (k_here; with_unfolding_all refine' item_of ?z9hm ?z9N ?z9h0 ?z9h1 ?z9hx ?_ ?z9hs; (case z9N => k_asm); (case z9hm => k_mem); (case z9h0 => first | assumption | decide | omega); (case z9h1 => first | with_reducible assumption | decide | omega); (case z9hx => assumption); (case z9hs => with_unfolding_all rfl)))
  (k_with "call type:list" => (k_here; with_unfolding_all refine' copy_of ?z9F ?z9N ?z9hm ?z9hb ?_; (case z9F => k_asm); (case z9N => k_asm); (case z9hm => k_mem); (case z9hb => first | assumption | omega | simp); intro D9 c9 h9 F9 N9 hd9; revert D9 c9 h9 F9 N9 hd9; intro _ _ _ _ _ _; (try k_sweep); (try dsimp only); (try k_fold)))
  (k_with "call builtin:len" => (k_here; with_unfolding_all refine' len_of ?z9hm ?z9N ?z9hb ?_; (case z9N => k_asm); (case z9hm => k_mem); (case z9hb => first | omega | decide)))
  (k_with "call builtin:list.append" => (k_here; with_unfolding_all refine' append_of ?z9F ?z9N ?z9U ?z9z ?_; (case z9F => k_asm); (case z9N => k_asm); (case z9U => intro n'; k_upd); (case z9z => first | with_reducible assumption | decide | omega); intro h9 n9 F9 N9; (try simp only [List.cons_append, List.nil_append] at N9); revert h9 n9 F9 N9; intro _ _ _ _; (try dsimp only); (try k_fold)))
  (k_with "exec For Name Call cons nil" => (k_here; with_unfolding_all refine' for_startF ?z9lF ?z9k1 ?z9k2 ?_; (case z9lF => assumption); (case z9k1 => exact rfl); (case z9k2 => exact rfl)))
  (k_with "gr" => exact GridObj.mono (by assumption) (fun p9 h9 => by k_mem))
  (k_with "call ref" => (k_here; with_unfolding_all refine' Spec.go ?z9uB ?z9uF ?z9uX ?z9uN ?z9uT ?z9uk ?_; (case z9uB => k_asm); (case z9uF => k_asm); (case z9uX => k_asm); (case z9uN => k_asm); (case z9uT => k_asm); (case z9uk => first | exact rfl | assumption); (first | (refine' Go.tupG (unit_size_spec ?z9pa ?z9pb ?z9pc ?z9pd) ?z9p8 ?z9p9 ?_; (case z9pa => k_extra "fr"); (case z9pb => k_extra "ho"); (case z9pc => assumption); (case z9pd => assumption); (case z9p8 => k_extra "d"); (case z9p9 => k_extra "u"); intro h9 tk9 F9 tl9 ha9 tp9 t9 t9' N9 hm9; revert h9 tk9 F9 tl9 ha9 tp9 t9 t9' N9 hm9; intro _ _ _ _ _ _ _ _ _ _)); (try k_sweep); (try dsimp only); (try k_fold)))
  (k_with "compareOp In str ref" => (k_here; first   | (refine' in_KT true ?z9F ?z9X ?z9l ?z9i ?z9b ?_; (case z9F => k_asm); (case z9X => k_asm); (case z9l => k_is); (case z9i => kde_strs); (case z9b => decide))   | (refine' in_KT false ?z9F ?z9X ?z9l ?z9i ?z9b ?_; (case z9F => k_asm); (case z9X => k_asm); (case z9l => k_is); (case z9i => kde_strs); (case z9b => decide))))
  unfold Spec
  k_fill
  intro dp un gd cn0 cs0 a0 ccd0 cl0 outer A₀ base h₀ L m s Q E B F X N T hk hdp hun hret
  have hf' := hf
  refine via fun X9 hX9 => ?_
  refine FrameObj.elim (hf) fun x dx cl nn vs t1 t2 t3 t4 t5 t6 u1 u2 u3 u4 u6 e9 hx hdx hcl hcs => ?_
  subst e9
  clear hf
  refine hX9 ?_
  clear hX9 X9
  have H : HOk none news := .inl rfl
  have ok0 := ok.len0
  have ok2 := ok.len2
  have okA := ok.a
  have okD := ok.d
  refine wpAny_call ?_
  refine' code_def (binds := [(Str.ofString "frame", .ref x), (Str.ofString "word", .str wd tw)]) ?k1 ?k2 ?k3 ?k4 ?k5 ?kA ?kF ?kK ?k6 ?k7 ?k8 ?k9 ?kB ?_ ?c2 ?c3 ?c4 ?c5
  (case kA => exact rfl); (case kF => exact rfl); (case kK => assumption); (case k1 => k_asm); (case k2 => k_asm); (case k3 => k_asm); (case k4 => k_asm); (case k5 => k_asm); (case k6 => k_is); (case k7 => k_is); (case k8 => ktr_room)
  (case k9 => exact BindsTo.of_eq rfl); (case c5 => decide); (case kB => exact locs rfl); (case c2 => exact rfl); (case c3 => exact rfl); (case c4 => exact rfl)
  intro g' L' h' FG' F' N' B' X' T'
  (try dsimp only)
  (try k_fold)
  cases hw
  all_goals k_steps
  all_goals (refine hret _ _ _ _ (by k_asm) (by k_asm) ⟨by (repeat (first | exact grow_nil | (refine grow_app ?_ (by assumption)) | (refine grow_consL ?_ (by first | assumption | exact allLt_of (by assumption))))), _, rfl, ?_⟩)
  all_goals first
    | (simp only [Bool.not_eq_true', bne_eq_false_iff_eq, ne_eq, Bool.not_eq_false', bne_iff_ne, forall_const, Bool.false_eq_true, false_implies, true_and, and_true]; omega)
    | (simp_all; done)
    | (simp; omega)
    | skip
/-! C12 -/
def CopJ (P : Params) (f : FrameD) (news : Led) (fl : Addr) (i : Nat) (nx : Led) : Prop :=
  ∃ (fvs : List Value) (nf : Nat) (tl : Led), nx = (fl, listOf fvs.toArray nf) :: (tl ++ news) ∧ (∀ q ∈ tl, fl < q.1 ∧ ∀ b ∈ news, b.1 < q.1) ∧ fvs.length = i ∧ ∀ (k : Nat) (v : Value), fvs[k]? = some v → ∃ c, f.cs[k]? = some c ∧ CompObj P tl v c
theorem copied_spec {v : Value} {f : FrameD} (hf : FrameObj w.params news v f) (ok : FrameOk f) :
    Spec 6 w mean mg mb none 197 [v] news (fun r n' => Grow news n' ∧ ∃ l vs nl, r = .ref l ∧ (l, listOf vs.toArray nl) ∈ n' ∧ CompAll w.params n' vs f.cs) := by
  k_with_none
  (k_with "fr0" => exact FrameObj.mono (by assumption) (fun p9 h9 => by (repeat (first | exact h9 | (refine List.mem_append.mpr (Or.inr ?_)) | (refine List.Mem.tail _ ?_)))))
  (k_with "ho0" => exact HOk.mono (by assumption) (fun p9 h9 => by (repeat (first | exact h9 | (refine List.mem_append.mpr (Or.inr ?_)) | (refine List.Mem.tail _ ?_)))))
  (k_with "d" => first | exact roomD hdp rfl | exact roomD0 hdp rfl | ktr_room | omega)
  (k_with "u" => first | exact roomU hun rfl | exact roomU0 hun rfl | ktr_units | omega | (simp only [tc_units, units_deeper]; omega))
  (k_with "eval ListComp" => (k_here; with_unfolding_all refine' comp_start ?z9k1 ?z9k2 ?z9k3 ?_; (case z9k1 => exact rfl); (case z9k2 => exact rfl); (case z9k3 => decide)))
  (k_with "fr" => exact FrameObj.mono (by assumption) (fun p9 h9 => by k_mem))
  (k_with "ho" => exact HOk.mono (by assumption) (fun p9 h9 => by k_mem))
  (k_with "cm" => exact CompAll.mono (by assumption) (fun p9 h9 => by k_mem))
  (k_with "subscriptTail" => (k_here; with_unfolding_all refine' item_of ?z9hm ?z9N ?z9h0 ?z9h1 ?z9hx ?_ ?z9hs; (case z9N => k_asm); (case z9hm => k_mem); (case z9h0 => first | assumption | decide | omega); (case z9h1 => first | with_reducible assumption | decide | omega); (case z9hx => assumption); (case z9hs => with_unfolding_all rfl)))
  (k_with "call type:list" => (k_here; with_unfolding_all refine' copy_of ?z9F ?z9N ?z9hm ?z9hb ?_; (case z9F => k_asm); (case z9N => k_asm); (case z9hm => k_mem); (case z9hb => first | assumption | omega | simp); intro D9 c9 h9 F9 N9 hd9; revert D9 c9 h9 F9 N9 hd9; intro _ _ _ _ _ _; (try k_sweep); (try dsimp only); (try k_fold)))
  (k_with "call builtin:len" => (k_here; with_unfolding_all refine' len_of ?z9hm ?z9N ?z9hb ?_; (case z9N => k_asm); (case z9hm => k_mem); (case z9hb => first | omega | decide)))
  (k_with "call builtin:list.append" => (k_here; with_unfolding_all refine' append_of ?z9F ?z9N ?z9U ?z9z ?_; (case z9F => k_asm); (case z9N => k_asm); (case z9U => intro n'; k_upd); (case z9z => first | with_reducible assumption | decide | omega); intro h9 n9 F9 N9; (try simp only [List.cons_append, List.nil_append] at N9); revert h9 n9 F9 N9; intro _ _ _ _; (try dsimp only); (try k_fold)))
  (k_with "exec For Name Call cons nil" => (k_here; with_unfolding_all refine' for_startF ?z9lF ?z9k1 ?z9k2 ?_; (case z9lF => assumption); (case z9k1 => exact rfl); (case z9k2 => exact rfl)))
  (k_with "gr" => exact GridObj.mono (by assumption) (fun p9 h9 => by k_mem))
  (k_with "exec For Name Attribute cons nil" => (k_here; with_unfolding_all refine' for_startF ?z9lF ?z9k1 ?z9k2 ?_; (case z9lF => assumption); (case z9k1 => exact rfl); (case z9k2 => exact rfl)))
  (k_with "call ref" => (k_here; with_unfolding_all refine' Spec.go ?z9uB ?z9uF ?z9uX ?z9uN ?z9uT ?z9uk ?_; (case z9uB => k_asm); (case z9uF => k_asm); (case z9uX => k_asm); (case z9uN => k_asm); (case z9uT => k_asm); (case z9uk => first | exact rfl | assumption); (first | (refine' Go.own (component_spec) ?z9p8 ?z9p9 ?_; (case z9p8 => k_extra "d"); (case z9p9 => k_extra "u"); intro r9 h9 tk9 F9 tl9 ha9 hc9 N9; revert r9 h9 tk9 F9 tl9 ha9 hc9 N9; intro _ _ _ _ _ _ _ _)); (try k_sweep); (try dsimp only); (try k_fold)))
  unfold Spec
  k_fill
  intro dp un gd cn0 cs0 a0 ccd0 cl0 outer A₀ base h₀ L m s Q E B F X N T hk hdp hun hret
  have hf' := hf
  refine via fun X9 hX9 => ?_
  refine FrameObj.elim (hf) fun x dx cl nn vs t1 t2 t3 t4 t5 t6 u1 u2 u3 u4 u6 e9 hx hdx hcl hcs => ?_
  subst e9
  clear hf
  refine hX9 ?_
  clear hX9 X9
  have ok0 := ok.len0
  have ok2 := ok.len2
  have hvs : vs.length ≤ 2 := by rw [hcs.1]; exact ok.len2
  refine wpAny_call ?_
  refine' code_def (binds := [(Str.ofString "frame", .ref x)]) ?k1 ?k2 ?k3 ?k4 ?k5 ?kA ?kF ?kK ?k6 ?k7 ?k8 ?k9 ?kB ?_ ?c2 ?c3 ?c4 ?c5
  (case kA => exact rfl); (case kF => exact rfl); (case kK => assumption); (case k1 => k_asm); (case k2 => k_asm); (case k3 => k_asm); (case k4 => k_asm); (case k5 => k_asm); (case k6 => k_is); (case k7 => k_is); (case k8 => ktr_room)
  (case k9 => exact BindsTo.of_eq rfl); (case c5 => decide); (case kB => exact locs rfl); (case c2 => exact rfl); (case c3 => exact rfl); (case c4 => exact rfl)
  intro g' L' h' FG' F' N' B' X' T'
  (try dsimp only)
  (try k_fold)
  k_steps
  rename_i tk0 fl hh1 hfl hh2 F1 N1
  refine for_list (by k_mem : (cl, listOf vs.toArray nn) ∈ _) rfl F1 N1 (fun i m nx => Kept ["component"] _ m ∧ CopJ w.params f news fl i nx) ⟨Kept.refl, ⟨[], _, [], rfl, (fun q hq => nomatch hq), rfl, fun k v e => by simp at e⟩⟩ ?turn ?done
  case turn =>
    intro i v h tk own nx m₁ I oI hi hv hJ9 hI hown hIn F1 N1
    refine via fun X9 hX9 => ?_
    obtain ⟨⟨u, rfl⟩, fvs, nf, tl, rfl, htl, hfv, hall⟩ := hJ9
    refine hX9 ?_
    clear hX9 X9
    simp only [List.cons_append, List.nil_append, List.append_assoc] at N1
    refine via fun X9 hX9 => ?_
    refine CompObj.elim (hcs.2 i v hv) fun c hc xc dxc s1 s2 s3 s4 r1 r2 r3 r4 e9 hxc hdxc => ?_
    subst e9
    refine hX9 ?_
    clear hX9 X9
    have sa1 : ∀ p ∈ tl, p.1 ≠ fl := fun p hp => Nat.ne_of_gt (htl p hp).1
    have sa2 : ∀ p ∈ news, p.1 ≠ fl := fun p hp => Nat.ne_of_lt (hfl p hp)
    have sa3 : ∀ p ∈ own, p.1 ≠ fl := fun p hp => by
      rcases hown p hp with e | e
      · rw [e]; exact (hIn _ mem_hd).symm
      · rw [e]; exact Nat.ne_of_lt (hfl _ hcl)
    k_steps
    rename_i r9 hh3 tk3 F3 tl9 ha9 hc9 N3 qk9 ek9 hh4 n4 F4 N4
    refine ⟨rfl, _, _, _, (fl, listOf (fvs ++ [r9]).toArray n4) :: ((tl9 ++ tl) ++ news), rfl, F4, fun p hp => N4 p ?_, fun p hp => ?_, ?_, _, n4, _, rfl, fun q hq => ?_, ?_, fun k v' e => ?_⟩
    · rcases List.mem_append.mp hp with hp | hp
      · rcases List.mem_cons.mp hp with rfl | hp
        · exact mem_r mem_hd
        · rcases List.mem_append.mp hp with hp | hp
          · rcases List.mem_append.mp hp with hp | hp
            · exact mem_l hp
            · exact mem_r (mem_tl (mem_l hp))
          · exact mem_r (mem_tl (mem_r (mem_l hp)))
      · exact mem_r (mem_tl (mem_r (mem_r hp)))
    · rcases List.mem_cons.mp hp with rfl | hp
      · exact hIn (fl, listOf fvs.toArray nf) mem_hd
      · rcases List.mem_append.mp hp with hp | hp
        · rcases List.mem_append.mp hp with hp | hp
          · exact Nat.ne_of_gt (ha9 _ (mem_tl (mem_r (mem_r hI))) _ hp)
          · exact hIn p (mem_tl (mem_l hp))
        · exact hIn p (mem_tl (mem_r hp))
    · exact Kept.step ⟨u, rfl⟩ (by decide)
    · rcases List.mem_append.mp hq with hq | hq
      · exact ⟨ha9 _ mem_hd _ hq, fun b hb => ha9 b (mem_tl (mem_r (mem_l hb))) _ hq⟩
      · exact htl q hq
    · rw [List.length_append, hfv]; rfl
    · by_cases hk : k < i
      · rw [List.getElem?_append_left (by omega)] at e
        obtain ⟨c2, e1, e2⟩ := hall k v' e
        exact ⟨c2, e1, e2.mono fun p hp => mem_r hp⟩
      · have hk2 : k = i := by
          have := (List.getElem?_eq_some_iff.mp e).1
          simp [hfv] at this
          omega
        subst hk2
        rw [List.getElem?_append_right (by omega)] at e
        simp [hfv] at e
        subst e
        exact ⟨c, hc, hc9.mono fun p hp => mem_l hp⟩
  case done =>
    intro h tk m₁ nx hJ9 F1 N1
    refine via fun X9 hX9 => ?_
    obtain ⟨⟨u, rfl⟩, fvs, nf, tl, rfl, htl, hfv, hall⟩ := hJ9
    refine hX9 ?_
    clear hX9 X9
    k_steps
    refine hret _ (((fl, listOf fvs.toArray nf) :: tl) ++ news) _ _ (by k_asm) (by k_asm) ⟨⟨_, rfl, fun q hq p hp => ?_⟩, fl, fvs, nf, rfl, mem_l mem_hd, hfv.trans hcs.1, fun k v' e => ?_⟩
    · rcases List.mem_cons.mp hp with rfl | hp
      · exact hfl q hq
      · exact (htl p hp).2 q hq
    · obtain ⟨c2, e1, e2⟩ := hall k v' e
      exact ⟨c2, e1, e2.mono fun p hp => mem_l (mem_tl hp)⟩
/-! C13 -/
theorem mul_ok2 {a b : Int} (h0 : 0 ≤ a) (h : a < 1000) : IntMulOk a b := PySem.IntMulOk.of_left (PySem.intBits_le_64 (by omega) (by omega))
theorem cropped_frame_spec {v : Value} {f : FrameD} {a d : Int} {ka kb kc kd : Tok} (hf : FrameObj w.params news v f) (ok : FrameOk f) (ha : 1 ≤ a ∧ a ≤ mW f) (hd : 1 ≤ d ∧ d ≤ mH f) :
    Spec 8 w mean mg mb none 204 [v, .int 0 ka, .int 0 kb, .int a kc, .int d kd] news (fun r n' => Grow news n' ∧ ∃ hh ww, FrameObj w.params n' r ⟨hh, ww, f.cs⟩ ∧ hh = min (d * (mD f * 2)) f.height ∧ ww = min (a * (mA f * 2)) f.width) := by
  k_with_none
  (k_with "fr0" => exact FrameObj.mono (by assumption) (fun p9 h9 => by (repeat (first | exact h9 | (refine List.mem_append.mpr (Or.inr ?_)) | (refine List.Mem.tail _ ?_)))))
  (k_with "ho0" => exact HOk.mono (by assumption) (fun p9 h9 => by (repeat (first | exact h9 | (refine List.mem_append.mpr (Or.inr ?_)) | (refine List.Mem.tail _ ?_)))))
  (k_with "d" => first | exact roomD hdp rfl | exact roomD0 hdp rfl | ktr_room | omega)
  (k_with "u" => first | exact roomU hun rfl | exact roomU0 hun rfl | ktr_units | omega | (simp only [tc_units, units_deeper]; omega))
  (k_with "eval ListComp" => (k_here; with_unfolding_all refine' comp_start ?z9k1 ?z9k2 ?z9k3 ?_; (case z9k1 => exact rfl); (case z9k2 => exact rfl); (case z9k3 => decide)))
  (k_with "fr" => exact FrameObj.mono (by assumption) (fun p9 h9 => by k_mem))
  (k_with "ho" => exact HOk.mono (by assumption) (fun p9 h9 => by k_mem))
  (k_with "cm" => exact CompAll.mono (by assumption) (fun p9 h9 => by k_mem))
  (k_with "subscriptTail" => (k_here; with_unfolding_all refine' item_of ?z9hm ?z9N ?z9h0 ?z9h1 ?z9hx ?_ ?z9hs; (case z9N => k_asm); (case z9hm => k_mem); (case z9h0 => first | assumption | decide | omega); (case z9h1 => first | with_reducible assumption | decide | omega); (case z9hx => assumption); (case z9hs => with_unfolding_all rfl)))
  (k_with "call type:list" => (k_here; with_unfolding_all refine' copy_of ?z9F ?z9N ?z9hm ?z9hb ?_; (case z9F => k_asm); (case z9N => k_asm); (case z9hm => k_mem); (case z9hb => first | assumption | omega | simp); intro D9 c9 h9 F9 N9 hd9; revert D9 c9 h9 F9 N9 hd9; intro _ _ _ _ _ _; (try k_sweep); (try dsimp only); (try k_fold)))
  (k_with "call builtin:len" => (k_here; with_unfolding_all refine' len_of ?z9hm ?z9N ?z9hb ?_; (case z9N => k_asm); (case z9hm => k_mem); (case z9hb => first | omega | decide)))
  (k_with "call builtin:list.append" => (k_here; with_unfolding_all refine' append_of ?z9F ?z9N ?z9U ?z9z ?_; (case z9F => k_asm); (case z9N => k_asm); (case z9U => intro n'; k_upd); (case z9z => first | with_reducible assumption | decide | omega); intro h9 n9 F9 N9; (try simp only [List.cons_append, List.nil_append] at N9); revert h9 n9 F9 N9; intro _ _ _ _; (try dsimp only); (try k_fold)))
  (k_with "exec For Name Call cons nil" => (k_here; with_unfolding_all refine' for_startF ?z9lF ?z9k1 ?z9k2 ?_; (case z9lF => assumption); (case z9k1 => exact rfl); (case z9k2 => exact rfl)))
  (k_with "gr" => exact GridObj.mono (by assumption) (fun p9 h9 => by k_mem))
  (k_with "binaryOp Mult int int" => (k_here; with_unfolding_all refine PyProof.Rows.mul_int ?_ (mul_ok2 (by first | with_reducible assumption | omega) (by first | with_reducible assumption | omega))))
  (k_with "call ref" => (k_here; with_unfolding_all refine' Spec.go ?z9uB ?z9uF ?z9uX ?z9uN ?z9uT ?z9uk ?_; (case z9uB => k_asm); (case z9uF => k_asm); (case z9uX => k_asm); (case z9uN => k_asm); (case z9uT => k_asm); (case z9uk => first | exact rfl | assumption); (first | (refine' Go.tupG (unit_size_spec ?z9pa ?z9pb ?z9pc ?z9pd) ?z9p8 ?z9p9 ?_; (case z9pa => k_extra "fr"); (case z9pb => k_extra "ho"); (case z9pc => assumption); (case z9pd => assumption); (case z9p8 => k_extra "d"); (case z9p9 => k_extra "u"); intro h9 tk9 F9 tl9 ha9 tp9 t9 t9' N9 hm9; revert h9 tk9 F9 tl9 ha9 tp9 t9 t9' N9 hm9; intro _ _ _ _ _ _ _ _ _ _) | (refine' Go.intG (mcus_across_spec ?z9pa ?z9pb ?z9pc ?z9pd ?z9pe) ?z9p8 ?z9p9 ?_; (case z9pa => k_extra "fr"); (case z9pb => k_extra "ho"); (case z9pc => assumption); (case z9pd => assumption); (case z9pe => assumption); (case z9p8 => k_extra "d"); (case z9p9 => k_extra "u"); intro h9 tk9 F9 tl9 ha9 t9 N9; revert h9 tk9 F9 tl9 ha9 t9 N9; intro _ _ _ _ _ _ _) | (refine' Go.intG (mcus_down_spec ?z9pa ?z9pb ?z9pc ?z9pd ?z9pe) ?z9p8 ?z9p9 ?_; (case z9pa => k_extra "fr"); (case z9pb => k_extra "ho"); (case z9pc => assumption); (case z9pd => assumption); (case z9pe => assumption); (case z9p8 => k_extra "d"); (case z9p9 => k_extra "u"); intro h9 tk9 F9 tl9 ha9 t9 N9; revert h9 tk9 F9 tl9 ha9 t9 N9; intro _ _ _ _ _ _ _) | (refine' Go.lstG (copied_spec ?z9pa ?z9pb) ?z9p8 ?z9p9 ?_; (case z9pa => k_extra "fr"); (case z9pb => assumption); (case z9p8 => k_extra "d"); (case z9p9 => k_extra "u"); intro h9 tk9 F9 tl9 ha9 l9 vs9 nl9 N9 hm9 hc9; revert h9 tk9 F9 tl9 ha9 l9 vs9 nl9 N9 hm9 hc9; intro _ _ _ _ _ _ _ _ _ _ _) | (refine' Go.objG (frame_spec ?z9pa ?z9pb) ?z9p8 ?z9p9 ?_; (case z9pa => k_mem); (case z9pb => k_extra "cm"); (case z9p8 => k_extra "d"); (case z9p9 => k_extra "u"); intro r9 h9 tk9 F9 tl9 ha9 N9 hf9; revert r9 h9 tk9 F9 tl9 ha9 N9 hf9; intro _ _ _ _ _ _ _ _)); (try k_sweep); (try dsimp only); (try k_fold)))
  (k_with "compareOp Lt int int" => (k_here; refine lt_int ?_; rw [decide_eq_true (by omega)]))
  (k_with "compareOp LtE int int" => (k_here; refine le_int ?_; rw [decide_eq_true (by omega)]))
  (k_with "compareOp GtE int int" => (k_here; refine ge_int ?_; rw [decide_eq_true (by omega)]))
  unfold Spec
  k_fill
  intro dp un gd cn0 cs0 a0 ccd0 cl0 outer A₀ base h₀ L m s Q E B F X N T hk hdp hun hret
  have hf' := hf
  refine via fun X9 hX9 => ?_
  refine FrameObj.elim (hf) fun x dx cl nn vs t1 t2 t3 t4 t5 t6 u1 u2 u3 u4 u6 e9 hx hdx hcl hcs => ?_
  subst e9
  clear hf
  refine hX9 ?_
  clear hX9 X9
  have H : HOk none news := .inl rfl
  have ok0 := ok.len0
  have ok2 := ok.len2
  have okA := ok.a
  have okD := ok.d
  have okW : 1 ≤ (f.width + 2 * mA f - 1) / (2 * mA f) ∧ (f.width + 2 * mA f - 1) / (2 * mA f) ≤ 2 := ok.mw
  have okH : 1 ≤ (f.height + 2 * mD f - 1) / (2 * mD f) ∧ (f.height + 2 * mD f - 1) / (2 * mD f) ≤ 2 := ok.mh
  have ha2 : a ≤ 2 := by have := ok.mw; omega
  have hd2 : d ≤ 2 := by have := ok.mh; omega
  refine wpAny_call ?_
  refine' code_def (binds := [(Str.ofString "frame", .ref x), (Str.ofString "x", .int 0 ka), (Str.ofString "y", .int 0 kb), (Str.ofString "across", .int a kc), (Str.ofString "down", .int d kd)]) ?k1 ?k2 ?k3 ?k4 ?k5 ?kA ?kF ?kK ?k6 ?k7 ?k8 ?k9 ?kB ?_ ?c2 ?c3 ?c4 ?c5
  (case kA => exact rfl); (case kF => exact rfl); (case kK => assumption); (case k1 => k_asm); (case k2 => k_asm); (case k3 => k_asm); (case k4 => k_asm); (case k5 => k_asm); (case k6 => k_is); (case k7 => k_is); (case k8 => ktr_room)
  (case k9 => exact BindsTo.of_eq rfl); (case c5 => decide); (case kB => exact locs rfl); (case c2 => exact rfl); (case c3 => exact rfl); (case c4 => exact rfl)
  intro g' L' h' FG' F' N' B' X' T'
  (try dsimp only)
  (try k_fold)
  k_steps
  refine hret _ _ _ _ (by k_asm) (by k_asm) ⟨by (repeat (first | exact grow_nil | (refine grow_app ?_ (by assumption)) | (refine grow_consL ?_ (by first | assumption | exact allLt_of (by assumption))))), _, _, by assumption, ?_, ?_⟩
  all_goals (simp only [Int.zero_mul, Int.sub_zero]; (try split) <;> omega)
/-! C14 -/
theorem flat_inj {rs : List (List Addr)} (hn : rs.flatten.Nodup) : ∀ {k k' : Nat} {as as' : List Addr} {y y' : Nat} {a : Addr}, rs[k]? = some as → as[y]? = some a → rs[k']? = some as' → as'[y']? = some a → k = k' ∧ y = y' := by
  induction rs with
  | nil => intro k k' as as' y y' a h; simp at h
  | cons l rs ih =>
    rw [List.flatten_cons, List.nodup_append] at hn
    obtain ⟨h1, h2, h3⟩ := hn
    intro k k' as as' y y' a e1 e2 e3 e4
    cases k with
    | zero =>
      cases k' with
      | zero =>
        simp at e1 e3
        subst e1
        subst e3
        obtain ⟨hy, e2'⟩ := List.getElem?_eq_some_iff.mp e2
        obtain ⟨hy', e4'⟩ := List.getElem?_eq_some_iff.mp e4
        refine ⟨rfl, ?_⟩
        have hp := List.pairwise_iff_getElem.mp h1
        rcases Nat.lt_trichotomy y y' with hlt | rfl | hlt
        · exact absurd (e2'.trans e4'.symm) (hp y y' hy hy' hlt)
        · rfl
        · exact absurd (e4'.trans e2'.symm) (hp y' y hy' hy hlt)
      | succ k' =>
        simp at e1 e3
        subst e1
        exact absurd rfl (h3 a (List.mem_of_getElem? e2) a (List.mem_flatten.mpr ⟨as', List.mem_of_getElem? e3, List.mem_of_getElem? e4⟩))
    | succ k =>
      cases k' with
      | zero =>
        simp at e1 e3
        subst e3
        exact absurd rfl (h3 a (List.mem_of_getElem? e4) a (List.mem_flatten.mpr ⟨as, List.mem_of_getElem? e1, List.mem_of_getElem? e2⟩))
      | succ k' =>
        simp at e1 e3
        obtain ⟨q1, q2⟩ := ih h2 e1 e2 e3 e4
        exact ⟨by rw [q1], q2⟩
/-- a cell that holds the block of G at its place -/
def FilledG (G : Nat → Nat → Nat → List Int) (R : Rows) (rest : Led) (k y x : Nat) : Prop := ∃ as ra u, R.rs[k]? = some as ∧ as[y]? = some ra ∧ (R.c ra)[x]? = some u ∧ DatIn rest u (blkD (G k y x))
theorem FilledG.put {G : Nat → Nat → Nat → List Int} {R : Rows} {rest : Led} {k y x k' y' x' : Nat} {as : List Addr} {ra d : Addr} {o : Obj} (hn : R.rs.flatten.Nodup) (h : FilledG G R rest k y x) (hk : R.rs[k']? = some as) (hy : as[y']? = some ra) (hne : ¬ (k = k' ∧ y = y' ∧ x = x')) :
    FilledG G (R.put ra x' (.ref d)) ((d, o) :: rest) k y x := by
  obtain ⟨as1, ra', u, h1, h2, h3, h4⟩ := h
  refine ⟨as1, ra', u, h1, h2, ?_, h4.mono fun p hp => mem_tl hp⟩
  by_cases e : ra' = ra
  · subst e
    obtain ⟨q1, q2⟩ := flat_inj hn h1 h2 hk hy
    simp only [Rows.put, if_pos]
    rw [List.getElem?_set_ne (fun e => hne ⟨q1, q2, e.symm⟩)]
    exact h3
  · simp only [Rows.put, if_neg e]; exact h3
theorem FilledG.new {G : Nat → Nat → Nat → List Int} {R : Rows} {rest : Led} {k y x : Nat} {as : List Addr} {ra d : Addr} {bvs : List Value} {c : Nat} (hk : R.rs[k]? = some as) (hy : as[y]? = some ra) (hx : x < (R.c ra).length) (hb : DatAll rest bvs ((G k y x).map Dat.int)) :
    FilledG G (R.put ra x (.ref d)) ((d, listOf bvs.toArray c) :: rest) k y x := by
  refine ⟨as, ra, .ref d, hk, hy, ?_, .list mem_hd (datAll_ints hb)⟩
  simp only [Rows.put, if_pos]
  rw [List.getElem?_set_self hx]
def CropSt (f : FrameD) (G : Nat → Nat → Nat → List Int) (Z : Led) (rs : List (List Addr)) (D : Nat → Nat → Nat → Prop) (nx : Led) : Prop :=
  ∃ (R : Rows) (tl : Led), nx = R.led ++ (tl ++ Z) ∧ R.rs = rs ∧ (∀ q ∈ tl, q.1 ∉ rs.flatten ∧ ∀ p ∈ Z, q.1 ≠ p.1) ∧ Shape f R ∧ ∀ k y x, D k y x → FilledG G R tl k y x
theorem crop_of {P : Params} {Z tl : Led} {v : Value} {R : Rows} {f : FrameD} {G : Nat → Nat → Nat → List Int} (hm : MGrid P Z v R) (hsh : Shape f R) (hD : ∀ k y x, InB f k y x → FilledG G R tl k y x) : GridObj P (R.led ++ (tl ++ Z)) v f G := by
  refine ⟨R, hm.mono fun p hp => mem_r (mem_r hp), fun a ha => mem_l (Rows.mem ha), hsh.1, fun k c hk => ?_⟩
  obtain ⟨as, h1, h2, h3⟩ := hsh.2 k c hk
  refine ⟨as, h1, h2, fun y a ha => ⟨h3 a (List.mem_of_getElem? ha), fun x u hu => ?_⟩⟩
  have hx := (List.getElem?_eq_some_iff.mp hu).1
  have hy := (List.getElem?_eq_some_iff.mp ha).1
  have hl := h3 a (List.mem_of_getElem? ha)
  obtain ⟨as', ra, u', e1, e2, e3, e4⟩ := hD k y x ⟨c, hk, by omega, by omega⟩
  rw [h1] at e1
  cases e1
  rw [ha] at e2
  cases e2
  rw [hu] at e3
  cases e3
  exact e4.mono fun p hp => mem_r (mem_l hp)
theorem crop_put {h₀ h : Heap} {L d ra : Addr} {R : Rows} {x c : Nat} {bvs : List Value} {news tl Z own : Led}
    (N : News h₀ L h ((R.put ra x (.ref d)).led ++ ((d, listOf bvs.toArray c) :: news.filter (fun q => decide (q.1 ∉ R.rs.flatten)))))
    (hn : ∀ p ∈ tl ++ (Z ++ own), p ∈ news ∧ p.1 ∉ R.rs.flatten) :
    News h₀ L h (((R.put ra x (.ref d)).led ++ (((d, listOf bvs.toArray c) :: tl) ++ Z)) ++ own) := fun p hp => by
  have up : ∀ p ∈ tl ++ (Z ++ own), p ∈ (R.put ra x (.ref d)).led ++ ((d, listOf bvs.toArray c) :: news.filter (fun q => decide (q.1 ∉ R.rs.flatten))) := fun p hp => mem_r (mem_tl (List.mem_filter.mpr ⟨(hn p hp).1, decide_eq_true (hn p hp).2⟩))
  rcases List.mem_append.mp hp with hp | hp
  · rcases List.mem_append.mp hp with hp | hp
    · exact N _ (mem_l hp)
    · rcases List.mem_append.mp hp with hp | hp
      · rcases List.mem_cons.mp hp with rfl | hp
        · exact N _ (mem_r mem_hd)
        · exact N _ (up _ (mem_l hp))
      · exact N _ (up _ (mem_r (mem_l hp)))
  · exact N _ (up _ (mem_r (mem_r hp)))
/-! C15 -/
theorem Kept.trans {st st' : List Str} {m₀ m m' : Str → Option Value} (h : Kept st' m₀ m) (h' : Kept st m m') (hs : ∀ y ∈ st, st'.contains y = true) : Kept st' m₀ m' := by
  obtain ⟨u, rfl⟩ := h'
  obtain ⟨u', rfl⟩ := h
  refine ⟨fun z => if st.contains z then u z else u' z, ?_⟩
  funext z
  by_cases e : st.contains z = true
  · have := hs z (by simpa using e)
    dsimp only
    rw [if_pos e, if_pos this, if_pos e]
  · dsimp only
    rw [if_neg e, if_neg e]
theorem cropped_grid_spec {v gv : Value} {f f' : FrameD} {G : Nat → Nat → Nat → List Int} {a d : Int} {ka kb kc kd : Tok} (hg : GridObj w.params news gv f G) (hG4 : ∀ k y x, (G k y x).length = 4) (hf : FrameObj w.params news v f) (ok : FrameOk f) (ha : 1 ≤ a ∧ a ≤ mW f) (hd : 1 ≤ d ∧ d ≤ mH f)
    (he : f' = ⟨min (d * (mD f * 2)) f.height, min (a * (mA f * 2)) f.width, f.cs⟩) (ok' : FrameOk f') (hw' : mW f' ≤ mW f) (hh' : mH f' ≤ mH f) :
    Spec 12 w mean mg mb none 211 [gv, v, .int 0 ka, .int 0 kb, .int a kc, .int d kd] news (fun r n' => (∀ p ∈ news, p ∈ n') ∧ ∃ tp lv gv', r = .ref tp ∧ (tp, tupOf #[lv, gv']) ∈ n' ∧ FrameObj w.params n' lv f' ∧ GridObj w.params n' gv' f' G) := by
  k_with_none
  (k_with "fr0" => exact FrameObj.mono (by assumption) (fun p9 h9 => by (repeat (first | exact h9 | (refine List.mem_append.mpr (Or.inr ?_)) | (refine List.Mem.tail _ ?_)))))
  (k_with "ho0" => exact HOk.mono (by assumption) (fun p9 h9 => by (repeat (first | exact h9 | (refine List.mem_append.mpr (Or.inr ?_)) | (refine List.Mem.tail _ ?_)))))
  (k_with "d" => first | exact roomD hdp rfl | exact roomD0 hdp rfl | ktr_room | omega)
  (k_with "u" => first | exact roomU hun rfl | exact roomU0 hun rfl | ktr_units | omega | (simp only [tc_units, units_deeper]; omega))
  (k_with "eval ListComp" => (k_here; with_unfolding_all refine' comp_start ?z9k1 ?z9k2 ?z9k3 ?_; (case z9k1 => exact rfl); (case z9k2 => exact rfl); (case z9k3 => decide)))
  (k_with "fr" => exact FrameObj.mono (by assumption) (fun p9 h9 => by k_mem))
  (k_with "ho" => exact HOk.mono (by assumption) (fun p9 h9 => by k_mem))
  (k_with "cm" => exact CompAll.mono (by assumption) (fun p9 h9 => by k_mem))
  (k_with "subscriptTail" => (k_here; with_unfolding_all refine' item_of ?z9hm ?z9N ?z9h0 ?z9h1 ?z9hx ?_ ?z9hs; (case z9N => k_asm); (case z9hm => k_mem); (case z9h0 => first | assumption | decide | omega); (case z9h1 => first | with_reducible assumption | decide | omega); (case z9hx => assumption); (case z9hs => with_unfolding_all rfl)))
  (k_with "call type:list" => (k_here; with_unfolding_all refine' copy_of ?z9F ?z9N ?z9hm ?z9hb ?_; (case z9F => k_asm); (case z9N => k_asm); (case z9hm => k_mem); (case z9hb => first | assumption | omega | simp); intro D9 c9 h9 F9 N9 hd9; revert D9 c9 h9 F9 N9 hd9; intro _ _ _ _ _ _; (try k_sweep); (try dsimp only); (try k_fold)))
  (k_with "call builtin:len" => (k_here; with_unfolding_all refine' len_of ?z9hm ?z9N ?z9hb ?_; (case z9N => k_asm); (case z9hm => k_mem); (case z9hb => first | omega | decide)))
  (k_with "call builtin:list.append" => (k_here; with_unfolding_all refine' append_of ?z9F ?z9N ?z9U ?z9z ?_; (case z9F => k_asm); (case z9N => k_asm); (case z9U => intro n'; k_upd); (case z9z => first | with_reducible assumption | decide | omega); intro h9 n9 F9 N9; (try simp only [List.cons_append, List.nil_append] at N9); revert h9 n9 F9 N9; intro _ _ _ _; (try dsimp only); (try k_fold)))
  (k_with "exec For Name Call cons nil" => (k_here; with_unfolding_all refine' for_startF ?z9lF ?z9k1 ?z9k2 ?_; (case z9lF => assumption); (case z9k1 => exact rfl); (case z9k2 => exact rfl)))
  (k_with "gr" => exact GridObj.mono (by assumption) (fun p9 h9 => by k_mem))
  (k_with "binaryOp Mult int int" => (k_here; with_unfolding_all refine PyProof.Rows.mul_int ?_ (mul_ok2 (by first | with_reducible assumption | omega) (by first | with_reducible assumption | omega))))
  (k_with "call ref" => (k_here; with_unfolding_all refine' Spec.go ?z9uB ?z9uF ?z9uX ?z9uN ?z9uT ?z9uk ?_; (case z9uB => k_asm); (case z9uF => k_asm); (case z9uX => k_asm); (case z9uN => k_asm); (case z9uT => k_asm); (case z9uk => first | exact rfl | assumption); (first | (refine' Go.tupG (padded_spec ?z9pa ?z9pb ?z9pc ?z9pd ?z9pe ?z9pf ?z9pg ?z9ph ?z9pi ?z9pj ?z9pk) ?z9p8 ?z9p9 ?_; (case z9pa => k_extra "fr"); (case z9pb => exact (.inl rfl)); (case z9pc => assumption); (case z9pd => assumption); (case z9pe => assumption); (case z9pf => assumption); (case z9pg => first | with_reducible assumption | decide | omega); (case z9ph => first | with_reducible assumption | decide | omega); (case z9pi => assumption); (case z9pj => first | with_reducible assumption | decide | omega); (case z9pk => first | with_reducible assumption | decide | omega); (case z9p8 => k_extra "d"); (case z9p9 => k_extra "u"); intro h9 tk9 F9 tl9 ha9 tp9 t9 t9' N9 hm9; (try (rename mW _ * _ = _ => q9; rename mH _ * _ = _ => q8; rw [q9, q8] at hm9)); revert h9 tk9 F9 tl9 ha9 tp9 t9 t9' N9 hm9; intro _ _ _ _ _ _ _ _ _ _) | (refine' Go.frm (cropped_frame_spec ?z9pa ?z9pb ?z9pc ?z9pd) ?z9p8 ?z9p9 ?_; (case z9pa => k_extra "fr"); (case z9pb => assumption); (case z9pc => assumption); (case z9pd => assumption); (case z9p8 => k_extra "d"); (case z9p9 => k_extra "u"); intro r9 h9 tk9 F9 tl9 ha9 N9 hf9; revert r9 h9 tk9 F9 tl9 ha9 N9 hf9; intro _ _ _ _ _ _ _ _) | (refine' Go.blk (get_spec ?z9pa ?z9pb ?z9pc ?z9pd ?z9pe ?z9pf ?z9pg ?z9ph ?z9pi ?z9pj) ?z9p7 ?z9p8 ?z9p9 ?_; (case z9pa => (first | assumption | k_extra "gr")); (case z9pb => assumption); (case z9pc => first | with_reducible assumption | decide | omega); (case z9pd => first | with_reducible assumption | decide | omega); (case z9pe => first | with_reducible assumption | decide | omega); (case z9pf => first | with_reducible assumption | decide | omega); (case z9pg => first | with_reducible assumption | decide | omega); (case z9ph => first | with_reducible assumption | decide | omega); (case z9pi => first | with_reducible assumption | decide | omega); (case z9pj => first | with_reducible assumption | decide | omega); (case z9p7 => solve_by_elim); (case z9p8 => k_extra "d"); (case z9p9 => k_extra "u"); intro h9 tk9 F9 N9 b9 bvs9 nb9 hb9 hd9 hl9 hD9; revert h9 tk9 F9 N9 b9 bvs9 nb9 hb9 hd9 hl9 hD9; intro _ _ _ _ _ _ _ _ _ _ _)); (try k_sweep); (try dsimp only); (try k_fold)))
  unfold Spec
  k_fill
  intro dp un gd cn0 cs0 a0 ccd0 cl0 outer A₀ base h₀ L m s Q E B F X N T hk hdp hun hret
  have hf0 := hf
  have hg0 := hg
  refine via fun X9 hX9 => ?_
  refine FrameObj.elim (hf) fun x dx cl nn vs t1 t2 t3 t4 t5 t6 u1 u2 u3 u4 u6 e9 hx hdx hcl hcs => ?_
  subst e9
  clear hf
  obtain ⟨R, ⟨gx, gd, pa, gnn, gvs, gt1, gt2, gu1, rfl, hgx, hgd, _⟩, _⟩ := hg
  refine hX9 ?_
  clear hX9 X9
  have hvs : vs.length ≤ 2 := by rw [hcs.1]; exact ok.len2
  refine wpAny_call ?_
  refine' code_def (binds := [(Str.ofString "grid", .ref gx), (Str.ofString "frame", .ref x), (Str.ofString "x", .int 0 ka), (Str.ofString "y", .int 0 kb), (Str.ofString "across", .int a kc), (Str.ofString "down", .int d kd)]) ?k1 ?k2 ?k3 ?k4 ?k5 ?kA ?kF ?kK ?k6 ?k7 ?k8 ?k9 ?kB ?_ ?c2 ?c3 ?c4 ?c5
  (case kA => exact rfl); (case kF => exact rfl); (case kK => assumption); (case k1 => k_asm); (case k2 => k_asm); (case k3 => k_asm); (case k4 => k_asm); (case k5 => k_asm); (case k6 => k_is); (case k7 => k_is); (case k8 => ktr_room)
  (case k9 => exact BindsTo.of_eq rfl); (case c5 => decide); (case kB => exact locs rfl); (case c2 => exact rfl); (case c3 => exact rfl); (case c4 => exact rfl)
  intro g' L' h' FG' F' N' B' X' T'
  (try dsimp only)
  (try k_fold)
  k_steps
  rename Fr _ _ _ _ => F1
  rename News _ _ _ _ => N1
  rename_i tk0 lv hh9 tkk9 tl9 ha9 hf9 hhA
  have hf9' : FrameObj w.params (tl9 ++ news) lv f' := by rw [he]; exact hf9
  (k_here; with_unfolding_all refine' Spec.use (grid_spec ?up0 ?up1) ?uB ?uF ?uX ?uN ?uT ?uk ?ud ?uu ?_; (case uB => k_asm); (case uF => k_asm); (case uX => k_asm); (case uN => k_asm); (case uT => k_asm); (case uk => first | exact rfl | assumption); (case up0 => exact hf9'); (case up1 => exact ok'); (case ud => first | ktr_room | omega); (case uu => first | ktr_units | omega | (simp only [tc_units, units_deeper]; omega)); intro r9 n9 h9 tk9 F9 N9 hp9; obtain ⟨R1, Z, e9, hs9, hmg, hsep, hnd, hl, hsh⟩ := hp9; subst e9; (have hmg' := hmg); (obtain ⟨gx1, gd1, pa1, nn1, vs1, t91, t92, u91, ev9, hgx1, hgd1, hpa1, _⟩ := hmg); subst ev9; (try k_sweep); (try dsimp only); (try k_fold))
  have hsZ : ∀ p ∈ news, p ∈ Z := fun p hp => hs9 p (mem_r hp)
  have hfZ : FrameObj w.params Z (.ref x) f := hf0.mono hsZ
  have hfZ' : FrameObj w.params Z lv f' := hf9'.mono hs9
  have hgZ : GridObj w.params Z (.ref gx) f G := hg0.mono hsZ
  have hxZ := hsZ _ hx
  have hdxZ := hsZ _ hdx
  have hclZ := hsZ _ hcl
  have hgxZ := hsZ _ hgx
  have hgdZ := hsZ _ hgd
  have hfZ2 := hfZ'
  refine via fun X9 hX9 => ?_
  refine FrameObj.elim (hfZ2) fun x' dx' cl' nn' vs' t1' t2' t3' t4' t5' t6' u1' u2' u3' u4' u6' e9 hx' hdx' hcl' hcs' => ?_
  subst e9
  clear hfZ2
  refine hX9 ?_
  clear hX9 X9
  have ecs : f'.cs = f.cs := by rw [he]
  have ok0 := ok'.len0
  have ok2 := ok'.len2
  have okA := ok'.a
  have okD := ok'.d
  clear hf9 hf9' hs9
  k_steps
  rename_i hr F1 N1 _
  refine for_range hr (n := vs.length) (hf := []) (range_small (by omega)) (range_sz _) (.inl ⟨rfl, rfl⟩) F1 N1 (fun b hb => nomatch hb) (fun i m nx => Kept ["place", "component", "left", "top", "wide", "high", "row", "column"] _ m ∧ CropSt f' G Z R1.rs (fun k y x => k < i ∧ InB f' k y x) nx)
    ⟨Kept.refl, ⟨R1, [], rfl, rfl, fun q hq => (nomatch hq), ⟨hl, hsh⟩, fun k y x hk => absurd hk.1 (Nat.not_lt_zero _)⟩⟩ ?turn ?done
  case turn =>
    intro i t h tk own nx m₁ I oI hi hJ9 hI hown hIn F1 N1
    refine via fun X9 hX9 => ?_
    obtain ⟨⟨u, rfl⟩, R2, tl2, rfl, hRe, htl, hsh2, hD⟩ := hJ9
    refine hX9 ?_
    clear hX9 X9
    simp only [List.cons_append, List.nil_append, List.append_assoc] at N1
    have e0 : ((0 : Int) + (i : Nat)).toNat = i := by omega
    have hi2 : (0:Int) + (i:Nat) < 2 := by omega
    refine via fun X9 hX9 => ?_
    obtain ⟨c, hcf⟩ : ∃ c, f.cs[((0:Int) + (i:Nat)).toNat]? = some c := ⟨_, List.getElem?_eq_getElem (by rw [hcs.1] at hi; omega)⟩
    refine hX9 ?_
    clear hX9 X9
    have hc : f'.cs[((0:Int) + (i:Nat)).toNat]? = some c := by rw [ecs]; exact hcf
    have hca := ok.acr c (List.mem_of_getElem? hcf)
    have hcd := ok.dwn c (List.mem_of_getElem? hcf)
    have hpw := ok'.pw (List.mem_of_getElem? hc)
    have hph := ok'.ph (List.mem_of_getElem? hc)
    refine via fun X9 hX9 => ?_
    refine CompObj.elim' (hcs.at' hcf) fun cv hcv xc dxc s1 s2 s3 s4 r1 r2 r3 r4 e9 hxc hdxc => ?_
    subst e9
    refine hX9 ?_
    clear hX9 X9
    have hxcZ := hsZ _ hxc
    have hdxcZ := hsZ _ hdxc
    refine via fun X9 hX9 => ?_
    obtain ⟨H, hH⟩ : ∃ H : Nat, mH f' * c.down = (H : Int) := ⟨(pH f' c).toNat, (Int.toNat_of_nonneg (Int.le_trans (by decide) hph.1)).symm⟩
    obtain ⟨W, hW⟩ : ∃ W : Nat, mW f' * c.across = (W : Int) := ⟨(pW f' c).toNat, (Int.toNat_of_nonneg (Int.le_trans (by decide) hpw.1)).symm⟩
    refine hX9 ?_
    clear hX9 X9
    have hW1 : 1 ≤ W ∧ W ≤ 4 := by rw [pW, hW] at hpw; omega
    have hH1 : 1 ≤ H ∧ H ≤ 4 := by rw [pH, hH] at hph; omega
    have hWf : (W : Int) ≤ pW f c := by rw [← hW]; exact Int.mul_le_mul_of_nonneg_right hw' (by omega)
    have hHf : (H : Int) ≤ pH f c := by rw [← hH]; exact Int.mul_le_mul_of_nonneg_right hh' (by omega)
    have how : ∀ q ∈ own, q.1 = I := fun q hq => (hown q hq).elim id fun h => nomatch h
    have hIf : I ∉ R1.rs.flatten := fun hm => by
      rw [← hRe] at hm
      exact hIn _ (mem_l (Rows.mem hm)) rfl
    have hW' := hW
    have hH' := hH
    k_steps
    rename_i hr2 F2 N2 _
    have N3 : News g' L' _ (R2.led ++ (tl2 ++ (Z ++ own))) := fun p hp => N2 p (mem_r (mem_tl hp))
    have hZ2 : ∀ q ∈ Z ++ own, q.1 ∉ R1.rs.flatten := fun q hq => (List.mem_append.mp hq).elim (hsep q) fun hq => by rw [how q hq]; exact hIf
    refine for_range hr2 (n := H) (hf := []) (range_small (by omega)) (range_sz _) (.inl ⟨rfl, rfl⟩) F2 N3 (fun b hb => nomatch hb) (fun j m nx => Kept ["row", "column"] _ m ∧ CropSt f' G (Z ++ own) R1.rs (fun k y x => InB f' k y x ∧ (k < i ∨ (k = i ∧ y < j))) nx)
      ⟨Kept.refl, ⟨R2, tl2, rfl, hRe, fun q hq => ⟨(htl q hq).1, fun p hp => (List.mem_append.mp hp).elim ((htl q hq).2 p) fun hp => by rw [how p hp]; exact hIn q (mem_r (mem_l hq))⟩, hsh2, ?_⟩⟩ ?turn2 ?done2
    · rintro k y x ⟨hb, h1 | ⟨_, h2⟩⟩
      · exact hD _ _ _ ⟨h1, hb⟩
      · exact absurd h2 (Nat.not_lt_zero _)
    case turn2 =>
      intro j tj h2 tk2 own2 nx m₂ I2 oI2 hj hJ9 hI2 hown2 hIn2 F4 N4
      refine via fun X9 hX9 => ?_
      obtain ⟨⟨u2, rfl⟩, R3, tl3, rfl, hRe3, htl3, hsh3, hD3⟩ := hJ9
      refine hX9 ?_
      clear hX9 X9
      simp only [List.cons_append, List.nil_append, List.append_assoc] at N4
      have how2 : ∀ q ∈ own2, q.1 = I2 := fun q hq => (hown2 q hq).elim id fun h => nomatch h
      have hIf2 : I2 ∉ R1.rs.flatten := fun hm => by
        rw [← hRe3] at hm
        exact hIn2 _ (mem_l (Rows.mem hm)) rfl
      k_steps
      rename_i hr3 F5 N5 _
      have hZ3 : ∀ q ∈ (Z ++ own) ++ own2, q.1 ∉ R1.rs.flatten := fun q hq => (List.mem_append.mp hq).elim (hZ2 q) fun hq => by rw [how2 q hq]; exact hIf2
      have N6 : News g' L' _ (R3.led ++ (tl3 ++ ((Z ++ own) ++ own2))) := fun p hp => N5 p (by simpa only [List.append_assoc] using hp)
      refine for_range hr3 (n := W) (hf := []) (range_small (by omega)) (range_sz _) (.inl ⟨rfl, rfl⟩) F5 N6 (fun b hb => nomatch hb) (fun q m nx => Kept ["column"] _ m ∧ CropSt f' G ((Z ++ own) ++ own2) R1.rs (fun k y x => InB f' k y x ∧ (k < i ∨ (k = i ∧ (y < j ∨ (y = j ∧ x < q))))) nx)
        ⟨Kept.refl, ⟨R3, tl3, rfl, hRe3, fun q hq => ⟨(htl3 q hq).1, fun p hp => (List.mem_append.mp hp).elim ((htl3 q hq).2 p) fun hp => by rw [how2 p hp]; exact hIn2 q (mem_r (mem_l hq))⟩, hsh3, ?_⟩⟩ ?turn3 ?done3
      · rintro k y x ⟨hb, h1 | ⟨e1, h1 | ⟨_, h2⟩⟩⟩
        · exact hD3 _ _ _ ⟨hb, .inl h1⟩
        · exact hD3 _ _ _ ⟨hb, .inr ⟨e1, h1⟩⟩
        · exact absurd h2 (Nat.not_lt_zero _)
      case turn3 =>
        intro q tq h3 tk3 own3 nx m₃ I3 oI3 hq hJ9 hI3 hown3 hIn3 F7 N7
        refine via fun X9 hX9 => ?_
        obtain ⟨⟨u3, rfl⟩, R4, tl4, rfl, hRe4, htl4, hsh4, hD4⟩ := hJ9
        refine hX9 ?_
        clear hX9 X9
        simp only [List.cons_append, List.nil_append, List.append_assoc] at N7
        have how3 : ∀ p ∈ own3, p.1 = I3 := fun p hp => (hown3 p hp).elim id fun h => nomatch h
        have hx1' : (0 : Int) * c.across + (0 + (q : Nat)) < pW f c := by omega
        have hy1' : (0 : Int) * c.down + (0 + (j : Nat)) < pH f c := by omega
        refine via fun X9 hX9 => ?_
        obtain ⟨as, has1, has2, has3⟩ := hsh4.2 i c (by rw [← e0]; exact hc)
        refine hX9 ?_
        clear hX9 X9
        have hjl : j < as.length := by rw [pH, hH] at has2; omega
        refine via fun X9 hX9 => ?_
        obtain ⟨ra, hra⟩ : ∃ ra, as[j]? = some ra := ⟨_, List.getElem?_eq_getElem hjl⟩
        refine hX9 ?_
        clear hX9 X9
        have hrl := has3 ra (List.mem_of_getElem? hra)
        rw [pW, hW] at hrl
        have hRf : R4.rs.flatten = R1.rs.flatten := by rw [hRe4]
        k_steps
        rename_i b9 bvs9 nb9 hb9 hd9 hl9 hD9 qk9 ek9 D9 c9 hh3 F9 N9 hlt9
        have e1 : ((0 : Int) + (j : Nat)).toNat = j := by omega
        have e2 : ((0 : Int) + (q : Nat)).toNat = q := by omega
        have e3 : ((0 : Int) * c.down + (0 + (j : Nat))).toNat = j := by omega
        have e4 : ((0 : Int) * c.across + (0 + (q : Nat))).toNat = q := by omega
        rw [e0, e3, e4] at hd9
        refine' Spec.use (put_any (R := R4) (rest := Z) (as := as) (ra := ra) (fun p hp => mem_tl (mem_l hp)) (hmg'.at hRe4) (fun p hp => ⟨mem_tl (mem_r (mem_r (mem_l hp))), by rw [hRf]; exact hsep p hp⟩) ?p1 ?p2 ?p3 ?p4 ?p5 ?p6 ?p7 ?p8 ?p9 mem_hd ?p10 ?p11) ?uB ?uF ?uX N9 ?uT ?uk ?ud ?uu ?_
        case p1 => omega
        case p2 => omega
        case p3 => omega
        case p4 => omega
        case p5 => rw [hrl]; omega
        case p6 => omega
        case p7 => omega
        case p8 => rw [e0]; exact has1
        case p9 => rw [e1]; exact hra
        case p10 => exact fun hm => Nat.lt_irrefl _ (hlt9 (D9, _) (mem_l (Rows.mem hm)))
        case p11 => omega
        case uB => k_asm
        case uF => k_asm
        case uX => k_asm
        case uT => k_asm
        case uk => exact rfl
        case ud => ktr_room
        case uu => ktr_units
        intro r8 n8 h8 tk8 F8 N8 hp8
        refine via fun X9 hX9 => ?_
        obtain ⟨e8, d8, c8, e8', hd8⟩ := hp8
        refine hX9 ?_
        clear hX9 X9
        subst e8 e8'
        rw [e2] at N8
        try dsimp only
        k_steps
        rename Fr _ _ _ _ => FB
        rename News _ _ _ _ => NB
        have hN := crop_put (tl := tl4) (Z := (Z ++ own) ++ own2) (own := own3) NB (fun p hp => by
          rw [List.append_assoc, List.append_assoc] at hp
          refine ⟨mem_tl (mem_r hp), ?_⟩
          rw [hRf]
          rcases List.mem_append.mp hp with hp | hp
          · exact (htl4 p hp).1
          · rcases List.mem_append.mp hp with hp | hp
            · exact hsep p hp
            · rcases List.mem_append.mp hp with hp | hp
              · exact hZ3 p (mem_l (mem_r hp))
              · rcases List.mem_append.mp hp with hp | hp
                · exact hZ3 p (mem_r hp)
                · intro hm
                  rw [how3 p hp, ← hRf] at hm
                  exact hIn3 _ (mem_l (Rows.mem hm)) rfl)
        refine ⟨rfl, _, _, _, _, rfl, FB, hN, ?_, Kept.step ⟨u3, rfl⟩ (by decide), R4.put ra q (.ref d8), _, rfl, hRe4, ?_, hsh4.put, ?_⟩
        · intro p hp
          rcases List.mem_append.mp hp with hp | hp
          · intro e
            have := (Rows.of_mem hp).1
            rw [e] at this
            exact hIn3 _ (mem_l (Rows.mem (R := R4) this)) rfl
          · rcases List.mem_append.mp hp with hp | hp
            · rcases List.mem_cons.mp hp with rfl | hp
              · exact Nat.ne_of_gt (hd8 _ (mem_tl (mem_r (mem_r (mem_r (mem_r (mem_r hI3)))))))
              · exact hIn3 _ (mem_r (mem_l hp))
            · exact hIn3 _ (mem_r (mem_r hp))
        · intro p hp
          rcases List.mem_cons.mp hp with rfl | hp
          · refine ⟨fun hm => ?_, fun p hp => Nat.ne_of_gt (hd8 p (mem_tl (mem_r (mem_r ?_))))⟩
            · rw [← hRf] at hm
              exact Nat.lt_irrefl _ (hd8 _ (mem_tl (mem_l (Rows.mem hm))))
            · rw [List.append_assoc] at hp
              rcases List.mem_append.mp hp with hp | hp
              · exact mem_l hp
              · rcases List.mem_append.mp hp with hp | hp
                · exact mem_r (mem_l hp)
                · exact mem_r (mem_r (mem_l hp))
          · exact htl4 p hp
        · rintro k y x ⟨hb, hk⟩
          by_cases hnew : k = i ∧ y = j ∧ x = q
          · obtain ⟨rfl, rfl, rfl⟩ := hnew
            exact FilledG.new has1 hra (by omega) (datAll_ints hd9)
          · refine FilledG.put (by rw [hRf]; exact hnd) (hD4 _ _ _ ⟨hb, ?_⟩) has1 hra hnew
            first | exact lex_split hk hnew | omega
      case done3 =>
        intro h3 tk3 m₃ nx hJ9 F7 N7
        refine via fun X9 hX9 => ?_
        obtain ⟨hK3, R4, tl4, rfl, hRe4, htl4, hsh4, hD4⟩ := hJ9
        refine hX9 ?_
        clear hX9 X9
        k_steps
        refine ⟨rfl, _, _, _, R4.led ++ (tl4 ++ (Z ++ own)), rfl, F7, fun p hp => N7 p ?_, fun p hp => ?_, Kept.trans (Kept.step ⟨u2, rfl⟩ (by decide)) hK3 (by decide), R4, tl4, rfl, hRe4, fun p hp => ⟨(htl4 p hp).1, fun p' hp' => (htl4 p hp).2 p' (mem_l hp')⟩, hsh4, ?_⟩
        · simpa only [List.append_assoc] using hp
        · rcases List.mem_append.mp hp with hp | hp
          · intro e
            have := (Rows.of_mem hp).1
            rw [hRe4, e] at this
            exact hIf2 this
          · rcases List.mem_append.mp hp with hp | hp
            · exact (htl4 p hp).2 _ (mem_r hI2)
            · exact hIn2 p (mem_r (mem_r hp))
        · rintro k y x ⟨hb, hk⟩
          refine hD4 _ _ _ ⟨hb, ?_⟩
          by_cases hki : k < i
          · exact .inl hki
          · have : k = i := by omega
            subst this
            refine .inr ⟨rfl, ?_⟩
            refine via fun X9 hX9 => ?_
            obtain ⟨c2, hc2, hy2, hx2⟩ := hb
            refine hX9 ?_
            clear hX9 X9
            rw [e0] at hc
            rw [hc] at hc2
            cases hc2
            rw [pW, hW] at hx2
            omega
    case done2 =>
      intro h3 tk3 m₃ nx hJ9 F7 N7
      refine via fun X9 hX9 => ?_
      obtain ⟨hK3, R4, tl4, rfl, hRe4, htl4, hsh4, hD4⟩ := hJ9
      refine hX9 ?_
      clear hX9 X9
      k_steps
      refine ⟨rfl, _, _, _, R4.led ++ (tl4 ++ Z), rfl, F7, fun p hp => N7 p ?_, fun p hp => ?_, Kept.trans (Kept.step (Kept.step (Kept.step (Kept.step (Kept.step (Kept.step ⟨u, rfl⟩ (by decide)) (by decide)) (by decide)) (by decide)) (by decide)) (by decide)) hK3 (by decide), R4, tl4, rfl, hRe4, fun p hp => ⟨(htl4 p hp).1, fun p' hp' => (htl4 p hp).2 p' (mem_l hp')⟩, hsh4, ?_⟩
      · simpa only [List.append_assoc] using hp
      · rcases List.mem_append.mp hp with hp | hp
        · intro e
          have := (Rows.of_mem hp).1
          rw [hRe4, e] at this
          exact hIf this
        · rcases List.mem_append.mp hp with hp | hp
          · exact (htl4 p hp).2 _ (mem_r hI)
          · exact hIn p (mem_r (mem_r hp))
      · rintro k y x ⟨hk, hb⟩
        refine hD4 _ _ _ ⟨hb, ?_⟩
        by_cases hki : k < i
        · exact .inl hki
        · have : k = i := by omega
          subst this
          refine .inr ⟨rfl, ?_⟩
          refine via fun X9 hX9 => ?_
          obtain ⟨c2, hc2, hy2, hx2⟩ := hb
          refine hX9 ?_
          clear hX9 X9
          rw [e0] at hc
          rw [hc] at hc2
          cases hc2
          rw [pH, hH] at hy2
          omega
  case done =>
    intro h tk m₁ nx hJ9 F1 N1
    refine via fun X9 hX9 => ?_
    obtain ⟨⟨u, rfl⟩, R2, tl2, rfl, hRe, htl, hsh2, hD⟩ := hJ9
    refine hX9 ?_
    clear hX9 X9
    k_steps
    refine hret _ _ _ _ (by k_asm) (by k_asm) ⟨fun p hp => mem_tl (mem_r (mem_r (hsZ p hp))), _, _, _, rfl, mem_hd, hfZ'.mono fun p hp => mem_tl (mem_r (mem_r hp)), (crop_of (hmg'.at hRe) hsh2 fun k y x hb => hD _ _ _ ⟨?_, hb⟩).mono fun p hp => mem_tl hp⟩
    obtain ⟨c, hc, _⟩ := hb
    have := (List.getElem?_eq_some_iff.mp hc).1
    rw [ecs] at this
    rw [hcs.1]
    exact this
/-! R1 -/
section
variable {prog : Program} {w : World} {A : Around} {E : Value → Shared → Prop} {s : Shared} {K : Frag} {h₀ h : Heap} {g : Array GenState} {d : Drawn} {t : Nat} {os : OsState} {L : Addr} {m : Str → Option Value} {news : Led}
variable {nm q : Str} {C N : Addr} {bs bm bmB : List Value} {hdct : Bool} {sn : List Str} {sub : List Value} {ab : Bool} {col : Option Bool} {dd : Option Addr} {k0 k1 k2 k3 k5 : Option Value} {B newId initId : String}
abbrev exObj (C t : Addr) : Obj := { cls := .ref C, data := .fields #[.ref t, .none, .none, .none, .bool false, .none] }
/-- an own exception class whose bases hold an own __init__: the call -/
theorem call_exc {rest : List Value} {fI : Addr} {Q : Value → Shared → Prop} (F : Fr h₀ L s.heap m) (X₀ : K.In h₀) (Nw : News h₀ L s.heap news)
    (hK : K.lookup C = some (excClassObj nm q C N bs bm hdct sn sub ab col dd k0 k1 k2 k3 k5 newId)) (FB : ExcBaseFacts B newId initId bmB)
    (hb1 : bm.contains (.type B) = true) (hb2 : bm.contains (.type "AttributeError") = false) (hb3 : bm.contains (.type "NameError") = false)
    (hi : findIn K (.ref C) "__init__" = some (some (.ref fI))) (hf : isFn K (.ref fI) = true) (hrest : rest.length ≤ sizeLine)
    (hq : ∀ e t h', Fr h₀ L h' m → News h₀ L h' ((e, exObj C t) :: (t, tupOf rest.toArray) :: news) → (∀ p ∈ news, p.1 < t) → t < e →
      codeAny (model prog w) (A.under (.builtin "type.__call__" ⟨.ref C :: rest, []⟩)) (.call (.ref fI) ⟨.ref e :: rest, []⟩) (InitBack e fun r s' => match r with | .ok (.ret v) => Q v s' | .ok _ => False | .error e => E e s') { s with heap := h' }) :
    wpAny (model prog w) A (call (.ref C) rest) Q E s := by
  have X := X₀.keeps F.keep
  obtain ⟨h, g, d, t, os⟩ := s
  have hC : h.get? C = some (excClassObj nm q C N bs bm hdct sn sub ab col dd k0 k1 k2 k3 k5 newId) := X _ _ hK
  have f1 := tc_lookup
  have f2 := tc_bind (.ref C)
  have hT : (⟨h, g, d, t, os⟩ : Shared).TypeIs (.ref C) "type" := ⟨_, hC, rfl⟩
  refine wpAny_call (codeAny_of_tree ?_)
  show wpAny _ _ (callAny (.ref C) _) _ _ _
  repeat (any_goals (first | assumption | with_reducible refine wpAny_loadPart_at hC ?_ | wp_step))
  refine ⟨rfl, ?_⟩
  refine codeAny_call_builtin_at (Code.quiet_builtin _ (by decide +kernel)) entry_typeCall (wpAny_check_type_call_sub hC ?_)
  repeat (first | with_reducible refine wpAny_loadPart_at hC ?_ | with_reducible refine wpAny_madeBy_exc hC ?_ | wp_step)
  have hcB : (Value.ref C :: bm).contains (.type B) = true := by rw [List.contains_cons, hb1, Bool.or_true]
  have hcA : (Value.ref C :: bm).contains (.type "AttributeError") = false := by rw [List.contains_cons, hb2]; rfl
  have hcN : (Value.ref C :: bm).contains (.type "NameError") = false := by rw [List.contains_cons, hb3]; rfl
  have hcC : (Value.ref C :: bm).contains (.ref C) = true := by simp
  refine codeAny_call_builtin_code (Code.quiet_builtin _ FB.quiet) ?_
  · have hstar := FB.noStar
    simp only [checkBuiltinCall, FB.newKind, FB.newSplit, FB.newRow]
    repeat (first | refine wpAny_loadPart_at hC ?_ | (refine wpAny_isSubtype_exc hC ?_; rw [hcB]) | refine wpAny_staticBase_exc hC ?_ | refine wpAny_madeBy_exc hC ?_ | simp only [bne_self_eq_false, Bool.false_eq_true, if_false] | wp_step)
    have hends := FB.ends
    refine codeAny_builtinAt FB.entry ?_
    unfold Builtin.«BaseException.__new__»
    refine PySem.wpAt_bind ?_
    show PySem.wpAt _ _ _ (stack >>= _) _ _ _
    refine PySem.wpAt_bind (PySem.wpAt_stack fun p below => PySem.wpAt_of_wpAny ?_)
    wp_walk
    refine PySem.wpAt_of_wpAny ?_
    rw [FB.owner]
    repeat (first | with_reducible refine wpAny_madeHere_exc FB.canon hC ?_ | with_reducible refine wpAny_loadPart_at hC ?_ | (with_reducible refine wpAny_isSubtype_exc hC ?_; first | rw [hcB] | rw [hcA] | rw [hcN]) | wp_step)
    show wpAny _ _ _ _ _ _
    have hk1 : ∀ b o, h.get? b = some o → ((h.push { cls := .type "tuple", data := .seq rest.toArray }).push (exObj C h.objs.size)).get? b = some o := fun b o hb => Heap.get?_push_of_some _ (Heap.get?_push_of_some _ hb)
    have hC₁ := hk1 _ _ hC
    have X₁ := X.keeps hk1
    have N1 := (Nw.push F { cls := .type "tuple", data := .seq rest.toArray }).push (F.push _) (exObj C h.objs.size)
    rw [Heap.size_push] at N1
    have hget := (N1 _ (.head _)).1
    have F1 := (F.push { cls := .type "tuple", data := .seq rest.toArray }).push (exObj C h.objs.size)
    rw [Heap.size_push]
    have L1 := looks_findIn (M := model prog w) X₁ hi
    have L2 := bind_fn (M := model prog w) X₁ (.ref (h.objs.size + 1)) (beq_iff_eq.mp hf)
    have z := hq _ _ _ F1 N1 (fun p hp => Heap.lt_size (Nw p hp).1) (Nat.lt_succ_self _)
    have t1 : Looks (model prog w) ((h.push { cls := .type "tuple", data := .seq rest.toArray }).push (exObj C h.objs.size)) (typeOf (.ref (h.objs.size + 1))) (.ref C) := (Looks.ld hget).andThen .now
    show wpAny _ _ (isSubtype (.ref C) (.ref C)) _ _ ⟨(h.push { cls := .type "tuple", data := .seq rest.toArray }).push (exObj C h.objs.size), g, d, t, os⟩
    refine wpAny_isSubtype_exc hC₁ ?_
    rw [hcC]
    unfold callSpecial? specialOf
    repeat (first | with_reducible refine wpAny_call ?_ | lk)
    refine codeAny_mono z fun r s' z => ?_
    rcases r with e | (v | _ | _ | _) <;> first | exact z | exact z.elim | skip
    obtain ⟨rfl, z⟩ := z
    exact wpAny_pure (wpAny_pure z)
/-- Exception.__init__ on an object of an own class -/
theorem exc_init {e t : Addr} {v : Value} {Q : Value → Shared → Prop} (F : Fr h₀ L s.heap m) (X₀ : K.In h₀) (Nw : News h₀ L s.heap ((e, exObj C t) :: news)) (hne : ∀ p ∈ news, p.1 ≠ e)
    (hK : K.lookup C = some (excClassObj nm q C N bs bm hdct sn sub ab col dd k0 k1 k2 k3 k5 newId)) (FB : ExcBaseFacts B newId initId bmB) (hb1 : bm.contains (.type B) = true)
    (hq : ∀ t' h', Fr h₀ L h' m → News h₀ L h' ((t', tupOf #[v]) :: (e, exObj C t') :: news) → (∀ p ∈ news, p.1 < t') → e < t' → Q .none { s with heap := h' }) :
    wpAny (model prog w) A (call (.builtin initId) [.ref e, v]) Q E s := by
  have X := X₀.keeps F.keep
  have N1 := Nw.push F (tupOf #[v])
  have F1 := F.push (tupOf #[v])
  have hlt : ∀ p ∈ (e, exObj C t) :: news, p.1 < s.heap.objs.size := fun p hp => Heap.lt_size (Nw p hp).1
  obtain ⟨U1, U2⟩ := news_upd (pre := [(s.heap.objs.size, tupOf #[v])]) (post := news) (f := Obj.mapFields (·.setIfInBounds 0 (.ref s.heap.objs.size))) (o' := exObj C s.heap.objs.size) F1 N1 (fun p hp => by rw [List.mem_singleton.mp hp]; exact Nat.ne_of_gt (hlt _ (.head _))) hne rfl rfl
  have z := hq _ _ U1 U2 (fun p hp => hlt p (.tail _ hp)) (hlt _ (.head _))
  obtain ⟨h, g, d, t1, os⟩ := s
  have hC : h.get? C = some (excClassObj nm q C N bs bm hdct sn sub ab col dd k0 k1 k2 k3 k5 newId) := X _ _ hK
  have hcB : (Value.ref C :: bm).contains (.type B) = true := by rw [List.contains_cons, hb1, Bool.or_true]
  have he := (Nw _ (.head _)).1
  have he1 := (N1 _ (.tail _ (.head _))).1
  have hshort := FB.noStar
  refine wpAny_call (codeAny_call_builtin FB.init.plain FB.initEntry ?_)
  simp only [checkBuiltinCall, FB.initKind, FB.initSplit, FB.initRow]
  repeat (first | (with_reducible refine wpAny_loadPart_at he ?_) | with_reducible refine wpAny_loadPart_at hC ?_ | (with_reducible refine wpAny_isSubtype_exc hC ?_; rw [hcB]) | wp_step)
  exact z
open PySem.Builtin PySem.Builtin.ObjectAttr in
/-- a name is stored on an exception object that has no dict yet -/
theorem exc_storeC {e t : Addr} {v : Value} {name : Str} {tk : Tok} {pre : Led} {R : Result → Shared → Prop} (F : Fr h₀ L s.heap m) (X₀ : K.In h₀) (Nw : News h₀ L s.heap (pre ++ (e, exObj C t) :: news)) (hn1 : ∀ p ∈ pre, p.1 ≠ e) (hn2 : ∀ p ∈ news, p.1 ≠ e)
    (hK : K.lookup C = some (excClassObj nm q C N bs bm true sn sub ab col dd k0 k1 k2 k3 k5 newId)) (hb1 : bm.contains (.type "object") = true) (hr : ∀ self, refuseLoop self "__setattr__" bm = pure ())
    (ht : takerIn K C name = some none)
    (hq : ∀ d h' tk', Fr h₀ L h' m → News h₀ L h' (pre ++ (e, { exObj C t with dict := some d }) :: news) → R (.ok (.ret .none)) { s with heap := h', toks := tk' }) :
    codeAny (model prog w) A (.call (.builtin "object.__setattr__") ⟨[.ref e, .str name tk, v], []⟩) R s := by
  have X := X₀.keeps F.keep
  have he := (Nw (e, exObj C t) (by simp)).1
  have I : W.InstAt s.heap e (exObj C t) C none := ⟨he, rfl, rfl, trivial⟩
  have SF := PySem.F.store_object
  have hc : clsIn K C = some { name := nm, bases := bs, mro := .ref C :: bm, ns := N, qualname := q, hasDict := true, slotNames := sn, subclasses := sub, abstract := ab, collection := col, hasDel := false } := by unfold clsIn; rw [hK]
  have hm : Looks (model prog w) s.heap (mroOf (.ref C)) (.ref C :: bm) := (looks_clsIn X hc).andThen .now
  have sub' : Looks (model prog w) s.heap (isInstance (.ref e) (.type "object")) true := I.type.andThen (looks_mroIn X (by
    unfold mroIn; rw [hc, Option.bind_some, if_neg (by simp)]; rw [List.contains_cons, hb1, Bool.or_true]))
  refine codeAny_call_builtin SF.slot.plain SF.entry (@check_slot (model prog w) _ _ s "object.__setattr__" "object" "__setattr__" (.ref e) [.str name tk, v] [] _ SF.kind SF.split sub' (SF.args (.ref e) (.str name tk) v) ?_)
  obtain ⟨attr, ha, hr'⟩ := Option.bind_eq_some_iff.mp ht
  have L3 : Looks (model prog w) s.heap (storeTaker? attr) none := by
    cases attr with
    | none => exact .now
    | some a =>
      obtain ⟨b, hb, hbe⟩ := Option.map_eq_some_iff.mp hr'
      refine (looks_takesIn X hb).andThen ?_
      cases b
      · exact .now
      · cases hbe
  rw [osa_eq, refuse_eq]
  refine wpAny_bind (wpAny_bind (I.type.here (wpAny_bind (hm.here ?_))))
  rw [refuseLoop_ref, hr]
  refine wpAny_pure (wpAny_bind (I.type.here (wpAny_bind ((looks_findIn X ha).here (wpAny_bind (L3.here ?_))))))
  refine wpAny_bind (wpAny_pure (wpAny_bind (wpAny_bind (wpAny_loadPart he (wpAny_bind ((looks_clsIn X hc).here ?_))))))
  have N1 := Nw.push F emptyDict
  have F1 := F.push emptyDict
  have hlt : ∀ p ∈ pre ++ (e, exObj C t) :: news, p.1 < s.heap.objs.size := fun p hp => Heap.lt_size (Nw p hp).1
  obtain ⟨F2, N2⟩ := news_upd (pre := (s.heap.objs.size, emptyDict) :: pre) (post := news) (f := fun o => { o with dict := some s.heap.objs.size }) (o' := { exObj C t with dict := some s.heap.objs.size }) F1 N1
    (fun p hp => by
      rcases List.mem_cons.mp hp with rfl | hp
      · exact Nat.ne_of_gt (hlt (e, exObj C t) (by simp))
      · exact hn1 p hp) hn2 rfl rfl
  have hnd : ((s.heap.push emptyDict).update e fun o => { o with dict := some s.heap.objs.size }).Ns s.heap.objs.size (fun _ => none) :=
    ⟨_, #[], _, (N2 _ (.head _)).1, rfl, fun e he => absurd he (by simp), fun _ => rfl⟩
  have fin : ∀ A' : Around, ∀ Q' : PySem.Fin → Shared → Prop, ∀ E' : Value → Shared → Prop, (∀ h' tk', Fr h₀ L h' m → News h₀ L h' (pre ++ (e, { exObj C t with dict := some s.heap.objs.size }) :: news) → Q' (.done (.ret .none)) { s with heap := h', toks := tk' }) →
      wpAny (model prog w) A' (storeInDict s.heap.objs.size (.str name tk) name v) Q' E' { s with heap := (s.heap.push emptyDict).update e fun o => { o with dict := some s.heap.objs.size } } := by
    intro A' Q' E' hq'
    unfold storeInDict newKeyGuard
    refine wpAny_bind (wpAny_pure (wpAny_bind (wpAny_nsSet1 (Heap.Ns1.of_empty hnd) fun h' hn' hs => ?_)))
    obtain ⟨oD, esD, epD, hoD, hdD, hcD⟩ := hn'.count (Within.cons name v Within.nil)
    refine wpAny_bind (wpAny_lookBehind hoD (by rw [hdD]; exact pastItsLine_dict (Nat.le_trans hcD (by rw [List.length_cons, List.length_nil, sizeLine_eq]; omega))) ?_)
    have keep : ∀ b o, b < s.heap.objs.size → ((s.heap.push emptyDict).update e fun o => { o with dict := some s.heap.objs.size }).get? b = some o → h'.get? b = some o := fun b o hb q => (hs.2 b (Nat.ne_of_lt hb)).trans q
    refine wpAny_pure (hq' _ _ ?_ fun p hp => ⟨keep _ _ ?_ (N2 p (.tail _ hp)).1, (N2 p (.tail _ hp)).2⟩)
    · obtain ⟨oL, es, ep, hL, r⟩ := F2.ns
      exact ⟨⟨oL, es, ep, keep _ _ F.ns.lt hL, r⟩, fun b x q => keep _ _ (Heap.lt_size (F.keep b x q)) (F2.keep b x q), F2.above⟩
    · rcases List.mem_append.mp hp with hp | hp
      · exact hlt _ (mem_l hp)
      · rcases List.mem_cons.mp hp with rfl | hp
        · exact hlt (e, exObj C t) (by simp)
        · exact hlt _ (mem_r (mem_tl hp))
  rw [if_neg (by simp)]
  dsimp only
  rw [if_neg (by simp [typeHasDict])]
  (try dsimp only)
  refine wpAny_bind (wpAny_alloc' ?_)
  refine wpAny_bind (wpAny_update' (Heap.get?_push_of_some _ he) ?_)
  refine wpAny_pure ?_
  exact fin _ _ _ fun h' tk' F' N' => hq _ _ _ F' N'
theorem exc_store {e t : Addr} {v : Value} {name : Str} {pre : Led} {Q : Unit → Shared → Prop} (F : Fr h₀ L s.heap m) (X₀ : K.In h₀) (Nw : News h₀ L s.heap (pre ++ (e, exObj C t) :: news)) (hn1 : ∀ p ∈ pre, p.1 ≠ e) (hn2 : ∀ p ∈ news, p.1 ≠ e)
    (hK : K.lookup C = some (excClassObj nm q C N bs bm true sn sub ab col dd k0 k1 k2 k3 k5 newId)) (hb1 : bm.contains (.type "object") = true) (hr : ∀ self, refuseLoop self "__setattr__" bm = pure ())
    (hs : findIn K (.ref C) "__setattr__" = some (some (.builtin "object.__setattr__"))) (ht : takerIn K C name = some none)
    (hq : ∀ d h' tk', Fr h₀ L h' m → News h₀ L h' (pre ++ (e, { exObj C t with dict := some d }) :: news) → Q () { s with heap := h', toks := tk' }) :
    wpAny (model prog w) A (setAttr (.ref e) name v) Q E s :=
  set_plain (X₀.keeps F.keep) (⟨(Nw (e, exObj C t) (by simp)).1, rfl, rfl, trivial⟩ : W.InstAt s.heap e (exObj C t) C none) hs (exc_storeC (s := { s with toks := s.toks + 1 }) F X₀ Nw hn1 hn2 hK hb1 hr ht fun d h' tk' F' N' => hq d h' tk' F' N')
end
/-! R2 -/
theorem meta_exception : typeOf (.type "Exception") = pure (.type "type") := by kernel_rfl
theorem fe_refuse (self : Value) : refuseLoop self "__setattr__" [.ref 31, .type "Exception", .type "BaseException", .type "object"] = pure () := by rw [refuseLoop_ref]; exact PySem.F.store_Exception.passes self
/-- the FrameError is made -/
theorem fe_new {u : Tok} {dp un : Nat} {gd : Option (List Code)} {cn : Str} {cs : Scope} {a : Addr} {ccd : Value} {cl : List (Str × Addr)} {outer : List Env} {A₀ : Around} {base h₀ : Heap} {L : Addr} {m : Str → Option Value} {s : Shared} {Q E : Value → Shared → Prop} :
    ∀ (B : Below A₀ base outer h₀) (F : Fr h₀ L s.heap m) (X : (hd.heap_39 w.params).In h₀) (N : News h₀ L s.heap news) (T : Top hd.view_39 (looseW hd.view_39 []) mean mg mb h₀) (hk : cs.kind = .function) (hdp : dp + 4 < recursionLimit) (hun : un + 32 < cLine)
    (hQ : ∀ e h' tk t d, Fr h₀ L h' m → News h₀ L h' ((e, { cls := .ref 44, dict := some d, data := .fields #[.ref t, .none, .none, .none, .bool false, .none] }) :: news) → (∀ p ∈ news, p.1 < e) → Q (.ref e) { s with heap := h', toks := tk }),
    wpAny (model PySem.Challenge.rw_nz0246_01.row.prog w) (Ar none dp un gd cn cs L a ccd cl outer) (call (.ref 44) [.str "nothing is left of the picture" u]) Q E s := by
  k_with_none
  (k_with "fr0" => exact FrameObj.mono (by assumption) (fun p9 h9 => by (repeat (first | exact h9 | (refine List.mem_append.mpr (Or.inr ?_)) | (refine List.Mem.tail _ ?_)))))
  (k_with "ho0" => exact HOk.mono (by assumption) (fun p9 h9 => by (repeat (first | exact h9 | (refine List.mem_append.mpr (Or.inr ?_)) | (refine List.Mem.tail _ ?_)))))
  (k_with "d" => first | exact roomD hdp rfl | exact roomD0 hdp rfl | ktr_room | omega)
  (k_with "u" => first | exact roomU hun rfl | exact roomU0 hun rfl | ktr_units | omega | (simp only [tc_units, units_deeper]; omega))
  (k_with "eval ListComp" => (k_here; with_unfolding_all refine' comp_start ?z9k1 ?z9k2 ?z9k3 ?_; (case z9k1 => exact rfl); (case z9k2 => exact rfl); (case z9k3 => decide)))
  (k_with "fr" => exact FrameObj.mono (by assumption) (fun p9 h9 => by k_mem))
  (k_with "ho" => exact HOk.mono (by assumption) (fun p9 h9 => by k_mem))
  (k_with "cm" => exact CompAll.mono (by assumption) (fun p9 h9 => by k_mem))
  (k_with "subscriptTail" => (k_here; with_unfolding_all refine' item_of ?z9hm ?z9N ?z9h0 ?z9h1 ?z9hx ?_ ?z9hs; (case z9N => k_asm); (case z9hm => k_mem); (case z9h0 => first | assumption | decide | omega); (case z9h1 => first | with_reducible assumption | decide | omega); (case z9hx => assumption); (case z9hs => with_unfolding_all rfl)))
  (k_with "call type:list" => (k_here; with_unfolding_all refine' copy_of ?z9F ?z9N ?z9hm ?z9hb ?_; (case z9F => k_asm); (case z9N => k_asm); (case z9hm => k_mem); (case z9hb => first | assumption | omega | simp); intro D9 c9 h9 F9 N9 hd9; revert D9 c9 h9 F9 N9 hd9; intro _ _ _ _ _ _; (try k_sweep); (try dsimp only); (try k_fold)))
  (k_with "call builtin:len" => (k_here; with_unfolding_all refine' len_of ?z9hm ?z9N ?z9hb ?_; (case z9N => k_asm); (case z9hm => k_mem); (case z9hb => first | omega | decide)))
  (k_with "call builtin:list.append" => (k_here; with_unfolding_all refine' append_of ?z9F ?z9N ?z9U ?z9z ?_; (case z9F => k_asm); (case z9N => k_asm); (case z9U => intro n'; k_upd); (case z9z => first | with_reducible assumption | decide | omega); intro h9 n9 F9 N9; (try simp only [List.cons_append, List.nil_append] at N9); revert h9 n9 F9 N9; intro _ _ _ _; (try dsimp only); (try k_fold)))
  (k_with "exec For Name Call cons nil" => (k_here; with_unfolding_all refine' for_startF ?z9lF ?z9k1 ?z9k2 ?_; (case z9lF => assumption); (case z9k1 => exact rfl); (case z9k2 => exact rfl)))
  (k_with "gr" => exact GridObj.mono (by assumption) (fun p9 h9 => by k_mem))
  (k_with "binaryOp Mult int int" => (k_here; with_unfolding_all refine PyProof.Rows.mul_int ?_ (mul_ok2 (by first | with_reducible assumption | omega) (by first | with_reducible assumption | omega))))
  (k_with "getMethod type:Exception" => (k_here; refine' method_type ?z9F ?z9X ?z9m (by decide +kernel) ?z9e ?z9h ?_; (case z9F => k_asm); (case z9X => k_asm); (case z9m => exact meta_exception); (case z9e => k_dflt k_is); (case z9h => k_handed)))
  (k_with "call builtin:Exception.__init__" => (k_here; with_unfolding_all refine' exc_init (FB := PySem.F.excBase_Exception) ?z9k1 ?z9k2 ?z9k3 ?z9k4 ?z9k5 ?z9k6 ?_; (case z9k1 => k_asm); (case z9k2 => k_asm); (case z9k3 => k_asm); (case z9k5 => k_is); (case z9k6 => decide); (case z9k4 => assumption); intro t9 h9 F9 N9 lt9 le9; revert t9 h9 F9 N9 lt9 le9; intro _ _ _ _ _ _; (try k_sweep); (try dsimp only); (try k_fold)))
  (k_with "setAttr ref str" => (k_here; with_unfolding_all refine' exc_store (pre := [(_, _)]) ?z9k1 ?z9k2 ?z9k3 ?z9k4 ?z9k5 ?z9k6 ?z9k7 ?z9k8 ?z9k9 ?z9k10 ?_; (case z9k1 => k_asm); (case z9k2 => k_asm); (case z9k3 => k_asm); (case z9k6 => k_is); (case z9k7 => decide); (case z9k8 => exact fe_refuse); (case z9k9 => k_is); (case z9k10 => k_is); (case z9k4 => (intro p hp; rw [List.mem_singleton.mp hp]; exact Nat.ne_of_gt (by assumption))); (case z9k5 => assumption); intro d9 h9 tk9 F9 N9; revert d9 h9 tk9 F9 N9; intro _ _ _ _ _; (try k_sweep); (try dsimp only); (try k_fold)))
  k_fill
  intro B F X N T hk hdp hun hQ
  refine' call_exc (FB := PySem.F.excBase_Exception) ?k1 ?k2 ?k3 ?k4 ?k5 ?k6 ?k7 ?k8 ?k9 ?k10 ?_
  (case k1 => k_asm); (case k2 => k_asm); (case k3 => k_asm); (case k4 => k_is)
  (case k5 => decide); (case k6 => decide); (case k7 => decide)
  (case k8 => k_is); (case k9 => k_is); (case k10 => size_fits)
  intro e0 t0 h0 F0 N0 l1 l2
  have hne0 : ∀ p ∈ (t0, tupOf #[Value.str "nothing is left of the picture" u]) :: news, p.1 ≠ e0 := fun p hp => (List.mem_cons.mp hp).elim (fun e => by rw [e]; exact Nat.ne_of_lt l2) fun hp => Nat.ne_of_lt (Nat.lt_trans (l1 p hp) l2)
  refine' code_def (binds := [(Str.ofString "self", .ref e0), (Str.ofString "message", .str "nothing is left of the picture" u)]) ?k1 ?k2 ?k3 ?k4 ?k5 ?kA ?kF ?kK ?k6 ?k7 ?k8 ?k9 ?kB ?_ ?c2 ?c3 ?c4 ?c5
  (case kA => exact rfl); (case kF => exact rfl); (case kK => assumption); (case k1 => k_asm); (case k2 => k_asm); (case k3 => k_asm); (case k4 => k_asm); (case k5 => k_asm); (case k6 => k_is); (case k7 => k_is); (case k8 => ktr_room)
  (case k9 => exact BindsTo.of_eq rfl); (case c5 => decide); (case kB => exact locs rfl); (case c2 => exact rfl); (case c3 => exact rfl); (case c4 => exact rfl)
  intro g' L' h' FG' F' N' B' X' T'
  (try dsimp only)
  (try k_fold)
  k_steps
  all_goals (rename News h₀ L _ _ => NF; rename Fr h₀ L _ _ => FF)
  all_goals exact hQ _ _ _ _ _ FF (fun p hp => NF p (by
    rcases List.mem_cons.mp hp with rfl | hp
    · exact mem_r mem_hd
    · exact mem_r (mem_tl (mem_tl hp)))) (fun p hp => Nat.lt_trans (l1 p hp) l2)
/-! R3 -/
section
variable {M : Model} {A : Around} {E : Value → Shared → Prop} {s : Shared} {base : Heap} {env : Env} {outer l : List Env} {L e : Addr} {oe : Obj} {vs : Array Value} {head cls fl : Value} {hadNext : Bool} {Q : Unit → Shared → Prop}
/-- the exception e in the heap h: what it has as its context is None, and its traceback stands above the base -/
def TrV (h base : Heap) (e : Addr) (cls fl : Value) : Prop :=
  ∃ oe vs T oT ts, h.get? e = some oe ∧ oe.cls = cls ∧ oe.data = .fields vs ∧ vs[2]? = some .none ∧ vs[1]? = some (.ref T) ∧ base.get? T = none ∧ T ≠ e ∧ h.get? T = some oT ∧ oT.data = .fields ts ∧ ts[3]? = some fl
def FlyV (base : Heap) (l : List Env) (e : Addr) (cls fl : Value) (h : Heap) : Prop := base.StaysIn h ∧ base.get? e = none ∧ h.FunFrames base l ∧ TrV h base e cls fl
theorem entryV (hfr : A.frames = some (env :: outer)) (hl : s.heap.FunFrames base (env :: outer)) (hf : env.frame = some L)
    (he : s.heap.get? e = some oe) (hkb : base.StaysIn s.heap) (hen : base.get? e = none) (hd : oe.data = .fields vs) (hsz : 1 < vs.size) (h2 : vs[2]? = some .none)
    (h : ∀ h', FlyV base (env :: outer) e oe.cls (rawInt L) h' → s.heap.UpToSlots h' → Q () { s with heap := h' }) :
    wpAny M A (do let a ← frameOf env; let pl ← entryPlaceOf L hadNext; let b ← EntryCells.newEntry head a .none (rawInt L) .none pl; setField (.ref e) 1 b) Q E s := by
  have hene : e ∉ (env :: outer).filterMap (·.frame) := fun hm => by
    obtain ⟨_, o, ho, hnf⟩ := hl.mem hm
    rw [he] at ho; injection ho with ho; subst ho; exact hnf vs hd
  refine wpAny_bind (wpAny_frameOf_fun hfr hl hf fun h₁ hs₁ => ?_)
  refine wpAny_bind (wpAny_entryPlaceOf fun pl hpl => ?_)
  unfold EntryCells.newEntry newFields
  refine wpAny_bind (wpAny_newObj_type ?_ (hpl.sizeOk5 _ _ _ _ _))
  have he₁ : h₁.get? e = some oe := (hs₁.2.1 e hene).trans he
  have kb₁ : base.StaysIn h₁ := fun b o hbo => (hs₁.2.1 b fun hm => by rw [(hl.mem hm).1] at hbo; cases hbo).trans (hkb b o hbo)
  generalize hT : ({ cls := .type "traceback", dict := none, data := .fields ([head, .ref L, .none, rawInt L, .none] ++ (if pl.isEmpty then List.replicate 6 Value.none else pl)).toArray } : Obj) = oT
  have hTe : h₁.objs.size ≠ e := Nat.ne_of_gt (Heap.lt_size he₁)
  have he₂ : (h₁.push oT).get? e = some oe := Heap.get?_push_of_some _ he₁
  refine wpAny_setField he₂ hd hsz ?_
  have hd₃ := Obj.data_mapFields hd (·.setIfInBounds 1 (Value.ref h₁.objs.size))
  have he₃ := Heap.get?_update_self (Obj.mapFields (·.setIfInBounds 1 (Value.ref h₁.objs.size))) he₂ (Obj.isFreed_of_fields hd₃)
  have hT₃ := (Heap.get?_update_other (h₁.push oT) (Obj.mapFields (·.setIfInBounds 1 (Value.ref h₁.objs.size))) (Ne.symm hTe)).trans (Heap.get?_push_size h₁ (by subst hT; rfl))
  have keep : ∀ b o, b ≠ e → h₁.get? b = some o → ((h₁.push oT).update e (Obj.mapFields (·.setIfInBounds 1 (Value.ref h₁.objs.size)))).get? b = some o := fun b o hbe hb => by
    rw [Heap.get?_update_other _ _ (Ne.symm hbe)]
    exact Heap.get?_push_of_some _ hb
  have other : ∀ b o, s.heap.get? b = some o → (∀ vs, o.data ≠ .fields vs) → b ≠ e := fun b o hb hnf q => by
    rw [q, he] at hb; injection hb with hb; subst hb; exact hnf vs hd
  refine h _ ⟨fun b o hbo => keep b o (fun q => by rw [q, hen] at hbo; cases hbo) (kb₁ b o hbo), hen, hl.of_keeps fun b o hb hnf => ?_, ?_⟩ fun b o hb hnf => ?_
  · obtain ⟨sl, hs⟩ := hs₁.2.2 b o hb
    exact ⟨_, keep b _ (other b o hb hnf) hs, rfl⟩
  · refine ⟨_, _, h₁.objs.size, _, _, he₃, Obj.cls_mapFields _ _, hd₃, by rw [Array.getElem?_setIfInBounds_ne (by decide)]; exact h2, by simp [hsz], kb₁.fresh, hTe, hT₃, by subst hT; rfl, ?_⟩
    first | (simp; done) | (rcases hpl with rfl | ⟨_, _, _, _, _, _, _, rfl⟩ <;> simp)
  · obtain ⟨sl, hs⟩ := hs₁.2.2 b o hb
    exact ⟨sl, keep b _ (other b o hb hnf) hs⟩
/-- the mark of the traceback's head is put -/
theorem markV {fl' : Value} {T : Addr} {oT : Obj} {ts : Array Value} (hF : FlyV base l e cls fl s.heap) (hv : ∀ oe vs, s.heap.get? e = some oe → oe.data = .fields vs → vs[1]? = some (.ref T)) (hT : s.heap.get? T = some oT) (hd : oT.data = .fields ts)
    (h : ∀ h', FlyV base l e cls fl' h' → s.heap.UpToSlots h' → (∀ b, b ≠ T → h'.get? b = s.heap.get? b) → Q () { s with heap := h' }) : wpAny M A (setField (.ref T) 3 fl') Q E s := by
  obtain ⟨f1, f2, f3, oe, vs, T', oT', ts', he, hc, hde, h2, h1, hnT, hTe, hT', hdT, h3⟩ := hF
  have := hv _ _ he hde
  rw [h1] at this
  cases this
  rw [hT'] at hT
  cases hT
  rw [hdT] at hd
  cases hd
  have other : ∀ b, b ≠ T → (s.heap.update T (Obj.mapFields (·.setIfInBounds 3 fl'))).get? b = s.heap.get? b := fun b hb => Heap.get?_update_other _ _ (Ne.symm hb)
  have norec : ∀ b o, s.heap.get? b = some o → (∀ vs, o.data ≠ .fields vs) → b ≠ T := fun b o hb hnf q => by
    rw [q, hT'] at hb; injection hb with hb; subst hb; exact hnf ts hdT
  have hsz3 : 3 < ts.size := (Array.getElem?_eq_some_iff.mp h3).1
  refine wpAny_setField hT' hdT hsz3 (h _ ⟨fun b o hbo => (other b fun q => by rw [q, hnT] at hbo; cases hbo).trans (f1 b o hbo), f2, f3.of_keeps fun b o hb hnf => ⟨o, (other b (norec b o hb hnf)).trans hb, rfl⟩, ?_⟩
    (fun b o hb hnf => ⟨o.slots, (other b (norec b o hb hnf)).trans hb⟩) other)
  exact ⟨oe, vs, T, _, _, (other e (Ne.symm hTe)).trans he, hc, hde, h2, h1, hnT, hTe, Heap.get?_update_self _ hT' (Obj.isFreed_of_fields (Obj.data_mapFields hdT _)), Obj.data_mapFields hdT _, by simp [hsz3]⟩
theorem flightV (hF : FlyV base l e cls fl s.heap) (h : ∀ h', FlyV base l e cls .none h' → s.heap.UpToSlots h' → Q () { s with heap := h' }) : wpAny M A (setFlight (.ref e) none) Q E s := by
  have hF' := hF
  obtain ⟨f1, f2, f3, oe, vs, T, oT, ts, he, hc, hd, h2, h1, hnT, hTe, hT, hdT, h3⟩ := hF
  unfold setFlight
  refine wpAny_bind (wpAny_field he hd h1 ?_)
  rw [if_pos (show (Value.ref T != Value.none) = true from by simp)]
  refine markV (fl := fl) (fl' := .none) hF' (fun oe' vs' he' hd' => ?_) hT hdT fun h' a b _ => h h' a b
  rw [he] at he'
  cases he'
  rw [hd] at hd'
  cases hd'
  exact h1
theorem noteV (hfr : A.frames = some (env :: outer)) (hf : env.frame = some L) (hF : FlyV base (env :: outer) e cls .none s.heap)
    (h : ∀ h', FlyV base (env :: outer) e cls (rawInt L) h' → s.heap.UpToSlots h' → Q () { s with heap := h' }) : wpAny M A (noteFrame (.ref e) env) Q E s := by
  have hF' := hF
  obtain ⟨f1, f2, f3, oe, vs, T, oT, ts, he, hc, hd, h2, h1, hnT, hTe, hT, hdT, h3⟩ := hF
  unfold noteFrame
  simp only [hf]
  refine wpAny_bind (wpAny_field he hd h1 ?_)
  rw [if_pos (show (Value.ref T != Value.none) = true from by simp)]
  refine wpAny_bind (wpAny_field hT hdT h3 ?_)
  rw [if_neg (show ¬ ((Value.none == rawInt L) = true) from by simp [rawInt])]
  refine wpAny_bind (markV hF' (fun oe' vs' he' hd' => ?_) hT hdT fun h₁ a b c => ?_)
  · rw [he] at he'
    cases he'
    rw [hd] at hd'
    cases hd'
    exact h1
  · have he₁ : h₁.get? e = some oe := (c e (Ne.symm hTe)).trans he
    refine entryV (s := { s with heap := h₁ }) hfr a.2.2.1 hf he₁ a.1 f2 hd (Array.getElem?_eq_some_iff.mp h1).1 h2 fun h' x y => ?_
    rw [hc] at x
    exact h h' x (b.trans y)
theorem firstV (hfr : A.frames = some (env :: outer)) (hl : s.heap.FunFrames base (env :: outer)) (hf : env.frame = some L)
    (he : s.heap.get? e = some oe) (hkb : base.StaysIn s.heap) (hen : base.get? e = none) (hd : oe.data = .fields vs) (h1 : vs[1]? = some .none) (h2 : vs[2]? = some .none)
    (h : ∀ h', FlyV base (env :: outer) e oe.cls .none h' → s.heap.UpToSlots h' → Q () { s with heap := h' }) : wpAny M A (leaving env (.ref e)) Q E s := by
  unfold leaving noteFrame
  simp only [hf]
  refine wpAny_bind (wpAny_bind (wpAny_field he hd h1 ?_))
  rw [if_neg (by decide)]
  exact entryV hfr hl hf he hkb hen hd (Array.getElem?_eq_some_iff.mp h1).1 h2 fun h' x y => flightV (s := { s with heap := h' }) x fun h'' x' y' => h h'' x' (y.trans y')
end
/-! R4 -/
/-- an exception of the class cls flies, and the ledger below it is kept -/
def RaisedV (base : Heap) (l : List Env) (e : Addr) (cls : Value) (news : Led) (h : Heap) : Prop :=
  ∃ B, base.StaysIn B ∧ (∀ q ∈ news, B.get? q.1 = some q.2 ∧ base.get? q.1 = none) ∧ FlyV B l e cls .none h
section
variable {M : Model} {A : Around} {E : Value → Shared → Prop} {s' : Shared} {base g : Heap} {outer : List Env} {L a e : Addr} {m : Str → Option Value} {name : Str} {scope : Scope} {cd : Value} {Q : Unit → Shared → Prop} {news : Led} {oe : Obj} {vs : Array Value}
theorem leave_V (K : Below A base outer g) (F : Fr g L s'.heap m) (N : News g L s'.heap ((e, oe) :: news)) (hne : ∀ p ∈ news, p.1 ≠ e) (hd : oe.data = .fields vs) (h1 : vs[1]? = some .none) (h2 : vs[2]? = some .none)
    (hQ : ∀ h', RaisedV base outer e oe.cls news h' → g.UpToSlots h' → Q () { s' with heap := h' }) (hk : scope.kind = .function) :
    wpAny M (A.deeper (envOf name scope L a cd)) (leaving (envOf name scope L a cd) (.ref e)) Q E s' := by
  have K' := K.push (name := name) (a := a) (cd := cd) F hk
  have N0 := N _ (.head _)
  have hin : ∀ env ∈ (envOf name scope L a cd :: outer), ∀ b, env.frame = some b → b ∈ e :: (envOf name scope L a cd :: outer).filterMap (·.frame) := fun env he b hb => .tail _ (List.mem_filterMap.mpr ⟨env, he, hb⟩)
  have st : base.StaysIn (hideAll s'.heap (e :: (envOf name scope L a cd :: outer).filterMap (·.frame))) := fun b o q => hideAll_get _ (K'.stays b o q) fun hm => by
    rcases List.mem_cons.mp hm with rfl | hm
    · have := K.stays b o q; rw [N0.2.2] at this; cases this
    · rw [(K'.frames.mem hm).1] at q; cases q
  have hl : ∀ q ∈ news, (hideAll s'.heap (e :: (envOf name scope L a cd :: outer).filterMap (·.frame))).get? q.1 = some q.2 ∧ base.get? q.1 = none := fun q hq => by
    have Nq := N q (.tail _ hq)
    refine ⟨hideAll_get _ Nq.1 fun hm => ?_, fresh_of_stays K.stays Nq.2.2⟩
    rcases List.mem_cons.mp hm with hm | hm
    · exact hne q hq hm
    · obtain ⟨env, he, hf⟩ := List.mem_filterMap.mp hm
      rcases List.mem_cons.mp he with rfl | he
      · exact Nq.2.1 (Option.some.inj hf).symm
      · obtain ⟨o, ho, _⟩ := (K.frames.mem (List.mem_filterMap.mpr ⟨env, he, hf⟩)).2
        rw [Nq.2.2] at ho; cases ho
  refine firstV K'.stack (funFrames_hide K'.frames hin) rfl N0.1 (fun b o hb => of_hideAll _ hb) (hideAll_none _ (.head _)) hd h1 h2 fun h' x y => ?_
  obtain ⟨k1, k2, ⟨_, _, k3⟩, k4⟩ := x
  exact hQ h' ⟨_, st, hl, k1, k2, k3, k4⟩ ((Heap.UpToSlots.of_keeps F.keep).trans y)
end
section
variable {prog : Program} {w : World} {A₀ : Around} {E : Value → Shared → Prop} {s' : Shared} {h₀ h : Heap} {outer : List Env} {L a e : Addr} {m : Str → Option Value} {name : Str} {scope : Scope} {cd : Value}
  {b₀ : Stmt} {suite : List Stmt} {pos np : Pos} {rest : List ExceptHandler} {Q : Flow → Shared → Prop} {news : Led} {KF : Frag} {p : Program} {loose : List Str} {mean : ExcName → Option Value} {mg mb : Str → Option Value} {x : Str}
variable {nm q : Str} {C N : Addr} {bs bm bmB : List Value} {hdct : Bool} {sn : List Str} {sub : List Value} {ab : Bool} {col : Option Bool} {dd : Option Addr} {k0 k1 k2 k3 k5 : Option Value} {newId : String}
theorem FlyV.up {base B h : Heap} {l : List Env} {e : Addr} {cls fl : Value} (k : base.StaysIn B) (x : FlyV B l e cls fl h) : base.StaysIn h ∧ base.get? e = none := ⟨fun b o q => x.1 b o (k b o q), fresh_of_stays k x.2.1⟩
theorem caught_V (K : Below A₀ h₀ outer h₀) (F : Fr h₀ L h m) (hsm : h.UpToSlots s'.heap) (R : RaisedV h₀ (envOf name scope L a cd :: outer) e (.ref C) news s'.heap)
    (X : KF.In h₀) (T : TopRead p loose mg mb h₀) (ex : nsIn KF mainGlobals x = some (some (.ref C))) (hK : KF.lookup C = some (excClassObj nm q C N bs bm hdct sn sub ab col dd k0 k1 k2 k3 k5 newId)) (hbase : bm.contains (.type "BaseException") = true)
    (k : ∀ h' oe vs, Fr h₀ L h' m → News h₀ L h' ((e, oe) :: news) → oe.data = .fields vs → vs[2]? = some .none →
      wpAny (model prog w) ((A₀.deeper (envOf name scope L a cd)).mark (some (.ref e))) (execs (b₀ :: suite) (envOf name scope L a cd)) Q E { s' with heap := h' })
    (hk : scope.kind = .function := by rfl) (hx : (envOf name scope L a cd).kindOf x = some .globalImplicit := by rfl) (hd : (x == ("__debug__" : Str)) = false := by decide)
    (hE : PassesOwnAt (model prog w) ((A₀.deeper (envOf name scope L a cd)).mark (some (.ref e))) (A₀.deeper (envOf name scope L a cd)) (envOf name scope L a cd) E := by passes_own) :
    wpAny (model prog w) (A₀.deeper (envOf name scope L a cd)) (noteFrame (.ref e) (envOf name scope L a cd))
      (fun _ s₂ => wpAny (model prog w) (A₀.deeper (envOf name scope L a cd)) (setFlight (.ref e) none) (fun _ s₃ =>
        wpAny (model prog w) (A₀.deeper (envOf name scope L a cd)) (handleBy (.ref e) (envOf name scope L a cd) (.ExceptHandler (some (.Name x np)) none (b₀ :: suite) pos :: rest)) Q E s₃) E s₂) E s' := by
  obtain ⟨B, hB, hl, hfl⟩ := R
  have hL : B.get? L = none := by
    obtain ⟨_, ⟨L', _, hf, hn', _⟩, _⟩ := hfl.2.2.1
    obtain rfl : L = L' := Option.some.inj hf
    exact hn'
  refine noteV (Around.frames_deeper K.stack) rfl hfl fun h₄ hheld₄ hsm₄ => ?_
  refine flightV (s := { s' with heap := h₄ }) hheld₄ fun h₅ hheld hsm₅' => ?_
  have hsm₅ := hsm₄.trans hsm₅'
  have up := FlyV.up hB hheld
  have F₅ := F.of_stays up.1 (hsm.trans hsm₅)
  obtain ⟨ob, _, _, _, _, hob, hobc, _⟩ := hheld.2.2.2
  refine wpAny_handleBy_cons (codeAny_handlers_test (name_K F₅ X T ex ?_ hk hx hd)) (by intro q; cases q)
  have hC := X.keeps F₅.keep _ _ hK
  refine wpAny_excMatches_sub_self hC hob hobc hbase (codeAny_handlers_suite ?_)
  refine flightV hheld fun h₆ hfl₆ hsm₆ => ?_
  have up₆ := FlyV.up hB hfl₆
  have F₆ := F.of_stays up₆.1 ((hsm.trans hsm₅).trans hsm₆)
  have hst := hfl₆.1
  obtain ⟨oe, ws, _, _, _, hoe, hoec, hoed, h2, _⟩ := hfl₆.2.2.2
  have Nl : News h₀ L h₆ news := fun q hq => ⟨hst _ _ (hl q hq).1, (fun z => by have := (hl q hq).1; rw [z, hL] at this; cases this), (hl q hq).2⟩
  have N₆ := News.more F₆ Nl hoe (fun es n q => by rw [hoed] at q; cases q) up₆.2
  exact wpAny_passesOwnAt hE (k h₆ oe ws F₆ N₆ hoed h2)
end
section
variable {M : Model} {A : Around} {E : Value → Shared → Prop} {env : Env} {s : Shared}
variable {nm q : Str} {C N : Addr} {bs bm : List Value} {hdct : Bool} {sn : List Str} {sub : List Value} {ab : Bool} {col : Option Bool} {dd : Option Addr} {k0 k1 k2 k3 k5 : Option Value} {newId : String} {K : Frag}
/-- what a raise asks of the value that it raises -/
def RaisedAs (K : Frag) (C : Addr) (E : Value → Shared → Prop) (v : Value) (s₁ : Shared) : Prop :=
  ∃ e d t, v = .ref e ∧ K.In s₁.heap ∧ s₁.heap.get? e = some { cls := .ref C, dict := some d, data := .fields #[.ref t, .none, .none, .none, .bool false, .none] } ∧ E (.ref e) s₁
/-- an object of an own exception class is raised: nothing is being handled -/
theorem raise_V {c : PySem.Expr} {pos : Pos} {Q : Flow → Shared → Prop} {g₀ : Heap} (_X : K.In g₀) (hK : K.lookup C = some (excClassObj nm q C N bs bm hdct sn sub ab col dd k0 k1 k2 k3 k5 newId)) (hbase : bm.contains (.type "BaseException") = true) (hh : A.handled = none)
    (h : wpAny M A (eval c env) (RaisedAs K C E) E s) :
    wpAny M A (exec (.Raise (some c) none pos) env) Q E s := by
  have hcB : (Value.ref C :: bm).contains (.type "BaseException") = true := by rw [List.contains_cons, hbase, Bool.or_true]
  rw [arm_exec_Raise]
  simp only [evalOpt, Option.map]
  refine wpAny_bind (wpAny_standAt ?_)
  unfold raiseStmt
  refine wpAny_bind (wpAny_bind (wpAny_mono h (fun v s₁ h₁ => ?_) fun _ _ x => x))
  refine wpAny_bind (wpAny_standAt (wpAny_pure ?_))
  obtain ⟨e, d, t, rfl, X, he, hE⟩ := h₁
  have hC := X _ _ hK
  obtain ⟨hp, g, dr, tk, os⟩ := s₁
  repeat (first | with_reducible refine wpAny_loadPart_at he ?_ | with_reducible refine wpAny_loadPart_at hC ?_ | (with_reducible refine wpAny_isSubtype_exc hC ?_; rw [hcB]) | wp_step)
  exact wpAny_raiseNew_none hh hE
end
/-! C16 -/
/-- how many MCUs are left of many, where a side is cut -/
def cutN (t : Bool) (size unit many : Int) : Int := if t = true ∧ size.fmod unit ≠ 0 then many - 1 else many
theorem cutN_same {t : Bool} {size unit many : Int} (h : ¬ (t = true ∧ size.fmod unit ≠ 0)) : cutN t size unit many = many := if_neg h
theorem cutN_less {t : Bool} {size unit many : Int} (h : t = true ∧ size.fmod unit ≠ 0) : cutN t size unit many = many - 1 := if_pos h
/-- a stop of the walk -/
def Hold (p : Prop) : Prop := p
theorem hold_in {p : Prop} (h : Hold p) : p := h
/-- behind a branch a name holds a number, and no more has come about -/
def Joined (h₀ : Heap) (L : Addr) (m : Str → Option Value) (news : Led) (s : Shared) (x : Str) (z : Int) (f : Flow) (s' : Shared) : Prop :=
  f = .next ∧ ∃ t h' tk, s' = { s with heap := h', toks := tk } ∧ Fr h₀ L h' (fun y => if y = x then some (.int z t) else m y) ∧ News h₀ L h' news
section
variable {M : Model} {A : Around} {E : Value → Shared → Prop} {s : Shared} {h₀ : Heap} {L : Addr} {m : Str → Option Value} {x : Str} {z : Int} {c : Stmt} {env : Env} {l : List Stmt} {Q : Flow → Shared → Prop}
theorem if_join (x : Str) (z : Int) (F : Fr h₀ L s.heap m) (N : News h₀ L s.heap news) (h : wpAny M A (exec c env) (Joined h₀ L m news s x z) E s)
    (k : ∀ t h' tk, Fr h₀ L h' (fun y => if y = x then some (.int z t) else m y) → News h₀ L h' news → wpAny M A (execs l env) Q E { s with heap := h', toks := tk }) : wpAny M A (execs (c :: l) env) Q E s :=
  wpAny_execs_cons (wpAny_mono h (fun f s' hj => by obtain ⟨rfl, t, h', tk, rfl, F', N'⟩ := hj; exact k t h' tk F' N') fun _ _ x => x)
theorem joined_less {t : Tok} {h' : Heap} {tk : Nat} {z' : Int} (e : z' = z) (F : Fr h₀ L h' (fun y => if y = x then some (.int z' t) else m y)) (N : News h₀ L h' news) : Joined h₀ L m news s x z .next { s with heap := h', toks := tk } := by
  subst e; exact ⟨rfl, t, h', tk, rfl, F, N⟩
theorem joined_same {t : Tok} {h' : Heap} {tk : Nat} {z' : Int} (e : z' = z) (hx : m x = some (.int z' t)) (F : Fr h₀ L h' m) (N : News h₀ L h' news) : Joined h₀ L m news s x z .next { s with heap := h', toks := tk } := by
  subst e
  refine ⟨rfl, t, h', tk, rfl, ?_, N⟩
  have : (fun y => if y = x then some (.int z' t) else m y) = m := by
    funext y
    by_cases e : y = x
    · rw [if_pos e, e, hx]
    · rw [if_neg e]
  rw [this]; exact F
end
theorem TurnOk.tabs {wd : Str} {ta td : Bool} (h : TurnOk wd ta td) : (([Str.ofString "left", Str.ofString "right", Str.ofString "swap", Str.ofString "cross"] : List Str).any (· == wd) = true ∧ ([Str.ofString "left", Str.ofString "back", Str.ofString "flip", Str.ofString "cross"] : List Str).any (· == wd) = ta ∧ ([Str.ofString "back", Str.ofString "right", Str.ofString "mirror", Str.ofString "cross"] : List Str).any (· == wd) = td) ∨ (([Str.ofString "left", Str.ofString "right", Str.ofString "swap", Str.ofString "cross"] : List Str).any (· == wd) = false ∧ ([Str.ofString "back", Str.ofString "right", Str.ofString "mirror", Str.ofString "cross"] : List Str).any (· == wd) = ta ∧ ([Str.ofString "left", Str.ofString "back", Str.ofString "flip", Str.ofString "cross"] : List Str).any (· == wd) = td) := by
  cases h <;> decide
section
variable {prog : Program} {A : Around} {E : Value → Shared → Prop} {s : Shared} {a b : Int} {t u : Tok} {Q : Value → Shared → Prop}
theorem eq_no (h : a ≠ b) (q : Q (.bool false) s) : wpAny (model prog w) A (compareOp .Eq (.int a t) (.int b u)) Q E s := eq_int (by rw [beq_false_of_ne h]; exact q)
theorem ne_no (h : a = b) (q : Q (.bool false) s) : wpAny (model prog w) A (compareOp .NotEq (.int a t) (.int b u)) Q E s := ne_int (by rw [h, bne_self_eq_false]; exact q)
theorem ne_yes (h : a ≠ b) (q : Q (.bool true) s) : wpAny (model prog w) A (compareOp .NotEq (.int a t) (.int b u)) Q E s := ne_int (by rw [bne_iff_ne.mpr h]; exact q)
end
/-- a call that gives back where c holds, and raises where it does not -/
def RaiseE (h₀ : Heap) (L : Addr) (m : Str → Option Value) (base : Heap) (l : List Env) (cls : Value) (news : Led) (s : Shared) (E : Value → Shared → Prop) : Prop :=
  ∀ e g h' tk', Fr h₀ L g m → g.UpToSlots h' → RaisedV base l e cls news h' → E (.ref e) { s with heap := h', toks := tk' }
def SpecX (b : Nat) (w : World) (mean : ExcName → Option Value) (mg mb : Str → Option Value) (f : Addr) (vs : List Value) (news : Led) (c : Prop) (cls : Value) (post : Value → Led → Prop) : Prop :=
  ∀ (dp un : Nat) (gd : Option (List Code)) (cn : Str) (cs : Scope) (a : Addr) (ccd : Value) (cl : List (Str × Addr)) (outer : List Env) (A₀ : Around) (base h₀ : Heap) (L : Addr) (m : Str → Option Value) (s : Shared)
    (Q E : Value → Shared → Prop),
    Below A₀ base outer h₀ → Fr h₀ L s.heap m → (hd.heap_39 w.params).In h₀ → News h₀ L s.heap news → Top hd.view_39 (looseW hd.view_39 []) mean mg mb h₀ → cs.kind = .function → dp + b < recursionLimit → un + 8 * b < cLine →
    (c → Ret h₀ L m s post Q) → (¬ c → RaiseE h₀ L m base (envX cn cs L a ccd cl :: outer) cls news s E) →
    wpAny (model PySem.Challenge.rw_nz0246_01.row.prog w) (Ar none dp un gd cn cs L a ccd cl outer) (call (.ref f) vs) Q E s
theorem eq_yes {prog : Program} {A : Around} {E : Value → Shared → Prop} {s : Shared} {a b : Int} {t u : Tok} {Q : Value → Shared → Prop} (h : a = b) (q : Q (.bool true) s) : wpAny (model prog w) A (compareOp .Eq (.int a t) (.int b u)) Q E s := eq_int (by rw [h, beq_self_eq_true]; exact q)
theorem trimmed_spec {v gv : Value} {f f' : FrameD} {G : Nat → Nat → Nat → List Int} {wd : Str} {tw : Tok} {ta td : Bool} {a d : Int} (hg : GridObj w.params news gv f G) (hG4 : ∀ k y x, (G k y x).length = 4) (hf : FrameObj w.params news v f) (ok : FrameOk f) (hw : TurnOk wd ta td)
    (ea : a = cutN ta f.width (mA f * 2) (mW f)) (ed : d = cutN td f.height (mD f * 2) (mH f))
    (he : f' = ⟨min (d * (mD f * 2)) f.height, min (a * (mA f * 2)) f.width, f.cs⟩) (hok : 1 ≤ a ∧ 1 ≤ d → FrameOk f' ∧ mW f' ≤ mW f ∧ mH f' ≤ mH f) :
    SpecX 14 w mean mg mb 218 [gv, v, .str wd tw] news (1 ≤ a ∧ 1 ≤ d) (.ref 44) (fun r n' => (∀ p ∈ news, p ∈ n') ∧ ∃ tp lv gv', r = .ref tp ∧ (tp, tupOf #[lv, gv']) ∈ n' ∧ FrameObj w.params n' lv f' ∧ GridObj w.params n' gv' f' G) := by
  k_with_none
  (k_with "fr0" => exact FrameObj.mono (by assumption) (fun p9 h9 => by (repeat (first | exact h9 | (refine List.mem_append.mpr (Or.inr ?_)) | (refine List.Mem.tail _ ?_)))))
  (k_with "ho0" => exact HOk.mono (by assumption) (fun p9 h9 => by (repeat (first | exact h9 | (refine List.mem_append.mpr (Or.inr ?_)) | (refine List.Mem.tail _ ?_)))))
  (k_with "d" => first | exact roomD hdp rfl | exact roomD0 hdp rfl | ktr_room | omega)
  (k_with "u" => first | exact roomU hun rfl | exact roomU0 hun rfl | ktr_units | omega | (simp only [tc_units, units_deeper]; omega))
  (k_with "eval ListComp" => (k_here; with_unfolding_all refine' comp_start ?z9k1 ?z9k2 ?z9k3 ?_; (case z9k1 => exact rfl); (case z9k2 => exact rfl); (case z9k3 => decide)))
  (k_with "fr" => exact FrameObj.mono (by assumption) (fun p9 h9 => by k_mem))
  (k_with "ho" => exact HOk.mono (by assumption) (fun p9 h9 => by k_mem))
  (k_with "cm" => exact CompAll.mono (by assumption) (fun p9 h9 => by k_mem))
  (k_with "subscriptTail" => (k_here; with_unfolding_all refine' item_of ?z9hm ?z9N ?z9h0 ?z9h1 ?z9hx ?_ ?z9hs; (case z9N => k_asm); (case z9hm => k_mem); (case z9h0 => first | assumption | decide | omega); (case z9h1 => first | with_reducible assumption | decide | omega); (case z9hx => assumption); (case z9hs => with_unfolding_all rfl)))
  (k_with "call type:list" => (k_here; with_unfolding_all refine' copy_of ?z9F ?z9N ?z9hm ?z9hb ?_; (case z9F => k_asm); (case z9N => k_asm); (case z9hm => k_mem); (case z9hb => first | assumption | omega | simp); intro D9 c9 h9 F9 N9 hd9; revert D9 c9 h9 F9 N9 hd9; intro _ _ _ _ _ _; (try k_sweep); (try dsimp only); (try k_fold)))
  (k_with "call builtin:len" => (k_here; with_unfolding_all refine' len_of ?z9hm ?z9N ?z9hb ?_; (case z9N => k_asm); (case z9hm => k_mem); (case z9hb => first | omega | decide)))
  (k_with "call builtin:list.append" => (k_here; with_unfolding_all refine' append_of ?z9F ?z9N ?z9U ?z9z ?_; (case z9F => k_asm); (case z9N => k_asm); (case z9U => intro n'; k_upd); (case z9z => first | with_reducible assumption | decide | omega); intro h9 n9 F9 N9; (try simp only [List.cons_append, List.nil_append] at N9); revert h9 n9 F9 N9; intro _ _ _ _; (try dsimp only); (try k_fold)))
  (k_with "exec For Name Call cons nil" => (k_here; with_unfolding_all refine' for_startF ?z9lF ?z9k1 ?z9k2 ?_; (case z9lF => assumption); (case z9k1 => exact rfl); (case z9k2 => exact rfl)))
  (k_with "gr" => exact GridObj.mono (by assumption) (fun p9 h9 => by k_mem))
  (k_with "binaryOp Mult int int" => (k_here; with_unfolding_all refine PyProof.Rows.mul_int ?_ (mul_ok2 (by first | with_reducible assumption | omega) (by first | with_reducible assumption | omega))))
  (k_with "compareOp In str ref" => (k_here; (refine' in_KT _ ?z9F ?z9X ?z9l ?z9i ?z9b ?_; (case z9F => k_asm); (case z9X => k_asm); (case z9l => k_is); (case z9i => kde_strs); (case z9b => assumption))))
  (k_with "compareOp Eq int int" => (k_here; refine eq_no (by omega) ?_))
  (k_with "compareOp NotEq int int" => (k_here; first | refine ne_no (by assumption) ?_ | refine ne_yes (by assumption) ?_))
  (k_with "execs cons If" => (k_here; refine hold_in ?_))
  (k_with "call ref" => (k_here; with_unfolding_all refine' Spec.go ?z9uB ?z9uF ?z9uX ?z9uN ?z9uT ?z9uk ?_; (case z9uB => k_asm); (case z9uF => k_asm); (case z9uX => k_asm); (case z9uN => k_asm); (case z9uT => k_asm); (case z9uk => first | exact rfl | assumption); (first | (refine' Go.mk (cropped_grid_spec ?z9pa ?z9pb ?z9pc ?z9pd ?z9pe ?z9pf ?z9pg ?z9ph ?z9pi ?z9pj) ?z9p8 ?z9p9 ?_; (case z9pa => k_extra "gr"); (case z9pb => assumption); (case z9pc => k_extra "fr"); (case z9pd => assumption); (case z9pe => exact (⟨by omega, by omega⟩)); (case z9pf => exact (⟨by omega, by omega⟩)); (case z9pg => assumption); (case z9ph => assumption); (case z9pi => assumption); (case z9pj => assumption); (case z9p8 => k_extra "d"); (case z9p9 => k_extra "u"); intro r9 n9 h9 tk9 F9 N9 hp9; refine via fun X9 hX9 => ?_; obtain ⟨hs9, tp9, lv9, gv9, e9', hm9, hf9, hg9⟩ := hp9; subst e9'; refine hX9 ?_; clear hX9 X9; revert n9 h9 tk9 F9 N9 hs9 tp9 lv9 gv9 hm9 hf9 hg9; intro _ _ _ _ _ _ _ _ _ _ _ _) | (refine' Go.tupG (unit_size_spec ?z9pa ?z9pb ?z9pc ?z9pd) ?z9p8 ?z9p9 ?_; (case z9pa => k_extra "fr"); (case z9pb => k_extra "ho"); (case z9pc => assumption); (case z9pd => assumption); (case z9p8 => k_extra "d"); (case z9p9 => k_extra "u"); intro h9 tk9 F9 tl9 ha9 tp9 t9 t9' N9 hm9; revert h9 tk9 F9 tl9 ha9 tp9 t9 t9' N9 hm9; intro _ _ _ _ _ _ _ _ _ _) | (refine' Go.intG (mcus_across_spec ?z9pa ?z9pb ?z9pc ?z9pd ?z9pe) ?z9p8 ?z9p9 ?_; (case z9pa => k_extra "fr"); (case z9pb => k_extra "ho"); (case z9pc => assumption); (case z9pd => assumption); (case z9pe => assumption); (case z9p8 => k_extra "d"); (case z9p9 => k_extra "u"); intro h9 tk9 F9 tl9 ha9 t9 N9; revert h9 tk9 F9 tl9 ha9 t9 N9; intro _ _ _ _ _ _ _) | (refine' Go.intG (mcus_down_spec ?z9pa ?z9pb ?z9pc ?z9pd ?z9pe) ?z9p8 ?z9p9 ?_; (case z9pa => k_extra "fr"); (case z9pb => k_extra "ho"); (case z9pc => assumption); (case z9pd => assumption); (case z9pe => assumption); (case z9p8 => k_extra "d"); (case z9p9 => k_extra "u"); intro h9 tk9 F9 tl9 ha9 t9 N9; revert h9 tk9 F9 tl9 ha9 t9 N9; intro _ _ _ _ _ _ _)); (try k_sweep); (try dsimp only); (try k_fold)))
  (k_with "call ref" => (k_here; with_unfolding_all refine' fe_new ?z9uB ?z9uF ?z9uX ?z9uN ?z9uT ?z9uk ?z9ud ?z9uu ?_; (case z9uB => k_asm); (case z9uF => k_asm); (case z9uX => k_asm); (case z9uN => k_asm); (case z9uT => k_asm); (case z9uk => first | exact rfl | assumption); (case z9ud => first | ktr_room | omega); (case z9uu => first | ktr_units | omega | (simp only [tc_units, units_deeper]; omega)); intro e9 h9 tk9 t9 d9 F9 N9 lt9; revert e9 h9 tk9 t9 d9 F9 N9 lt9; intro _ _ _ _ _ _ _ _; (try k_sweep); (try dsimp only); (try k_fold)))
  (k_with "exec Raise some none" => (k_here; with_unfolding_all refine' raise_V (C := 44) ?z9rX ?z9rK ?z9rb ?z9rh ?_; (case z9rX => k_asm); (case z9rK => k_is); (case z9rb => decide); (case z9rh => exact rfl)))
  (k_with "compareOp Eq int int" => (k_here; first | refine eq_no (by omega) ?_ | refine eq_yes (by omega) ?_))
  unfold SpecX
  k_fill
  intro dp un gd cn0 cs0 a0 ccd0 cl0 outer A₀ base h₀ L m s Q E B F X N T hk hdp hun hret hexc
  have hf' := hf
  have hg' := hg
  refine via fun X9 hX9 => ?_
  refine FrameObj.elim (hf) fun x dx cl nn vs t1 t2 t3 t4 t5 t6 u1 u2 u3 u4 u6 e9 hx hdx hcl hcs => ?_
  subst e9
  clear hf
  obtain ⟨R, ⟨gx, gd, pa, gnn, gvs, gt1, gt2, gu1, rfl, hgx, hgd, _⟩, _⟩ := hg
  refine hX9 ?_
  clear hX9 X9
  have H : HOk none news := .inl rfl
  have ok0 := ok.len0
  have ok2 := ok.len2
  have okA := ok.a
  have okD := ok.d
  have okW := ok.mw
  have okH := ok.mh
  have hat : 0 ≤ a ∧ a ≤ mW f := by rw [ea]; unfold cutN; split <;> omega
  have hdt : 0 ≤ d ∧ d ≤ mH f := by rw [ed]; unfold cutN; split <;> omega
  have hT := hw.tabs
  refine wpAny_call ?_
  refine' code_def (binds := [(Str.ofString "grid", .ref gx), (Str.ofString "frame", .ref x), (Str.ofString "word", .str wd tw)]) ?k1 ?k2 ?k3 ?k4 ?k5 ?kA ?kF ?kK ?k6 ?k7 ?k8 ?k9 ?kB ?_ ?c2 ?c3 ?c4 ?c5
  (case kA => exact rfl); (case kF => exact rfl); (case kK => assumption); (case k1 => k_asm); (case k2 => k_asm); (case k3 => k_asm); (case k4 => k_asm); (case k5 => k_asm); (case k6 => k_is); (case k7 => k_is); (case k8 => ktr_room)
  (case k9 => exact BindsTo.of_eq rfl); (case c5 => decide); (case kB => exact locs rfl); (case c2 => exact rfl); (case c3 => exact rfl); (case c4 => exact rfl)
  intro g' L' h' FG' F' N' B' X' T'
  (try dsimp only)
  (try k_fold)
  rcases hT with ⟨hT1, hT2, hT3⟩ | ⟨hT1, hT2, hT3⟩
  all_goals k_steps
  all_goals unfold Hold
  all_goals (rename Fr _ _ _ _ => F1; rename News _ _ _ _ => N1; refine if_join (Str.ofString "across") a F1 N1 ?_ ?_)
  iterate 2
    rotate_left
    · intro t5 h5 tk5 F5 N5
      k_steps
      unfold Hold
      rename Fr _ _ _ _ => F1
      rename News _ _ _ _ => N1
      refine if_join (Str.ofString "down") d F1 N1 ?_ ?_
      · cases td
        all_goals first
          | (by_cases hA : f.height.fmod (mD f * 2) = 0)
          | skip
        all_goals k_steps
        all_goals first
          | exact joined_same (ed.trans (cutN_same fun h => Bool.noConfusion h.1)).symm rfl (by assumption) (by assumption)
          | exact joined_same (ed.trans (cutN_same fun h => h.2 (by assumption))).symm rfl (by assumption) (by assumption)
          | exact joined_less (ed.trans (cutN_less ⟨rfl, by assumption⟩)).symm (by assumption) (by assumption)
      · intro t6 h6 tk6 F6 N6
        k_steps
        unfold Hold
        refine wpAny_execs_cons ?_
        (try dsimp only)
        by_cases hc : 1 ≤ a ∧ 1 ≤ d
        · have hret := hret hc
          refine via fun X9 hX9 => ?_
          obtain ⟨ok', hw', hh'⟩ := hok hc
          obtain ⟨ha, hd⟩ := hc
          refine hX9 ?_
          clear hX9 X9
          clear hexc hok
          k_steps
          rename_i hs tp lv gv' hm hf9 hg9 kF kN Tc kX
          exact hret _ _ _ _ kF kN ⟨fun p hp => hs p (mem_tl (mem_r (mem_r (mem_r hp)))), _, _, _, rfl, hm, hf9, hg9⟩
        · have hexc := hexc hc
          clear hret hok
          by_cases ha : a = 0
          · k_steps
            unfold RaisedAs
            rename_i e9 h9 tk9 t9 d9 F9 N9 lt9
            refine ⟨_, _, _, rfl, X'.keeps F9.keep, (N9 _ mem_hd).1, ?_⟩
            refine leave_V B' F9 (fun p hp => N9 p (by
              rcases List.mem_cons.mp hp with rfl | hp
              · exact mem_hd
              · exact mem_tl (mem_tl (mem_r (mem_r (mem_r hp)))))) (fun p hp => Nat.ne_of_lt (lt9 p (mem_tl (mem_r (mem_r (mem_r hp)))))) rfl rfl rfl (fun h' R9 U9 => ?_) rfl
            exact hexc _ _ _ _ FG' U9 R9
          · have hd0 : d = 0 := by omega
            k_steps
            unfold RaisedAs
            rename_i e9 h9 tk9 t9 d9 F9 N9 lt9
            refine ⟨_, _, _, rfl, X'.keeps F9.keep, (N9 _ mem_hd).1, ?_⟩
            refine leave_V B' F9 (fun p hp => N9 p (by
              rcases List.mem_cons.mp hp with rfl | hp
              · exact mem_hd
              · exact mem_tl (mem_tl (mem_r (mem_r (mem_r hp)))))) (fun p hp => Nat.ne_of_lt (lt9 p (mem_tl (mem_r (mem_r (mem_r hp)))))) rfl rfl rfl (fun h' R9 U9 => ?_) rfl
            exact hexc _ _ _ _ FG' U9 R9
  all_goals cases ta
  all_goals first
    | (by_cases hA : f.width.fmod (mA f * 2) = 0)
    | skip
  all_goals k_steps
  all_goals first
    | exact joined_same (ea.trans (cutN_same fun h => Bool.noConfusion h.1)).symm rfl (by assumption) (by assumption)
    | exact joined_same (ea.trans (cutN_same fun h => h.2 (by assumption))).symm rfl (by assumption) (by assumption)
    | exact joined_less (ea.trans (cutN_less ⟨rfl, by assumption⟩)).symm (by assumption) (by assumption)
/-! C17 -/
/-- a contract over a list of the base -/
def SpecL (b : Nat) (w : World) (mean : ExcName → Option Value) (mg mb : Str → Option Value) (l : Addr) (items : Array Value) (f : Addr) (vs : List Value) (news : Led) (post : Value → Led → Prop) : Prop :=
  ∀ (dp un : Nat) (gd : Option (List Code)) (cn : Str) (cs : Scope) (a : Addr) (ccd : Value) (cl : List (Str × Addr)) (outer : List Env) (A₀ : Around) (base h₀ : Heap) (L : Addr) (m : Str → Option Value) (s : Shared)
    (Q E : Value → Shared → Prop),
    Below A₀ base outer h₀ → Fr h₀ L s.heap m → (hd.heap_39 w.params).In h₀ → News h₀ L s.heap news → Top hd.view_39 (looseW hd.view_39 []) mean mg mb h₀ → h₀.IsList l items → cs.kind = .function → dp + b < recursionLimit → un + 8 * b < cLine →
    Ret h₀ L m s post Q →
    wpAny (model PySem.Challenge.rw_nz0246_01.row.prog w) (Ar none dp un gd cn cs L a ccd cl outer) (call (.ref f) vs) Q E s
theorem pool_spec {l : Addr} {vs : List Value} {ns : List Int} {u : Tok} (hI : IntsAre vs ns) (hlen : ns.length ≤ 63) :
    SpecL 2 w mean mg mb l vs.toArray 225 [.ref l, .int 0 u] news (fun r n' => ∃ src o tl, n' = (src, o) :: tl ∧ r = .ref src ∧ SrcOk o ∧ (∀ p ∈ tl, p.1 ≠ src)) := by
  k_with_none
  (k_with "fr0" => exact FrameObj.mono (by assumption) (fun p9 h9 => by (repeat (first | exact h9 | (refine List.mem_append.mpr (Or.inr ?_)) | (refine List.Mem.tail _ ?_)))))
  (k_with "ho0" => exact HOk.mono (by assumption) (fun p9 h9 => by (repeat (first | exact h9 | (refine List.mem_append.mpr (Or.inr ?_)) | (refine List.Mem.tail _ ?_)))))
  (k_with "d" => first | exact roomD hdp rfl | exact roomD0 hdp rfl | ktr_room | omega)
  (k_with "u" => first | exact roomU hun rfl | exact roomU0 hun rfl | ktr_units | omega | (simp only [tc_units, units_deeper]; omega))
  (k_with "eval ListComp" => (k_here; with_unfolding_all refine' comp_start ?z9k1 ?z9k2 ?z9k3 ?_; (case z9k1 => exact rfl); (case z9k2 => exact rfl); (case z9k3 => decide)))
  (k_with "fr" => exact FrameObj.mono (by assumption) (fun p9 h9 => by k_mem))
  (k_with "ho" => exact HOk.mono (by assumption) (fun p9 h9 => by k_mem))
  (k_with "cm" => exact CompAll.mono (by assumption) (fun p9 h9 => by k_mem))
  (k_with "subscriptTail" => (k_here; with_unfolding_all refine' item_of ?z9hm ?z9N ?z9h0 ?z9h1 ?z9hx ?_ ?z9hs; (case z9N => k_asm); (case z9hm => k_mem); (case z9h0 => first | assumption | decide | omega); (case z9h1 => first | with_reducible assumption | decide | omega); (case z9hx => assumption); (case z9hs => with_unfolding_all rfl)))
  (k_with "call type:list" => (k_here; with_unfolding_all refine' copy_of ?z9F ?z9N ?z9hm ?z9hb ?_; (case z9F => k_asm); (case z9N => k_asm); (case z9hm => k_mem); (case z9hb => first | assumption | omega | simp); intro D9 c9 h9 F9 N9 hd9; revert D9 c9 h9 F9 N9 hd9; intro _ _ _ _ _ _; (try k_sweep); (try dsimp only); (try k_fold)))
  (k_with "call builtin:len" => (k_here; with_unfolding_all refine' len_of ?z9hm ?z9N ?z9hb ?_; (case z9N => k_asm); (case z9hm => k_mem); (case z9hb => first | omega | decide)))
  (k_with "call builtin:list.append" => (k_here; with_unfolding_all refine' append_of ?z9F ?z9N ?z9U ?z9z ?_; (case z9F => k_asm); (case z9N => k_asm); (case z9U => intro n'; k_upd); (case z9z => first | with_reducible assumption | decide | omega); intro h9 n9 F9 N9; (try simp only [List.cons_append, List.nil_append] at N9); revert h9 n9 F9 N9; intro _ _ _ _; (try dsimp only); (try k_fold)))
  (k_with "exec For Name Call cons nil" => (k_here; with_unfolding_all refine' for_startF ?z9lF ?z9k1 ?z9k2 ?_; (case z9lF => assumption); (case z9k1 => exact rfl); (case z9k2 => exact rfl)))
  (k_with "gr" => exact GridObj.mono (by assumption) (fun p9 h9 => by k_mem))
  (k_with "binaryOp Mult int int" => (k_here; with_unfolding_all refine PyProof.Rows.mul_int ?_ (mul_ok2 (by first | with_reducible assumption | omega) (by first | with_reducible assumption | omega))))
  unfold SpecL
  k_fill
  intro dp un gd cn0 cs0 a0 ccd0 cl0 outer A₀ base h₀ L m s Q E B F X N T hL hk hdp hun hret
  refine wpAny_call ?_
  refine' code_def (binds := [(Str.ofString "script", .ref l), (Str.ofString "k", .int 0 u)]) ?k1 ?k2 ?k3 ?k4 ?k5 ?kA ?kF ?kK ?k6 ?k7 ?k8 ?k9 ?kB ?_ ?c2 ?c3 ?c4 ?c5
  (case kA => exact rfl); (case kF => exact rfl); (case kK => assumption); (case k1 => k_asm); (case k2 => k_asm); (case k3 => k_asm); (case k4 => k_asm); (case k5 => k_asm); (case k6 => k_is); (case k7 => k_is); (case k8 => ktr_room)
  (case k9 => exact BindsTo.of_eq rfl); (case c5 => decide); (case kB => exact locs rfl); (case c2 => exact rfl); (case c3 => exact rfl); (case c4 => exact rfl)
  intro g' L' h' FG' F' N' B' X' T'
  (try dsimp only)
  (try k_fold)
  have hL' : g'.IsList l vs.toArray := let ⟨o, e1, e2⟩ := hL; ⟨o, FG'.keep _ _ e1, e2⟩
  clear hL
  k_steps
  all_goals exact hret _ _ _ _ (by k_asm) (by k_asm) ⟨_, _, _, rfl, rfl, ⟨_, _, _, _, _, rfl, (fm_bd _).1, (fm_bd _).2⟩, fun p hp => Nat.ne_of_lt (by solve_by_elim)⟩
/-- what is left of a side -/
def leftN (c : Bool) (size unit : Int) : Int := if c = true then size.fdiv unit * unit else size
theorem left_spec {size unit : Int} {c : Bool} {u1 u2 : Tok} (hs : 0 ≤ size ∧ size < 100) (hu : 0 < unit ∧ unit < 100) : Spec 2 w mean mg mb none 263 [.int size u1, .int unit u2, .bool c] news (fun r n' => n' = news ∧ ∃ t, r = .int (leftN c size unit) t) := by
  k_with_none
  (k_with "fr0" => exact FrameObj.mono (by assumption) (fun p9 h9 => by (repeat (first | exact h9 | (refine List.mem_append.mpr (Or.inr ?_)) | (refine List.Mem.tail _ ?_)))))
  (k_with "ho0" => exact HOk.mono (by assumption) (fun p9 h9 => by (repeat (first | exact h9 | (refine List.mem_append.mpr (Or.inr ?_)) | (refine List.Mem.tail _ ?_)))))
  (k_with "d" => first | exact roomD hdp rfl | exact roomD0 hdp rfl | ktr_room | omega)
  (k_with "u" => first | exact roomU hun rfl | exact roomU0 hun rfl | ktr_units | omega | (simp only [tc_units, units_deeper]; omega))
  (k_with "eval ListComp" => (k_here; with_unfolding_all refine' comp_start ?z9k1 ?z9k2 ?z9k3 ?_; (case z9k1 => exact rfl); (case z9k2 => exact rfl); (case z9k3 => decide)))
  (k_with "fr" => exact FrameObj.mono (by assumption) (fun p9 h9 => by k_mem))
  (k_with "ho" => exact HOk.mono (by assumption) (fun p9 h9 => by k_mem))
  (k_with "cm" => exact CompAll.mono (by assumption) (fun p9 h9 => by k_mem))
  (k_with "subscriptTail" => (k_here; with_unfolding_all refine' item_of ?z9hm ?z9N ?z9h0 ?z9h1 ?z9hx ?_ ?z9hs; (case z9N => k_asm); (case z9hm => k_mem); (case z9h0 => first | assumption | decide | omega); (case z9h1 => first | with_reducible assumption | decide | omega); (case z9hx => assumption); (case z9hs => with_unfolding_all rfl)))
  (k_with "call type:list" => (k_here; with_unfolding_all refine' copy_of ?z9F ?z9N ?z9hm ?z9hb ?_; (case z9F => k_asm); (case z9N => k_asm); (case z9hm => k_mem); (case z9hb => first | assumption | omega | simp); intro D9 c9 h9 F9 N9 hd9; revert D9 c9 h9 F9 N9 hd9; intro _ _ _ _ _ _; (try k_sweep); (try dsimp only); (try k_fold)))
  (k_with "call builtin:len" => (k_here; with_unfolding_all refine' len_of ?z9hm ?z9N ?z9hb ?_; (case z9N => k_asm); (case z9hm => k_mem); (case z9hb => first | omega | decide)))
  (k_with "call builtin:list.append" => (k_here; with_unfolding_all refine' append_of ?z9F ?z9N ?z9U ?z9z ?_; (case z9F => k_asm); (case z9N => k_asm); (case z9U => intro n'; k_upd); (case z9z => first | with_reducible assumption | decide | omega); intro h9 n9 F9 N9; (try simp only [List.cons_append, List.nil_append] at N9); revert h9 n9 F9 N9; intro _ _ _ _; (try dsimp only); (try k_fold)))
  (k_with "exec For Name Call cons nil" => (k_here; with_unfolding_all refine' for_startF ?z9lF ?z9k1 ?z9k2 ?_; (case z9lF => assumption); (case z9k1 => exact rfl); (case z9k2 => exact rfl)))
  (k_with "gr" => exact GridObj.mono (by assumption) (fun p9 h9 => by k_mem))
  (k_with "binaryOp Mult int int" => (k_here; with_unfolding_all refine PyProof.Rows.mul_int ?_ (mul_ok2 (by first | with_reducible assumption | omega) (by first | with_reducible assumption | omega))))
  unfold Spec
  k_fill
  intro dp un gd cn0 cs0 a0 ccd0 cl0 outer A₀ base h₀ L m s Q E B F X N T hk hdp hun hret
  refine wpAny_call ?_
  refine' code_def (binds := [(Str.ofString "size", .int size u1), (Str.ofString "unit", .int unit u2), (Str.ofString "is_cut", .bool c)]) ?k1 ?k2 ?k3 ?k4 ?k5 ?kA ?kF ?kK ?k6 ?k7 ?k8 ?k9 ?kB ?_ ?c2 ?c3 ?c4 ?c5
  (case kA => exact rfl); (case kF => exact rfl); (case kK => assumption); (case k1 => k_asm); (case k2 => k_asm); (case k3 => k_asm); (case k4 => k_asm); (case k5 => k_asm); (case k6 => k_is); (case k7 => k_is); (case k8 => ktr_room)
  (case k9 => exact BindsTo.of_eq rfl); (case c5 => decide); (case kB => exact locs rfl); (case c2 => exact rfl); (case c3 => exact rfl); (case c4 => exact rfl)
  intro g' L' h' FG' F' N' B' X' T'
  (try dsimp only)
  (try k_fold)
  cases c
  all_goals k_steps
  all_goals trace_state
  all_goals exact hret _ _ _ _ (by k_asm) (by k_asm) ⟨rfl, _, rfl⟩
/-! C18 -/
section
variable {prog : Program} {A : Around} {E : Value → Shared → Prop} {s : Shared} {h₀ : Heap} {L : Addr} {n₁ n₂ : Led} {a b : Value} {d e : Dat} {Q : Value → Shared → Prop}
open Classical in
/-- two data compared -/
theorem dat_eq (N : News h₀ L s.heap news) (ha : DatIn n₁ a d) (s1 : ∀ p ∈ n₁, p ∈ news) (hb : DatIn n₂ b e) (s2 : ∀ p ∈ n₂, p ∈ news) (hd : kqdOk 9 d = true) (he : kqdOk 9 e = true) (hu : A.units + 64 < cLine)
    (h : Q (.bool (decide (d = e))) s) : wpAny (model prog w) A (compareOp .Eq a b) Q E s := by
  obtain ⟨as, ra⟩ := kqd_in N 9 (ha.mono s1) hd
  obtain ⟨bs, rb⟩ := kqd_in N 9 (hb.mono s2) he
  have la := kqd_lay 9 d hd
  have lb := kqd_lay 9 e he
  have eq : PyData.eqv (kqdP d) (kqdP e) = decide (d = e) := by
    have q := kqd_eqv 9 d e 9 hd he
    by_cases hq : d = e
    · rw [decide_eq_true hq]; exact q.mpr hq
    · rw [decide_eq_false hq]; exact Bool.eq_false_iff.mpr fun x => hq (q.mp x)
  refine eq_dataH ra rb ?_ ?_ hu (by rw [eq]; exact h)
  · unfold SeqAt.shaped; rw [la.1, Bool.true_and]; exact decide_eq_true (Nat.le_trans la.2 (by decide))
  · unfold SeqAt.shaped; rw [lb.1, Bool.true_and]; exact decide_eq_true (Nat.le_trans lb.2 (by decide))
open Classical in
theorem dat_ne (N : News h₀ L s.heap news) (ha : DatIn n₁ a d) (s1 : ∀ p ∈ n₁, p ∈ news) (hb : DatIn n₂ b e) (s2 : ∀ p ∈ n₂, p ∈ news) (hd : kqdOk 9 d = true) (he : kqdOk 9 e = true) (hu : A.units + 64 < cLine)
    (h : Q (.bool (!decide (d = e))) s) : wpAny (model prog w) A (compareOp .NotEq a b) Q E s := by
  obtain ⟨as, ra⟩ := kqd_in N 9 (ha.mono s1) hd
  obtain ⟨bs, rb⟩ := kqd_in N 9 (hb.mono s2) he
  have la := kqd_lay 9 d hd
  have lb := kqd_lay 9 e he
  have eq : PyData.eqv (kqdP d) (kqdP e) = decide (d = e) := by
    have q := kqd_eqv 9 d e 9 hd he
    by_cases hq : d = e
    · rw [decide_eq_true hq]; exact q.mpr hq
    · rw [decide_eq_false hq]; exact Bool.eq_false_iff.mpr fun x => hq (q.mp x)
  refine ne_dataH ra rb ?_ ?_ hu (by rw [eq]; exact h)
  · unfold SeqAt.shaped; rw [la.1, Bool.true_and]; exact decide_eq_true (Nat.le_trans la.2 (by decide))
  · unfold SeqAt.shaped; rw [lb.1, Bool.true_and]; exact decide_eq_true (Nat.le_trans lb.2 (by decide))
/-- two data that are the same -/
theorem dat_eqS (N : News h₀ L s.heap news) (ha : DatIn n₁ a d) (s1 : ∀ p ∈ n₁, p ∈ news) (hb : DatIn n₂ b d) (s2 : ∀ p ∈ n₂, p ∈ news) (hd : kqdOk 9 d = true) (hu : A.units + 64 < cLine)
    (h : Q (.bool true) s) : wpAny (model prog w) A (compareOp .Eq a b) Q E s := dat_eq N ha s1 hb s2 hd hd hu (by simp only [decide_true, Bool.not_true]; exact h)
theorem dat_neS (N : News h₀ L s.heap news) (ha : DatIn n₁ a d) (s1 : ∀ p ∈ n₁, p ∈ news) (hb : DatIn n₂ b d) (s2 : ∀ p ∈ n₂, p ∈ news) (hd : kqdOk 9 d = true) (hu : A.units + 64 < cLine)
    (h : Q (.bool false) s) : wpAny (model prog w) A (compareOp .NotEq a b) Q E s := dat_ne N ha s1 hb s2 hd hd hu (by simp only [decide_true, Bool.not_true]; exact h)
/-- an item of a datum that is a list, the item a list again -/
theorem dat_item {value slice : PySem.Expr} {l : Addr} {ds es : List Dat} {k : Int} {u : Tok} (N : News h₀ L s.heap news) (ha : DatIn n₁ (.ref l) (.list ds)) (s1 : ∀ p ∈ n₁, p ∈ news) (h0 : 0 ≤ k) (h1 : k < 2 ^ 63) (hk : ds[k.toNat]? = some (.list es))
    (h : ∀ c, DatIn n₁ (.ref c) (.list es) → Q (.ref c) s) (hs : subscripted slice false (.ref l) (.int k u) = operate [.ref l, .int k u] (getItem (.ref l) (.int k u))) :
    wpAny (model prog w) A (subscriptTail value slice (.ref l) (.int k u)) Q E s := by
  cases ha with
  | list hm hr =>
    obtain ⟨hlt, hge⟩ := List.getElem?_eq_some_iff.mp hk
    obtain ⟨v, hv, hdv⟩ := hr.get hlt
    rw [hge] at hdv
    cases hdv with
    | list hm2 hr2 => exact item_of (s1 _ hm) N h0 h1 hv (h _ (.list hm2 hr2)) hs
end
theorem dat_open {v : Value} {ds : List Dat} (h : DatIn news v (.list ds)) : ∃ l vs n, v = .ref l ∧ (l, listOf vs.toArray n) ∈ news ∧ DatAll news vs ds ∧ DatIn news (.ref l) (.list ds) := by
  cases h with
  | list hm hr => exact ⟨_, _, _, rfl, hm, hr, .list hm hr⟩
theorem Go.dat {w : World} {mean : ExcName → Option Value} {mg mb : Str → Option Value} {hdl : Option Value} {dp un : Nat} {h₀ : Heap} {L : Addr} {m : Str → Option Value} {s : Shared} {f : Addr} {vs : List Value} {news : Led} {Q : Value → Shared → Prop} {b : Nat} {ds : List Dat} (S : Spec b w mean mg mb hdl f vs news (fun r n' => Grow news n' ∧ DatIn n' r (.list ds))) (h1 : dp + b < recursionLimit) (h2 : un + 8 * b < cLine)
    (ret : ∀ h' tk', Fr h₀ L h' m → ∀ tl, Abv news tl → News h₀ L h' (tl ++ news) → ∀ l us nl, (l, listOf us.toArray nl) ∈ tl ++ news → DatAll (tl ++ news) us ds → DatIn (tl ++ news) (.ref l) (.list ds) → Q (.ref l) { s with heap := h', toks := tk' }) : Go w mean mg mb hdl dp un h₀ L m s f vs news Q :=
  .objG S h1 h2 fun _ _ _ F _ a N hd => by
    obtain ⟨_, _, _, rfl, hm, hq, hs⟩ := dat_open hd
    exact ret _ _ F _ a N _ _ _ hm hq hs
theorem comps_ok (cs : List CompD) : kqdOk 9 (.list (cs.map compD)) = true := by simp [kqdOk, compD]
theorem blk_ok (l : List Int) : kqdOk 7 (blkD l) = true := by simp [kqdOk]
theorem plane_ok (f : FrameD) (G : Nat → Nat → Nat → List Int) (k : Nat) : kqdOk 9 (.list (planeD f G k)) = true := by
  unfold planeD
  split <;> simp [kqdOk]
theorem shown_ok (f : FrameD) (G : Nat → Nat → Nat → List Int) : kqdOk 9 (.list (shownD f G)) = true := by
  have h : ∀ k, (planeD f G k).all (kqdOk 7) = true := fun k => by unfold planeD; split <;> simp [kqdOk]
  have hp : PyData.strOk (Str.ofString "progressive") = true := by decide +kernel
  simp [kqdOk, shownD, headD, compD, h, hp]
theorem plane_at {f : FrameD} {G : Nat → Nat → Nat → List Int} {k : Nat} {c : CompD} {W H : Nat} (hc : f.cs[k]? = some c) (hW : pW f c = (W : Int)) (hH : pH f c = (H : Int)) {y x : Nat} (hy : y < H) (hx : x < W) :
    (planeD f G k)[y * W + x]? = some (blkD (G k y x)) := by
  have hlt : y * W + x < H * W := Nat.lt_of_lt_of_le (Nat.add_lt_add_left hx _) (by rw [← Nat.succ_mul]; exact Nat.mul_le_mul_right _ hy)
  unfold planeD
  rw [hc]
  simp only [hW, hH, Int.toNat_natCast, List.getElem?_map]
  rw [List.getElem?_eq_getElem (by rw [List.length_range]; exact hlt), List.getElem_range]
  have e1 : (y * W + x) / W = y := by rw [Nat.mul_comm, Nat.mul_add_div (by omega), Nat.div_eq_of_lt hx, Nat.add_zero]
  have e2 : (y * W + x) % W = x := by rw [Nat.mul_comm, Nat.mul_add_mod, Nat.mod_eq_of_lt hx]
  rw [Option.map_some, e1, e2]
theorem shown_at {f : FrameD} {G : Nat → Nat → Nat → List Int} {k : Nat} (hk : k < f.cs.length) : (shownD f G)[6 + k]? = some (.list (planeD f G k)) := by
  unfold shownD headD
  rw [List.getElem?_append_right (by simp)]
  simp [List.getElem?_map, List.getElem?_range, hk]
/-- the cells of the loop's names, and the rest -/
def PartJ (news : Led) (ca : Addr × Obj) (cp cw ch : Addr) (nx : Led) : Prop :=
  ∃ (op ow oh : Obj) (p0 w0 h0 : Option Value), nx = (cp, op) :: (cw, ow) :: (ch, oh) :: ca :: news ∧ op.data = .cell p0 ∧ ow.data = .cell w0 ∧ oh.data = .cell h0
theorem is_part_spec {v av lv gv : Value} {f f' : FrameD} {G : Nat → Nat → Nat → List Int} {ts : Addr} {tw th : Tok} (hf : FrameObj w.params news v f) (ok : FrameOk f) (hf' : FrameObj w.params news lv f') (ok' : FrameOk f') (hcs : f'.cs = f.cs) (hw' : mW f' ≤ mW f) (hh' : mH f' ≤ mH f)
    (hg : GridObj w.params news gv f' G) (hG4 : ∀ k y x, (G k y x).length = 4) (hav : DatIn news av (.list (shownD f G))) (hs : (ts, tupOf #[.int f'.width tw, .int f'.height th]) ∈ news) :
    Spec 12 w mean mg mb none 268 [v, av, lv, gv, .ref ts] news (fun r n' => Grow news n' ∧ r = .bool true) := by
  k_with_none
  (k_with "fr0" => exact FrameObj.mono (by assumption) (fun p9 h9 => by (repeat (first | exact h9 | (refine List.mem_append.mpr (Or.inr ?_)) | (refine List.Mem.tail _ ?_)))))
  (k_with "ho0" => exact HOk.mono (by assumption) (fun p9 h9 => by (repeat (first | exact h9 | (refine List.mem_append.mpr (Or.inr ?_)) | (refine List.Mem.tail _ ?_)))))
  (k_with "d" => first | exact roomD hdp rfl | exact roomD0 hdp rfl | ktr_room | omega)
  (k_with "u" => first | exact roomU hun rfl | exact roomU0 hun rfl | ktr_units | omega | (simp only [tc_units, units_deeper]; omega))
  (k_with "eval ListComp" => (k_here; with_unfolding_all refine' comp_start ?z9k1 ?z9k2 ?z9k3 ?_; (case z9k1 => exact rfl); (case z9k2 => exact rfl); (case z9k3 => decide)))
  (k_with "fr" => exact FrameObj.mono (by assumption) (fun p9 h9 => by k_mem))
  (k_with "ho" => exact HOk.mono (by assumption) (fun p9 h9 => by k_mem))
  (k_with "cm" => exact CompAll.mono (by assumption) (fun p9 h9 => by k_mem))
  (k_with "subscriptTail" => (k_here; with_unfolding_all refine' item_of ?z9hm ?z9N ?z9h0 ?z9h1 ?z9hx ?_ ?z9hs; (case z9N => k_asm); (case z9hm => k_mem); (case z9h0 => first | assumption | decide | omega); (case z9h1 => first | with_reducible assumption | decide | omega); (case z9hx => assumption); (case z9hs => with_unfolding_all rfl)))
  (k_with "call type:list" => (k_here; with_unfolding_all refine' copy_of ?z9F ?z9N ?z9hm ?z9hb ?_; (case z9F => k_asm); (case z9N => k_asm); (case z9hm => k_mem); (case z9hb => first | assumption | omega | simp); intro D9 c9 h9 F9 N9 hd9; revert D9 c9 h9 F9 N9 hd9; intro _ _ _ _ _ _; (try k_sweep); (try dsimp only); (try k_fold)))
  (k_with "call builtin:len" => (k_here; with_unfolding_all refine' len_of ?z9hm ?z9N ?z9hb ?_; (case z9N => k_asm); (case z9hm => k_mem); (case z9hb => first | omega | decide)))
  (k_with "call builtin:list.append" => (k_here; with_unfolding_all refine' append_of ?z9F ?z9N ?z9U ?z9z ?_; (case z9F => k_asm); (case z9N => k_asm); (case z9U => intro n'; k_upd); (case z9z => first | with_reducible assumption | decide | omega); intro h9 n9 F9 N9; (try simp only [List.cons_append, List.nil_append] at N9); revert h9 n9 F9 N9; intro _ _ _ _; (try dsimp only); (try k_fold)))
  (k_with "exec For Name Call cons nil" => (k_here; with_unfolding_all refine' for_startF ?z9lF ?z9k1 ?z9k2 ?_; (case z9lF => assumption); (case z9k1 => exact rfl); (case z9k2 => exact rfl)))
  (k_with "gr" => exact GridObj.mono (by assumption) (fun p9 h9 => by k_mem))
  (k_with "binaryOp Mult int int" => (k_here; with_unfolding_all refine PyProof.Rows.mul_int ?_ (mul_ok2 (by first | with_reducible assumption | omega) (by first | with_reducible assumption | omega))))
  (k_with "exec Assign cons ListComp" => (k_here; with_unfolding_all refine' comp_assign ?z9k0 ?z9k1 ?z9k2 ?z9k3 ?_; (case z9k0 => exact rfl); (case z9k1 => exact rfl); (case z9k2 => exact rfl); (case z9k3 => decide)))
  (k_with "exec For Name Call cons nil" => (k_here; with_unfolding_all refine' for_startT ?z9lF ?_; (case z9lF => assumption)))
  (k_with "call ref" => (k_here; with_unfolding_all refine' Spec.go ?z9uB ?z9uF ?z9uX ?z9uN ?z9uT ?z9uk ?_; (case z9uB => k_asm); (case z9uF => k_asm); (case z9uX => k_asm); (case z9uN => k_asm); (case z9uT => k_asm); (case z9uk => first | exact rfl | assumption); (first | (refine' Go.tupG (padded_spec ?z9pa ?z9pb ?z9pc ?z9pd ?z9pe ?z9pf ?z9pg ?z9ph ?z9pi ?z9pj ?z9pk) ?z9p8 ?z9p9 ?_; (case z9pa => k_extra "fr"); (case z9pb => k_extra "ho"); (case z9pc => assumption); (case z9pd => assumption); (case z9pe => assumption); (case z9pf => assumption); (case z9pg => first | with_reducible assumption | decide | omega); (case z9ph => first | with_reducible assumption | decide | omega); (case z9pi => assumption); (case z9pj => first | with_reducible assumption | decide | omega); (case z9pk => first | with_reducible assumption | decide | omega); (case z9p8 => k_extra "d"); (case z9p9 => k_extra "u"); intro h9 tk9 F9 tl9 ha9 tp9 t9 t9' N9 hm9; (try (rename mW _ * _ = _ => q9; rename mH _ * _ = _ => q8; rw [q9, q8] at hm9)); revert h9 tk9 F9 tl9 ha9 tp9 t9 t9' N9 hm9; intro _ _ _ _ _ _ _ _ _ _) | (refine' Go.dat (law_shown_spec ?z9pa ?z9pb ?z9pc ?z9pd ?z9pe) ?z9p8 ?z9p9 ?_; (case z9pa => k_extra "fr"); (case z9pb => assumption); (case z9pc => k_extra "gr"); (case z9pd => assumption); (case z9pe => k_extra "ho"); (case z9p8 => k_extra "d"); (case z9p9 => k_extra "u"); intro h9 tk9 F9 tl9 ha9 N9 l9 vs9 nl9 hm9 hd9 hs9; revert h9 tk9 F9 tl9 ha9 N9 l9 vs9 nl9 hm9 hd9 hs9; intro _ _ _ _ _ _ _ _ _ _ _ _)); (try k_sweep); (try dsimp only); (try k_fold)))
  (k_with "compareOp NotEq ref ref" => (k_here; with_unfolding_all refine' dat_neS ?z9N ?z9a ?z9s1 ?z9b ?z9s2 ?z9d ?z9u ?_; (case z9N => k_asm); (case z9a => first | with_reducible assumption | exact DatIn.tuple (by k_mem) (by kqd_all) | exact DatIn.list (by k_mem) (by kqd_all)); (case z9b => first | with_reducible assumption | exact DatIn.tuple (by k_mem) (by kqd_all) | exact DatIn.list (by k_mem) (by kqd_all)); (case z9s1 => exact fun p9 h9 => by k_mem); (case z9s2 => exact fun p9 h9 => by k_mem); (case z9d => first | exact comps_ok _ | exact plane_ok _ _ _ | exact shown_ok _ _ | decide +kernel); (case z9u => ke_room)))
  (k_with "subscriptTail" => (k_here; with_unfolding_all refine' dat_item ?z9N ?z9a ?z9s1 ?z9h0 ?z9h1 ?z9hk ?_ ?z9hs; (case z9N => k_asm); (case z9a => with_reducible assumption); (case z9s1 => first | exact fun p9 h9 => by k_mem | with_reducible assumption); (case z9h0 => first | with_reducible assumption | omega); (case z9h1 => first | with_reducible assumption | omega); (case z9hk => with_reducible assumption); (case z9hs => with_unfolding_all rfl); intro c9 hc9; revert c9 hc9; intro _ _))
  unfold Spec
  k_fill
  intro dp un gd cn0 cs0 a0 ccd0 cl0 outer A₀ base h₀ L m s Q E B F X N T hk hdp hun hret
  refine via fun X9 hX9 => ?_
  refine FrameObj.elim (id hf) fun x dx cl nn vs t1 t2 t3 t4 t5 t6 u1 u2 u3 u4 u6 e9 hx hdx hcl hcv => ?_
  subst e9
  refine FrameObj.elim (id hf') fun x' dx' cl' nn' vs' t1' t2' t3' t4' t5' t6' u1' u2' u3' u4' u6' e9 hx' hdx' hcl' hcv' => ?_
  subst e9
  obtain ⟨R, ⟨gx, gd, pa, gnn, gvs, gt1, gt2, gu1, rfl, hgx, hgd, _⟩, _⟩ := id hg
  obtain ⟨la, avs, na, rfl, hla, hda, hsa⟩ := dat_open hav
  refine hX9 ?_
  clear hX9 X9
  have H : HOk none news := .inl rfl
  have ok0 := ok.len0
  have ok2 := ok.len2
  have ok0' := ok'.len0
  have ok2' := ok'.len2
  have okA := ok.a
  have okD := ok.d
  have okA' := ok'.a
  have okD' := ok'.d
  refine wpAny_call ?_
  refine' code_defC (binds := [(Str.ofString "frame", .ref x), (Str.ofString "ahead", .ref la), (Str.ofString "later", .ref x'), (Str.ofString "found", .ref gx), (Str.ofString "size", .ref ts)]) ?k1 ?k2 ?k3 ?k4 ?k5 ?kA ?kF ?kK ?k6 ?k7 ?k8 ?k9 ?kB ?kD ?_ ?c2 ?c3 ?c4
  (case kA => exact rfl); (case kF => exact rfl); (case kK => assumption); (case k1 => k_asm); (case k2 => k_asm); (case k3 => k_asm); (case k4 => k_asm); (case k5 => k_asm); (case k6 => k_is); (case k7 => k_is); (case k8 => ktr_room)
  (case k9 => exact BindsTo.of_eq rfl); (case kB => exact rfl); (case kD => decide +kernel); (case c2 => exact rfl); (case c3 => exact rfl); (case c4 => exact rfl)
  intro g' L' h' tk' cells' FG' F' N' Y' B' X' T' l9
  k_cells Y'
  (try simp only [List.cons_append, List.nil_append] at N')
  (try dsimp only)
  (try k_fold)
  have h5 : (shownD f G)[(5 : Int).toNat]? = some (.list (f.cs.map compD)) := rfl
  have h5' : (shownD f' G)[(5 : Int).toNat]? = some (.list (f.cs.map compD)) := by rw [← hcs]; rfl
  have hvs' : vs'.length ≤ 2 := by rw [hcv'.1]; exact ok'.len2
  rename_i oh0 ow0 op0 oa dh0 dw0 dp0 da
  have da' : oa.data = .cell (some (.ref la)) := da
  k_steps
  rename Fr _ _ _ _ => F1
  rename News _ _ _ _ => N1
  rename IsRange _ _ _ _ _ _ _ _ => hr
  have N0 : News g' L' _ ((L' + 1 + 1, op0) :: (L' + 1 + 1 + 1, ow0) :: (L' + 1 + 1 + 1 + 1, oh0) :: (L' + 1, oa) :: news) := fun p hp => N1 p (by
    rcases List.mem_cons.mp hp with rfl | hp
    · k_mem
    · rcases List.mem_cons.mp hp with rfl | hp
      · k_mem
      · rcases List.mem_cons.mp hp with rfl | hp
        · k_mem
        · rcases List.mem_cons.mp hp with rfl | hp
          · k_mem
          · k_mem)
  refine for_rangeT hr (n := vs'.length) (hf := []) (range_small (by omega)) (range_sz _) (.inl ⟨rfl, rfl⟩) F1 N0 (fun b hb => nomatch hb)
    (fun i m nx => Kept ["high", "due"] _ m ∧ PartJ news (L' + 1, oa) (L' + 1 + 1) (L' + 1 + 1 + 1) (L' + 1 + 1 + 1 + 1) nx) ⟨Kept.refl, op0, ow0, oh0, _, _, _, rfl, dp0, dw0, dh0⟩ ?turn ?done
  case turn =>
    intro i t s3 own nx m₁ I oI hi hJ9 hI hown hIn F1 N1
    refine via fun X9 hX9 => ?_
    obtain ⟨⟨u, rfl⟩, op, ow, oh, p0, w0, h0', rfl, hop, how, hoh⟩ := hJ9
    refine hX9 ?_
    clear hX9 X9
    simp only [List.cons_append, List.nil_append, List.append_assoc] at N1
    have hi2 : (0:Int) + (i:Nat) < 2 := by omega
    have e0 : ((0 : Int) + (i : Nat)).toNat = i := by omega
    refine via fun X9 hX9 => ?_
    obtain ⟨c, hc⟩ : ∃ c, f'.cs[((0:Int) + (i:Nat)).toNat]? = some c := ⟨_, List.getElem?_eq_getElem (by rw [hcv'.1] at hi; omega)⟩
    refine hX9 ?_
    clear hX9 X9
    have hcf : f.cs[((0:Int) + (i:Nat)).toNat]? = some c := by rw [← hcs]; exact hc
    have hca := ok.acr c (List.mem_of_getElem? hcf)
    have hcd := ok.dwn c (List.mem_of_getElem? hcf)
    have hpw := ok.pw (List.mem_of_getElem? hcf)
    have hph := ok.ph (List.mem_of_getElem? hcf)
    have hpw' := ok'.pw (List.mem_of_getElem? hc)
    have hph' := ok'.ph (List.mem_of_getElem? hc)
    refine via fun X9 hX9 => ?_
    obtain ⟨HH, hH⟩ : ∃ H : Nat, mH f * c.down = (H : Int) := ⟨(pH f c).toNat, (Int.toNat_of_nonneg (Int.le_trans (by decide) hph.1)).symm⟩
    obtain ⟨W, hW⟩ : ∃ W : Nat, mW f * c.across = (W : Int) := ⟨(pW f c).toNat, (Int.toNat_of_nonneg (Int.le_trans (by decide) hpw.1)).symm⟩
    refine hX9 ?_
    clear hX9 X9
    have hW1 : 1 ≤ W ∧ W ≤ 4 := by rw [pW, hW] at hpw; omega
    have hH1 : 1 ≤ HH ∧ HH ≤ 4 := by rw [pH, hH] at hph; omega
    refine via fun X9 hX9 => ?_
    obtain ⟨H', hH'⟩ : ∃ H : Nat, mH f' * c.down = (H : Int) := ⟨(pH f' c).toNat, (Int.toNat_of_nonneg (Int.le_trans (by decide) hph'.1)).symm⟩
    obtain ⟨W', hW'⟩ : ∃ W : Nat, mW f' * c.across = (W : Int) := ⟨(pW f' c).toNat, (Int.toNat_of_nonneg (Int.le_trans (by decide) hpw'.1)).symm⟩
    refine hX9 ?_
    clear hX9 X9
    have hW1' : 1 ≤ W' ∧ W' ≤ 4 := by rw [pW, hW'] at hpw'; omega
    have hH1' : 1 ≤ H' ∧ H' ≤ 4 := by rw [pH, hH'] at hph'; omega
    have hWf : W' ≤ W := by have := Int.mul_le_mul_of_nonneg_right hw' (show 0 ≤ c.across by omega); rw [hW', hW] at this; omega
    have hHf : H' ≤ HH := by have := Int.mul_le_mul_of_nonneg_right hh' (show 0 ≤ c.down by omega); rw [hH', hH] at this; omega
    have hW2 := hW'
    have hH2 := hH'
    have hoI : ∀ q ∈ own, q.1 = I := fun q hq => (hown q hq).elim id fun h => nomatch h
    have sep : ∀ a, (a = L' + 1 + 1 ∨ a = L' + 1 + 1 + 1 ∨ a = L' + 1 + 1 + 1 + 1) → L' + 1 ≠ a ∧ (∀ p ∈ news, p.1 ≠ a) ∧ (∀ p ∈ own, p.1 ≠ a) := by
      intro a ha
      refine ⟨?_, fun p hp => ?_, fun p hp => ?_⟩
      · rcases ha with rfl | rfl | rfl <;> (intro h; exact absurd h (by simp [Nat.add_assoc]))
      · have h3 := l9 p hp
        rcases ha with rfl | rfl | rfl
        · exact Nat.ne_of_lt (Nat.lt_succ_of_lt (Nat.lt_succ_of_lt h3))
        · exact Nat.ne_of_lt (Nat.lt_succ_of_lt (Nat.lt_succ_of_lt (Nat.lt_succ_of_lt h3)))
        · exact Nat.ne_of_lt (Nat.lt_succ_of_lt (Nat.lt_succ_of_lt (Nat.lt_succ_of_lt (Nat.lt_succ_of_lt h3))))
      · rw [hoI p hp]
        rcases ha with rfl | rfl | rfl
        · exact (hIn _ mem_hd).symm
        · exact (hIn _ (mem_tl mem_hd)).symm
        · exact (hIn _ (mem_tl (mem_tl mem_hd))).symm
    refine via fun X9 hX9 => ?_
    obtain ⟨sa1, sa2, sa3⟩ := sep _ (.inl rfl)
    obtain ⟨sb1, sb2, sb3⟩ := sep _ (.inr (.inl rfl))
    obtain ⟨sc1, sc2, sc3⟩ := sep _ (.inr (.inr rfl))
    refine hX9 ?_
    clear hX9 X9
    have q1 : L' + 1 + 1 ≠ L' + 1 + 1 + 1 := Nat.ne_of_lt (Nat.lt_succ_self _)
    have q2 : L' + 1 + 1 ≠ L' + 1 + 1 + 1 + 1 := Nat.ne_of_lt (Nat.lt_succ_of_lt (Nat.lt_succ_self _))
    have q3 : L' + 1 + 1 + 1 ≠ L' + 1 + 1 + 1 + 1 := Nat.ne_of_lt (Nat.lt_succ_self _)
    have q1' := q1.symm
    have q2' := q2.symm
    have q3' := q3.symm
    have h6 : (shownD f G)[(6 + (0 + (i : Int))).toNat]? = some (.list (planeD f G i)) := by
      rw [show (6 + (0 + (i : Int))).toNat = 6 + i by omega]; exact shown_at (by have := (List.getElem?_eq_some_iff.mp hcf).1; omega)
    have h6' : (shownD f' G)[(6 + (0 + (i : Int))).toNat]? = some (.list (planeD f' G i)) := by
      rw [show (6 + (0 + (i : Int))).toNat = 6 + i by omega]; exact shown_at (by have := (List.getElem?_eq_some_iff.mp hc).1; omega)
    have hWH : W' * H' ≤ 4 * 4 := Nat.mul_le_mul hW1'.2 hH1'.2
    have hcf2 := hcf
    rw [e0] at hcf2
    k_steps
    rename_i op1 dp1 hh4 tk4 tl9 ha9 tp9 t9 t9' hm9 qq1 qq2 hh5 hh6 ow1 dw1 hh7 tkk1 hh8 tk8 tl8 ha8 tp8 t8 t8' hm8 hh10 oh1 FF NN dh1 hh11 tkk ta ua va hr2 F2 N2 hzz2
    rw [← Int.natCast_mul] at hr2
    refine' comp_rangeR (n := W' * H') (hf := []) hr2 (range_small (by omega)) (range_sz _) (.inl ⟨rfl, rfl⟩) F2 N2 (fun b hb => nomatch hb) ?k1 ?k2 ?k3 ?T ?hz (G := fun n ys nx => (∀ p ∈ news, p ∈ nx) ∧ (L' + 1, oa) ∈ nx ∧ (L' + 1 + 1, op1) ∈ nx ∧ (L' + 1 + 1 + 1, ow1) ∈ nx ∧ (L' + 1 + 1 + 1 + 1, oh1) ∈ nx ∧ DatAll news ys ((List.range n).map fun s => blkD (G i (s / W') (s % W')))) ?hG0 (ItemsDoneR.assign ?k4 ?k5 ?k6 ?D)
    (case k1 => exact rfl); (case k2 => decide); (case k3 => exact rfl); (case k4 => exact rfl); (case k5 => exact rfl); (case k6 => exact rfl)
    case hz => rw [sizeLine_eq]; omega
    case hG0 => exact ⟨fun p hp => by k_mem, by k_mem, by k_mem, by k_mem, by k_mem, .nil⟩
    case T =>
      clear hf hf' hg hx hdx hcl hx' hdx' hcl' hgx hgd
      intro n h tk ys nx led mC C oC hi hv hs' hC hG F N hn E'
      refine via fun X9 hX9 => ?_
      obtain ⟨vv, ⟨hn1, tv, rfl⟩, hmv⟩ := hv
      obtain ⟨g1, g2, g3, g4, g5, g6⟩ := hG
      refine hX9 ?_
      clear hX9 X9
      have g2' := hs' _ g2
      have g3' := hs' _ g3
      have g4' := hs' _ g4
      have g5' := hs' _ g5
      have g1' : ∀ p ∈ news, p ∈ led := fun p hp => hs' _ (g1 p hp)
      have hy : n / W' < HH := Nat.lt_of_lt_of_le (Nat.div_lt_of_lt_mul hn1) hHf
      have hx : n % W' < W := Nat.lt_of_lt_of_le (Nat.mod_lt _ (by omega)) hWf
      have hidx := plane_at (G := G) hcf2 hW hH hy hx
      have hid : Int.fdiv (0 + (n : Int)) (W' : Int) * (mW f * c.across) + Int.fmod (0 + (n : Int)) (W' : Int) = ((n / W' * W + n % W' : Nat) : Int) := by rw [fd_nat, fm_nat, hW, Int.natCast_add, Int.natCast_mul]
      rw [show n / W' * W + n % W' = (Int.fdiv (0 + (n : Int)) (W' : Int) * (mW f * c.across) + Int.fmod (0 + (n : Int)) (W' : Int)).toNat by rw [hid, Int.toNat_natCast]] at hidx
      have hlt : n / W' * W + n % W' < 16 := Nat.lt_of_lt_of_le (Nat.lt_of_lt_of_le (Nat.add_lt_add_left hx _) (by rw [← Nat.succ_mul]; exact Nat.mul_le_mul_right _ hy)) (Nat.mul_le_mul hH1.2 hW1.2)
      have i0 : 0 ≤ Int.fdiv (0 + (n : Int)) (W' : Int) * (mW f * c.across) + Int.fmod (0 + (n : Int)) (W' : Int) := by rw [hid]; omega
      have i1 : Int.fdiv (0 + (n : Int)) (W' : Int) * (mW f * c.across) + Int.fmod (0 + (n : Int)) (W' : Int) < 2 ^ 63 := by rw [hid]; omega
      have j0 : 0 ≤ Int.fdiv (0 + (n : Int)) (W' : Int) := by rw [fd_nat]; exact Int.natCast_nonneg _
      have j1 : Int.fdiv (0 + (n : Int)) (W' : Int) < 1000 := by
        have h9 : n / W' < 1000 := Nat.lt_of_le_of_lt (Nat.div_le_self n W') (by omega)
        rw [fd_nat]; show ((n / W' : Nat) : Int) < ((1000 : Nat) : Int); exact Int.ofNat_lt.mpr h9
      k_steps
      rename DatIn _ _ _ => hc9
      rename Fr _ _ _ _ => F3
      rename News _ _ _ _ => N3
      refine ⟨_, _, [], rfl, F3, N3, Abv.nil, g1, g2, g3, g4, g5, ?_⟩
      rw [List.range_succ, List.map_append]
      exact g6.append (.one hc9)
    case D =>
      intro D h2 tk2 ys2 tl2 nD2 hlen2 F N hab2 hne2 hG2
      refine via fun X9 hX9 => ?_
      obtain ⟨g1, g2, g3, g4, g5, g6⟩ := hG2
      refine hX9 ?_
      clear hX9 X9
      have hpl : planeD f' G i = (List.range (W' * H')).map fun s => blkD (G i (s / W') (s % W')) := by
        rw [e0] at hc
        unfold planeD
        rw [hc]
        simp only [pW, pH, hW', hH', Int.toNat_natCast, Nat.mul_comm H' W']
      rw [← hpl] at g6
      have hdue : DatIn ((D, listOf ys2.toArray nD2) :: _) (.ref D) (.list (planeD f' G i)) := .list mem_hd (g6.mono fun p hp => mem_tl (g1 p hp))
      k_steps
      rename Fr _ _ _ _ => F7
      rename News _ _ _ _ => N7
      refine ⟨rfl, _, _, _, (L' + 1 + 1, op1) :: (L' + 1 + 1 + 1, ow1) :: (L' + 1 + 1 + 1 + 1, oh1) :: (L' + 1, oa) :: news, rfl, F7, fun p hp => N7 p ?_, fun p hp => ?_, Kept.step (Kept.step ⟨u, rfl⟩ (by decide)) (by decide), op1, ow1, oh1, _, _, _, rfl, dp1, dw1, dh1⟩
      · simp only [List.cons_append] at hp
        rcases List.mem_cons.mp hp with rfl | hp
        · k_mem
        · rcases List.mem_cons.mp hp with rfl | hp
          · k_mem
          · rcases List.mem_cons.mp hp with rfl | hp
            · k_mem
            · rcases List.mem_cons.mp hp with rfl | hp
              · k_mem
              · rcases List.mem_append.mp hp with hp | hp <;> k_mem
      · rcases List.mem_cons.mp hp with rfl | hp
        · exact hIn (_, op) mem_hd
        · rcases List.mem_cons.mp hp with rfl | hp
          · exact hIn (_, ow) (mem_tl mem_hd)
          · rcases List.mem_cons.mp hp with rfl | hp
            · exact hIn (_, oh) (mem_tl (mem_tl mem_hd))
            · exact hIn p (mem_tl (mem_tl (mem_tl hp)))
  case done =>
    intro h tk m₁ nx hJ9 F1 N1
    refine via fun X9 hX9 => ?_
    obtain ⟨⟨u, rfl⟩, op, ow, oh, p0, w0, h0', rfl, hop, how, hoh⟩ := hJ9
    refine hX9 ?_
    clear hX9 X9
    k_steps
    rename Fr _ _ _ _ => F7
    rename News _ _ _ _ => N7
    exact hret _ news _ _ (by k_asm) (fun p hp => N7 p (mem_tl (mem_tl (mem_tl (mem_tl hp))))) ⟨grow_nil, rfl⟩
/-! C19 -/
/-- one side of the picture: what is left of it, and what a second cut does -/
def SideOk (m s : Int) (t : Bool) : Prop :=
  let M := (s + 2 * m - 1) / (2 * m)
  let a := cutN t s (m * 2) M
  let s' := leftN t s (2 * m)
  let M' := (s' + 2 * m - 1) / (2 * m)
  min (a * (m * 2)) s = s' ∧ 0 ≤ a ∧ (1 ≤ a ↔ s' ≠ 0) ∧ 0 ≤ s' ∧ s' < 100 ∧
    (1 ≤ a → (s' = 2 * m * 1 - 0 ∨ s' = 2 * m * 1 - 1 ∨ s' = 2 * m * 2 - 0 ∨ s' = 2 * m * 2 - 1) ∧ M' ≤ M ∧ 1 ≤ cutN t s' (m * 2) M' ∧ min (cutN t s' (m * 2) M' * (m * 2)) s' = s') ∧
    (s' = s ↔ (t = true → s.fmod (m * 2) = 0)) ∧ (t = true → s'.fmod (m * 2) = 0)
theorem side_ok {m s k e : Int} {t : Bool} (hm : 0 < m ∧ m ≤ 2) (hk : 1 ≤ k ∧ k ≤ 2) (he : 0 ≤ e ∧ e ≤ 1) (hs : s = 2 * m * k - e) : SideOk m s t := by
  have h1 : m = 1 ∨ m = 2 := by omega
  have h2 : k = 1 ∨ k = 2 := by omega
  have h3 : e = 0 ∨ e = 1 := by omega
  rcases h1 with rfl | rfl <;> rcases h2 with rfl | rfl <;> rcases h3 with rfl | rfl <;> subst hs <;> cases t <;> (unfold SideOk; dsimp only; decide +kernel)
/-- the frame that is left -/
def leftF (f : FrameD) (ta td : Bool) : FrameD := ⟨leftN td f.height (2 * mD f), leftN ta f.width (2 * mA f), f.cs⟩
theorem FrameOk.sideW {f : FrameD} (ok : FrameOk f) (ta : Bool) : SideOk (mA f) f.width ta := by
  obtain ⟨k, e, h1, h2, h3, h4, h5⟩ := ok.wid
  exact side_ok ok.a ⟨h1, h2⟩ ⟨h3, h4⟩ h5
theorem FrameOk.sideH {f : FrameD} (ok : FrameOk f) (td : Bool) : SideOk (mD f) f.height td := by
  obtain ⟨k, e, h1, h2, h3, h4, h5⟩ := ok.hei
  exact side_ok ok.d ⟨h1, h2⟩ ⟨h3, h4⟩ h5
theorem side_form {m s : Int} (h : s = 2 * m * 1 - 0 ∨ s = 2 * m * 1 - 1 ∨ s = 2 * m * 2 - 0 ∨ s = 2 * m * 2 - 1) : ∃ k e : Int, 1 ≤ k ∧ k ≤ 2 ∧ 0 ≤ e ∧ e ≤ 1 ∧ s = 2 * m * k - e := by
  rcases h with h | h | h | h
  · exact ⟨1, 0, by decide, by decide, by decide, by decide, h⟩
  · exact ⟨1, 1, by decide, by decide, by decide, by decide, h⟩
  · exact ⟨2, 0, by decide, by decide, by decide, by decide, h⟩
  · exact ⟨2, 1, by decide, by decide, by decide, by decide, h⟩
theorem leftF_ok {f : FrameD} (ok : FrameOk f) {ta td : Bool} (ha : 1 ≤ cutN ta f.width (mA f * 2) (mW f)) (hd : 1 ≤ cutN td f.height (mD f * 2) (mH f)) : FrameOk (leftF f ta td) ∧ mW (leftF f ta td) ≤ mW f ∧ mH (leftF f ta td) ≤ mH f := by
  obtain ⟨_, _, _, _, _, hW, _, _⟩ := ok.sideW ta
  obtain ⟨_, _, _, _, _, hH, _, _⟩ := ok.sideH td
  obtain ⟨w1, w2, _, _⟩ := hW ha
  obtain ⟨h1, h2, _, _⟩ := hH hd
  exact ⟨⟨ok.len0, ok.len2, ok.acr, ok.dwn, side_form w1, side_form h1⟩, w2, h2⟩
theorem leftF_eq {f : FrameD} (ok : FrameOk f) {ta td : Bool} : leftF f ta td = ⟨min (cutN td f.height (mD f * 2) (mH f) * (mD f * 2)) f.height, min (cutN ta f.width (mA f * 2) (mW f) * (mA f * 2)) f.width, f.cs⟩ := by
  have h1 := (ok.sideW ta).1
  have h2 := (ok.sideH td).1
  rw [h1, h2]; rfl
/-- trimmed once more it is the same -/
theorem leftF_twice {f : FrameD} (ok : FrameOk f) {ta td : Bool} (ha : 1 ≤ cutN ta f.width (mA f * 2) (mW f)) (hd : 1 ≤ cutN td f.height (mD f * 2) (mH f)) :
    (1 ≤ cutN ta (leftF f ta td).width (mA (leftF f ta td) * 2) (mW (leftF f ta td)) ∧ 1 ≤ cutN td (leftF f ta td).height (mD (leftF f ta td) * 2) (mH (leftF f ta td))) ∧
    leftF f ta td = ⟨min (cutN td (leftF f ta td).height (mD (leftF f ta td) * 2) (mH (leftF f ta td)) * (mD (leftF f ta td) * 2)) (leftF f ta td).height, min (cutN ta (leftF f ta td).width (mA (leftF f ta td) * 2) (mW (leftF f ta td)) * (mA (leftF f ta td) * 2)) (leftF f ta td).width, (leftF f ta td).cs⟩ := by
  obtain ⟨_, _, _, _, _, hW, _, _⟩ := ok.sideW ta
  obtain ⟨_, _, _, _, _, hH, _, _⟩ := ok.sideH td
  obtain ⟨_, _, w3, w4⟩ := hW ha
  obtain ⟨_, _, h3, h4⟩ := hH hd
  refine ⟨⟨w3, h3⟩, ?_⟩
  show leftF f ta td = ⟨min (cutN td (leftN td f.height (2 * mD f)) (mD f * 2) _ * (mD f * 2)) (leftN td f.height (2 * mD f)), min (cutN ta (leftN ta f.width (2 * mA f)) (mA f * 2) _ * (mA f * 2)) (leftN ta f.width (2 * mA f)), f.cs⟩
  exact (congr (congrArg (fun x y => FrameD.mk x y f.cs) h4) w4).symm
theorem leftF_whole {f : FrameD} (ok : FrameOk f) {ta td : Bool} : (ta = true → (leftF f ta td).width.fmod (mA (leftF f ta td) * 2) = 0) ∧ (td = true → (leftF f ta td).height.fmod (mD (leftF f ta td) * 2) = 0) :=
  ⟨(ok.sideW ta).2.2.2.2.2.2.2, (ok.sideH td).2.2.2.2.2.2.2⟩
theorem TurnOk.lists {wd : Str} {ta td : Bool} (h : TurnOk wd ta td) : ([Str.ofString "mirror", Str.ofString "back", Str.ofString "cross", Str.ofString "left"] : List Str).any (· == wd) = ta ∧ ([Str.ofString "flip", Str.ofString "back", Str.ofString "cross", Str.ofString "right"] : List Str).any (· == wd) = td := by cases h <;> decide
theorem turns8 {t1 t2 t3 t4 t5 t6 t7 t8 : Tok} {i : Nat} {r : Value} (h : [Value.str (Str.ofString "back") t1, Value.str (Str.ofString "right") t2, Value.str (Str.ofString "left") t3, Value.str (Str.ofString "mirror") t4, Value.str (Str.ofString "flip") t5, Value.str (Str.ofString "swap") t6, Value.str (Str.ofString "cross") t7, Value.str (Str.ofString "stay") t8][i]? = some r) : ∃ wd t ta td, r = .str wd t ∧ TurnOk wd ta td := by
  match i, h with
  | 0, h => cases h; exact ⟨_, _, _, _, rfl, .back⟩
  | 1, h => cases h; exact ⟨_, _, _, _, rfl, .right⟩
  | 2, h => cases h; exact ⟨_, _, _, _, rfl, .left⟩
  | 3, h => cases h; exact ⟨_, _, _, _, rfl, .mirror⟩
  | 4, h => cases h; exact ⟨_, _, _, _, rfl, .flip⟩
  | 5, h => cases h; exact ⟨_, _, _, _, rfl, .swap⟩
  | 6, h => cases h; exact ⟨_, _, _, _, rfl, .cross⟩
  | 7, h => cases h; exact ⟨_, _, _, _, rfl, .stay⟩
  | n + 8, h => simp at h
/-- lists of just two ints are not in it -/
def two : List Dat → Bool
  | [.int _, .int _] => true
  | _ => false
noncomputable def av : Nat → Dat → Bool
  | n + 1, .list ds => !two ds && ds.all (av n)
  | n + 1, .tuple ds => ds.all (av n)
  | _, .list _ => false
  | _, .tuple _ => false
  | _, _ => true
mutual
theorem datIn_av {news news' : Led} (hs : ∀ p ∈ news, p ∈ news' ∨ ∃ a b ta tb k, p.2 = PySem.W.listOf #[Value.int a ta, Value.int b tb] k) : ∀ {v : Value} {d : Dat} (n : Nat), DatIn news v d → av n d = true → DatIn news' v d
  | _, _, _, .none, _ => .none
  | _, _, _, .bool b, _ => .bool b
  | _, _, _, .int i t, _ => .int i t
  | _, _, _, .str x t, _ => .str x t
  | _, _, _, .bytes b t, _ => .bytes b t
  | _, _, 0, .tuple _ _, h => by simp [av] at h
  | _, _, 0, .list _ _, h => by simp [av] at h
  | _, _, n + 1, .tuple hm r, h => .tuple ((hs _ hm).elim id fun ⟨_, _, _, _, _, e⟩ => by have := congrArg Obj.cls e; simp [PySem.W.listOf] at this) (datAll_av hs n r (by simpa [av] using h))
  | _, _, n + 1, .list (vs := vs) (ds := ds) hm r, h => by
    rw [av, Bool.and_eq_true] at h
    refine .list ((hs _ hm).elim id fun ⟨a, b, ta, tb, k, e⟩ => ?_) (datAll_av hs n r (by simpa using h.2))
    have e1 : vs.toArray = #[Value.int a ta, Value.int b tb] := by injection e with _ _ e; injection e
    have e2 : vs = [Value.int a ta, Value.int b tb] := by have := congrArg Array.toList e1; simpa using this
    subst e2
    cases r with
    | cons h1 r => cases h1; cases r with
      | cons h2 r => cases h2; cases r; simp [two] at h
theorem datAll_av {news news' : Led} (hs : ∀ p ∈ news, p ∈ news' ∨ ∃ a b ta tb k, p.2 = PySem.W.listOf #[Value.int a ta, Value.int b tb] k) : ∀ {vs : List Value} {ds : List Dat} (n : Nat), DatAll news vs ds → (∀ d ∈ ds, av n d = true) → DatAll news' vs ds
  | _, _, _, .nil, _ => .nil
  | _, _, n, .cons h r, ha => .cons (datIn_av hs n h (ha _ (.head _))) (datAll_av hs n r fun d hd => ha d (.tail _ hd))
end
theorem two_lists {α : Type} (l : List α) (g : α → List Dat) : two (l.map fun x => .list (g x)) = false := by
  match l with
  | [] => rfl
  | [_] => rfl
  | [_, _] => rfl
  | _ :: _ :: _ :: _ => rfl
theorem av_blk {l : List Int} (h : l.length = 4) (n : Nat) : av (n + 1) (blkD l) = true := by
  match l, h with
  | [a, b, c, d], _ => simp [av, two]
theorem shown_av {f : FrameD} {G : Nat → Nat → Nat → List Int} (hG4 : ∀ k y x, (G k y x).length = 4) : av 5 (.list (shownD f G)) = true := by
  have hp : ∀ k, av 4 (.list (planeD f G k)) = true := fun k => by
    unfold planeD
    split
    · rw [av, two_lists]
      simp only [Bool.not_false, Bool.true_and, List.all_map, List.all_eq_true]
      exact fun s _ => av_blk (hG4 _ _ _) 2
    · rfl
  have hc : av 4 (.list (f.cs.map compD)) = true := by
    rw [av, show f.cs.map compD = f.cs.map (fun c => Dat.list [.int c.ident, .int c.across, .int c.down, .int c.quant]) from rfl, two_lists]
    simp only [Bool.not_false, Bool.true_and, List.all_map, List.all_eq_true]
    exact fun c _ => by simp [av, two]
  have ht : two (shownD f G) = false := rfl
  rw [av, ht]
  simp only [Bool.not_false, Bool.true_and, shownD, headD, List.all_append, List.all_cons, List.all_nil, hc, List.all_map, Bool.and_true, Bool.and_eq_true, List.all_eq_true]
  exact ⟨⟨rfl, rfl, rfl, rfl, rfl⟩, fun k _ => hp k⟩
/-! C20 -/
section
variable {b : Nat} {f : Addr} {vs : List Value} {post : Value → Led → Prop} {c : Prop} {cls : Value}
    {dp un : Nat} {gd : Option (List Code)} {cn : Str} {cs : Scope} {a : Addr} {ccd : Value} {cl : List (Str × Addr)} {outer : List Env} {A₀ : Around} {base h₀ : Heap} {L : Addr} {m : Str → Option Value} {s : Shared} {Q E : Value → Shared → Prop}
theorem SpecL.use {l : Addr} {items : Array Value} (S : SpecL b w mean mg mb l items f vs news post)
    (B : Below A₀ base outer h₀) (F : Fr h₀ L s.heap m) (X : (hd.heap_39 w.params).In h₀) (N : News h₀ L s.heap news) (T : Top hd.view_39 (looseW hd.view_39 []) mean mg mb h₀) (hL : h₀.IsList l items) (hk : cs.kind = .function) (hdp : dp + b < recursionLimit) (hun : un + 8 * b < cLine)
    (ret : ∀ r news' h' tk', Fr h₀ L h' m → News h₀ L h' news' → post r news' → Q r { s with heap := h', toks := tk' }) :
    wpAny (model PySem.Challenge.rw_nz0246_01.row.prog w) (Ar none dp un gd cn cs L a ccd cl outer) (call (.ref f) vs) Q E s := S dp un gd cn cs a ccd cl outer A₀ base h₀ L m s Q E B F X N T hL hk hdp hun ret
theorem SpecX.ret (S : SpecX b w mean mg mb f vs news c cls post) (hc : c) : Spec b w mean mg mb none f vs news post :=
  fun dp un gd cn cs a ccd cl outer A₀ base h₀ L m s Q E B F X N T hk hdp hun hr => S dp un gd cn cs a ccd cl outer A₀ base h₀ L m s Q E B F X N T hk hdp hun (fun _ => hr) fun h => absurd hc h
theorem SpecX.exc (S : SpecX b w mean mg mb f vs news c cls post) (hc : ¬ c)
    (B : Below A₀ base outer h₀) (F : Fr h₀ L s.heap m) (X : (hd.heap_39 w.params).In h₀) (N : News h₀ L s.heap news) (T : Top hd.view_39 (looseW hd.view_39 []) mean mg mb h₀) (hk : cs.kind = .function) (hdp : dp + b < recursionLimit) (hun : un + 8 * b < cLine)
    (hE : ∀ e g h' tk', Fr h₀ L g m → g.UpToSlots h' → RaisedV base (envX cn cs L a ccd cl :: outer) e cls news h' → E (.ref e) { s with heap := h', toks := tk' }) :
    wpAny (model PySem.Challenge.rw_nz0246_01.row.prog w) (Ar none dp un gd cn cs L a ccd cl outer) (call (.ref f) vs) Q E s := S dp un gd cn cs a ccd cl outer A₀ base h₀ L m s Q E B F X N T hk hdp hun (fun h => absurd h hc) fun _ => hE
end
theorem Spec.tail {vs : List Value} {fa b : Nat} {f : FrameD} {G : Nat → Nat → Nat → List Int}
    (S : Spec b w mean mg mb hdl fa vs news (fun r n' => (∀ p ∈ news, p ∈ n') ∧ ∃ tp lv gv', r = .ref tp ∧ (tp, tupOf #[lv, gv']) ∈ n' ∧ FrameObj w.params n' lv f ∧ GridObj w.params n' gv' f G)) :
    Spec b w mean mg mb hdl fa vs news (fun r n' => ∃ tl, n' = tl ++ news ∧ ∃ tp lv gv', r = .ref tp ∧ (tp, tupOf #[lv, gv']) ∈ n' ∧ FrameObj w.params n' lv f ∧ GridObj w.params n' gv' f G) :=
  Spec.over S (fun _ _ _ => .inr trivial) (fun p hp => hp) fun r n' ⟨hs, tp, lv, gv', e, hm, hf, hg⟩ => ⟨n' ++ news, fun p hp => (List.mem_append.mp hp).elim id (hs p), n', rfl, tp, lv, gv', e, mem_l hm, hf.mono fun p hp => mem_l hp, hg.mono fun p hp => mem_l hp⟩
theorem trimmed_ret {v gv : Value} {f : FrameD} {G : Nat → Nat → Nat → List Int} {wd : Str} {tw : Tok} {ta td : Bool} (hg : GridObj w.params news gv f G) (hG4 : ∀ k y x, (G k y x).length = 4) (hf : FrameObj w.params news v f) (ok : FrameOk f) (hw : TurnOk wd ta td)
    (hc : 1 ≤ cutN ta f.width (mA f * 2) (mW f) ∧ 1 ≤ cutN td f.height (mD f * 2) (mH f)) :
    Spec 14 w mean mg mb none 218 [gv, v, .str wd tw] news (fun r n' => ∃ tl, n' = tl ++ news ∧ ∃ tp lv gv', r = .ref tp ∧ (tp, tupOf #[lv, gv']) ∈ n' ∧ FrameObj w.params n' lv (leftF f ta td) ∧ GridObj w.params n' gv' (leftF f ta td) G) :=
  Spec.tail <| SpecX.ret (trimmed_spec hg hG4 hf ok hw rfl rfl (leftF_eq ok) fun h => leftF_ok ok h.1 h.2) hc
theorem trimmed_exc {v gv : Value} {f : FrameD} {G : Nat → Nat → Nat → List Int} {wd : Str} {tw : Tok} {ta td : Bool} (hg : GridObj w.params news gv f G) (hG4 : ∀ k y x, (G k y x).length = 4) (hf : FrameObj w.params news v f) (ok : FrameOk f) (hw : TurnOk wd ta td) :
    SpecX 14 w mean mg mb 218 [gv, v, .str wd tw] news (1 ≤ cutN ta f.width (mA f * 2) (mW f) ∧ 1 ≤ cutN td f.height (mD f * 2) (mH f)) (.ref 44) (fun r n' => (∀ p ∈ news, p ∈ n') ∧ ∃ tp lv gv', r = .ref tp ∧ (tp, tupOf #[lv, gv']) ∈ n' ∧ FrameObj w.params n' lv (leftF f ta td) ∧ GridObj w.params n' gv' (leftF f ta td) G) :=
  trimmed_spec hg hG4 hf ok hw rfl rfl (leftF_eq ok) fun h => leftF_ok ok h.1 h.2
theorem trimmed_twice {v gv : Value} {f : FrameD} {G : Nat → Nat → Nat → List Int} {wd : Str} {tw : Tok} {ta td : Bool} (hg : GridObj w.params news gv (leftF f ta td) G) (hG4 : ∀ k y x, (G k y x).length = 4) (hf : FrameObj w.params news v (leftF f ta td)) (hw : TurnOk wd ta td)
    (ok : FrameOk f) (hc : 1 ≤ cutN ta f.width (mA f * 2) (mW f) ∧ 1 ≤ cutN td f.height (mD f * 2) (mH f)) :
    Spec 14 w mean mg mb none 218 [gv, v, .str wd tw] news (fun r n' => ∃ tl, n' = tl ++ news ∧ ∃ tp lv gv', r = .ref tp ∧ (tp, tupOf #[lv, gv']) ∈ n' ∧ FrameObj w.params n' lv (leftF f ta td) ∧ GridObj w.params n' gv' (leftF f ta td) G) :=
  Spec.tail <| SpecX.ret (trimmed_spec hg hG4 hf (leftF_ok ok hc.1 hc.2).1 hw rfl rfl (leftF_twice ok hc.1 hc.2).2 fun _ => ⟨(leftF_ok ok hc.1 hc.2).1, Int.le_refl _, Int.le_refl _⟩) (leftF_twice ok hc.1 hc.2).1
theorem drop_src {tl n'' : Led} {src : Addr} {o : Obj} {v : Value} {f : FrameD} {G : Nat → Nat → Nat → List Int} (ho : SrcOk o) (hd : DatIn (tl ++ (src, o) :: n'') v (.list (shownD f G))) (hG4 : ∀ k y x, (G k y x).length = 4) : DatIn (tl ++ n'') v (.list (shownD f G)) := by
  obtain ⟨a, b, ta, tb, n0, rfl, _⟩ := ho
  refine datIn_av (fun p hp => ?_) 5 hd (shown_av hG4)
  rcases List.mem_append.mp hp with hp | hp
  · exact .inl (mem_l hp)
  · rcases List.mem_cons.mp hp with rfl | hp
    · exact .inr ⟨a, b, ta, tb, n0, rfl⟩
    · exact .inl (mem_r hp)
theorem FrameOk.bds {f : FrameD} (ok : FrameOk f) : 0 < f.cs.length ∧ f.cs.length ≤ 2 ∧ (0 < mA f ∧ mA f ≤ 2) ∧ (0 < mD f ∧ mD f ≤ 2) ∧ (0 < mx (f.cs.map fun x => x.across) ∧ mx (f.cs.map fun x => x.across) ≤ 2) ∧ (0 < mx (f.cs.map fun x => x.down) ∧ mx (f.cs.map fun x => x.down) ≤ 2) ∧ (0 ≤ f.width ∧ f.width < 100) ∧ (0 ≤ f.height ∧ f.height < 100) := by
  have hA := ok.a
  have hD := ok.d
  refine ⟨ok.len0, ok.len2, hA, hD, hA, hD, ?_, ?_⟩
  · obtain ⟨k, e, h1, h2, h3, h4, h5⟩ := ok.wid
    have h6 : k = 1 ∨ k = 2 := by omega
    rcases h6 with rfl | rfl <;> omega
  · obtain ⟨k, e, h1, h2, h3, h4, h5⟩ := ok.hei
    have h6 : k = 1 ∨ k = 2 := by omega
    rcases h6 with rfl | rfl <;> omega
open Classical in
theorem whole_dec {f : FrameD} (ok : FrameOk f) {ta td b : Bool} (hb : b = true ↔ (ta = true → f.width.fmod (mA f * 2) = 0) ∧ (td = true → f.height.fmod (mD f * 2) = 0)) :
    b = decide (Dat.tuple [.int (leftN ta f.width (2 * mA f)), .int (leftN td f.height (2 * mD f))] = Dat.tuple [.int f.width, .int f.height]) := by
  have h1 := (ok.sideW ta).2.2.2.2.2.2.1
  have h2 := (ok.sideH td).2.2.2.2.2.2.1
  rw [Bool.eq_iff_iff, hb, decide_eq_true_eq, ← h1, ← h2]
  simp
theorem cut_zero {f : FrameD} (ok : FrameOk f) {ta td : Bool} : (1 ≤ cutN ta f.width (mA f * 2) (mW f) ∧ 1 ≤ cutN td f.height (mD f * 2) (mH f)) ↔ ([leftN ta f.width (2 * mA f), leftN td f.height (2 * mD f)].any (· == 0)) = false := by
  have h1 := (ok.sideW ta).2.2.1
  have h2 := (ok.sideH td).2.2.1
  rw [h1, h2]
  simp
theorem split_cuts {f : FrameD} {wd : Str} {ta td : Bool} (hw : TurnOk wd ta td) (ok : FrameOk f) :
    ((1 ≤ cutN ta f.width (mA f * 2) (mW f) ∧ 1 ≤ cutN td f.height (mD f * 2) (mH f)) ∧ ([leftN ta f.width (2 * mx (f.cs.map fun x => x.across)), leftN td f.height (2 * mx (f.cs.map fun x => x.down))].any (· == 0)) = false ∧ FrameOk (leftF f ta td) ∧ mW (leftF f ta td) ≤ mW f ∧ mH (leftF f ta td) ≤ mH f ∧
      ((ta = true → (leftF f ta td).width.fmod (mA (leftF f ta td) * 2) = 0) ∧ (td = true → (leftF f ta td).height.fmod (mD (leftF f ta td) * 2) = 0))) ∨
    (¬ (1 ≤ cutN ta f.width (mA f * 2) (mW f) ∧ 1 ≤ cutN td f.height (mD f * 2) (mH f)) ∧ ([leftN ta f.width (2 * mx (f.cs.map fun x => x.across)), leftN td f.height (2 * mx (f.cs.map fun x => x.down))].any (· == 0)) = true) := by
  by_cases hc : 1 ≤ cutN ta f.width (mA f * 2) (mW f) ∧ 1 ≤ cutN td f.height (mD f * 2) (mH f)
  · obtain ⟨h1, h2, h3⟩ := leftF_ok ok hc.1 hc.2
    exact .inl ⟨hc, (cut_zero ok).mp hc, h1, h2, h3, leftF_whole ok⟩
  · refine .inr ⟨hc, ?_⟩
    cases hb : ([leftN ta f.width (2 * mx (f.cs.map fun x => x.across)), leftN td f.height (2 * mx (f.cs.map fun x => x.down))].any (· == 0)) with
    | true => rfl
    | false => exact absurd ((cut_zero ok).mpr hb) hc
theorem news_cut {h₀ h : Heap} {L : Addr} {big Z : Led} {v : Value} {d : Dat} (N : News h₀ L h big) (_h : DatIn Z v d) (hs : ∀ p ∈ Z, p ∈ big) : News h₀ L h Z := fun p hp => N p (hs p hp)
/-! C21 -/
section
theorem HOk.of9 {h₀ h : Heap} {L e : Addr} {oe : Obj} {vs : Array Value} {news : Led} (_N : News h₀ L h ((e, oe) :: news)) (hd : oe.data = .fields vs) (h2 : vs[2]? = some .none) : HOk (some (.ref e)) ((e, oe) :: news) := .inr ⟨e, oe, vs, rfl, mem_hd, hd, h2⟩
theorem in_L {prog : Program} {A : Around} {E : Value → Shared → Prop} {s : Shared} {h₀ : Heap} {L l : Addr} {vs : List Value} {nl : Nat} {ys : List Str} {x : Str} {u : Tok} {Q : Value → Shared → Prop} (b : Bool)
    (N : News h₀ L s.heap news) (hm : (l, listOf vs.toArray nl) ∈ news) (hi : StrsAre vs ys) (hb : ys.any (· == x) = b) (h : Q (.bool b) s) : wpAny (model prog w) A (compareOp .In (.str x u) (.ref l)) Q E s :=
  in_list_strs ⟨_, (N _ hm).1, rfl, nl, rfl⟩ hi (by rw [hb]; exact h)
theorem in_T {prog : Program} {A : Around} {E : Value → Shared → Prop} {s : Shared} {h₀ : Heap} {L l : Addr} {vs : List Value} {nl : Nat} {ys : List Int} {x : Int} {u : Tok} {Q : Value → Shared → Prop} (b : Bool)
    (N : News h₀ L s.heap news) (hm : (l, ({ cls := .type "tuple", data := .seq vs.toArray nl } : Obj)) ∈ news) (hi : IntsAre vs ys) (hb : ys.any (· == x) = b) (h : Q (.bool b) s) : wpAny (model prog w) A (compareOp .In (.int x u) (.ref l)) Q E s :=
  in_tuple_ints (items := vs.toArray) ⟨_, (N _ hm).1, rfl, _, rfl⟩ hi (by rw [hb]; exact h)
theorem ne_boolF {prog : Program} {A : Around} {E : Value → Shared → Prop} {s : Shared} {c d : Bool} {Q : Value → Shared → Prop} (e : c = d) (h : Q (.bool false) s) : wpAny (model prog w) A (compareOp .NotEq (.bool c) (.bool d)) Q E s := PyProof.Rows.ne_bool (by rw [e, bne_self_eq_false]; exact h)
local macro_rules | `(tactic| k_qdec) => `(tactic| first | exact names_ok | exact imps_ok)
theorem law_done : PySem.Challenge.rw_nz0246_01.Holds := by
  k_with_none
  (k_with "fr0" => exact FrameObj.mono (by assumption) (fun p9 h9 => by (repeat (first | exact h9 | (refine List.mem_append.mpr (Or.inr ?_)) | (refine List.Mem.tail _ ?_)))))
  (k_with "ho0" => exact HOk.mono (by assumption) (fun p9 h9 => by (repeat (first | exact h9 | (refine List.mem_append.mpr (Or.inr ?_)) | (refine List.Mem.tail _ ?_)))))
  (k_with "d" => first | exact roomD hdp rfl | exact roomD0 hdp rfl | ktr_room | omega)
  (k_with "u" => first | exact roomU hun rfl | exact roomU0 hun rfl | ktr_units | omega | (simp only [tc_units, units_deeper]; omega))
  (k_with "eval ListComp" => (k_here; with_unfolding_all refine' comp_start ?z9k1 ?z9k2 ?z9k3 ?_; (case z9k1 => exact rfl); (case z9k2 => exact rfl); (case z9k3 => decide)))
  (k_with "fr" => exact FrameObj.mono (by assumption) (fun p9 h9 => by k_mem))
  (k_with "ho" => exact HOk.mono (by assumption) (fun p9 h9 => by k_mem))
  (k_with "cm" => exact CompAll.mono (by assumption) (fun p9 h9 => by k_mem))
  (k_with "subscriptTail" => (k_here; with_unfolding_all refine' item_of ?z9hm ?z9N ?z9h0 ?z9h1 ?z9hx ?_ ?z9hs; (case z9N => k_asm); (case z9hm => k_mem); (case z9h0 => first | assumption | decide | omega); (case z9h1 => first | with_reducible assumption | decide | omega); (case z9hx => assumption); (case z9hs => with_unfolding_all rfl)))
  (k_with "call type:list" => (k_here; with_unfolding_all refine' copy_of ?z9F ?z9N ?z9hm ?z9hb ?_; (case z9F => k_asm); (case z9N => k_asm); (case z9hm => k_mem); (case z9hb => first | assumption | omega | simp); intro D9 c9 h9 F9 N9 hd9; revert D9 c9 h9 F9 N9 hd9; intro _ _ _ _ _ _; (try k_sweep); (try dsimp only); (try k_fold)))
  (k_with "call builtin:len" => (k_here; with_unfolding_all refine' len_of ?z9hm ?z9N ?z9hb ?_; (case z9N => k_asm); (case z9hm => k_mem); (case z9hb => first | omega | decide)))
  (k_with "call builtin:list.append" => (k_here; with_unfolding_all refine' append_of ?z9F ?z9N ?z9U ?z9z ?_; (case z9F => k_asm); (case z9N => k_asm); (case z9U => intro n'; k_upd); (case z9z => first | with_reducible assumption | decide | omega); intro h9 n9 F9 N9; (try simp only [List.cons_append, List.nil_append] at N9); revert h9 n9 F9 N9; intro _ _ _ _; (try dsimp only); (try k_fold)))
  (k_with "exec For Name Call cons nil" => (k_here; with_unfolding_all refine' for_startF ?z9lF ?z9k1 ?z9k2 ?_; (case z9lF => assumption); (case z9k1 => exact rfl); (case z9k2 => exact rfl)))
  (k_with "gr" => exact GridObj.mono (by assumption) (fun p9 h9 => by k_mem))
  (k_with "binaryOp Mult int int" => (k_here; with_unfolding_all refine PyProof.Rows.mul_int ?_ (mul_ok2 (by first | with_reducible assumption | omega) (by first | with_reducible assumption | omega))))
  (k_with "compareOp In str ref" => (k_here; with_unfolding_all refine' in_L _ ?z9N ?z9m ?z9i ?z9b ?_; (case z9N => k_asm); (case z9m => k_mem); (case z9i => kde_strs); (case z9b => with_reducible assumption)))
  (k_with "compareOp NotEq bool bool" => (k_here; with_unfolding_all refine' ne_boolF (whole_dec ?z9o ?z9h) ?_; (case z9h => assumption); (case z9o => assumption)))
  (k_with "CompGo" => (k_here; first   | (with_unfolding_all refine' comp_across ?z9X ?z9F ?z9N ?z9hm ?z9hcs ?z9hl (Or.inl rfl) ?z9hA ?z9k1 ?z9k2 ?z9k3 ?z9k4 ?_; (case z9X => k_asm); (case z9F => k_asm); (case z9N => k_asm); (case z9hm => k_mem); (case z9hcs => exact CompAll.mono (by assumption) (fun p9 h9 => by k_mem)); (case z9hl => assumption); (case z9hA => exact rfl); (case z9k1 => exact rfl); (case z9k2 => decide); (case z9k3 => exact rfl); (case z9k4 => decide); intro D9 h9 tk9 ys9 tl9 nD9 F9 N9 ha9 hi9; (have hd9 := abv_hd ha9); (replace ha9 := abv_tl ha9); (try dsimp only); (try k_fold))   | (with_unfolding_all refine' comp_down ?z9X ?z9F ?z9N ?z9hm ?z9hcs ?z9hl (Or.inl rfl) ?z9hA ?z9k1 ?z9k2 ?z9k3 ?z9k4 ?_; (case z9X => k_asm); (case z9F => k_asm); (case z9N => k_asm); (case z9hm => k_mem); (case z9hcs => exact CompAll.mono (by assumption) (fun p9 h9 => by k_mem)); (case z9hl => assumption); (case z9hA => exact rfl); (case z9k1 => exact rfl); (case z9k2 => decide); (case z9k3 => exact rfl); (case z9k4 => decide); intro D9 h9 tk9 ys9 tl9 nD9 F9 N9 ha9 hi9; (have hd9 := abv_hd ha9); (replace ha9 := abv_tl ha9); (try dsimp only); (try k_fold))))
  (k_with "call builtin:max" => (k_here; with_unfolding_all refine' max_of ?z9hm ?z9F ?z9N ?z9hi ?z9hne (Or.inl rfl) ?z9hA ?_; (case z9F => k_asm); (case z9N => k_asm); (case z9hm => k_mem); (case z9hi => assumption); (case z9hne => (simp only [List.length_map]; assumption)); (case z9hA => exact rfl); intro h9 t9 tk9 F9 N9; (try dsimp only); (try k_fold)))
  (k_with "execs cons Try" => (k_here; refine hold_in ?_))
  (k_with "compareOp Eq ref ref" => (k_here; with_unfolding_all refine' dat_eq ?z9N ?z9a ?z9s1 ?z9b ?z9s2 ?z9d ?z9d2 ?z9u ?_; (case z9N => k_asm); (case z9s1 => exact fun _ h => h); (case z9s2 => exact fun _ h => h); (case z9a => exact DatIn.tuple (by k_mem) (by kqd_all)); (case z9b => exact DatIn.tuple (by k_mem) (by kqd_all)); (case z9d => rfl); (case z9d2 => rfl); (case z9u => ke_room)))
  (k_with "call ref" => (k_here; with_unfolding_all refine' SpecL.use (pool_spec ?z9pI ?z9pl) ?z9uB ?z9uF ?z9uX ?z9uN ?z9uT ?z9uL ?z9uk ?z9ud ?z9uu ?_; (case z9uB => k_asm); (case z9uF => k_asm); (case z9uX => k_asm); (case z9uN => k_asm); (case z9uT => k_asm); (case z9uL => assumption); (case z9pI => assumption); (case z9pl => first | with_reducible assumption | decide | omega); (case z9uk => first | exact rfl | assumption); (case z9ud => first | ktr_room | omega); (case z9uu => first | ktr_units | omega); intro r9 n9 h9 tk9 F9 N9 hp9; obtain ⟨src9, o9, tl9, e9, e9', ho9, hne9⟩ := hp9; subst e9 e9'; (try k_sweep); (try dsimp only); (try k_fold)))
  (k_with "compareOp In int ref" => (k_here; with_unfolding_all refine' in_T _ ?z9N ?z9m ?z9i ?z9b ?_; (case z9N => k_asm); (case z9m => k_mem); (case z9i => exact .cons _ _ (.cons _ _ .nil)); (case z9b => with_reducible assumption)))
  (k_with "compareOp NotEq ref ref" => (k_here; with_unfolding_all refine' dat_neS ?z9N ?z9a ?z9s1 ?z9b ?z9s2 ?z9d ?z9u ?_; (case z9N => k_asm); (case z9a => with_reducible assumption); (case z9b => with_reducible assumption); (case z9s1 => exact fun p9 h9 => by k_mem); (case z9s2 => exact fun p9 h9 => by k_mem); (case z9d => exact shown_ok _ _); (case z9u => ke_room)))
  (k_with "compareOp Eq ref ref" => (k_here; with_unfolding_all refine' dat_eqS ?z9N ?z9a ?z9s1 ?z9b ?z9s2 ?z9d ?z9u ?_; (case z9N => k_asm); (case z9a => with_reducible assumption); (case z9b => with_reducible assumption); (case z9s1 => exact fun p9 h9 => by k_mem); (case z9s2 => exact fun p9 h9 => by k_mem); (case z9d => exact shown_ok _ _); (case z9u => ke_room)))
  (k_with "call ref" => (k_here; with_unfolding_all refine' Spec.go ?z9uB ?z9uF ?z9uX ?z9uN ?z9uT ?z9uk ?_; (case z9uB => k_asm); (case z9uF => k_asm); (case z9uX => k_asm); (case z9uN => k_asm); (case z9uT => k_asm); (case z9uk => first | exact rfl | assumption); (first | (refine' Go.mk (trimmed_ret ?z9pa ?z9pb ?z9pc ?z9pd ?z9pe ?z9pf) ?z9p8 ?z9p9 ?_; (case z9pa => k_extra "gr"); (case z9pb => assumption); (case z9pc => k_extra "fr"); (case z9pd => assumption); (case z9pe => assumption); (case z9pf => assumption); (case z9p8 => k_extra "d"); (case z9p9 => k_extra "u"); intro r9 n9 h9 tk9 F9 N9 hp9; refine via fun X9 hX9 => ?_; obtain ⟨tl9, e9, tp9, lv9, gv9, e9', hm9, hf9, hg9⟩ := hp9; subst e9 e9'; refine hX9 ?_; clear hX9 X9) | (refine' Go.mk (trimmed_twice ?z9pa ?z9pb ?z9pc ?z9pd ?z9pe ?z9pf) ?z9p8 ?z9p9 ?_; (case z9pa => k_extra "gr"); (case z9pb => assumption); (case z9pc => k_extra "fr"); (case z9pd => assumption); (case z9pe => assumption); (case z9pf => assumption); (case z9p8 => k_extra "d"); (case z9p9 => k_extra "u"); intro r9 n9 h9 tk9 F9 N9 hp9; refine via fun X9 hX9 => ?_; obtain ⟨tl9, e9, tp9, lv9, gv9, e9', hm9, hf9, hg9⟩ := hp9; subst e9 e9'; refine hX9 ?_; clear hX9 X9) | (refine' Go.trueG (is_part_spec ?z9pa ?z9pb ?z9pc ?z9pd ?z9pe ?z9pf ?z9pg ?z9ph ?z9pi ?z9pj ?z9pk) ?z9p8 ?z9p9 ?_; (case z9pa => k_extra "fr"); (case z9pb => assumption); (case z9pc => k_extra "fr"); (case z9pd => assumption); (case z9pe => exact (rfl)); (case z9pf => assumption); (case z9pg => assumption); (case z9ph => k_extra "gr"); (case z9pi => assumption); (case z9pj => (refine' DatIn.mono ?z9qs ?z9qa; (case z9qa => assumption); (case z9qs => exact fun p9 h9 => by k_mem))); (case z9pk => k_mem); (case z9p8 => k_extra "d"); (case z9p9 => k_extra "u"); intro h9 tk9 F9 tl9 ha9 N9) | (refine' Go.boolG (is_whole_spec ?z9pa ?z9pb ?z9pc) ?z9p8 ?z9p9 ?_; (case z9pa => k_extra "fr"); (case z9pb => assumption); (case z9pc => assumption); (case z9p8 => k_extra "d"); (case z9p9 => k_extra "u"); intro h9 tk9 F9 tl9 ha9 b9 hb9 N9; (have hb8 := hb9.mpr (by assumption)); subst hb8) | (refine' Go.mk (law_frame_spec ?z9pa ?z9pb) ?z9p8 ?z9p9 ?_; (case z9pa => assumption); (case z9pb => assumption); (case z9p8 => k_extra "d"); (case z9p9 => k_extra "u"); intro r9 n9 h9 tk9 F9 N9 hp9; refine via fun X9 hX9 => ?_; obtain ⟨o9, n8, e9, hne9, ho9, hs9, f9, hf9, ok9⟩ := hp9; subst e9; (obtain ⟨b1, b2, b3, b4, b5, b6, b7, b8⟩ := FrameOk.bds ok9); refine hX9 ?_; clear hX9 X9) | (refine' Go.mk (law_filled_spec ?z9pa ?z9pb ?z9pc ?z9pd) ?z9p8 ?z9p9 ?_; (case z9pa => assumption); (case z9pb => assumption); (case z9pc => assumption); (case z9pd => assumption); (case z9p8 => k_extra "d"); (case z9p9 => k_extra "u"); intro r9 n9 h9 tk9 F9 N9 hp9; refine via fun X9 hX9 => ?_; obtain ⟨o9, n8, e9, hne9, ho9, hs9, G9, hG9, hg9⟩ := hp9; subst e9; (rename FrameObj _ _ _ _ => hf8; have hf9 := FrameObj.mono hf8 hs9; clear hf8; (refine FrameObj.elim hf9 fun x9 dx9 cl9 nn9 vs9 s1 s2 s3 s4 s5 s6 v1 v2 v3 v4 v6 e9 hx9 hdx9 hcl9 hcs9 => ?_); subst e9); refine hX9 ?_; clear hX9 X9) | (refine' Go.dat (law_shown_spec ?z9pa ?z9pb ?z9pc ?z9pd ?z9pe) ?z9p8 ?z9p9 ?_; (case z9pa => k_extra "fr"); (case z9pb => assumption); (case z9pc => k_extra "gr"); (case z9pd => assumption); (case z9pe => (first | k_extra "ho" | exact Or.inl rfl)); (case z9p8 => k_extra "d"); (case z9p9 => k_extra "u"); intro h9 tk9 F9 tl9 ha9 N9 l9 vs9 nl9 hm9 hq9 hs9; (try (have hd8 := drop_src (by assumption) hs9 (by assumption); clear hs9))) | (refine' Go.one (one_spec ?z9pa ?z9pb ?z9pc ?z9pd ?z9pe ?z9pf) ?z9p8 ?z9p9 ?_; (case z9pa => (first | assumption | (intro o'; k_upd))); (case z9pb => assumption); (case z9pc => (intro o'; k_mem)); (case z9pd => k_mem); (case z9pe => simp); (case z9pf => simp); (case z9p8 => k_extra "d"); (case z9p9 => k_extra "u"); intro r9 h9 tk9 F9 o9 ho9 i9 hi9 hi9' N9; (obtain ⟨wd9, t9, ta9, td9, e9, hw9⟩ := turns8 hi9'); subst e9; clear hi9'; (obtain ⟨hl1, hl2⟩ := TurnOk.lists hw9)) | (refine' Go.int (left_spec ?z9pa ?z9pb) ?z9p8 ?z9p9 ?_; (case z9pa => exact (⟨by omega, by omega⟩)); (case z9pb => exact (⟨by omega, by omega⟩)); (case z9p8 => k_extra "d"); (case z9p9 => k_extra "u"); intro h9 tk9 F9 t9 N9) | (refine' Go.boolG (is_whole_spec ?z9pa ?z9pb ?z9pc) ?z9p8 ?z9p9 ?_; (case z9pa => k_extra "fr"); (case z9pb => assumption); (case z9pc => assumption); (case z9p8 => k_extra "d"); (case z9p9 => k_extra "u"); intro h9 tk9 F9 tl9 ha9 b9 hb9 N9)); (try k_sweep); (try dsimp only); (try k_fold)))
  (k_with "call ref" => (k_here; with_unfolding_all refine' SpecX.exc (trimmed_exc ?z9p1 ?z9p2 ?z9p3 ?z9p4 ?z9p5) ?z9pc ?z9uB ?z9uF ?z9uX ?z9uN ?z9uT ?z9uk ?z9ud ?z9uu ?_; (case z9uB => k_asm); (case z9uF => k_asm); (case z9uX => k_asm); (case z9uN => k_asm); (case z9uT => k_asm); (case z9uk => first | exact rfl | assumption); (case z9p1 => exact GridObj.mono (by assumption) (fun p9 h9 => by k_mem)); (case z9p2 => assumption); (case z9p3 => exact FrameObj.mono (by assumption) (fun p9 h9 => by k_mem)); (case z9p4 => assumption); (case z9p5 => assumption); (case z9pc => assumption); (case z9ud => first | ktr_room | omega); (case z9uu => first | ktr_units | omega); intro e9 g9 h9 tk9 F9 U9 R9; (try dsimp only); (try k_fold)))
  (k_with "noteFrame ref" => (k_here; (rename RaisedV _ _ _ _ _ _ => rkX); with_unfolding_all refine' caught_V ?z9K ?z9F ?z9U ?z9R ?z9X ?z9T ?z9ex ?z9hK ?z9hb ?_; (case z9K => assumption); (case z9F => assumption); (case z9U => assumption); (case z9R => exact rkX); (case z9X => k_asm); (case z9T => first | k_asm | exact topRead_of (by k_asm)); (case z9ex => k_is); (case z9hK => k_is); (case z9hb => decide); intro h9 oe9 vs9 F9 N9 hd9 hh9; (have H9 := HOk.of9 N9 hd9 hh9); (try k_sweep)))
  refine Mine.hd rfl rfl rfl ?_
  k_go0
  k_steps
  unfold Hold
  (try dsimp only)
  rename TurnOk _ _ _ => hw
  rename FrameOk _ => ok
  rename (∀ (k y x : Nat), _ = 4) => hG4
  rename GridObj _ _ _ _ _ => hg
  rename FrameObj _ _ _ _ => hf
  rename DatIn _ _ _ => hav
  rename Fr _ _ _ _ => F1
  rename News _ _ _ _ => N1
  refine via fun X9 hX9 => ?_
  obtain ⟨Z, NZ, hfZ, hgZ, havZ⟩ : ∃ Z, News _ _ _ Z ∧ FrameObj _ Z _ _ ∧ GridObj _ Z _ _ _ ∧ DatIn Z _ _ := ⟨_, news_cut N1 hav (fun p hp => by rcases List.mem_append.mp hp with hp | hp <;> k_mem), hf.mono (fun p hp => mem_r hp), hg.mono (fun p hp => mem_r hp), hav⟩
  refine hX9 ?_
  clear hX9 X9
  clear N1 hf hg hav
  refine wpAny_execs_cons ?_
  (try dsimp only)
  rcases split_cuts hw ok with ⟨hc, hz, ok', hw', hh', hLW⟩ | ⟨hc, hz⟩
  · k_steps
  · k_steps
end
end Mine
theorem PySem.Challenge.cw_nz0246_01_holds : PySem.Challenge.rw_nz0246_01.Holds :=
  Mine.law_done
