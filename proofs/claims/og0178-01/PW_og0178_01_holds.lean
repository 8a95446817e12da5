import PyProof.Rows.All
import Wide.All
import OpenK.AllK
import Wide.FinOn
import PyProof.ExcBaseAll.Exception
import PyProof.InstStoreFacts
import PyProof.ExcInit
import Lean
import PySem.Challenge.RW_og0178_01
open PySem PySem.W PyProof.Rows PySem.Calls PyProof.V PySem.Spec
set_option Elab.async false
set_option compiler.extract_closed false
set_option linter.all false
set_option maxRecDepth 100000
set_option maxHeartbeats 12000000
namespace Mine
structure Box (P : Prop) : Prop where
  out : P
structure Box2 (P : Prop) : Prop where
  out : P
theorem Box.of {P : Prop} (h : Box2 P) : Box P := ⟨h.out⟩
set_option maxRecDepth 1000000 in
noncomputable def KH : Params → Frag := (fun
y0 y1 y2 y3 y4 y5 y6 y7 y8 y9 y10 y11 y12 y13 y14 y15 y16 y17 y18 y19 y20 y21 y22 y23 y24 y25 y26 y27 y28 y29 y30 y31 y32 y33 y34 y35 y36 y37 y38 y39 y40 y41 y42 (ey : PySem.Challenge.pw_og0178_01.main.body = [y0, y1, y2, y3, y4, y5, y6, y7, y8, y9, y10, y11, y12, y13, y14, y15, y16, y17, y18, y19, y20, y21, y22, y23, y24, y25, y26, y27, y28, y29, y30, y31, y32, y33, y34, y35, y36, y37, y38, y39, y40, y41, y42])
n0 p0 b0 d0 r0 t0 s0 x0 q0 o0 (e0 : y0 = (Stmt.FunctionDef n0 p0 b0 d0 r0 t0 s0 x0 q0 o0))
cn2 cb2 ck2 co2 cd2 ct2 cs2 cx2 cq2 ca2 cp2 (e2 : y2 = (Stmt.ClassDef cn2 cb2 ck2 co2 cd2 ct2 cs2 cx2 cq2 ca2 cp2))
y2x0 y2x1 (ey2 : co2 = [y2x0, y2x1])
n2x0 p2x0 b2x0 d2x0 r2x0 t2x0 s2x0 x2x0 q2x0 o2x0 (e2x0 : y2x0 = (Stmt.FunctionDef n2x0 p2x0 b2x0 d2x0 r2x0 t2x0 s2x0 x2x0 q2x0 o2x0))
n2x1 p2x1 b2x1 d2x1 r2x1 t2x1 s2x1 x2x1 q2x1 o2x1 (e2x1 : y2x1 = (Stmt.FunctionDef n2x1 p2x1 b2x1 d2x1 r2x1 t2x1 s2x1 x2x1 q2x1 o2x1))
cn5 cb5 ck5 co5 cd5 ct5 cs5 cx5 cq5 ca5 cp5 (e5 : y5 = (Stmt.ClassDef cn5 cb5 ck5 co5 cd5 ct5 cs5 cx5 cq5 ca5 cp5))
y5x0 y5x1 y5x2 y5x3 y5x4 y5x5 y5x6 y5x7 y5x8 y5x9 y5x10 y5x11 (ey5 : co5 = [y5x0, y5x1, y5x2, y5x3, y5x4, y5x5, y5x6, y5x7, y5x8, y5x9, y5x10, y5x11])
n5x0 p5x0 b5x0 d5x0 r5x0 t5x0 s5x0 x5x0 q5x0 o5x0 (e5x0 : y5x0 = (Stmt.FunctionDef n5x0 p5x0 b5x0 d5x0 r5x0 t5x0 s5x0 x5x0 q5x0 o5x0))
n5x1 p5x1 b5x1 d5x1 r5x1 t5x1 s5x1 x5x1 q5x1 o5x1 (e5x1 : y5x1 = (Stmt.FunctionDef n5x1 p5x1 b5x1 d5x1 r5x1 t5x1 s5x1 x5x1 q5x1 o5x1))
n5x2 p5x2 b5x2 d5x2 r5x2 t5x2 s5x2 x5x2 q5x2 o5x2 (e5x2 : y5x2 = (Stmt.FunctionDef n5x2 p5x2 b5x2 d5x2 r5x2 t5x2 s5x2 x5x2 q5x2 o5x2))
n5x3 p5x3 b5x3 d5x3 r5x3 t5x3 s5x3 x5x3 q5x3 o5x3 (e5x3 : y5x3 = (Stmt.FunctionDef n5x3 p5x3 b5x3 d5x3 r5x3 t5x3 s5x3 x5x3 q5x3 o5x3))
n5x4 p5x4 b5x4 d5x4 r5x4 t5x4 s5x4 x5x4 q5x4 o5x4 (e5x4 : y5x4 = (Stmt.FunctionDef n5x4 p5x4 b5x4 d5x4 r5x4 t5x4 s5x4 x5x4 q5x4 o5x4))
n5x5 p5x5 b5x5 d5x5 r5x5 t5x5 s5x5 x5x5 q5x5 o5x5 (e5x5 : y5x5 = (Stmt.FunctionDef n5x5 p5x5 b5x5 d5x5 r5x5 t5x5 s5x5 x5x5 q5x5 o5x5))
n5x6 p5x6 b5x6 d5x6 r5x6 t5x6 s5x6 x5x6 q5x6 o5x6 (e5x6 : y5x6 = (Stmt.FunctionDef n5x6 p5x6 b5x6 d5x6 r5x6 t5x6 s5x6 x5x6 q5x6 o5x6))
n5x7 p5x7 b5x7 d5x7 r5x7 t5x7 s5x7 x5x7 q5x7 o5x7 (e5x7 : y5x7 = (Stmt.FunctionDef n5x7 p5x7 b5x7 d5x7 r5x7 t5x7 s5x7 x5x7 q5x7 o5x7))
n5x8 p5x8 b5x8 d5x8 r5x8 t5x8 s5x8 x5x8 q5x8 o5x8 (e5x8 : y5x8 = (Stmt.FunctionDef n5x8 p5x8 b5x8 d5x8 r5x8 t5x8 s5x8 x5x8 q5x8 o5x8))
n5x9 p5x9 b5x9 d5x9 r5x9 t5x9 s5x9 x5x9 q5x9 o5x9 (e5x9 : y5x9 = (Stmt.FunctionDef n5x9 p5x9 b5x9 d5x9 r5x9 t5x9 s5x9 x5x9 q5x9 o5x9))
n5x10 p5x10 b5x10 d5x10 r5x10 t5x10 s5x10 x5x10 q5x10 o5x10 (e5x10 : y5x10 = (Stmt.FunctionDef n5x10 p5x10 b5x10 d5x10 r5x10 t5x10 s5x10 x5x10 q5x10 o5x10))
n5x11 p5x11 b5x11 d5x11 r5x11 t5x11 s5x11 x5x11 q5x11 o5x11 (e5x11 : y5x11 = (Stmt.FunctionDef n5x11 p5x11 b5x11 d5x11 r5x11 t5x11 s5x11 x5x11 q5x11 o5x11))
n6 p6 b6 d6 r6 t6 s6 x6 q6 o6 (e6 : y6 = (Stmt.FunctionDef n6 p6 b6 d6 r6 t6 s6 x6 q6 o6))
n7 p7 b7 d7 r7 t7 s7 x7 q7 o7 (e7 : y7 = (Stmt.FunctionDef n7 p7 b7 d7 r7 t7 s7 x7 q7 o7))
cn10 cb10 ck10 co10 cd10 ct10 cs10 cx10 cq10 ca10 cp10 (e10 : y10 = (Stmt.ClassDef cn10 cb10 ck10 co10 cd10 ct10 cs10 cx10 cq10 ca10 cp10))
y10x0 (ey10 : co10 = [y10x0])
n10x0 p10x0 b10x0 d10x0 r10x0 t10x0 s10x0 x10x0 q10x0 o10x0 (e10x0 : y10x0 = (Stmt.FunctionDef n10x0 p10x0 b10x0 d10x0 r10x0 t10x0 s10x0 x10x0 q10x0 o10x0))
cn11 cb11 ck11 co11 cd11 ct11 cs11 cx11 cq11 ca11 cp11 (e11 : y11 = (Stmt.ClassDef cn11 cb11 ck11 co11 cd11 ct11 cs11 cx11 cq11 ca11 cp11))
y11x0 (ey11 : co11 = [y11x0])
n11x0 p11x0 b11x0 d11x0 r11x0 t11x0 s11x0 x11x0 q11x0 o11x0 (e11x0 : y11x0 = (Stmt.FunctionDef n11x0 p11x0 b11x0 d11x0 r11x0 t11x0 s11x0 x11x0 q11x0 o11x0))
cn12 cb12 ck12 co12 cd12 ct12 cs12 cx12 cq12 ca12 cp12 (e12 : y12 = (Stmt.ClassDef cn12 cb12 ck12 co12 cd12 ct12 cs12 cx12 cq12 ca12 cp12))
y12x0 (ey12 : co12 = [y12x0])
n12x0 p12x0 b12x0 d12x0 r12x0 t12x0 s12x0 x12x0 q12x0 o12x0 (e12x0 : y12x0 = (Stmt.FunctionDef n12x0 p12x0 b12x0 d12x0 r12x0 t12x0 s12x0 x12x0 q12x0 o12x0))
cn13 cb13 ck13 co13 cd13 ct13 cs13 cx13 cq13 ca13 cp13 (e13 : y13 = (Stmt.ClassDef cn13 cb13 ck13 co13 cd13 ct13 cs13 cx13 cq13 ca13 cp13))
y13x0 y13x1 (ey13 : co13 = [y13x0, y13x1])
n13x0 p13x0 b13x0 d13x0 r13x0 t13x0 s13x0 x13x0 q13x0 o13x0 (e13x0 : y13x0 = (Stmt.FunctionDef n13x0 p13x0 b13x0 d13x0 r13x0 t13x0 s13x0 x13x0 q13x0 o13x0))
n13x1 p13x1 b13x1 d13x1 r13x1 t13x1 s13x1 x13x1 q13x1 o13x1 (e13x1 : y13x1 = (Stmt.FunctionDef n13x1 p13x1 b13x1 d13x1 r13x1 t13x1 s13x1 x13x1 q13x1 o13x1))
n14 p14 b14 d14 r14 t14 s14 x14 q14 o14 (e14 : y14 = (Stmt.FunctionDef n14 p14 b14 d14 r14 t14 s14 x14 q14 o14))
n15 p15 b15 d15 r15 t15 s15 x15 q15 o15 (e15 : y15 = (Stmt.FunctionDef n15 p15 b15 d15 r15 t15 s15 x15 q15 o15))
n16 p16 b16 d16 r16 t16 s16 x16 q16 o16 (e16 : y16 = (Stmt.FunctionDef n16 p16 b16 d16 r16 t16 s16 x16 q16 o16))
n17 p17 b17 d17 r17 t17 s17 x17 q17 o17 (e17 : y17 = (Stmt.FunctionDef n17 p17 b17 d17 r17 t17 s17 x17 q17 o17))
cn19 cb19 ck19 co19 cd19 ct19 cs19 cx19 cq19 ca19 cp19 (e19 : y19 = (Stmt.ClassDef cn19 cb19 ck19 co19 cd19 ct19 cs19 cx19 cq19 ca19 cp19))
y19x0 y19x1 y19x2 (ey19 : co19 = [y19x0, y19x1, y19x2])
n19x0 p19x0 b19x0 d19x0 r19x0 t19x0 s19x0 x19x0 q19x0 o19x0 (e19x0 : y19x0 = (Stmt.FunctionDef n19x0 p19x0 b19x0 d19x0 r19x0 t19x0 s19x0 x19x0 q19x0 o19x0))
n19x1 p19x1 b19x1 d19x1 r19x1 t19x1 s19x1 x19x1 q19x1 o19x1 (e19x1 : y19x1 = (Stmt.FunctionDef n19x1 p19x1 b19x1 d19x1 r19x1 t19x1 s19x1 x19x1 q19x1 o19x1))
n19x2 p19x2 b19x2 d19x2 r19x2 t19x2 s19x2 x19x2 q19x2 o19x2 (e19x2 : y19x2 = (Stmt.FunctionDef n19x2 p19x2 b19x2 d19x2 r19x2 t19x2 s19x2 x19x2 q19x2 o19x2))
cn21 cb21 ck21 co21 cd21 ct21 cs21 cx21 cq21 ca21 cp21 (e21 : y21 = (Stmt.ClassDef cn21 cb21 ck21 co21 cd21 ct21 cs21 cx21 cq21 ca21 cp21))
y21x0 y21x1 y21x2 y21x3 y21x4 y21x5 (ey21 : co21 = [y21x0, y21x1, y21x2, y21x3, y21x4, y21x5])
n21x0 p21x0 b21x0 d21x0 r21x0 t21x0 s21x0 x21x0 q21x0 o21x0 (e21x0 : y21x0 = (Stmt.FunctionDef n21x0 p21x0 b21x0 d21x0 r21x0 t21x0 s21x0 x21x0 q21x0 o21x0))
n21x1 p21x1 b21x1 d21x1 r21x1 t21x1 s21x1 x21x1 q21x1 o21x1 (e21x1 : y21x1 = (Stmt.FunctionDef n21x1 p21x1 b21x1 d21x1 r21x1 t21x1 s21x1 x21x1 q21x1 o21x1))
n21x2 p21x2 b21x2 d21x2 r21x2 t21x2 s21x2 x21x2 q21x2 o21x2 (e21x2 : y21x2 = (Stmt.FunctionDef n21x2 p21x2 b21x2 d21x2 r21x2 t21x2 s21x2 x21x2 q21x2 o21x2))
n21x3 p21x3 b21x3 d21x3 r21x3 t21x3 s21x3 x21x3 q21x3 o21x3 (e21x3 : y21x3 = (Stmt.FunctionDef n21x3 p21x3 b21x3 d21x3 r21x3 t21x3 s21x3 x21x3 q21x3 o21x3))
n21x4 p21x4 b21x4 d21x4 r21x4 t21x4 s21x4 x21x4 q21x4 o21x4 (e21x4 : y21x4 = (Stmt.FunctionDef n21x4 p21x4 b21x4 d21x4 r21x4 t21x4 s21x4 x21x4 q21x4 o21x4))
n21x5 p21x5 b21x5 d21x5 r21x5 t21x5 s21x5 x21x5 q21x5 o21x5 (e21x5 : y21x5 = (Stmt.FunctionDef n21x5 p21x5 b21x5 d21x5 r21x5 t21x5 s21x5 x21x5 q21x5 o21x5))
n22 p22 b22 d22 r22 t22 s22 x22 q22 o22 (e22 : y22 = (Stmt.FunctionDef n22 p22 b22 d22 r22 t22 s22 x22 q22 o22))
n23 p23 b23 d23 r23 t23 s23 x23 q23 o23 (e23 : y23 = (Stmt.FunctionDef n23 p23 b23 d23 r23 t23 s23 x23 q23 o23))
cn25 cb25 ck25 co25 cd25 ct25 cs25 cx25 cq25 ca25 cp25 (e25 : y25 = (Stmt.ClassDef cn25 cb25 ck25 co25 cd25 ct25 cs25 cx25 cq25 ca25 cp25))
y25x0 y25x1 (ey25 : co25 = [y25x0, y25x1])
n25x0 p25x0 b25x0 d25x0 r25x0 t25x0 s25x0 x25x0 q25x0 o25x0 (e25x0 : y25x0 = (Stmt.FunctionDef n25x0 p25x0 b25x0 d25x0 r25x0 t25x0 s25x0 x25x0 q25x0 o25x0))
n25x1 p25x1 b25x1 d25x1 r25x1 t25x1 s25x1 x25x1 q25x1 o25x1 (e25x1 : y25x1 = (Stmt.FunctionDef n25x1 p25x1 b25x1 d25x1 r25x1 t25x1 s25x1 x25x1 q25x1 o25x1))
n26 p26 b26 d26 r26 t26 s26 x26 q26 o26 (e26 : y26 = (Stmt.FunctionDef n26 p26 b26 d26 r26 t26 s26 x26 q26 o26))
cn29 cb29 ck29 co29 cd29 ct29 cs29 cx29 cq29 ca29 cp29 (e29 : y29 = (Stmt.ClassDef cn29 cb29 ck29 co29 cd29 ct29 cs29 cx29 cq29 ca29 cp29))
y29x0 (ey29 : co29 = [y29x0])
n29x0 p29x0 b29x0 d29x0 r29x0 t29x0 s29x0 x29x0 q29x0 o29x0 (e29x0 : y29x0 = (Stmt.FunctionDef n29x0 p29x0 b29x0 d29x0 r29x0 t29x0 s29x0 x29x0 q29x0 o29x0))
n30 p30 b30 d30 r30 t30 s30 x30 q30 o30 (e30 : y30 = (Stmt.FunctionDef n30 p30 b30 d30 r30 t30 s30 x30 q30 o30))
n31 p31 b31 d31 r31 t31 s31 x31 q31 o31 (e31 : y31 = (Stmt.FunctionDef n31 p31 b31 d31 r31 t31 s31 x31 q31 o31))
n32 p32 b32 d32 r32 t32 s32 x32 q32 o32 (e32 : y32 = (Stmt.FunctionDef n32 p32 b32 d32 r32 t32 s32 x32 q32 o32))
n33 p33 b33 d33 r33 t33 s33 x33 q33 o33 (e33 : y33 = (Stmt.FunctionDef n33 p33 b33 d33 r33 t33 s33 x33 q33 o33))
n35 p35 b35 d35 r35 t35 s35 x35 q35 o35 (e35 : y35 = (Stmt.FunctionDef n35 p35 b35 d35 r35 t35 s35 x35 q35 o35))
n36 p36 b36 d36 r36 t36 s36 x36 q36 o36 (e36 : y36 = (Stmt.FunctionDef n36 p36 b36 d36 r36 t36 s36 x36 q36 o36))
n37 p37 b37 d37 r37 t37 s37 x37 q37 o37 (e37 : y37 = (Stmt.FunctionDef n37 p37 b37 d37 r37 t37 s37 x37 q37 o37))
n38 p38 b38 d38 r38 t38 s38 x38 q38 o38 (e38 : y38 = (Stmt.FunctionDef n38 p38 b38 d38 r38 t38 s38 x38 q38 o38))
n39 p39 b39 d39 r39 t39 s39 x39 q39 o39 (e39 : y39 = (Stmt.FunctionDef n39 p39 b39 d39 r39 t39 s39 x39 q39 o39))
n40 p40 b40 d40 r40 t40 s40 x40 q40 o40 (e40 : y40 = (Stmt.FunctionDef n40 p40 b40 d40 r40 t40 s40 x40 q40 o40))
n41 p41 b41 d41 r41 t41 s41 x41 q41 o41 (e41 : y41 = (Stmt.FunctionDef n41 p41 b41 d41 r41 t41 s41 x41 q41 o41))
n42 p42 b42 d42 r42 t42 s42 x42 q42 o42 (e42 : y42 = (Stmt.FunctionDef n42 p42 b42 d42 r42 t42 s42 x42 q42 o42)) => fun P =>
(⟨nat_lit 2, ⟨.none, .none, (.dict #[⟨(PyData.keyHash P (.ofString "type.__subclasses__.Exception.0")), (.str (.ofString "type.__subclasses__.Exception.0") (232 : Nat)), (.int 46 (0 : Nat))⟩, ⟨(PyData.keyHash P (.ofString "type.__subclasses__.Exception.n")), (.str (.ofString "type.__subclasses__.Exception.n") (233 : Nat)), (.int 1 (0 : Nat))⟩] (2 : Nat)), #[]⟩⟩ ::
⟨nat_lit 3, ⟨(.type "dict"), .none, (.dict (List.toArray (⟨(PyData.keyHash P (.ofString "__name__")), (.str (.ofString "__name__") (165 : Nat)), (.str (.ofString "law_og0178_01") (823 : Nat))⟩ :: ⟨(PyData.keyHash P (.ofString "__doc__")), (.str (.ofString "__doc__") (166 : Nat)), .none⟩ :: ⟨(PyData.keyHash P (.ofString "__package__")), (.str (.ofString "__package__") (167 : Nat)), .none⟩ :: ⟨(PyData.keyHash P (.ofString "__loader__")), (.str (.ofString "__loader__") (168 : Nat)), (.builtin "__main__.__loader__#opaque")⟩ :: ⟨(PyData.keyHash P (.ofString "__spec__")), (.str (.ofString "__spec__") (169 : Nat)), .none⟩ :: ⟨(PyData.keyHash P (.ofString "__annotations__")), (.str (.ofString "__annotations__") (170 : Nat)), (.ref (6 : Nat))⟩ :: ⟨(PyData.keyHash P (.ofString "__builtins__")), (.str (.ofString "__builtins__") (171 : Nat)), (.ref (4 : Nat))⟩ :: ⟨(PyData.keyHash P (.ofString "__file__")), (.str (.ofString "__file__") (173 : Nat)), (.str (.ofString "/claim/cut.py") (172 : Nat))⟩ :: ⟨(PyData.keyHash P (.ofString "__cached__")), (.str (.ofString "__cached__") (174 : Nat)), .none⟩ :: ⟨(PyData.keyHash P (.ofString "_wall")), (.str (.ofString "_wall") (193 : Nat)), (.ref (21 : Nat))⟩ :: ⟨(PyData.keyHash P (.ofString "PaperError")), (.str (.ofString "PaperError") (235 : Nat)), (.ref (46 : Nat))⟩ :: ⟨(PyData.keyHash P (.ofString "PaintFault")), (.str (.ofString "PaintFault") (251 : Nat)), (.ref (59 : Nat))⟩ :: ⟨(PyData.keyHash P (.ofString "Decimal")), (.str (.ofString "Decimal") (367 : Nat)), (.ref (155 : Nat))⟩ :: ⟨(PyData.keyHash P (.ofString "sign_text")), (.str (.ofString "sign_text") (374 : Nat)), (.ref (166 : Nat))⟩ :: ⟨(PyData.keyHash P (.ofString "decimal_of")), (.str (.ofString "decimal_of") (381 : Nat)), (.ref (173 : Nat))⟩ :: ⟨(PyData.keyHash P (.ofString "MOST_HOPS")), (.str (.ofString "MOST_HOPS") (385 : Nat)), (.int 30 (384 : Nat))⟩ :: ⟨(PyData.keyHash P (.ofString "Name")), (.str (.ofString "Name") (414 : Nat)), (.ref (190 : Nat))⟩ :: ⟨(PyData.keyHash P (.ofString "String")), (.str (.ofString "String") (445 : Nat)), (.ref (212 : Nat))⟩ :: ⟨(PyData.keyHash P (.ofString "Stream")), (.str (.ofString "Stream") (476 : Nat)), (.ref (233 : Nat))⟩ :: ⟨(PyData.keyHash P (.ofString "Reference")), (.str (.ofString "Reference") (514 : Nat)), (.ref (261 : Nat))⟩ :: ⟨(PyData.keyHash P (.ofString "kind_of")), (.str (.ofString "kind_of") (521 : Nat)), (.ref (272 : Nat))⟩ :: ⟨(PyData.keyHash P (.ofString "is_number")), (.str (.ofString "is_number") (528 : Nat)), (.ref (279 : Nat))⟩ :: ⟨(PyData.keyHash P (.ofString "told_plain")), (.str (.ofString "told_plain") (536 : Nat)), (.ref (286 : Nat))⟩ :: ⟨(PyData.keyHash P (.ofString "told")), (.str (.ofString "told") (542 : Nat)), (.ref (291 : Nat))⟩ :: ⟨(PyData.keyHash P (.ofString "told_objects")), (.str (.ofString "told_objects") (543 : Nat)), (.ref (291 : Nat))⟩ :: ⟨(PyData.keyHash P (.ofString "Lookup")), (.str (.ofString "Lookup") (595 : Nat)), (.ref (323 : Nat))⟩ :: ⟨(PyData.keyHash P (.ofString "Matrix")), (.str (.ofString "Matrix") (675 : Nat)), (.ref (377 : Nat))⟩ :: ⟨(PyData.keyHash P (.ofString "identity")), (.str (.ofString "identity") (681 : Nat)), (.ref (388 : Nat))⟩ :: ⟨(PyData.keyHash P (.ofString "from_array")), (.str (.ofString "from_array") (688 : Nat)), (.ref (395 : Nat))⟩ :: ⟨(PyData.keyHash P (.ofString "Operation")), (.str (.ofString "Operation") (727 : Nat)), (.ref (417 : Nat))⟩ :: ⟨(PyData.keyHash P (.ofString "used_names")), (.str (.ofString "used_names") (733 : Nat)), (.ref (426 : Nat))⟩ :: ⟨(PyData.keyHash P (.ofString "MOST_FORMS")), (.str (.ofString "MOST_FORMS") (737 : Nat)), (.int 8 (736 : Nat))⟩ :: ⟨(PyData.keyHash P (.ofString "TextSheet")), (.str (.ofString "TextSheet") (772 : Nat)), (.ref (443 : Nat))⟩ :: ⟨(PyData.keyHash P (.ofString "resource_dict")), (.str (.ofString "resource_dict") (782 : Nat)), (.ref (454 : Nat))⟩ :: ⟨(PyData.keyHash P (.ofString "form_matrix")), (.str (.ofString "form_matrix") (788 : Nat)), (.ref (459 : Nat))⟩ :: ⟨(PyData.keyHash P (.ofString "is_form")), (.str (.ofString "is_form") (797 : Nat)), (.ref (466 : Nat))⟩ :: ⟨(PyData.keyHash P (.ofString "text_sheet")), (.str (.ofString "text_sheet") (822 : Nat)), (.ref (473 : Nat))⟩ :: ⟨(PyData.keyHash P (.ofString "_law_draw")), (.str (.ofString "_law_draw") (834 : Nat)), (.ref (480 : Nat))⟩ :: ⟨(PyData.keyHash P (.ofString "_law_stream")), (.str (.ofString "_law_stream") (847 : Nat)), (.ref (487 : Nat))⟩ :: ⟨(PyData.keyHash P (.ofString "_law_resources")), (.str (.ofString "_law_resources") (860 : Nat)), (.ref (494 : Nat))⟩ :: ⟨(PyData.keyHash P (.ofString "_law_deeds")), (.str (.ofString "_law_deeds") (867 : Nat)), (.ref (501 : Nat))⟩ :: ⟨(PyData.keyHash P (.ofString "_law_used")), (.str (.ofString "_law_used") (874 : Nat)), (.ref (508 : Nat))⟩ :: ⟨(PyData.keyHash P (.ofString "_law_due")), (.str (.ofString "_law_due") (880 : Nat)), (.ref (513 : Nat))⟩ :: ⟨(PyData.keyHash P (.ofString "_law_told")), (.str (.ofString "_law_told") (886 : Nat)), (.ref (518 : Nat))⟩ :: ⟨(PyData.keyHash P (.ofString "law")), (.str (.ofString "law") (892 : Nat)), (.ref (523 : Nat))⟩ :: [])) (45 : Nat)), #[]⟩⟩ ::
⟨nat_lit 15, ⟨(.type "tuple"), .none, (.seq #[] (0 : Nat)), #[]⟩⟩ ::
⟨nat_lit 17, ⟨(.type "tuple"), .none, (.seq #[(.str (.ofString "k") (190 : Nat))] (0 : Nat)), #[]⟩⟩ ::
⟨nat_lit 18, ⟨(.type "tuple"), .none, (.seq #[] (0 : Nat)), #[]⟩⟩ ::
⟨nat_lit 20, ⟨(.type "code"), .none, (.fields #[(.str (.ofString "_wall") (187 : Nat)), (.str (.ofString "_wall") (188 : Nat)), (.str (.ofString "/claim/cut.py") (189 : Nat)), (.int 1 (0 : Nat)), (.int 1 (0 : Nat)), (.int 0 (0 : Nat)), (.int 0 (0 : Nat)), (.int 3 (0 : Nat)), (.ref (15 : Nat)), (.bool .true), (.int 181 (0 : Nat)), (.ref (16 : Nat)), .none, (.ref (17 : Nat)), (.ref (18 : Nat)), (.ref (19 : Nat)), (.int 191 (0 : Nat)), (.int 1 (0 : Nat)), (.str (.ofString "/claim/cut.py") (192 : Nat))]), #[]⟩⟩ ::
⟨nat_lit 21, ⟨(.type "function"), .none, (.func ⟨(.ofString "_wall"), (.ofString "_wall"), p0, (.stmts b0), s0, 3, [], .none, .none, .none, (.str (.ofString "__main__") (164 : Nat)), .none, (.ref (20 : Nat)), .none, 0⟩), #[]⟩⟩ ::
⟨nat_lit 22, ⟨(.type "tuple"), .none, (.seq #[(.type "Exception")] (0 : Nat)), #[]⟩⟩ ::
⟨nat_lit 29, ⟨(.type "tuple"), .none, (.seq #[(.int (-1) (209 : Nat))] (0 : Nat)), #[]⟩⟩ ::
⟨nat_lit 30, ⟨(.type "tuple"), .none, (.seq #[] (0 : Nat)), #[]⟩⟩ ::
⟨nat_lit 32, ⟨(.type "tuple"), .none, (.seq #[(.str (.ofString "self") (213 : Nat)), (.str (.ofString "what") (214 : Nat)), (.str (.ofString "at") (215 : Nat))] (0 : Nat)), #[]⟩⟩ ::
⟨nat_lit 33, ⟨(.type "tuple"), .none, (.seq #[] (0 : Nat)), #[]⟩⟩ ::
⟨nat_lit 35, ⟨(.type "code"), .none, (.fields #[(.str (.ofString "__init__") (210 : Nat)), (.str (.ofString "PaperError.__init__") (211 : Nat)), (.str (.ofString "/claim/cut.py") (212 : Nat)), (.int 7 (0 : Nat)), (.int 3 (0 : Nat)), (.int 0 (0 : Nat)), (.int 0 (0 : Nat)), (.int 3 (0 : Nat)), (.ref (30 : Nat)), (.bool .true), (.int 181 (0 : Nat)), (.ref (31 : Nat)), .none, (.ref (32 : Nat)), (.ref (33 : Nat)), (.ref (34 : Nat)), (.int 216 (0 : Nat)), (.int 7 (0 : Nat)), (.str (.ofString "/claim/cut.py") (217 : Nat))]), #[]⟩⟩ ::
⟨nat_lit 36, ⟨(.type "function"), .none, (.func ⟨(.ofString "__init__"), (.ofString "PaperError.__init__"), p2x0, (.stmts b2x0), s2x0, 3, [], (.ref (29 : Nat)), .none, .none, (.str (.ofString "paperhold.errors") (194 : Nat)), .none, (.ref (35 : Nat)), .none, 0⟩), #[]⟩⟩ ::
⟨nat_lit 37, ⟨(.type "tuple"), .none, (.seq #[] (0 : Nat)), #[]⟩⟩ ::
⟨nat_lit 39, ⟨(.type "tuple"), .none, (.seq #[(.str (.ofString "self") (222 : Nat))] (0 : Nat)), #[]⟩⟩ ::
⟨nat_lit 40, ⟨(.type "tuple"), .none, (.seq #[] (0 : Nat)), #[]⟩⟩ ::
⟨nat_lit 42, ⟨(.type "code"), .none, (.fields #[(.str (.ofString "told") (219 : Nat)), (.str (.ofString "PaperError.told") (220 : Nat)), (.str (.ofString "/claim/cut.py") (221 : Nat)), (.int 12 (0 : Nat)), (.int 1 (0 : Nat)), (.int 0 (0 : Nat)), (.int 0 (0 : Nat)), (.int 3 (0 : Nat)), (.ref (37 : Nat)), (.bool .true), (.int 181 (0 : Nat)), (.ref (38 : Nat)), .none, (.ref (39 : Nat)), (.ref (40 : Nat)), (.ref (41 : Nat)), (.int 223 (0 : Nat)), (.int 12 (0 : Nat)), (.str (.ofString "/claim/cut.py") (224 : Nat))]), #[]⟩⟩ ::
⟨nat_lit 43, ⟨(.type "function"), .none, (.func ⟨(.ofString "told"), (.ofString "PaperError.told"), p2x1, (.stmts b2x1), s2x1, 3, [], .none, .none, .none, (.str (.ofString "paperhold.errors") (194 : Nat)), .none, (.ref (42 : Nat)), .none, 0⟩), #[]⟩⟩ ::
⟨nat_lit 44, ⟨(.type "tuple"), .none, (.seq #[(.str (.ofString "at") (226 : Nat)), (.str (.ofString "what") (227 : Nat))] (0 : Nat)), #[]⟩⟩ ::
⟨nat_lit 45, ⟨(.type "dict"), .none, (.dict #[⟨(PyData.keyHash P (.ofString "__module__")), (.str (.ofString "__module__") (203 : Nat)), (.str (.ofString "paperhold.errors") (194 : Nat))⟩, ⟨(PyData.keyHash P (.ofString "__firstlineno__")), (.str (.ofString "__firstlineno__") (207 : Nat)), (.int 5 (206 : Nat))⟩, ⟨(PyData.keyHash P (.ofString "__init__")), (.str (.ofString "__init__") (218 : Nat)), (.ref (36 : Nat))⟩, ⟨(PyData.keyHash P (.ofString "told")), (.str (.ofString "told") (225 : Nat)), (.ref (43 : Nat))⟩, ⟨(PyData.keyHash P (.ofString "__static_attributes__")), (.str (.ofString "__static_attributes__") (228 : Nat)), (.ref (44 : Nat))⟩, ⟨(PyData.keyHash P (.ofString "__weakref__")), (.str (.ofString "__weakref__") (230 : Nat)), (.ref (47 : Nat))⟩, ⟨(PyData.keyHash P (.ofString "__doc__")), (.str (.ofString "__doc__") (231 : Nat)), .none⟩] (3 : Nat)), #[]⟩⟩ ::
⟨nat_lit 46, ⟨(.type "type"), .none, (.cls ⟨(.ofString "PaperError"), [(.type "Exception")], [(.ref (46 : Nat)), (.type "Exception"), (.type "BaseException"), (.type "object")], (45 : Nat), (.ofString "PaperError"), .true, [], [(.ref (59 : Nat))], .false, .none, .false⟩), #[(.some (.ref (22 : Nat))), .none, (.some (.str (.ofString "PaperError") (196 : Nat))), (.some (.str (.ofString "PaperError") (204 : Nat))), (.some (.builtin "Exception.__new__")), (.some (.bool .true))]⟩⟩ ::
⟨nat_lit 47, ⟨(.type "getset_descriptor"), .none, (.fields #[(.str (.ofString "__weakref__") (229 : Nat)), (.ref (46 : Nat)), (.builtin "ExceptionGroup.__weakref__"), .none]), #[]⟩⟩ ::
⟨nat_lit 50, ⟨(.type "tuple"), .none, (.seq #[(.ref (46 : Nat))] (0 : Nat)), #[]⟩⟩ ::
⟨nat_lit 57, ⟨(.type "tuple"), .none, (.seq #[] (0 : Nat)), #[]⟩⟩ ::
⟨nat_lit 58, ⟨(.type "dict"), .none, (.dict #[⟨(PyData.keyHash P (.ofString "__module__")), (.str (.ofString "__module__") (243 : Nat)), (.str (.ofString "paperhold.errors") (194 : Nat))⟩, ⟨(PyData.keyHash P (.ofString "__firstlineno__")), (.str (.ofString "__firstlineno__") (247 : Nat)), (.int 14 (246 : Nat))⟩, ⟨(PyData.keyHash P (.ofString "__static_attributes__")), (.str (.ofString "__static_attributes__") (248 : Nat)), (.ref (57 : Nat))⟩, ⟨(PyData.keyHash P (.ofString "__doc__")), (.str (.ofString "__doc__") (249 : Nat)), .none⟩] (2 : Nat)), #[]⟩⟩ ::
⟨nat_lit 59, ⟨(.type "type"), .none, (.cls ⟨(.ofString "PaintFault"), [(.ref (46 : Nat))], [(.ref (59 : Nat)), (.ref (46 : Nat)), (.type "Exception"), (.type "BaseException"), (.type "object")], (58 : Nat), (.ofString "PaintFault"), .true, [], [], .false, .none, .false⟩), #[(.some (.ref (50 : Nat))), .none, (.some (.str (.ofString "PaintFault") (236 : Nat))), (.some (.str (.ofString "PaintFault") (244 : Nat))), (.some (.builtin "Exception.__new__")), (.some (.bool .true))]⟩⟩ ::
⟨nat_lit 69, ⟨(.type "tuple"), .none, (.seq #[] (0 : Nat)), #[]⟩⟩ ::
⟨nat_lit 71, ⟨(.type "tuple"), .none, (.seq #[(.str (.ofString "self") (269 : Nat)), (.str (.ofString "top") (270 : Nat)), (.str (.ofString "places") (271 : Nat))] (0 : Nat)), #[]⟩⟩ ::
⟨nat_lit 72, ⟨(.type "tuple"), .none, (.seq #[] (0 : Nat)), #[]⟩⟩ ::
⟨nat_lit 74, ⟨(.type "code"), .none, (.fields #[(.str (.ofString "__init__") (266 : Nat)), (.str (.ofString "Decimal.__init__") (267 : Nat)), (.str (.ofString "/claim/cut.py") (268 : Nat)), (.int 19 (0 : Nat)), (.int 3 (0 : Nat)), (.int 0 (0 : Nat)), (.int 0 (0 : Nat)), (.int 3 (0 : Nat)), (.ref (69 : Nat)), (.bool .true), (.int 181 (0 : Nat)), (.ref (70 : Nat)), .none, (.ref (71 : Nat)), (.ref (72 : Nat)), (.ref (73 : Nat)), (.int 272 (0 : Nat)), (.int 19 (0 : Nat)), (.str (.ofString "/claim/cut.py") (273 : Nat))]), #[]⟩⟩ ::
⟨nat_lit 75, ⟨(.type "function"), .none, (.func ⟨(.ofString "__init__"), (.ofString "Decimal.__init__"), p5x0, (.stmts b5x0), s5x0, 3, [], .none, .none, .none, (.str (.ofString "paperhold.decimals") (252 : Nat)), .none, (.ref (74 : Nat)), .none, 0⟩), #[]⟩⟩ ::
⟨nat_lit 76, ⟨(.type "tuple"), .none, (.seq #[] (0 : Nat)), #[]⟩⟩ ::
⟨nat_lit 78, ⟨(.type "tuple"), .none, (.seq #[(.str (.ofString "self") (278 : Nat)), (.str (.ofString "other") (279 : Nat))] (0 : Nat)), #[]⟩⟩ ::
⟨nat_lit 79, ⟨(.type "tuple"), .none, (.seq #[] (0 : Nat)), #[]⟩⟩ ::
⟨nat_lit 81, ⟨(.type "code"), .none, (.fields #[(.str (.ofString "plus") (275 : Nat)), (.str (.ofString "Decimal.plus") (276 : Nat)), (.str (.ofString "/claim/cut.py") (277 : Nat)), (.int 26 (0 : Nat)), (.int 2 (0 : Nat)), (.int 0 (0 : Nat)), (.int 0 (0 : Nat)), (.int 3 (0 : Nat)), (.ref (76 : Nat)), (.bool .true), (.int 181 (0 : Nat)), (.ref (77 : Nat)), .none, (.ref (78 : Nat)), (.ref (79 : Nat)), (.ref (80 : Nat)), (.int 280 (0 : Nat)), (.int 26 (0 : Nat)), (.str (.ofString "/claim/cut.py") (281 : Nat))]), #[]⟩⟩ ::
⟨nat_lit 82, ⟨(.type "function"), .none, (.func ⟨(.ofString "plus"), (.ofString "Decimal.plus"), p5x1, (.stmts b5x1), s5x1, 3, [], .none, .none, .none, (.str (.ofString "paperhold.decimals") (252 : Nat)), .none, (.ref (81 : Nat)), .none, 0⟩), #[]⟩⟩ ::
⟨nat_lit 83, ⟨(.type "tuple"), .none, (.seq #[] (0 : Nat)), #[]⟩⟩ ::
⟨nat_lit 85, ⟨(.type "tuple"), .none, (.seq #[(.str (.ofString "self") (286 : Nat)), (.str (.ofString "other") (287 : Nat))] (0 : Nat)), #[]⟩⟩ ::
⟨nat_lit 86, ⟨(.type "tuple"), .none, (.seq #[] (0 : Nat)), #[]⟩⟩ ::
⟨nat_lit 88, ⟨(.type "code"), .none, (.fields #[(.str (.ofString "minus") (283 : Nat)), (.str (.ofString "Decimal.minus") (284 : Nat)), (.str (.ofString "/claim/cut.py") (285 : Nat)), (.int 29 (0 : Nat)), (.int 2 (0 : Nat)), (.int 0 (0 : Nat)), (.int 0 (0 : Nat)), (.int 3 (0 : Nat)), (.ref (83 : Nat)), (.bool .true), (.int 181 (0 : Nat)), (.ref (84 : Nat)), .none, (.ref (85 : Nat)), (.ref (86 : Nat)), (.ref (87 : Nat)), (.int 288 (0 : Nat)), (.int 29 (0 : Nat)), (.str (.ofString "/claim/cut.py") (289 : Nat))]), #[]⟩⟩ ::
⟨nat_lit 89, ⟨(.type "function"), .none, (.func ⟨(.ofString "minus"), (.ofString "Decimal.minus"), p5x2, (.stmts b5x2), s5x2, 3, [], .none, .none, .none, (.str (.ofString "paperhold.decimals") (252 : Nat)), .none, (.ref (88 : Nat)), .none, 0⟩), #[]⟩⟩ ::
⟨nat_lit 90, ⟨(.type "tuple"), .none, (.seq #[] (0 : Nat)), #[]⟩⟩ ::
⟨nat_lit 92, ⟨(.type "tuple"), .none, (.seq #[(.str (.ofString "self") (294 : Nat)), (.str (.ofString "other") (295 : Nat))] (0 : Nat)), #[]⟩⟩ ::
⟨nat_lit 93, ⟨(.type "tuple"), .none, (.seq #[] (0 : Nat)), #[]⟩⟩ ::
⟨nat_lit 95, ⟨(.type "code"), .none, (.fields #[(.str (.ofString "times") (291 : Nat)), (.str (.ofString "Decimal.times") (292 : Nat)), (.str (.ofString "/claim/cut.py") (293 : Nat)), (.int 32 (0 : Nat)), (.int 2 (0 : Nat)), (.int 0 (0 : Nat)), (.int 0 (0 : Nat)), (.int 3 (0 : Nat)), (.ref (90 : Nat)), (.bool .true), (.int 181 (0 : Nat)), (.ref (91 : Nat)), .none, (.ref (92 : Nat)), (.ref (93 : Nat)), (.ref (94 : Nat)), (.int 296 (0 : Nat)), (.int 32 (0 : Nat)), (.str (.ofString "/claim/cut.py") (297 : Nat))]), #[]⟩⟩ ::
⟨nat_lit 96, ⟨(.type "function"), .none, (.func ⟨(.ofString "times"), (.ofString "Decimal.times"), p5x3, (.stmts b5x3), s5x3, 3, [], .none, .none, .none, (.str (.ofString "paperhold.decimals") (252 : Nat)), .none, (.ref (95 : Nat)), .none, 0⟩), #[]⟩⟩ ::
⟨nat_lit 97, ⟨(.type "tuple"), .none, (.seq #[] (0 : Nat)), #[]⟩⟩ ::
⟨nat_lit 99, ⟨(.type "tuple"), .none, (.seq #[(.str (.ofString "self") (302 : Nat))] (0 : Nat)), #[]⟩⟩ ::
⟨nat_lit 100, ⟨(.type "tuple"), .none, (.seq #[] (0 : Nat)), #[]⟩⟩ ::
⟨nat_lit 102, ⟨(.type "code"), .none, (.fields #[(.str (.ofString "negated") (299 : Nat)), (.str (.ofString "Decimal.negated") (300 : Nat)), (.str (.ofString "/claim/cut.py") (301 : Nat)), (.int 35 (0 : Nat)), (.int 1 (0 : Nat)), (.int 0 (0 : Nat)), (.int 0 (0 : Nat)), (.int 3 (0 : Nat)), (.ref (97 : Nat)), (.bool .true), (.int 181 (0 : Nat)), (.ref (98 : Nat)), .none, (.ref (99 : Nat)), (.ref (100 : Nat)), (.ref (101 : Nat)), (.int 303 (0 : Nat)), (.int 35 (0 : Nat)), (.str (.ofString "/claim/cut.py") (304 : Nat))]), #[]⟩⟩ ::
⟨nat_lit 103, ⟨(.type "function"), .none, (.func ⟨(.ofString "negated"), (.ofString "Decimal.negated"), p5x4, (.stmts b5x4), s5x4, 3, [], .none, .none, .none, (.str (.ofString "paperhold.decimals") (252 : Nat)), .none, (.ref (102 : Nat)), .none, 0⟩), #[]⟩⟩ ::
⟨nat_lit 104, ⟨(.type "tuple"), .none, (.seq #[] (0 : Nat)), #[]⟩⟩ ::
⟨nat_lit 106, ⟨(.type "tuple"), .none, (.seq #[(.str (.ofString "self") (309 : Nat)), (.str (.ofString "other") (310 : Nat))] (0 : Nat)), #[]⟩⟩ ::
⟨nat_lit 107, ⟨(.type "tuple"), .none, (.seq #[] (0 : Nat)), #[]⟩⟩ ::
⟨nat_lit 109, ⟨(.type "code"), .none, (.fields #[(.str (.ofString "compared") (306 : Nat)), (.str (.ofString "Decimal.compared") (307 : Nat)), (.str (.ofString "/claim/cut.py") (308 : Nat)), (.int 38 (0 : Nat)), (.int 2 (0 : Nat)), (.int 0 (0 : Nat)), (.int 0 (0 : Nat)), (.int 3 (0 : Nat)), (.ref (104 : Nat)), (.bool .true), (.int 181 (0 : Nat)), (.ref (105 : Nat)), .none, (.ref (106 : Nat)), (.ref (107 : Nat)), (.ref (108 : Nat)), (.int 311 (0 : Nat)), (.int 38 (0 : Nat)), (.str (.ofString "/claim/cut.py") (312 : Nat))]), #[]⟩⟩ ::
⟨nat_lit 110, ⟨(.type "function"), .none, (.func ⟨(.ofString "compared"), (.ofString "Decimal.compared"), p5x5, (.stmts b5x5), s5x5, 3, [], .none, .none, .none, (.str (.ofString "paperhold.decimals") (252 : Nat)), .none, (.ref (109 : Nat)), .none, 0⟩), #[]⟩⟩ ::
⟨nat_lit 111, ⟨(.type "tuple"), .none, (.seq #[] (0 : Nat)), #[]⟩⟩ ::
⟨nat_lit 113, ⟨(.type "tuple"), .none, (.seq #[(.str (.ofString "self") (317 : Nat))] (0 : Nat)), #[]⟩⟩ ::
⟨nat_lit 114, ⟨(.type "tuple"), .none, (.seq #[] (0 : Nat)), #[]⟩⟩ ::
⟨nat_lit 116, ⟨(.type "code"), .none, (.fields #[(.str (.ofString "is_whole") (314 : Nat)), (.str (.ofString "Decimal.is_whole") (315 : Nat)), (.str (.ofString "/claim/cut.py") (316 : Nat)), (.int 41 (0 : Nat)), (.int 1 (0 : Nat)), (.int 0 (0 : Nat)), (.int 0 (0 : Nat)), (.int 3 (0 : Nat)), (.ref (111 : Nat)), (.bool .true), (.int 181 (0 : Nat)), (.ref (112 : Nat)), .none, (.ref (113 : Nat)), (.ref (114 : Nat)), (.ref (115 : Nat)), (.int 318 (0 : Nat)), (.int 41 (0 : Nat)), (.str (.ofString "/claim/cut.py") (319 : Nat))]), #[]⟩⟩ ::
⟨nat_lit 117, ⟨(.type "function"), .none, (.func ⟨(.ofString "is_whole"), (.ofString "Decimal.is_whole"), p5x6, (.stmts b5x6), s5x6, 3, [], .none, .none, .none, (.str (.ofString "paperhold.decimals") (252 : Nat)), .none, (.ref (116 : Nat)), .none, 0⟩), #[]⟩⟩ ::
⟨nat_lit 118, ⟨(.type "tuple"), .none, (.seq #[] (0 : Nat)), #[]⟩⟩ ::
⟨nat_lit 120, ⟨(.type "tuple"), .none, (.seq #[(.str (.ofString "self") (324 : Nat))] (0 : Nat)), #[]⟩⟩ ::
⟨nat_lit 121, ⟨(.type "tuple"), .none, (.seq #[] (0 : Nat)), #[]⟩⟩ ::
⟨nat_lit 123, ⟨(.type "code"), .none, (.fields #[(.str (.ofString "floor") (321 : Nat)), (.str (.ofString "Decimal.floor") (322 : Nat)), (.str (.ofString "/claim/cut.py") (323 : Nat)), (.int 44 (0 : Nat)), (.int 1 (0 : Nat)), (.int 0 (0 : Nat)), (.int 0 (0 : Nat)), (.int 3 (0 : Nat)), (.ref (118 : Nat)), (.bool .true), (.int 181 (0 : Nat)), (.ref (119 : Nat)), .none, (.ref (120 : Nat)), (.ref (121 : Nat)), (.ref (122 : Nat)), (.int 325 (0 : Nat)), (.int 44 (0 : Nat)), (.str (.ofString "/claim/cut.py") (326 : Nat))]), #[]⟩⟩ ::
⟨nat_lit 124, ⟨(.type "function"), .none, (.func ⟨(.ofString "floor"), (.ofString "Decimal.floor"), p5x7, (.stmts b5x7), s5x7, 3, [], .none, .none, .none, (.str (.ofString "paperhold.decimals") (252 : Nat)), .none, (.ref (123 : Nat)), .none, 0⟩), #[]⟩⟩ ::
⟨nat_lit 125, ⟨(.type "tuple"), .none, (.seq #[] (0 : Nat)), #[]⟩⟩ ::
⟨nat_lit 127, ⟨(.type "tuple"), .none, (.seq #[(.str (.ofString "self") (331 : Nat)), (.str (.ofString "places") (332 : Nat))] (0 : Nat)), #[]⟩⟩ ::
⟨nat_lit 128, ⟨(.type "tuple"), .none, (.seq #[] (0 : Nat)), #[]⟩⟩ ::
⟨nat_lit 130, ⟨(.type "code"), .none, (.fields #[(.str (.ofString "rounded") (328 : Nat)), (.str (.ofString "Decimal.rounded") (329 : Nat)), (.str (.ofString "/claim/cut.py") (330 : Nat)), (.int 47 (0 : Nat)), (.int 2 (0 : Nat)), (.int 0 (0 : Nat)), (.int 0 (0 : Nat)), (.int 3 (0 : Nat)), (.ref (125 : Nat)), (.bool .true), (.int 181 (0 : Nat)), (.ref (126 : Nat)), .none, (.ref (127 : Nat)), (.ref (128 : Nat)), (.ref (129 : Nat)), (.int 333 (0 : Nat)), (.int 47 (0 : Nat)), (.str (.ofString "/claim/cut.py") (334 : Nat))]), #[]⟩⟩ ::
⟨nat_lit 131, ⟨(.type "function"), .none, (.func ⟨(.ofString "rounded"), (.ofString "Decimal.rounded"), p5x8, (.stmts b5x8), s5x8, 3, [], .none, .none, .none, (.str (.ofString "paperhold.decimals") (252 : Nat)), .none, (.ref (130 : Nat)), .none, 0⟩), #[]⟩⟩ ::
⟨nat_lit 132, ⟨(.type "tuple"), .none, (.seq #[] (0 : Nat)), #[]⟩⟩ ::
⟨nat_lit 134, ⟨(.type "tuple"), .none, (.seq #[(.str (.ofString "self") (339 : Nat))] (0 : Nat)), #[]⟩⟩ ::
⟨nat_lit 135, ⟨(.type "tuple"), .none, (.seq #[] (0 : Nat)), #[]⟩⟩ ::
⟨nat_lit 137, ⟨(.type "code"), .none, (.fields #[(.str (.ofString "told") (336 : Nat)), (.str (.ofString "Decimal.told") (337 : Nat)), (.str (.ofString "/claim/cut.py") (338 : Nat)), (.int 50 (0 : Nat)), (.int 1 (0 : Nat)), (.int 0 (0 : Nat)), (.int 0 (0 : Nat)), (.int 3 (0 : Nat)), (.ref (132 : Nat)), (.bool .true), (.int 181 (0 : Nat)), (.ref (133 : Nat)), .none, (.ref (134 : Nat)), (.ref (135 : Nat)), (.ref (136 : Nat)), (.int 340 (0 : Nat)), (.int 50 (0 : Nat)), (.str (.ofString "/claim/cut.py") (341 : Nat))]), #[]⟩⟩ ::
⟨nat_lit 138, ⟨(.type "function"), .none, (.func ⟨(.ofString "told"), (.ofString "Decimal.told"), p5x9, (.stmts b5x9), s5x9, 3, [], .none, .none, .none, (.str (.ofString "paperhold.decimals") (252 : Nat)), .none, (.ref (137 : Nat)), .none, 0⟩), #[]⟩⟩ ::
⟨nat_lit 139, ⟨(.type "tuple"), .none, (.seq #[] (0 : Nat)), #[]⟩⟩ ::
⟨nat_lit 141, ⟨(.type "tuple"), .none, (.seq #[(.str (.ofString "self") (346 : Nat)), (.str (.ofString "numerals") (347 : Nat))] (0 : Nat)), #[]⟩⟩ ::
⟨nat_lit 142, ⟨(.type "tuple"), .none, (.seq #[] (0 : Nat)), #[]⟩⟩ ::
⟨nat_lit 144, ⟨(.type "code"), .none, (.fields #[(.str (.ofString "text") (343 : Nat)), (.str (.ofString "Decimal.text") (344 : Nat)), (.str (.ofString "/claim/cut.py") (345 : Nat)), (.int 53 (0 : Nat)), (.int 1 (0 : Nat)), (.int 0 (0 : Nat)), (.int 0 (0 : Nat)), (.int 3 (0 : Nat)), (.ref (139 : Nat)), (.bool .true), (.int 181 (0 : Nat)), (.ref (140 : Nat)), .none, (.ref (141 : Nat)), (.ref (142 : Nat)), (.ref (143 : Nat)), (.int 348 (0 : Nat)), (.int 53 (0 : Nat)), (.str (.ofString "/claim/cut.py") (349 : Nat))]), #[]⟩⟩ ::
⟨nat_lit 145, ⟨(.type "function"), .none, (.func ⟨(.ofString "text"), (.ofString "Decimal.text"), p5x10, (.stmts b5x10), s5x10, 3, [], .none, .none, .none, (.str (.ofString "paperhold.decimals") (252 : Nat)), .none, (.ref (144 : Nat)), .none, 0⟩), #[]⟩⟩ ::
⟨nat_lit 146, ⟨(.type "tuple"), .none, (.seq #[] (0 : Nat)), #[]⟩⟩ ::
⟨nat_lit 148, ⟨(.type "tuple"), .none, (.seq #[(.str (.ofString "self") (354 : Nat))] (0 : Nat)), #[]⟩⟩ ::
⟨nat_lit 149, ⟨(.type "tuple"), .none, (.seq #[] (0 : Nat)), #[]⟩⟩ ::
⟨nat_lit 151, ⟨(.type "code"), .none, (.fields #[(.str (.ofString "least_text") (351 : Nat)), (.str (.ofString "Decimal.least_text") (352 : Nat)), (.str (.ofString "/claim/cut.py") (353 : Nat)), (.int 60 (0 : Nat)), (.int 1 (0 : Nat)), (.int 0 (0 : Nat)), (.int 0 (0 : Nat)), (.int 3 (0 : Nat)), (.ref (146 : Nat)), (.bool .true), (.int 181 (0 : Nat)), (.ref (147 : Nat)), .none, (.ref (148 : Nat)), (.ref (149 : Nat)), (.ref (150 : Nat)), (.int 355 (0 : Nat)), (.int 60 (0 : Nat)), (.str (.ofString "/claim/cut.py") (356 : Nat))]), #[]⟩⟩ ::
⟨nat_lit 152, ⟨(.type "function"), .none, (.func ⟨(.ofString "least_text"), (.ofString "Decimal.least_text"), p5x11, (.stmts b5x11), s5x11, 3, [], .none, .none, .none, (.str (.ofString "paperhold.decimals") (252 : Nat)), .none, (.ref (151 : Nat)), .none, 0⟩), #[]⟩⟩ ::
⟨nat_lit 153, ⟨(.type "tuple"), .none, (.seq #[(.str (.ofString "places") (358 : Nat)), (.str (.ofString "top") (359 : Nat))] (0 : Nat)), #[]⟩⟩ ::
⟨nat_lit 154, ⟨(.type "dict"), .none, (.dict #[⟨(PyData.keyHash P (.ofString "__module__")), (.str (.ofString "__module__") (261 : Nat)), (.str (.ofString "paperhold.decimals") (252 : Nat))⟩, ⟨(PyData.keyHash P (.ofString "__firstlineno__")), (.str (.ofString "__firstlineno__") (265 : Nat)), (.int 17 (264 : Nat))⟩, ⟨(PyData.keyHash P (.ofString "__init__")), (.str (.ofString "__init__") (274 : Nat)), (.ref (75 : Nat))⟩, ⟨(PyData.keyHash P (.ofString "plus")), (.str (.ofString "plus") (282 : Nat)), (.ref (82 : Nat))⟩, ⟨(PyData.keyHash P (.ofString "minus")), (.str (.ofString "minus") (290 : Nat)), (.ref (89 : Nat))⟩, ⟨(PyData.keyHash P (.ofString "times")), (.str (.ofString "times") (298 : Nat)), (.ref (96 : Nat))⟩, ⟨(PyData.keyHash P (.ofString "negated")), (.str (.ofString "negated") (305 : Nat)), (.ref (103 : Nat))⟩, ⟨(PyData.keyHash P (.ofString "compared")), (.str (.ofString "compared") (313 : Nat)), (.ref (110 : Nat))⟩, ⟨(PyData.keyHash P (.ofString "is_whole")), (.str (.ofString "is_whole") (320 : Nat)), (.ref (117 : Nat))⟩, ⟨(PyData.keyHash P (.ofString "floor")), (.str (.ofString "floor") (327 : Nat)), (.ref (124 : Nat))⟩, ⟨(PyData.keyHash P (.ofString "rounded")), (.str (.ofString "rounded") (335 : Nat)), (.ref (131 : Nat))⟩, ⟨(PyData.keyHash P (.ofString "told")), (.str (.ofString "told") (342 : Nat)), (.ref (138 : Nat))⟩, ⟨(PyData.keyHash P (.ofString "text")), (.str (.ofString "text") (350 : Nat)), (.ref (145 : Nat))⟩, ⟨(PyData.keyHash P (.ofString "least_text")), (.str (.ofString "least_text") (357 : Nat)), (.ref (152 : Nat))⟩, ⟨(PyData.keyHash P (.ofString "__static_attributes__")), (.str (.ofString "__static_attributes__") (360 : Nat)), (.ref (153 : Nat))⟩, ⟨(PyData.keyHash P (.ofString "__dict__")), (.str (.ofString "__dict__") (362 : Nat)), (.ref (156 : Nat))⟩, ⟨(PyData.keyHash P (.ofString "__weakref__")), (.str (.ofString "__weakref__") (364 : Nat)), (.ref (157 : Nat))⟩, ⟨(PyData.keyHash P (.ofString "__doc__")), (.str (.ofString "__doc__") (365 : Nat)), .none⟩] (4 : Nat)), #[]⟩⟩ ::
⟨nat_lit 155, ⟨(.type "type"), .none, (.cls ⟨(.ofString "Decimal"), [(.type "object")], [(.ref (155 : Nat)), (.type "object")], (154 : Nat), (.ofString "Decimal"), .true, [], [], .false, .none, .false⟩), #[.none, .none, (.some (.str (.ofString "Decimal") (254 : Nat))), (.some (.str (.ofString "Decimal") (262 : Nat))), (.some (.builtin "object.__new__")), (.some (.bool .true))]⟩⟩ ::
⟨nat_lit 156, ⟨(.type "getset_descriptor"), .none, (.fields #[(.str (.ofString "__dict__") (361 : Nat)), (.ref (155 : Nat)), (.builtin "function.__dict__"), (.builtin "function.__dict__#set")]), #[]⟩⟩ ::
⟨nat_lit 157, ⟨(.type "getset_descriptor"), .none, (.fields #[(.str (.ofString "__weakref__") (363 : Nat)), (.ref (155 : Nat)), (.builtin "ExceptionGroup.__weakref__"), .none]), #[]⟩⟩ ::
⟨nat_lit 160, ⟨(.type "tuple"), .none, (.seq #[] (0 : Nat)), #[]⟩⟩ ::
⟨nat_lit 162, ⟨(.type "tuple"), .none, (.seq #[(.str (.ofString "number") (371 : Nat))] (0 : Nat)), #[]⟩⟩ ::
⟨nat_lit 163, ⟨(.type "tuple"), .none, (.seq #[] (0 : Nat)), #[]⟩⟩ ::
⟨nat_lit 165, ⟨(.type "code"), .none, (.fields #[(.str (.ofString "sign_text") (368 : Nat)), (.str (.ofString "sign_text") (369 : Nat)), (.str (.ofString "/claim/cut.py") (370 : Nat)), (.int 62 (0 : Nat)), (.int 1 (0 : Nat)), (.int 0 (0 : Nat)), (.int 0 (0 : Nat)), (.int 3 (0 : Nat)), (.ref (160 : Nat)), (.bool .true), (.int 181 (0 : Nat)), (.ref (161 : Nat)), .none, (.ref (162 : Nat)), (.ref (163 : Nat)), (.ref (164 : Nat)), (.int 372 (0 : Nat)), (.int 62 (0 : Nat)), (.str (.ofString "/claim/cut.py") (373 : Nat))]), #[]⟩⟩ ::
⟨nat_lit 166, ⟨(.type "function"), .none, (.func ⟨(.ofString "sign_text"), (.ofString "sign_text"), p6, (.stmts b6), s6, 3, [], .none, .none, .none, (.str (.ofString "paperhold.decimals") (252 : Nat)), .none, (.ref (165 : Nat)), .none, 0⟩), #[]⟩⟩ ::
⟨nat_lit 167, ⟨(.type "tuple"), .none, (.seq #[] (0 : Nat)), #[]⟩⟩ ::
⟨nat_lit 169, ⟨(.type "tuple"), .none, (.seq #[(.str (.ofString "value") (378 : Nat))] (0 : Nat)), #[]⟩⟩ ::
⟨nat_lit 170, ⟨(.type "tuple"), .none, (.seq #[] (0 : Nat)), #[]⟩⟩ ::
⟨nat_lit 172, ⟨(.type "code"), .none, (.fields #[(.str (.ofString "decimal_of") (375 : Nat)), (.str (.ofString "decimal_of") (376 : Nat)), (.str (.ofString "/claim/cut.py") (377 : Nat)), (.int 64 (0 : Nat)), (.int 1 (0 : Nat)), (.int 0 (0 : Nat)), (.int 0 (0 : Nat)), (.int 3 (0 : Nat)), (.ref (167 : Nat)), (.bool .true), (.int 181 (0 : Nat)), (.ref (168 : Nat)), .none, (.ref (169 : Nat)), (.ref (170 : Nat)), (.ref (171 : Nat)), (.int 379 (0 : Nat)), (.int 64 (0 : Nat)), (.str (.ofString "/claim/cut.py") (380 : Nat))]), #[]⟩⟩ ::
⟨nat_lit 173, ⟨(.type "function"), .none, (.func ⟨(.ofString "decimal_of"), (.ofString "decimal_of"), p7, (.stmts b7), s7, 3, [], .none, .none, .none, (.str (.ofString "paperhold.decimals") (252 : Nat)), .none, (.ref (172 : Nat)), .none, 0⟩), #[]⟩⟩ ::
⟨nat_lit 181, ⟨(.type "tuple"), .none, (.seq #[] (0 : Nat)), #[]⟩⟩ ::
⟨nat_lit 183, ⟨(.type "tuple"), .none, (.seq #[(.str (.ofString "self") (401 : Nat)), (.str (.ofString "text") (402 : Nat))] (0 : Nat)), #[]⟩⟩ ::
⟨nat_lit 184, ⟨(.type "tuple"), .none, (.seq #[] (0 : Nat)), #[]⟩⟩ ::
⟨nat_lit 186, ⟨(.type "code"), .none, (.fields #[(.str (.ofString "__init__") (398 : Nat)), (.str (.ofString "Name.__init__") (399 : Nat)), (.str (.ofString "/claim/cut.py") (400 : Nat)), (.int 74 (0 : Nat)), (.int 2 (0 : Nat)), (.int 0 (0 : Nat)), (.int 0 (0 : Nat)), (.int 3 (0 : Nat)), (.ref (181 : Nat)), (.bool .true), (.int 181 (0 : Nat)), (.ref (182 : Nat)), .none, (.ref (183 : Nat)), (.ref (184 : Nat)), (.ref (185 : Nat)), (.int 403 (0 : Nat)), (.int 74 (0 : Nat)), (.str (.ofString "/claim/cut.py") (404 : Nat))]), #[]⟩⟩ ::
⟨nat_lit 187, ⟨(.type "function"), .none, (.func ⟨(.ofString "__init__"), (.ofString "Name.__init__"), p10x0, (.stmts b10x0), s10x0, 3, [], .none, .none, .none, (.str (.ofString "paperhold.objects") (382 : Nat)), .none, (.ref (186 : Nat)), .none, 0⟩), #[]⟩⟩ ::
⟨nat_lit 188, ⟨(.type "tuple"), .none, (.seq #[(.str (.ofString "text") (406 : Nat))] (0 : Nat)), #[]⟩⟩ ::
⟨nat_lit 189, ⟨(.type "dict"), .none, (.dict #[⟨(PyData.keyHash P (.ofString "__module__")), (.str (.ofString "__module__") (393 : Nat)), (.str (.ofString "paperhold.objects") (382 : Nat))⟩, ⟨(PyData.keyHash P (.ofString "__firstlineno__")), (.str (.ofString "__firstlineno__") (397 : Nat)), (.int 72 (396 : Nat))⟩, ⟨(PyData.keyHash P (.ofString "__init__")), (.str (.ofString "__init__") (405 : Nat)), (.ref (187 : Nat))⟩, ⟨(PyData.keyHash P (.ofString "__static_attributes__")), (.str (.ofString "__static_attributes__") (407 : Nat)), (.ref (188 : Nat))⟩, ⟨(PyData.keyHash P (.ofString "__dict__")), (.str (.ofString "__dict__") (409 : Nat)), (.ref (191 : Nat))⟩, ⟨(PyData.keyHash P (.ofString "__weakref__")), (.str (.ofString "__weakref__") (411 : Nat)), (.ref (192 : Nat))⟩, ⟨(PyData.keyHash P (.ofString "__doc__")), (.str (.ofString "__doc__") (412 : Nat)), .none⟩] (4 : Nat)), #[]⟩⟩ ::
⟨nat_lit 190, ⟨(.type "type"), .none, (.cls ⟨(.ofString "Name"), [(.type "object")], [(.ref (190 : Nat)), (.type "object")], (189 : Nat), (.ofString "Name"), .true, [], [], .false, .none, .false⟩), #[.none, .none, (.some (.str (.ofString "Name") (386 : Nat))), (.some (.str (.ofString "Name") (394 : Nat))), (.some (.builtin "object.__new__")), (.some (.bool .true))]⟩⟩ ::
⟨nat_lit 191, ⟨(.type "getset_descriptor"), .none, (.fields #[(.str (.ofString "__dict__") (408 : Nat)), (.ref (190 : Nat)), (.builtin "function.__dict__"), (.builtin "function.__dict__#set")]), #[]⟩⟩ ::
⟨nat_lit 192, ⟨(.type "getset_descriptor"), .none, (.fields #[(.str (.ofString "__weakref__") (410 : Nat)), (.ref (190 : Nat)), (.builtin "ExceptionGroup.__weakref__"), .none]), #[]⟩⟩ ::
⟨nat_lit 202, ⟨(.type "tuple"), .none, (.seq #[(.bool .false)] (0 : Nat)), #[]⟩⟩ ::
⟨nat_lit 203, ⟨(.type "tuple"), .none, (.seq #[] (0 : Nat)), #[]⟩⟩ ::
⟨nat_lit 205, ⟨(.type "tuple"), .none, (.seq #[(.str (.ofString "self") (430 : Nat)), (.str (.ofString "octets") (431 : Nat)), (.str (.ofString "is_hex") (432 : Nat))] (0 : Nat)), #[]⟩⟩ ::
⟨nat_lit 206, ⟨(.type "tuple"), .none, (.seq #[] (0 : Nat)), #[]⟩⟩ ::
⟨nat_lit 208, ⟨(.type "code"), .none, (.fields #[(.str (.ofString "__init__") (427 : Nat)), (.str (.ofString "String.__init__") (428 : Nat)), (.str (.ofString "/claim/cut.py") (429 : Nat)), (.int 78 (0 : Nat)), (.int 3 (0 : Nat)), (.int 0 (0 : Nat)), (.int 0 (0 : Nat)), (.int 3 (0 : Nat)), (.ref (203 : Nat)), (.bool .true), (.int 181 (0 : Nat)), (.ref (204 : Nat)), .none, (.ref (205 : Nat)), (.ref (206 : Nat)), (.ref (207 : Nat)), (.int 433 (0 : Nat)), (.int 78 (0 : Nat)), (.str (.ofString "/claim/cut.py") (434 : Nat))]), #[]⟩⟩ ::
⟨nat_lit 209, ⟨(.type "function"), .none, (.func ⟨(.ofString "__init__"), (.ofString "String.__init__"), p11x0, (.stmts b11x0), s11x0, 3, [], (.ref (202 : Nat)), .none, .none, (.str (.ofString "paperhold.objects") (382 : Nat)), .none, (.ref (208 : Nat)), .none, 0⟩), #[]⟩⟩ ::
⟨nat_lit 210, ⟨(.type "tuple"), .none, (.seq #[(.str (.ofString "is_hex") (436 : Nat)), (.str (.ofString "octets") (437 : Nat))] (0 : Nat)), #[]⟩⟩ ::
⟨nat_lit 211, ⟨(.type "dict"), .none, (.dict #[⟨(PyData.keyHash P (.ofString "__module__")), (.str (.ofString "__module__") (422 : Nat)), (.str (.ofString "paperhold.objects") (382 : Nat))⟩, ⟨(PyData.keyHash P (.ofString "__firstlineno__")), (.str (.ofString "__firstlineno__") (426 : Nat)), (.int 76 (425 : Nat))⟩, ⟨(PyData.keyHash P (.ofString "__init__")), (.str (.ofString "__init__") (435 : Nat)), (.ref (209 : Nat))⟩, ⟨(PyData.keyHash P (.ofString "__static_attributes__")), (.str (.ofString "__static_attributes__") (438 : Nat)), (.ref (210 : Nat))⟩, ⟨(PyData.keyHash P (.ofString "__dict__")), (.str (.ofString "__dict__") (440 : Nat)), (.ref (213 : Nat))⟩, ⟨(PyData.keyHash P (.ofString "__weakref__")), (.str (.ofString "__weakref__") (442 : Nat)), (.ref (214 : Nat))⟩, ⟨(PyData.keyHash P (.ofString "__doc__")), (.str (.ofString "__doc__") (443 : Nat)), .none⟩] (4 : Nat)), #[]⟩⟩ ::
⟨nat_lit 212, ⟨(.type "type"), .none, (.cls ⟨(.ofString "String"), [(.type "object")], [(.ref (212 : Nat)), (.type "object")], (211 : Nat), (.ofString "String"), .true, [], [], .false, .none, .false⟩), #[.none, .none, (.some (.str (.ofString "String") (415 : Nat))), (.some (.str (.ofString "String") (423 : Nat))), (.some (.builtin "object.__new__")), (.some (.bool .true))]⟩⟩ ::
⟨nat_lit 213, ⟨(.type "getset_descriptor"), .none, (.fields #[(.str (.ofString "__dict__") (439 : Nat)), (.ref (212 : Nat)), (.builtin "function.__dict__"), (.builtin "function.__dict__#set")]), #[]⟩⟩ ::
⟨nat_lit 214, ⟨(.type "getset_descriptor"), .none, (.fields #[(.str (.ofString "__weakref__") (441 : Nat)), (.ref (212 : Nat)), (.builtin "ExceptionGroup.__weakref__"), .none]), #[]⟩⟩ ::
⟨nat_lit 224, ⟨(.type "tuple"), .none, (.seq #[] (0 : Nat)), #[]⟩⟩ ::
⟨nat_lit 226, ⟨(.type "tuple"), .none, (.seq #[(.str (.ofString "self") (461 : Nat)), (.str (.ofString "head") (462 : Nat)), (.str (.ofString "octets") (463 : Nat))] (0 : Nat)), #[]⟩⟩ ::
⟨nat_lit 227, ⟨(.type "tuple"), .none, (.seq #[] (0 : Nat)), #[]⟩⟩ ::
⟨nat_lit 229, ⟨(.type "code"), .none, (.fields #[(.str (.ofString "__init__") (458 : Nat)), (.str (.ofString "Stream.__init__") (459 : Nat)), (.str (.ofString "/claim/cut.py") (460 : Nat)), (.int 83 (0 : Nat)), (.int 3 (0 : Nat)), (.int 0 (0 : Nat)), (.int 0 (0 : Nat)), (.int 3 (0 : Nat)), (.ref (224 : Nat)), (.bool .true), (.int 181 (0 : Nat)), (.ref (225 : Nat)), .none, (.ref (226 : Nat)), (.ref (227 : Nat)), (.ref (228 : Nat)), (.int 464 (0 : Nat)), (.int 83 (0 : Nat)), (.str (.ofString "/claim/cut.py") (465 : Nat))]), #[]⟩⟩ ::
⟨nat_lit 230, ⟨(.type "function"), .none, (.func ⟨(.ofString "__init__"), (.ofString "Stream.__init__"), p12x0, (.stmts b12x0), s12x0, 3, [], .none, .none, .none, (.str (.ofString "paperhold.objects") (382 : Nat)), .none, (.ref (229 : Nat)), .none, 0⟩), #[]⟩⟩ ::
⟨nat_lit 231, ⟨(.type "tuple"), .none, (.seq #[(.str (.ofString "head") (467 : Nat)), (.str (.ofString "octets") (468 : Nat))] (0 : Nat)), #[]⟩⟩ ::
⟨nat_lit 232, ⟨(.type "dict"), .none, (.dict #[⟨(PyData.keyHash P (.ofString "__module__")), (.str (.ofString "__module__") (453 : Nat)), (.str (.ofString "paperhold.objects") (382 : Nat))⟩, ⟨(PyData.keyHash P (.ofString "__firstlineno__")), (.str (.ofString "__firstlineno__") (457 : Nat)), (.int 81 (456 : Nat))⟩, ⟨(PyData.keyHash P (.ofString "__init__")), (.str (.ofString "__init__") (466 : Nat)), (.ref (230 : Nat))⟩, ⟨(PyData.keyHash P (.ofString "__static_attributes__")), (.str (.ofString "__static_attributes__") (469 : Nat)), (.ref (231 : Nat))⟩, ⟨(PyData.keyHash P (.ofString "__dict__")), (.str (.ofString "__dict__") (471 : Nat)), (.ref (234 : Nat))⟩, ⟨(PyData.keyHash P (.ofString "__weakref__")), (.str (.ofString "__weakref__") (473 : Nat)), (.ref (235 : Nat))⟩, ⟨(PyData.keyHash P (.ofString "__doc__")), (.str (.ofString "__doc__") (474 : Nat)), .none⟩] (4 : Nat)), #[]⟩⟩ ::
⟨nat_lit 233, ⟨(.type "type"), .none, (.cls ⟨(.ofString "Stream"), [(.type "object")], [(.ref (233 : Nat)), (.type "object")], (232 : Nat), (.ofString "Stream"), .true, [], [], .false, .none, .false⟩), #[.none, .none, (.some (.str (.ofString "Stream") (446 : Nat))), (.some (.str (.ofString "Stream") (454 : Nat))), (.some (.builtin "object.__new__")), (.some (.bool .true))]⟩⟩ ::
⟨nat_lit 234, ⟨(.type "getset_descriptor"), .none, (.fields #[(.str (.ofString "__dict__") (470 : Nat)), (.ref (233 : Nat)), (.builtin "function.__dict__"), (.builtin "function.__dict__#set")]), #[]⟩⟩ ::
⟨nat_lit 235, ⟨(.type "getset_descriptor"), .none, (.fields #[(.str (.ofString "__weakref__") (472 : Nat)), (.ref (233 : Nat)), (.builtin "ExceptionGroup.__weakref__"), .none]), #[]⟩⟩ ::
⟨nat_lit 245, ⟨(.type "tuple"), .none, (.seq #[] (0 : Nat)), #[]⟩⟩ ::
⟨nat_lit 247, ⟨(.type "tuple"), .none, (.seq #[(.str (.ofString "self") (492 : Nat)), (.str (.ofString "number") (493 : Nat)), (.str (.ofString "generation") (494 : Nat))] (0 : Nat)), #[]⟩⟩ ::
⟨nat_lit 248, ⟨(.type "tuple"), .none, (.seq #[] (0 : Nat)), #[]⟩⟩ ::
⟨nat_lit 250, ⟨(.type "code"), .none, (.fields #[(.str (.ofString "__init__") (489 : Nat)), (.str (.ofString "Reference.__init__") (490 : Nat)), (.str (.ofString "/claim/cut.py") (491 : Nat)), (.int 88 (0 : Nat)), (.int 3 (0 : Nat)), (.int 0 (0 : Nat)), (.int 0 (0 : Nat)), (.int 3 (0 : Nat)), (.ref (245 : Nat)), (.bool .true), (.int 181 (0 : Nat)), (.ref (246 : Nat)), .none, (.ref (247 : Nat)), (.ref (248 : Nat)), (.ref (249 : Nat)), (.int 495 (0 : Nat)), (.int 88 (0 : Nat)), (.str (.ofString "/claim/cut.py") (496 : Nat))]), #[]⟩⟩ ::
⟨nat_lit 251, ⟨(.type "function"), .none, (.func ⟨(.ofString "__init__"), (.ofString "Reference.__init__"), p13x0, (.stmts b13x0), s13x0, 3, [], .none, .none, .none, (.str (.ofString "paperhold.objects") (382 : Nat)), .none, (.ref (250 : Nat)), .none, 0⟩), #[]⟩⟩ ::
⟨nat_lit 252, ⟨(.type "tuple"), .none, (.seq #[] (0 : Nat)), #[]⟩⟩ ::
⟨nat_lit 254, ⟨(.type "tuple"), .none, (.seq #[(.str (.ofString "self") (501 : Nat))] (0 : Nat)), #[]⟩⟩ ::
⟨nat_lit 255, ⟨(.type "tuple"), .none, (.seq #[] (0 : Nat)), #[]⟩⟩ ::
⟨nat_lit 257, ⟨(.type "code"), .none, (.fields #[(.str (.ofString "pair") (498 : Nat)), (.str (.ofString "Reference.pair") (499 : Nat)), (.str (.ofString "/claim/cut.py") (500 : Nat)), (.int 92 (0 : Nat)), (.int 1 (0 : Nat)), (.int 0 (0 : Nat)), (.int 0 (0 : Nat)), (.int 3 (0 : Nat)), (.ref (252 : Nat)), (.bool .true), (.int 181 (0 : Nat)), (.ref (253 : Nat)), .none, (.ref (254 : Nat)), (.ref (255 : Nat)), (.ref (256 : Nat)), (.int 502 (0 : Nat)), (.int 92 (0 : Nat)), (.str (.ofString "/claim/cut.py") (503 : Nat))]), #[]⟩⟩ ::
⟨nat_lit 258, ⟨(.type "function"), .none, (.func ⟨(.ofString "pair"), (.ofString "Reference.pair"), p13x1, (.stmts b13x1), s13x1, 3, [], .none, .none, .none, (.str (.ofString "paperhold.objects") (382 : Nat)), .none, (.ref (257 : Nat)), .none, 0⟩), #[]⟩⟩ ::
⟨nat_lit 259, ⟨(.type "tuple"), .none, (.seq #[(.str (.ofString "generation") (505 : Nat)), (.str (.ofString "number") (506 : Nat))] (0 : Nat)), #[]⟩⟩ ::
⟨nat_lit 260, ⟨(.type "dict"), .none, (.dict #[⟨(PyData.keyHash P (.ofString "__module__")), (.str (.ofString "__module__") (484 : Nat)), (.str (.ofString "paperhold.objects") (382 : Nat))⟩, ⟨(PyData.keyHash P (.ofString "__firstlineno__")), (.str (.ofString "__firstlineno__") (488 : Nat)), (.int 86 (487 : Nat))⟩, ⟨(PyData.keyHash P (.ofString "__init__")), (.str (.ofString "__init__") (497 : Nat)), (.ref (251 : Nat))⟩, ⟨(PyData.keyHash P (.ofString "pair")), (.str (.ofString "pair") (504 : Nat)), (.ref (258 : Nat))⟩, ⟨(PyData.keyHash P (.ofString "__static_attributes__")), (.str (.ofString "__static_attributes__") (507 : Nat)), (.ref (259 : Nat))⟩, ⟨(PyData.keyHash P (.ofString "__dict__")), (.str (.ofString "__dict__") (509 : Nat)), (.ref (262 : Nat))⟩, ⟨(PyData.keyHash P (.ofString "__weakref__")), (.str (.ofString "__weakref__") (511 : Nat)), (.ref (263 : Nat))⟩, ⟨(PyData.keyHash P (.ofString "__doc__")), (.str (.ofString "__doc__") (512 : Nat)), .none⟩] (4 : Nat)), #[]⟩⟩ ::
⟨nat_lit 261, ⟨(.type "type"), .none, (.cls ⟨(.ofString "Reference"), [(.type "object")], [(.ref (261 : Nat)), (.type "object")], (260 : Nat), (.ofString "Reference"), .true, [], [], .false, .none, .false⟩), #[.none, .none, (.some (.str (.ofString "Reference") (477 : Nat))), (.some (.str (.ofString "Reference") (485 : Nat))), (.some (.builtin "object.__new__")), (.some (.bool .true))]⟩⟩ ::
⟨nat_lit 262, ⟨(.type "getset_descriptor"), .none, (.fields #[(.str (.ofString "__dict__") (508 : Nat)), (.ref (261 : Nat)), (.builtin "function.__dict__"), (.builtin "function.__dict__#set")]), #[]⟩⟩ ::
⟨nat_lit 263, ⟨(.type "getset_descriptor"), .none, (.fields #[(.str (.ofString "__weakref__") (510 : Nat)), (.ref (261 : Nat)), (.builtin "ExceptionGroup.__weakref__"), .none]), #[]⟩⟩ ::
⟨nat_lit 266, ⟨(.type "tuple"), .none, (.seq #[] (0 : Nat)), #[]⟩⟩ ::
⟨nat_lit 268, ⟨(.type "tuple"), .none, (.seq #[(.str (.ofString "value") (518 : Nat))] (0 : Nat)), #[]⟩⟩ ::
⟨nat_lit 269, ⟨(.type "tuple"), .none, (.seq #[] (0 : Nat)), #[]⟩⟩ ::
⟨nat_lit 271, ⟨(.type "code"), .none, (.fields #[(.str (.ofString "kind_of") (515 : Nat)), (.str (.ofString "kind_of") (516 : Nat)), (.str (.ofString "/claim/cut.py") (517 : Nat)), (.int 94 (0 : Nat)), (.int 1 (0 : Nat)), (.int 0 (0 : Nat)), (.int 0 (0 : Nat)), (.int 3 (0 : Nat)), (.ref (266 : Nat)), (.bool .true), (.int 181 (0 : Nat)), (.ref (267 : Nat)), .none, (.ref (268 : Nat)), (.ref (269 : Nat)), (.ref (270 : Nat)), (.int 519 (0 : Nat)), (.int 94 (0 : Nat)), (.str (.ofString "/claim/cut.py") (520 : Nat))]), #[]⟩⟩ ::
⟨nat_lit 272, ⟨(.type "function"), .none, (.func ⟨(.ofString "kind_of"), (.ofString "kind_of"), p14, (.stmts b14), s14, 3, [], .none, .none, .none, (.str (.ofString "paperhold.objects") (382 : Nat)), .none, (.ref (271 : Nat)), .none, 0⟩), #[]⟩⟩ ::
⟨nat_lit 273, ⟨(.type "tuple"), .none, (.seq #[] (0 : Nat)), #[]⟩⟩ ::
⟨nat_lit 275, ⟨(.type "tuple"), .none, (.seq #[(.str (.ofString "value") (525 : Nat))] (0 : Nat)), #[]⟩⟩ ::
⟨nat_lit 276, ⟨(.type "tuple"), .none, (.seq #[] (0 : Nat)), #[]⟩⟩ ::
⟨nat_lit 278, ⟨(.type "code"), .none, (.fields #[(.str (.ofString "is_number") (522 : Nat)), (.str (.ofString "is_number") (523 : Nat)), (.str (.ofString "/claim/cut.py") (524 : Nat)), (.int 116 (0 : Nat)), (.int 1 (0 : Nat)), (.int 0 (0 : Nat)), (.int 0 (0 : Nat)), (.int 3 (0 : Nat)), (.ref (273 : Nat)), (.bool .true), (.int 181 (0 : Nat)), (.ref (274 : Nat)), .none, (.ref (275 : Nat)), (.ref (276 : Nat)), (.ref (277 : Nat)), (.int 526 (0 : Nat)), (.int 116 (0 : Nat)), (.str (.ofString "/claim/cut.py") (527 : Nat))]), #[]⟩⟩ ::
⟨nat_lit 279, ⟨(.type "function"), .none, (.func ⟨(.ofString "is_number"), (.ofString "is_number"), p15, (.stmts b15), s15, 3, [], .none, .none, .none, (.str (.ofString "paperhold.objects") (382 : Nat)), .none, (.ref (278 : Nat)), .none, 0⟩), #[]⟩⟩ ::
⟨nat_lit 280, ⟨(.type "tuple"), .none, (.seq #[] (0 : Nat)), #[]⟩⟩ ::
⟨nat_lit 282, ⟨(.type "tuple"), .none, (.seq #[(.str (.ofString "kind") (532 : Nat)), (.str (.ofString "value") (533 : Nat))] (0 : Nat)), #[]⟩⟩ ::
⟨nat_lit 283, ⟨(.type "tuple"), .none, (.seq #[] (0 : Nat)), #[]⟩⟩ ::
⟨nat_lit 285, ⟨(.type "code"), .none, (.fields #[(.str (.ofString "told_plain") (529 : Nat)), (.str (.ofString "told_plain") (530 : Nat)), (.str (.ofString "/claim/cut.py") (531 : Nat)), (.int 118 (0 : Nat)), (.int 2 (0 : Nat)), (.int 0 (0 : Nat)), (.int 0 (0 : Nat)), (.int 3 (0 : Nat)), (.ref (280 : Nat)), (.bool .true), (.int 181 (0 : Nat)), (.ref (281 : Nat)), .none, (.ref (282 : Nat)), (.ref (283 : Nat)), (.ref (284 : Nat)), (.int 534 (0 : Nat)), (.int 118 (0 : Nat)), (.str (.ofString "/claim/cut.py") (535 : Nat))]), #[]⟩⟩ ::
⟨nat_lit 286, ⟨(.type "function"), .none, (.func ⟨(.ofString "told_plain"), (.ofString "told_plain"), p16, (.stmts b16), s16, 3, [], .none, .none, .none, (.str (.ofString "paperhold.objects") (382 : Nat)), .none, (.ref (285 : Nat)), .none, 0⟩), #[]⟩⟩ ::
⟨nat_lit 287, ⟨(.type "tuple"), .none, (.seq #[] (0 : Nat)), #[]⟩⟩ ::
⟨nat_lit 290, ⟨(.type "code"), .none, (.fields #[(.str (.ofString "told") (537 : Nat)), (.str (.ofString "told") (538 : Nat)), (.str (.ofString "/claim/cut.py") (539 : Nat)), (.int 132 (0 : Nat)), (.int 1 (0 : Nat)), (.int 0 (0 : Nat)), (.int 0 (0 : Nat)), (.int 3 (0 : Nat)), (.ref (287 : Nat)), (.bool .true), (.int 181 (0 : Nat)), (.ref (288 : Nat)), .none, .none, .none, (.ref (289 : Nat)), (.int 540 (0 : Nat)), (.int 132 (0 : Nat)), (.str (.ofString "/claim/cut.py") (541 : Nat))]), #[]⟩⟩ ::
⟨nat_lit 291, ⟨(.type "function"), .none, (.func ⟨(.ofString "told"), (.ofString "told"), p17, (.stmts b17), s17, 3, [], .none, .none, .none, (.str (.ofString "paperhold.objects") (382 : Nat)), .none, (.ref (290 : Nat)), .none, 0⟩), #[]⟩⟩ ::
⟨nat_lit 299, ⟨(.type "tuple"), .none, (.seq #[.none, .none] (0 : Nat)), #[]⟩⟩ ::
⟨nat_lit 300, ⟨(.type "tuple"), .none, (.seq #[] (0 : Nat)), #[]⟩⟩ ::
⟨nat_lit 302, ⟨(.type "tuple"), .none, (.seq #[(.str (.ofString "self") (559 : Nat)), (.str (.ofString "table") (560 : Nat)), (.str (.ofString "trailer") (561 : Nat))] (0 : Nat)), #[]⟩⟩ ::
⟨nat_lit 303, ⟨(.type "tuple"), .none, (.seq #[] (0 : Nat)), #[]⟩⟩ ::
⟨nat_lit 305, ⟨(.type "code"), .none, (.fields #[(.str (.ofString "__init__") (556 : Nat)), (.str (.ofString "Lookup.__init__") (557 : Nat)), (.str (.ofString "/claim/cut.py") (558 : Nat)), (.int 144 (0 : Nat)), (.int 3 (0 : Nat)), (.int 0 (0 : Nat)), (.int 0 (0 : Nat)), (.int 3 (0 : Nat)), (.ref (300 : Nat)), (.bool .true), (.int 181 (0 : Nat)), (.ref (301 : Nat)), .none, (.ref (302 : Nat)), (.ref (303 : Nat)), (.ref (304 : Nat)), (.int 562 (0 : Nat)), (.int 144 (0 : Nat)), (.str (.ofString "/claim/cut.py") (563 : Nat))]), #[]⟩⟩ ::
⟨nat_lit 306, ⟨(.type "function"), .none, (.func ⟨(.ofString "__init__"), (.ofString "Lookup.__init__"), p19x0, (.stmts b19x0), s19x0, 3, [], (.ref (299 : Nat)), .none, .none, (.str (.ofString "paperhold.objects") (382 : Nat)), .none, (.ref (305 : Nat)), .none, 0⟩), #[]⟩⟩ ::
⟨nat_lit 307, ⟨(.type "tuple"), .none, (.seq #[] (0 : Nat)), #[]⟩⟩ ::
⟨nat_lit 309, ⟨(.type "tuple"), .none, (.seq #[(.str (.ofString "self") (568 : Nat)), (.str (.ofString "value") (569 : Nat)), (.str (.ofString "here") (570 : Nat)), (.str (.ofString "hop") (571 : Nat)), (.str (.ofString "generation") (572 : Nat)), (.str (.ofString "found") (573 : Nat))] (0 : Nat)), #[]⟩⟩ ::
⟨nat_lit 310, ⟨(.type "tuple"), .none, (.seq #[] (0 : Nat)), #[]⟩⟩ ::
⟨nat_lit 312, ⟨(.type "code"), .none, (.fields #[(.str (.ofString "fetch") (565 : Nat)), (.str (.ofString "Lookup.fetch") (566 : Nat)), (.str (.ofString "/claim/cut.py") (567 : Nat)), (.int 148 (0 : Nat)), (.int 2 (0 : Nat)), (.int 0 (0 : Nat)), (.int 0 (0 : Nat)), (.int 3 (0 : Nat)), (.ref (307 : Nat)), (.bool .true), (.int 181 (0 : Nat)), (.ref (308 : Nat)), .none, (.ref (309 : Nat)), (.ref (310 : Nat)), (.ref (311 : Nat)), (.int 574 (0 : Nat)), (.int 148 (0 : Nat)), (.str (.ofString "/claim/cut.py") (575 : Nat))]), #[]⟩⟩ ::
⟨nat_lit 313, ⟨(.type "function"), .none, (.func ⟨(.ofString "fetch"), (.ofString "Lookup.fetch"), p19x1, (.stmts b19x1), s19x1, 3, [], .none, .none, .none, (.str (.ofString "paperhold.objects") (382 : Nat)), .none, (.ref (312 : Nat)), .none, 0⟩), #[]⟩⟩ ::
⟨nat_lit 314, ⟨(.type "tuple"), .none, (.seq #[] (0 : Nat)), #[]⟩⟩ ::
⟨nat_lit 316, ⟨(.type "tuple"), .none, (.seq #[(.str (.ofString "self") (580 : Nat)), (.str (.ofString "head") (581 : Nat)), (.str (.ofString "key") (582 : Nat))] (0 : Nat)), #[]⟩⟩ ::
⟨nat_lit 317, ⟨(.type "tuple"), .none, (.seq #[] (0 : Nat)), #[]⟩⟩ ::
⟨nat_lit 319, ⟨(.type "code"), .none, (.fields #[(.str (.ofString "get") (577 : Nat)), (.str (.ofString "Lookup.get") (578 : Nat)), (.str (.ofString "/claim/cut.py") (579 : Nat)), (.int 159 (0 : Nat)), (.int 3 (0 : Nat)), (.int 0 (0 : Nat)), (.int 0 (0 : Nat)), (.int 3 (0 : Nat)), (.ref (314 : Nat)), (.bool .true), (.int 181 (0 : Nat)), (.ref (315 : Nat)), .none, (.ref (316 : Nat)), (.ref (317 : Nat)), (.ref (318 : Nat)), (.int 583 (0 : Nat)), (.int 159 (0 : Nat)), (.str (.ofString "/claim/cut.py") (584 : Nat))]), #[]⟩⟩ ::
⟨nat_lit 320, ⟨(.type "function"), .none, (.func ⟨(.ofString "get"), (.ofString "Lookup.get"), p19x2, (.stmts b19x2), s19x2, 3, [], .none, .none, .none, (.str (.ofString "paperhold.objects") (382 : Nat)), .none, (.ref (319 : Nat)), .none, 0⟩), #[]⟩⟩ ::
⟨nat_lit 321, ⟨(.type "tuple"), .none, (.seq #[(.str (.ofString "table") (586 : Nat)), (.str (.ofString "trailer") (587 : Nat))] (0 : Nat)), #[]⟩⟩ ::
⟨nat_lit 322, ⟨(.type "dict"), .none, (.dict #[⟨(PyData.keyHash P (.ofString "__module__")), (.str (.ofString "__module__") (551 : Nat)), (.str (.ofString "paperhold.objects") (382 : Nat))⟩, ⟨(PyData.keyHash P (.ofString "__firstlineno__")), (.str (.ofString "__firstlineno__") (555 : Nat)), (.int 142 (554 : Nat))⟩, ⟨(PyData.keyHash P (.ofString "__init__")), (.str (.ofString "__init__") (564 : Nat)), (.ref (306 : Nat))⟩, ⟨(PyData.keyHash P (.ofString "fetch")), (.str (.ofString "fetch") (576 : Nat)), (.ref (313 : Nat))⟩, ⟨(PyData.keyHash P (.ofString "get")), (.str (.ofString "get") (585 : Nat)), (.ref (320 : Nat))⟩, ⟨(PyData.keyHash P (.ofString "__static_attributes__")), (.str (.ofString "__static_attributes__") (588 : Nat)), (.ref (321 : Nat))⟩, ⟨(PyData.keyHash P (.ofString "__dict__")), (.str (.ofString "__dict__") (590 : Nat)), (.ref (324 : Nat))⟩, ⟨(PyData.keyHash P (.ofString "__weakref__")), (.str (.ofString "__weakref__") (592 : Nat)), (.ref (325 : Nat))⟩, ⟨(PyData.keyHash P (.ofString "__doc__")), (.str (.ofString "__doc__") (593 : Nat)), .none⟩] (4 : Nat)), #[]⟩⟩ ::
⟨nat_lit 323, ⟨(.type "type"), .none, (.cls ⟨(.ofString "Lookup"), [(.type "object")], [(.ref (323 : Nat)), (.type "object")], (322 : Nat), (.ofString "Lookup"), .true, [], [], .false, .none, .false⟩), #[.none, .none, (.some (.str (.ofString "Lookup") (544 : Nat))), (.some (.str (.ofString "Lookup") (552 : Nat))), (.some (.builtin "object.__new__")), (.some (.bool .true))]⟩⟩ ::
⟨nat_lit 324, ⟨(.type "getset_descriptor"), .none, (.fields #[(.str (.ofString "__dict__") (589 : Nat)), (.ref (323 : Nat)), (.builtin "function.__dict__"), (.builtin "function.__dict__#set")]), #[]⟩⟩ ::
⟨nat_lit 325, ⟨(.type "getset_descriptor"), .none, (.fields #[(.str (.ofString "__weakref__") (591 : Nat)), (.ref (323 : Nat)), (.builtin "ExceptionGroup.__weakref__"), .none]), #[]⟩⟩ ::
⟨nat_lit 335, ⟨(.type "tuple"), .none, (.seq #[] (0 : Nat)), #[]⟩⟩ ::
⟨nat_lit 337, ⟨(.type "tuple"), .none, (.seq #[(.str (.ofString "self") (613 : Nat)), (.str (.ofString "a") (614 : Nat)), (.str (.ofString "b") (615 : Nat)), (.str (.ofString "c") (616 : Nat)), (.str (.ofString "d") (617 : Nat)), (.str (.ofString "e") (618 : Nat)), (.str (.ofString "f") (619 : Nat))] (0 : Nat)), #[]⟩⟩ ::
⟨nat_lit 338, ⟨(.type "tuple"), .none, (.seq #[] (0 : Nat)), #[]⟩⟩ ::
⟨nat_lit 340, ⟨(.type "code"), .none, (.fields #[(.str (.ofString "__init__") (610 : Nat)), (.str (.ofString "Matrix.__init__") (611 : Nat)), (.str (.ofString "/claim/cut.py") (612 : Nat)), (.int 164 (0 : Nat)), (.int 7 (0 : Nat)), (.int 0 (0 : Nat)), (.int 0 (0 : Nat)), (.int 3 (0 : Nat)), (.ref (335 : Nat)), (.bool .true), (.int 181 (0 : Nat)), (.ref (336 : Nat)), .none, (.ref (337 : Nat)), (.ref (338 : Nat)), (.ref (339 : Nat)), (.int 620 (0 : Nat)), (.int 164 (0 : Nat)), (.str (.ofString "/claim/cut.py") (621 : Nat))]), #[]⟩⟩ ::
⟨nat_lit 341, ⟨(.type "function"), .none, (.func ⟨(.ofString "__init__"), (.ofString "Matrix.__init__"), p21x0, (.stmts b21x0), s21x0, 3, [], .none, .none, .none, (.str (.ofString "paperhold.matrix") (596 : Nat)), .none, (.ref (340 : Nat)), .none, 0⟩), #[]⟩⟩ ::
⟨nat_lit 342, ⟨(.type "tuple"), .none, (.seq #[] (0 : Nat)), #[]⟩⟩ ::
⟨nat_lit 344, ⟨(.type "tuple"), .none, (.seq #[(.str (.ofString "self") (626 : Nat)), (.str (.ofString "other") (627 : Nat))] (0 : Nat)), #[]⟩⟩ ::
⟨nat_lit 345, ⟨(.type "tuple"), .none, (.seq #[] (0 : Nat)), #[]⟩⟩ ::
⟨nat_lit 347, ⟨(.type "code"), .none, (.fields #[(.str (.ofString "times") (623 : Nat)), (.str (.ofString "Matrix.times") (624 : Nat)), (.str (.ofString "/claim/cut.py") (625 : Nat)), (.int 172 (0 : Nat)), (.int 2 (0 : Nat)), (.int 0 (0 : Nat)), (.int 0 (0 : Nat)), (.int 3 (0 : Nat)), (.ref (342 : Nat)), (.bool .true), (.int 181 (0 : Nat)), (.ref (343 : Nat)), .none, (.ref (344 : Nat)), (.ref (345 : Nat)), (.ref (346 : Nat)), (.int 628 (0 : Nat)), (.int 172 (0 : Nat)), (.str (.ofString "/claim/cut.py") (629 : Nat))]), #[]⟩⟩ ::
⟨nat_lit 348, ⟨(.type "function"), .none, (.func ⟨(.ofString "times"), (.ofString "Matrix.times"), p21x1, (.stmts b21x1), s21x1, 3, [], .none, .none, .none, (.str (.ofString "paperhold.matrix") (596 : Nat)), .none, (.ref (347 : Nat)), .none, 0⟩), #[]⟩⟩ ::
⟨nat_lit 349, ⟨(.type "tuple"), .none, (.seq #[] (0 : Nat)), #[]⟩⟩ ::
⟨nat_lit 351, ⟨(.type "tuple"), .none, (.seq #[(.str (.ofString "self") (634 : Nat)), (.str (.ofString "x") (635 : Nat)), (.str (.ofString "y") (636 : Nat))] (0 : Nat)), #[]⟩⟩ ::
⟨nat_lit 352, ⟨(.type "tuple"), .none, (.seq #[] (0 : Nat)), #[]⟩⟩ ::
⟨nat_lit 354, ⟨(.type "code"), .none, (.fields #[(.str (.ofString "applied") (631 : Nat)), (.str (.ofString "Matrix.applied") (632 : Nat)), (.str (.ofString "/claim/cut.py") (633 : Nat)), (.int 175 (0 : Nat)), (.int 3 (0 : Nat)), (.int 0 (0 : Nat)), (.int 0 (0 : Nat)), (.int 3 (0 : Nat)), (.ref (349 : Nat)), (.bool .true), (.int 181 (0 : Nat)), (.ref (350 : Nat)), .none, (.ref (351 : Nat)), (.ref (352 : Nat)), (.ref (353 : Nat)), (.int 637 (0 : Nat)), (.int 175 (0 : Nat)), (.str (.ofString "/claim/cut.py") (638 : Nat))]), #[]⟩⟩ ::
⟨nat_lit 355, ⟨(.type "function"), .none, (.func ⟨(.ofString "applied"), (.ofString "Matrix.applied"), p21x2, (.stmts b21x2), s21x2, 3, [], .none, .none, .none, (.str (.ofString "paperhold.matrix") (596 : Nat)), .none, (.ref (354 : Nat)), .none, 0⟩), #[]⟩⟩ ::
⟨nat_lit 356, ⟨(.type "tuple"), .none, (.seq #[] (0 : Nat)), #[]⟩⟩ ::
⟨nat_lit 358, ⟨(.type "tuple"), .none, (.seq #[(.str (.ofString "self") (643 : Nat)), (.str (.ofString "x") (644 : Nat)), (.str (.ofString "y") (645 : Nat))] (0 : Nat)), #[]⟩⟩ ::
⟨nat_lit 359, ⟨(.type "tuple"), .none, (.seq #[] (0 : Nat)), #[]⟩⟩ ::
⟨nat_lit 361, ⟨(.type "code"), .none, (.fields #[(.str (.ofString "shifted") (640 : Nat)), (.str (.ofString "Matrix.shifted") (641 : Nat)), (.str (.ofString "/claim/cut.py") (642 : Nat)), (.int 178 (0 : Nat)), (.int 3 (0 : Nat)), (.int 0 (0 : Nat)), (.int 0 (0 : Nat)), (.int 3 (0 : Nat)), (.ref (356 : Nat)), (.bool .true), (.int 181 (0 : Nat)), (.ref (357 : Nat)), .none, (.ref (358 : Nat)), (.ref (359 : Nat)), (.ref (360 : Nat)), (.int 646 (0 : Nat)), (.int 178 (0 : Nat)), (.str (.ofString "/claim/cut.py") (647 : Nat))]), #[]⟩⟩ ::
⟨nat_lit 362, ⟨(.type "function"), .none, (.func ⟨(.ofString "shifted"), (.ofString "Matrix.shifted"), p21x3, (.stmts b21x3), s21x3, 3, [], .none, .none, .none, (.str (.ofString "paperhold.matrix") (596 : Nat)), .none, (.ref (361 : Nat)), .none, 0⟩), #[]⟩⟩ ::
⟨nat_lit 363, ⟨(.type "tuple"), .none, (.seq #[] (0 : Nat)), #[]⟩⟩ ::
⟨nat_lit 365, ⟨(.type "tuple"), .none, (.seq #[(.str (.ofString "self") (652 : Nat))] (0 : Nat)), #[]⟩⟩ ::
⟨nat_lit 366, ⟨(.type "tuple"), .none, (.seq #[] (0 : Nat)), #[]⟩⟩ ::
⟨nat_lit 368, ⟨(.type "code"), .none, (.fields #[(.str (.ofString "parts") (649 : Nat)), (.str (.ofString "Matrix.parts") (650 : Nat)), (.str (.ofString "/claim/cut.py") (651 : Nat)), (.int 181 (0 : Nat)), (.int 1 (0 : Nat)), (.int 0 (0 : Nat)), (.int 0 (0 : Nat)), (.int 3 (0 : Nat)), (.ref (363 : Nat)), (.bool .true), (.int 181 (0 : Nat)), (.ref (364 : Nat)), .none, (.ref (365 : Nat)), (.ref (366 : Nat)), (.ref (367 : Nat)), (.int 653 (0 : Nat)), (.int 181 (0 : Nat)), (.str (.ofString "/claim/cut.py") (654 : Nat))]), #[]⟩⟩ ::
⟨nat_lit 369, ⟨(.type "function"), .none, (.func ⟨(.ofString "parts"), (.ofString "Matrix.parts"), p21x4, (.stmts b21x4), s21x4, 3, [], .none, .none, .none, (.str (.ofString "paperhold.matrix") (596 : Nat)), .none, (.ref (368 : Nat)), .none, 0⟩), #[]⟩⟩ ::
⟨nat_lit 370, ⟨(.type "tuple"), .none, (.seq #[] (0 : Nat)), #[]⟩⟩ ::
⟨nat_lit 373, ⟨(.type "code"), .none, (.fields #[(.str (.ofString "told") (656 : Nat)), (.str (.ofString "Matrix.told") (657 : Nat)), (.str (.ofString "/claim/cut.py") (658 : Nat)), (.int 184 (0 : Nat)), (.int 1 (0 : Nat)), (.int 0 (0 : Nat)), (.int 0 (0 : Nat)), (.int 3 (0 : Nat)), (.ref (370 : Nat)), (.bool .true), (.int 181 (0 : Nat)), (.ref (371 : Nat)), .none, .none, .none, (.ref (372 : Nat)), (.int 659 (0 : Nat)), (.int 184 (0 : Nat)), (.str (.ofString "/claim/cut.py") (660 : Nat))]), #[]⟩⟩ ::
⟨nat_lit 374, ⟨(.type "function"), .none, (.func ⟨(.ofString "told"), (.ofString "Matrix.told"), p21x5, (.stmts b21x5), s21x5, 3, [], .none, .none, .none, (.str (.ofString "paperhold.matrix") (596 : Nat)), .none, (.ref (373 : Nat)), .none, 0⟩), #[]⟩⟩ ::
⟨nat_lit 375, ⟨(.type "tuple"), .none, (.seq #[(.str (.ofString "a") (662 : Nat)), (.str (.ofString "b") (663 : Nat)), (.str (.ofString "c") (664 : Nat)), (.str (.ofString "d") (665 : Nat)), (.str (.ofString "e") (666 : Nat)), (.str (.ofString "f") (667 : Nat))] (0 : Nat)), #[]⟩⟩ ::
⟨nat_lit 376, ⟨(.type "dict"), .none, (.dict #[⟨(PyData.keyHash P (.ofString "__module__")), (.str (.ofString "__module__") (605 : Nat)), (.str (.ofString "paperhold.matrix") (596 : Nat))⟩, ⟨(PyData.keyHash P (.ofString "__firstlineno__")), (.str (.ofString "__firstlineno__") (609 : Nat)), (.int 162 (608 : Nat))⟩, ⟨(PyData.keyHash P (.ofString "__init__")), (.str (.ofString "__init__") (622 : Nat)), (.ref (341 : Nat))⟩, ⟨(PyData.keyHash P (.ofString "times")), (.str (.ofString "times") (630 : Nat)), (.ref (348 : Nat))⟩, ⟨(PyData.keyHash P (.ofString "applied")), (.str (.ofString "applied") (639 : Nat)), (.ref (355 : Nat))⟩, ⟨(PyData.keyHash P (.ofString "shifted")), (.str (.ofString "shifted") (648 : Nat)), (.ref (362 : Nat))⟩, ⟨(PyData.keyHash P (.ofString "parts")), (.str (.ofString "parts") (655 : Nat)), (.ref (369 : Nat))⟩, ⟨(PyData.keyHash P (.ofString "told")), (.str (.ofString "told") (661 : Nat)), (.ref (374 : Nat))⟩, ⟨(PyData.keyHash P (.ofString "__static_attributes__")), (.str (.ofString "__static_attributes__") (668 : Nat)), (.ref (375 : Nat))⟩, ⟨(PyData.keyHash P (.ofString "__dict__")), (.str (.ofString "__dict__") (670 : Nat)), (.ref (378 : Nat))⟩, ⟨(PyData.keyHash P (.ofString "__weakref__")), (.str (.ofString "__weakref__") (672 : Nat)), (.ref (379 : Nat))⟩, ⟨(PyData.keyHash P (.ofString "__doc__")), (.str (.ofString "__doc__") (673 : Nat)), .none⟩] (4 : Nat)), #[]⟩⟩ ::
⟨nat_lit 377, ⟨(.type "type"), .none, (.cls ⟨(.ofString "Matrix"), [(.type "object")], [(.ref (377 : Nat)), (.type "object")], (376 : Nat), (.ofString "Matrix"), .true, [], [], .false, .none, .false⟩), #[.none, .none, (.some (.str (.ofString "Matrix") (598 : Nat))), (.some (.str (.ofString "Matrix") (606 : Nat))), (.some (.builtin "object.__new__")), (.some (.bool .true))]⟩⟩ ::
⟨nat_lit 378, ⟨(.type "getset_descriptor"), .none, (.fields #[(.str (.ofString "__dict__") (669 : Nat)), (.ref (377 : Nat)), (.builtin "function.__dict__"), (.builtin "function.__dict__#set")]), #[]⟩⟩ ::
⟨nat_lit 379, ⟨(.type "getset_descriptor"), .none, (.fields #[(.str (.ofString "__weakref__") (671 : Nat)), (.ref (377 : Nat)), (.builtin "ExceptionGroup.__weakref__"), .none]), #[]⟩⟩ ::
⟨nat_lit 382, ⟨(.type "tuple"), .none, (.seq #[] (0 : Nat)), #[]⟩⟩ ::
⟨nat_lit 384, ⟨(.type "tuple"), .none, (.seq #[] (0 : Nat)), #[]⟩⟩ ::
⟨nat_lit 385, ⟨(.type "tuple"), .none, (.seq #[] (0 : Nat)), #[]⟩⟩ ::
⟨nat_lit 387, ⟨(.type "code"), .none, (.fields #[(.str (.ofString "identity") (676 : Nat)), (.str (.ofString "identity") (677 : Nat)), (.str (.ofString "/claim/cut.py") (678 : Nat)), (.int 186 (0 : Nat)), (.int 0 (0 : Nat)), (.int 0 (0 : Nat)), (.int 0 (0 : Nat)), (.int 3 (0 : Nat)), (.ref (382 : Nat)), (.bool .true), (.int 181 (0 : Nat)), (.ref (383 : Nat)), .none, (.ref (384 : Nat)), (.ref (385 : Nat)), (.ref (386 : Nat)), (.int 679 (0 : Nat)), (.int 186 (0 : Nat)), (.str (.ofString "/claim/cut.py") (680 : Nat))]), #[]⟩⟩ ::
⟨nat_lit 388, ⟨(.type "function"), .none, (.func ⟨(.ofString "identity"), (.ofString "identity"), p22, (.stmts b22), s22, 3, [], .none, .none, .none, (.str (.ofString "paperhold.matrix") (596 : Nat)), .none, (.ref (387 : Nat)), .none, 0⟩), #[]⟩⟩ ::
⟨nat_lit 389, ⟨(.type "tuple"), .none, (.seq #[] (0 : Nat)), #[]⟩⟩ ::
⟨nat_lit 391, ⟨(.type "tuple"), .none, (.seq #[(.str (.ofString "values") (685 : Nat))] (0 : Nat)), #[]⟩⟩ ::
⟨nat_lit 392, ⟨(.type "tuple"), .none, (.seq #[] (0 : Nat)), #[]⟩⟩ ::
⟨nat_lit 394, ⟨(.type "code"), .none, (.fields #[(.str (.ofString "from_array") (682 : Nat)), (.str (.ofString "from_array") (683 : Nat)), (.str (.ofString "/claim/cut.py") (684 : Nat)), (.int 188 (0 : Nat)), (.int 1 (0 : Nat)), (.int 0 (0 : Nat)), (.int 0 (0 : Nat)), (.int 3 (0 : Nat)), (.ref (389 : Nat)), (.bool .true), (.int 181 (0 : Nat)), (.ref (390 : Nat)), .none, (.ref (391 : Nat)), (.ref (392 : Nat)), (.ref (393 : Nat)), (.int 686 (0 : Nat)), (.int 188 (0 : Nat)), (.str (.ofString "/claim/cut.py") (687 : Nat))]), #[]⟩⟩ ::
⟨nat_lit 395, ⟨(.type "function"), .none, (.func ⟨(.ofString "from_array"), (.ofString "from_array"), p23, (.stmts b23), s23, 3, [], .none, .none, .none, (.str (.ofString "paperhold.matrix") (596 : Nat)), .none, (.ref (394 : Nat)), .none, 0⟩), #[]⟩⟩ ::
⟨nat_lit 403, ⟨(.type "tuple"), .none, (.seq #[] (0 : Nat)), #[]⟩⟩ ::
⟨nat_lit 405, ⟨(.type "tuple"), .none, (.seq #[(.str (.ofString "self") (706 : Nat)), (.str (.ofString "word") (707 : Nat)), (.str (.ofString "operands") (708 : Nat))] (0 : Nat)), #[]⟩⟩ ::
⟨nat_lit 406, ⟨(.type "tuple"), .none, (.seq #[] (0 : Nat)), #[]⟩⟩ ::
⟨nat_lit 408, ⟨(.type "code"), .none, (.fields #[(.str (.ofString "__init__") (703 : Nat)), (.str (.ofString "Operation.__init__") (704 : Nat)), (.str (.ofString "/claim/cut.py") (705 : Nat)), (.int 195 (0 : Nat)), (.int 3 (0 : Nat)), (.int 0 (0 : Nat)), (.int 0 (0 : Nat)), (.int 3 (0 : Nat)), (.ref (403 : Nat)), (.bool .true), (.int 181 (0 : Nat)), (.ref (404 : Nat)), .none, (.ref (405 : Nat)), (.ref (406 : Nat)), (.ref (407 : Nat)), (.int 709 (0 : Nat)), (.int 195 (0 : Nat)), (.str (.ofString "/claim/cut.py") (710 : Nat))]), #[]⟩⟩ ::
⟨nat_lit 409, ⟨(.type "function"), .none, (.func ⟨(.ofString "__init__"), (.ofString "Operation.__init__"), p25x0, (.stmts b25x0), s25x0, 3, [], .none, .none, .none, (.str (.ofString "paperhold.content") (689 : Nat)), .none, (.ref (408 : Nat)), .none, 0⟩), #[]⟩⟩ ::
⟨nat_lit 410, ⟨(.type "tuple"), .none, (.seq #[] (0 : Nat)), #[]⟩⟩ ::
⟨nat_lit 413, ⟨(.type "code"), .none, (.fields #[(.str (.ofString "told") (712 : Nat)), (.str (.ofString "Operation.told") (713 : Nat)), (.str (.ofString "/claim/cut.py") (714 : Nat)), (.int 199 (0 : Nat)), (.int 1 (0 : Nat)), (.int 0 (0 : Nat)), (.int 0 (0 : Nat)), (.int 3 (0 : Nat)), (.ref (410 : Nat)), (.bool .true), (.int 181 (0 : Nat)), (.ref (411 : Nat)), .none, .none, .none, (.ref (412 : Nat)), (.int 715 (0 : Nat)), (.int 199 (0 : Nat)), (.str (.ofString "/claim/cut.py") (716 : Nat))]), #[]⟩⟩ ::
⟨nat_lit 414, ⟨(.type "function"), .none, (.func ⟨(.ofString "told"), (.ofString "Operation.told"), p25x1, (.stmts b25x1), s25x1, 3, [], .none, .none, .none, (.str (.ofString "paperhold.content") (689 : Nat)), .none, (.ref (413 : Nat)), .none, 0⟩), #[]⟩⟩ ::
⟨nat_lit 415, ⟨(.type "tuple"), .none, (.seq #[(.str (.ofString "operands") (718 : Nat)), (.str (.ofString "word") (719 : Nat))] (0 : Nat)), #[]⟩⟩ ::
⟨nat_lit 416, ⟨(.type "dict"), .none, (.dict #[⟨(PyData.keyHash P (.ofString "__module__")), (.str (.ofString "__module__") (698 : Nat)), (.str (.ofString "paperhold.content") (689 : Nat))⟩, ⟨(PyData.keyHash P (.ofString "__firstlineno__")), (.str (.ofString "__firstlineno__") (702 : Nat)), (.int 193 (701 : Nat))⟩, ⟨(PyData.keyHash P (.ofString "__init__")), (.str (.ofString "__init__") (711 : Nat)), (.ref (409 : Nat))⟩, ⟨(PyData.keyHash P (.ofString "told")), (.str (.ofString "told") (717 : Nat)), (.ref (414 : Nat))⟩, ⟨(PyData.keyHash P (.ofString "__static_attributes__")), (.str (.ofString "__static_attributes__") (720 : Nat)), (.ref (415 : Nat))⟩, ⟨(PyData.keyHash P (.ofString "__dict__")), (.str (.ofString "__dict__") (722 : Nat)), (.ref (418 : Nat))⟩, ⟨(PyData.keyHash P (.ofString "__weakref__")), (.str (.ofString "__weakref__") (724 : Nat)), (.ref (419 : Nat))⟩, ⟨(PyData.keyHash P (.ofString "__doc__")), (.str (.ofString "__doc__") (725 : Nat)), .none⟩] (4 : Nat)), #[]⟩⟩ ::
⟨nat_lit 417, ⟨(.type "type"), .none, (.cls ⟨(.ofString "Operation"), [(.type "object")], [(.ref (417 : Nat)), (.type "object")], (416 : Nat), (.ofString "Operation"), .true, [], [], .false, .none, .false⟩), #[.none, .none, (.some (.str (.ofString "Operation") (691 : Nat))), (.some (.str (.ofString "Operation") (699 : Nat))), (.some (.builtin "object.__new__")), (.some (.bool .true))]⟩⟩ ::
⟨nat_lit 418, ⟨(.type "getset_descriptor"), .none, (.fields #[(.str (.ofString "__dict__") (721 : Nat)), (.ref (417 : Nat)), (.builtin "function.__dict__"), (.builtin "function.__dict__#set")]), #[]⟩⟩ ::
⟨nat_lit 419, ⟨(.type "getset_descriptor"), .none, (.fields #[(.str (.ofString "__weakref__") (723 : Nat)), (.ref (417 : Nat)), (.builtin "ExceptionGroup.__weakref__"), .none]), #[]⟩⟩ ::
⟨nat_lit 422, ⟨(.type "tuple"), .none, (.seq #[] (0 : Nat)), #[]⟩⟩ ::
⟨nat_lit 425, ⟨(.type "code"), .none, (.fields #[(.str (.ofString "used_names") (728 : Nat)), (.str (.ofString "used_names") (729 : Nat)), (.str (.ofString "/claim/cut.py") (730 : Nat)), (.int 201 (0 : Nat)), (.int 1 (0 : Nat)), (.int 0 (0 : Nat)), (.int 0 (0 : Nat)), (.int 3 (0 : Nat)), (.ref (422 : Nat)), (.bool .true), (.int 181 (0 : Nat)), (.ref (423 : Nat)), .none, .none, .none, (.ref (424 : Nat)), (.int 731 (0 : Nat)), (.int 201 (0 : Nat)), (.str (.ofString "/claim/cut.py") (732 : Nat))]), #[]⟩⟩ ::
⟨nat_lit 426, ⟨(.type "function"), .none, (.func ⟨(.ofString "used_names"), (.ofString "used_names"), p26, (.stmts b26), s26, 3, [], .none, .none, .none, (.str (.ofString "paperhold.content") (689 : Nat)), .none, (.ref (425 : Nat)), .none, 0⟩), #[]⟩⟩ ::
⟨nat_lit 434, ⟨(.type "tuple"), .none, (.seq #[] (0 : Nat)), #[]⟩⟩ ::
⟨nat_lit 436, ⟨(.type "tuple"), .none, (.seq #[(.str (.ofString "self") (753 : Nat)), (.str (.ofString "operations") (754 : Nat)), (.str (.ofString "fonts") (755 : Nat)), (.str (.ofString "forms") (756 : Nat)), (.str (.ofString "own") (757 : Nat))] (0 : Nat)), #[]⟩⟩ ::
⟨nat_lit 437, ⟨(.type "tuple"), .none, (.seq #[] (0 : Nat)), #[]⟩⟩ ::
⟨nat_lit 439, ⟨(.type "code"), .none, (.fields #[(.str (.ofString "__init__") (750 : Nat)), (.str (.ofString "TextSheet.__init__") (751 : Nat)), (.str (.ofString "/claim/cut.py") (752 : Nat)), (.int 219 (0 : Nat)), (.int 5 (0 : Nat)), (.int 0 (0 : Nat)), (.int 0 (0 : Nat)), (.int 3 (0 : Nat)), (.ref (434 : Nat)), (.bool .true), (.int 181 (0 : Nat)), (.ref (435 : Nat)), .none, (.ref (436 : Nat)), (.ref (437 : Nat)), (.ref (438 : Nat)), (.int 758 (0 : Nat)), (.int 219 (0 : Nat)), (.str (.ofString "/claim/cut.py") (759 : Nat))]), #[]⟩⟩ ::
⟨nat_lit 440, ⟨(.type "function"), .none, (.func ⟨(.ofString "__init__"), (.ofString "TextSheet.__init__"), p29x0, (.stmts b29x0), s29x0, 3, [], .none, .none, .none, (.str (.ofString "paperhold.textout") (734 : Nat)), .none, (.ref (439 : Nat)), .none, 0⟩), #[]⟩⟩ ::
⟨nat_lit 441, ⟨(.type "tuple"), .none, (.seq #[(.str (.ofString "fonts") (761 : Nat)), (.str (.ofString "forms") (762 : Nat)), (.str (.ofString "operations") (763 : Nat)), (.str (.ofString "own") (764 : Nat))] (0 : Nat)), #[]⟩⟩ ::
⟨nat_lit 442, ⟨(.type "dict"), .none, (.dict #[⟨(PyData.keyHash P (.ofString "__module__")), (.str (.ofString "__module__") (745 : Nat)), (.str (.ofString "paperhold.textout") (734 : Nat))⟩, ⟨(PyData.keyHash P (.ofString "__firstlineno__")), (.str (.ofString "__firstlineno__") (749 : Nat)), (.int 217 (748 : Nat))⟩, ⟨(PyData.keyHash P (.ofString "__init__")), (.str (.ofString "__init__") (760 : Nat)), (.ref (440 : Nat))⟩, ⟨(PyData.keyHash P (.ofString "__static_attributes__")), (.str (.ofString "__static_attributes__") (765 : Nat)), (.ref (441 : Nat))⟩, ⟨(PyData.keyHash P (.ofString "__dict__")), (.str (.ofString "__dict__") (767 : Nat)), (.ref (444 : Nat))⟩, ⟨(PyData.keyHash P (.ofString "__weakref__")), (.str (.ofString "__weakref__") (769 : Nat)), (.ref (445 : Nat))⟩, ⟨(PyData.keyHash P (.ofString "__doc__")), (.str (.ofString "__doc__") (770 : Nat)), .none⟩] (4 : Nat)), #[]⟩⟩ ::
⟨nat_lit 443, ⟨(.type "type"), .none, (.cls ⟨(.ofString "TextSheet"), [(.type "object")], [(.ref (443 : Nat)), (.type "object")], (442 : Nat), (.ofString "TextSheet"), .true, [], [], .false, .none, .false⟩), #[.none, .none, (.some (.str (.ofString "TextSheet") (738 : Nat))), (.some (.str (.ofString "TextSheet") (746 : Nat))), (.some (.builtin "object.__new__")), (.some (.bool .true))]⟩⟩ ::
⟨nat_lit 444, ⟨(.type "getset_descriptor"), .none, (.fields #[(.str (.ofString "__dict__") (766 : Nat)), (.ref (443 : Nat)), (.builtin "function.__dict__"), (.builtin "function.__dict__#set")]), #[]⟩⟩ ::
⟨nat_lit 445, ⟨(.type "getset_descriptor"), .none, (.fields #[(.str (.ofString "__weakref__") (768 : Nat)), (.ref (443 : Nat)), (.builtin "ExceptionGroup.__weakref__"), .none]), #[]⟩⟩ ::
⟨nat_lit 448, ⟨(.type "tuple"), .none, (.seq #[] (0 : Nat)), #[]⟩⟩ ::
⟨nat_lit 450, ⟨(.type "tuple"), .none, (.seq #[(.str (.ofString "shelf") (776 : Nat)), (.str (.ofString "resources") (777 : Nat)), (.str (.ofString "sort") (778 : Nat)), (.str (.ofString "found") (779 : Nat))] (0 : Nat)), #[]⟩⟩ ::
⟨nat_lit 451, ⟨(.type "tuple"), .none, (.seq #[] (0 : Nat)), #[]⟩⟩ ::
⟨nat_lit 453, ⟨(.type "code"), .none, (.fields #[(.str (.ofString "resource_dict") (773 : Nat)), (.str (.ofString "resource_dict") (774 : Nat)), (.str (.ofString "/claim/cut.py") (775 : Nat)), (.int 224 (0 : Nat)), (.int 3 (0 : Nat)), (.int 0 (0 : Nat)), (.int 0 (0 : Nat)), (.int 3 (0 : Nat)), (.ref (448 : Nat)), (.bool .true), (.int 181 (0 : Nat)), (.ref (449 : Nat)), .none, (.ref (450 : Nat)), (.ref (451 : Nat)), (.ref (452 : Nat)), (.int 780 (0 : Nat)), (.int 224 (0 : Nat)), (.str (.ofString "/claim/cut.py") (781 : Nat))]), #[]⟩⟩ ::
⟨nat_lit 454, ⟨(.type "function"), .none, (.func ⟨(.ofString "resource_dict"), (.ofString "resource_dict"), p30, (.stmts b30), s30, 3, [], .none, .none, .none, (.str (.ofString "paperhold.textout") (734 : Nat)), .none, (.ref (453 : Nat)), .none, 0⟩), #[]⟩⟩ ::
⟨nat_lit 455, ⟨(.type "tuple"), .none, (.seq #[] (0 : Nat)), #[]⟩⟩ ::
⟨nat_lit 458, ⟨(.type "code"), .none, (.fields #[(.str (.ofString "form_matrix") (783 : Nat)), (.str (.ofString "form_matrix") (784 : Nat)), (.str (.ofString "/claim/cut.py") (785 : Nat)), (.int 227 (0 : Nat)), (.int 2 (0 : Nat)), (.int 0 (0 : Nat)), (.int 0 (0 : Nat)), (.int 3 (0 : Nat)), (.ref (455 : Nat)), (.bool .true), (.int 181 (0 : Nat)), (.ref (456 : Nat)), .none, .none, .none, (.ref (457 : Nat)), (.int 786 (0 : Nat)), (.int 227 (0 : Nat)), (.str (.ofString "/claim/cut.py") (787 : Nat))]), #[]⟩⟩ ::
⟨nat_lit 459, ⟨(.type "function"), .none, (.func ⟨(.ofString "form_matrix"), (.ofString "form_matrix"), p31, (.stmts b31), s31, 3, [], .none, .none, .none, (.str (.ofString "paperhold.textout") (734 : Nat)), .none, (.ref (458 : Nat)), .none, 0⟩), #[]⟩⟩ ::
⟨nat_lit 460, ⟨(.type "tuple"), .none, (.seq #[] (0 : Nat)), #[]⟩⟩ ::
⟨nat_lit 462, ⟨(.type "tuple"), .none, (.seq #[(.str (.ofString "shelf") (792 : Nat)), (.str (.ofString "value") (793 : Nat)), (.str (.ofString "kind") (794 : Nat))] (0 : Nat)), #[]⟩⟩ ::
⟨nat_lit 463, ⟨(.type "tuple"), .none, (.seq #[] (0 : Nat)), #[]⟩⟩ ::
⟨nat_lit 465, ⟨(.type "code"), .none, (.fields #[(.str (.ofString "is_form") (789 : Nat)), (.str (.ofString "is_form") (790 : Nat)), (.str (.ofString "/claim/cut.py") (791 : Nat)), (.int 235 (0 : Nat)), (.int 2 (0 : Nat)), (.int 0 (0 : Nat)), (.int 0 (0 : Nat)), (.int 3 (0 : Nat)), (.ref (460 : Nat)), (.bool .true), (.int 181 (0 : Nat)), (.ref (461 : Nat)), .none, (.ref (462 : Nat)), (.ref (463 : Nat)), (.ref (464 : Nat)), (.int 795 (0 : Nat)), (.int 235 (0 : Nat)), (.str (.ofString "/claim/cut.py") (796 : Nat))]), #[]⟩⟩ ::
⟨nat_lit 466, ⟨(.type "function"), .none, (.func ⟨(.ofString "is_form"), (.ofString "is_form"), p32, (.stmts b32), s32, 3, [], .none, .none, .none, (.str (.ofString "paperhold.textout") (734 : Nat)), .none, (.ref (465 : Nat)), .none, 0⟩), #[]⟩⟩ ::
⟨nat_lit 467, ⟨(.type "tuple"), .none, (.seq #[] (0 : Nat)), #[]⟩⟩ ::
⟨nat_lit 469, ⟨(.type "tuple"), .none, (.seq #[(.str (.ofString "shelf") (801 : Nat)), (.str (.ofString "resources") (802 : Nat)), (.str (.ofString "operations") (803 : Nat)), (.str (.ofString "place") (804 : Nat)), (.str (.ofString "font_of") (805 : Nat)), (.str (.ofString "content_of") (806 : Nat)), (.str (.ofString "depth") (807 : Nat)), (.str (.ofString "own") (808 : Nat)), (.str (.ofString "used") (809 : Nat)), (.str (.ofString "heads") (810 : Nat)), (.str (.ofString "things") (811 : Nat)), (.str (.ofString "fonts") (812 : Nat)), (.str (.ofString "forms") (813 : Nat)), (.str (.ofString "word") (814 : Nat)), (.str (.ofString "head") (815 : Nat)), (.str (.ofString "stream") (816 : Nat)), (.str (.ofString "inner") (817 : Nat)), (.str (.ofString "lent") (818 : Nat)), (.str (.ofString "spot") (819 : Nat))] (0 : Nat)), #[]⟩⟩ ::
⟨nat_lit 470, ⟨(.type "tuple"), .none, (.seq #[] (0 : Nat)), #[]⟩⟩ ::
⟨nat_lit 472, ⟨(.type "code"), .none, (.fields #[(.str (.ofString "text_sheet") (798 : Nat)), (.str (.ofString "text_sheet") (799 : Nat)), (.str (.ofString "/claim/cut.py") (800 : Nat)), (.int 240 (0 : Nat)), (.int 6 (0 : Nat)), (.int 0 (0 : Nat)), (.int 0 (0 : Nat)), (.int 3 (0 : Nat)), (.ref (467 : Nat)), (.bool .true), (.int 181 (0 : Nat)), (.ref (468 : Nat)), .none, (.ref (469 : Nat)), (.ref (470 : Nat)), (.ref (471 : Nat)), (.int 820 (0 : Nat)), (.int 240 (0 : Nat)), (.str (.ofString "/claim/cut.py") (821 : Nat))]), #[]⟩⟩ ::
⟨nat_lit 473, ⟨(.type "function"), .none, (.func ⟨(.ofString "text_sheet"), (.ofString "text_sheet"), p33, (.stmts b33), s33, 3, [], .none, .none, .none, (.str (.ofString "paperhold.textout") (734 : Nat)), .none, (.ref (472 : Nat)), .none, 0⟩), #[]⟩⟩ ::
⟨nat_lit 474, ⟨(.type "tuple"), .none, (.seq #[] (0 : Nat)), #[]⟩⟩ ::
⟨nat_lit 476, ⟨(.type "tuple"), .none, (.seq #[(.str (.ofString "tape") (828 : Nat)), (.str (.ofString "limit") (829 : Nat)), (.str (.ofString "cells") (830 : Nat)), (.str (.ofString "at") (831 : Nat))] (0 : Nat)), #[]⟩⟩ ::
⟨nat_lit 477, ⟨(.type "tuple"), .none, (.seq #[] (0 : Nat)), #[]⟩⟩ ::
⟨nat_lit 479, ⟨(.type "code"), .none, (.fields #[(.str (.ofString "_law_draw") (825 : Nat)), (.str (.ofString "_law_draw") (826 : Nat)), (.str (.ofString "/claim/cut.py") (827 : Nat)), (.int 262 (0 : Nat)), (.int 2 (0 : Nat)), (.int 0 (0 : Nat)), (.int 0 (0 : Nat)), (.int 3 (0 : Nat)), (.ref (474 : Nat)), (.bool .true), (.int 181 (0 : Nat)), (.ref (475 : Nat)), .none, (.ref (476 : Nat)), (.ref (477 : Nat)), (.ref (478 : Nat)), (.int 832 (0 : Nat)), (.int 262 (0 : Nat)), (.str (.ofString "/claim/cut.py") (833 : Nat))]), #[]⟩⟩ ::
⟨nat_lit 480, ⟨(.type "function"), .none, (.func ⟨(.ofString "_law_draw"), (.ofString "_law_draw"), p35, (.stmts b35), s35, 3, [], .none, .none, .none, (.str (.ofString "law_og0178_01") (823 : Nat)), .none, (.ref (479 : Nat)), .none, 0⟩), #[]⟩⟩ ::
⟨nat_lit 481, ⟨(.type "tuple"), .none, (.seq #[] (0 : Nat)), #[]⟩⟩ ::
⟨nat_lit 483, ⟨(.type "tuple"), .none, (.seq #[(.str (.ofString "tape") (838 : Nat)), (.str (.ofString "kind") (839 : Nat)), (.str (.ofString "lent") (840 : Nat)), (.str (.ofString "matrix") (841 : Nat)), (.str (.ofString "deed") (842 : Nat)), (.str (.ofString "head") (843 : Nat)), (.str (.ofString "painted") (844 : Nat))] (0 : Nat)), #[]⟩⟩ ::
⟨nat_lit 484, ⟨(.type "tuple"), .none, (.seq #[] (0 : Nat)), #[]⟩⟩ ::
⟨nat_lit 486, ⟨(.type "code"), .none, (.fields #[(.str (.ofString "_law_stream") (835 : Nat)), (.str (.ofString "_law_stream") (836 : Nat)), (.str (.ofString "/claim/cut.py") (837 : Nat)), (.int 267 (0 : Nat)), (.int 1 (0 : Nat)), (.int 0 (0 : Nat)), (.int 0 (0 : Nat)), (.int 3 (0 : Nat)), (.ref (481 : Nat)), (.bool .true), (.int 181 (0 : Nat)), (.ref (482 : Nat)), .none, (.ref (483 : Nat)), (.ref (484 : Nat)), (.ref (485 : Nat)), (.int 845 (0 : Nat)), (.int 267 (0 : Nat)), (.str (.ofString "/claim/cut.py") (846 : Nat))]), #[]⟩⟩ ::
⟨nat_lit 487, ⟨(.type "function"), .none, (.func ⟨(.ofString "_law_stream"), (.ofString "_law_stream"), p36, (.stmts b36), s36, 3, [], .none, .none, .none, (.str (.ofString "law_og0178_01") (823 : Nat)), .none, (.ref (486 : Nat)), .none, 0⟩), #[]⟩⟩ ::
⟨nat_lit 488, ⟨(.type "tuple"), .none, (.seq #[] (0 : Nat)), #[]⟩⟩ ::
⟨nat_lit 490, ⟨(.type "tuple"), .none, (.seq #[(.str (.ofString "tape") (851 : Nat)), (.str (.ofString "fonts") (852 : Nat)), (.str (.ofString "things") (853 : Nat)), (.str (.ofString "plain") (854 : Nat)), (.str (.ofString "word") (855 : Nat)), (.str (.ofString "font") (856 : Nat)), (.str (.ofString "thing") (857 : Nat))] (0 : Nat)), #[]⟩⟩ ::
⟨nat_lit 491, ⟨(.type "tuple"), .none, (.seq #[] (0 : Nat)), #[]⟩⟩ ::
⟨nat_lit 493, ⟨(.type "code"), .none, (.fields #[(.str (.ofString "_law_resources") (848 : Nat)), (.str (.ofString "_law_resources") (849 : Nat)), (.str (.ofString "/claim/cut.py") (850 : Nat)), (.int 283 (0 : Nat)), (.int 1 (0 : Nat)), (.int 0 (0 : Nat)), (.int 0 (0 : Nat)), (.int 3 (0 : Nat)), (.ref (488 : Nat)), (.bool .true), (.int 181 (0 : Nat)), (.ref (489 : Nat)), .none, (.ref (490 : Nat)), (.ref (491 : Nat)), (.ref (492 : Nat)), (.int 858 (0 : Nat)), (.int 283 (0 : Nat)), (.str (.ofString "/claim/cut.py") (859 : Nat))]), #[]⟩⟩ ::
⟨nat_lit 494, ⟨(.type "function"), .none, (.func ⟨(.ofString "_law_resources"), (.ofString "_law_resources"), p37, (.stmts b37), s37, 3, [], .none, .none, .none, (.str (.ofString "law_og0178_01") (823 : Nat)), .none, (.ref (493 : Nat)), .none, 0⟩), #[]⟩⟩ ::
⟨nat_lit 495, ⟨(.type "tuple"), .none, (.seq #[] (0 : Nat)), #[]⟩⟩ ::
⟨nat_lit 497, ⟨(.type "tuple"), .none, (.seq #[(.str (.ofString "deed") (864 : Nat))] (0 : Nat)), #[]⟩⟩ ::
⟨nat_lit 498, ⟨(.type "tuple"), .none, (.seq #[] (0 : Nat)), #[]⟩⟩ ::
⟨nat_lit 500, ⟨(.type "code"), .none, (.fields #[(.str (.ofString "_law_deeds") (861 : Nat)), (.str (.ofString "_law_deeds") (862 : Nat)), (.str (.ofString "/claim/cut.py") (863 : Nat)), (.int 301 (0 : Nat)), (.int 1 (0 : Nat)), (.int 0 (0 : Nat)), (.int 0 (0 : Nat)), (.int 3 (0 : Nat)), (.ref (495 : Nat)), (.bool .true), (.int 181 (0 : Nat)), (.ref (496 : Nat)), .none, (.ref (497 : Nat)), (.ref (498 : Nat)), (.ref (499 : Nat)), (.int 865 (0 : Nat)), (.int 301 (0 : Nat)), (.str (.ofString "/claim/cut.py") (866 : Nat))]), #[]⟩⟩ ::
⟨nat_lit 501, ⟨(.type "function"), .none, (.func ⟨(.ofString "_law_deeds"), (.ofString "_law_deeds"), p38, (.stmts b38), s38, 3, [], .none, .none, .none, (.str (.ofString "law_og0178_01") (823 : Nat)), .none, (.ref (500 : Nat)), .none, 0⟩), #[]⟩⟩ ::
⟨nat_lit 502, ⟨(.type "tuple"), .none, (.seq #[] (0 : Nat)), #[]⟩⟩ ::
⟨nat_lit 504, ⟨(.type "tuple"), .none, (.seq #[(.str (.ofString "deed") (871 : Nat))] (0 : Nat)), #[]⟩⟩ ::
⟨nat_lit 505, ⟨(.type "tuple"), .none, (.seq #[] (0 : Nat)), #[]⟩⟩ ::
⟨nat_lit 507, ⟨(.type "code"), .none, (.fields #[(.str (.ofString "_law_used") (868 : Nat)), (.str (.ofString "_law_used") (869 : Nat)), (.str (.ofString "/claim/cut.py") (870 : Nat)), (.int 309 (0 : Nat)), (.int 1 (0 : Nat)), (.int 0 (0 : Nat)), (.int 0 (0 : Nat)), (.int 3 (0 : Nat)), (.ref (502 : Nat)), (.bool .true), (.int 181 (0 : Nat)), (.ref (503 : Nat)), .none, (.ref (504 : Nat)), (.ref (505 : Nat)), (.ref (506 : Nat)), (.int 872 (0 : Nat)), (.int 309 (0 : Nat)), (.str (.ofString "/claim/cut.py") (873 : Nat))]), #[]⟩⟩ ::
⟨nat_lit 508, ⟨(.type "function"), .none, (.func ⟨(.ofString "_law_used"), (.ofString "_law_used"), p39, (.stmts b39), s39, 3, [], .none, .none, .none, (.str (.ofString "law_og0178_01") (823 : Nat)), .none, (.ref (507 : Nat)), .none, 0⟩), #[]⟩⟩ ::
⟨nat_lit 509, ⟨(.type "tuple"), .none, (.seq #[] (0 : Nat)), #[]⟩⟩ ::
⟨nat_lit 512, ⟨(.type "code"), .none, (.fields #[(.str (.ofString "_law_due") (875 : Nat)), (.str (.ofString "_law_due") (876 : Nat)), (.str (.ofString "/claim/cut.py") (877 : Nat)), (.int 311 (0 : Nat)), (.int 6 (0 : Nat)), (.int 0 (0 : Nat)), (.int 0 (0 : Nat)), (.int 3 (0 : Nat)), (.ref (509 : Nat)), (.bool .true), (.int 181 (0 : Nat)), (.ref (510 : Nat)), .none, .none, .none, (.ref (511 : Nat)), (.int 878 (0 : Nat)), (.int 311 (0 : Nat)), (.str (.ofString "/claim/cut.py") (879 : Nat))]), #[]⟩⟩ ::
⟨nat_lit 513, ⟨(.type "function"), .none, (.func ⟨(.ofString "_law_due"), (.ofString "_law_due"), p40, (.stmts b40), s40, 3, [], .none, .none, .none, (.str (.ofString "law_og0178_01") (823 : Nat)), .none, (.ref (512 : Nat)), .none, 0⟩), #[]⟩⟩ ::
⟨nat_lit 514, ⟨(.type "tuple"), .none, (.seq #[] (0 : Nat)), #[]⟩⟩ ::
⟨nat_lit 517, ⟨(.type "code"), .none, (.fields #[(.str (.ofString "_law_told") (881 : Nat)), (.str (.ofString "_law_told") (882 : Nat)), (.str (.ofString "/claim/cut.py") (883 : Nat)), (.int 327 (0 : Nat)), (.int 2 (0 : Nat)), (.int 0 (0 : Nat)), (.int 0 (0 : Nat)), (.int 3 (0 : Nat)), (.ref (514 : Nat)), (.bool .true), (.int 181 (0 : Nat)), (.ref (515 : Nat)), .none, .none, .none, (.ref (516 : Nat)), (.int 884 (0 : Nat)), (.int 327 (0 : Nat)), (.str (.ofString "/claim/cut.py") (885 : Nat))]), #[]⟩⟩ ::
⟨nat_lit 518, ⟨(.type "function"), .none, (.func ⟨(.ofString "_law_told"), (.ofString "_law_told"), p41, (.stmts b41), s41, 3, [], .none, .none, .none, (.str (.ofString "law_og0178_01") (823 : Nat)), .none, (.ref (517 : Nat)), .none, 0⟩), #[]⟩⟩ ::
⟨nat_lit 519, ⟨(.type "tuple"), .none, (.seq #[] (0 : Nat)), #[]⟩⟩ ::
⟨nat_lit 522, ⟨(.type "code"), .none, (.fields #[(.str (.ofString "law") (887 : Nat)), (.str (.ofString "law") (888 : Nat)), (.str (.ofString "/claim/cut.py") (889 : Nat)), (.int 335 (0 : Nat)), (.int 1 (0 : Nat)), (.int 0 (0 : Nat)), (.int 0 (0 : Nat)), (.int 3 (0 : Nat)), (.ref (519 : Nat)), (.bool .true), (.int 181 (0 : Nat)), (.ref (520 : Nat)), .none, .none, .none, (.ref (521 : Nat)), (.int 890 (0 : Nat)), (.int 335 (0 : Nat)), (.str (.ofString "/claim/cut.py") (891 : Nat))]), #[]⟩⟩ ::
⟨nat_lit 523, ⟨(.type "function"), .none, (.func ⟨(.ofString "law"), (.ofString "law"), p42, (.stmts b42), s42, 3, [], .none, .none, .none, (.str (.ofString "law_og0178_01") (823 : Nat)), .none, (.ref (522 : Nat)), .none, 0⟩), #[]⟩⟩ :: [] : List (Nat × Obj)))
  _ _ _ _ _ _ _ _ _ _ _ _ _ _ _ _ _ _ _ _ _ _ _ _ _ _ _ _ _ _ _ _ _ _ _ _ _ _ _ _ _ _ _ rfl _ _ _ _ _ _ _ _ _ _ rfl _ _ _ _ _ _ _ _ _ _ _ rfl _ _ rfl _ _ _ _ _ _ _ _ _ _ rfl _ _ _ _ _ _ _ _ _ _ rfl _ _ _ _ _ _ _ _ _ _ _ rfl _ _ _ _ _ _ _ _ _ _ _ _ rfl _ _ _ _ _ _ _ _ _ _ rfl _ _ _ _ _ _ _ _ _ _ rfl _ _ _ _ _ _ _ _ _ _ rfl _ _ _ _ _ _ _ _ _ _ rfl _ _ _ _ _ _ _ _ _ _ rfl _ _ _ _ _ _ _ _ _ _ rfl _ _ _ _ _ _ _ _ _ _ rfl _ _ _ _ _ _ _ _ _ _ rfl _ _ _ _ _ _ _ _ _ _ rfl _ _ _ _ _ _ _ _ _ _ rfl _ _ _ _ _ _ _ _ _ _ rfl _ _ _ _ _ _ _ _ _ _ rfl _ _ _ _ _ _ _ _ _ _ rfl _ _ _ _ _ _ _ _ _ _ rfl _ _ _ _ _ _ _ _ _ _ _ rfl _ rfl _ _ _ _ _ _ _ _ _ _ rfl _ _ _ _ _ _ _ _ _ _ _ rfl _ rfl _ _ _ _ _ _ _ _ _ _ rfl _ _ _ _ _ _ _ _ _ _ _ rfl _ rfl _ _ _ _ _ _ _ _ _ _ rfl _ _ _ _ _ _ _ _ _ _ _ rfl _ _ rfl _ _ _ _ _ _ _ _ _ _ rfl _ _ _ _ _ _ _ _ _ _ rfl _ _ _ _ _ _ _ _ _ _ rfl _ _ _ _ _ _ _ _ _ _ rfl _ _ _ _ _ _ _ _ _ _ rfl _ _ _ _ _ _ _ _ _ _ rfl _ _ _ _ _ _ _ _ _ _ _ rfl _ _ _ rfl _ _ _ _ _ _ _ _ _ _ rfl _ _ _ _ _ _ _ _ _ _ rfl _ _ _ _ _ _ _ _ _ _ rfl _ _ _ _ _ _ _ _ _ _ _ rfl _ _ _ _ _ _ rfl _ _ _ _ _ _ _ _ _ _ rfl _ _ _ _ _ _ _ _ _ _ rfl _ _ _ _ _ _ _ _ _ _ rfl _ _ _ _ _ _ _ _ _ _ rfl _ _ _ _ _ _ _ _ _ _ rfl _ _ _ _ _ _ _ _ _ _ rfl _ _ _ _ _ _ _ _ _ _ rfl _ _ _ _ _ _ _ _ _ _ rfl _ _ _ _ _ _ _ _ _ _ _ rfl _ _ rfl _ _ _ _ _ _ _ _ _ _ rfl _ _ _ _ _ _ _ _ _ _ rfl _ _ _ _ _ _ _ _ _ _ rfl _ _ _ _ _ _ _ _ _ _ _ rfl _ rfl _ _ _ _ _ _ _ _ _ _ rfl _ _ _ _ _ _ _ _ _ _ rfl _ _ _ _ _ _ _ _ _ _ rfl _ _ _ _ _ _ _ _ _ _ rfl _ _ _ _ _ _ _ _ _ _ rfl _ _ _ _ _ _ _ _ _ _ rfl _ _ _ _ _ _ _ _ _ _ rfl _ _ _ _ _ _ _ _ _ _ rfl _ _ _ _ _ _ _ _ _ _ rfl _ _ _ _ _ _ _ _ _ _ rfl _ _ _ _ _ _ _ _ _ _ rfl _ _ _ _ _ _ _ _ _ _ rfl _ _ _ _ _ _ _ _ _ _ rfl
example : PySem.Challenge.rw_og0178_01.Holds → Mine.KH = Mine.KH := by
  k_fill
  intro _
  rfl
section
noncomputable abbrev PP : Program := PySem.Challenge.rw_og0178_01.row.prog
noncomputable abbrev VW : Program := topProg
noncomputable def LO : List Str := [Str.ofString "_wall", Str.ofString "PaperError", Str.ofString "PaintFault", Str.ofString "Decimal", Str.ofString "sign_text", Str.ofString "decimal_of", Str.ofString "MOST_HOPS", Str.ofString "Name", Str.ofString "String", Str.ofString "Stream", Str.ofString "Reference", Str.ofString "kind_of", Str.ofString "is_number", Str.ofString "told_plain", Str.ofString "told", Str.ofString "told_objects", Str.ofString "Lookup", Str.ofString "Matrix", Str.ofString "identity", Str.ofString "from_array", Str.ofString "Operation", Str.ofString "used_names", Str.ofString "MOST_FORMS", Str.ofString "TextSheet", Str.ofString "resource_dict", Str.ofString "form_matrix", Str.ofString "is_form", Str.ofString "text_sheet", Str.ofString "_law_draw", Str.ofString "_law_stream", Str.ofString "_law_resources", Str.ofString "_law_deeds", Str.ofString "_law_used", Str.ofString "_law_due", Str.ofString "_law_told", Str.ofString "law", Str.ofString "__name__"]
abbrev Led := List (Addr × Obj)

noncomputable def Spec (w : World) (n : Nat) (f : Addr) (vs : List Value) (news : Led) (R : Value → Led → Prop) : Prop :=
  ∀ (mean : ExcName → Option Value) (mg mb : Str → Option Value) (dp un : Nat) (gd : Option (List Code)) (cn : Str) (cs : Scope) (a : Addr) (ccd : Value) (cl : List (Str × Addr)) (outer : List Env) (A₀ : Around) (base h₀ : Heap) (L : Addr) (m : Str → Option Value) (s : Shared) (Q E : Value → Shared → Prop),
    Below A₀ base outer h₀ → Fr h₀ L s.heap m → (KH w.params).In h₀ → News h₀ L s.heap news → Top VW LO mean mg mb h₀ → cs.kind = .function →
    dp + n < recursionLimit → un + 8 * n < cLine →
    (∀ r news' h' tk', Fr h₀ L h' m → News h₀ L h' news' → R r news' → Q r { s with heap := h', toks := tk' }) →
    wpAny (model PP w) (ktrTop dp un gd cn cs L a ccd cl outer) (call (.ref f) vs) Q E s

section
variable {prog : Program} {w : World} {A : Around} {E : Value → Shared → Prop} {s : Shared} {h₀ : Heap} {L : Addr} {news : Led}
theorem m_item {value slice : PySem.Expr} {l : Addr} {vs : Array Value} {n : Nat} {k : Int} {u : Tok} {v : Value} {Q : Value → Shared → Prop}
    (N : News h₀ L s.heap news) (hm : (l, W.listOf vs n) ∈ news) (h0 : 0 ≤ k) (hhi : k < 2 ^ 63) (hx : vs.toList[k.toNat]? = some v) (h : Q v s)
    (hs : subscripted slice false (.ref l) (.int k u) = operate [.ref l, .int k u] (getItem (.ref l) (.int k u)) := by with_unfolding_all rfl) :
    wpAny (model prog w) A (subscriptTail value slice (.ref l) (.int k u)) Q E s :=
  tail_any (N.isList hm).typeIs slot_list_getitem.lookup (wpAny_getItem_list (N.isList hm) h0 hhi (by simpa using hx) h) hs
theorem m_itemT {value slice : PySem.Expr} {l : Addr} {vs : Array Value} {n : Nat} {k : Int} {u : Tok} {v : Value} {Q : Value → Shared → Prop}
    (N : News h₀ L s.heap news) (hm : (l, ({ cls := .type "tuple", data := .seq vs n } : Obj)) ∈ news) (h0 : 0 ≤ k) (hhi : k < 2 ^ 63) (hx : vs.toList[k.toNat]? = some v) (h : Q v s)
    (hs : subscripted slice false (.ref l) (.int k u) = operate [.ref l, .int k u] (getItem (.ref l) (.int k u)) := by with_unfolding_all rfl) :
    wpAny (model prog w) A (subscriptTail value slice (.ref l) (.int k u)) Q E s := by
  have hlen : k < vs.size := by
    have := List.getElem?_eq_some_iff.mp hx
    obtain ⟨h1, _⟩ := this
    have h2 : k.toNat < vs.size := by simpa using h1
    omega
  exact item_tupleT (N.isTup hm) (by omega) hhi (PySem.seqIndex_of h0 hlen) (by simpa using hx) h hs
end

theorem Spec.use {w : World} {n : Nat} {f : Addr} {vs : List Value} {news : Led} {R : Value → Led → Prop} (S : Spec w n f vs news R)
  {mean : ExcName → Option Value} {mg mb : Str → Option Value} {dp un : Nat} {gd : Option (List Code)} {cn : Str} {cs : Scope} {a : Addr} {ccd : Value} {cl : List (Str × Addr)} {outer : List Env} {A₀ : Around} {base h₀ : Heap} {L : Addr} {m : Str → Option Value} {s : Shared} {Q E : Value → Shared → Prop}
  (B : Below A₀ base outer h₀) (F : Fr h₀ L s.heap m) (X : (KH w.params).In h₀) (N : News h₀ L s.heap news) (T : Top VW LO mean mg mb h₀) (hk : cs.kind = .function)
  (hd : dp + n < recursionLimit) (hu : un + 8 * n < cLine)
  (ret : ∀ r news' h' tk', Fr h₀ L h' m → News h₀ L h' news' → R r news' → Q r { s with heap := h', toks := tk' }) :
  wpAny (model PP w) (ktrTop dp un gd cn cs L a ccd cl outer) (call (.ref f) vs) Q E s := S mean mg mb dp un gd cn cs a ccd cl outer A₀ base h₀ L m s Q E B F X N T hk hd hu ret

theorem Spec.use2 {w : World} {n : Nat} {f : Addr} {vs : List Value} {news : Led} {R : Value → Led → Prop} (S : Spec w n f vs news R)
  {mean : ExcName → Option Value} {mg mb : Str → Option Value} {dp un : Nat} {gd : Option (List Code)} {cn : Str} {cs : Scope} {a : Addr} {ccd : Value} {cl : List (Str × Addr)} {outer : List Env} {A₀ : Around} {base h₀ : Heap} {L : Addr} {m : Str → Option Value} {h1 : Heap} {gs : Array GenState} {dr : Drawn} {t1 : Nat} {os : OsState} {Q E : Value → Shared → Prop}
  (ret : ∀ r news', R r news' → ∀ h' tk', Fr h₀ L h' m → News h₀ L h' news' → Q r ⟨h', gs, dr, tk', os⟩)
  (B : Below A₀ base outer h₀ := by k_asm) (F : Fr h₀ L h1 m := by k_asm) (X : (KH w.params).In h₀ := by k_asm) (N : News h₀ L h1 news := by k_asm) (T : Top VW LO mean mg mb h₀ := by k_asm) (hk : cs.kind = .function := by first | exact rfl | assumption)
  (hd : dp + n < recursionLimit := by ktr_room) (hu : un + 8 * n < cLine := by ktr_units) :
  wpAny (model PP w) (ktrTop dp un gd cn cs L a ccd cl outer) (call (.ref f) vs) Q E ⟨h1, gs, dr, t1, os⟩ := S mean mg mb dp un gd cn cs a ccd cl outer A₀ base h₀ L m ⟨h1, gs, dr, t1, os⟩ Q E B F X N T hk hd hu (fun r n h t F N R => ret r n R h t F N)
section
variable {G : Value → Led → Prop} {a b c d : Sort _} {news : Led}
theorem lt_over {d x : Addr} {o : Obj} (l1 : ∀ p ∈ news, p.1 < d) (l2 : @LT.lt Nat _ d x) : ∀ p ∈ (d, o) :: news, p.1 < x := fun p hp => by
  rcases List.mem_cons.mp hp with rfl | hp
  · exact l2
  · exact Nat.lt_trans (l1 p hp) l2
theorem elMk1 {od : a → Obj} {ox : Addr → Obj} (K : ∀ x d t0, (∀ p ∈ news, p.1 < d) → @LT.lt Nat _ d x → (∀ p ∈ (d, od t0) :: news, p.1 < x) → G (.ref x) ((x, ox d) :: (d, od t0) :: news)) :
  ∀ r n, (∃ x d t0, r = .ref x ∧ n = (x, ox d) :: (d, od t0) :: news ∧ (∀ p ∈ news, p.1 < d) ∧ d < x) → G r n := by
  rintro _ _ ⟨x, d, t0, rfl, rfl, l1, l2⟩
  exact K x d t0 l1 l2 (lt_over l1 l2)
theorem elMk2 {od : a → b → Obj} {ox : Addr → Obj} (K : ∀ x d t0 t1, (∀ p ∈ news, p.1 < d) → @LT.lt Nat _ d x → (∀ p ∈ (d, od t0 t1) :: news, p.1 < x) → G (.ref x) ((x, ox d) :: (d, od t0 t1) :: news)) :
  ∀ r n, (∃ x d t0 t1, r = .ref x ∧ n = (x, ox d) :: (d, od t0 t1) :: news ∧ (∀ p ∈ news, p.1 < d) ∧ d < x) → G r n := by
  rintro _ _ ⟨x, d, t0, t1, rfl, rfl, l1, l2⟩
  exact K x d t0 t1 l1 l2 (lt_over l1 l2)
theorem elMk4 {od : a → b → c → d → Obj} {ox : Addr → Obj} (K : ∀ x e t0 t1 t2 t3, (∀ p ∈ news, p.1 < e) → @LT.lt Nat _ e x → (∀ p ∈ (e, od t0 t1 t2 t3) :: news, p.1 < x) → G (.ref x) ((x, ox e) :: (e, od t0 t1 t2 t3) :: news)) :
  ∀ r n, (∃ x e t0 t1 t2 t3, r = .ref x ∧ n = (x, ox e) :: (e, od t0 t1 t2 t3) :: news ∧ (∀ p ∈ news, p.1 < e) ∧ e < x) → G r n := by
  rintro _ _ ⟨x, e, t0, t1, t2, t3, rfl, rfl, l1, l2⟩
  exact K x e t0 t1 t2 t3 l1 l2 (lt_over l1 l2)
theorem elDraw {lim : Int} {ob : Tok → Obj} {g : Obj → Led} (K : ∀ v tv tk', 0 ≤ v → v < lim → G (.int v tv) (g (ob tk'))) :
  ∀ r n, (∃ o', (∃ v tv tk', 0 ≤ v ∧ v < lim ∧ r = .int v tv ∧ o' = ob tk') ∧ n = g o') → G r n := by
  rintro _ _ ⟨_, ⟨v, tv, tk', h1, h2, rfl, rfl⟩, rfl⟩
  exact K v tv tk' h1 h2
theorem elEq {v : Value} (K : G v news) : ∀ r n, (n = news ∧ r = v) → G r n := by
  rintro _ _ ⟨rfl, rfl⟩; exact K
theorem elKind {v : a → Value} (K : ∀ x, G (v x) news) : ∀ r n, (n = news ∧ ∃ x, r = v x) → G r n := by
  rintro _ _ ⟨rfl, x, rfl⟩; exact K x
theorem elNum {v : Value} (K : ∀ d o, (∀ p ∈ news, p.1 < d) → G v ((d, o) :: news)) : ∀ r n, ((∃ d o, n = (d, o) :: news ∧ ∀ p ∈ news, p.1 < d) ∧ r = v) → G r n := by
  rintro _ _ ⟨⟨d, o, rfl, l⟩, rfl⟩; exact K d o l
theorem elMakes {Ab : Led → Prop} {v : a → Value} {P : Led → a → Prop} (K : ∀ add x, Ab add → P add x → G (v x) (add ++ news)) : ∀ r n, (∃ add, n = add ++ news ∧ Ab add ∧ ∃ x, r = v x ∧ P add x) → G r n := by
  rintro _ _ ⟨add, rfl, h, x, rfl, p⟩; exact K add x h p
theorem elAdd {Ab : Led → Prop} {P : Value → Led → Prop} (K : ∀ r add, Ab add → P r add → G r (add ++ news)) : ∀ r n, (∃ add, n = add ++ news ∧ Ab add ∧ P r add) → G r n := by
  rintro _ _ ⟨add, rfl, h, p⟩; exact K _ add h p
theorem elTup {Ab : Led → Prop} {v : a → Value} {P : Led → a → b → c → d → Prop} (K : ∀ add x y z u, Ab add → P add x y z u → G (v x) (add ++ news)) : ∀ r n, (∃ add, n = add ++ news ∧ Ab add ∧ ∃ x y z u, r = v x ∧ P add x y z u) → G r n := by
  rintro _ _ ⟨add, rfl, h, x, y, z, u, rfl, p⟩; exact K add x y z u h p
theorem elFault {P : Obj → Prop} {O : Addr → Prop} (K : ∀ e oe, P oe → O e → G (.ref e) ((e, oe) :: news)) : ∀ r n, (∃ e oe, r = .ref e ∧ n = (e, oe) :: news ∧ P oe ∧ O e) → G r n := by
  rintro _ _ ⟨e, oe, rfl, rfl, p, o⟩; exact K e oe p o
theorem elCont {P : Addr → Prop} (K : ∀ l, P l → G (.ref l) news) : ∀ r n, (n = news ∧ ∃ l, r = .ref l ∧ P l) → G r n := by
  rintro _ _ ⟨rfl, l, rfl, p⟩; exact K l p
theorem elOne {ol : Obj} (K : ∀ l, (∀ p ∈ news, p.1 < l) → G (.ref l) ((l, ol) :: news)) : ∀ r n, (∃ l, r = .ref l ∧ n = (l, ol) :: news ∧ ∀ p ∈ news, p.1 < l) → G r n := by
  rintro _ _ ⟨l, rfl, rfl, h⟩; exact K l h
end
/-- a walk's aim, kept out of sight -/
theorem opq {M : Model} {A : Around} {α : Type} {t : Sem α} {Q : α → Shared → Prop} {E : Value → Shared → Prop} {s : Shared} (h : ∀ Q' : α → Shared → Prop, (∀ x s, Q x s → Q' x s) → wpAny M A t Q' E s) : wpAny M A t Q E s := h Q fun _ _ h => h
theorem opq_app {α : Type} {Q Q' : α → Shared → Prop} {x : α} {s : Shared} (h : ∀ x s, Q x s → Q' x s) (q : Q x s) : Q' x s := h x s q
theorem my_set {prog : Program} {w : World} {A : Around} {E : Value → Shared → Prop} {K : Frag} {x C dx L : Addr} {h₀ : Heap} {m : Str → Option Value} {news news' : Led} {ox : Obj} {es es' : List DictEntry} {n n' : Nat} {name : Str} {v : Value}
  {h1 : Heap} {gs : Array GenState} {dr : Drawn} {t1 : Nat} {os : OsState} {Q : Unit → Shared → Prop} (F : Fr h₀ L h1 m) (X₀ : K.In h₀) (N : News h₀ L h1 news) (I : InstAt h1 x ox C (some (dictOf es n))) (hd : ox.dict = some dx)
    (hs : findIn K (.ref C) "__setattr__" = some (some (.builtin "object.__setattr__"))) (hp : plainOver K C = true) (ht : takerIn K C name = some none) (hh : hasDictIn K C = true) (hl : (getL name es).isSome = true)
    (e : (putL name (PyData.keyHash w.params name) (.str name (t1 + 1)) v es, putN name es n) = (es', n')) (U : Upd dx (dictOf es n) (dictOf es' n') news news') (hz : es'.length ≤ 1000)
    (h : ∀ h', Fr h₀ L h' m → News h₀ L h' news' → Q () ⟨h', gs, dr, t1 + 2, os⟩) :
    wpAny (model prog w) A (setAttr (.ref x) name v) Q E ⟨h1, gs, dr, t1, os⟩ := set_dict (s := ⟨h1, gs, dr, t1, os⟩) F X₀ N I hd hs hp ht hh hl e U hz h
theorem room1 {d n a l : Nat} (h : d + n < l) (k : Nat.ble a n = true) : d + a < l := Nat.lt_of_le_of_lt (Nat.add_le_add_left (Nat.le_of_ble_eq_true k) d) h
theorem room2 {d n a b l : Nat} (h : d + n < l) (k : Nat.ble (a + b) n = true) : d + a + b < l := by rw [Nat.add_assoc]; exact room1 h k
theorem room3 {d n a b c l : Nat} (h : d + n < l) (k : Nat.ble (a + b + c) n = true) : d + a + b + c < l := by rw [Nat.add_assoc d a b]; exact room2 h k
theorem room0 {d n l : Nat} (h : d + n < l) : d < l := Nat.lt_of_le_of_lt (Nat.le_add_right d n) h
theorem room_v {d m x l : Nat} (h : d + (m + x) < l) : d + m < l := Nat.lt_of_le_of_lt (Nat.add_le_add_left (Nat.le_add_right m x) d) h
theorem room_w {d c m x l : Nat} (h : d + c * (m + x) < l) : d + c * m < l := Nat.lt_of_le_of_lt (Nat.add_le_add_left (Nat.mul_le_mul_left c (Nat.le_add_right m x)) d) h
theorem room1v {d m x a l : Nat} (h : d + (m + x) < l) (k : Nat.ble a m = true) : d + a < l := room1 (room_v h) k
theorem room2v {d m x a b l : Nat} (h : d + (m + x) < l) (k : Nat.ble (a + b) m = true) : d + a + b < l := room2 (room_v h) k
theorem room3v {d m x a b c l : Nat} (h : d + (m + x) < l) (k : Nat.ble (a + b + c) m = true) : d + a + b + c < l := room3 (room_v h) k
theorem room1w {d c' m x a l : Nat} (h : d + c' * (m + x) < l) (k : Nat.ble a (c' * m) = true) : d + a < l := room1 (room_w h) k
theorem room2w {d c' m x a b l : Nat} (h : d + c' * (m + x) < l) (k : Nat.ble (a + b) (c' * m) = true) : d + a + b < l := room2 (room_w h) k
theorem room3w {d c' m x a b c l : Nat} (h : d + c' * (m + x) < l) (k : Nat.ble (a + b + c) (c' * m) = true) : d + a + b + c < l := room3 (room_w h) k
theorem roomS {d m f l : Nat} (h : d + (m + 4 * (f + 1)) < l) : d + 1 + (m + 4 * f) < l := by omega
theorem roomU {d m f l : Nat} (h : d + 8 * (m + 4 * (f + 1)) < l) : d + 3 + 8 * (m + 4 * f) < l := by omega
theorem len_cap {a i n c : Nat} (h : a ≤ i) (h2 : i < n) (k : Nat.ble n c = true) : a ≤ c := Nat.le_trans (Nat.le_trans h (Nat.le_of_lt h2)) (Nat.le_of_ble_eq_true k)
theorem lt_mem {l : Led} {d x : Addr} {o : Obj} (h : ∀ p ∈ l, p.1 < d) (m : (x, o) ∈ l) : @LT.lt Nat _ x d := h _ m
theorem gt_ne {l : Led} {d x : Addr} {o : Obj} (h : ∀ p ∈ l, p.1 < d) (m : (x, o) ∈ l) : @Ne Nat d x := Nat.ne_of_gt (h _ m)
theorem lt_ne {l : Led} {d x : Addr} {o : Obj} (h : ∀ p ∈ l, p.1 < d) (m : (x, o) ∈ l) : @Ne Nat x d := Nat.ne_of_lt (h _ m)
theorem off_of_lt {n l : Led} {d : Addr} (h : ∀ p ∈ l, p.1 < d) (s : ∀ p ∈ n, p ∈ l) : ∀ q ∈ n, q.1 ≠ d := fun q hq => Nat.ne_of_lt (h q (s q hq))

theorem Spec.upd {w : World} {n : Nat} {f : Addr} {vs : List Value} {all : Led} {t : Addr} {o : Obj} {g : Obj → Led} {R : Value → Obj → Prop}
  (hup : ∀ o', Upd t o o' all (g o')) (S : ∀ news : Led, (∀ p ∈ all, p = (t, o) ∨ p ∈ news) → (∀ p ∈ news, p ∈ all) → (∀ p ∈ news, p.1 ≠ t) → Spec w n f vs ((t, o) :: news) (fun r news' => ∃ o', R r o' ∧ news' = (t, o') :: news)) :
  Spec w n f vs all (fun r news' => ∃ o', R r o' ∧ news' = g o') := by
  obtain ⟨pre, post, e, _, hpre, hpost⟩ := (hup o).split
  have hs := S (pre ++ post) (by
    intro p hp; rw [e] at hp
    rcases List.mem_append.mp hp with h | h
    · exact .inr (List.mem_append_left _ h)
    · rcases List.mem_cons.mp h with h | h
      · exact .inl h
      · exact .inr (List.mem_append_right _ h)) (by
    intro p hp; rw [e]
    rcases List.mem_append.mp hp with h | h
    · exact List.mem_append_left _ h
    · exact List.mem_append_right _ (List.mem_cons_of_mem _ h)) (by
    intro p hp
    rcases List.mem_append.mp hp with h | h
    · exact hpre p h
    · exact hpost p h)
  intro mean mg mb dp un gd cn cs a ccd cl outer A₀ base h₀ L m s Q E B F X N T hk hd hu hret
  refine hs.use B F X (fun p hp => N p ?_) T hk hd hu ?_
  · rw [e]
    rcases List.mem_cons.mp hp with h | h
    · rw [h]; exact List.mem_append_right _ List.mem_cons_self
    · rcases List.mem_append.mp h with h | h
      · exact List.mem_append_left _ h
      · exact List.mem_append_right _ (List.mem_cons_of_mem _ h)
  · rintro r news' h' tk' F' N' ⟨o', hr, rfl⟩
    obtain ⟨pre2, post2, e2, e3, _, hp2⟩ := (hup o').split
    refine hret r (g o') h' tk' F' (fun p hp => N' p ?_) ⟨o', hr, rfl⟩
    rw [e3] at hp
    have hall : pre ++ (t, o) :: post = pre2 ++ (t, o) :: post2 := e ▸ e2
    rcases List.mem_append.mp hp with h | h
    · have : p ∈ pre ++ (t, o) :: post := by rw [hall]; exact List.mem_append_left _ h
      rcases List.mem_append.mp this with h' | h'
      · exact List.mem_cons_of_mem _ (List.mem_append_left _ h')
      · rcases List.mem_cons.mp h' with h' | h'
        · have := (hup o').split
          obtain ⟨pre3, post3, e4, e5, hp3, _⟩ := this
          subst h'
          exact absurd rfl (‹∀ p ∈ pre2, p.1 ≠ t› _ h)
        · exact List.mem_cons_of_mem _ (List.mem_append_right _ h')
    · rcases List.mem_cons.mp h with h | h
      · rw [h]; exact List.mem_cons_self
      · have : p ∈ pre ++ (t, o) :: post := by rw [hall]; exact List.mem_append_right _ (List.mem_cons_of_mem _ h)
        rcases List.mem_append.mp this with h' | h'
        · exact List.mem_cons_of_mem _ (List.mem_append_left _ h')
        · rcases List.mem_cons.mp h' with h' | h'
          · subst h'; exact absurd rfl (hp2 _ h)
          · exact List.mem_cons_of_mem _ (List.mem_append_right _ h')

/-- the locals as a written list, the newest first -/
noncomputable def locs : List (String × Value) → Str → Option Value
  | [] => fun _ => none
  | (a, v) :: l => fun y => if y = Str.ofString a then some v else locs l y
theorem locs_lookup : ∀ l : List (String × Value), (fun y => (l.map fun p => (Str.ofString p.1, p.2)).lookup y) = locs l
  | [] => rfl
  | (a, v) :: l => by
    funext y
    have ih := congrFun (locs_lookup l) y
    simp only [List.map_cons, List.lookup_cons, locs]
    by_cases h : y = Str.ofString a
    · simp [h]
    · have : (y == Str.ofString a) = false := by simp [h]
      simp only [this, if_neg h]; exact ih
theorem fr_locs {h₀ h : Heap} {L : Addr} {m : Str → Option Value} (F : Fr h₀ L h m) (l : List (String × Value)) (e : m = fun y => (l.map fun p => (Str.ofString p.1, p.2)).lookup y) : Fr h₀ L h (locs l) := by
  rw [← locs_lookup]; rw [e] at F; exact F
theorem fr_more {h₀ h : Heap} {L : Addr} {x : String} {v : Value} {l : List (String × Value)} (F : Fr h₀ L h (fun y => if y = Str.ofString x then some v else locs l y)) : Fr h₀ L h (locs ((x, v) :: l)) := F

theorem execs_append (a b : List Stmt) (env : Env) : execs (a ++ b) env = (execs a env >>= fun f => match f with | .next => execs b env | f => pure f) := by
  induction a with
  | nil => rfl
  | cons st r ih =>
    show execs (st :: (r ++ b)) env = _
    rw [execs_cons, execs_cons, bind_assoc]
    refine congrArg _ (funext fun f => ?_)
    cases f with
    | next => exact ih
    | _ => rfl

/-- the state behind a segment: only the heap and the tokens have moved -/
noncomputable def Mid (g : Heap) (L : Addr) (s : Shared) (P : (Str → Option Value) → Led → Prop) (f : Flow) (s' : Shared) : Prop :=
  f = .next ∧ ∃ m' all' h' tk', s' = { s with heap := h', toks := tk' } ∧ Fr g L h' m' ∧ News g L h' all' ∧ P m' all'
theorem Mid.intro {g : Heap} {L : Addr} {s : Shared} {P : (Str → Option Value) → Led → Prop} {m' : Str → Option Value} {all' : Led} {h' : Heap} {tk' : Nat} (F : Fr g L h' m') (N : News g L h' all') (hp : P m' all') : Mid g L s P .next { s with heap := h', toks := tk' } :=
  ⟨rfl, _, _, _, _, rfl, F, N, hp⟩
section
variable {M : Model} {A : Around} {E : Value → Shared → Prop} {env : Env}
theorem seg (k : Nat) {body : List Stmt} {g : Heap} {L : Addr} {s : Shared} {h1 : Heap} {t1 : Nat} {Q : Flow → Shared → Prop} {m : Str → Option Value} (_F : Fr g L h1 m) (P : (Str → Option Value) → Led → Prop)
  (c1 : wpAny M A (execs (body.take k) env) (Mid g L s P) E { s with heap := h1, toks := t1 })
  (c2 : ∀ m' all' h' tk', Fr g L h' m' → News g L h' all' → P m' all' → wpAny M A (execs (body.drop k) env) Q E { s with heap := h', toks := tk' }) :
  wpAny M A (execs body env) Q E { s with heap := h1, toks := t1 } := by
  have e : execs body env = (execs (body.take k) env >>= fun f => match f with | .next => execs (body.drop k) env | f => pure f) := by
    rw [← execs_append, List.take_append_drop]
  rw [e]
  refine wpAny_bind (wpAny_mono c1 (fun f s' h => ?_) fun _ _ h => h)
  obtain ⟨rfl, m', all', h', tk', rfl, F, N, hp⟩ := h
  exact c2 m' all' h' tk' F N hp
end

section
variable {prog : Program} {w : World} {A : Around} {E : Value → Shared → Prop} {s : Shared} {h₀ : Heap} {L : Addr} {news : Led}
theorem m_pickT {value slice : PySem.Expr} {l : Addr} {vs : Array Value} {n : Nat} {k : Int} {u : Tok} {Q : Value → Shared → Prop}
    (N : News h₀ L s.heap news) (hm : (l, ({ cls := .type "tuple", data := .seq vs n } : Obj)) ∈ news) (h0 : 0 ≤ k) (h1 : k < vs.size) (h2 : vs.size ≤ 1000) (h : ∀ v ∈ vs.toList, Q v s)
    (hs : subscripted slice false (.ref l) (.int k u) = operate [.ref l, .int k u] (getItem (.ref l) (.int k u)) := by with_unfolding_all rfl) :
    wpAny (model prog w) A (subscriptTail value slice (.ref l) (.int k u)) Q E s := by
  have hk : k.toNat < vs.toList.length := by simp; omega
  exact m_itemT N hm h0 (by omega) (List.getElem?_eq_getElem hk) (h _ (List.getElem_mem hk)) hs
end

inductive Pull (t : Addr) (o : Obj) : Led → Led → Prop
  | head {r : Led} : Pull t o ((t, o) :: r) r
  | tail {p : Addr × Obj} {r r' : Led} : Pull t o r r' → Pull t o (p :: r) (p :: r')
  | app {a r r' : Led} : Pull t o r r' → Pull t o (a ++ r) (a ++ r')
theorem Pull.sub {t : Addr} {o : Obj} : ∀ {l r : Led}, Pull t o l r → ∀ p ∈ (t, o) :: r, p ∈ l
  | _, _, .head, p, hp => hp
  | _, _, .tail h, p, hp => by
    rcases List.mem_cons.mp hp with rfl | hp
    · exact List.mem_cons_of_mem _ (h.sub _ List.mem_cons_self)
    · rcases List.mem_cons.mp hp with rfl | hp
      · exact List.mem_cons_self
      · exact List.mem_cons_of_mem _ (h.sub _ (List.mem_cons_of_mem _ hp))
  | _, _, .app h, p, hp => by
    rcases List.mem_cons.mp hp with rfl | hp
    · exact List.mem_append_right _ (h.sub _ List.mem_cons_self)
    · rcases List.mem_append.mp hp with hp | hp
      · exact List.mem_append_left _ hp
      · exact List.mem_append_right _ (h.sub _ (List.mem_cons_of_mem _ hp))
/-- which object is pulled to the front -/
structure Tape (t : Addr) : Prop where
theorem Mid.pull {g : Heap} {L : Addr} {s : Shared} {P : (Str → Option Value) → Led → Prop} {m' : Str → Option Value} {all₀ rest : Led} {h' : Heap} {tk' : Nat} {t : Addr} {o : Obj}
  (_T : Tape t) (F : Fr g L h' m') (N : News g L h' all₀) (hl : Pull t o all₀ rest) (hp : P m' ((t, o) :: rest)) : Mid g L s P .next { s with heap := h', toks := tk' } :=
  Mid.intro F (fun p h => N p (hl.sub p h)) hp

theorem ne_of_lts {d : Addr} {l : Led} (h : ∀ p ∈ l, p.1 < d) : ∀ p ∈ l, p.1 ≠ d := fun p hp => Nat.ne_of_lt (h p hp)
theorem ltFst {x d : Addr} {o : Obj} {l : Led} (h : ∀ p ∈ (x, o) :: l, p.1 < d) : @LT.lt Nat _ x d := h _ List.mem_cons_self
theorem ltRest {q : Addr × Obj} {d : Addr} {l : Led} (h : ∀ p ∈ q :: l, p.1 < d) : ∀ p ∈ l, p.1 < d := fun p hp => h p (List.mem_cons_of_mem _ hp)
inductive Kd | form | image | none
set_option autoImplicit false in
inductive strObj (all : Led) (x : Addr) (s : String) : Prop
  | mk (d hs tk tk2 n : _)
    (_ : (x, instObj 190 d) ∈ all)
    (_ : (d, dictOf [⟨hs, .str (Str.ofString "text") tk, .str (Str.ofString s) tk2⟩] n) ∈ all) : strObj all x s
theorem strObj.intro {all : Led} {x d : Addr} {s : String} {hs : Int} {tk tk2 : Tok} {n : Nat} (h1 : (x, instObj 190 d) ∈ all) (h2 : (d, dictOf [⟨hs, .str (Str.ofString "text") tk, .str (Str.ofString s) tk2⟩] n) ∈ all) : strObj all x s := ⟨_, _, _, _, _, h1, h2⟩
inductive KindV (all : Led) : Value → Kd → Prop
  | form {x : Addr} : strObj all x "Form" → KindV all (.ref x) .form
  | image {x : Addr} : strObj all x "Image" → KindV all (.ref x) .image
  | none : KindV all .none .none
theorem off_cons {x t : Addr} {o : Obj} {l : Led} (h : @Ne Nat x t) (h2 : ∀ p ∈ l, p.1 ≠ t) : ∀ p ∈ (x, o) :: l, p.1 ≠ t := fun p hp => by
  rcases List.mem_cons.mp hp with rfl | hp
  · exact h
  · exact h2 p hp

/-- a stream's head: up to three pairs -/
noncomputable def headK (a b c : Option Value) : List (Str × Value) :=
  (a.map fun v => (Str.ofString "Subtype", v)).toList ++ (b.map fun v => (Str.ofString "Resources", v)).toList ++ (c.map fun v => (Str.ofString "Matrix", v)).toList
theorem headK_a (v : Value) : stored (headK none none none) (Str.ofString "Subtype") v = headK (some v) none none := rfl
theorem headK_b (a : Option Value) (v : Value) : stored (headK a none none) (Str.ofString "Resources") v = headK a (some v) none := by cases a <;> rfl
theorem headK_c (a b : Option Value) (v : Value) : stored (headK a b none) (Str.ofString "Matrix") v = headK a b (some v) := by cases a <;> cases b <;> rfl
theorem headK_va (a b c : Option Value) : valueAt (headK a b c) (Str.ofString "Subtype") = a := by cases a <;> cases b <;> cases c <;> rfl
theorem headK_vb (a b c : Option Value) : valueAt (headK a b c) (Str.ofString "Resources") = b := by cases a <;> cases b <;> cases c <;> rfl
theorem headK_vc (a b c : Option Value) : valueAt (headK a b c) (Str.ofString "Matrix") = c := by cases a <;> cases b <;> cases c <;> rfl
theorem headK_le (a b c : Option Value) : (headK a b c).length ≤ sizeLine := by
  have : (headK a b c).length ≤ 3 := by cases a <;> cases b <;> cases c <;> simp [headK]
  rw [sizeLine_eq]; omega
noncomputable def subO : Kd → Value → Option Value
  | .none, _ => none
  | _, v => some v
set_option autoImplicit false in
/-- a reference: an object with a number and a generation 0 -/
inductive refObj (all : Led) (x : Addr) (k : Int) : Prop
  | mk (d h1 h2 t1 t2 t3 t4 n : _)
    (_ : (x, instObj 261 d) ∈ all)
    (_ : (d, dictOf [⟨h1, .str (Str.ofString "number") t1, .int k t2⟩, ⟨h2, .str (Str.ofString "generation") t3, .int 0 t4⟩] n) ∈ all) : refObj all x k
theorem refObj.intro {all : Led} {x d : Addr} {k h1 h2 : Int} {t1 t2 t3 t4 : Tok} {n : Nat} (a : (x, instObj 261 d) ∈ all) (b : (d, dictOf [⟨h1, .str (Str.ofString "number") t1, .int k t2⟩, ⟨h2, .str (Str.ofString "generation") t3, .int 0 t4⟩] n) ∈ all) : refObj all x k := ⟨_, _, _, _, _, _, _, _, a, b⟩
theorem refObj.mono {all all' : Led} {x : Addr} {k : Int} (h : refObj all x k) (hs : ∀ p ∈ all, p ∈ all') : refObj all' x k := by
  obtain ⟨d, h1, h2, t1, t2, t3, t4, n, a, b⟩ := h
  exact ⟨d, h1, h2, t1, t2, t3, t4, n, hs _ a, hs _ b⟩
theorem strObj.mono {all all' : Led} {x : Addr} {s : String} (h : strObj all x s) (hs : ∀ p ∈ all, p ∈ all') : strObj all' x s := by
  obtain ⟨d, h1, t1, t2, n, a, b⟩ := h
  exact ⟨d, h1, t1, t2, n, hs _ a, hs _ b⟩
theorem KindV.mono {all all' : Led} {v : Value} {κ : Kd} (h : KindV all v κ) (hs : ∀ p ∈ all, p ∈ all') : KindV all' v κ := by
  cases h with
  | form h => exact .form (h.mono hs)
  | image h => exact .image (h.mono hs)
  | none => exact .none
inductive ResV (all : Led) : Int → Option Value → Prop
  | zero : ResV all 0 none
  | pos {x : Addr} {k : Int} : 0 < k → refObj all x (3 + k) → ResV all k (some (.ref x))
theorem ResV.mono {all all' : Led} {v : Option Value} {k : Int} (h : ResV all k v) (hs : ∀ p ∈ all, p ∈ all') : ResV all' k v := by
  cases h with
  | zero => exact .zero
  | pos h1 h2 => exact .pos h1 (h2.mono hs)
inductive MatV (all : Led) : Int → Option Value → Prop
  | low {k : Int} : k ≤ 1 → MatV all k none
  | mid {x r : Addr} {k : Int} {n : Nat} {t1 t2 t3 t4 t5 : Tok} : 2 ≤ k → k ≤ 4 → refObj all r 8 → (x, W.listOf #[.int 1 t1, .int 0 t2, .ref r, .int 1 t3, .int k t4, .int 0 t5] n) ∈ all → MatV all k (some (.ref x))
  | five {x : Addr} {n : Nat} {t1 t2 t3 t4 t5 : Tok} : (x, W.listOf #[.int 1 t1, .int 0 t2, .int 0 t3, .int 1 t4, .int 0 t5] n) ∈ all → MatV all 5 (some (.ref x))
  | six {x r : Addr} {n : Nat} {t1 t2 t3 t4 t5 : Tok} : strObj all r "A" → (x, W.listOf #[.int 1 t1, .int 0 t2, .int 0 t3, .int 1 t4, .ref r, .int 0 t5] n) ∈ all → MatV all 6 (some (.ref x))
theorem MatV.mono {all all' : Led} {v : Option Value} {k : Int} (h : MatV all k v) (hs : ∀ p ∈ all, p ∈ all') : MatV all' k v := by
  cases h with
  | low h => exact .low h
  | mid h1 h2 h3 h4 => exact .mid h1 h2 (h3.mono hs) (hs _ h4)
  | five h => exact .five (hs _ h)
  | six h1 h2 => exact .six (h1.mono hs) (hs _ h2)

structure Tape2 (t : Addr) : Prop where
theorem Mid.pull2 {g : Heap} {L : Addr} {s : Shared} {P : (Str → Option Value) → Led → Prop} {m' : Str → Option Value} {all₀ r r2 : Led} {h' : Heap} {tk' : Nat} {t t2 : Addr} {o o2 : Obj}
  (_T : Tape t) (_T2 : Tape2 t2) (F : Fr g L h' m') (N : News g L h' all₀) (hl : Pull t o all₀ r) (hl2 : Pull t2 o2 r r2) (hp : P m' ((t, o) :: (t2, o2) :: r2)) : Mid g L s P .next { s with heap := h', toks := tk' } :=
  Mid.intro F (fun p h => N p (hl.sub p (by
    rcases List.mem_cons.mp h with h | h
    · rw [h]; exact List.mem_cons_self
    · exact List.mem_cons_of_mem _ (hl2.sub p h)))) hp

theorem dict_b {w : World} {o : Obj} {a : Option Value} {v : Value} (h : o.IsDictOf (PySem.strKind PP w) (stored (headK a none none) (Str.ofString "Resources") v)) : o.IsDictOf (PySem.strKind PP w) (headK a (some v) none) := headK_b a v ▸ h
theorem dict_c {w : World} {o : Obj} {a b : Option Value} {v : Value} (h : o.IsDictOf (PySem.strKind PP w) (stored (headK a b none) (Str.ofString "Matrix") v)) : o.IsDictOf (PySem.strKind PP w) (headK a b (some v)) := headK_c a b v ▸ h

theorem News.pull {g : Heap} {L : Addr} {h : Heap} {l r : Led} {t : Addr} {o : Obj} (N : News g L h l) (hl : Pull t o l r) : News g L h ((t, o) :: r) := fun p hp => N p (hl.sub p hp)
abbrev tupOf (vs : Array Value) (n : Nat) : Obj := { cls := .type "tuple", data := .seq vs n }
noncomputable def isForm : Kd → Bool
  | .form => true
  | _ => false
set_option autoImplicit false in
/-- a head dict of a stream -/
inductive HeadIs (w : World) (all : Led) (hd : Addr) (kd : Kd) (lv mv : Int) : Prop
  | mk (kv rv xv o : _)
    (_ : (hd, o) ∈ all)
    (_ : o.IsDictOf (PySem.strKind PP w) (headK (subO kd kv) rv xv))
    (_ : (hd == sysModules) = false)
    (_ : KindV all kv kd)
    (_ : ResV all lv rv)
    (_ : MatV all mv xv) : HeadIs w all hd kd lv mv
set_option autoImplicit false in
inductive PlainIs (w : World) (all : Led) (pd : Addr) (kd : Kd) (lv mv dv : Int) : Prop
  | mk (t1 t2 t3 o : _)
    (_ : (pd, o) ∈ all)
    (_ : o.IsDictOf (PySem.strKind PP w) [(Str.ofString "form", .bool (isForm kd)), (Str.ofString "lent", .int lv t1), (Str.ofString "matrix", .int mv t2), (Str.ofString "deed", .int dv t3)])
    (_ : (pd == sysModules) = false) : PlainIs w all pd kd lv mv dv
theorem HeadIs.mono {w : World} {all all' : Led} {hd : Addr} {kd : Kd} {lv mv : Int} (h : HeadIs w all hd kd lv mv) (hs : ∀ p ∈ all, p ∈ all') : HeadIs w all' hd kd lv mv := by
  obtain ⟨kv, rv, xv, o, a, b, c, d, e, f⟩ := h
  exact ⟨kv, rv, xv, o, hs _ a, b, c, d.mono hs, e.mono hs, f.mono hs⟩
theorem PlainIs.mono {w : World} {all all' : Led} {pd : Addr} {kd : Kd} {lv mv dv : Int} (h : PlainIs w all pd kd lv mv dv) (hs : ∀ p ∈ all, p ∈ all') : PlainIs w all' pd kd lv mv dv := by
  obtain ⟨t1, t2, t3, o, a, b, b2⟩ := h
  exact ⟨t1, t2, t3, o, hs _ a, b, b2⟩
set_option autoImplicit false in
/-- what _law_stream hands back -/
inductive StreamOut (w : World) (all : Led) (r : Value) (kd : Kd) (lv mv dv : Int) : Prop
  | mk (tp hd pd n : _)
    (_ : r = .ref tp)
    (_ : (tp, tupOf #[.ref hd, .ref pd] n) ∈ all)
    (_ : HeadIs w all hd kd lv mv)
    (_ : PlainIs w all pd kd lv mv dv) : StreamOut w all r kd lv mv dv
theorem StreamOut.mono {w : World} {all all' : Led} {r : Value} {kd : Kd} {lv mv dv : Int} (h : StreamOut w all r kd lv mv dv) (hs : ∀ p ∈ all, p ∈ all') : StreamOut w all' r kd lv mv dv := by
  obtain ⟨tp, hd, pd, n, e, a, b, c⟩ := h
  exact ⟨tp, hd, pd, n, e, hs _ a, b.mono hs, c.mono hs⟩

/-- the locals as a written list over others -/
noncomputable def locsOn (base : Str → Option Value) : List (String × Value) → Str → Option Value
  | [] => base
  | (a, v) :: l => fun y => if y = Str.ofString a then some v else locsOn base l y
theorem locsOn_eq {base : Str → Option Value} : ∀ {l : List (String × Value)}, (∀ p ∈ l, base (Str.ofString p.1) = some p.2) → locsOn base l = base
  | [], _ => rfl
  | (a, v) :: l, h => by
    funext y
    show (if y = Str.ofString a then some v else locsOn base l y) = base y
    rw [locsOn_eq (l := l) fun p hp => h p (List.mem_cons_of_mem _ hp)]
    by_cases e : y = Str.ofString a
    · rw [if_pos e, e]; exact (h _ List.mem_cons_self).symm
    · rw [if_neg e]
theorem has_of {m : Str → Option Value} {l : List (String × Value)} (h : l.map (fun p => m (Str.ofString p.1)) = l.map (fun p => some p.2)) : ∀ p ∈ l, m (Str.ofString p.1) = some p.2 :=
  List.map_inj_left.mp h
theorem fr_on {h₀ h : Heap} {L : Addr} {base : Str → Option Value} {x : String} {v : Value} (F : Fr h₀ L h (fun y => if y = Str.ofString x then some v else base y)) (l : List (String × Value)) (e : ∀ p ∈ l, base (Str.ofString p.1) = some p.2) :
    Fr h₀ L h (locsOn base ((x, v) :: l)) := by
  show Fr h₀ L h (fun y => if y = Str.ofString x then some v else locsOn base l y)
  rw [locsOn_eq e]; exact F
theorem fr_on0 {h₀ h : Heap} {L : Addr} {base : Str → Option Value} (F : Fr h₀ L h base) (l : List (String × Value)) (e : ∀ p ∈ l, base (Str.ofString p.1) = some p.2) :
    Fr h₀ L h (locsOn base l) := by rw [locsOn_eq e]; exact F

inductive Fo | viaRef | direct | num | missing
inductive Th | str (k : Int) | dict | missing
noncomputable def addK (l : List (Str × Value)) (x : Str) : Option Value → List (Str × Value)
  | none => l
  | some v => stored l x v
inductive FontV (w : World) (all : Led) : Fo → Option Value → Prop
  | viaRef {x : Addr} : refObj all x 7 → FontV w all .viaRef (some (.ref x))
  | direct {x : Addr} {o : Obj} {t : Tok} : (x, o) ∈ all → o.IsDictOf (PySem.strKind PP w) [(Str.ofString "Id", .int 9 t)] → (x == sysModules) = false → FontV w all .direct (some (.ref x))
  | num {t : Tok} : FontV w all .num (some (.int 12 t))
  | missing : FontV w all .missing none
inductive FontP : Fo → Option Value → Prop
  | viaRef {t : Tok} : FontP .viaRef (some (.int 5 t))
  | direct {t : Tok} : FontP .direct (some (.int 9 t))
  | num : FontP .num none
  | missing : FontP .missing none
inductive ThingV (w : World) (all : Led) : Th → Option Value → Prop
  | str {x : Addr} {k : Int} : 0 ≤ k → k < 3 → refObj all x (1 + k) → ThingV w all (.str k) (some (.ref x))
  | dict {x : Addr} {o : Obj} {v : Value} : (x, o) ∈ all → o.IsDictOf (PySem.strKind PP w) [(Str.ofString "Subtype", v)] → (x == sysModules) = false → ThingV w all .dict (some (.ref x))
  | missing : ThingV w all .missing none
inductive ThingP : Th → Option Value → Prop
  | str {k : Int} {t : Tok} : ThingP (.str k) (some (.int k t))
  | dict : ThingP .dict none
  | missing : ThingP .missing none
theorem FontV.mono {w : World} {all all' : Led} {f : Fo} {v : Option Value} (h : FontV w all f v) (hs : ∀ p ∈ all, p ∈ all') : FontV w all' f v := by
  cases h with
  | viaRef h => exact .viaRef (h.mono hs)
  | direct h1 h2 h3 => exact .direct (hs _ h1) h2 h3
  | num => exact .num
  | missing => exact .missing
theorem ThingV.mono {w : World} {all all' : Led} {f : Th} {v : Option Value} (h : ThingV w all f v) (hs : ∀ p ∈ all, p ∈ all') : ThingV w all' f v := by
  cases h with
  | str h1 h2 h3 => exact .str h1 h2 (h3.mono hs)
  | dict h1 h2 h3 => exact .dict (hs _ h1) h2 h3
  | missing => exact .missing
/-- the tables of a resource, word by word -/
inductive RState (w : World) (all : Led) : List (Str × Fo × Th) → List (Str × Value) → List (Str × Value) → List (Str × Value) → List (Str × Value) → Prop
  | nil : RState w all [] [] [] [] []
  | snoc {ds : List (Str × Fo × Th)} {lf lx pf px : List (Str × Value)} {x : Str} {f : Fo} {h : Th} {fo xo fp xp : Option Value} : RState w all ds lf lx pf px → FontV w all f fo → FontP f fp → ThingV w all h xo → ThingP h xp →
      RState w all (ds ++ [(x, f, h)]) (addK lf x fo) (addK lx x xo) (addK pf x fp) (addK px x xp)
theorem RState.mono {w : World} {all all' : Led} {ds : List (Str × Fo × Th)} {lf lx pf px : List (Str × Value)} (h : RState w all ds lf lx pf px) (hs : ∀ p ∈ all, p ∈ all') : RState w all' ds lf lx pf px := by
  induction h with
  | nil => exact .nil
  | snoc _ h1 h2 h3 h4 ih => exact .snoc ih (h1.mono hs) h2 (h3.mono hs) h4
theorem stored_le {l : List (Str × Value)} {x : Str} {v : Value} : (stored l x v).length ≤ l.length + 1 := by
  unfold stored; split <;> simp
theorem addK_le {l : List (Str × Value)} {x : Str} {o : Option Value} : (addK l x o).length ≤ l.length + 1 := by
  cases o with
  | none => simp [addK]
  | some v => exact stored_le

theorem News.perm {g : Heap} {L : Addr} {h : Heap} {l l' : Led} (N : News g L h l) (hs : ∀ p ∈ l', p ∈ l) : News g L h l' := fun p hp => N p (hs p hp)
theorem all_cons {a : Addr × Obj} {l : Led} {P : Addr × Obj → Prop} (h : P a) (h2 : ∀ p ∈ l, P p) : ∀ p ∈ a :: l, P p := List.forall_mem_cons.mpr ⟨h, h2⟩

/-- several objects pulled to the front, in the order given -/
structure Tapes (as : List Addr) : Prop where
inductive Pulls : List Addr → Led → Led → Led → Prop
  | nil {l : Led} : Pulls [] l l l
  | cons {a : Addr} {as : List Addr} {o : Obj} {l l' r f : Led} : Pull a o l l' → Pulls as l' f r → Pulls (a :: as) l ((a, o) :: f) r
theorem Pulls.sub {as : List Addr} {l f r : Led} (h : Pulls as l f r) : ∀ p ∈ f, p ∈ l := by
  induction h with
  | nil => exact fun _ hp => hp
  | cons h _ ih =>
    intro p hp
    rcases List.mem_cons.mp hp with rfl | hp
    · exact h.sub _ List.mem_cons_self
    · exact h.sub _ (List.mem_cons_of_mem _ (ih p hp))
theorem Mid.pulls {g : Heap} {L : Addr} {s : Shared} {P : (Str → Option Value) → Led → Prop} {m' : Str → Option Value} {as : List Addr} {all₀ f r : Led} {h' : Heap} {tk' : Nat}
  (_T : Tapes as) (F : Fr g L h' m') (N : News g L h' all₀) (hl : Pulls as all₀ f r) (hp : P m' f) : Mid g L s P .next { s with heap := h', toks := tk' } :=
  Mid.intro F (fun p h => N p (hl.sub p h)) hp
theorem News.pulls {g : Heap} {L : Addr} {h : Heap} {as : List Addr} {l f r : Led} (_T : Tapes as) (N : News g L h l) (hl : Pulls as l f r) : News g L h f := fun p hp => N p (hl.sub p hp)

abbrev sA : Str := Str.ofString "A"
abbrev sB : Str := Str.ofString "B"
set_option autoImplicit false in
/-- the last word of the tables -/
inductive RLast (w : World) (all : Led) (ds : List (Str × Fo × Th)) (lf lx pf px : List (Str × Value)) : Prop
  | mk (ds' : List (Str × Fo × Th)) (lf' lx' pf' px' : List (Str × Value)) (x : Str) (f : Fo) (h : Th) (fo xo fp xp : Option Value)
    (_ : RState w all ds' lf' lx' pf' px')
    (_ : FontV w all f fo)
    (_ : FontP f fp)
    (_ : ThingV w all h xo)
    (_ : ThingP h xp)
    (_ : ds = ds' ++ [(x, f, h)])
    (_ : lf = addK lf' x fo)
    (_ : lx = addK lx' x xo)
    (_ : pf = addK pf' x fp)
    (_ : px = addK px' x xp) : RLast w all ds lf lx pf px
theorem RState.inv {w : World} {all : Led} {ds : List (Str × Fo × Th)} {lf lx pf px : List (Str × Value)} (h : RState w all ds lf lx pf px) : (ds = [] ∧ lf = [] ∧ lx = [] ∧ pf = [] ∧ px = []) ∨ RLast w all ds lf lx pf px := by
  induction h with
  | nil => exact .inl ⟨rfl, rfl, rfl, rfl, rfl⟩
  | snoc h a b c d _ => exact .inr ⟨_, _, _, _, _, _, _, _, _, _, _, _, h, a, b, c, d, rfl, rfl, rfl, rfl, rfl⟩
set_option autoImplicit false in
/-- the tables of the words A and B -/
inductive RTwo (w : World) (all : Led) (lf lx pf px : List (Str × Value)) : Prop
  | mk (fa : Fo) (ta : Th) (fb : Fo) (tb : Th) (a b xa xb pa pb ya yb : Option Value)
    (_ : FontV w all fa a)
    (_ : FontV w all fb b)
    (_ : ThingV w all ta xa)
    (_ : ThingV w all tb xb)
    (_ : FontP fa pa)
    (_ : FontP fb pb)
    (_ : ThingP ta ya)
    (_ : ThingP tb yb)
    (_ : lf = addK (addK [] sA a) sB b)
    (_ : lx = addK (addK [] sA xa) sB xb)
    (_ : pf = addK (addK [] sA pa) sB pb)
    (_ : px = addK (addK [] sA ya) sB yb) : RTwo w all lf lx pf px
theorem RState.two {w : World} {all : Led} {ds : List (Str × Fo × Th)} {lf lx pf px : List (Str × Value)} (h : RState w all ds lf lx pf px) (hm : ds.map (·.1) = [sA, sB]) : RTwo w all lf lx pf px := by
  rcases h.inv with ⟨e, _⟩ | ⟨ds1, lf1, lx1, pf1, px1, x1, f1, t1, fo1, xo1, fp1, xp1, h1, a1, a2, a3, a4, e0, e1, e2, e3, e4⟩
  · rw [e] at hm; cases hm
  · rw [e0, List.map_append] at hm
    obtain ⟨m1, m2⟩ := List.append_inj' (s₂ := [sA]) (t₂ := [sB]) hm rfl
    have x1B : x1 = sB := (List.cons.inj m2).1
    rcases h1.inv with ⟨e, _⟩ | ⟨ds2, lf2, lx2, pf2, px2, x2, f2, t2, fo2, xo2, fp2, xp2, h2, b1, b2, b3, b4, g0, g1, g2, g3, g4⟩
    · rw [e] at m1; cases m1
    · rw [g0, List.map_append] at m1
      obtain ⟨m3, m4⟩ := List.append_inj' (s₂ := []) (t₂ := [sA]) m1 rfl
      have x2A : x2 = sA := (List.cons.inj m4).1
      rcases h2.inv with ⟨_, k1, k2, k3, k4⟩ | ⟨ds3, lf3, lx3, pf3, px3, x3, f3, t3, fo3, xo3, fp3, xp3, h3, c1, c2, c3, c4, q0, _⟩
      · exact ⟨_, _, _, _, _, _, _, _, _, _, _, _, b1, a1, b3, a3, b2, a2, b4, a4, by rw [e1, g1, k1, x1B, x2A], by rw [e2, g2, k2, x1B, x2A], by rw [e3, g3, k3, x1B, x2A], by rw [e4, g4, k4, x1B, x2A]⟩
      · rw [q0, List.map_append] at m3
        exact absurd m3 (by simp)
/-- a goal, kept out of sight -/
theorem hid {G : Prop} (h : ∀ P : Prop, (G → P) → P) : G := h G id
set_option autoImplicit false in
/-- a resource, and its plain word -/
inductive ResIs (w : World) (all : Led) (rd : Addr) (fa : Fo) (ta : Th) (fb : Fo) (tb : Th) : Prop
  | mk (a b xa xb fd xd of ox o : _)
    (_ : FontV w all fa a)
    (_ : FontV w all fb b)
    (_ : ThingV w all ta xa)
    (_ : ThingV w all tb xb)
    (_ : ((rd, o) ∈ all ∧ o.IsDictOf (PySem.strKind PP w) [(Str.ofString "Font", .ref fd), (Str.ofString "XObject", .ref xd)] ∧ (rd == sysModules) = false))
    (_ : ((fd, of) ∈ all ∧ of.IsDictOf (PySem.strKind PP w) (addK (addK [] sA a) sB b) ∧ (fd == sysModules) = false))
    (_ : ((xd, ox) ∈ all ∧ ox.IsDictOf (PySem.strKind PP w) (addK (addK [] sA xa) sB xb) ∧ (xd == sysModules) = false)) : ResIs w all rd fa ta fb tb
set_option autoImplicit false in
inductive PlainResIs (w : World) (all : Led) (rd : Addr) (fa : Fo) (ta : Th) (fb : Fo) (tb : Th) : Prop
  | mk (a b xa xb fd xd of ox o : _)
    (_ : FontP fa a)
    (_ : FontP fb b)
    (_ : ThingP ta xa)
    (_ : ThingP tb xb)
    (_ : ((rd, o) ∈ all ∧ o.IsDictOf (PySem.strKind PP w) [(Str.ofString "fonts", .ref fd), (Str.ofString "things", .ref xd)] ∧ (rd == sysModules) = false))
    (_ : ((fd, of) ∈ all ∧ of.IsDictOf (PySem.strKind PP w) (addK (addK [] sA a) sB b) ∧ (fd == sysModules) = false))
    (_ : ((xd, ox) ∈ all ∧ ox.IsDictOf (PySem.strKind PP w) (addK (addK [] sA xa) sB xb) ∧ (xd == sysModules) = false)) : PlainResIs w all rd fa ta fb tb
theorem ResIs.mono {w : World} {all all' : Led} {rd : Addr} {fa : Fo} {ta : Th} {fb : Fo} {tb : Th} (h : ResIs w all rd fa ta fb tb) (hs : ∀ p ∈ all, p ∈ all') : ResIs w all' rd fa ta fb tb := by
  obtain ⟨a, b, xa, xb, fd, xd, of, ox, o, h1, h2, h3, h4, ⟨c1, c2, c3⟩, ⟨d1, d2, d3⟩, ⟨e1, e2, e3⟩⟩ := h
  exact ⟨a, b, xa, xb, fd, xd, of, ox, o, h1.mono hs, h2.mono hs, h3.mono hs, h4.mono hs, ⟨hs _ c1, c2, c3⟩, ⟨hs _ d1, d2, d3⟩, ⟨hs _ e1, e2, e3⟩⟩
theorem PlainResIs.mono {w : World} {all all' : Led} {rd : Addr} {fa : Fo} {ta : Th} {fb : Fo} {tb : Th} (h : PlainResIs w all rd fa ta fb tb) (hs : ∀ p ∈ all, p ∈ all') : PlainResIs w all' rd fa ta fb tb := by
  obtain ⟨a, b, xa, xb, fd, xd, of, ox, o, h1, h2, h3, h4, ⟨c1, c2, c3⟩, ⟨d1, d2, d3⟩, ⟨e1, e2, e3⟩⟩ := h
  exact ⟨a, b, xa, xb, fd, xd, of, ox, o, h1, h2, h3, h4, ⟨hs _ c1, c2, c3⟩, ⟨hs _ d1, d2, d3⟩, ⟨hs _ e1, e2, e3⟩⟩
set_option autoImplicit false in
inductive ResOut (w : World) (all : Led) (r : Value) (fa : Fo) (ta : Th) (fb : Fo) (tb : Th) : Prop
  | mk (tp rd pd n : _)
    (_ : r = .ref tp)
    (_ : (tp, tupOf #[.ref rd, .ref pd] n) ∈ all)
    (_ : ResIs w all rd fa ta fb tb)
    (_ : PlainResIs w all pd fa ta fb tb) : ResOut w all r fa ta fb tb
theorem ResOut.mono {w : World} {all all' : Led} {r : Value} {fa : Fo} {ta : Th} {fb : Fo} {tb : Th} (h : ResOut w all r fa ta fb tb) (hs : ∀ p ∈ all, p ∈ all') : ResOut w all' r fa ta fb tb := by
  obtain ⟨tp, rd, pd, n, e, a, b, c⟩ := h
  exact ⟨tp, rd, pd, n, e, hs _ a, b.mono hs, c.mono hs⟩
end
section
section
variable {M : Model} {A : Around} {E : Value → Shared → Prop} {h₀ : Heap} {L a : Addr} {cn : Str} {cs : Scope} {ccd : Value} {cl : List (Str × Addr)} {h1 : Heap} {gs : Array GenState} {dr : Drawn} {t1 : Nat} {os : OsState} {news : Led}
section
variable {Q : Unit → Shared → Prop} {x : String} {v : Value}
/-- a sign in the context: no store by the lemmas below -/
structure NoSt : Prop where
/-- a name stored: the frame stays a written list -/
theorem st_locs {l : List (String × Value)} (F : Fr h₀ L h1 (locs l)) (N : News h₀ L h1 news)
    (h : ∀ h', Fr h₀ L h' (locs ((x, v) :: l)) → News h₀ L h' news → Q () ⟨h', gs, dr, t1 + 1, os⟩)
    (hk : cs.kind = .function) (hx : (envX cn cs L a ccd cl).kindOf (Str.ofString x) = some .local) : wpAny M A (storeName (envX cn cs L a ccd cl) (Str.ofString x) v) Q E ⟨h1, gs, dr, t1, os⟩ :=
  storeX_L (s := ⟨h1, gs, dr, t1, os⟩) F N h hk hx
theorem st_on {b : Str → Option Value} {l : List (String × Value)} (F : Fr h₀ L h1 (locsOn b l)) (N : News h₀ L h1 news)
    (h : ∀ h', Fr h₀ L h' (locsOn b ((x, v) :: l)) → News h₀ L h' news → Q () ⟨h', gs, dr, t1 + 1, os⟩)
    (hk : cs.kind = .function) (hx : (envX cn cs L a ccd cl).kindOf (Str.ofString x) = some .local) : wpAny M A (storeName (envX cn cs L a ccd cl) (Str.ofString x) v) Q E ⟨h1, gs, dr, t1, os⟩ :=
  storeX_L (s := ⟨h1, gs, dr, t1, os⟩) F N h hk hx
theorem st_any {m : Str → Option Value} (F : Fr h₀ L h1 m) (N : News h₀ L h1 news)
    (h : ∀ h', Fr h₀ L h' (locsOn m [(x, v)]) → News h₀ L h' news → Q () ⟨h', gs, dr, t1 + 1, os⟩)
    (hk : cs.kind = .function) (hx : (envX cn cs L a ccd cl).kindOf (Str.ofString x) = some .local) : wpAny M A (storeName (envX cn cs L a ccd cl) (Str.ofString x) v) Q E ⟨h1, gs, dr, t1, os⟩ :=
  storeX_L (s := ⟨h1, gs, dr, t1, os⟩) F N h hk hx
end
end
/-- expressions that are a local or a constant alone -/
inductive Sim | name (x : Str) | int (i : Int) | str (x : Str)
noncomputable def sim : Expr → Option Sim
  | .Name x _ => some (.name x)
  | .Constant (.int i) _ _ => some (.int i)
  | .Constant (.str x) _ _ => some (.str x)
  | _ => none
inductive SimIs : Expr → Sim → Prop
  | name (x : Str) (p : Pos) : SimIs (.Name x p) (.name x)
  | int (i : Int) (k : Nat) (p : Pos) : SimIs (.Constant (.int i) k p) (.int i)
  | str (x : Str) (k : Nat) (p : Pos) : SimIs (.Constant (.str x) k p) (.str x)
theorem sim_is {e : Expr} {q : Sim} (h : sim e = some q) : SimIs e q := by
  cases e with
  | Name x p => cases h; constructor
  | Constant c k p =>
    cases c with
    | int i => cases h; constructor
    | str i => cases h; constructor
    | _ => exact nomatch h
  | _ => exact nomatch h
noncomputable def simVal (m : Str → Option Value) : Sim → Nat → Option (Value × Nat)
  | .name x, t => match m x with
    | some v => some (v, t)
    | none => none
  | .int i, t => some (.int i t, t + 1)
  | .str x, t => some (.str x t, t + 1)
noncomputable def simOk (env : Env) : Sim → Bool
  | .name x => (env.kindOf x == some .local) && !(x == ("__debug__" : Str))
  | _ => true
noncomputable def argVals (m : Str → Option Value) : List Expr → Nat → Option (List Value × Nat)
  | [], t => some ([], t)
  | e :: r, t => match sim e with
    | none => none
    | some q => match simVal m q t with
      | none => none
      | some (v, t1) => match argVals m r t1 with
        | none => none
        | some (vs, t2) => some (v :: vs, t2)
noncomputable def argOk (env : Env) : List Expr → Bool
  | [] => true
  | e :: r => match sim e with
    | none => false
    | some q => simOk env q && argOk env r
section
variable {M : Model} {A : Around} {E : Value → Shared → Prop} {K : Frag} {h₀ : Heap} {L a : Addr} {m mg mb : Str → Option Value} {cn : Str} {cs : Scope} {ccd : Value} {cl : List (Str × Addr)} {p : Program} {loose : List Str} {h1 : Heap} {gs : Array GenState} {dr : Drawn} {t1 t2 t3 : Nat} {os : OsState} {pos apos : Pos} {f u v i : Value} {e k : Expr} {es : List Expr} {vs : List Value} {x : Str} {q : Sim}
theorem sim_star {env : Env} {r : List Expr} (h : SimIs e q) : starEach (e :: r) env = (false, eval e env) :: starEach r env := by
  cases h <;> rfl
theorem args_none {env : Env} {pos : Pos} : ∀ {es : List Expr}, argOk env es = true → (backTo pos (starEach es env)).any (·.1) = false
  | [], _ => rfl
  | e :: r, h => by
    unfold argOk at h
    cases hs : sim e with
    | none => rw [hs] at h; cases h
    | some q =>
      rw [hs] at h
      rw [sim_star (sim_is hs)]
      exact args_none (es := r) (Bool.and_eq_true_iff.mp h).2
theorem sim_one (F : Fr h₀ L h1 m) (hk : cs.kind = .function) {Q : Value → Shared → Prop} (hs : SimIs e q) (ho : simOk (envX cn cs L a ccd cl) q = true) (hv : simVal m q t1 = some (v, t2)) (h : Q v ⟨h1, gs, dr, t2, os⟩) :
    wpAny M A (eval e (envX cn cs L a ccd cl)) Q E ⟨h1, gs, dr, t1, os⟩ := by
  cases hs with
  | name x p =>
    have h2 := Bool.and_eq_true_iff.mp ho
    have h3 : m x = some v ∧ t1 = t2 := by
      change (match m x with | some v => some (v, t1) | none => none) = some (v, t2) at hv
      cases hm : m x with
      | none => rw [hm] at hv; cases hv
      | some w => rw [hm] at hv; cases hv; exact ⟨rfl, rfl⟩
    obtain ⟨hm, rfl⟩ := h3
    exact nameX_L (s := ⟨h1, gs, dr, t1, os⟩) F hm h hk (beq_iff_eq.mp h2.1) (by simpa using h2.2)
  | int i k p => cases hv; exact wpAny_Constant_int (s := ⟨h1, gs, dr, t1, os⟩) h
  | str x k p => cases hv; exact Constant_str (s := ⟨h1, gs, dr, t1, os⟩) h
theorem arg_cut {env : Env} {r : List Expr} (ho : argOk env (e :: r) = true) (hv : argVals m (e :: r) t1 = some (vs, t2)) :
    ∃ q v t3 ws, SimIs e q ∧ simOk env q = true ∧ argOk env r = true ∧ simVal m q t1 = some (v, t3) ∧ argVals m r t3 = some (ws, t2) ∧ vs = v :: ws := by
  unfold argOk at ho
  unfold argVals at hv
  cases hs : sim e with
  | none => rw [hs] at ho; cases ho
  | some q =>
    rw [hs] at ho hv
    have h2 := Bool.and_eq_true_iff.mp ho
    cases h3 : simVal m q t1 with
    | none => simp only [h3] at hv; cases hv
    | some y =>
      cases h4 : argVals m r y.2 with
      | none => simp only [h3, h4] at hv; cases hv
      | some z => simp only [h3, h4] at hv; cases hv; exact ⟨q, y.1, y.2, z.1, sim_is hs, h2.1, h2.2, h3, h4, rfl⟩
theorem args_all (F : Fr h₀ L h1 m) (hk : cs.kind = .function) : ∀ {es : List Expr} {t1 : Nat} {vs : List Value} {Q : List Value → Shared → Prop},
    argOk (envX cn cs L a ccd cl) es = true → argVals m es t1 = some (vs, t2) → Q vs ⟨h1, gs, dr, t2, os⟩ →
    wpAny M A (spliced (backTo pos (starEach es (envX cn cs L a ccd cl)))) Q E ⟨h1, gs, dr, t1, os⟩
  | [], t1, vs, Q, _, hv, h => by cases hv; exact args_nil h
  | e :: r, t1, vs, Q, ho, hv, h => by
    obtain ⟨q, v, t3, ws, h2, h3, h4, h5, h6, rfl⟩ := arg_cut ho hv
    exact args_cons (sim_one F hk h2 h3 h5 (args_all F hk h4 h6 h)) (sim_star h2)
variable {Q : Value → Shared → Prop}
theorem one_all (F : Fr h₀ L h1 m) (hk : cs.kind = .function) (ho : argOk (envX cn cs L a ccd cl) [e] = true) (hv : argVals m [e] t1 = some ([v], t2)) (h : Q v ⟨h1, gs, dr, t2, os⟩) :
    wpAny M A (eval e (envX cn cs L a ccd cl)) Q E ⟨h1, gs, dr, t1, os⟩ := by
  obtain ⟨q, v, t3, ws, h2, h3, h4, h5, h6, h7⟩ := arg_cut ho hv
  cases h6; cases h7
  exact sim_one F hk h2 h3 h5 h
theorem two_all (F : Fr h₀ L h1 m) (hk : cs.kind = .function) (ho : argOk (envX cn cs L a ccd cl) [e, k] = true) (hv : argVals m [e, k] t1 = some ([v, i], t2)) (h : Q i ⟨h1, gs, dr, t2, os⟩) :
    ∃ t3 q, SimIs e q ∧ simOk (envX cn cs L a ccd cl) q = true ∧ simVal m q t1 = some (v, t3) ∧ wpAny M A (eval k (envX cn cs L a ccd cl)) Q E ⟨h1, gs, dr, t3, os⟩ := by
  obtain ⟨q, v, t3, ws, h2, h3, h4, h5, h6, h7⟩ := arg_cut ho hv
  cases h7
  exact ⟨t3, q, h2, h3, h5, one_all F hk h4 h6 h⟩
theorem sub_all (F : Fr h₀ L h1 m) (hk : cs.kind = .function) (ho : argOk (envX cn cs L a ccd cl) [e, k] = true) (hv : argVals m [e, k] t1 = some ([v, i], t2))
    (h : wpAny M A (subscriptTail e k v i) Q E ⟨h1, gs, dr, t2, os⟩) : wpAny M A (eval (.Subscript e k pos) (envX cn cs L a ccd cl)) Q E ⟨h1, gs, dr, t1, os⟩ := by
  obtain ⟨t3, q, h2, h3, h5, h6⟩ := two_all (E := E) (Q := fun i s₂ => wpAny M A (subscriptTail e k v i) Q E s₂) F hk ho hv h
  exact Subscript_ (sim_one F hk h2 h3 h5 h6)
theorem call_simple (F : Fr h₀ L h1 m) (X : K.In h₀) (hk : cs.kind = .function) (hf : keepIn K f = true) (ho : argOk (envX cn cs L a ccd cl) es = true) (hv : argVals m es t1 = some (vs, t2))
    (h : wpAny M A (call f vs) Q E ⟨h1, gs, dr, t2, os⟩) : wpAny M A (callWith pos f [] (backTo pos (starEach es (envX cn cs L a ccd cl))) []) Q E ⟨h1, gs, dr, t1, os⟩ := by
  cases es with
  | nil => cases hv; exact callWith_K0 (s := ⟨h1, gs, dr, t1, os⟩) (X.keeps F.keep) hf h
  | cons e r =>
    obtain ⟨q, v, t3, ws, h2, h3, h4, h5, h6, h7⟩ := arg_cut ho hv
    exact callWith_K X hf (args_all F hk ho hv ⟨X.keeps F.keep, h⟩) (sim_star h2) (args_none h4)
theorem call_self (F : Fr h₀ L h1 m) (X : K.In h₀) (hk : cs.kind = .function) (hf : keepIn K f = true) (ho : argOk (envX cn cs L a ccd cl) es = true) (hv : argVals m es t1 = some (vs, t2))
    (h : wpAny M A (call f (u :: vs)) Q E ⟨h1, gs, dr, t2, os⟩) : wpAny M A (callWith pos f [u] (backTo pos (starEach es (envX cn cs L a ccd cl))) []) Q E ⟨h1, gs, dr, t1, os⟩ := by
  cases es with
  | nil => cases hv; exact callWith_K0 (s := ⟨h1, gs, dr, t1, os⟩) (X.keeps F.keep) hf h
  | cons e r =>
    obtain ⟨q, v, t3, ws, h2, h3, h4, h5, h6, h7⟩ := arg_cut ho hv
    exact callWith_K X hf (args_all F hk ho hv ⟨X.keeps F.keep, h⟩) (sim_star h2) (args_none h4)
/-- a call of a def of the text by its name, with simple arguments -/
theorem call_glob (F : Fr h₀ L h1 m) (X : K.In h₀) (T : TopRead p loose mg mb h₀) (hk : cs.kind = .function) (hx : (envX cn cs L a ccd cl).kindOf x = some .globalImplicit) (hd : (x == ("__debug__" : Str)) = false)
    (e : nsIn K mainGlobals x = some (some f)) (hf : keepIn K f = true) (ho : argOk (envX cn cs L a ccd cl) es = true) (hv : argVals m es t1 = some (vs, t2))
    (h : wpAny M A (call f vs) Q E ⟨h1, gs, dr, t2, os⟩) : wpAny M A (eval (.Call (.Name x apos) es [] pos) (envX cn cs L a ccd cl)) Q E ⟨h1, gs, dr, t1, os⟩ :=
  Call_ (nameX_K (s := ⟨h1, gs, dr, t1, os⟩) F X T e (call_simple F X hk hf ho hv h) hk hx hd)
/-- the same, with arguments of any kind -/
theorem call_glob2 {s : Shared} {r : List Expr} (F : Fr h₀ L s.heap m) (X : K.In h₀) (T : TopRead p loose mg mb h₀) (hk : cs.kind = .function) (hx : (envX cn cs L a ccd cl).kindOf x = some .globalImplicit) (hd : (x == ("__debug__" : Str)) = false)
    (ex : nsIn K mainGlobals x = some (some f)) (hf : keepIn K f = true) (he : starEach (e :: r) (envX cn cs L a ccd cl) = (false, eval e (envX cn cs L a ccd cl)) :: starEach r (envX cn cs L a ccd cl)) (hp : (backTo pos (starEach r (envX cn cs L a ccd cl))).any (·.1) = false)
    (h : wpAny M A (spliced (backTo pos (starEach (e :: r) (envX cn cs L a ccd cl)))) (fun vs s₁ => K.In s₁.heap ∧ wpAny M A (call f vs) Q E s₁) E s) : wpAny M A (eval (.Call (.Name x apos) (e :: r) [] pos) (envX cn cs L a ccd cl)) Q E s :=
  Call_ (nameX_K F X T ex (callWith_K X hf h he hp) hk hx hd)
end
/-- a walk's aim as a variable of its own, known to the walk by its name -/
noncomputable def Aim {α : Type} (P : α → Shared → Prop) (x : α) (s : Shared) : Prop := P x s
theorem aim {M : Model} {A : Around} {α : Type} {t : Sem α} {Q : α → Shared → Prop} {E : Value → Shared → Prop} {s : Shared} (h : ∀ P : α → Shared → Prop, (∀ x s, Q x s → P x s) → wpAny M A t (Aim P) E s) : wpAny M A t Q E s := h Q fun _ _ h => h
/-- both aims named -/
theorem foldE {M : Model} {A : Around} {α : Type} {t : Sem α} {Q : α → Shared → Prop} {E : Value → Shared → Prop} {s : Shared} (h : let Q' := Q; let E' := E; wpAny M A t Q' E' s) : wpAny M A t Q E s := h
theorem Aim.out {α : Type} {Q P : α → Shared → Prop} {x : α} {s : Shared} (h : ∀ x s, Q x s → P x s) (q : Q x s) : Aim P x s := h x s q
section
variable {M : Model} {A : Around} {E : Value → Shared → Prop} {h₀ : Heap} {L a : Addr} {m : Str → Option Value} {cn : Str} {cs : Scope} {ccd : Value} {cl : List (Str × Addr)} {h1 : Heap} {gs : Array GenState} {dr : Drawn} {t1 t2 : Nat} {os : OsState} {pos : Pos} {e k : Expr} {v i : Value} {es : List Expr} {vs : List Value}
theorem cmp_true {op : CmpOp} {whole : Sem Value} {Q : Bool → Shared → Prop} (F : Fr h₀ L h1 m) (hk : cs.kind = .function) (ho : argOk (envX cn cs L a ccd cl) [e, k] = true) (hv : argVals m [e, k] t1 = some ([v, i], t2)) (hm : behindInMarks op k = false)
    (h : wpAny M A (compareOp op v i) (fun c s₃ => wpAny M A (truthy c) Q E s₃) E ⟨h1, gs, dr, t2, os⟩) : wpAny M A (isTrue (.Compare e [op] [k] pos) (envX cn cs L a ccd cl) whole) Q E ⟨h1, gs, dr, t1, os⟩ := by
  obtain ⟨t3, q, h2, h3, h5, h6⟩ := two_all (E := E) (Q := fun i s₂ => wpAny M A (compareOp op v i) (fun c s₃ => wpAny M A (truthy c) Q E s₃) E s₂) F hk ho hv h
  exact wpAny_isTrue_Compare1 (sim_one F hk h2 h3 h5 h6) hm
theorem tup_all {Q : Value → Shared → Prop} {c : Nat} (F : Fr h₀ L h1 m) (hk : cs.kind = .function) (ho : argOk (envX cn cs L a ccd cl) es = true) (hv : argVals m es t1 = some (vs, t2))
    (h : wpAny M A (newTuple vs) Q E ⟨h1, gs, dr, t2, os⟩) : wpAny M A (eval (.Tuple es c pos) (envX cn cs L a ccd cl)) Q E ⟨h1, gs, dr, t1, os⟩ := Tuple_ (args_all F hk ho hv h)
theorem list_all {Q : Value → Shared → Prop} (F : Fr h₀ L h1 m) (hk : cs.kind = .function) (ho : argOk (envX cn cs L a ccd cl) es = true) (hv : argVals m es t1 = some (vs, t2))
    (h : wpAny M A (newList vs) Q E ⟨h1, gs, dr, t2, os⟩) : wpAny M A (eval (.List es pos) (envX cn cs L a ccd cl)) Q E ⟨h1, gs, dr, t1, os⟩ := List_ (args_all F hk ho hv h)
end
section
variable {M : Model} {A : Around} {E : Value → Shared → Prop} {env : Env} {h₀ h1 : Heap} {L : Addr} {m : Str → Option Value} {gs : Array GenState} {dr : Drawn} {t1 : Nat} {os : OsState} {news : Led} {Q : Value → Shared → Prop} {pos : Pos} {vs : List Value}
theorem fl_int {i : Int} {k : Nat} (h : Q (.int i t1) ⟨h1, gs, dr, t1 + 1, os⟩) : wpAny M A (eval (.Constant (.int i) k pos) env) Q E ⟨h1, gs, dr, t1, os⟩ := wpAny_Constant_int (s := ⟨h1, gs, dr, t1, os⟩) h
theorem fl_str {x : Str} {k : Nat} (h : Q (.str x t1) ⟨h1, gs, dr, t1 + 1, os⟩) : wpAny M A (eval (.Constant (.str x) k pos) env) Q E ⟨h1, gs, dr, t1, os⟩ := Constant_str (s := ⟨h1, gs, dr, t1, os⟩) h
theorem fl_list (F : Fr h₀ L h1 m) (N : News h₀ L h1 news) (h : ∀ l h', Fr h₀ L h' m → News h₀ L h' ((l, W.listOf vs.toArray 0) :: news) → (∀ p ∈ news, p.1 < l) → Q (.ref l) ⟨h', gs, dr, t1, os⟩) (hsz : vs.length ≤ sizeLine) :
    wpAny M A (newList vs) Q E ⟨h1, gs, dr, t1, os⟩ := newList_K (s := ⟨h1, gs, dr, t1, os⟩) F N h hsz
theorem fl_tup (F : Fr h₀ L h1 m) (N : News h₀ L h1 news) (h : ∀ D h', Fr h₀ L h' m → News h₀ L h' ((D, ({ cls := .type "tuple", data := .seq vs.toArray } : Obj)) :: news) → (∀ p ∈ news, p.1 < D) → Q (.ref D) ⟨h', gs, dr, t1, os⟩) (hz : vs.length ≤ sizeLine) :
    wpAny M A (newTuple vs) Q E ⟨h1, gs, dr, t1, os⟩ := kup_newTuple (s := ⟨h1, gs, dr, t1, os⟩) F N h hz
theorem fl_dict {prog : Program} {w : World} (F : Fr h₀ L h1 m) (N : News h₀ L h1 news) (hbig : h₀.NoLimit)
    (k : ∀ d h' o, Fr h₀ L h' m → News h₀ L h' ((d, o) :: news) → (∀ p ∈ news, p.1 < d) → (d == sysModules) = false → o.IsDictOf (strKind prog w) [] → o.IsDictOf (intKind prog w) [] → Q (.ref d) ⟨h', gs, dr, t1, os⟩) :
    wpAny (model prog w) A (eval (.Dict [] [] pos) env) Q E ⟨h1, gs, dr, t1, os⟩ := newDict_K (s := ⟨h1, gs, dr, t1, os⟩) F N hbig fun d h' o F N l a b _ c _ => k d h' o F N l a b c
theorem fl_set {prog : Program} {w : World} {K : Type} [DecidableEq K] {knd : KeyKind prog w K} {k : K} {key v : Value} {kvs : List (K × Value)} {d : Addr} {o : Obj} {g : Obj → Led} {Q : Unit → Shared → Prop} (F : Fr h₀ L h1 m) (N : News h₀ L h1 news) (U : UpdF d o news g) (hd : o.IsDictOf knd kvs) (hkey : knd.is k key = true) (hsz : kvs.length ≤ sizeLine)
    (h : ∀ h' o', Fr h₀ L h' m → News h₀ L h' (g o') → o'.IsDictOf knd (stored kvs k v) → Q () ⟨h', gs, dr, t1 + 1, os⟩) : wpAny (model prog w) A (setItem (.ref d) key v) Q E ⟨h1, gs, dr, t1, os⟩ := kda_set (s := ⟨h1, gs, dr, t1, os⟩) F N U hd hkey hsz h
end
/-- a goal at which the walk waits -/
noncomputable def Hold (P : Prop) : Prop := P
theorem hold_of {P : Prop} (h : Hold P) : P := h
noncomputable def Hold2 (P : Prop) : Prop := P
theorem hold2_of {P : Prop} (h : Hold2 P) : P := h
theorem and_in {K : Frag} {h : Heap} {b : Prop} (x : K.In h) (k : b) : K.In h ∧ b := ⟨x, k⟩
end
section
section
variable {w : World} {nn : Nat} {f : Addr} {vs : List Value} {mean : ExcName → Option Value} {mg mb : Str → Option Value} {dp un : Nat} {gd : Option (List Code)} {cn : Str} {cs : Scope} {ad : Addr} {ccd : Value} {cl : List (Str × Addr)} {outer : List Env} {A₀ : Around} {base h₀ : Heap} {L : Addr} {m : Str → Option Value} {h1 : Heap} {gs : Array GenState} {dr : Drawn} {t1 : Nat} {os : OsState} {Q E : Value → Shared → Prop} {a b c d : Sort _} {news : Led}
theorem useMk1 {od : a → Obj} {ox : Addr → Obj} (S : Spec w nn f vs news (fun r n => (∃ x d t0, r = .ref x ∧ n = (x, ox d) :: (d, od t0) :: news ∧ (∀ p ∈ news, p.1 < d) ∧ d < x)))
  (K : ∀ x d t0, (∀ p ∈ news, p.1 < d) → @LT.lt Nat _ d x → (∀ p ∈ (d, od t0) :: news, p.1 < x) → ∀ (h9 : Heap) (t9 : Nat), Fr h₀ L h9 m → News h₀ L h9 ((x, ox d) :: (d, od t0) :: news) → Q (.ref x) ⟨h9, gs, dr, t9, os⟩) (B : Below A₀ base outer h₀) (F : Fr h₀ L h1 m) (X : (KH w.params).In h₀) (N : News h₀ L h1 news) (T : Top VW LO mean mg mb h₀) (hk : cs.kind = .function) (hd : dp + nn < recursionLimit) (hu : un + 8 * nn < cLine) :
  wpAny (model PP w) (ktrTop dp un gd cn cs L ad ccd cl outer) (call (.ref f) vs) Q E ⟨h1, gs, dr, t1, os⟩ := Spec.use2 S (elMk1 K) B F X N T hk hd hu
theorem useMk2 {od : a → b → Obj} {ox : Addr → Obj} (S : Spec w nn f vs news (fun r n => (∃ x d t0 t1, r = .ref x ∧ n = (x, ox d) :: (d, od t0 t1) :: news ∧ (∀ p ∈ news, p.1 < d) ∧ d < x)))
  (K : ∀ x d t0 t1, (∀ p ∈ news, p.1 < d) → @LT.lt Nat _ d x → (∀ p ∈ (d, od t0 t1) :: news, p.1 < x) → ∀ (h9 : Heap) (t9 : Nat), Fr h₀ L h9 m → News h₀ L h9 ((x, ox d) :: (d, od t0 t1) :: news) → Q (.ref x) ⟨h9, gs, dr, t9, os⟩) (B : Below A₀ base outer h₀) (F : Fr h₀ L h1 m) (X : (KH w.params).In h₀) (N : News h₀ L h1 news) (T : Top VW LO mean mg mb h₀) (hk : cs.kind = .function) (hd : dp + nn < recursionLimit) (hu : un + 8 * nn < cLine) :
  wpAny (model PP w) (ktrTop dp un gd cn cs L ad ccd cl outer) (call (.ref f) vs) Q E ⟨h1, gs, dr, t1, os⟩ := Spec.use2 S (elMk2 K) B F X N T hk hd hu
theorem useMk4 {od : a → b → c → d → Obj} {ox : Addr → Obj} (S : Spec w nn f vs news (fun r n => (∃ x e t0 t1 t2 t3, r = .ref x ∧ n = (x, ox e) :: (e, od t0 t1 t2 t3) :: news ∧ (∀ p ∈ news, p.1 < e) ∧ e < x)))
  (K : ∀ x e t0 t1 t2 t3, (∀ p ∈ news, p.1 < e) → @LT.lt Nat _ e x → (∀ p ∈ (e, od t0 t1 t2 t3) :: news, p.1 < x) → ∀ (h9 : Heap) (t9 : Nat), Fr h₀ L h9 m → News h₀ L h9 ((x, ox e) :: (e, od t0 t1 t2 t3) :: news) → Q (.ref x) ⟨h9, gs, dr, t9, os⟩) (B : Below A₀ base outer h₀) (F : Fr h₀ L h1 m) (X : (KH w.params).In h₀) (N : News h₀ L h1 news) (T : Top VW LO mean mg mb h₀) (hk : cs.kind = .function) (hd : dp + nn < recursionLimit) (hu : un + 8 * nn < cLine) :
  wpAny (model PP w) (ktrTop dp un gd cn cs L ad ccd cl outer) (call (.ref f) vs) Q E ⟨h1, gs, dr, t1, os⟩ := Spec.use2 S (elMk4 K) B F X N T hk hd hu
theorem useDraw {lim : Int} {ob : Tok → Obj} {g : Obj → Led} (S : Spec w nn f vs news (fun r n => (∃ o', (∃ v tv tk', 0 ≤ v ∧ v < lim ∧ r = .int v tv ∧ o' = ob tk') ∧ n = g o')))
  (K : ∀ v tv tk', 0 ≤ v → v < lim → ∀ (h9 : Heap) (t9 : Nat), Fr h₀ L h9 m → News h₀ L h9 (g (ob tk')) → Q (.int v tv) ⟨h9, gs, dr, t9, os⟩) (B : Below A₀ base outer h₀) (F : Fr h₀ L h1 m) (X : (KH w.params).In h₀) (N : News h₀ L h1 news) (T : Top VW LO mean mg mb h₀) (hk : cs.kind = .function) (hd : dp + nn < recursionLimit) (hu : un + 8 * nn < cLine) :
  wpAny (model PP w) (ktrTop dp un gd cn cs L ad ccd cl outer) (call (.ref f) vs) Q E ⟨h1, gs, dr, t1, os⟩ := Spec.use2 S (elDraw K) B F X N T hk hd hu
theorem useEq {v : Value} (S : Spec w nn f vs news (fun r n => (n = news ∧ r = v)))
  (K : ∀ (h9 : Heap) (t9 : Nat), Fr h₀ L h9 m → News h₀ L h9 news → Q v ⟨h9, gs, dr, t9, os⟩) (B : Below A₀ base outer h₀) (F : Fr h₀ L h1 m) (X : (KH w.params).In h₀) (N : News h₀ L h1 news) (T : Top VW LO mean mg mb h₀) (hk : cs.kind = .function) (hd : dp + nn < recursionLimit) (hu : un + 8 * nn < cLine) :
  wpAny (model PP w) (ktrTop dp un gd cn cs L ad ccd cl outer) (call (.ref f) vs) Q E ⟨h1, gs, dr, t1, os⟩ := Spec.use2 S (elEq K) B F X N T hk hd hu
theorem useKind {v : a → Value} (S : Spec w nn f vs news (fun r n => (n = news ∧ ∃ x, r = v x)))
  (K : ∀ x, ∀ (h9 : Heap) (t9 : Nat), Fr h₀ L h9 m → News h₀ L h9 news → Q (v x) ⟨h9, gs, dr, t9, os⟩) (B : Below A₀ base outer h₀) (F : Fr h₀ L h1 m) (X : (KH w.params).In h₀) (N : News h₀ L h1 news) (T : Top VW LO mean mg mb h₀) (hk : cs.kind = .function) (hd : dp + nn < recursionLimit) (hu : un + 8 * nn < cLine) :
  wpAny (model PP w) (ktrTop dp un gd cn cs L ad ccd cl outer) (call (.ref f) vs) Q E ⟨h1, gs, dr, t1, os⟩ := Spec.use2 S (elKind K) B F X N T hk hd hu
theorem useNum {v : Value} (S : Spec w nn f vs news (fun r n => ((∃ d o, n = (d, o) :: news ∧ ∀ p ∈ news, p.1 < d) ∧ r = v)))
  (K : ∀ d o, (∀ p ∈ news, p.1 < d) → ∀ (h9 : Heap) (t9 : Nat), Fr h₀ L h9 m → News h₀ L h9 ((d, o) :: news) → Q v ⟨h9, gs, dr, t9, os⟩) (B : Below A₀ base outer h₀) (F : Fr h₀ L h1 m) (X : (KH w.params).In h₀) (N : News h₀ L h1 news) (T : Top VW LO mean mg mb h₀) (hk : cs.kind = .function) (hd : dp + nn < recursionLimit) (hu : un + 8 * nn < cLine) :
  wpAny (model PP w) (ktrTop dp un gd cn cs L ad ccd cl outer) (call (.ref f) vs) Q E ⟨h1, gs, dr, t1, os⟩ := Spec.use2 S (elNum K) B F X N T hk hd hu
theorem useMakes {Ab : Led → Prop} {v : a → Value} {P : Led → a → Prop} (S : Spec w nn f vs news (fun r n => (∃ add, n = add ++ news ∧ Ab add ∧ ∃ x, r = v x ∧ P add x)))
  (K : ∀ add x, Ab add → P add x → ∀ (h9 : Heap) (t9 : Nat), Fr h₀ L h9 m → News h₀ L h9 (add ++ news) → Q (v x) ⟨h9, gs, dr, t9, os⟩) (B : Below A₀ base outer h₀) (F : Fr h₀ L h1 m) (X : (KH w.params).In h₀) (N : News h₀ L h1 news) (T : Top VW LO mean mg mb h₀) (hk : cs.kind = .function) (hd : dp + nn < recursionLimit) (hu : un + 8 * nn < cLine) :
  wpAny (model PP w) (ktrTop dp un gd cn cs L ad ccd cl outer) (call (.ref f) vs) Q E ⟨h1, gs, dr, t1, os⟩ := Spec.use2 S (elMakes K) B F X N T hk hd hu
theorem useAdd {Ab : Led → Prop} {P : Value → Led → Prop} (S : Spec w nn f vs news (fun r n => (∃ add, n = add ++ news ∧ Ab add ∧ P r add)))
  (K : ∀ r9 add, Ab add → P r9 add → ∀ (h9 : Heap) (t9 : Nat), Fr h₀ L h9 m → News h₀ L h9 (add ++ news) → Q r9 ⟨h9, gs, dr, t9, os⟩) (B : Below A₀ base outer h₀) (F : Fr h₀ L h1 m) (X : (KH w.params).In h₀) (N : News h₀ L h1 news) (T : Top VW LO mean mg mb h₀) (hk : cs.kind = .function) (hd : dp + nn < recursionLimit) (hu : un + 8 * nn < cLine) :
  wpAny (model PP w) (ktrTop dp un gd cn cs L ad ccd cl outer) (call (.ref f) vs) Q E ⟨h1, gs, dr, t1, os⟩ := Spec.use2 S (elAdd K) B F X N T hk hd hu
theorem useTup {Ab : Led → Prop} {v : a → Value} {P : Led → a → b → c → d → Prop} (S : Spec w nn f vs news (fun r n => (∃ add, n = add ++ news ∧ Ab add ∧ ∃ x y z u, r = v x ∧ P add x y z u)))
  (K : ∀ add x y z u, Ab add → P add x y z u → ∀ (h9 : Heap) (t9 : Nat), Fr h₀ L h9 m → News h₀ L h9 (add ++ news) → Q (v x) ⟨h9, gs, dr, t9, os⟩) (B : Below A₀ base outer h₀) (F : Fr h₀ L h1 m) (X : (KH w.params).In h₀) (N : News h₀ L h1 news) (T : Top VW LO mean mg mb h₀) (hk : cs.kind = .function) (hd : dp + nn < recursionLimit) (hu : un + 8 * nn < cLine) :
  wpAny (model PP w) (ktrTop dp un gd cn cs L ad ccd cl outer) (call (.ref f) vs) Q E ⟨h1, gs, dr, t1, os⟩ := Spec.use2 S (elTup K) B F X N T hk hd hu
theorem useFault {P : Obj → Prop} {O : Addr → Prop} (S : Spec w nn f vs news (fun r n => (∃ e oe, r = .ref e ∧ n = (e, oe) :: news ∧ P oe ∧ O e)))
  (K : ∀ e oe, P oe → O e → ∀ (h9 : Heap) (t9 : Nat), Fr h₀ L h9 m → News h₀ L h9 ((e, oe) :: news) → Q (.ref e) ⟨h9, gs, dr, t9, os⟩) (B : Below A₀ base outer h₀) (F : Fr h₀ L h1 m) (X : (KH w.params).In h₀) (N : News h₀ L h1 news) (T : Top VW LO mean mg mb h₀) (hk : cs.kind = .function) (hd : dp + nn < recursionLimit) (hu : un + 8 * nn < cLine) :
  wpAny (model PP w) (ktrTop dp un gd cn cs L ad ccd cl outer) (call (.ref f) vs) Q E ⟨h1, gs, dr, t1, os⟩ := Spec.use2 S (elFault K) B F X N T hk hd hu
theorem useCont {P : Addr → Prop} (S : Spec w nn f vs news (fun r n => (n = news ∧ ∃ l, r = .ref l ∧ P l)))
  (K : ∀ l, P l → ∀ (h9 : Heap) (t9 : Nat), Fr h₀ L h9 m → News h₀ L h9 news → Q (.ref l) ⟨h9, gs, dr, t9, os⟩) (B : Below A₀ base outer h₀) (F : Fr h₀ L h1 m) (X : (KH w.params).In h₀) (N : News h₀ L h1 news) (T : Top VW LO mean mg mb h₀) (hk : cs.kind = .function) (hd : dp + nn < recursionLimit) (hu : un + 8 * nn < cLine) :
  wpAny (model PP w) (ktrTop dp un gd cn cs L ad ccd cl outer) (call (.ref f) vs) Q E ⟨h1, gs, dr, t1, os⟩ := Spec.use2 S (elCont K) B F X N T hk hd hu
theorem useOne {ol : Obj} (S : Spec w nn f vs news (fun r n => (∃ l, r = .ref l ∧ n = (l, ol) :: news ∧ ∀ p ∈ news, p.1 < l)))
  (K : ∀ l, (∀ p ∈ news, p.1 < l) → ∀ (h9 : Heap) (t9 : Nat), Fr h₀ L h9 m → News h₀ L h9 ((l, ol) :: news) → Q (.ref l) ⟨h9, gs, dr, t9, os⟩) (B : Below A₀ base outer h₀) (F : Fr h₀ L h1 m) (X : (KH w.params).In h₀) (N : News h₀ L h1 news) (T : Top VW LO mean mg mb h₀) (hk : cs.kind = .function) (hd : dp + nn < recursionLimit) (hu : un + 8 * nn < cLine) :
  wpAny (model PP w) (ktrTop dp un gd cn cs L ad ccd cl outer) (call (.ref f) vs) Q E ⟨h1, gs, dr, t1, os⟩ := Spec.use2 S (elOne K) B F X N T hk hd hu
end
end
section
/-- what a turn of a loop must show at its end -/
noncomputable def TurnEnd (h₀ : Heap) (L : Addr) (I : Addr) (it : Obj) (J : (Str → Option Value) → Led → Prop) (Q : Flow → Shared → Prop) (s₁ : Shared) (f : Flow) (s₂ : Shared) : Prop :=
  match f with
  | .ret v => Q (.ret v) s₂
  | .brk => Q .next s₂
  | _ => ∃ h' tk m' news', s₂ = { s₁ with heap := h', toks := tk } ∧ Fr h₀ L h' m' ∧ News h₀ L h' ((I, it) :: news') ∧ (∀ p ∈ news', p.1 ≠ I) ∧ J m' news'
section
variable {prog : Program} {w : World} {A : Around} {E : Value → Shared → Prop} {s : Shared} {env : Env} {h₀ : Heap} {x : Str} {body : List Stmt} {Q : Flow → Shared → Prop}

theorem loopAt_led {I l : Addr} {ol : Obj} {n : Nat} {P : Nat → Value → Prop} {St : Nat → Heap → Prop} {m : Str → Option Value} {news : Led} (W : Walks prog w A I [I, l] [I] n P St)
  (hSt : ∀ i h, St i h → ∃ o, h.get? I = some o) (hst : St 0 s.heap) (F : Fr h₀ env.locals s.heap m) (N : News h₀ env.locals s.heap news) (hI : h₀.get? I = none) (hIL : I ≠ env.locals)
  (hnI : ∀ p ∈ news, p.1 ≠ I) (J : Nat → (Str → Option Value) → Led → Prop) (hj : J 0 m news) (hJl : ∀ i m news, J i m news → (l, ol) ∈ news)
  (turn : ∀ i v m₁ news₁ h tk it, i < n → P i v → J i m₁ news₁ → (∀ p ∈ news₁, p.1 ≠ I) → Fr h₀ env.locals h (fun y => if y = x then some v else m₁ y) → News h₀ env.locals h ((I, it) :: news₁) →
    wpAny (model prog w) A (execs body env) (TurnEnd h₀ env.locals I it (J (i + 1)) Q { s with heap := h, toks := tk }) E { s with heap := h, toks := tk })
  (done : ∀ m₁ news₁ h tk, J n m₁ news₁ → Fr h₀ env.locals h m₁ → News h₀ env.locals h news₁ → Q .next { s with heap := h, toks := tk }) :
  LoopAtV prog w A h₀ env x body Q E (.ref I) s := by
  have hll : (l, ol) ∈ news := hJl 0 m news hj
  refine ⟨I, [I, l], [I], n, P, St, m, news, J, rfl, W, ?_, ?_, ?_, hst, F, N, hj, ?_, ?_⟩
  · intro hm
    rcases List.mem_cons.mp hm with e | hm
    · exact hIL e.symm
    · exact (N _ hll).2.1 (List.mem_singleton.mp hm).symm
  · intro b hb; rw [List.mem_singleton.mp hb]; exact hI
  · intro p hp hm; exact hnI p hp (List.mem_singleton.mp hm)
  · rintro i v m₁ news₁ s₁ own ⟨hh, tk, rfl⟩ hin hP hJ hoff hown hget hall hst₁ F₁ N₁
    obtain ⟨it, hit⟩ := hSt _ _ hst₁
    have hmem := hall I List.mem_cons_self hI it hit
    have N₂ : News h₀ env.locals hh ((I, it) :: news₁) := fun p hp => by
      rcases List.mem_cons.mp hp with rfl | hp
      · exact N₁ _ (List.mem_append_left _ hmem)
      · exact N₁ _ (List.mem_append_right _ hp)
    have hoff' : ∀ p ∈ news₁, p.1 ≠ I := fun p hp e => hoff p hp (List.mem_singleton.mpr e)
    refine wpAny_mono (turn i v m₁ news₁ hh tk it hin hP hJ hoff' F₁ N₂) (fun f s₂ q => ?_) fun _ _ e => e
    have fin : (∃ h' tk' m' news', s₂ = { ({ s with heap := hh, toks := tk } : Shared) with heap := h', toks := tk' } ∧ Fr h₀ env.locals h' m' ∧ News h₀ env.locals h' ((I, it) :: news') ∧ (∀ p ∈ news', p.1 ≠ I) ∧ J (i + 1) m' news') →
        LoopStepU h₀ env.locals [I] own (J (i + 1)) { s with heap := hh, toks := tk } .next s₂ := by
      rintro ⟨h', tk', m', news', e, F', N', ho, hJ'⟩
      refine ⟨rfl, h', tk', m', news', e, F', fun p hp => ?_, fun p hp hm => ho p hp (List.mem_singleton.mp hm), hJ'⟩
      rcases List.mem_append.mp hp with hp | hp
      · have h1 := hget p hp
        rcases List.mem_cons.mp (hown p hp) with e1 | e1
        · have : p = (I, it) := Prod.ext e1 (by rw [e1] at h1; exact (Option.some.inj (hit.symm.trans h1)).symm)
          rw [this]; exact N' _ List.mem_cons_self
        · have e2 := List.mem_singleton.mp e1
          have h2 := (N₁ _ (List.mem_append_right _ (hJl _ _ _ hJ))).1
          have : p = (l, ol) := Prod.ext e2 (by rw [e2] at h1; exact Option.some.inj (h1.symm.trans h2))
          rw [this]; exact N' _ (List.mem_cons_of_mem _ (hJl _ _ _ hJ'))
      · exact N' _ (List.mem_cons_of_mem _ hp)
    cases f with
    | ret v => exact .ret q
    | brk => exact .brk q
    | next => exact .next (fin q)
    | cont => exact .cont (fin q)
  · rintro h' tk m' news' F' N' _ hJ
    exact done m' news' h' tk hJ F' N'

theorem iter_tup0 {l : Addr} {vs : Array Value} {n : Nat} {m : Str → Option Value} {news : Led} (hh : A.handled = none) (F : Fr h₀ env.locals s.heap m) (N : News h₀ env.locals s.heap news)
  (J : Nat → (Str → Option Value) → Led → Prop) (hj : J 0 m news) (hJl : ∀ i m news, J i m news → (l, tupOf vs n) ∈ news)
  (turn : ∀ i v m₁ news₁ h tk I it, i < vs.size → vs[i]? = some v → J i m₁ news₁ → (∀ p ∈ news₁, p.1 ≠ I) → (∀ p ∈ news, p.1 < I) → Fr h₀ env.locals h (fun y => if y = x then some v else m₁ y) → News h₀ env.locals h ((I, it) :: news₁) →
    wpAny (model prog w) A (execs body env) (TurnEnd h₀ env.locals I it (J (i + 1)) Q { s with heap := h, toks := tk }) E { s with heap := h, toks := tk })
  (done : ∀ m₁ news₁ h tk, J vs.size m₁ news₁ → Fr h₀ env.locals h m₁ → News h₀ env.locals h news₁ → Q .next { s with heap := h, toks := tk }) :
  wpAny (model prog w) A (pyIter (.ref l)) (fun it s₂ => LoopAtV prog w A h₀ env x body Q E it s₂) E s := by
  have hm := hJl 0 m news hj
  have ht : s.heap.IsTuple l vs := N.isTup hm
  have hlt : l < s.heap.objs.size := Heap.lt_size (N _ hm).1
  refine wpAny_pyIter_tuple ht ?_
  have WX := Walks.tuple (prog := prog) (w := w) hh s.heap.objs.size l (Nat.ne_of_lt hlt) vs
  refine loopAt_led (ol := tupOf vs n) (s := { s with heap := _ }) WX (fun i h hs => ?_) ⟨⟨_, Heap.get?_push_size _ rfl, rfl, rfl⟩, ?_⟩ (F.push _) (fun p hp => ⟨Heap.get?_push_of_some _ (N p hp).1, (N p hp).2⟩) (next_is_new F) (Nat.ne_of_gt F.ns.lt)
    (fun p hp => Nat.ne_of_lt (Heap.lt_size (N p hp).1)) J hj hJl ?_ done
  · obtain ⟨⟨o, ho, _⟩, _⟩ := hs; exact ⟨o, ho⟩
  · obtain ⟨o, ho, r⟩ := ht; exact ⟨o, Heap.get?_push_of_some _ ho, r⟩
  · intro i v m₁ news₁ h tk it hi hP hJ ho F₁ N₁
    exact turn i v m₁ news₁ h tk _ it hi hP hJ ho (fun p hp => Heap.lt_size (N p hp).1) F₁ N₁

theorem iter_list0 {l : Addr} {vs : Array Value} {n : Nat} {m : Str → Option Value} {news : Led} (hh : A.handled = none) (F : Fr h₀ env.locals s.heap m) (N : News h₀ env.locals s.heap news)
  (J : Nat → (Str → Option Value) → Led → Prop) (hj : J 0 m news) (hJl : ∀ i m news, J i m news → (l, W.listOf vs n) ∈ news)
  (turn : ∀ i v m₁ news₁ h tk I it, i < vs.size → vs[i]? = some v → J i m₁ news₁ → (∀ p ∈ news₁, p.1 ≠ I) → (∀ p ∈ news, p.1 < I) → Fr h₀ env.locals h (fun y => if y = x then some v else m₁ y) → News h₀ env.locals h ((I, it) :: news₁) →
    wpAny (model prog w) A (execs body env) (TurnEnd h₀ env.locals I it (J (i + 1)) Q { s with heap := h, toks := tk }) E { s with heap := h, toks := tk })
  (done : ∀ m₁ news₁ h tk, J vs.size m₁ news₁ → Fr h₀ env.locals h m₁ → News h₀ env.locals h news₁ → Q .next { s with heap := h, toks := tk }) :
  wpAny (model prog w) A (pyIter (.ref l)) (fun it s₂ => LoopAtV prog w A h₀ env x body Q E it s₂) E s := by
  have hm := hJl 0 m news hj
  have ht : s.heap.IsList l vs := N.isList hm
  have hlt : l < s.heap.objs.size := Heap.lt_size (N _ hm).1
  refine wpAny_pyIter_list ht ?_
  have WX := Walks.list (prog := prog) (w := w) hh s.heap.objs.size l (Nat.ne_of_lt hlt) vs
  refine loopAt_led (ol := PySem.W.listOf vs n) (s := { s with heap := _ }) WX (fun i h hs => ?_) ⟨⟨_, Heap.get?_push_size _ rfl, rfl, rfl⟩, ?_⟩ (F.push _) (fun p hp => ⟨Heap.get?_push_of_some _ (N p hp).1, (N p hp).2⟩) (next_is_new F) (Nat.ne_of_gt F.ns.lt)
    (fun p hp => Nat.ne_of_lt (Heap.lt_size (N p hp).1)) J hj hJl ?_ done
  · obtain ⟨⟨o, ho, _⟩, _⟩ := hs; exact ⟨o, ho⟩
  · obtain ⟨o, ho, r⟩ := ht; exact ⟨o, Heap.get?_push_of_some _ ho, r⟩
  · intro i v m₁ news₁ h tk it hi hP hJ ho F₁ N₁
    exact turn i v m₁ news₁ h tk _ it hi hP hJ ho (fun p hp => Heap.lt_size (N p hp).1) F₁ N₁
theorem iter_tup {h1 : Heap} {t1 : Nat} {l : Addr} {vs : Array Value} {n : Nat} {m : Str → Option Value} {news : Led} (hh : A.handled = none) (F : Fr h₀ env.locals h1 m) (N : News h₀ env.locals h1 news)
  (J : Nat → (Str → Option Value) → Led → Prop) (hj : J 0 m news) (hJl : ∀ i m news, J i m news → (l, tupOf vs n) ∈ news)
  (turn : ∀ i v m₁ news₁ h tk I it, i < vs.size → vs[i]? = some v → J i m₁ news₁ → (∀ p ∈ news₁, p.1 ≠ I) → (∀ p ∈ news, p.1 < I) → Fr h₀ env.locals h (fun y => if y = x then some v else m₁ y) → News h₀ env.locals h ((I, it) :: news₁) →
    wpAny (model prog w) A (execs body env) (TurnEnd h₀ env.locals I it (J (i + 1)) Q { s with heap := h, toks := tk }) E { s with heap := h, toks := tk })
  (done : ∀ m₁ news₁ h tk, J vs.size m₁ news₁ → Fr h₀ env.locals h m₁ → News h₀ env.locals h news₁ → Q .next { s with heap := h, toks := tk }) :
  wpAny (model prog w) A (pyIter (.ref l)) (fun it s₂ => LoopAtV prog w A h₀ env x body Q E it s₂) E { s with heap := h1, toks := t1 } :=
  iter_tup0 (s := { s with heap := h1, toks := t1 }) hh F N J hj hJl turn done
theorem iter_list {h1 : Heap} {t1 : Nat} {l : Addr} {vs : Array Value} {n : Nat} {m : Str → Option Value} {news : Led} (hh : A.handled = none) (F : Fr h₀ env.locals h1 m) (N : News h₀ env.locals h1 news)
  (J : Nat → (Str → Option Value) → Led → Prop) (hj : J 0 m news) (hJl : ∀ i m news, J i m news → (l, W.listOf vs n) ∈ news)
  (turn : ∀ i v m₁ news₁ h tk I it, i < vs.size → vs[i]? = some v → J i m₁ news₁ → (∀ p ∈ news₁, p.1 ≠ I) → (∀ p ∈ news, p.1 < I) → Fr h₀ env.locals h (fun y => if y = x then some v else m₁ y) → News h₀ env.locals h ((I, it) :: news₁) →
    wpAny (model prog w) A (execs body env) (TurnEnd h₀ env.locals I it (J (i + 1)) Q { s with heap := h, toks := tk }) E { s with heap := h, toks := tk })
  (done : ∀ m₁ news₁ h tk, J vs.size m₁ news₁ → Fr h₀ env.locals h m₁ → News h₀ env.locals h news₁ → Q .next { s with heap := h, toks := tk }) :
  wpAny (model prog w) A (pyIter (.ref l)) (fun it s₂ => LoopAtV prog w A h₀ env x body Q E it s₂) E { s with heap := h1, toks := t1 } :=
  iter_list0 (s := { s with heap := h1, toks := t1 }) hh F N J hj hJl turn done
end
end
section
/-- the operations that the law makes -/
inductive Opn | tf (s : String) (k : Int) | do_ (s : String) | q | Q
@[reducible] noncomputable def Opn.word : Opn → String
  | .tf .. => "Tf" | .do_ _ => "Do" | .q => "q" | .Q => "Q"
inductive OperandsAre (all : Led) (l : Addr) : Opn → Prop
  | tf {x : Addr} {s : String} {k : Int} {t : Tok} {n : Nat} : strObj all x s → (l, W.listOf #[.ref x, .int k t] n) ∈ all → OperandsAre all l (.tf s k)
  | do_ {x : Addr} {s : String} {n : Nat} : strObj all x s → (l, W.listOf #[.ref x] n) ∈ all → OperandsAre all l (.do_ s)
  | q {n : Nat} : (l, W.listOf #[] n) ∈ all → OperandsAre all l .q
  | Q {n : Nat} : (l, W.listOf #[] n) ∈ all → OperandsAre all l .Q
set_option autoImplicit false in
inductive OpIs (all : Led) (x : Addr) (o : Opn) : Prop
  | mk (d l h1 h2 t1 t2 t3 n : _)
    (_ : (x, instObj 417 d) ∈ all)
    (_ : (d, dictOf [⟨h1, .str (Str.ofString "word") t1, .str (Str.ofString o.word) t2⟩, ⟨h2, .str (Str.ofString "operands") t3, .ref l⟩] n) ∈ all)
    (_ : OperandsAre all l o) : OpIs all x o
theorem OpIs.intro {all : Led} {x d l : Addr} {o : Opn} {h1 h2 : Int} {t1 t2 t3 : Tok} {n : Nat} (a : (x, instObj 417 d) ∈ all) (b : (d, dictOf [⟨h1, .str (Str.ofString "word") t1, .str (Str.ofString o.word) t2⟩, ⟨h2, .str (Str.ofString "operands") t3, .ref l⟩] n) ∈ all) (c : OperandsAre all l o) : OpIs all x o :=
  ⟨_, _, _, _, _, _, _, _, a, b, c⟩
theorem OperandsAre.mono {all all' : Led} {l : Addr} {o : Opn} (h : OperandsAre all l o) (hs : ∀ p ∈ all, p ∈ all') : OperandsAre all' l o := by
  cases h with
  | tf a b => exact .tf (a.mono hs) (hs _ b)
  | do_ a b => exact .do_ (a.mono hs) (hs _ b)
  | q a => exact .q (hs _ a)
  | Q a => exact .Q (hs _ a)
theorem OpIs.mono {all all' : Led} {x : Addr} {o : Opn} (h : OpIs all x o) (hs : ∀ p ∈ all, p ∈ all') : OpIs all' x o := by
  obtain ⟨d, l, h1, h2, t1, t2, t3, n, a, b, c⟩ := h
  exact ⟨d, l, h1, h2, t1, t2, t3, n, hs _ a, hs _ b, c.mono hs⟩
inductive OpsAre (all : Led) : List Value → List Opn → Prop
  | nil : OpsAre all [] []
  | cons {x : Addr} {o : Opn} {vs : List Value} {os : List Opn} : OpIs all x o → OpsAre all vs os → OpsAre all (.ref x :: vs) (o :: os)
theorem OpsAre.mono {all all' : Led} {vs : List Value} {os : List Opn} (h : OpsAre all vs os) (hs : ∀ p ∈ all, p ∈ all') : OpsAre all' vs os := by
  induction h with
  | nil => exact .nil
  | cons h _ ih => exact .cons (h.mono hs) ih
@[reducible] noncomputable def deedOps : Int → List Opn
  | 0 => [.tf "A" 1, .do_ "B"]
  | 1 => [.do_ "A", .tf "B" 2]
  | 2 => [.tf "B" 1, .tf "A" 1]
  | 3 => [.q, .Q]
  | _ => [.tf "A" 1, .do_ "B", .do_ "A", .tf "B" 2]
set_option autoImplicit false in
/-- a list of the operations of one deed -/
inductive DeedIs (all : Led) (l : Addr) (d : Int) : Prop
  | mk (vs n : _)
    (_ : (l, W.listOf vs n) ∈ all)
    (_ : OpsAre all vs.toList (deedOps d)) : DeedIs all l d
theorem DeedIs.mono {all all' : Led} {l : Addr} {d : Int} (h : DeedIs all l d) (hs : ∀ p ∈ all, p ∈ all') : DeedIs all' l d := by
  obtain ⟨vs, n, a, b⟩ := h
  exact ⟨vs, n, hs _ a, b.mono hs⟩

theorem dict_exact {w : World} {o : Obj} {kvs : List (Str × Value)} (h : o.IsDictOf (PySem.strKind PP w) kvs) : ∃ es n, o = dictOf es n := by
  obtain ⟨es, ep, ⟨h1, h2, h3⟩, hd, _⟩ := h
  obtain ⟨c, d, dt, sl⟩ := o
  simp only at h1 h2 h3 hd
  subst h1 h2 h3 hd
  exact ⟨es.toList, ep, rfl⟩

section
variable {prog : Program} {w : World} {K : Type} [DecidableEq K] {knd : KeyKind prog w K} {A : Around} {E : Value → Shared → Prop} {s : Shared} {h₀ : Heap} {L d : Addr} {news : Led} {o : Obj} {kvs : List (K × Value)} {k : K} {key dflt : Value}
theorem m_getMethod {name : Str} {id : String} {pl : Sem Bool} {Q : Value × List Value → Shared → Prop} (N : News h₀ L s.heap news) (hm : (d, o) ∈ news) (hd : o.IsDictOf knd kvs) (slot : Slot "dict" name id) (hty : typeOf (.builtin id) = pure (.type "method_descriptor"))
    (h : Q (.builtin id, [.ref d]) s) : wpAny (model prog w) A (getMethod (.ref d) name pl) Q E s := by
  obtain ⟨es, ep, ⟨h1, h2, h3⟩, hdt, _⟩ := hd
  have hg := (N _ hm).1
  exact getMethod_builtin ⟨_, hg, h1⟩ PySem.F.plainAttrs_dict slot hty (fun a e => by cases e; exact ⟨_, hg, h2⟩) h
theorem m_get1 {Q : Value → Shared → Prop} (N : News h₀ L s.heap news) (hm : (d, o) ∈ news) (hd : o.IsDictOf knd kvs) (hkey : knd.is k key = true) (lo : (d == sysModules) = false)
    (h : Q ((valueAt kvs k).getD .none) { s with toks := s.toks + 1 }) : wpAny (model prog w) A (call (.builtin "dict.get") [.ref d, key]) Q E s :=
  have hD : s.heap.DictOf knd d kvs := Heap.dictOf_iff.mpr ⟨o, (N _ hm).1, hd⟩
  call_meetsIn PySem.F.slot_dict_get hD.typeIs PySem.F.entry_dict_get (PySem.F.args_dict_get_2 _ _) (meets_dict_get knd d hkey lo) ⟨_, hD.mapOf, h⟩
theorem m_get2 {Q : Value → Shared → Prop} (N : News h₀ L s.heap news) (hm : (d, o) ∈ news) (hd : o.IsDictOf knd kvs) (hkey : knd.is k key = true) (lo : (d == sysModules) = false)
    (h : Q ((valueAt kvs k).getD dflt) { s with toks := s.toks + 1 }) : wpAny (model prog w) A (call (.builtin "dict.get") [.ref d, key, dflt]) Q E s :=
  have hD : s.heap.DictOf knd d kvs := Heap.dictOf_iff.mpr ⟨o, (N _ hm).1, hd⟩
  call_meetsIn PySem.F.slot_dict_get hD.typeIs PySem.F.entry_dict_get (PySem.F.args_dict_get_3 _ _ _) (meets_dict_get_default knd d hkey lo dflt) ⟨_, hD.mapOf, h⟩
end

theorem TurnEnd.next {h₀ : Heap} {L I : Addr} {it : Obj} {J : (Str → Option Value) → Led → Prop} {Q : Flow → Shared → Prop} {s₁ : Shared} {h' : Heap} {tk : Nat} {m' : Str → Option Value} {news' : Led}
  (F : Fr h₀ L h' m') (N : News h₀ L h' ((I, it) :: news')) (ho : ∀ p ∈ news', p.1 ≠ I) (hj : J m' news') : TurnEnd h₀ L I it J Q s₁ .next { s₁ with heap := h', toks := tk } := ⟨h', tk, m', news', rfl, F, N, ho, hj⟩
end
section
section
variable {prog : Program} {w : World} {A : Around} {E : Value → Shared → Prop} {s : Shared} {env : Env} {h₀ : Heap} {x : Str} {body : List Stmt} {Q : Flow → Shared → Prop}
theorem loopAt_one {I : Addr} {n : Nat} {P : Nat → Value → Prop} {St : Nat → Heap → Prop} {m : Str → Option Value} {news : Led} (W : Walks prog w A I [I] [I] n P St)
  (hSt : ∀ i h, St i h → ∃ o, h.get? I = some o) (hst : St 0 s.heap) (F : Fr h₀ env.locals s.heap m) (N : News h₀ env.locals s.heap news) (hI : h₀.get? I = none) (hIL : I ≠ env.locals)
  (hnI : ∀ p ∈ news, p.1 ≠ I) (J : Nat → (Str → Option Value) → Led → Prop) (hj : J 0 m news)
  (turn : ∀ i v m₁ news₁ h tk it, i < n → P i v → J i m₁ news₁ → (∀ p ∈ news₁, p.1 ≠ I) → Fr h₀ env.locals h (fun y => if y = x then some v else m₁ y) → News h₀ env.locals h ((I, it) :: news₁) →
    wpAny (model prog w) A (execs body env) (TurnEnd h₀ env.locals I it (J (i + 1)) Q { s with heap := h, toks := tk }) E { s with heap := h, toks := tk })
  (done : ∀ m₁ news₁ h tk, J n m₁ news₁ → Fr h₀ env.locals h m₁ → News h₀ env.locals h news₁ → Q .next { s with heap := h, toks := tk }) :
  LoopAtV prog w A h₀ env x body Q E (.ref I) s := by
  refine ⟨I, [I], [I], n, P, St, m, news, J, rfl, W, ?_, ?_, ?_, hst, F, N, hj, ?_, ?_⟩
  · intro hm; exact hIL (List.mem_singleton.mp hm).symm
  · intro b hb; rw [List.mem_singleton.mp hb]; exact hI
  · intro p hp hm; exact hnI p hp (List.mem_singleton.mp hm)
  · rintro i v m₁ news₁ s₁ own ⟨hh, tk, rfl⟩ hin hP hJ hoff hown hget hall hst₁ F₁ N₁
    obtain ⟨it, hit⟩ := hSt _ _ hst₁
    have hmem := hall I List.mem_cons_self hI it hit
    have N₂ : News h₀ env.locals hh ((I, it) :: news₁) := fun p hp => by
      rcases List.mem_cons.mp hp with rfl | hp
      · exact N₁ _ (List.mem_append_left _ hmem)
      · exact N₁ _ (List.mem_append_right _ hp)
    have hoff' : ∀ p ∈ news₁, p.1 ≠ I := fun p hp e => hoff p hp (List.mem_singleton.mpr e)
    refine wpAny_mono (turn i v m₁ news₁ hh tk it hin hP hJ hoff' F₁ N₂) (fun f s₂ q => ?_) fun _ _ e => e
    have fin : (∃ h' tk' m' news', s₂ = { ({ s with heap := hh, toks := tk } : Shared) with heap := h', toks := tk' } ∧ Fr h₀ env.locals h' m' ∧ News h₀ env.locals h' ((I, it) :: news') ∧ (∀ p ∈ news', p.1 ≠ I) ∧ J (i + 1) m' news') →
        LoopStepU h₀ env.locals [I] own (J (i + 1)) { s with heap := hh, toks := tk } .next s₂ := by
      rintro ⟨h', tk', m', news', e, F', N', ho, hJ'⟩
      refine ⟨rfl, h', tk', m', news', e, F', fun p hp => ?_, fun p hp hm => ho p hp (List.mem_singleton.mp hm), hJ'⟩
      rcases List.mem_append.mp hp with hp | hp
      · have h1 := hget p hp
        have e1 := List.mem_singleton.mp (hown p hp)
        have : p = (I, it) := Prod.ext e1 (by rw [e1] at h1; exact (Option.some.inj (hit.symm.trans h1)).symm)
        rw [this]; exact N' _ List.mem_cons_self
      · exact N' _ (List.mem_cons_of_mem _ hp)
    cases f with
    | ret v => exact .ret q
    | brk => exact .brk q
    | next => exact .next (fin q)
    | cont => exact .cont (fin q)
  · rintro h' tk m' news' F' N' _ hJ
    exact done m' news' h' tk hJ F' N'
theorem iter_rng {r : Addr} {a b : Int} {t₀ u₀ v₀ : Tok} {n : Nat} {m : Str → Option Value} {news : Led} (hr : IsRange s.heap r a b 1 t₀ u₀ v₀) (hsmall : Builtin.Range.small a b 1 = true) (hn : Builtin.Range.rangeSize a b 1 = (n : Int))
  (hh : A.handled = none) (F : Fr h₀ env.locals s.heap m) (N : News h₀ env.locals s.heap news)
  (J : Nat → (Str → Option Value) → Led → Prop) (hj : J 0 m news)
  (turn : ∀ i t m₁ news₁ h tk I it, i < n → J i m₁ news₁ → (∀ p ∈ news₁, p.1 ≠ I) → (∀ p ∈ news, p.1 < I) → Fr h₀ env.locals h (fun y => if y = x then some (.int (a + (i : Nat)) t) else m₁ y) → News h₀ env.locals h ((I, it) :: news₁) →
    wpAny (model prog w) A (execs body env) (TurnEnd h₀ env.locals I it (J (i + 1)) Q { s with heap := h, toks := tk }) E { s with heap := h, toks := tk })
  (done : ∀ m₁ news₁ h tk, J n m₁ news₁ → Fr h₀ env.locals h m₁ → News h₀ env.locals h news₁ → Q .next { s with heap := h, toks := tk }) :
  wpAny (model prog w) A (pyIter (.ref r)) (fun it s₂ => LoopAtV prog w A h₀ env x body Q E it s₂) E s := by
  refine wpAny_pyIter_range hr hsmall ?_
  have WX := Walks.range (prog := prog) (w := w) hh s.heap.objs.size a 1 n
  refine loopAt_one (s := { s with heap := _ }) WX (fun i h hs => ⟨_, hs⟩) (by show IsRangeIter _ _ _ _ _; rw [hn]; simpa using Heap.get?_push_size _ rfl) (F.push _) (fun p hp => ⟨Heap.get?_push_of_some _ (N p hp).1, (N p hp).2⟩) (next_is_new F) (Nat.ne_of_gt F.ns.lt)
    (fun p hp => Nat.ne_of_lt (Heap.lt_size (N p hp).1)) J hj ?_ done
  rintro i v m₁ news₁ h tk it hi ⟨t, rfl⟩ hJ ho F₁ N₁
  rw [Int.mul_one] at F₁
  exact turn i t m₁ news₁ h tk _ it hi hJ ho (fun p hp => Heap.lt_size (N p hp).1) F₁ N₁
theorem for_range0 {b : Int} {t : Tok} {n : Nat} {m : Str → Option Value} {news : Led} (hb : b = (n : Int)) (hn0 : 0 < n) (hsm : n ≤ 1000)
  (hh : A.handled = none) (F : Fr h₀ env.locals s.heap m) (N : News h₀ env.locals s.heap news)
  (J : Nat → (Str → Option Value) → Led → Prop) (hj : J 0 m news)
  (turn : ∀ i t m₁ news₁ h tk I it, i < n → J i m₁ news₁ → (∀ p ∈ news₁, p.1 ≠ I) → (∀ p ∈ news, p.1 < I) → Fr h₀ env.locals h (fun y => if y = x then some (.int (i : Nat) t) else m₁ y) → News h₀ env.locals h ((I, it) :: news₁) →
    wpAny (model prog w) A (execs body env) (TurnEnd h₀ env.locals I it (J (i + 1)) Q { s with heap := h, toks := tk }) E { s with heap := h, toks := tk })
  (done : ∀ m₁ news₁ h tk, J n m₁ news₁ → Fr h₀ env.locals h m₁ → News h₀ env.locals h news₁ → Q .next { s with heap := h, toks := tk }) :
  wpAny (model prog w) A (call (.type "range") [.int b t]) (fun xv s₁ => wpAny (model prog w) A (pyIter xv) (fun it s₂ => LoopAtV prog w A h₀ env x body Q E it s₂) E s₁) E s := by
  refine call_range_1 ?_
  have hsz : Builtin.Range.rangeSize 0 b 1 = (n : Int) := by rw [rangeSize_one]; split <;> omega
  refine iter_rng (s := { s with heap := _, toks := _ }) (IsRange.new _ _ _ _ _ _ _) (small_one (by omega) (by omega) (by omega) (by omega)) hsz hh (F.push _) (fun p hp => ⟨Heap.get?_push_of_some _ (N p hp).1, (N p hp).2⟩) J hj ?_ done
  intro i t m₁ news₁ h tk I it hi hJ ho hI F₁ N₁
  rw [Int.zero_add] at F₁
  exact turn i t m₁ news₁ h tk I it hi hJ ho hI F₁ N₁
theorem for_range {h1 : Heap} {t1 : Nat} {b : Int} {t : Tok} {n : Nat} {m : Str → Option Value} {news : Led} (hb : b = (n : Int)) (hn0 : 0 < n) (hsm : n ≤ 1000)
  (hh : A.handled = none) (F : Fr h₀ env.locals h1 m) (N : News h₀ env.locals h1 news)
  (J : Nat → (Str → Option Value) → Led → Prop) (hj : J 0 m news)
  (turn : ∀ i t m₁ news₁ h tk I it, i < n → J i m₁ news₁ → (∀ p ∈ news₁, p.1 ≠ I) → (∀ p ∈ news, p.1 < I) → Fr h₀ env.locals h (fun y => if y = x then some (.int (i : Nat) t) else m₁ y) → News h₀ env.locals h ((I, it) :: news₁) →
    wpAny (model prog w) A (execs body env) (TurnEnd h₀ env.locals I it (J (i + 1)) Q { s with heap := h, toks := tk }) E { s with heap := h, toks := tk })
  (done : ∀ m₁ news₁ h tk, J n m₁ news₁ → Fr h₀ env.locals h m₁ → News h₀ env.locals h news₁ → Q .next { s with heap := h, toks := tk }) :
  wpAny (model prog w) A (call (.type "range") [.int b t]) (fun xv s₁ => wpAny (model prog w) A (pyIter xv) (fun it s₂ => LoopAtV prog w A h₀ env x body Q E it s₂) E s₁) E { s with heap := h1, toks := t1 } :=
  for_range0 (s := { s with heap := h1, toks := t1 }) hb hn0 hsm hh F N J hj turn done
end
end
section
/-- add lies above news: every address of add is new -/
noncomputable def Above (news add : Led) : Prop := ∃ lo : Nat, (∀ q ∈ news, @LT.lt Nat _ q.1 lo) ∧ (∀ p ∈ add, @LE.le Nat _ lo p.1)
theorem Above.nil {news : Led} : Above news [] := by
  induction news with
  | nil => exact ⟨0, List.forall_mem_nil _, List.forall_mem_nil _⟩
  | cons a l ih =>
    obtain ⟨lo, h1, _⟩ := ih
    refine ⟨max lo (a.1 + 1), fun q hq => ?_, List.forall_mem_nil _⟩
    rcases List.mem_cons.mp hq with rfl | hq
    · exact Nat.lt_of_lt_of_le (Nat.lt_succ_self _) (Nat.le_max_right _ _)
    · exact Nat.lt_of_lt_of_le (h1 q hq) (Nat.le_max_left _ _)
theorem Above.trans {news a1 a2 : Led} (h1 : Above news a1) (h2 : Above (a1 ++ news) a2) : Above news (a2 ++ a1) := by
  obtain ⟨l1, u1, v1⟩ := h1
  obtain ⟨l2, u2, v2⟩ := h2
  refine ⟨min l1 l2, fun q hq => ?_, fun p hp => ?_⟩
  · exact Nat.lt_min.mpr ⟨u1 q hq, u2 q (List.mem_append_right _ hq)⟩
  · rcases List.mem_append.mp hp with hp | hp
    · exact Nat.le_trans (Nat.min_le_right _ _) (v2 p hp)
    · exact Nat.le_trans (Nat.min_le_left _ _) (v1 p hp)
theorem Above.ne {news add : Led} (h : Above news add) {t : Addr} {o : Obj} (ht : (t, o) ∈ news) : ∀ p ∈ add, p.1 ≠ t := by
  obtain ⟨lo, u, v⟩ := h
  intro p hp e
  have h1 := u _ ht
  have h2 := v p hp
  rw [e] at h2
  exact Nat.lt_irrefl _ (Nat.lt_of_lt_of_le h1 h2)
theorem Above.sub {news news' add : Led} (h : Above news add) (hs : ∀ p ∈ news', p ∈ news) : Above news' add := by
  obtain ⟨lo, u, v⟩ := h
  exact ⟨lo, fun q hq => u q (hs q hq), v⟩
theorem Above.subR {news add add' : Led} (h : Above news add) (hs : ∀ p ∈ add', p ∈ add) : Above news add' := by
  obtain ⟨lo, u, v⟩ := h
  exact ⟨lo, u, fun p hp => v p (hs p hp)⟩
theorem Above.one {news : Led} {d : Addr} {o : Obj} (h : ∀ p ∈ news, p.1 < d) : Above news [(d, o)] := ⟨d, h, fun p hp => by rw [List.mem_singleton.mp hp]; exact Nat.le_refl _⟩
theorem fr_cast {h₀ h : Heap} {L : Addr} {m m' : Str → Option Value} (F : Fr h₀ L h m) (e : m = m') : Fr h₀ L h m' := e ▸ F
/-- l is add on top of n -/
inductive OnTop (n : Led) : Led → Led → Prop
  | nil : OnTop n n []
  | cons {p : Addr × Obj} {l a : Led} : OnTop n l a → OnTop n (p :: l) (p :: a)
  | app {b l a : Led} : OnTop n l a → OnTop n (b ++ l) (b ++ a)
  | top {a : Led} : OnTop n (a ++ n) a
theorem OnTop.eq {n l a : Led} (h : OnTop n l a) : l = a ++ n := by
  induction h with
  | nil => rfl
  | cons _ ih => rw [ih]; rfl
  | app _ ih => rw [ih, List.append_assoc]
  | top => rfl
/-- a contract that only makes: what was there stays as it was -/
noncomputable def Makes (w : World) (n : Nat) (f : Addr) (vs : List Value) (news : Led) (P : Value → Led → Prop) : Prop := Spec w n f vs news (fun r news' => ∃ add, news' = add ++ news ∧ Above news add ∧ P r add)
set_option autoImplicit false in
/-- a decimal without places -/
inductive DecIs (all : Led) (x : Addr) (i : Int) : Prop
  | mk (d h1 h2 t0 t1 t2 t3 n : _)
    (_ : (x, instObj 155 d) ∈ all)
    (_ : (d, dictOf [⟨h1, .str (Str.ofString "top") t0, .int i t3⟩, ⟨h2, .str (Str.ofString "places") t1, .int 0 t2⟩] n) ∈ all) : DecIs all x i
theorem DecIs.intro {all : Led} {x d : Addr} {i h1 h2 : Int} {t0 t1 t2 t3 : Tok} {n : Nat} (a : (x, instObj 155 d) ∈ all) (b : (d, dictOf [⟨h1, .str (Str.ofString "top") t0, .int i t3⟩, ⟨h2, .str (Str.ofString "places") t1, .int 0 t2⟩] n) ∈ all) : DecIs all x i := ⟨_, _, _, _, _, _, _, _, a, b⟩
theorem DecIs.mono {all all' : Led} {x : Addr} {i : Int} (h : DecIs all x i) (hs : ∀ p ∈ all, p ∈ all') : DecIs all' x i := by
  obtain ⟨d, h1, h2, t0, t1, t2, t3, n, a, b⟩ := h
  exact ⟨d, h1, h2, t0, t1, t2, t3, n, hs _ a, hs _ b⟩
set_option autoImplicit false in
/-- a matrix of whole numbers -/
inductive MatIs (all : Led) (x : Addr) (i1 i2 i3 i4 i5 i6 : Int) : Prop
  | mk (d h1 h2 h3 h4 h5 h6 t1 t2 t3 t4 t5 t6 n x1 x2 x3 x4 x5 x6 : _)
    (_ : (x, instObj 377 d) ∈ all)
    (_ : (d, dictOf [⟨h1, .str (Str.ofString "a") t1, .ref x1⟩, ⟨h2, .str (Str.ofString "b") t2, .ref x2⟩, ⟨h3, .str (Str.ofString "c") t3, .ref x3⟩, ⟨h4, .str (Str.ofString "d") t4, .ref x4⟩, ⟨h5, .str (Str.ofString "e") t5, .ref x5⟩, ⟨h6, .str (Str.ofString "f") t6, .ref x6⟩] n) ∈ all)
    (_ : DecIs all x1 i1)
    (_ : DecIs all x2 i2)
    (_ : DecIs all x3 i3)
    (_ : DecIs all x4 i4)
    (_ : DecIs all x5 i5)
    (_ : DecIs all x6 i6) : MatIs all x i1 i2 i3 i4 i5 i6
theorem MatIs.mono {all all' : Led} {x : Addr} {i1 i2 i3 i4 i5 i6 : Int} (h : MatIs all x i1 i2 i3 i4 i5 i6) (hs : ∀ p ∈ all, p ∈ all') : MatIs all' x i1 i2 i3 i4 i5 i6 := by
  obtain ⟨d, h1, h2, h3, h4, h5, h6, t1, t2, t3, t4, t5, t6, n, x1, x2, x3, x4, x5, x6, a, b, c1, c2, c3, c4, c5, c6⟩ := h
  exact ⟨d, h1, h2, h3, h4, h5, h6, t1, t2, t3, t4, t5, t6, n, x1, x2, x3, x4, x5, x6, hs _ a, hs _ b, c1.mono hs, c2.mono hs, c3.mono hs, c4.mono hs, c5.mono hs, c6.mono hs⟩
section
variable {h₀ : Heap} {L I C D : Addr} {m : Str → Option Value} {s₁ : Shared} {oI oC oD : Obj} {S : List (Addr × Obj) → Prop} {rest : Value → List (Addr × Obj) → Prop} {y : Value} {h' : Heap} {tk : Nat} {all f r : List (Addr × Obj)}
theorem comp_end (F : Fr h₀ L h' m) (N : News h₀ L h' all) (hp : Pulls [I, C, D] all f r) (he : f = (I, oI) :: (C, oC) :: (D, oD) :: r) (off : LCg.Off3 I C D r) (hS : S r) (hr : rest y r) :
    LCg.CompEnd h₀ L m s₁ I oI C oC D oD S rest y { s₁ with heap := h', toks := tk } := LCg.CompEnd.intro F N r (he ▸ hp.sub) off hS hr
theorem off3_app {l add rest : Led} (hI : (I, oI) ∈ l) (hC : (C, oC) ∈ l) (hD : (D, oD) ∈ l) (ha : Above l add) (h : LCg.Off3 I C D rest) : LCg.Off3 I C D (add ++ rest) :=
  LCg.Off3.of fun p hp => (List.mem_append.mp hp).elim (fun h1 => ⟨ha.ne hI p h1, ha.ne hC p h1, ha.ne hD p h1⟩) fun h1 => h.mem p h1
end
end
section
/-- an exception of an own class, as it is made -/
abbrev excObj (C t : Addr) : Obj := { cls := .ref C, data := .fields #[.ref t, .none, .none, .none, .bool false, .none] }
abbrev bmX : List Value := [.type "Exception", .type "BaseException", .type "object"]
section
variable {M : Model} {A : Around} {E : Value → Shared → Prop} {h : Heap} {g : Array GenState} {d : Drawn} {t : Nat} {os : OsState}
variable {nm q : Str} {C N C2 : Addr} {bs : List Value} {sn : List Str} {sub : List Value} {col : Option Bool} {dd : Option Addr} {k0 k1 k2 k3 k5 : Option Value}
set_option autoImplicit false in
/-- a class with one own base, whose base is Exception: its own object -/
inductive TwoObj (h : Heap) (C C2 : Addr) (mN : Str → Option Value) : Prop
  | mk (nm q : Str) (N : Addr) (bs : List Value) (sn : List Str) (sub : List Value) (ab : _) (col : Option Bool) (dd : Option Addr) (k0 k1 k2 k3 k5 : Option Value)
    (_ : h.get? C = some (excClassObj nm q C N bs (.ref C2 :: bmX) true sn sub ab col dd k0 k1 k2 k3 k5 "Exception.__new__"))
    (_ : h.Ns N mN) : TwoObj h C C2 mN
set_option autoImplicit false in
inductive TwoBase (h : Heap) (C2 : Addr) (mN2 : Str → Option Value) : Prop
  | mk (c0 dd cd sl : _)
    (_ : h.get? C2 = some ({ cls := c0, dict := dd, data := .cls cd, slots := sl } : Obj))
    (_ : h.Ns cd.ns mN2) : TwoBase h C2 mN2
/-- a class with one own base, whose base is Exception -/
structure TwoCls (h : Heap) (C C2 : Addr) (mN mN2 : Str → Option Value) : Prop where
  obj : TwoObj h C C2 mN
  base : TwoBase h C2 mN2
theorem TwoCls.keeps {h h' : Heap} {C C2 : Addr} {mN mN2 : Str → Option Value} (T : TwoCls h C C2 mN mN2) (k : ∀ b o, h.get? b = some o → h'.get? b = some o) : TwoCls h' C C2 mN mN2 := by
  obtain ⟨⟨nm, q, N, bs, sn, sub, ab, col, dd, k0, k1, k2, k3, k5, a, b⟩, ⟨c0, dd2, cd, sl, c, e⟩⟩ := T
  exact ⟨⟨nm, q, N, bs, sn, sub, ab, col, dd, k0, k1, k2, k3, k5, k _ _ a, b.keeps k⟩, ⟨c0, dd2, cd, sl, k _ _ c, e.keeps k⟩⟩
theorem two_lookup {mN mN2 : Str → Option Value} {name : Str} {y : Option Value} {Q : Option Value → Shared → Prop} (T : TwoCls h C C2 mN mN2) (hB : typeLookup (.type "Exception") name = pure y)
    (hq : Q (match mN name with | some v => some v | none => match mN2 name with | some v => some v | none => y) ⟨h, g, d, t, os⟩) : wpAny M A (typeLookup (.ref C) name) Q E ⟨h, g, d, t, os⟩ := by
  obtain ⟨⟨nm, q, N, bs, sn, sub, ab, col, dd, k0, k1, k2, k3, k5, a, b⟩, ⟨c0, dd2, cd, sl, c, e⟩⟩ := T
  have hrest : lookupAlong bmX name = pure y := by rw [typeLookup_eq, F.excBase_Exception.mroIs] at hB; exact hB
  rw [typeLookup_eq]
  refine wpAny_bind (wpAny_mroOf_exc a ?_)
  rw [lookupAlong_cons]
  refine wpAny_bind (wpAny_classOwn_exc a b ?_)
  cases hv : mN name with
  | some v => rw [hv] at hq; exact wpAny_pure hq
  | none =>
    rw [hv] at hq
    show wpAny M A (lookupAlong (.ref C2 :: bmX) name) Q E _
    rw [lookupAlong_cons]
    refine wpAny_bind (wpAny_classOwn_cls c e ?_)
    cases hv2 : mN2 name with
    | some v => rw [hv2] at hq; exact wpAny_pure hq
    | none => rw [hv2] at hq; show wpAny M A (lookupAlong bmX name) Q E _; rw [hrest]; exact wpAny_pure hq
theorem two_cont (C C2 : Addr) {X : String} {b : Bool} (h : bmX.contains (.type X) = b) : (Value.ref C :: .ref C2 :: bmX).contains (.type X) = b := by
  rw [List.contains_cons, List.contains_cons, h]; rfl
theorem two_check_new {mN mN2 : Str → Option Value} {rest : List Value} {Q : Unit → Shared → Prop} (T : TwoCls h C C2 mN mN2) (hq : Q () ⟨h, g, d, t, os⟩) :
    wpAny M A (checkBuiltinCall "Exception.__new__" ⟨.ref C :: rest, []⟩) Q E ⟨h, g, d, t, os⟩ := by
  obtain ⟨⟨nm, q, N, bs, sn, sub, ab, col, dd, k0, k1, k2, k3, k5, hC, hN⟩, _⟩ := T
  have Fx := F.excBase_Exception
  have hcont := two_cont C C2 Fx.hasB
  have hstar := Fx.noStar
  simp only [checkBuiltinCall, Fx.newKind, Fx.newSplit, Fx.newRow]
  repeat (first | with_reducible refine wpAny_loadPart_at hC ?_ | ((with_reducible refine wpAny_isSubtype_exc hC ?_); rw [hcont]) | with_reducible refine wpAny_staticBase_exc hC ?_ | with_reducible refine wpAny_madeBy_exc hC ?_ | simp only [bne_self_eq_false, Bool.false_eq_true, if_false] | wp_step)
  exact hq
theorem two_check_init {mN mN2 : Str → Option Value} {e : Addr} {oe : Obj} {rest : List Value} {Q : Unit → Shared → Prop} (T : TwoCls h C C2 mN mN2) (he : h.get? e = some oe) (hcls : oe.cls = .ref C) (hq : Q () ⟨h, g, d, t, os⟩) :
    wpAny M A (checkBuiltinCall "Exception.__init__" ⟨.ref e :: rest, []⟩) Q E ⟨h, g, d, t, os⟩ := by
  obtain ⟨⟨nm, q, N, bs, sn, sub, ab, col, dd, k0, k1, k2, k3, k5, hC, hN⟩, _⟩ := T
  have Fx := F.excBase_Exception
  have hcB := two_cont C C2 Fx.hasB
  have hshort := Fx.noStar
  simp only [checkBuiltinCall, Fx.initKind, Fx.initSplit, Fx.initRow]
  repeat (first | (with_reducible refine wpAny_loadPart_at he ?_; rw [hcls]) | with_reducible refine wpAny_loadPart_at hC ?_ | (with_reducible refine wpAny_isSubtype_exc hC ?_; rw [hcB]) | wp_step)
  refine wpAny_onRaise ?_
  rw [show ∀ (a b : String) (n : Nat), Bind.check ⟨.positional, "*", "Exception", .self, [⟨"args", .varPos, false⟩]⟩ a b n (List.map (fun x => x.fst) ({ pos := Value.ref e :: rest } : Args).kw) = pure () from
    fun a b n => check_star_args _ _ _ _ _ _]
  exact wpAny_pure hq
end
section
variable {prog : Program} {w : World} {A : Around} {h : Heap} {g : Array GenState} {d : Drawn} {t : Nat} {os : OsState} {C C2 : Addr} {mN mN2 : Str → Option Value} {rest : List Value}
theorem two_new {R : Result → Shared → Prop} (T : TwoCls h C C2 mN mN2)
    (hq : R (.ok (.ret (.ref (h.objs.size + 1)))) ⟨(h.push { cls := .type "tuple", data := .seq rest.toArray }).push (excObj C h.objs.size), g, d, t, os⟩) (hrest : rest.length ≤ sizeLine) :
    codeAny (model prog w) A (.builtin "Exception.__new__" ⟨.ref C :: rest, []⟩) R ⟨h, g, d, t, os⟩ := by
  obtain ⟨⟨nm, q, N, bs, sn, sub, ab, col, dd, k0, k1, k2, k3, k5, hC, hN⟩, _⟩ := T
  have Fx := F.excBase_Exception
  have hends := Fx.ends
  have hcB := two_cont C C2 Fx.hasB
  have hcA := two_cont C C2 Fx.noAttr
  have hcN := two_cont C C2 Fx.noName
  refine codeAny_builtinAt Fx.entry ?_
  unfold Builtin.«BaseException.__new__»
  refine PySem.wpAt_bind ?_
  show PySem.wpAt _ _ _ (stack >>= _) _ _ _
  refine PySem.wpAt_bind (PySem.wpAt_stack fun p below => PySem.wpAt_of_wpAny ?_)
  wp_walk
  refine PySem.wpAt_of_wpAny ?_
  rw [Fx.owner]
  repeat (first | with_reducible refine wpAny_madeHere_exc Fx.canon hC ?_ | with_reducible refine wpAny_loadPart_at hC ?_ | (with_reducible refine wpAny_isSubtype_exc hC ?_; first | rw [hcB] | rw [hcA] | rw [hcN]) | wp_step)
  show R _ _
  rw [Heap.size_push]
  exact hq
/-- Exception.__init__(e, ..rest): the field of the arguments is laid anew -/
theorem two_init {E : Value → Shared → Prop} {Q : Value → Shared → Prop} {e t0 : Addr} (T : TwoCls h C C2 mN mN2) (he : h.get? e = some (excObj C t0)) (hrest : rest.length ≤ sizeLine)
    (hq : Q .none ⟨(h.push { cls := .type "tuple", data := .seq rest.toArray }).update e (Obj.mapFields (·.setIfInBounds 0 (Value.ref h.objs.size))), g, d, t, os⟩) :
    wpAny (model prog w) A (call (.builtin "Exception.__init__") (.ref e :: rest)) Q E ⟨h, g, d, t, os⟩ := by
  have Fx := F.excBase_Exception
  refine wpAny_call (codeAny_call_builtin Fx.init.plain Fx.initEntry (two_check_init T he rfl ?_))
  wp_walk
  exact hq
/-- the call of the class, with the __init__ of its base -/
theorem two_type_call {E : Value → Shared → Prop} {fI : Addr} {oI : Obj} {Q : Fin → Shared → Prop} (T : TwoCls h C C2 mN mN2) (hi : mN "__init__" = none) (hi2 : mN2 "__init__" = some (.ref fI)) (hfI : h.get? fI = some oI) (hfc : oI.cls = .type "function") (hrest : rest.length ≤ sizeLine)
    (hq : ∀ h', h' = (h.push { cls := .type "tuple", data := .seq rest.toArray }).push (excObj C h.objs.size) →
      wpAny (model prog w) A (call (.ref fI) (.ref (h.objs.size + 1) :: rest)) (fun r s' => r = .none ∧ Q (.done (.ret (.ref (h.objs.size + 1)))) s') E ⟨h', g, d, t, os⟩) :
    wpAny (model prog w) A (Builtin.«type.__call__» ⟨.ref C :: rest, []⟩) Q E ⟨h, g, d, t, os⟩ := by
  have T0 := T
  obtain ⟨⟨nm, q, N, bs, sn, sub, ab, col, dd, k0, k1, k2, k3, k5, hC, hN⟩, _⟩ := T
  have Fx := F.excBase_Exception
  repeat (first | with_reducible refine wpAny_loadPart_at hC ?_ | with_reducible refine wpAny_madeBy_exc hC ?_ | wp_step)
  refine codeAny_call_builtin_code (Code.quiet_builtin _ Fx.quiet) (two_check_new T0 ?_)
  refine two_new T0 ?_ hrest
  show wpAny _ _ _ _ _ _
  have kk : ∀ b o, h.get? b = some o → ((h.push { cls := .type "tuple", data := .seq rest.toArray }).push (excObj C h.objs.size)).get? b = some o := fun b o e => Heap.get?_push_of_some _ (Heap.get?_push_of_some _ e)
  have hC₁ := kk _ _ hC
  have hfI₁ := kk _ _ hfI
  have T₁ := T0.keeps kk
  have hget : ((h.push { cls := .type "tuple", data := .seq rest.toArray }).push (excObj C h.objs.size)).get? (h.objs.size + 1) = some (excObj C h.objs.size) := by heap_get
  have hcC : (Value.ref C :: .ref C2 :: bmX).contains (.ref C) = true := by simp
  unfold isInstance
  repeat (first | with_reducible refine wpAny_loadPart_at hget ?_ | (with_reducible refine wpAny_isSubtype_exc hC₁ ?_; rw [hcC]) | wp_step)
  show wpAny _ _ (typeLookup (.ref C) _) _ _ _
  refine two_lookup T₁ Fx.init.lookup ?_
  rw [hi, hi2]
  refine wpAny_holding (wpAny_bind ?_)
  unfold bindSpecial
  refine wpAny_bind (wpAny_typeOf (T := "function") ⟨_, hfI₁, hfc⟩ ?_)
  rw [if_pos (by decide)]
  refine wpAny_pure (wpAny_bind (wpAny_mono (hq _ rfl) (fun r s' hr => ?_) fun _ _ x => x))
  obtain ⟨rfl, hQ⟩ := hr
  wp_walk
  exact hQ
theorem two_call {E : Value → Shared → Prop} {fI : Addr} {oI : Obj} {Q : Value → Shared → Prop} (T : TwoCls h C C2 mN mN2) (hi : mN "__init__" = none) (hi2 : mN2 "__init__" = some (.ref fI)) (hfI : h.get? fI = some oI) (hfc : oI.cls = .type "function") (hrest : rest.length ≤ sizeLine)
    (hq : ∀ h', h' = (h.push { cls := .type "tuple", data := .seq rest.toArray }).push (excObj C h.objs.size) →
      wpAny (model prog w) (A.under (.builtin "type.__call__" ⟨.ref C :: rest, []⟩)) (call (.ref fI) (.ref (h.objs.size + 1) :: rest)) (fun r s' => r = .none ∧ Q (.ref (h.objs.size + 1)) s') E ⟨h', g, d, t, os⟩) :
    wpAny (model prog w) A (call (.ref C) rest) Q E ⟨h, g, d, t, os⟩ := by
  have T0 := T
  obtain ⟨⟨nm, q, N, bs, sn, sub, ab, col, dd, k0, k1, k2, k3, k5, hC, hN⟩, _⟩ := T
  have f1 := tc_lookup
  have f2 := tc_bind (.ref C)
  have hT : (⟨h, g, d, t, os⟩ : Shared).TypeIs (.ref C) "type" := ⟨_, hC, rfl⟩
  refine wpAny_call (codeAny_of_tree ?_)
  show wpAny _ _ (callAny (.ref C) _) _ _ _
  repeat (any_goals (first | assumption | with_reducible refine wpAny_loadPart_at hC ?_ | wp_step))
  refine ⟨rfl, ?_⟩
  exact codeAny_call_builtin_at (Code.quiet_builtin _ (by decide +kernel)) entry_typeCall (wpAny_check_type_call_sub hC (two_type_call T0 hi hi2 hfI hfc hrest hq))
end
open Builtin Builtin.ObjectAttr
section
variable {prog : Program} {w : World} {A : Around} {E : Value → Shared → Prop} {h : Heap} {g : Array GenState} {d : Drawn} {t : Nat} {os : OsState} {C C2 x : Addr} {mN mN2 mA : Str → Option Value} {name : Str} {v : Value} {o : Obj} {ns : List Str}
/-- what a store into an object of a class does -/
noncomputable def Stored (h : Heap) (x : Addr) (o : Obj) (name : Str) (v : Value) (h' : Heap) : Prop :=
  (o.dict = none ∧ h'.get? x = some { o with dict := some h.objs.size } ∧ h'.Ns1 h.objs.size (fun y => if y = name then some v else none) ∧ ∀ b ob, b ≠ x → h.get? b = some ob → h'.get? b = some ob) ∨
  ∃ dx, o.dict = some dx ∧ h'.get? x = some o ∧ (∃ mA', h'.Ns1 dx mA') ∧ ∀ b ob, b ≠ dx → h.get? b = some ob → h'.get? b = some ob
theorem two_check_sa {M : Model} {nameV : Value} {Q : Unit → Shared → Prop} (T : TwoCls h C C2 mN mN2) (hx : h.get? x = some o) (hc : o.cls = .ref C) (hq : Q () ⟨h, g, d, t, os⟩) :
    wpAny M A (checkBuiltinCall "object.__setattr__" ⟨[.ref x, nameV, v], []⟩) Q E ⟨h, g, d, t, os⟩ := by
  obtain ⟨⟨nm, q, N, bs, sn, sub, ab, col, dd, k0, k1, k2, k3, k5, hC, hN⟩, _⟩ := T
  have SF := F.store_Exception
  have hcB := two_cont C C2 SF.hasOwner
  simp only [checkBuiltinCall, SF.kind, SF.split]
  refine wpAny_bind ?_
  · unfold isInstance
    repeat (first | (with_reducible refine wpAny_loadPart_at hx ?_; rw [hc]) | (with_reducible refine wpAny_isSubtype_exc hC ?_; rw [hcB]) | wp_step)
    exact hq
theorem two_store_entry {tk : Tok} {Q : Fin → Shared → Prop} (T : TwoCls h C C2 mN mN2) (hna : mN name = none) (hna2 : mN2 name = none)
    (hB : typeLookup (.type "Exception") name = pure none) (hx : h.get? x = some o) (hc : o.cls = .ref C) (hnc : ∀ c, o.data ≠ .cls c) (hd : o.dict = none ∨ ∃ dx, o.dict = some dx ∧ dx ≠ x ∧ h.Ns1 dx mA)
    (hq : ∀ h' tk', Stored h x o name v h' → Q (.done (.ret .none)) ⟨h', g, d, tk', os⟩) (hw : Within mA ns) (hsz : ns.length < sizeLine) :
    wpAny (model prog w) A (Builtin.«object.__setattr__» ⟨[.ref x, .str name tk, v], []⟩) Q E ⟨h, g, d, t, os⟩ := by
  have T0 := T
  obtain ⟨⟨nm, q, N, bs, sn, sub, ab, col, dd, k0, k1, k2, k3, k5, hC, hN⟩, _⟩ := T
  have hpass := F.store_Exception.passes (.ref x)
  unfold Builtin.«object.__setattr__»
  repeat (first | rw [refuse_eq] | (rw [refuseLoop_ref, refuseLoop_ref, hpass]) | (with_reducible refine wpAny_loadPart_at hx ?_; rw [hc]) | with_reducible refine wpAny_mroOf_exc hC ?_ | (with_reducible refine two_lookup T0 hB ?_; rw [hna, hna2]) | wp_step)
  rcases hd with hdn | ⟨dx, hdx, hne, hns⟩
  ·
    rw [hdn, if_neg (by simp [typeHasDict])]
    split
    · rename_i hcd
      cases hcd
    split
    · rename_i c hcd
      exact absurd hcd (hnc c)
    · have hx₁ : (h.push { cls := .type "dict", data := .dict #[] }).get? x = some o := Heap.get?_push_of_some _ hx
      have hxs : x ≠ h.objs.size := Nat.ne_of_lt (Heap.lt_size hx)
      refine wpAny_bind (wpAny_alloc' ?_)
      refine wpAny_bind (wpAny_update' hx₁ ?_)
      refine wpAny_pure ?_
      have hgd : ((h.push { cls := .type "dict", data := .dict #[] }).update x fun o => { cls := o.cls, dict := some h.objs.size, data := o.data, slots := o.slots }).get? h.objs.size
          = some { cls := .type "dict", data := .dict #[] } :=
        (Heap.get?_update_ne _ _ _ _ hxs.symm).trans (Heap.get?_push_at rfl rfl)
      have hnd : ((h.push { cls := .type "dict", data := .dict #[] }).update x fun o => { cls := o.cls, dict := some h.objs.size, data := o.data, slots := o.slots }).Ns h.objs.size (fun _ => none) :=
        ⟨_, #[], _, hgd, rfl, fun e he => absurd he (by simp), fun _ => rfl⟩
      show wpAny _ _ (storeInDict h.objs.size (.str name tk) name v) _ _ _
      unfold storeInDict newKeyGuard
      refine wpAny_bind (wpAny_pure (wpAny_bind (wpAny_nsSet1 (Heap.Ns1.of_empty hnd) fun h' hn' hs => ?_)))
      obtain ⟨oD, esD, epD, hoD, hdD, hcD⟩ := hn'.count (Within.cons name v Within.nil)
      refine wpAny_bind (wpAny_lookBehind hoD (by rw [hdD]; exact pastItsLine_dict (Nat.le_trans hcD (by rw [List.length_cons, List.length_nil, sizeLine_eq]; omega))) ?_)
      wp_walk
      have hx' : h'.get? x = some { cls := o.cls, dict := some h.objs.size, data := o.data, slots := o.slots } := by
        refine (hs.2 x hxs).trans (Heap.get?_update_self _ hx₁ ?_)
        have hfr := (Heap.get?_some_iff.mp hx).2
        obtain ⟨oc, od, odt, osl⟩ := o
        cases odt <;> first | rfl | exact hfr
      refine hq h' _ (.inl ⟨hdn, hx', hn', fun b ob hbx hb => ?_⟩)
      exact (hs.2 b (Nat.ne_of_lt (Heap.lt_size hb))).trans ((Heap.get?_update_ne _ _ _ _ hbx).trans (Heap.get?_push_of_some _ hb))
  ·
    rw [hdx]
    refine wpAny_pure ?_
    show wpAny _ _ (storeInDict dx (.str name tk) name v) _ _ _
    unfold storeInDict newKeyGuard
    refine wpAny_bind (wpAny_pure (wpAny_bind (wpAny_nsSet1 hns fun h' hn' hs => ?_)))
    obtain ⟨oD, esD, epD, hoD, hdD, hcD⟩ := hn'.count (Within.cons name v hw)
    refine wpAny_bind (wpAny_lookBehind hoD (by rw [hdD]; exact pastItsLine_dict (Nat.le_trans hcD (by rw [List.length_cons]; omega))) ?_)
    wp_walk
    exact hq h' _ (.inr ⟨dx, hdx, (hs.2 x hne.symm).trans hx, ⟨_, hn'⟩, fun b ob hbd hb => (hs.2 b hbd).trans hb⟩)
theorem two_setattr {Q : Unit → Shared → Prop} (T : TwoCls h C C2 mN mN2) (hns : mN "__setattr__" = none) (hns2 : mN2 "__setattr__" = none) (hna : mN name = none) (hna2 : mN2 name = none)
    (hB : typeLookup (.type "Exception") name = pure none) (hx : h.get? x = some o) (hc : o.cls = .ref C) (hnc : ∀ c, o.data ≠ .cls c) (hd : o.dict = none ∨ ∃ dx, o.dict = some dx ∧ dx ≠ x ∧ h.Ns1 dx mA)
    (hq : ∀ h' tk', Stored h x o name v h' → Q () ⟨h', g, d, tk', os⟩) (hw : Within mA ns) (hsz : ns.length < sizeLine) :
    wpAny (model prog w) A (setAttr (.ref x) name v) Q E ⟨h, g, d, t, os⟩ := by
  have SF := F.store_Exception
  have f3 := SF.slot.bind (.ref x)
  unfold setAttr callSpecial? specialOf
  repeat (any_goals (first | assumption | (with_reducible refine wpAny_loadPart_at hx ?_; rw [hc]) | (with_reducible refine two_lookup T SF.slot.lookup ?_; rw [hns, hns2]) | wp_step))
  refine codeAny_call_builtin SF.slot.plain SF.entry (two_check_sa T hx hc (two_store_entry T hna hna2 hB hx hc hnc hd (fun h' tk' hst => ?_) hw hsz))
  repeat (any_goals (first | assumption | wp_step))
  exact hq h' tk' hst
end
end
section
theorem find_map_self {l : List (Str × Value)} {x : Str} {v : Value} (h : l.any (fun kv => kv.1 = x) = true) : ((l.map fun kv => if kv.1 = x then (kv.1, v) else kv).find? fun kv => kv.1 = x).map (·.2) = some v := by
  induction l with
  | nil => simp at h
  | cons a l ih =>
    by_cases q : a.1 = x
    · simp [q]
    · have h' : l.any (fun kv => kv.1 = x) = true := by simpa [q] using h
      rw [List.map_cons, if_neg q, List.find?_cons, decide_eq_false q]
      exact ih h'
theorem find_map_ne {l : List (Str × Value)} {x y : Str} {v : Value} (hne : x ≠ y) : ((l.map fun kv => if kv.1 = x then (kv.1, v) else kv).find? fun kv => kv.1 = y).map (·.2) = (l.find? fun kv => kv.1 = y).map (·.2) := by
  induction l with
  | nil => rfl
  | cons a l ih =>
    rw [List.map_cons, List.find?_cons, List.find?_cons]
    by_cases q : a.1 = x
    · have q2 : ¬ a.1 = y := fun z => hne (q ▸ z)
      rw [if_pos q, decide_eq_false q2]
      exact ih
    · rw [if_neg q]
      by_cases q2 : a.1 = y
      · rw [decide_eq_true q2]
      · rw [decide_eq_false q2]; exact ih
theorem valueAt_stored_self {l : List (Str × Value)} {x : Str} {v : Value} : valueAt (stored l x v) x = some v := by
  unfold stored valueAt
  split
  · rename_i h
    exact find_map_self h
  · rename_i h
    rw [List.find?_append]
    have : l.find? (fun kv => decide (kv.1 = x)) = none := by
      rw [List.find?_eq_none]
      intro a ha q
      exact h (List.any_eq_true.mpr ⟨a, ha, q⟩)
    rw [this]
    simp
theorem valueAt_stored_ne {l : List (Str × Value)} {x y : Str} {v : Value} (hne : x ≠ y) : valueAt (stored l x v) y = valueAt l y := by
  unfold stored valueAt
  split
  · exact find_map_ne hne
  · rw [List.find?_append]
    simp [hne]
/-- a list of written words -/
inductive StrsAre : List Value → List String → Prop
  | nil : StrsAre [] []
  | cons {s : String} {t : Tok} {vs : List Value} {ws : List String} : StrsAre vs ws → StrsAre (.str (Str.ofString s) t :: vs) (s :: ws)
/-- what stands in a dict of lists of words under one key -/
inductive WordsAt (all : Led) (kvs : List (Str × Value)) (σ : String) : List String → Prop
  | none : valueAt kvs (Str.ofString σ) = none → WordsAt all kvs σ []
  | some {l : Addr} {vs : Array Value} {n : Nat} {w : String} {ws : List String} : valueAt kvs (Str.ofString σ) = some (.ref l) → (l, W.listOf vs n) ∈ all → StrsAre vs.toList (w :: ws) → WordsAt all kvs σ (w :: ws)
theorem WordsAt.mono {all all' : Led} {kvs : List (Str × Value)} {σ : String} {ws : List String} (h : WordsAt all kvs σ ws) (hs : ∀ p ∈ all, p ∈ all') : WordsAt all' kvs σ ws := by
  cases h with
  | none a => exact .none a
  | some a b c => exact .some a (hs _ b) c
theorem WordsAt.store {all : Led} {kvs : List (Str × Value)} {σ τ : String} {v : Value} {ws : List String} (h : WordsAt all kvs τ ws) (hne : Str.ofString σ ≠ Str.ofString τ) : WordsAt all (stored kvs (Str.ofString σ) v) τ ws := by
  cases h with
  | none a => exact .none (by rw [valueAt_stored_ne hne]; exact a)
  | some a b c => exact .some (by rw [valueAt_stored_ne hne]; exact a) b c
/-- one more word, sorted -/
noncomputable def insW (s : String) : List String → List String
  | [] => [s]
  | [t] => if s == t then [s] else if s == "A" then [s, t] else [t, s]
  | ws => ws
/-- the words of the fonts, of the forms, behind the first operations -/
noncomputable def wordsOf : List Opn → List String × List String
  | [] => ([], [])
  | o :: r => let q := wordsOf r; match o with
    | .tf s _ => (insW s q.1, q.2)
    | .do_ s => (q.1, insW s q.2)
    | _ => q
noncomputable def sortsK (t1 t2 t3 t4 t5 t6 : Tok) : List (Str × Value) := [(Str.ofString "Tf", .str (Str.ofString "Font") t1), (Str.ofString "Do", .str (Str.ofString "XObject") t2), (Str.ofString "gs", .str (Str.ofString "ExtGState") t3), (Str.ofString "sh", .str (Str.ofString "Shading") t4), (Str.ofString "CS", .str (Str.ofString "ColorSpace") t5), (Str.ofString "cs", .str (Str.ofString "ColorSpace") t6)]
noncomputable def spotsK (t7 t8 t9 t10 : Tok) : List (Str × Value) := [(Str.ofString "SCN", .str (Str.ofString "Pattern") t7), (Str.ofString "scn", .str (Str.ofString "Pattern") t8), (Str.ofString "BDC", .str (Str.ofString "Properties") t9), (Str.ofString "DP", .str (Str.ofString "Properties") t10)]
theorem sorts_Tf {t1 t2 t3 t4 t5 t6 : Tok} : valueAt (sortsK t1 t2 t3 t4 t5 t6) (Str.ofString "Tf") = some (.str (Str.ofString "Font") t1) := by rfl
theorem sorts_Do {t1 t2 t3 t4 t5 t6 : Tok} : valueAt (sortsK t1 t2 t3 t4 t5 t6) (Str.ofString "Do") = some (.str (Str.ofString "XObject") t2) := by rfl
theorem spots_Tf {t7 t8 t9 t10 : Tok} : valueAt (spotsK t7 t8 t9 t10) (Str.ofString "Tf") = none := by rfl
theorem spots_Do {t7 t8 t9 t10 : Tok} : valueAt (spotsK t7 t8 t9 t10) (Str.ofString "Do") = none := by rfl
set_option autoImplicit false in
inductive SortsAre (w : World) (o : Obj) : Prop
  | mk (t1 t2 t3 t4 t5 t6 : _)
    (_ : o.IsDictOf (PySem.strKind PP w) (sortsK t1 t2 t3 t4 t5 t6)) : SortsAre w o
set_option autoImplicit false in
inductive SpotsAre (w : World) (o : Obj) : Prop
  | mk (t7 t8 t9 t10 : _)
    (_ : o.IsDictOf (PySem.strKind PP w) (spotsK t7 t8 t9 t10)) : SpotsAre w o
set_option autoImplicit false in
/-- what used_names hands back -/
inductive UsedIs (w : World) (all : Led) (u : Addr) (fw xw : List String) : Prop
  | mk (o kvs : _)
    (_ : (u, o) ∈ all)
    (_ : o.IsDictOf (PySem.strKind PP w) kvs)
    (_ : (u == sysModules) = false)
    (_ : WordsAt all kvs "Font" fw)
    (_ : WordsAt all kvs "XObject" xw) : UsedIs w all u fw xw
noncomputable def fontsOf (d : Int) : List String := (wordsOf (deedOps d).reverse).1
noncomputable def formsOf (d : Int) : List String := (wordsOf (deedOps d).reverse).2
theorem OpsAre.get {all : Led} {vs : List Value} {os : List Opn} (h : OpsAre all vs os) : ∀ {i : Nat} {v : Value}, vs[i]? = some v → ∃ x o, v = .ref x ∧ os[i]? = some o ∧ OpIs all x o := by
  induction h with
  | nil => intro i v e; simp at e
  | cons h _ ih =>
    intro i v e
    cases i with
    | zero => simp only [List.getElem?_cons_zero, Option.some.injEq] at e; exact ⟨_, _, e.symm, rfl, h⟩
    | succ i => simp only [List.getElem?_cons_succ] at e; exact ih e
/-- the four ways in which a word comes to the words before -/
noncomputable def combos : List (String × List String) := [("A", []), ("B", []), ("A", ["B"]), ("B", ["A"])]
noncomputable def comboAt (q : List String × List String) : Opn → Prop
  | .tf s _ => (s, q.1) ∈ combos
  | .do_ s => (s, q.2) ∈ combos
  | _ => True
theorem combo_of {d : Int} {i : Nat} {o : Opn} (h : (deedOps d)[i]? = some o) : comboAt (wordsOf ((deedOps d).take i).reverse) o := by
  unfold deedOps at h ⊢
  split at h
  all_goals
    rcases i with _ | _ | _ | _ | i
    all_goals
      simp only [List.getElem?_cons_zero, List.getElem?_cons_succ, List.getElem?_nil, Option.some.injEq, reduceCtorEq] at h
      try (subst h; first | trivial | (show (_ : String × List String) ∈ combos; decide))
theorem words_succ {os : List Opn} {i : Nat} {o : Opn} (h : os[i]? = some o) : (os.take (i + 1)).reverse = o :: (os.take i).reverse := by
  rw [List.take_add_one, h]
  simp
theorem deed_len (d : Int) : (deedOps d).length ≤ 4 := by
  unfold deedOps
  split <;> decide
example : fontsOf 2 = ["A", "B"] := by decide
example : formsOf 4 = ["A", "B"] := by decide
end
section
section
variable {prog : Program} {w : World} {A : Around} {E : Value → Shared → Prop} {s : Shared} {h₀ : Heap} {L l l' : Addr} {news : Led} {vs vs' : Array Value} {n n' : Nat} {Q : Value → Shared → Prop}
theorem ne_lists (N : News h₀ L s.heap news) (hm : (l, W.listOf vs n) ∈ news) (hm' : (l', W.listOf vs' n') ∈ news) (hu : A.units < cLine) (hsz : (vs.size != vs'.size) = true) (h : Q (.bool true) s) : wpAny (model prog w) A (compareOp .NotEq (.ref l) (.ref l')) Q E s :=
  cmp_ofNotEq (SeqAt.RcNeAt.lists_lengths (N.isList hm) (N.isList hm') hsz hu prog w E Q h)
theorem ne_nils (N : News h₀ L s.heap news) (hm : (l, W.listOf #[] n) ∈ news) (hm' : (l', W.listOf #[] n') ∈ news) (hu : A.units < cLine) (h : Q (.bool false) s) : wpAny (model prog w) A (compareOp .NotEq (.ref l) (.ref l')) Q E s :=
  cmp_ofNotEq (SeqAt.RcNeAt.lists (e := fun _ => true) (N.isList hm) (N.isList hm') rfl hu (fun j h1 => absurd h1 (Nat.not_lt_zero _)) prog w E Q h)
theorem sorted_led {m : Str → Option Value} {ss : List Str} (F : Fr h₀ L s.heap m) (N : News h₀ L s.heap news) (hm : (l, W.listOf vs n) ∈ news) (hS : PyProof.Rows.StrsAre vs.toList ss) (h64 : vs.toList.length < 64)
    (h : ∀ D h' vs' ss' e, Fr h₀ L h' m → News h₀ L h' ((D, W.listOf vs' e) :: news) → (∀ p ∈ news, p.1 < D) → PyProof.Rows.StrsAre vs'.toList ss' → ss'.Perm ss → sortedS ss' = true → Q (.ref D) { s with heap := h' }) :
    wpAny (model prog w) A (call (.builtin "sorted") [.ref l]) Q E s := by
  obtain ⟨vs⟩ := vs
  refine sorted_N_str (vs := vs) F N (N.isList hm) hS h64 fun h' vs' ss' e F' N' hS' hp' hs' => ?_
  exact h _ h' vs'.toArray ss' e F' N' (fun p hp => Nat.lt_succ_of_lt (Heap.lt_size (N p hp).1)) hS' hp' hs'
end
theorem strs_of {vs : List Value} : ∀ {ws : List String}, PyProof.Rows.StrsAre vs (ws.map Str.ofString) → Mine.StrsAre vs ws := by
  induction vs with
  | nil => intro ws h; cases ws with
    | nil => exact .nil
    | cons a b => cases h
  | cons v vs ih => intro ws h; cases ws with
    | nil => cases h
    | cons a b => cases h with
      | cons _ _ h => exact .cons (ih h)
theorem of_strs {vs : List Value} {ws : List String} (h : Mine.StrsAre vs ws) : PyProof.Rows.StrsAre vs (ws.map Str.ofString) := by
  induction h with
  | nil => exact .nil
  | cons _ ih => exact .cons _ _ ih
theorem perm_pair {x y : Str} {ss : List Str} (h : ss.Perm [x, y]) : ss = [x, y] ∨ ss = [y, x] := by
  have hl := h.length_eq
  match ss, hl with
  | [a, b], _ =>
    have ha := h.mem_iff.mp (List.mem_cons_self (a := a) (l := [b]))
    simp only [List.mem_cons, List.not_mem_nil, or_false] at ha
    rcases ha with rfl | rfl
    · have := List.perm_singleton.mp ((List.perm_cons a).mp h)
      simp only [List.cons.injEq, and_true] at this
      subst this; exact .inl rfl
    · have := List.perm_singleton.mp ((List.perm_cons a).mp (h.trans (List.Perm.swap _ _ _)))
      simp only [List.cons.injEq, and_true] at this
      subst this; exact .inr rfl
theorem sort_ins {s : String} {ws : List String} (hc : (s, ws) ∈ combos) {ss : List Str} (hp : ss.Perm ((ws ++ [s]).map Str.ofString)) (hs : sortedS ss = true) : ss = (insW s ws).map Str.ofString := by
  simp only [combos, List.mem_cons, Prod.mk.injEq, List.not_mem_nil, or_false] at hc
  rcases hc with ⟨rfl, rfl⟩ | ⟨rfl, rfl⟩ | ⟨rfl, rfl⟩ | ⟨rfl, rfl⟩
  · exact List.perm_singleton.mp hp
  · exact List.perm_singleton.mp hp
  · rcases perm_pair hp with rfl | rfl
    · exact absurd hs (by decide)
    · rfl
  · rcases perm_pair hp with rfl | rfl
    · rfl
    · exact absurd hs (by decide)
set_option autoImplicit false in
/-- what holds in used_names between two turns -/
inductive UsedJ (w : World) (fd pd sd L l : Addr) (po so : Obj) (news : Led) (d : Int) (i : Nat) (m' : Str → Option Value) (all' : Led) : Prop
  | mk (fo : Obj) (kvs : List (Str × Value)) (oc : Obj) (cv : Option Value) (tl0 : Led)
    (_ : (∀ p ∈ [("found", Value.ref fd), ("spots", .ref pd), ("sorts", .ref sd), ("operations", .ref l)], m' (Str.ofString p.1) = some p.2))
    (_ : all' = (fd, fo) :: (L + 1, oc) :: (tl0 ++ (pd, po) :: (sd, so) :: news))
    (_ : oc.data = .cell cv)
    (_ : fo.IsDictOf (PySem.strKind PP w) kvs)
    (_ : kvs.length ≤ i)
    (_ : WordsAt tl0 kvs "Font" (wordsOf ((deedOps d).take i).reverse).1)
    (_ : WordsAt tl0 kvs "XObject" (wordsOf ((deedOps d).take i).reverse).2)
    (_ : (∀ p ∈ tl0, @LT.lt Nat _ L p.1))
    (_ : (∀ p ∈ tl0, p.1 ≠ fd))
    (_ : (∀ p ∈ tl0, p.1 ≠ L + 1)) : UsedJ w fd pd sd L l po so news d i m' all'
theorem words_at {all : Led} {kvs : List (Str × Value)} {σ s : String} {fw : List String} {D : Addr} {vs : Array Value} {e : Nat} (hc : (s, fw) ∈ combos) (hst : PyProof.Rows.StrsAre vs.toList ((insW s fw).map Str.ofString)) :
    WordsAt ((D, W.listOf vs e) :: all) (stored kvs (Str.ofString σ) (.ref D)) σ (insW s fw) := by
  have h := strs_of hst
  simp only [combos, List.mem_cons, Prod.mk.injEq, List.not_mem_nil, or_false] at hc
  rcases hc with ⟨rfl, rfl⟩ | ⟨rfl, rfl⟩ | ⟨rfl, rfl⟩ | ⟨rfl, rfl⟩
  all_goals exact .some valueAt_stored_self List.mem_cons_self h
section
variable {w : World} {fd pd sd L l D : Addr} {po so fo oc : Obj} {news tl0 : Led} {d : Int} {i : Nat} {m' : Str → Option Value} {kvs : List (Str × Value)} {cv : Option Value} {s : String} {k : Int} {fw : List String} {vs : Array Value} {e : Nat}
theorem UsedJ.font (hm : ∀ p ∈ [("found", Value.ref fd), ("spots", .ref pd), ("sorts", .ref sd), ("operations", .ref l)], m' (Str.ofString p.1) = some p.2) (hoc : oc.data = .cell cv) (hfo : fo.IsDictOf (PySem.strKind PP w) (stored kvs (Str.ofString "Font") (.ref D))) (hle : kvs.length ≤ i)
    (hws : ((deedOps d).take (i + 1)).reverse = .tf s k :: ((deedOps d).take i).reverse) (hfw : (wordsOf ((deedOps d).take i).reverse).1 = fw) (hc : (s, fw) ∈ combos) (hst : PyProof.Rows.StrsAre vs.toList ((insW s fw).map Str.ofString))
    (hwx : WordsAt tl0 kvs "XObject" (wordsOf ((deedOps d).take i).reverse).2) (u1 : ∀ p ∈ tl0, @LT.lt Nat _ L p.1) (u2 : ∀ p ∈ tl0, p.1 ≠ fd) (u3 : ∀ p ∈ tl0, p.1 ≠ L + 1) (h1 : @LT.lt Nat _ L D) (h2 : @Ne Nat D fd) (h3 : @Ne Nat D (L + 1)) :
    UsedJ w fd pd sd L l po so news d (i + 1) m' ((fd, fo) :: (L + 1, oc) :: (D, W.listOf vs e) :: (tl0 ++ (pd, po) :: (sd, so) :: news)) := by
  refine ⟨fo, _, oc, cv, (D, W.listOf vs e) :: tl0, hm, rfl, hoc, hfo, Nat.le_trans stored_le (Nat.succ_le_succ hle), ?_, ?_, all_cons h1 u1, all_cons h2 u2, all_cons h3 u3⟩
  · rw [hws]
    show WordsAt _ _ _ (insW s (wordsOf ((deedOps d).take i).reverse).1)
    rw [hfw]
    exact words_at hc hst
  · rw [hws]
    exact (hwx.mono fun p hp => List.mem_cons_of_mem _ hp).store (by decide)
theorem UsedJ.form (hm : ∀ p ∈ [("found", Value.ref fd), ("spots", .ref pd), ("sorts", .ref sd), ("operations", .ref l)], m' (Str.ofString p.1) = some p.2) (hoc : oc.data = .cell cv) (hfo : fo.IsDictOf (PySem.strKind PP w) (stored kvs (Str.ofString "XObject") (.ref D))) (hle : kvs.length ≤ i)
    (hws : ((deedOps d).take (i + 1)).reverse = .do_ s :: ((deedOps d).take i).reverse) (hfw : (wordsOf ((deedOps d).take i).reverse).2 = fw) (hc : (s, fw) ∈ combos) (hst : PyProof.Rows.StrsAre vs.toList ((insW s fw).map Str.ofString))
    (hwf : WordsAt tl0 kvs "Font" (wordsOf ((deedOps d).take i).reverse).1) (u1 : ∀ p ∈ tl0, @LT.lt Nat _ L p.1) (u2 : ∀ p ∈ tl0, p.1 ≠ fd) (u3 : ∀ p ∈ tl0, p.1 ≠ L + 1) (h1 : @LT.lt Nat _ L D) (h2 : @Ne Nat D fd) (h3 : @Ne Nat D (L + 1)) :
    UsedJ w fd pd sd L l po so news d (i + 1) m' ((fd, fo) :: (L + 1, oc) :: (D, W.listOf vs e) :: (tl0 ++ (pd, po) :: (sd, so) :: news)) := by
  refine ⟨fo, _, oc, cv, (D, W.listOf vs e) :: tl0, hm, rfl, hoc, hfo, Nat.le_trans stored_le (Nat.succ_le_succ hle), ?_, ?_, all_cons h1 u1, all_cons h2 u2, all_cons h3 u3⟩
  · rw [hws]
    exact (hwf.mono fun p hp => List.mem_cons_of_mem _ hp).store (by decide)
  · rw [hws]
    show WordsAt _ _ _ (insW s (wordsOf ((deedOps d).take i).reverse).2)
    rw [hfw]
    exact words_at hc hst
theorem UsedJ.skip {o : Opn} (hm : ∀ p ∈ [("found", Value.ref fd), ("spots", .ref pd), ("sorts", .ref sd), ("operations", .ref l)], m' (Str.ofString p.1) = some p.2) (hoc : oc.data = .cell cv) (hfo : fo.IsDictOf (PySem.strKind PP w) kvs) (hle : kvs.length ≤ i)
    (hws : ((deedOps d).take (i + 1)).reverse = o :: ((deedOps d).take i).reverse) (ho : o = .q ∨ o = .Q)
    (hwf : WordsAt tl0 kvs "Font" (wordsOf ((deedOps d).take i).reverse).1) (hwx : WordsAt tl0 kvs "XObject" (wordsOf ((deedOps d).take i).reverse).2) (u1 : ∀ p ∈ tl0, @LT.lt Nat _ L p.1) (u2 : ∀ p ∈ tl0, p.1 ≠ fd) (u3 : ∀ p ∈ tl0, p.1 ≠ L + 1) :
    UsedJ w fd pd sd L l po so news d (i + 1) m' ((fd, fo) :: (L + 1, oc) :: (tl0 ++ (pd, po) :: (sd, so) :: news)) := by
  refine ⟨fo, kvs, oc, cv, tl0, hm, rfl, hoc, hfo, Nat.le_succ_of_le hle, ?_, ?_, u1, u2, u3⟩
  · rw [hws]; rcases ho with rfl | rfl <;> exact hwf
  · rw [hws]; rcases ho with rfl | rfl <;> exact hwx
end
end
section
section
variable {prog : Program} {w : World} {A : Around} {h₀ : Heap} {L : Addr} {m : Str → Option Value} {env : Env} {ct elt : Expr} {x : Str} {scope : Scope} {cl : List (Str × Addr)} {s : Shared} {S : Led → Prop} {P : Nat → Value → Prop} {Fin : List Value → Led → Prop} {news : Led}
/-- a comprehension by an invariant over what it has taken, its list and the ledger -/
theorem comp_inv {n : Nat} (J : Nat → List Value → Led → Prop) (h0 : J 0 [] news)
    (turn : ∀ i ys nw v I oI C oC D m₂ h tk (E' : Value → Shared → Prop), i < n → P i v → J i ys nw → LCg.NsObj oC m₂ → m₂ x = some v → Fr h₀ L h m → News h₀ L h ((I, oI) :: (C, oC) :: (D, LCg.lst ys) :: nw) → LCg.Off3 I C D nw → ((@Ne Nat I C) ∧ (@Ne Nat I D) ∧ (@Ne Nat C D)) →
      wpAny (model prog w) A (eval elt (compEnvC scope cl C env)) (LCg.CompEnd h₀ L m { s with heap := h, toks := tk } I oI C oC D (LCg.lst ys) S (fun y nw' => J (i + 1) (ys ++ [y]) nw')) E' { s with heap := h, toks := tk })
    (done : ∀ ys nw, J n ys nw → Fin ys nw) : LCg.CompRest prog w A h₀ L m env elt x scope cl s S P Fin n 0 [] news := by
  have key : ∀ (j i : Nat) (ys : List Value) (nw : Led), i + j = n → J i ys nw → LCg.CompRest prog w A h₀ L m env elt x scope cl s S P Fin j i ys nw := by
    intro j
    induction j with
    | zero =>
      intro i ys nw hi hj
      have e : i = n := by omega
      subst e
      exact LCg.CompRest.zero (done _ _ hj)
    | succ j ih =>
      intro i ys nw hi hj
      refine LCg.CompRest.succ ?_
      intro v I oI C oC D m₂ h tk E' hv hC hx F N off ne
      refine wpAny_mono (turn i ys nw v I oI C oC D m₂ h tk E' (by omega) hv hj hC hx F N off ne) (fun y s₂ hq => ?_) fun _ _ e => e
      obtain ⟨h', tk', nw', e, F', N', off', hS, hj'⟩ := hq
      exact ⟨h', tk', nw', e, F', N', off', hS, ih (i + 1) _ _ (by omega) hj'⟩
  exact key n 0 [] news (by omega) h0
/-- the same, with a test -/
theorem comp_invT {n : Nat} (J : Nat → List Value → Led → Prop) (h0 : J 0 [] news)
    (turn : ∀ i ys nw v I oI C oC D m₂ h tk (E' : Value → Shared → Prop), i < n → P i v → J i ys nw → LCg.NsObj oC m₂ → m₂ x = some v → Fr h₀ L h m → News h₀ L h ((I, oI) :: (C, oC) :: (D, LCg.lst ys) :: nw) → LCg.Off3 I C D nw → ((@Ne Nat I C) ∧ (@Ne Nat I D) ∧ (@Ne Nat C D)) →
      wpAny (model prog w) A (isTrue ct (compEnvC scope cl C env) (eval ct (compEnvC scope cl C env))) (fun ok s' => if ok = true then
        wpAny (model prog w) A (eval elt (compEnvC scope cl C env)) (LCg.CompEnd h₀ L m { s with heap := h, toks := tk } I oI C oC D (LCg.lst ys) S (fun y nw' => J (i + 1) (ys ++ [y]) nw')) E' s'
        else LCg.CompEnd h₀ L m { s with heap := h, toks := tk } I oI C oC D (LCg.lst ys) S (fun _ nw' => J (i + 1) ys nw') Value.none s') E' { s with heap := h, toks := tk })
    (done : ∀ ys nw, J n ys nw → Fin ys nw) : LCt.CompRestT prog w A h₀ L m env ct elt x scope cl s S P Fin n 0 [] news := by
  have key : ∀ (j i : Nat) (ys : List Value) (nw : Led), i + j = n → J i ys nw → LCt.CompRestT prog w A h₀ L m env ct elt x scope cl s S P Fin j i ys nw := by
    intro j
    induction j with
    | zero =>
      intro i ys nw hi hj
      have e : i = n := by omega
      subst e
      exact LCt.CompRestT.zero (done _ _ hj)
    | succ j ih =>
      intro i ys nw hi hj
      refine LCt.CompRestT.succ ?_
      intro v I oI C oC D m₂ h tk E' hv hC hx F N off ne
      refine wpAny_mono (turn i ys nw v I oI C oC D m₂ h tk E' (by omega) hv hj hC hx F N off ne) (fun ok s₂ hq => ?_) fun _ _ e => e
      cases ok with
      | true =>
        simp only [if_true] at hq ⊢
        refine wpAny_mono hq (fun y s₃ hq => ?_) fun _ _ e => e
        obtain ⟨h', tk', nw', e, F', N', off', hS, hj'⟩ := hq
        exact ⟨h', tk', nw', e, F', N', off', hS, ih (i + 1) _ _ (by omega) hj'⟩
      | false =>
        simp only [Bool.false_eq_true, if_false] at hq ⊢
        obtain ⟨h', tk', nw', e, F', N', off', hS, hj'⟩ := hq
        exact ⟨h', tk', nw', e, F', N', off', hS, ih (i + 1) _ _ (by omega) hj'⟩
  exact key n 0 [] news (by omega) h0
end
section
variable {prog : Program} {w : World} {A : Around} {E : Value → Shared → Prop} {s : Shared} {h₀ : Heap} {L d l : Addr} {m : Str → Option Value} {news : Led} {Q : Value → Shared → Prop}
theorem ki_turnE (f : Array Value → Array Value) {its its' : Array Value} {n : Nat} {h : Heap} {pre post : Led} {D : Addr} (N : News h₀ L h (pre ++ (D, W.listOf its n) :: post)) (a : ∀ p ∈ pre, p.1 ≠ D) (b : ∀ p ∈ post, p.1 ≠ D) (he : f its = its') :
    ∃ n', News h₀ L (h.update D (Obj.mapSeq f)) (pre ++ (D, W.listOf its' n') :: post) := ⟨_, ki_turn f N a b he rfl⟩
open Classical in
theorem dat_eq {v u : Value} {d e : Dat} {n k : Nat} {n₁ n₂ : Led} (N : News h₀ L s.heap news) (a : DatIn n₁ v d) (sa : ∀ p ∈ n₁, p ∈ news) (b : DatIn n₂ u e) (sb : ∀ p ∈ n₂, p ∈ news) (ha : kqdOk n d = true) (hb : kqdOk k e = true) (hn : n ≤ 64) (hk : k ≤ 64) (hu : A.units + 64 < cLine)
    (h : Q (.bool (decide (d = e))) s) : wpAny (model prog w) A (compareOp .Eq v u) Q E s := by
  obtain ⟨as, ra⟩ := kqd_in N n (a.mono sa) ha
  obtain ⟨bs, rb⟩ := kqd_in N k (b.mono sb) hb
  have la := kqd_lay n d ha
  have lb := kqd_lay k e hb
  have ee : PyData.eqv (kqdP d) (kqdP e) = decide (d = e) := by
    have q := kqd_eqv n d e k ha hb
    by_cases hq : d = e
    · rw [decide_eq_true hq]; exact q.mpr hq
    · rw [decide_eq_false hq]; exact Bool.eq_false_iff.mpr fun x => hq (q.mp x)
  refine eq_dataH ra rb ?_ ?_ hu (by rw [ee]; exact h)
  · unfold SeqAt.shaped; rw [la.1, Bool.true_and]; exact decide_eq_true (Nat.le_trans la.2 hn)
  · unfold SeqAt.shaped; rw [lb.1, Bool.true_and]; exact decide_eq_true (Nat.le_trans lb.2 hk)
/-- the keys of a dict with text keys -/
theorem keys_strs {kvs : List (Str × Value)} : ∀ {vs : List Value}, vs.length = kvs.length → (∀ (j : Nat) (v : Value), vs[j]? = some v → ∃ k x, kvs[j]? = some (k, x) ∧ (PySem.strKind prog w).is k v = true) → PyProof.Rows.StrsAre vs (kvs.map (·.1)) := by
  induction kvs with
  | nil => intro vs hl _; rw [List.eq_nil_of_length_eq_zero hl]; exact .nil
  | cons a kvs ih =>
    intro vs hl h
    cases vs with
    | nil => cases hl
    | cons v vs =>
      obtain ⟨k, x, e, hk⟩ := h 0 v rfl
      simp only [List.getElem?_cons_zero, Option.some.injEq] at e
      subst e
      have hs : ∃ t, v = .str k t := by
        cases v <;> first | cases hk | skip
        rename_i y t
        exact ⟨t, by have h9 : (y == k) = true := hk; rw [beq_iff_eq.mp h9]⟩
      obtain ⟨t, rfl⟩ := hs
      exact .cons _ _ (ih (by simpa using hl) fun j u hu => h (j + 1) u (by simpa using hu))
theorem list_sort_strs {vs : List Value} {ss : List Str} {n : Nat} {D : Addr} {rest : Led} (F : Fr h₀ L s.heap m) (N : News h₀ L s.heap ((D, W.listOf vs.toArray n) :: rest)) (hlt : ∀ p ∈ rest, p.1 < D) (hS : PyProof.Rows.StrsAre vs ss) (h64 : vs.length < 64)
    (h : ∀ h' vs' ss' e, Fr h₀ L h' m → News h₀ L h' ((D, W.listOf vs' e) :: rest) → PyProof.Rows.StrsAre vs'.toList ss' → ss'.Perm ss → sortedS ss' = true → Q .none { s with heap := h' }) :
    wpAny (model prog w) A (call (.builtin "list.sort") [.ref D]) Q E s := by
  have z := N (D, W.listOf vs.toArray n) List.mem_cons_self
  refine wpAny_call_entry PyProof.Rows.slot_list_sort ⟨_, z.1, rfl⟩ PyProof.Rows.entry_list_sort (list_sort_treeK (n := n) (vs := vs) strKind_oneLt z.1 hS.keysOf (fun v₁ v₂ rest e => keyKind_strs (by rw [← e]; exact hS)) h64 fun st' hp hs => ⟨.none, rfl, ?_⟩) (PyProof.Rows.args_list_sort _)
  obtain ⟨ss', a1, a2, a3⟩ := sorted_out_str hS hp hs
  have a : ∀ p ∈ ([] : Led), p.1 ≠ D := fun _ h => (nomatch h)
  have b : ∀ p ∈ rest, p.1 ≠ D := fun p hp => Nat.ne_of_lt (hlt p hp)
  generalize (arrOf st').map (·.2) = out at a1
  have F1 : Fr h₀ L (s.heap.update D (Obj.mapSeq fun _ => (#[] : Array Value))) m := F.change (Heap.SameBut.update ..) z.2.1 z.2.2
  obtain ⟨n1, N1⟩ := ki_turnE (pre := []) (fun _ => (#[] : Array Value)) (its' := #[]) N a b rfl
  have N2 := News.grown N1 fun _ _ e => Heap.get?_push_of_some (seqObj "tuple" vs.toArray 0) e
  have N3 := News.grown N2 fun _ _ e => Heap.get?_push_of_some (seqObj "list" #[] 0) e
  obtain ⟨n2, N4⟩ := ki_turnE (pre := []) (fun _ => out) (its' := out) N3 a b rfl
  have F4 : Fr h₀ L ((((s.heap.update D (Obj.mapSeq fun _ => (#[] : Array Value))).push (seqObj "tuple" vs.toArray 0)).push (seqObj "list" #[] 0)).update D (Obj.mapSeq fun _ => out)) m :=
    ((F1.push (seqObj "tuple" vs.toArray 0)).push (seqObj "list" #[] 0)).change (Heap.SameBut.update ..) z.2.1 z.2.2
  exact h _ out ss' n2 F4 N4 a1 a2 a3
/-- sorted of a dict with text keys -/
theorem sorted_dict {o : Obj} {kvs : List (Str × Value)} (hh : A.handled = none) (F : Fr h₀ L s.heap m) (N : News h₀ L s.heap news) (hm : (d, o) ∈ news) (ho : o.IsDictOf (PySem.strKind prog w) kvs) (lo : (d == sysModules) = false) (h64 : kvs.length < 64)
    (h : ∀ D h' tk vs' ss' e, Fr h₀ L h' m → News h₀ L h' ((D, W.listOf vs' e) :: news) → (∀ p ∈ news, p.1 < D) → PyProof.Rows.StrsAre vs'.toList ss' → ss'.Perm (kvs.map (·.1)) → sortedS ss' = true → Q (.ref D) { s with heap := h', toks := tk }) :
    wpAny (model prog w) A (call (.builtin "sorted") [.ref d]) Q E s := by
  have hD := kda_dict N hm ho
  obtain ⟨ep, hat⟩ := hD.dictAt
  refine kdu_sorted (kdl_dict (kvs := kvs) (ep := ep) lo) hh F N hat (by rw [sizeLine_eq]; omega) fun D h' tk vs F' N' l1 hl hv => ?_
  have hS := keys_strs hl hv
  refine list_sort_strs F' N' l1 hS (by rw [hl]; exact h64) fun h2 vs' ss' e F2 N2 b1 b2 b3 => ?_
  exact h D h2 tk vs' ss' e F2 N2 l1 b1 b2 b3
end
end
section
local macro_rules | `(tactic| walk_at $s:str) => `(tactic| k_extra $(Lean.Syntax.mkStrLit ("=" ++ s.getString)))
example : True := by
  k_with "=execs cons" =>
    (k_here; (fail_if_success (with_reducible rename NoSt => h9)); first | k_gentoks | ((with_reducible refine wpAny_execs_cons ?_); (try dsimp only)))
  k_with "=execs nil" =>
    (k_here; (fail_if_success (with_reducible rename NoSt => h9)); first | k_gentoks | (with_reducible refine wpAny_execs_nil ?_))
  k_with "=exec If" =>
    (k_here; (fail_if_success (with_reducible rename NoSt => h9)); (with_reducible refine wpAny_If ?_))
  k_with "=exec Return some" =>
    (k_here; (fail_if_success (with_reducible rename NoSt => h9)); (with_reducible refine wpAny_Return_some ?_))
  k_with "=truthy bool" =>
    (k_here; (fail_if_success (with_reducible rename NoSt => h9)); (with_reducible refine wpAny_truthy_bool ?_))
  k_with "=eval Attribute Name" =>
    (k_here; (fail_if_success (with_reducible rename NoSt => h9)); (k_dflt (refine Attribute_Name_ ?_)))
  trivial
local macro_rules | `(tactic| k_all) => `(tactic| k_extra "my off")
local macro_rules | `(tactic| k_lt $h:ident) => `(tactic| skip)
local macro_rules | `(tactic| k_lt2 $h:ident) => `(tactic| ((replace $h := ltN $h); (have hl7 := lt_over (o := dictOf [] 0) (by with_reducible assumption) $h)))
example : True := by
  k_with "my lts" =>
    repeat ((with_reducible rename (∀ p : Addr × Obj, p ∈ _ :: _ → @LT.lt Nat _ p.1 _) => hb9); (have hf9 := ltFst hb9); (try dsimp only at hf9); (have hc9 := ltRest hb9); clear hb9)
  k_with "my chain" =>
    first | with_reducible assumption | with_reducible exact Nat.lt_succ_self _ | ((with_reducible refine' Nat.lt_trans ?a9z8 ?b9z8); (case b9z8 => with_reducible assumption); (case a9z8 => k_extra "my chain")) | fail "my chain"
  k_with "my om" =>
    first | k_extra "my chain" | omega | (k_extra "my lts"; omega)
  k_with "my grow" =>
    first | (k_extra "my sub"; done) | k_extra "my inn"
  k_with "my o" =>
    (refine opq ?_; intro _ _)
  k_with "my q" =>
    try (with_reducible refine' opq_app ?h9z12 ?_; (case h9z12 => with_reducible assumption))
  k_with "my ne" =>
    first | with_reducible assumption | exact Nat.ne_of_gt (by with_reducible assumption) | exact Nat.ne_of_lt (by with_reducible assumption) | exact Ne.symm (by with_reducible assumption) | k_extra "my ne2" | ((with_reducible refine Nat.ne_of_gt ?_); k_extra "my chain") | ((with_reducible refine Nat.ne_of_lt ?_); k_extra "my chain") | omega | (k_extra "my lts"; omega)
  k_with "my kne" =>
    (refine neN ?_; (try dsimp only); k_extra "my ne")
  trivial
local macro_rules | `(tactic| k_ne) => `(tactic| k_extra "my kne")
example : True := by
  k_with "=subscriptTail" =>
    (k_here; (with_reducible show wpAny _ _ (subscriptTail _ _ (Value.ref _) (Value.int _ _)) _ _ _); k_dflt (first
      | (refine' m_item ?k1z15 ?k2z15 ?k3z15 ?k4z15 ?k5z15 ?_ ?k6z15; (case k3z15 => decide); (case k4z15 => decide); (case k1z15 => k_asm); (case k2z15 => k_mem); (case k5z15 => rfl); (case k6z15 => with_unfolding_all rfl); k_whole)
      | (refine' m_itemT ?k1z15 ?k2z15 ?k3z15 ?k4z15 ?k5z15 ?_ ?k6z15; (case k3z15 => decide); (case k4z15 => decide); (case k1z15 => k_asm); (case k2z15 => k_mem); (case k5z15 => rfl); (case k6z15 => with_unfolding_all rfl); k_whole)))
  k_with "my islist" =>
    exact News.isList (by assumption) (by k_mem)
  trivial
local macro_rules | `(tactic| is_list) => `(tactic| k_extra "my islist")
example : True := by
  k_with "=call builtin:len" =>
    (k_here; (with_reducible show wpAny _ _ (call (Value.builtin "len") [Value.ref _]) _ _ _); refine len_ints_fit (News.isList (by assumption) (by k_mem)) (by assumption) (by omega) ?_)
  trivial
local macro_rules | `(tactic| k_mem) => `(tactic| k_extra "my mem")
example : True := by
  k_with "my kroom" =>
    ((try simp only [depth_under_make, depth_under_kw, depth_in1, depth_deeper, depth_caller]); (try dsimp only [ktrTop]); k_extra "my room")
  trivial
local macro_rules | `(tactic| ktr_room) => `(tactic| k_extra "my kroom")
example : True := by
  k_with "my kunits" =>
    ((try simp only [units_in1, units_deeper, Around.mark_units, units_caller, units_under_make]); (try dsimp only [ktrTop]); k_extra "my room")
  trivial
local macro_rules | `(tactic| ktr_units) => `(tactic| k_extra "my kunits")
example : True := by
  k_with "my room" =>
    first
      | ((with_reducible refine room1 (by with_reducible assumption) ?_); exact rfl)
      | ((with_reducible refine room2 (by with_reducible assumption) ?_); exact rfl)
      | ((with_reducible refine room3 (by with_reducible assumption) ?_); exact rfl)
      | (with_reducible exact room0 (by with_reducible assumption))
      | ((with_reducible refine room2v (by with_reducible assumption) ?_); exact rfl)
      | ((with_reducible refine room2w (by with_reducible assumption) ?_); exact rfl)
      | ((with_reducible refine room1v (by with_reducible assumption) ?_); exact rfl)
      | ((with_reducible refine room1w (by with_reducible assumption) ?_); exact rfl)
      | ((with_reducible refine room3v (by with_reducible assumption) ?_); exact rfl)
      | ((with_reducible refine room3w (by with_reducible assumption) ?_); exact rfl)
      | (with_reducible exact roomS (by with_reducible assumption))
      | (with_reducible exact roomU (by with_reducible assumption))
      | omega
  trivial
local macro_rules | `(tactic| k_room) => `(tactic| ktr_room)
example : True := by
  k_with "=subscriptTail Tuple" =>
    (k_here; (with_reducible show wpAny _ _ (subscriptTail (Expr.Tuple _ _ _) _ (Value.ref _) (Value.int _ _)) _ _ _); k_dflt (refine' m_pickT ?k1z21 ?k2z21 ?k3z21 ?k4z21 ?k5z21 ?_ ?k6z21; (case k1z21 => k_asm); (case k2z21 => k_mem); (case k3z21 => omega); (case k4z21 => (show _ < (_ : Int); omega)); (case k5z21 => exact Nat.le_of_ble_eq_true rfl); (case k6z21 => with_unfolding_all rfl); k_whole); intro _ hm8; (simp only [List.mem_cons, List.not_mem_nil, or_false] at hm8); (rcases hm8 with e8 | e8 | e8 | e8 | e8) <;> subst e8)
  k_with "my pull" =>
    repeat' (first | with_reducible exact Pull.head | with_reducible refine' Pull.tail ?_ | with_reducible refine' Pull.app ?_)
  k_with "my sub" =>
    (intro _ hp; repeat (first | with_reducible exact hp | with_reducible refine' List.mem_cons_of_mem _ ?_))
  k_with "my mid" =>
    (refine' Mid.pull ?tz24 ?az24 ?bz24 ?cz24 ?_; (case tz24 => assumption); (case az24 => assumption); (case bz24 => assumption); (case cz24 => k_extra "my pull"))
  trivial
local macro_rules | `(tactic| k_enter) => `(tactic| ktr_enter)
example : True := by
  k_with "my kindv" =>
    ((with_reducible show KindV _ _ _); first
      | with_reducible exact KindV.none
      | (refine' KindV.form (strObj.intro ?h1z25 ?h2z25); (case h1z25 => k_extra "my mem"); (case h2z25 => k_extra "my mem"))
      | (refine' KindV.image (strObj.intro ?h1z25 ?h2z25); (case h1z25 => k_extra "my mem"); (case h2z25 => k_extra "my mem")))
  k_with "my grown" =>
    ((with_reducible show ∀ p ∈ _, p ∈ _); k_extra "my sub")
  k_with "my off" =>
    first | with_reducible assumption | (with_reducible refine ne_of_lts ?_; with_reducible assumption) | (with_reducible refine' off_of_lt ?h9z27 ?s9z27; (case h9z27 => with_reducible assumption); (case s9z27 => k_extra "my inn")) | (with_reducible refine' off_cons ?az27 ?bz27; (case az27 => k_extra "my ne"); (case bz27 => k_extra "my off")) | ((with_reducible refine' List.forall_mem_append.mpr ⟨?_, ?_⟩) <;> k_extra "my off") | (with_reducible refine' Above.ne ?hz27 ?mz27; (case hz27 => with_reducible assumption); (case mz27 => k_extra "my mem")) | (with_reducible refine' lt_mem ?h9z27 ?m9z27; (case h9z27 => with_reducible assumption); (case m9z27 => k_extra "my mem")) | fail "my off"
  k_with "=setItem ref str" =>
    (k_here; k_dflt (refine' fl_set (knd := PySem.strKind _ _) ?Fz28 ?Nz28 ?Uz28 ?dz28 (strKind_is _ _ _ _) ?zz28 ?_; (case Fz28 => k_asm); (case Nz28 => k_asm); (case Uz28 => k_updF); (case dz28 => k_asm); (case zz28 => first | exact headK_le _ _ _ | (rw [sizeLine_eq]; exact len_cap (by with_reducible assumption) (by with_reducible assumption) rfl) | (rw [sizeLine_eq]; omega) | (rw [sizeLine_eq]; exact Nat.le_of_ble_eq_true (by with_unfolding_all rfl)))); intro _ _ _ N' _; (try dsimp only at N'); (try k_sweep))
  k_with "my mid2" =>
    (refine' Mid.pull2 ?tz29 ?t2z29 ?az29 ?bz29 ?cz29 ?c2z29 ?_; (case tz29 => assumption); (case t2z29 => assumption); (case az29 => assumption); (case bz29 => assumption); (case cz29 => k_extra "my pull"); (case c2z29 => k_extra "my pull"))
  k_with "my upto" =>
    repeat' (first | ((fail_if_success (with_reducible show wpAny _ _ (pyIter _) _ _ _)); first | walk1 | (dsimp only; walk1)))
  k_with "my perm" =>
    first | ((with_reducible refine all_cons ?az31 ?bz31); (case az31 => k_extra "my mem"); (case bz31 => k_extra "my perm")) | k_extra "my sub"
  k_with "my pulls" =>
    repeat' (first | with_reducible exact Pulls.nil | with_reducible refine' Pulls.cons ?_ ?_ | with_reducible exact Pull.head | with_reducible refine' Pull.tail ?_ | with_reducible refine' Pull.app ?_)
  k_with "my mids" =>
    (refine' Mid.pulls ?tz33 ?az33 ?bz33 ?cz33 ?_; (case tz33 => assumption); (case az33 => assumption); (case bz33 => assumption); (case cz33 => k_extra "my pulls"))
  k_with "=TurnEnd" =>
    ((with_reducible show TurnEnd _ _ _ _ _ _ _ (Flow.ret _) _); dsimp only [TurnEnd])
  k_with "=getMethod ref" =>
    (k_here; (with_reducible show wpAny _ _ (getMethod (Value.ref _) (Str.ofString "get") _) _ _ _); k_dflt (first | (refine' m_getMethod (knd := PySem.strKind PP _) ?k1z35 ?k2z35 ?k3z35 PySem.F.slot_dict_get PySem.F.type_dict_get ?_; (case k1z35 => with_reducible assumption); (case k2z35 => k_mem); (case k3z35 => with_reducible assumption)) | (refine' m_getMethod (knd := PySem.intKind PP _) ?k1z35 ?k2z35 ?k3z35 PySem.F.slot_dict_get PySem.F.type_dict_get ?_; (case k1z35 => with_reducible assumption); (case k2z35 => k_mem); (case k3z35 => with_reducible assumption))))
  k_with "=call builtin:dict.get" =>
    (k_here; k_dflt (first
      | ((with_reducible show wpAny _ _ (call (Value.builtin "dict.get") [Value.ref _, Value.int _ _]) _ _ _); refine' m_get1 (knd := PySem.intKind PP _) ?k1z36 ?k2z36 ?k3z36 (intKind_is _ _ _ _) ?k4z36 ?_; (case k1z36 => with_reducible assumption); (case k2z36 => k_mem); (case k3z36 => with_reducible assumption); (case k4z36 => with_reducible assumption))
      | ((with_reducible show wpAny _ _ (call (Value.builtin "dict.get") [Value.ref _, Value.str _ _]) _ _ _); refine' m_get1 (knd := PySem.strKind PP _) ?k1z36 ?k2z36 ?k3z36 (strKind_is _ _ _ _) ?k4z36 ?_; (case k1z36 => with_reducible assumption); (case k2z36 => k_mem); (case k3z36 => with_reducible assumption); (case k4z36 => with_reducible assumption))
      | ((with_reducible show wpAny _ _ (call (Value.builtin "dict.get") [Value.ref _, Value.int _ _, _]) _ _ _); refine' m_get2 (knd := PySem.intKind PP _) ?k1z36 ?k2z36 ?k3z36 (intKind_is _ _ _ _) ?k4z36 ?_; (case k1z36 => with_reducible assumption); (case k2z36 => k_mem); (case k3z36 => with_reducible assumption); (case k4z36 => with_reducible assumption))
      | ((with_reducible show wpAny _ _ (call (Value.builtin "dict.get") [Value.ref _, Value.str _ _, _]) _ _ _); refine' m_get2 (knd := PySem.strKind PP _) ?k1z36 ?k2z36 ?k3z36 (strKind_is _ _ _ _) ?k4z36 ?_; (case k1z36 => with_reducible assumption); (case k2z36 => k_mem); (case k3z36 => with_reducible assumption); (case k4z36 => with_reducible assumption))); (try k_extra "my vals"))
  k_with "my ontop" =>
    repeat' (first | with_reducible exact OnTop.nil | with_reducible exact OnTop.top | with_reducible refine' OnTop.cons ?_ | with_reducible refine' OnTop.app ?_)
  k_with "my above" =>
    first | with_reducible exact Above.nil | ((refine' ⟨_, ?a9z38, ?b9z38⟩); (case a9z38 => with_reducible assumption); (case b9z38 => k_extra "my les")) | ((with_reducible rename (∀ p : Addr × Obj, p ∈ _ → @LT.lt Nat _ p.1 _) => hA9); first | (refine' ⟨_, ?a9z38, ?b9z38⟩; (case a9z38 => exact hA9); (case b9z38 => k_extra "my les")) | (clear hA9; k_extra "my above")) | fail "my above"
  k_with "my les" =>
    first | with_reducible exact List.forall_mem_nil _ | ((with_reducible refine all_cons ?a9z39 ?b9z39); (case a9z39 => first | exact Nat.le_refl _ | ((try dsimp only); with_reducible refine Nat.le_of_lt ?_; with_reducible assumption) | ((try dsimp only); (with_reducible refine' Nat.le_of_lt (lt_mem ?h8z39 ?m8z39)); (case h8z39 => with_reducible assumption); (case m8z39 => k_extra "my mem")) | (dsimp only; omega)); (case b9z39 => k_extra "my les")) | fail "my les"
  k_with "my mem" =>
    first | with_reducible assumption | with_reducible exact List.mem_cons_self | (with_reducible refine' List.mem_cons_of_mem _ ?_; k_extra "my mem") | (with_reducible refine' List.mem_append_left _ ?_; k_extra "my mem") | (with_reducible refine' List.mem_append_right _ ?_; k_extra "my mem") | exact subIn (by with_reducible assumption) (by with_reducible assumption) | fail "my mem"
  k_with "my enterC" =>
    (refine' code_defC ?k1z41 ?k2z41 ?k3z41 ?k4z41 ?k5z41 ?kAz41 ?kFz41 ?kKz41 ?k6z41 ?k7z41 ?k8z41 ?k9z41 ?kBz41 ?kDz41 ?_ ?c2z41 ?c3z41 ?c4z41; (case kAz41 => exact rfl); (case kFz41 => exact rfl); (case kKz41 => assumption); (case k1z41 => k_asm); (case k2z41 => k_asm); (case k3z41 => k_asm); (case k4z41 => k_asm); (case k5z41 => k_asm); (case k6z41 => k_is); (case k7z41 => k_is); (case k8z41 => ktr_room); (case k9z41 => exact BindsTo.of_eq rfl); (case kBz41 => exact rfl); (case kDz41 => decide +kernel); (case c2z41 => exact rfl); (case c3z41 => exact rfl); (case c4z41 => exact rfl); k_whole; intro _ _ _ _ _ _ _ N' Y' _ _ _ l1; (try dsimp only); k_fold; (have lb := l1); k_cells Y'; (try simp only [List.cons_append, List.nil_append] at N'))
  k_with "my inn" =>
    first | with_reducible exact List.forall_mem_nil _ | ((with_reducible refine' List.forall_mem_append.mpr ⟨?_, ?_⟩) <;> k_extra "my inn") | (with_reducible refine' all_cons ?a9z42 ?b9z42; (case a9z42 => k_extra "my mem"); (case b9z42 => k_extra "my inn")) | (intro _ _; k_extra "my mem") | fail "my inn"
  k_with "my off3" =>
    first | with_reducible assumption | exact True.intro | ((with_reducible rename ((_ ∧ _ ∧ _) ∧ _) => off9); exact off9) | ((with_reducible refine' off3_app ?a9z43 ?b9z43 ?c9z43 ?d9z43 ?e9z43); (case d9z43 => with_reducible assumption); (case a9z43 => with_reducible k_extra "my mem"); (case b9z43 => with_reducible k_extra "my mem"); (case c9z43 => with_reducible k_extra "my mem"); (case e9z43 => k_extra "my off3")) | (refine' And.intro ⟨?a9z43, ?b9z43, ?c9z43⟩ ?d9z43; (case a9z43 => k_ne); (case b9z43 => k_ne); (case c9z43 => k_ne); (case d9z43 => k_extra "my off3")) | ((with_reducible rename ((_ ∧ _ ∧ _) ∧ _) => off9); first | exact off9.2 | exact off9.2.2 | exact off9.2.2.2 | exact off9.2.2.2.2 | exact off9.2.2.2.2.2 | exact off9.2.2.2.2.2.2) | fail "my off3"
  k_with "=CompEnd" =>
    (refine' comp_end ?a9z44 ?b9z44 ?c9z44 ?d9z44 ?e9z44 ?f9z44 ?_; (case a9z44 => assumption); (case b9z44 => assumption); (case c9z44 => k_extra "my pulls"); (case d9z44 => rfl); (case e9z44 => k_extra "my off3"); (case f9z44 => lcg_src))
  k_with "my enterD" =>
    (refine' code_def ?k1z45 ?k2z45 ?k3z45 ?k4z45 ?k5z45 ?kAz45 ?kFz45 ?kKz45 ?k6z45 ?k7z45 ?k8z45 ?k9z45 ?kBz45 ?_ ?c2z45 ?c3z45 ?c4z45 ?c5z45; (case kAz45 => exact rfl); (case kFz45 => exact rfl); (case kKz45 => assumption); (case k1z45 => k_asm); (case k2z45 => k_asm); (case k3z45 => k_asm); (case k4z45 => k_asm); (case k5z45 => k_asm); (case k6z45 => k_is); (case k7z45 => k_is); (case k8z45 => ktr_room); (case k9z45 => first | exact BindsTo.of_eq rfl | exact binds_K (by k_in) rfl (by k_is) rfl rfl rfl); (case c5z45 => decide); (case kBz45 => exact PyProof.Rows.locs rfl); (case c2z45 => exact rfl); (case c3z45 => exact rfl); (case c4z45 => exact rfl); k_whole; intro _ _ _ _ _ _ _ _ _; (try dsimp only); (try k_fold))
  k_with "=CompSrc" =>
    (k_here; k_dflt (refine LCg.CompSrc.ledger (by rfl) (by k_asm) (by k_asm) (by k_mem) (by first | size_fits | exact Nat.le_of_ble_eq_true rfl) ?_; intro _; lcg_lit))
  k_with "=exec Raise some none" =>
    (k_here; (obtain ⟨mN8, mN28, TT8, _⟩ := two_of (by with_reducible assumption)); refine exec_raise (C2 := 46) (mN := mN8) (mN2 := mN28) rfl ?_)
  k_with "my fault" =>
    ((with_reducible rename FaultIs _ => hf8); (with_reducible rename TwoCls _ _ _ _ _ => TT9); (with_reducible rename News _ _ _ _ => N8); (with_reducible rename Fr _ _ _ _ => F8); refine ⟨_, _, rfl, TT9.keeps F8.keep, (N8 _ List.mem_cons_self).1, hf8, ?_⟩; (try dsimp only); refine' leave_first ?a9z48 ?b9z48 ?c9z48 ?d9z48 ?e9z48 ?f9z48 ?g9z48 ?_; (case a9z48 => rfl); (case b9z48 => rfl); (case c9z48 => assumption); (case d9z48 => assumption); (case e9z48 => exact N8); (case f9z48 => with_reducible assumption); (case g9z48 => exact hf8))
  k_with "my vals" =>
    ((with_reducible rename valueAt _ _ = _ => hva9); simp only [hva9, Option.getD_some, Option.getD_none])
  k_with "my pass" =>
    ((with_reducible rename RaisedN _ _ _ _ _ _ => R8); (with_reducible rename Heap.UpToSlots _ _ => U8); (with_reducible rename Fr _ _ _ _ => F8); (try unfold Hold2); refine' leave_any ?a9z50 ?b9z50 F8 R8 U8 ?_; (case a9z50 => rfl); (case b9z50 => assumption))
  k_with "my ne2" =>
    first | (refine' gt_ne ?h9z51 ?m9z51; (case h9z51 => with_reducible assumption); (case m9z51 => k_extra "my mem")) | (refine' lt_ne ?h9z51 ?m9z51; (case h9z51 => with_reducible assumption); (case m9z51 => k_extra "my mem"))
  k_with "my aboves" =>
    first | exact Above.nil | ((with_reducible refine' Above.pushO ?h2z52 ?e9z52 ?hz52); (case e9z52 => (repeat' (first | with_reducible exact OnTop.nil | with_reducible refine' OnTop.cons ?_ | with_reducible refine' OnTop.app ?_))); (case h2z52 => with_reducible assumption); (case hz52 => k_extra "my aboves"))
  k_with "my item" =>
    (k_here; k_dflt (first
      | ((with_reducible show wpAny _ _ (subscriptTail _ _ (Value.ref _) (Value.str _ _)) _ _ _); refine' item_d ?Nz53 ?hpz53 ?hdz53 ?hlz53 ?_ ?hsz53 ?hgz53; (case Nz53 => k_asm); (case hpz53 => k_mem); (case hdz53 => with_reducible assumption); (case hlz53 => first | with_reducible assumption | exact rfl); (case hsz53 => with_unfolding_all rfl); (case hgz53 => intro _; with_unfolding_all rfl); k_whole)
      | ((with_reducible show wpAny _ _ (subscriptTail _ _ (Value.ref _) (Value.int _ _)) _ _ _); refine' m_item ?k1z53 ?k2z53 ?k3z53 ?k4z53 ?k5z53 ?_ ?k6z53; (case k3z53 => omega); (case k4z53 => omega); (case k1z53 => k_asm); (case k2z53 => k_mem); (case k5z53 => first | with_reducible assumption | exact rfl); (case k6z53 => with_unfolding_all rfl); k_whole)
      | ((with_reducible show wpAny _ _ (subscriptTail _ _ (Value.ref _) (Value.int _ _)) _ _ _); refine' m_itemT ?k1z53 ?k2z53 ?k3z53 ?k4z53 ?k5z53 ?_ ?k6z53; (case k3z53 => omega); (case k4z53 => omega); (case k1z53 => k_asm); (case k2z53 => k_mem); (case k5z53 => first | with_reducible assumption | exact rfl); (case k6z53 => with_unfolding_all rfl); k_whole)))
  k_with "=setAttr ref" =>
    (k_here; k_dflt (refine' my_set ?k1z54 ?k2z54 ?k3z54 ?k4z54 ?k5z54 ?k6z54 ?k7z54 ?k8z54 ?k9z54 ?k10z54 ?k11z54 ?k12z54 ?k13z54 ?_; (case k1z54 => k_asm); (case k2z54 => k_asm); (case k3z54 => k_asm); (case k4z54 => k_inst); (case k5z54 => exact rfl); (case k6z54 => k_is); (case k7z54 => k_is); (case k8z54 => k_is); (case k9z54 => k_is); (case k10z54 => k_get); (case k11z54 => k_put); (case k12z54 => k_upd); (case k13z54 => exact Nat.le_of_ble_eq_true rfl); k_whole; intro _ _ _; (try k_sweep)))
  k_with "=storeName" =>
    (k_here; (fail_if_success (with_reducible rename NoSt => h9)); k_dflt (first
      | (refine' st_locs ?Fz55 ?Nz55 ?_ ?az55 ?bz55; (case Fz55 => k_asm); (case Nz55 => k_asm); (case az55 => rfl); (case bz55 => rfl); k_whole)
      | (refine' st_on ?Fz55 ?Nz55 ?_ ?az55 ?bz55; (case Fz55 => k_asm); (case Nz55 => k_asm); (case az55 => rfl); (case bz55 => rfl); k_whole)
      | (refine' st_any ?Fz55 ?Nz55 ?_ ?az55 ?bz55; (case Fz55 => k_asm); (case Nz55 => k_asm); (case az55 => rfl); (case bz55 => rfl); k_whole)); intro _ _ _; (try k_sweep))
  k_with "=And" =>
    ((with_reducible refine and_in (by k_in) ?_); (try dsimp only [List.nil_append, List.cons_append]))
  k_with "=spliced" =>
    (k_here; k_dflt (first
      | (refine' args_all ?Fz57 ?az57 ?oz57 ?vz57 ?_; (case Fz57 => k_asm); (case az57 => first | rfl | assumption); (case oz57 => rfl); (case vz57 => exact rfl); k_whole; (try dsimp only [List.nil_append, List.cons_append]))
      | refine args_cons ?_
      | (refine args_nil ?_; (try dsimp only [List.nil_append, List.cons_append]))))
  k_with "=eval Call" =>
    (k_here; k_dflt (first
      | (refine' call_glob ?Fz58 ?Xz58 ?Tz58 ?az58 ?bz58 ?cz58 ?ez58 ?fz58 ?oz58 ?vz58 ?_; (case bz58 => exact rfl); (case Fz58 => k_asm); (case Xz58 => k_asm); (case Tz58 => k_asm); (case az58 => first | rfl | assumption); (case cz58 => exact rfl); (case ez58 => k_is); (case fz58 => k_is); (case oz58 => exact rfl); (case vz58 => exact rfl); k_whole)
      | ((fail_if_success (with_reducible rename NoSt => h9)); (first | k_extra "my aim" | skip); refine' call_glob2 ?F2z58 ?X2z58 ?T2z58 ?a2z58 ?b2z58 ?c2z58 ?e2z58 ?f2z58 ?o2z58 ?v2z58 ?_; (case b2z58 => exact rfl); (case F2z58 => k_asm); (case X2z58 => k_asm); (case T2z58 => k_asm); (case a2z58 => first | rfl | assumption); (case c2z58 => exact rfl); (case e2z58 => k_is); (case f2z58 => k_is); (case o2z58 => exact rfl); (case v2z58 => exact rfl); k_whole)))
  k_with "=callWith ref" =>
    (k_here; k_dflt (first
      | (refine' call_simple ?Fz59 ?Xz59 ?az59 ?fz59 ?oz59 ?vz59 ?_; (case Fz59 => k_asm); (case Xz59 => k_asm); (case az59 => first | rfl | assumption); (case fz59 => k_is); (case oz59 => exact rfl); (case vz59 => exact rfl); k_whole)
      | (refine' call_self ?Fz59 ?Xz59 ?az59 ?fz59 ?oz59 ?vz59 ?_; (case Fz59 => k_asm); (case Xz59 => k_asm); (case az59 => first | rfl | assumption); (case fz59 => k_is); (case oz59 => exact rfl); (case vz59 => exact rfl); k_whole)))
  k_with "=eval Subscript" =>
    (k_here; k_dflt (refine' sub_all ?Fz60 ?az60 ?oz60 ?vz60 ?_; (case Fz60 => k_asm); (case az60 => first | rfl | assumption); (case oz60 => exact rfl); (case vz60 => exact rfl); k_whole))
  k_with "my aim" =>
    (k_here; (fail_if_success (with_reducible rename NoSt => h9)); (fail_if_success (with_reducible show wpAny _ _ _ (Aim _) _ _)); (with_reducible refine aim ?_); intro _ _)
  k_with "=Aim" =>
    (refine Aim.out (by with_reducible assumption) ?_)
  k_with "=isTrue Compare" =>
    (k_here; (fail_if_success (with_reducible rename NoSt => h9)); k_dflt (refine' cmp_true ?Fz63 ?az63 ?oz63 ?vz63 ?mz63 ?_; (case Fz63 => k_asm); (case az63 => first | rfl | assumption); (case oz63 => exact rfl); (case vz63 => exact rfl); (case mz63 => with_unfolding_all rfl); k_whole))
  k_with "=eval Tuple" =>
    first
      | (k_here; k_dflt (refine' tup_all ?Fz64 ?az64 ?oz64 ?vz64 ?_; (case Fz64 => k_asm); (case az64 => first | rfl | assumption); (case oz64 => exact rfl); (case vz64 => exact rfl); k_whole))
      | k_extra "my aim"
  k_with "=eval List" =>
    first
      | (k_here; k_dflt (refine' list_all ?Fz65 ?az65 ?oz65 ?vz65 ?_; (case Fz65 => k_asm); (case az65 => first | rfl | assumption); (case oz65 => exact rfl); (case vz65 => exact rfl); k_whole))
      | k_extra "my aim"
  k_with "=eval Dict" =>
    ((fail_if_success (fail_if_success (with_reducible show wpAny _ _ (eval (Expr.Dict (_ :: _) _ _) _) _ _ _))); k_extra "my aim")
  k_with "=isTrue BoolOp" =>
    k_extra "my aim"
  k_with "=eval IfExp" =>
    k_extra "my aim"
  k_with "=eval BoolOp" =>
    k_extra "my aim"
  k_with "=eval Call" =>
    ((fail_if_success (fail_if_success (with_reducible show wpAny _ _ _ (LCg.CompEnd _ _ _ _ _ _ _ _ _ _ _ _) _ _))); k_extra "my aim")
  k_with "=eval Call Attribute" =>
    ((fail_if_success (fail_if_success (with_reducible show wpAny _ _ _ (LCg.CompEnd _ _ _ _ _ _ _ _ _ _ _ _) _ _))); k_extra "my aim")
  k_with "=isTrue Compare" =>
    ((fail_if_success (fail_if_success (with_reducible show wpAny _ _ _ (fun _ _ => ite _ _ (LCg.CompEnd _ _ _ _ _ _ _ _ _ _ _ _ _ _)) _ _))); k_extra "my aim")
  k_with "=eval Constant int" =>
    (k_here; (fail_if_success (with_reducible rename NoSt => h9)); refine fl_int ?_)
  k_with "=eval Constant str" =>
    (k_here; (fail_if_success (with_reducible rename NoSt => h9)); refine fl_str ?_)
  k_with "=newList" =>
    (k_here; k_dflt (refine' fl_list ?k1z75 ?k2z75 ?_ ?zz75; (case k1z75 => k_asm); (case k2z75 => k_asm); (case zz75 => first | exact Nat.le_of_ble_eq_true rfl | size_fits); k_whole); intro _ _ _ _ _; (try k_sweep))
  k_with "=newTuple" =>
    (k_here; k_dflt (refine' fl_tup ?Fz76 ?Nz76 ?_ ?zz76; (case Fz76 => k_asm); (case Nz76 => k_asm); (case zz76 => kmk_size)); intro _ _ _ _ _; (try k_sweep))
  k_with "=eval Dict nil nil" =>
    (k_here; k_dflt (refine' fl_dict ?k1z77 ?k2z77 (TopRead.nolimit (by k_asm)) ?_; (case k1z77 => k_asm); (case k2z77 => k_asm); k_whole); intro _ _ _ _ _ _ _ _ _; (try k_sweep))
  k_with "=CompRest" =>
    (with_unfolding_all (refine LCg.CompRest.succ ?_; intro _ _ _ _ _ _ _ _ _ _ hv9 _ _ _ _ off9 _; k_extra "my aim"; (first | lcg_open hv9 | (obtain ⟨t99, hv99⟩ := hv9; subst hv99)); (try simp only [LCg.Off3, and_true] at off9)))
  k_with "=CompRestT" =>
    (with_unfolding_all (refine LCt.CompRestT.succ ?_; intro _ _ _ _ _ _ _ _ _ _ hv9 _ _ _ _ off9 _; k_extra "my aim"; (first | lcg_open hv9 | (obtain ⟨t99, hv99⟩ := hv9; subst hv99)); (try simp only [LCg.Off3, and_true] at off9)))
  k_with "=eval Name" =>
    (k_here; (fail_if_success (with_reducible show wpAny _ _ (eval _ (compEnvC _ _ _ _)) _ _ _)); k_dflt (first
      | (refine' nameX_L ?Fz80 ?vz80 ?_ ?az80 ?bz80 ?ddz80; (case Fz80 => k_asm); (case az80 => rfl); (case bz80 => rfl); (case vz80 => rfl); (case ddz80 => exact rfl); k_whole)
      | (refine' nameX_C ?Nz80 ?cz80 ?mz80 ?dz80 ?_ ?a3z80 ?b3z80 ?dd3z80; (case a3z80 => rfl); (case b3z80 => rfl); (case Nz80 => k_asm); (case cz80 => rfl); (case mz80 => k_mem); (case dz80 => k_asm); (case dd3z80 => exact rfl); k_whole)
      | (refine' nameX_K ?F1z80 ?X1z80 ?T1z80 ?e1z80 ?_ ?a1z80 ?b1z80 ?dd1z80; (case F1z80 => k_asm); (case X1z80 => k_asm); (case T1z80 => k_asm); (case a1z80 => rfl); (case b1z80 => rfl); (case e1z80 => k_is); (case dd1z80 => exact rfl); k_whole)
      | (refine' nameX_B ?F2z80 ?X2z80 ?T2z80 ?e2z80 ?v2z80 ?n2z80 ?_ ?a2z80 ?b2z80 ?dd2z80; (case F2z80 => k_asm); (case X2z80 => k_asm); (case T2z80 => k_asm); (case a2z80 => rfl); (case b2z80 => rfl); (case e2z80 => k_is); (case v2z80 => boot_fast); (case n2z80 => decide); (case dd2z80 => exact rfl); k_whole)))
  k_with "=exec Assign" =>
    (k_here; (fail_if_success (fail_if_success (with_reducible show wpAny _ _ (exec (Stmt.Assign [Expr.Name _ _] _ _) _) _ _ _))); k_dflt (refine wpAny_Assign_Name ?_))
  trivial

section
theorem mkName {w : World} {news : Led} {v0 : Value} : Spec w 4 190 [v0] news
     (fun r news' => ∃ x d t0, r = .ref x ∧ news' = (x, instObj 190 d) :: (d, dictOf [⟨PyData.keyHash w.params (Str.ofString "text"), .str (Str.ofString "text") t0, v0⟩] 1) :: news ∧ (∀ p ∈ news, p.1 < d) ∧ d < x) := by
  intro mean mg mb dp un gd cn cs a ccd cl outer A₀ base h₀ L m s Q E B F X N T hk hd hu hret
  k_steps
  all_goals k_extra "my q"
  exact hret _ _ _ _ (by assumption) (by assumption) ⟨_, _, _, rfl, rfl, by assumption, by assumption⟩
theorem mkRef {w : World} {news : Led} {v0 v1 : Value} : Spec w 4 261 [v0, v1] news
     (fun r news' => ∃ x d t0 t1, r = .ref x ∧ news' = (x, instObj 261 d) :: (d, dictOf [⟨PyData.keyHash w.params (Str.ofString "number"), .str (Str.ofString "number") t0, v0⟩, ⟨PyData.keyHash w.params (Str.ofString "generation"), .str (Str.ofString "generation") t1, v1⟩] 2) :: news ∧ (∀ p ∈ news, p.1 < d) ∧ d < x) := by
  intro mean mg mb dp un gd cn cs a ccd cl outer A₀ base h₀ L m s Q E B F X N T hk hd hu hret
  k_steps
  all_goals k_extra "my q"
  exact hret _ _ _ _ (by assumption) (by assumption) ⟨_, _, _, _, rfl, rfl, by assumption, by assumption⟩
theorem mkStream {w : World} {news : Led} {v0 v1 : Value} : Spec w 4 233 [v0, v1] news
     (fun r news' => ∃ x d t0 t1, r = .ref x ∧ news' = (x, instObj 233 d) :: (d, dictOf [⟨PyData.keyHash w.params (Str.ofString "head"), .str (Str.ofString "head") t0, v0⟩, ⟨PyData.keyHash w.params (Str.ofString "octets"), .str (Str.ofString "octets") t1, v1⟩] 2) :: news ∧ (∀ p ∈ news, p.1 < d) ∧ d < x) := by
  intro mean mg mb dp un gd cn cs a ccd cl outer A₀ base h₀ L m s Q E B F X N T hk hd hu hret
  k_steps
  all_goals k_extra "my q"
  exact hret _ _ _ _ (by assumption) (by assumption) ⟨_, _, _, _, rfl, rfl, by assumption, by assumption⟩
theorem mkOp {w : World} {news : Led} {v0 v1 : Value} : Spec w 4 417 [v0, v1] news
     (fun r news' => ∃ x d t0 t1, r = .ref x ∧ news' = (x, instObj 417 d) :: (d, dictOf [⟨PyData.keyHash w.params (Str.ofString "word"), .str (Str.ofString "word") t0, v0⟩, ⟨PyData.keyHash w.params (Str.ofString "operands"), .str (Str.ofString "operands") t1, v1⟩] 2) :: news ∧ (∀ p ∈ news, p.1 < d) ∧ d < x) := by
  intro mean mg mb dp un gd cn cs a ccd cl outer A₀ base h₀ L m s Q E B F X N T hk hd hu hret
  k_steps
  all_goals k_extra "my q"
  exact hret _ _ _ _ (by assumption) (by assumption) ⟨_, _, _, _, rfl, rfl, by assumption, by assumption⟩
theorem mkSheet {w : World} {news : Led} {v0 v1 v2 v3 : Value} : Spec w 4 443 [v0, v1, v2, v3] news
     (fun r news' => ∃ x d t0 t1 t2 t3, r = .ref x ∧ news' = (x, instObj 443 d) :: (d, dictOf [⟨PyData.keyHash w.params (Str.ofString "operations"), .str (Str.ofString "operations") t0, v0⟩, ⟨PyData.keyHash w.params (Str.ofString "fonts"), .str (Str.ofString "fonts") t1, v1⟩, ⟨PyData.keyHash w.params (Str.ofString "forms"), .str (Str.ofString "forms") t2, v2⟩, ⟨PyData.keyHash w.params (Str.ofString "own"), .str (Str.ofString "own") t3, v3⟩] 4) :: news ∧ (∀ p ∈ news, p.1 < d) ∧ d < x) := by
  intro mean mg mb dp un gd cn cs a ccd cl outer A₀ base h₀ L m s Q E B F X N T hk hd hu hret
  k_steps
  all_goals k_extra "my q"
  exact hret _ _ _ _ (by assumption) (by assumption) ⟨_, _, _, _, _, _, rfl, rfl, by assumption, by assumption⟩
end
section
theorem draw {w : World} {news : Led} {t c : Addr} {at_ lim : Int} {tk tl : Tok} {n nc : Nat} {vs : List Value} {ns : List Int}
  (hc : (c, W.listOf vs.toArray nc) ∈ news) (hne : ∀ p ∈ news, p.1 ≠ t) (hi : IntsAre vs ns) (h1 : 1 ≤ ns.length) (h2 : ns.length ≤ 60) (ha : 0 ≤ at_) (ha2 : at_ ≤ 100) (hl : 1 ≤ lim) (hl2 : lim ≤ 100) :
   Spec w 3 480 [.ref t, .int lim tl] ((t, W.listOf #[.ref c, .int at_ tk] n) :: news)
     (fun r news' => ∃ v tv tk', 0 ≤ v ∧ v < lim ∧ r = .int v tv ∧ news' = (t, W.listOf #[.ref c, .int (at_ + 1) tk'] n) :: news) := by
  unfold Spec
  intro mean mg mb dp un gd cn cs a ccd cl outer A₀ base h₀ L m s Q E B F X N T hk hd hu hret
  refine wpAny_call ?_
  k_dflt ktr_enter
  k_steps
  all_goals k_extra "my q"
  refine hret _ _ _ _ (by assumption) (by assumption) ⟨_, _, _, fmod_lo _ (by omega), fmod_hi _ (by omega), rfl, rfl⟩
theorem draw_u {w : World} {all : Led} {t c : Addr} {at_ lim : Int} {tk tl : Tok} {n nc : Nat} {vs : List Value} {ns : List Int} {g : Obj → Led}
  (hc : (c, W.listOf vs.toArray nc) ∈ all) (hct : c ≠ t) (hi : IntsAre vs ns) (h1 : 1 ≤ ns.length) (h2 : ns.length ≤ 60) (ha : 0 ≤ at_) (ha2 : at_ ≤ 100) (hl : 1 ≤ lim) (hl2 : lim ≤ 100)
  (hup : ∀ o', Upd t (W.listOf #[.ref c, .int at_ tk] n) o' all (g o')) :
   Spec w 3 480 [.ref t, .int lim tl] all
     (fun r news' => ∃ o', (∃ v tv tk', 0 ≤ v ∧ v < lim ∧ r = .int v tv ∧ o' = W.listOf #[.ref c, .int (at_ + 1) tk'] n) ∧ news' = g o') := by
  refine Spec.upd hup fun news h3 h4 h5 => ?_
  have hc' : (c, W.listOf vs.toArray nc) ∈ news := (h3 _ hc).elim (fun e => absurd (congrArg Prod.fst e) hct) id
  intro mean mg mb dp un gd cn cs a ccd cl outer A₀ base h₀ L m s Q E B F X N T hk hd hu hret
  refine (draw hc' h5 hi h1 h2 ha ha2 hl hl2).use B F X N T hk hd hu ?_
  rintro r news' h' tk' F' N' ⟨v, tv, tk1, a1, a2, a3, a4⟩
  exact hret r news' h' tk' F' N' ⟨_, ⟨v, tv, tk1, a1, a2, a3, rfl⟩, a4⟩
end
section
inductive KindOf (w : World) (news : Led) : Value → String → Prop
  | none : KindOf w news .none "null"
  | int (i : Int) (t : Tok) : KindOf w news (.int i t) "int"
  | name {x d : Addr} {es : List DictEntry} {n : Nat} : (x, instObj 190 d) ∈ news → (d, dictOf es n) ∈ news → KindOf w news (.ref x) "name"
  | list {x : Addr} {vs : Array Value} {n : Nat} : (x, W.listOf vs n) ∈ news → KindOf w news (.ref x) "array"
  | dict {x : Addr} {o : Obj} {kvs : List (Str × Value)} : (x, o) ∈ news → o.IsDictOf (PySem.strKind PP w) kvs → KindOf w news (.ref x) "dict"
  | stream {x d : Addr} {es : List DictEntry} {n : Nat} : (x, instObj 233 d) ∈ news → (d, dictOf es n) ∈ news → KindOf w news (.ref x) "stream"
theorem kind_of {w : World} {news : Led} {v : Value} {k : String} (hv : KindOf w news v k) :
   Spec w 2 272 [v] news (fun r news' => news' = news ∧ ∃ tk, r = .str (Str.ofString k) tk) := by
  refine Box.out ?_
  simp (disch := k_dflt (
    refine Box2.mk ?_
    unfold Spec
    intro mean mg mb dp un gd cn cs a ccd cl outer A₀ base h₀ L m s Q E B F X N T hk hd hu hret
    refine wpAny_call ?_
    k_dflt ktr_enter
    cases hv
    case' dict => rename Obj.IsDictOf _ _ _ => ho; obtain ⟨es9, n9, rfl⟩ := dict_exact ho
    all_goals k_steps
    all_goals k_extra "my q"
    all_goals exact hret _ _ _ _ (by assumption) (by assumption) ⟨rfl, _, rfl⟩)) only [↓Box.of]
end
section
theorem decimal_of {w : World} {news : Led} {i : Int} {t : Tok} : Spec w 8 173 [.int i t] news
     (fun r news' => ∃ x d t0 t1 t2 t3, r = .ref x ∧ news' = (x, instObj 155 d) :: (d, dictOf [⟨PyData.keyHash w.params (Str.ofString "top"), .str (Str.ofString "top") t0, .int i t3⟩, ⟨PyData.keyHash w.params (Str.ofString "places"), .str (Str.ofString "places") t1, .int 0 t2⟩] 2) :: news ∧ (∀ p ∈ news, p.1 < d) ∧ d < x) := by
  refine Box.out ?_
  simp (disch := k_dflt (
    refine Box2.mk ?_
    intro mean mg mb dp un gd cn cs a ccd cl outer A₀ base h₀ L m s Q E B F X N T hk hd hu hret
    have nost : NoSt := ⟨⟩
    k_steps
    all_goals k_extra "my q"
    all_goals
      rename (min (0:Int) 0) ≤ _ => hmn
      rename _ ≤ (0:Int) => hle
      have hk0 := Int.le_antisymm hle (show (0:Int) ≤ _ from hmn)
      subst hk0
      rename News h₀ L _ (_ :: _ :: news) => hN9
      simp only [accDown_start, vInt] at hN9
    all_goals first
      | exact hret _ _ _ _ (by assumption) hN9 ⟨_, _, _, _, _, _, rfl, rfl, by assumption, by assumption⟩
      | fail "no")) only [↓Box.of]
end
section
example : True := by
  k_with "=call ref" =>
    ((fail_if_success k_extra "out C12"); ((k_here; (with_reducible show wpAny _ _ (call (Value.ref 173) _) _ _ _); k_dflt (refine' useMk4 (decimal_of) ?_ ?k1z82 ?k2z82 ?k3z82 ?k4z82 ?k5z82 ?k6z82 ?k7z82 ?k8z82; (case k1z82 => k_asm); (case k2z82 => k_asm); (case k3z82 => k_asm); (case k4z82 => k_asm); (case k5z82 => k_asm); (case k6z82 => first | exact rfl | assumption); (case k7z82 => ktr_room); (case k8z82 => ktr_units); k_whole; intro _ _ _ _ _ _ _ _ _ _ _ _ _; (try k_sweep)))))
  trivial

theorem mkMatrix {w : World} {news : Led} {i1 i2 i3 i4 i5 i6 : Int} {t1 t2 t3 t4 t5 t6 : Tok} : Makes w 12 377 [.int i1 t1, .int i2 t2, .int i3 t3, .int i4 t4, .int i5 t5, .int i6 t6] news
     (fun r add => ∃ x, r = .ref x ∧ MatIs add x i1 i2 i3 i4 i5 i6) := by
  refine Box.out ?_
  simp (disch := k_dflt (
    refine Box2.mk ?_
    intro mean mg mb dp un gd cn cs a ccd cl outer A₀ base h₀ L m s Q E B F X N T hk hd hu hret
    k_steps
    all_goals k_extra "my q"
    refine' hret _ _ _ _ ?f ?n ⟨_, OnTop.eq ?ot, ?ab, _, rfl, _, _, _, _, _, _, _, _, _, _, _, _, _, _, _, _, _, _, _, _, ?m1, ?m2, DecIs.intro ?d1 ?e1, DecIs.intro ?d2 ?e2, DecIs.intro ?d3 ?e3, DecIs.intro ?d4 ?e4, DecIs.intro ?d5 ?e5, DecIs.intro ?d6 ?e6⟩
    case f => assumption
    case n => assumption
    case ot => k_extra "my ontop"
    case ab => k_extra "my above"
    case m1 => k_extra "my mem"
    case m2 => k_extra "my mem"
    case d1 => k_extra "my mem"
    case e1 => k_extra "my mem"
    case d2 => k_extra "my mem"
    case e2 => k_extra "my mem"
    case d3 => k_extra "my mem"
    case e3 => k_extra "my mem"
    case d4 => k_extra "my mem"
    case e4 => k_extra "my mem"
    case d5 => k_extra "my mem"
    case e5 => k_extra "my mem"
    case d6 => k_extra "my mem"
    case e6 => k_extra "my mem")) only [↓Box.of]
end
example : True := by
  k_with "out C12" =>
    skip
  trivial
section
example : True := by
  k_with "=call ref" =>
    ((fail_if_success k_extra "out C13"); ((k_here; (with_reducible show wpAny _ _ (call (Value.ref 377) _) _ _ _); k_dflt (refine' useMakes (mkMatrix) ?_ ?k1z83 ?k2z83 ?k3z83 ?k4z83 ?k5z83 ?k6z83 ?k7z83 ?k8z83; (case k1z83 => k_asm); (case k2z83 => k_asm); (case k3z83 => k_asm); (case k4z83 => k_asm); (case k5z83 => k_asm); (case k6z83 => first | exact rfl | assumption); (case k7z83 => ktr_room); (case k8z83 => ktr_units); k_whole; intro _ _ _ _ _ _ _ _; (try k_sweep)))))
  trivial

theorem identity {w : World} {news : Led} : Makes w 14 388 [] news (fun r add => ∃ x, r = .ref x ∧ MatIs add x 1 0 0 1 0 0) := by
  unfold Makes Spec
  intro mean mg mb dp un gd cn cs a ccd cl outer A₀ base h₀ L m s Q E B F X N T hk hd hu hret
  refine wpAny_call ?_
  k_dflt ktr_enter
  k_steps
  all_goals k_extra "my q"
  exact hret _ _ _ _ (by assumption) (by assumption) ⟨_, rfl, by assumption, _, rfl, by assumption⟩
theorem from_array {w : World} {news : Led} {l : Addr} {i1 i2 i3 i4 i5 i6 : Int} {t1 t2 t3 t4 t5 t6 : Tok} {n : Nat} (hl : (l, W.listOf #[.int i1 t1, .int i2 t2, .int i3 t3, .int i4 t4, .int i5 t5, .int i6 t6] n) ∈ news) :
   Makes w 14 395 [.ref l] news (fun r add => ∃ x, r = .ref x ∧ MatIs add x i1 i2 i3 i4 i5 i6) := by
  unfold Makes Spec
  intro mean mg mb dp un gd cn cs a ccd cl outer A₀ base h₀ L m s Q E B F X N T hk hd hu hret
  refine wpAny_call ?_
  k_dflt ktr_enter
  k_steps
  all_goals k_extra "my q"
  exact hret _ _ _ _ (by assumption) (by assumption) ⟨_, rfl, by assumption, _, rfl, by assumption⟩
end
example : True := by
  k_with "out C13" =>
    skip
  trivial
section
theorem isi_ref {w : World} {A : Around} {E Q : Value → Shared → Prop} {s : Shared} {h₀ : Heap} {L : Addr} {m : Str → Option Value} {news : Led} {v : Value} {k : String} (hv : KindOf w news v k) (F : Fr h₀ L s.heap m) (X : (KH w.params).In h₀) (N : News h₀ L s.heap news)
   (h : ∀ tk, Q (.bool false) { s with toks := tk }) : wpAny (model PP w) A (call (.builtin "isinstance") [v, .ref 261]) Q E s := by
  cases hv
  case' dict => rename Obj.IsDictOf _ _ _ => ho; obtain ⟨es9, n9, rfl⟩ := dict_exact ho
  all_goals walk1
  all_goals exact h _
theorem KindOf.mono {w : World} {all all' : Led} {v : Value} {k : String} (h : KindOf w all v k) (hs : ∀ p ∈ all, p ∈ all') : KindOf w all' v k := by
  cases h with
  | none => exact .none
  | int i t => exact .int i t
  | name a b => exact .name (hs _ a) (hs _ b)
  | list a => exact .list (hs _ a)
  | dict a b => exact .dict (hs _ a) b
  | stream a b => exact .stream (hs _ a) (hs _ b)
example : True := by
  k_with "=call builtin:isinstance" =>
    ((fail_if_success k_extra "out C6"); ((k_here; (with_reducible show wpAny _ _ (call (Value.builtin "isinstance") [_, Value.ref 261]) _ _ _); (refine' isi_ref ?k1z84 ?k2z84 ?k3z84 ?k4z84 ?_; (case k1z84 => with_reducible assumption); (case k2z84 => with_reducible assumption); (case k3z84 => with_reducible assumption); (case k4z84 => with_reducible assumption); k_whole); intro _)))
  trivial

theorem fetch_self {w : World} {news : Led} {sh : Addr} {v : Value} {k : String} (hv : KindOf w news v k) :
   Spec w 3 313 [.ref sh, v] news (fun r news' => news' = news ∧ r = v) := by
  refine Box.out ?_
  simp (disch := k_dflt (
    refine Box2.mk ?_
    unfold Spec
    intro mean mg mb dp un gd cn cs a ccd cl outer A₀ base h₀ L m s Q E B F X N T hk hd hu hret
    refine wpAny_call ?_
    k_dflt ktr_enter
    rename_i g' L' h' FG' F' N' B' X' T'
    replace F' := fr_locs F' [("value", v), ("self", .ref sh)] rfl
    refine seg 1 F' (fun m' all' => m' = locs [("here", v), ("value", v), ("self", .ref sh)] ∧ all' = news) ?_ ?_
    · k_extra "my o"
      dsimp only [List.take]
      k_steps
      all_goals k_extra "my q"
      exact Mid.intro (by assumption) (by assumption) ⟨rfl, rfl⟩
    clear F' N'
    rintro m' all' h2 tk2 F2 N2 ⟨rfl, rfl⟩
    dsimp only [List.drop]
    refine wpAny_execs_cons ?_
    refine For_invVF F2 rfl rfl ?_
    k_extra "my upto"
    refine for_range (n := 30) rfl (by decide) (by decide) rfl (by assumption) (by assumption) (fun i m' all'' => i = 0 ∧ m' = locs [("here", v), ("value", v), ("self", .ref sh)] ∧ all'' = all') ⟨rfl, rfl, rfl⟩ ?_ ?_
    · rintro i t m₁ news₁ h tk I it hi ⟨rfl, rfl, rfl⟩ ho hI F5 N5
      have hv5 : KindOf w ((I, it) :: news₁) v k := hv.mono fun p hp => List.mem_cons_of_mem _ hp
      k_steps
      all_goals k_extra "my q"
      exact hret _ _ _ _ (by assumption) (News.perm (by assumption) (fun p hp => List.mem_cons_of_mem _ hp)) ⟨rfl, rfl⟩
    · rintro m₁ news₁ h tk ⟨h0, _⟩
      cases h0)) only [↓Box.of]
set_option autoImplicit false in
/-- the shelf and its table -/
inductive ShelfIs (all : Led) (sh tb : Addr) : Prop
  | mk (d h1 h2 t1 t2 n tr : _)
    (_ : (sh, instObj 323 d) ∈ all)
    (_ : (d, dictOf [⟨h1, .str (Str.ofString "table") t1, .ref tb⟩, ⟨h2, .str (Str.ofString "trailer") t2, .ref tr⟩] n) ∈ all) : ShelfIs all sh tb
set_option autoImplicit false in
/-- a row of the table: the generation 0 and what is found -/
inductive RowIs (w : World) (all : Led) (tb : Addr) (k : Int) (v : Value) : Prop
  | mk (o kvs tp t n : _)
    (_ : (tb, o) ∈ all)
    (_ : o.IsDictOf (PySem.intKind PP w) kvs)
    (_ : (tb == sysModules) = false)
    (_ : valueAt kvs k = some (.ref tp))
    (_ : (tp, tupOf #[.int 0 t, v] n) ∈ all) : RowIs w all tb k v
theorem fetch_ref {w : World} {news : Led} {sh tb x : Addr} {num : Int} {v : Value} {k : String} (hs : ShelfIs news sh tb) (hx : refObj news x num) (hr : RowIs w news tb num v) (hv : KindOf w news v k) :
   Spec w 3 313 [.ref sh, .ref x] news (fun r news' => news' = news ∧ r = v) := by
  refine Box.out ?_
  simp (disch := k_dflt (
    refine Box2.mk ?_
    unfold Spec
    intro mean mg mb dp un gd cn cs a ccd cl outer A₀ base h₀ L m s Q E B F X N T hk hd hu hret
    refine wpAny_call ?_
    k_dflt ktr_enter
    rename_i g' L' h' FG' F' N' B' X' T'
    replace F' := fr_locs F' [("value", .ref x), ("self", .ref sh)] rfl
    refine seg 1 F' (fun m' all' => m' = locs [("here", .ref x), ("value", .ref x), ("self", .ref sh)] ∧ all' = news) ?_ ?_
    · k_extra "my o"
      dsimp only [List.take]
      k_steps
      all_goals k_extra "my q"
      exact Mid.intro (by assumption) (by assumption) ⟨rfl, rfl⟩
    clear F' N'
    rintro m' all' h2 tk2 F2 N2 ⟨rfl, rfl⟩
    dsimp only [List.drop]
    refine wpAny_execs_cons ?_
    refine For_invVF F2 rfl rfl ?_
    k_extra "my upto"
    obtain ⟨sd, sh1, sh2, st1, st2, sn, tr, ms1, ms2⟩ := hs
    obtain ⟨xd, xh1, xh2, xt1, xt2, xt3, xt4, xn, mx1, mx2⟩ := hx
    obtain ⟨o, kvs, tp, tt, tn, mt1, mt2, mt3, mt4, mt5⟩ := hr
    refine for_range (n := 30) rfl (by decide) (by decide) rfl (by assumption) (by assumption) (fun i m' all'' => (i = 0 ∧ m' = locs [("here", .ref x), ("value", .ref x), ("self", .ref sh)] ∧ all'' = all') ∨
       (i = 1 ∧ (∀ p ∈ [("here", v), ("value", Value.ref x), ("self", .ref sh)], m' (Str.ofString p.1) = some p.2) ∧ (∀ p ∈ all', p ∈ all''))) (.inl ⟨rfl, rfl, rfl⟩) ?_ ?_
    · rintro i t m₁ news₁ h tk I it hi (⟨rfl, rfl, rfl⟩ | ⟨rfl, hm, hg⟩) ho hI F5 N5
      · k_steps
        all_goals k_extra "my q"
        refine TurnEnd.next (news' := news₁) (by assumption) (News.perm (by assumption) (fun p hp => List.mem_cons_of_mem _ hp)) ho (.inr ⟨by first | rfl | trivial, ?_, fun p hp => hp⟩)
        exact has_of (by rfl)
      · replace F5 := fr_on F5 _ hm
        have hv5 : KindOf w ((I, it) :: news₁) v k := hv.mono fun p hp => List.mem_cons_of_mem _ (hg p hp)
        k_steps
        all_goals k_extra "my q"
        exact hret _ _ _ _ (by assumption) (News.perm (by assumption) (fun p hp => List.mem_cons_of_mem _ (hg p hp))) ⟨rfl, rfl⟩
    · rintro m₁ news₁ h tk (⟨h0, _⟩ | ⟨h0, _⟩)
      · cases h0
      · cases h0)) only [↓Box.of]
theorem ShelfIs.mono {all all' : Led} {sh tb : Addr} (h : ShelfIs all sh tb) (hs : ∀ p ∈ all, p ∈ all') : ShelfIs all' sh tb := by
  obtain ⟨d, h1, h2, t1, t2, n, tr, a, b⟩ := h
  exact ⟨d, h1, h2, t1, t2, n, tr, hs _ a, hs _ b⟩
theorem RowIs.mono {w : World} {all all' : Led} {tb : Addr} {k : Int} {v : Value} (h : RowIs w all tb k v) (hs : ∀ p ∈ all, p ∈ all') : RowIs w all' tb k v := by
  obtain ⟨o, kvs, tp, t, n, a, b, c, d, e⟩ := h
  exact ⟨o, kvs, tp, t, n, hs _ a, b, c, d, hs _ e⟩
/-- v, fetched, is v' of the kind k -/
inductive FetchTo (w : World) (all : Led) (tb : Addr) : Value → Value → String → Prop
  | self {v : Value} {k : String} : KindOf w all v k → FetchTo w all tb v v k
  | ref {x : Addr} {num : Int} {v : Value} {k : String} : refObj all x num → RowIs w all tb num v → KindOf w all v k → FetchTo w all tb (.ref x) v k
theorem FetchTo.mono {w : World} {all all' : Led} {tb : Addr} {v v' : Value} {k : String} (h : FetchTo w all tb v v' k) (hs : ∀ p ∈ all, p ∈ all') : FetchTo w all' tb v v' k := by
  cases h with
  | self a => exact .self (a.mono hs)
  | ref a b c => exact .ref (a.mono hs) (b.mono hs) (c.mono hs)
theorem FetchTo.kind {w : World} {all : Led} {tb : Addr} {v v' : Value} {k : String} (h : FetchTo w all tb v v' k) : KindOf w all v' k := by
  cases h with
  | self a => exact a
  | ref a b c => exact c
theorem fetch {w : World} {news : Led} {sh tb : Addr} {v v' : Value} {k : String} (hs : ShelfIs news sh tb) (hv : FetchTo w news tb v v' k) :
   Spec w 3 313 [.ref sh, v] news (fun r news' => news' = news ∧ r = v') := by
  cases hv with
  | self a => exact fetch_self a
  | ref a b c => exact fetch_ref hs a b c
end
example : True := by
  k_with "out C6" =>
    skip
  trivial
example : True := by
  k_with "=call ref" =>
    (k_here; (with_reducible show wpAny _ _ (call (Value.ref 313) _) _ _ _); k_dflt (refine' useEq (fetch ?hsz85 ?hvz85) ?_ ?k1z85 ?k2z85 ?k3z85 ?k4z85 ?k5z85 ?k6z85 ?k7z85 ?k8z85; (case k1z85 => k_asm); (case k2z85 => k_asm); (case k3z85 => k_asm); (case k4z85 => k_asm); (case k5z85 => k_asm); (case k6z85 => first | exact rfl | assumption); (case hsz85 => first | with_reducible assumption | (refine ShelfIs.mono (by with_reducible assumption) ?_; k_extra "my grow")); (case hvz85 => first | with_reducible assumption | (refine FetchTo.mono (by with_reducible assumption) ?_; k_extra "my grow")); (case k7z85 => ktr_room); (case k8z85 => ktr_units); k_whole; intro _ _ _ _; (try k_sweep)))
  trivial
section
theorem get {w : World} {news : Led} {sh tb hd : Addr} {o : Obj} {kvs : List (Str × Value)} {key : Str} {t : Tok} {ov v' : Value} {k : String} (hs : ShelfIs news sh tb) (hm : (hd, o) ∈ news) (ho : o.IsDictOf (PySem.strKind PP w) kvs) (hsys : (hd == sysModules) = false)
   (hv : (valueAt kvs key).getD .none = ov) (hf : FetchTo w news tb ov v' k) :
   Spec w 5 320 [.ref sh, .ref hd, .str key t] news (fun r news' => news' = news ∧ r = v') := by
  refine Box.out ?_
  simp (disch := k_dflt (
    refine Box2.mk ?_
    unfold Spec
    intro mean mg mb dp un gd cn cs a ccd cl outer A₀ base h₀ L m s Q E B F X N T hk hd9 hu hret
    refine wpAny_call ?_
    k_dflt ktr_enter
    obtain ⟨sd, sh1, sh2, st1, st2, sn, tr, ms1, ms2⟩ := id hs
    subst hv
    k_steps
    all_goals k_extra "my q"
    exact hret _ _ _ _ (by assumption) (by assumption) ⟨rfl, rfl⟩)) only [↓Box.of]
end
example : True := by
  k_with "=call ref" =>
    (k_here; (with_reducible show wpAny _ _ (call (Value.ref 320) _) _ _ _); k_dflt (refine' useEq (get ?hsz86 ?hmz86 ?hoz86 ?hsysz86 ?hvz86 ?hfz86) ?_ ?k1z86 ?k2z86 ?k3z86 ?k4z86 ?k5z86 ?k6z86 ?k7z86 ?k8z86; (case k1z86 => k_asm); (case k2z86 => k_asm); (case k3z86 => k_asm); (case k4z86 => k_asm); (case k5z86 => k_asm); (case k6z86 => first | exact rfl | assumption); (case hsz86 => first | with_reducible assumption | (refine ShelfIs.mono (by with_reducible assumption) ?_; k_extra "my grow")); (case hmz86 => k_extra "my mem"); (case hoz86 => with_reducible assumption); (case hsysz86 => with_reducible assumption); (case hvz86 => first | with_reducible assumption | (simp only [*]; rfl)); (case hfz86 => first | with_reducible assumption | (refine FetchTo.mono (by with_reducible assumption) ?_; k_extra "my grow")); (case k7z86 => ktr_room); (case k8z86 => ktr_units); k_whole; intro _ _ _ _; (try k_sweep)))
  k_with "=call ref" =>
    (k_here; (with_reducible show wpAny _ _ (call (Value.ref 272) _) _ _ _); k_dflt (refine' useKind (kind_of ?hvz87) ?_ ?k1z87 ?k2z87 ?k3z87 ?k4z87 ?k5z87 ?k6z87 ?k7z87 ?k8z87; (case k1z87 => k_asm); (case k2z87 => k_asm); (case k3z87 => k_asm); (case k4z87 => k_asm); (case k5z87 => k_asm); (case k6z87 => first | exact rfl | assumption); (case hvz87 => first | with_reducible assumption | (refine KindOf.mono (by with_reducible assumption) ?_; k_extra "my grow")); (case k7z87 => ktr_room); (case k8z87 => ktr_units); k_whole; intro _ _ _ _ _; (try k_sweep)))
  trivial
section
theorem resource_dict {w : World} {news : Led} {sh tb hd : Addr} {o : Obj} {kvs : List (Str × Value)} {key : Str} {t : Tok} {ov v' : Value} {k : String} (hs : ShelfIs news sh tb) (hm : (hd, o) ∈ news) (ho : o.IsDictOf (PySem.strKind PP w) kvs) (hsys : (hd == sysModules) = false)
   (hv : (valueAt kvs key).getD .none = ov) (hf : FetchTo w news tb ov v' k) :
   Spec w 7 454 [.ref sh, .ref hd, .str key t] news (fun r news' => (k = "dict" → news' = news ∧ r = v') ∧ (k ≠ "dict" → ∃ d od, r = .ref d ∧ news' = (d, od) :: news ∧ od.IsDictOf (PySem.strKind PP w) [] ∧ (d == sysModules) = false ∧ (∀ p ∈ news, p.1 < d))) := by
  refine Box.out ?_
  simp (disch := k_dflt (
    refine Box2.mk ?_
    unfold Spec
    intro mean mg mb dp un gd cn cs a ccd cl outer A₀ base h₀ L m s Q E B F X N T hk hd9 hu hret
    have hkk := hf.kind
    obtain ⟨sd, sh1, sh2, st1, st2, sn, tr, ms1, ms2⟩ := id hs
    refine wpAny_call ?_
    k_dflt ktr_enter
    have hkk2 := hkk
    cases hkk2
    all_goals k_steps
    all_goals k_extra "my q"
    all_goals first
      | exact hret _ _ _ _ (by assumption) (by assumption) ⟨fun _ => ⟨rfl, rfl⟩, fun h => absurd rfl h⟩
      | refine' hret _ _ _ _ (by assumption) (by assumption) ⟨fun h => absurd h (by decide), fun _ => ⟨_, _, rfl, rfl, ?_, ?_, ?_⟩⟩ <;> first | assumption | fail "no"
      | fail "no")) only [↓Box.of]
end
section
theorem is_form_no {w : World} {news : Led} {sh : Addr} {v : Value} {k : String} (hv : KindOf w news v k) (hk9 : k ≠ "stream") :
   Spec w 7 466 [.ref sh, v] news (fun r news' => news' = news ∧ r = .bool false) := by
  refine Box.out ?_
  simp (disch := k_dflt (
    refine Box2.mk ?_
    unfold Spec
    intro mean mg mb dp un gd cn cs a ccd cl outer A₀ base h₀ L m s Q E B F X N T hk hd9 hu hret
    refine wpAny_call ?_
    k_dflt ktr_enter
    have hkk2 := hv
    cases hkk2
    case' stream => exact absurd rfl hk9
    all_goals k_steps
    all_goals k_extra "my q"
    all_goals exact hret _ _ _ _ (by assumption) (by assumption) ⟨rfl, rfl⟩)) only [↓Box.of]
set_option autoImplicit false in
/-- a stream with its head -/
inductive StrmIs (all : Led) (x hd : Addr) : Prop
  | mk (d h1 h2 t1 t2 n oc : _)
    (_ : (x, instObj 233 d) ∈ all)
    (_ : (d, dictOf [⟨h1, .str (Str.ofString "head") t1, .ref hd⟩, ⟨h2, .str (Str.ofString "octets") t2, oc⟩] n) ∈ all) : StrmIs all x hd
theorem is_form_yes {w : World} {news : Led} {sh tb x hd : Addr} {kd : Kd} {lv mv : Int} (hs : ShelfIs news sh tb) (hx : StrmIs news x hd) (hh : HeadIs w news hd kd lv mv) :
   Spec w 7 466 [.ref sh, .ref x] news (fun r news' => news' = news ∧ r = .bool (isForm kd)) := by
  refine Box.out ?_
  simp (disch := k_dflt (
    refine Box2.mk ?_
    unfold Spec
    intro mean mg mb dp un gd cn cs a ccd cl outer A₀ base h₀ L m s Q E B F X N T hk hd9 hu hret
    refine wpAny_call ?_
    k_dflt ktr_enter
    obtain ⟨sd, sh1, sh2, st1, st2, sn, tr, ms1, ms2⟩ := id hs
    obtain ⟨xd, h1, h2, t1, t2, n, oc, mx1, mx2⟩ := hx
    obtain ⟨kv, rv, xv, o, mh1, mh2, mh3, mh4, mh5, mh6⟩ := hh
    have hks : KindOf w news (.ref x) "stream" := .stream mx1 mx2
    have hva := headK_va (subO kd kv) rv xv
    cases mh4
    case' none =>
      have hv9 : (valueAt (headK (subO Kd.none Value.none) rv xv) (Str.ofString "Subtype")).getD .none = Value.none := by rw [hva]; rfl
      have hf9 : FetchTo w news tb .none .none "null" := .self .none
      have hk9 : KindOf w news .none "null" := .none
    case' form y hy =>
      obtain ⟨yd, yh, yt, yt2, yn, my1, my2⟩ := hy
      have hv9 : (valueAt (headK (subO Kd.form (.ref y)) rv xv) (Str.ofString "Subtype")).getD .none = .ref y := by rw [hva]; rfl
      have hk9 : KindOf w news (.ref y) "name" := .name my1 my2
      have hf9 : FetchTo w news tb (.ref y) (.ref y) "name" := .self hk9
    case' image y hy =>
      obtain ⟨yd, yh, yt, yt2, yn, my1, my2⟩ := hy
      have hv9 : (valueAt (headK (subO Kd.image (.ref y)) rv xv) (Str.ofString "Subtype")).getD .none = .ref y := by rw [hva]; rfl
      have hk9 : KindOf w news (.ref y) "name" := .name my1 my2
      have hf9 : FetchTo w news tb (.ref y) (.ref y) "name" := .self hk9
    all_goals k_steps
    all_goals k_extra "my q"
    all_goals first
      | exact hret _ _ _ _ (by assumption) (by assumption) ⟨rfl, rfl⟩
      | fail "no")) only [↓Box.of]
end
section
theorem is_number {w : World} {news : Led} {v : Value} {k : String} (hv : KindOf w news v k) :
   Spec w 4 279 [v] news (fun r news' => (∃ d o, news' = (d, o) :: news ∧ ∀ p ∈ news, p.1 < d) ∧ r = .bool (k == "int")) := by
  refine Box.out ?_
  simp (disch := k_dflt (
    refine Box2.mk ?_
    unfold Spec
    intro mean mg mb dp un gd cn cs a ccd cl outer A₀ base h₀ L m s Q E B F X N T hk hd9 hu hret
    refine wpAny_call ?_
    k_dflt ktr_enter
    have hkk2 := hv
    cases hkk2
    all_goals k_steps
    all_goals k_extra "my q"
    all_goals first
      | exact hret _ _ _ _ (by assumption) (by assumption) ⟨⟨_, _, rfl, by assumption⟩, rfl⟩
      | fail "no")) only [↓Box.of]
end
example : True := by
  k_with "=call ref" =>
    (k_here; (with_reducible show wpAny _ _ (call (Value.ref 388) _) _ _ _); k_dflt (refine' useMakes (identity) ?_ ?k1z88 ?k2z88 ?k3z88 ?k4z88 ?k5z88 ?k6z88 ?k7z88 ?k8z88; (case k1z88 => k_asm); (case k2z88 => k_asm); (case k3z88 => k_asm); (case k4z88 => k_asm); (case k5z88 => k_asm); (case k6z88 => first | exact rfl | assumption); (case k7z88 => ktr_room); (case k8z88 => ktr_units); k_whole; intro _ _ _ _ _ _ _ _; (try k_sweep)))
  trivial
section
noncomputable def matShift (mv : Int) : Int := if 2 ≤ mv ∧ mv ≤ 4 then mv else 0
theorem form_matrix_low {w : World} {news : Led} {sh tb hd : Addr} {kd : Kd} {lv mv : Int} (hs : ShelfIs news sh tb) (hh : HeadIs w news hd kd lv mv) (hm : mv ≤ 1) :
   Makes w 16 459 [.ref sh, .ref hd] news (fun r add => ∃ x, r = .ref x ∧ MatIs add x 1 0 0 1 0 0) := by
  refine Box.out ?_
  simp (disch := k_dflt (
    refine Box2.mk ?_
    unfold Makes Spec
    intro mean mg mb dp un gd cn cs a ccd cl outer A₀ base h₀ L m s Q E B F X N T hk hd9 hu hret
    refine wpAny_call ?_
    k_dflt k_extra "my enterC"
    obtain ⟨sd, sh1, sh2, st1, st2, sn, tr, ms1, ms2⟩ := id hs
    obtain ⟨kv, rv, xv, o, mh1, mh2, mh3, mh4, mh5, mh6⟩ := hh
    have hva := headK_vc (subO kd kv) rv xv
    cases mh6
    case' mid => omega
    case' five => omega
    case' six => omega
    have hv9 : (valueAt (headK (subO kd kv) rv none) (Str.ofString "Matrix")).getD .none = Value.none := by rw [hva]; rfl
    have hf9 : FetchTo w news tb .none .none "null" := .self .none
    have hk9 : KindOf w news .none "null" := .none
    k_steps
    all_goals k_extra "my q"
    rename Above _ _ => hab
    refine hret _ _ _ _ (by assumption) (News.perm (by assumption) ?_) ⟨_, rfl, hab.sub ?_, _, rfl, by assumption⟩
    · k_extra "my inn"
    · k_extra "my inn")) only [↓Box.of]
end
section
/-- what is known of a PaintFault object -/
noncomputable def FaultIs (o : Obj) : Prop := ∃ (t : Addr) (d : Option Addr), o = { cls := .ref 59, dict := d, data := .fields #[.ref t, .none, .none, .none, .bool false, .none] }
section
variable {prog : Program} {w : World} {A : Around} {E : Value → Shared → Prop} {s : Shared} {h₀ : Heap} {L C C2 e t0 D : Addr} {m mN mN2 : Str → Option Value} {rest : Led} {v : Value} {oe od : Obj} {name : Str}
theorem init_led {Q : Value → Shared → Prop} (T : TwoCls h₀ C C2 mN mN2) (F : Fr h₀ L s.heap m) (N : News h₀ L s.heap ((e, excObj C t0) :: rest)) (off : ∀ p ∈ rest, p.1 ≠ e)
    (h : ∀ D h', Fr h₀ L h' m → News h₀ L h' ((e, excObj C D) :: rest) → Q .none { s with heap := h' }) : wpAny (model prog w) A (call (.builtin "Exception.__init__") [.ref e, v]) Q E s := by
  obtain ⟨hh, g, d, t, os⟩ := s
  have Nx := N _ List.mem_cons_self
  have T' := T.keeps F.keep
  dsimp only at *
  have nL : L ≠ e := fun q => Nx.2.1 q.symm
  have kk : ∀ b o, b ≠ e → hh.get? b = some o → ((hh.push { cls := .type "tuple", data := .seq [v].toArray }).update e (Obj.mapFields (·.setIfInBounds 0 (Value.ref hh.objs.size)))).get? b = some o := fun b o hb q =>
    (Heap.get?_update_other _ _ (Ne.symm hb)).trans (Heap.get?_push_of_some _ q)
  refine two_init (rest := [v]) T' Nx.1 (by rw [sizeLine_eq]; exact Nat.le_of_ble_eq_true rfl) (h hh.objs.size _ ?_ ?_)
  · obtain ⟨oL, es, ep, eL, rL⟩ := F.ns
    exact ⟨⟨oL, es, ep, kk _ _ nL eL, rL⟩, fun b o q => kk b o (fun z => by rw [z, Nx.2.2] at q; cases q) (F.keep b o q), F.above⟩
  · intro p hp
    rcases List.mem_cons.mp hp with rfl | hp
    · exact ⟨Heap.get?_update_self _ (Heap.get?_push_of_some _ Nx.1) rfl, Nx.2⟩
    · have z := N p (List.mem_cons_of_mem _ hp)
      exact ⟨kk _ _ (off p hp) z.1, z.2⟩
theorem ns1_at {h : Heap} {a : Addr} {m : Str → Option Value} (hn : h.Ns1 a m) : ∃ o, h.get? a = some o ∧ ∀ h'' : Heap, h''.get? a = some o → h''.Ns1 a m := by
  obtain ⟨o, es, ep, ho, r⟩ := hn
  exact ⟨o, ho, fun h'' e => ⟨o, es, ep, e, r⟩⟩
theorem store1 {Q : Unit → Shared → Prop} (T : TwoCls h₀ C C2 mN mN2) (F : Fr h₀ L s.heap m) (N : News h₀ L s.heap ((e, oe) :: rest)) (off : ∀ p ∈ rest, p.1 ≠ e)
    (hns : mN "__setattr__" = none) (hns2 : mN2 "__setattr__" = none) (hna : mN name = none) (hna2 : mN2 name = none) (hB : typeLookup (.type "Exception") name = pure none) (hc : oe.cls = .ref C) (hnc : ∃ vs, oe.data = .fields vs) (hd : oe.dict = none)
    (h : ∀ D od h' tk', Fr h₀ L h' m → News h₀ L h' ((e, { oe with dict := some D }) :: (D, od) :: rest) → D ≠ e → (∀ p ∈ rest, p.1 ≠ D) → (∀ h'' : Heap, h''.get? D = some od → h''.Ns1 D (fun y => if y = name then some v else none)) → Q () { s with heap := h', toks := tk' }) :
    wpAny (model prog w) A (setAttr (.ref e) name v) Q E s := by
  obtain ⟨hh, g, d, t, os⟩ := s
  have Nx := N _ List.mem_cons_self
  have T' := T.keeps F.keep
  dsimp only at *
  obtain ⟨vs, hvs⟩ := hnc
  refine two_setattr (mA := fun _ => none) (ns := []) T' hns hns2 hna hna2 hB Nx.1 hc (fun c q => by rw [hvs] at q; cases q) (.inl hd) (fun h' tk' hst => ?_) Within.nil (by rw [sizeLine_eq]; decide)
  rcases hst with ⟨_, hx, hn, hk⟩ | ⟨dx, hdx, _⟩
  · obtain ⟨od, hod, hod2⟩ := ns1_at hn
    have hDe : hh.objs.size ≠ e := Nat.ne_of_gt (Heap.lt_size Nx.1)
    have fresh : ∀ b o, hh.get? b = some o → b ≠ hh.objs.size := fun b o q => Nat.ne_of_lt (Heap.lt_size q)
    obtain ⟨oL, es, ep, eL, rL⟩ := F.ns
    refine h hh.objs.size od h' tk' ⟨⟨oL, es, ep, hk _ _ (fun z => Nx.2.1 z.symm) eL, rL⟩, fun b o q => hk b o (fun z => by rw [z, Nx.2.2] at q; cases q) (F.keep b o q), F.above⟩ ?_ hDe (fun p hp => fresh _ _ (N p (List.mem_cons_of_mem _ hp)).1) hod2
    intro p hp
    rcases List.mem_cons.mp hp with rfl | hp
    · exact ⟨hx, Nx.2⟩
    · rcases List.mem_cons.mp hp with rfl | hp
      · refine ⟨hod, (fresh _ _ eL).symm, ?_⟩
        cases q : h₀.get? hh.objs.size with
        | none => rfl
        | some o => exact absurd rfl (fresh _ _ (F.keep _ _ q))
      · have z := N p (List.mem_cons_of_mem _ hp)
        exact ⟨hk _ _ (off p hp) z.1, z.2⟩
  · rw [hd] at hdx; cases hdx
theorem store2 {Q : Unit → Shared → Prop} {mA : Str → Option Value} {ns : List Str} (T : TwoCls h₀ C C2 mN mN2) (F : Fr h₀ L s.heap m) (N : News h₀ L s.heap ((e, oe) :: (D, od) :: rest)) (hDe : D ≠ e) (off : ∀ p ∈ rest, p.1 ≠ D)
    (hns : mN "__setattr__" = none) (hns2 : mN2 "__setattr__" = none) (hna : mN name = none) (hna2 : mN2 name = none) (hB : typeLookup (.type "Exception") name = pure none) (hc : oe.cls = .ref C) (hnc : ∃ vs, oe.data = .fields vs) (hd : oe.dict = some D)
    (hn : ∀ h'' : Heap, h''.get? D = some od → h''.Ns1 D mA) (hw : Within mA ns) (hsz : ns.length < sizeLine)
    (h : ∀ h' tk', Fr h₀ L h' m → News h₀ L h' ((e, oe) :: rest) → Q () { s with heap := h', toks := tk' }) :
    wpAny (model prog w) A (setAttr (.ref e) name v) Q E s := by
  obtain ⟨hh, g, d, t, os⟩ := s
  have Nx := N _ List.mem_cons_self
  have Nd := N _ (List.mem_cons_of_mem _ List.mem_cons_self)
  have T' := T.keeps F.keep
  dsimp only at *
  obtain ⟨vs, hvs⟩ := hnc
  refine two_setattr (mA := mA) (ns := ns) T' hns hns2 hna hna2 hB Nx.1 hc (fun c q => by rw [hvs] at q; cases q) (.inr ⟨D, hd, hDe, hn _ Nd.1⟩) (fun h' tk' hst => ?_) hw hsz
  rcases hst with ⟨hdn, _⟩ | ⟨dx, hdx, hx, _, hk⟩
  · rw [hd] at hdn; cases hdn
  · obtain rfl : D = dx := Option.some.inj (hd.symm.trans hdx)
    obtain ⟨oL, es, ep, eL, rL⟩ := F.ns
    refine h h' tk' ⟨⟨oL, es, ep, hk _ _ (fun z => Nd.2.1 z.symm) eL, rL⟩, fun b o q => hk b o (fun z => by rw [z, Nd.2.2] at q; cases q) (F.keep b o q), F.above⟩ ?_
    intro p hp
    rcases List.mem_cons.mp hp with rfl | hp
    · exact ⟨hx, Nx.2⟩
    · have z := N p (List.mem_cons_of_mem _ (List.mem_cons_of_mem _ hp))
      exact ⟨hk _ _ (off p hp) z.1, z.2⟩
end
end
section
theorem ns_some_of {K : Frag} {h : Heap} {N : Addr} {mg : Str → Option Value} {n : Str} {v : Value} (X : K.In h) (G : h.Ns N mg) (e : nsIn K N n = some (some v)) : mg n = some v := by
  obtain ⟨o, es, ep, ho, hd, _, hf⟩ := G
  unfold nsIn at e
  split at e
  · rename_i c d es' n' sl q
    have := X _ _ q
    rw [ho] at this
    cases this
    cases hd
    split at e
    · rename_i en he
      cases e
      rw [← hf]
      unfold nsFind findBy
      rw [← Array.find?_toList, he]
      rfl
    · split at e <;> cases e
  · cases e
theorem two_of {P : Params} {g : Heap} (X : (KH P).In g) : ∃ mN mN2, TwoCls g 59 46 mN mN2 ∧ mN "__init__" = none ∧ mN2 "__init__" = some (.ref 36) ∧ (mN "__setattr__" = none ∧ mN2 "__setattr__" = none) ∧ (mN (Str.ofString "what") = none ∧ mN2 (Str.ofString "what") = none) ∧ (mN (Str.ofString "at") = none ∧ mN2 (Str.ofString "at") = none) := by
  have ok1 : nsOkIn (KH P) 58 = true := by first | with_unfolding_all rfl | kernel_rfl | k_is
  have ok2 : nsOkIn (KH P) 45 = true := by first | with_unfolding_all rfl | kernel_rfl | k_is
  have G1 : g.Ns 58 (g.nsMap 58) := .of_isNs (isNs_of_in X ok1)
  have G2 : g.Ns 45 (g.nsMap 45) := .of_isNs (isNs_of_in X ok2)
  refine ⟨_, _, ⟨⟨_, _, _, _, _, _, _, _, _, _, _, _, _, _, X 59 _ rfl, G1⟩, ⟨_, _, _, _, X 46 _ rfl, G2⟩⟩, ns_none_of X G1 rfl, ns_some_of X G2 rfl, ⟨ns_none_of X G1 rfl, ns_none_of X G2 rfl⟩, ⟨ns_none_of X G1 rfl, ns_none_of X G2 rfl⟩, ⟨ns_none_of X G1 rfl, ns_none_of X G2 rfl⟩⟩
end
section
theorem init_spec {w : World} {news : Led} {e t0 : Addr} {msg : Str} {tk : Tok} (off : ∀ p ∈ news, p.1 ≠ e) : Spec w 3 36 [.ref e, .str msg tk] ((e, excObj 59 t0) :: news) (fun r news' => r = .none ∧ ∃ oe, news' = (e, oe) :: news ∧ FaultIs oe) := by
  refine Box.out ?_
  simp (disch := k_dflt (
    refine Box2.mk ?_
    unfold Spec
    intro mean mg mb dp un gd cn cs a ccd cl outer A₀ base h₀ L m s Q E B F X N T hk hd9 hu hret
    refine wpAny_call ?_
    k_dflt k_extra "my enterD"
    rename_i g' L' h' FG' F' N' B' X' T'
    replace F' := fr_locs F' [("at", .int (-1) _), ("what", .str msg tk), ("self", .ref e)] rfl
    obtain ⟨mN, mN2, TT, hi, hi2, ⟨s1, s2⟩, ⟨w1, w2⟩, ⟨a1, a2⟩⟩ := two_of X'
    k_steps
    all_goals k_extra "my q"
    refine method_type F' X' rfl (by decide +kernel) (v := .builtin "Exception.__init__") (by first | k_is | with_unfolding_all rfl | kernel_rfl) rfl ?_
    k_steps
    all_goals k_extra "my q"
    refine init_led TT (by assumption) (by assumption) off ?_
    intro D1 h4 F4 N4
    k_steps
    all_goals k_extra "my q"
    refine store1 TT (by assumption) (by assumption) off s1 s2 w1 w2 (by rw [typeLookup_type, builtinLookup_eq_fast]; kernel_rfl) rfl ⟨_, rfl⟩ rfl ?_
    intro D2 od h5 tk5 F5 N5 hD5 ho5 hn5
    k_steps
    all_goals k_extra "my q"
    refine store2 (ns := [Str.ofString "what"]) TT (by assumption) (by assumption) hD5 ho5 s1 s2 a1 a2 (by rw [typeLookup_type, builtinLookup_eq_fast]; kernel_rfl) rfl ⟨_, rfl⟩ rfl hn5 (Within.cons _ _ Within.nil) (by rw [sizeLine_eq]; decide) ?_
    intro h6 tk6 F6 N6
    k_steps
    all_goals k_extra "my q"
    exact hret _ _ _ _ (by assumption) (by assumption) ⟨rfl, _, rfl, _, _, rfl⟩)) only [↓Box.of]
end
section
/-- PaintFault(msg) -/
theorem mkFault {w : World} {news : Led} {msg : Str} {tk : Tok} : Spec w 6 59 [.str msg tk] news (fun r news' => ∃ e oe, r = .ref e ∧ news' = (e, oe) :: news ∧ FaultIs oe ∧ ∀ p ∈ news, p.1 ≠ e) := by
  intro mean mg mb dp un gd cn cs a ccd cl outer A₀ base h₀ L m s Q E B F X N T hk hd9 hu hret
  obtain ⟨mN, mN2, TT, hi, hi2, _⟩ := two_of X
  obtain ⟨hh, g, d, t, os⟩ := s
  dsimp only at F N hret
  have hlt : ∀ p ∈ news, p.1 < hh.objs.size := fun p hp => Heap.lt_size (N p hp).1
  refine two_call (rest := [.str msg tk]) (TT.keeps F.keep) hi hi2 (F.keep _ _ (X 36 _ rfl)) rfl (by rw [sizeLine_eq]; exact Nat.le_of_ble_eq_true rfl) ?_
  rintro h' rfl
  have F1 := (F.push { cls := .type "tuple", data := .seq [Value.str msg tk].toArray }).push (excObj 59 hh.objs.size)
  have hLs : L < hh.objs.size := by obtain ⟨oL, _, _, eL, _⟩ := F.ns; exact Heap.lt_size eL
  have N1 : News h₀ L ((hh.push { cls := .type "tuple", data := .seq [Value.str msg tk].toArray }).push (excObj 59 hh.objs.size)) ((hh.objs.size + 1, excObj 59 hh.objs.size) :: news) := by
    intro p hp
    rcases List.mem_cons.mp hp with rfl | hp
    · refine ⟨by heap_get, Nat.ne_of_gt (Nat.lt_succ_of_lt hLs), ?_⟩
      cases q : h₀.get? (hh.objs.size + 1) with
      | none => rfl
      | some o => exact absurd (Heap.lt_size (F.keep _ _ q)) (Nat.not_lt.mpr (Nat.le_succ _))
    · exact ⟨Heap.get?_push_of_some _ (Heap.get?_push_of_some _ (N p hp).1), (N p hp).2⟩
  have off : ∀ p ∈ news, p.1 ≠ hh.objs.size + 1 := fun p hp => Nat.ne_of_lt (Nat.lt_succ_of_lt (hlt p hp))
  refine Spec.use (dp := dp + 1) (un := un + 1) (init_spec (t0 := hh.objs.size) off) B F1 X N1 T hk (by omega) (by omega) ?_
  rintro r news' h'' tk'' F2 N2 ⟨rfl, oe, rfl, hf⟩
  exact ⟨rfl, hret _ _ _ _ F2 N2 ⟨_, _, rfl, rfl, hf, off⟩⟩
end
section
section
variable {M : Model} {A : Around} {E : Value → Shared → Prop} {s' : Shared} {base g g₂ : Heap} {outer : List Env} {L e : Addr} {m : Str → Option Value} {env : Env} {Q : Unit → Shared → Prop} {news : Led} {oe : Obj} {cls : Value}
theorem RaisedN.sub {l : List Env} {h : Heap} {news' : Led} (R : RaisedN base l e cls news h) (hs : ∀ p ∈ news', p ∈ news) : RaisedN base l e cls news' h := by
  obtain ⟨B, a0, h1, h2, h3⟩ := R
  exact ⟨B, a0, h1, fun q hq => h2 q (hs q hq), h3⟩
theorem leave_first (hf : env.frame = some L) (hk : env.scope.kind = .function) (K : Below A base outer g) (F : Fr g L s'.heap m) (N : News g L s'.heap ((e, oe) :: news)) (off : ∀ p ∈ news, p.1 ≠ e) (hx : FaultIs oe)
    (hQ : ∀ h', RaisedN base outer e (.ref 59) news h' → g.UpToSlots h' → Q () { s' with heap := h' }) : wpAny M (A.deeper env) (leaving env (.ref e)) Q E s' := by
  have K' := pushX K F hf hk
  obtain ⟨tt, d, rfl⟩ := hx
  have Nx := N _ List.mem_cons_self
  have hin : ∀ env' ∈ (env :: outer), ∀ b, env'.frame = some b → b ∈ e :: (env :: outer).filterMap (·.frame) := fun env' he b hb => List.mem_cons_of_mem _ (List.mem_filterMap.mpr ⟨env', he, hb⟩)
  have st : base.StaysIn (hideAll s'.heap (e :: (env :: outer).filterMap (·.frame))) := fun b o q => hideAll_get _ (K'.stays b o q) fun hm => by
    rcases List.mem_cons.mp hm with rfl | hm
    · rw [fresh_of_stays K.stays Nx.2.2] at q; cases q
    · rw [(K'.frames.mem hm).1] at q; cases q
  have hl : ∀ q ∈ news, (hideAll s'.heap (e :: (env :: outer).filterMap (·.frame))).get? q.1 = some q.2 ∧ base.get? q.1 = none := fun q hq => by
    have z := N q (List.mem_cons_of_mem _ hq)
    refine ⟨hideAll_get _ z.1 fun hm => ?_, fresh_of_stays K.stays z.2.2⟩
    rcases List.mem_cons.mp hm with hm | hm
    · exact off q hq hm
    · obtain ⟨env', he, hb⟩ := List.mem_filterMap.mp hm
      rcases List.mem_cons.mp he with rfl | he
      · exact z.2.1 (Option.some.inj (hb.symm.trans hf))
      · obtain ⟨o, ho, _⟩ := (K.frames.mem (List.mem_filterMap.mpr ⟨env', he, hb⟩)).2
        rw [z.2.2] at ho; cases ho
  have hen : (hideAll s'.heap (e :: (env :: outer).filterMap (·.frame))).get? e = none := hideAll_none _ List.mem_cons_self
  refine wpAny_leaving_firstW (a0 := .ref tt) K'.stack (funFrames_hide K'.frames hin) hf Nx.1 (fun b o q => of_hideAll _ q) hen rfl rfl rfl fun h' hL => ?_
  obtain ⟨k1, ⟨_, _, k2⟩, k3, k4⟩ := hL
  exact hQ h' ⟨_, .ref tt, st, hl, k1, hen, k2, k3⟩ ((Heap.UpToSlots.of_keeps F.keep).trans k4)
theorem leave_any (hf : env.frame = some L) (K : Below A base outer g) (F : Fr g L g₂ m) (R : RaisedN base (env :: outer) e cls news s'.heap) (hsm : g₂.UpToSlots s'.heap)
    (hQ : ∀ h', RaisedN base outer e cls news h' → g.UpToSlots h' → Q () { s' with heap := h' }) : wpAny M (A.deeper env) (leaving env (.ref e)) Q E s' := by
  obtain ⟨B, a0, hB, hl, hfl⟩ := R
  exact wpAny_leaves_onW (Around.frames_deeper K.stack) hf hfl fun h' x1 x2 => hQ h' ⟨B, a0, hB, hl, x1⟩ ((Heap.UpToSlots.of_keeps F.keep).trans (hsm.trans x2))
end
section
variable {M : Model} {A : Around} {E : Value → Shared → Prop} {env : Env} {C C2 : Addr} {mN mN2 : Str → Option Value}
theorem raise_made {s : Shared} {x : Sem Value} {Q : Flow → Shared → Prop} (hh : A.handled = none)
    (h : wpAny M A x (fun v s₁ => ∃ e oe, v = .ref e ∧ TwoCls s₁.heap 59 C2 mN mN2 ∧ s₁.heap.get? e = some oe ∧ FaultIs oe ∧ E (.ref e) s₁) E s) :
    wpAny M A (raiseStmt env (some x) none) Q E s := by
  have hcB := two_cont 59 C2 F.excBase_Exception.hasBase
  unfold raiseStmt
  refine wpAny_bind (wpAny_mono h (fun v s₁ h₁ => ?_) fun _ _ x => x)
  obtain ⟨e, oe, rfl, ⟨⟨nm, q, N, bs, sn, sub, ab, col, dd, k0, k1, k2, k3, k5, hC, hN⟩, _⟩, he, ⟨tt, d, rfl⟩, hE⟩ := h₁
  obtain ⟨hp, g, dr, tk, os⟩ := s₁
  repeat (first | with_reducible refine wpAny_loadPart_at he ?_ | with_reducible refine wpAny_loadPart_at hC ?_ | (with_reducible refine wpAny_isSubtype_exc hC ?_; rw [hcB]) | wp_step)
  exact wpAny_raiseNew_none hh hE
/-- what must be shown of the value that is raised -/
noncomputable def FaultPost (E : Value → Shared → Prop) (C2 : Addr) (mN mN2 : Str → Option Value) (v : Value) (s₁ : Shared) : Prop := ∃ e oe, v = .ref e ∧ TwoCls s₁.heap 59 C2 mN mN2 ∧ s₁.heap.get? e = some oe ∧ FaultIs oe ∧ E (.ref e) s₁
theorem exec_raise {s : Shared} {x : Expr} {pos : Pos} {Q : Flow → Shared → Prop} (hh : A.handled = none)
    (h : wpAny M A (eval x env) (FaultPost E C2 mN mN2) E s) :
    wpAny M A (exec (.Raise (some x) none pos) env) Q E s := by
  rw [arm_exec_Raise]
  refine wpAny_bind (wpAny_standAt (raise_made (C2 := C2) (mN := mN) (mN2 := mN2) hh (wpAny_bind (wpAny_mono h (fun v s₃ h₃ => wpAny_bind (wpAny_standAt (wpAny_pure h₃))) fun _ _ x => x))))
end
end
section
/-- a contract of a call that raises a PaintFault -/
noncomputable def SpecR (w : World) (n : Nat) (f : Addr) (vs : List Value) (news : Led) : Prop :=
  ∀ (mean : ExcName → Option Value) (mg mb : Str → Option Value) (dp un : Nat) (gd : Option (List Code)) (cn : Str) (cs : Scope) (a : Addr) (ccd : Value) (cl : List (Str × Addr)) (outer : List Env) (A₀ : Around) (base h₀ : Heap) (L : Addr) (m : Str → Option Value) (s : Shared) (Q E : Value → Shared → Prop),
    Below A₀ base outer h₀ → Fr h₀ L s.heap m → (KH w.params).In h₀ → News h₀ L s.heap news → Top VW LO mean mg mb h₀ → cs.kind = .function →
    dp + n < recursionLimit → un + 8 * n < cLine →
    (∀ e h' tk' g₂, RaisedN base (envX cn cs L a ccd cl :: outer) e (.ref 59) news h' → Fr h₀ L g₂ m → g₂.UpToSlots h' → E (.ref e) { s with heap := h', toks := tk' }) →
    wpAny (model PP w) (ktrTop dp un gd cn cs L a ccd cl outer) (call (.ref f) vs) Q E s
theorem SpecR.use2 {w : World} {n : Nat} {f : Addr} {vs : List Value} {news : Led} (S : SpecR w n f vs news)
  {mean : ExcName → Option Value} {mg mb : Str → Option Value} {dp un : Nat} {gd : Option (List Code)} {cn : Str} {cs : Scope} {a : Addr} {ccd : Value} {cl : List (Str × Addr)} {outer : List Env} {A₀ : Around} {base h₀ : Heap} {L : Addr} {m : Str → Option Value} {h1 : Heap} {gs : Array GenState} {dr : Drawn} {t1 : Nat} {os : OsState} {Q E : Value → Shared → Prop}
  (raised : ∀ e h' tk' g₂, RaisedN base (envX cn cs L a ccd cl :: outer) e (.ref 59) news h' → Fr h₀ L g₂ m → g₂.UpToSlots h' → E (.ref e) ⟨h', gs, dr, tk', os⟩)
  (B : Below A₀ base outer h₀ := by k_asm) (F : Fr h₀ L h1 m := by k_asm) (X : (KH w.params).In h₀ := by k_asm) (N : News h₀ L h1 news := by k_asm) (T : Top VW LO mean mg mb h₀ := by k_asm) (hk : cs.kind = .function := by first | exact rfl | assumption)
  (hd : dp + n < recursionLimit := by ktr_room) (hu : un + 8 * n < cLine := by ktr_units) :
  wpAny (model PP w) (ktrTop dp un gd cn cs L a ccd cl outer) (call (.ref f) vs) Q E ⟨h1, gs, dr, t1, os⟩ := S mean mg mb dp un gd cn cs a ccd cl outer A₀ base h₀ L m ⟨h1, gs, dr, t1, os⟩ Q E B F X N T hk hd hu raised
end
example : True := by
  k_with "=call ref" =>
    (k_here; (with_reducible show wpAny _ _ (call (Value.ref 59) _) _ _ _); k_dflt (refine' useFault (mkFault) ?_ ?k1z89 ?k2z89 ?k3z89 ?k4z89 ?k5z89 ?k6z89 ?k7z89 ?k8z89; (case k1z89 => k_asm); (case k2z89 => k_asm); (case k3z89 => k_asm); (case k4z89 => k_asm); (case k5z89 => k_asm); (case k6z89 => first | exact rfl | assumption); (case k7z89 => ktr_room); (case k8z89 => ktr_units); k_whole; intro _ _ _ _ _ _ _ _; (try k_sweep)))
  trivial
section
example : True := by
  k_with "=call ref" =>
    ((fail_if_success k_extra "out C15"); ((k_here; (with_reducible show wpAny _ _ (call (Value.ref 279) _) _ _ _); k_dflt (refine' useNum (is_number ?hvz90) ?_ ?k1z90 ?k2z90 ?k3z90 ?k4z90 ?k5z90 ?k6z90 ?k7z90 ?k8z90; (case k1z90 => k_asm); (case k2z90 => k_asm); (case k3z90 => k_asm); (case k4z90 => k_asm); (case k5z90 => k_asm); (case k6z90 => first | exact rfl | assumption); (case hvz90 => first | with_reducible assumption | (refine KindOf.mono (by with_reducible assumption) ?_; k_extra "my grow")); (case k7z90 => ktr_room); (case k8z90 => ktr_units); k_whole; intro _ _ _ _ _ _ _; (try k_sweep)))))
  k_with "=call ref" =>
    ((fail_if_success k_extra "out C15"); ((k_here; (with_reducible show wpAny _ _ (call (Value.ref 395) _) _ _ _); k_dflt (refine' useMakes (from_array ?hlz91) ?_ ?k1z91 ?k2z91 ?k3z91 ?k4z91 ?k5z91 ?k6z91 ?k7z91 ?k8z91; (case k1z91 => k_asm); (case k2z91 => k_asm); (case k3z91 => k_asm); (case k4z91 => k_asm); (case k5z91 => k_asm); (case k6z91 => first | exact rfl | assumption); (case hlz91 => k_extra "my mem"); (case k7z91 => ktr_room); (case k8z91 => ktr_units); k_whole; intro _ _ _ _ _ _ _ _; (try k_sweep)))))
  k_with "=CompSrc" =>
    ((fail_if_success k_extra "out C15"); ((refine hold_of ?_)))
  trivial

set_option autoImplicit false in
/-- what the items of the array lead to, and of what kinds that is -/
inductive ItemsTo (w : World) (all : Led) (tb : Addr) : List Value → List Value → List String → Prop
  | nil : ItemsTo w all tb [] [] []
  | cons {v u : Value} {k : String} {vs us : List Value} {ks : List String} : FetchTo w all tb v u k → ItemsTo w all tb vs us ks → ItemsTo w all tb (v :: vs) (u :: us) (k :: ks)
theorem ItemsTo.get {w : World} {all : Led} {tb : Addr} {vs us : List Value} {ks : List String} (h : ItemsTo w all tb vs us ks) : ∀ {i : Nat} {v : Value}, vs[i]? = some v → ∃ u k, us[i]? = some u ∧ ks[i]? = some k ∧ FetchTo w all tb v u k := by
  induction h with
  | nil => intro i v hv; cases hv
  | cons a _ ih =>
    intro i v hv
    cases i with
    | zero => cases hv; exact ⟨_, _, rfl, rfl, a⟩
    | succ i => exact ih hv
theorem ItemsTo.get2 {w : World} {all : Led} {tb : Addr} {vs us : List Value} {ks : List String} (h : ItemsTo w all tb vs us ks) : ∀ {i : Nat} {u : Value}, us[i]? = some u → ∃ k, ks[i]? = some k ∧ KindOf w all u k := by
  induction h with
  | nil => intro i v hv; cases hv
  | cons a _ ih =>
    intro i v hv
    cases i with
    | zero => cases hv; exact ⟨_, rfl, a.kind⟩
    | succ i => exact ih hv
theorem ItemsTo.len {w : World} {all : Led} {tb : Addr} {vs us : List Value} {ks : List String} (h : ItemsTo w all tb vs us ks) : us.length = vs.length ∧ ks.length = vs.length := by
  induction h with
  | nil => exact ⟨rfl, rfl⟩
  | cons _ _ ih => exact ⟨congrArg (· + 1) ih.1, congrArg (· + 1) ih.2⟩
theorem take_next {α : Type} {l : List α} {i : Nat} {u : α} (h : l[i]? = some u) : l.take i ++ [u] = l.take (i + 1) := by
  rw [List.take_succ, h]; rfl
/-- five items, or six: all of them numbers, or not -/
inductive Six (mv : Int) : Value → Value → Value → Value → Value → Value → String → String → String → String → String → String → Prop
  | mid {a b c d e f : Tok} : mv ≤ 4 → Six mv (.int 1 a) (.int 0 b) (.int 0 c) (.int 1 d) (.int mv e) (.int 0 f) "int" "int" "int" "int" "int" "int"
  | bad {a b c d e f : Value} : 5 ≤ mv → Six mv a b c d e f "int" "int" "int" "int" "name" "int"
inductive FiveSix (mv : Int) : List Value → List String → Prop
  | five {a b c d e : Value} {ks : List String} : 5 ≤ mv → FiveSix mv [a, b, c, d, e] ks
  | six {a b c d e f : Value} {k1 k2 k3 k4 k5 k6 : String} : Six mv a b c d e f k1 k2 k3 k4 k5 k6 → FiveSix mv [a, b, c, d, e, f] [k1, k2, k3, k4, k5, k6]
noncomputable def boolOf (k : String) : Value := .bool (k == "int")
noncomputable def BoolJ (base : Led) (ks : List String) (i : Nat) (ys : List Value) (nw : Led) : Prop := ∃ add, nw = add ++ base ∧ ys = (ks.map boolOf).take i
theorem BoolJ.succ {base add : Led} {ks : List String} {i : Nat} {k : String} {d : Addr} {o : Obj} (hk : ks[i]? = some k) : BoolJ base ks (i + 1) ((ks.map boolOf).take i ++ [.bool (k == "int")]) ((d, o) :: (add ++ base)) :=
  ⟨(d, o) :: add, rfl, take_next (by rw [List.getElem?_map, hk]; rfl)⟩
theorem form_matrix_all {w : World} {news : Led} {sh tb hd x : Addr} {o : Obj} {kd : Kd} {kv : Value} {rv : Option Value} {mv : Int} {vs : Array Value} {n : Nat} {us : List Value} {ks : List String} (hs : ShelfIs news sh tb)
    (mh1 : (hd, o) ∈ news) (mh2 : o.IsDictOf (PySem.strKind PP w) (headK (subO kd kv) rv (some (.ref x)))) (mh3 : (hd == sysModules) = false) (hx : (x, W.listOf vs n) ∈ news) (hsz : vs.size ≤ 6) (hI : ItemsTo w news tb vs.toList us ks) (hE : FiveSix mv us ks)
  (mean : ExcName → Option Value) (mg mb : Str → Option Value) (dp un : Nat) (gd : Option (List Code)) (cn : Str) (cs : Scope) (a : Addr) (ccd : Value) (cl : List (Str × Addr)) (outer : List Env) (A₀ : Around) (base h₀ : Heap) (L : Addr) (m : Str → Option Value) (s : Shared) (Q E : Value → Shared → Prop)
  (B : Below A₀ base outer h₀) (F : Fr h₀ L s.heap m) (X : (KH w.params).In h₀) (N : News h₀ L s.heap news) (T : Top VW LO mean mg mb h₀) (hk : cs.kind = .function)
  (hd9 : dp + 16 < recursionLimit) (hu : un + 8 * 16 < cLine)
  (hret : mv ≤ 4 → ∀ r news' h' tk', Fr h₀ L h' m → News h₀ L h' news' → (∃ add, news' = add ++ news ∧ Above news add ∧ ∃ x, r = .ref x ∧ MatIs add x 1 0 0 1 mv 0) → Q r { s with heap := h', toks := tk' })
  (hraise : 5 ≤ mv → ∀ e h' tk' g₂, RaisedN base (envX cn cs L a ccd cl :: outer) e (.ref 59) news h' → Fr h₀ L g₂ m → g₂.UpToSlots h' → E (.ref e) { s with heap := h', toks := tk' }) :
  wpAny (model PP w) (ktrTop dp un gd cn cs L a ccd cl outer) (call (.ref 459) [.ref sh, .ref hd]) Q E s := by
  refine Box.out ?_
  simp (disch := k_dflt (
    refine Box2.mk ?_
    refine wpAny_call ?_
    k_dflt k_extra "my enterC"
    rename_i g' L' h' tk' FG' F' B' X' T' oc dc
    obtain ⟨sd, sh1, sh2, st1, st2, sn, tr, ms1, ms2⟩ := id hs
    have hva := headK_vc (subO kd kv) rv (some (.ref x))
    have hv9 : (valueAt (headK (subO kd kv) rv (some (.ref x))) (Str.ofString "Matrix")).getD .none = .ref x := by rw [hva]; rfl
    have hk9 : KindOf w news (.ref x) "array" := .list hx
    have hf9 : FetchTo w news tb (.ref x) (.ref x) "array" := .self hk9
    have hln := hI.len
    k_steps
    all_goals k_extra "my q"
    unfold Hold
    have hx' : (x, W.listOf vs n) ∈ (L' + 1, oc) :: news := by k_extra "my mem"
    refine LCg.CompSrc.ledger rfl (by assumption) (by assumption) hx' (by rw [sizeLine_eq]; omega) ?_
    intro g9
    refine comp_inv (fun i ys nw => nw = (L' + 1, oc) :: news ∧ ys = us.take i) ⟨rfl, rfl⟩ ?_ ?_
    · rintro i ys nw v I oI C oC D m₂ h tk E' hi hv ⟨rfl, rfl⟩ hC hx F5 N5 off ne
      k_extra "my aim"
      obtain ⟨u5, k5, hu5, hk5, hf5⟩ := hI.get (i := i) (v := v) (by rw [← hv]; simp)
      k_steps
      all_goals k_extra "my q"
      exact take_next hu5
    · rintro ys nw ⟨rfl, rfl⟩
      have htk : us.take vs.size = us := List.take_of_length_le (by rw [hln.1]; simp)
      rw [htk]
      induction hE with
      | five h5 =>
        k_steps
        all_goals k_extra "my q"
        k_extra "my fault"
        intro h5' R5 U5
        exact hraise h5 _ _ _ _ (Mine.RaisedN.sub R5 (by k_extra "my inn")) (by assumption) U5
      | six h6 =>
        rename_i u1 u2 u3 u4 u5 u6 k1 k2 k3 k4 k5 k6
        k_steps
        all_goals k_extra "my q"
        unfold Hold
        refine LCg.CompSrc.ledger rfl (by assumption) (by assumption) (by k_extra "my mem") (by exact Nat.le_of_ble_eq_true rfl) ?_
        intro g10
        refine comp_inv (BoolJ _ [k1, k2, k3, k4, k5, k6]) ⟨[], rfl, rfl⟩ ?_ ?_
        · rintro i ys nw v I oI C oC D m₂ h tk E' hi hv ⟨add, rfl, rfl⟩ hC hx F5 N5 off ne
          k_extra "my aim"
          obtain ⟨kk, hkk, hkv⟩ := hI.get2 (i := i) (u := v) (by rw [← hv]; simp)
          k_steps
          all_goals k_extra "my q"
          exact BoolJ.succ hkk
        · rintro ys nw ⟨add, rfl, rfl⟩
          clear hI hln htk
          induction h6 with
          | mid h4 =>
            k_steps
            all_goals k_extra "my q"
            rename Above _ _ => hab
            refine hret h4 _ _ _ _ (by assumption) (News.perm (by assumption) ?_) ⟨_, rfl, hab.sub ?_, _, rfl, by assumption⟩
            · k_extra "my inn"
            · k_extra "my inn"
          | bad h5 =>
            k_steps
            all_goals k_extra "my q"
            k_extra "my fault"
            intro h5' R5 U5
            exact hraise h5 _ _ _ _ (Mine.RaisedN.sub R5 (by k_extra "my inn")) (by assumption) U5)) only [↓Box.of]
theorem form_matrix_mid {w : World} {news : Led} {sh tb hd : Addr} {kd : Kd} {lv mv : Int} {t8 : Tok} (hs : ShelfIs news sh tb) (hh : HeadIs w news hd kd lv mv) (h8 : RowIs w news tb 8 (.int 0 t8)) (hm : 2 ≤ mv) (hm2 : mv ≤ 4) :
   Makes w 16 459 [.ref sh, .ref hd] news (fun r add => ∃ x, r = .ref x ∧ MatIs add x 1 0 0 1 mv 0) := by
  unfold Makes Spec
  intro mean mg mb dp un gd cn cs a ccd cl outer A₀ base h₀ L m s Q E B F X N T hk hd9 hu hret
  obtain ⟨kv, rv, xv, o, mh1, mh2, mh3, mh4, mh5, mh6⟩ := hh
  cases mh6
  case' low => omega
  case' five => omega
  case' six => omega
  rename refObj _ _ _ => hx3
  rename (_, W.listOf _ _) ∈ news => hx4
  exact form_matrix_all hs mh1 mh2 mh3 hx4 (Nat.le_of_ble_eq_true rfl) (.cons (.self (.int _ _)) (.cons (.self (.int _ _)) (.cons (.ref hx3 h8 (.int _ _)) (.cons (.self (.int _ _)) (.cons (.self (.int _ _)) (.cons (.self (.int _ _)) .nil)))))) (.six (.mid hm2))
    mean mg mb dp un gd cn cs a ccd cl outer A₀ base h₀ L m s Q E B F X N T hk hd9 hu (fun _ r n h t F N R => hret r n h t F N R) fun h => absurd hm2 (by omega)
theorem form_matrix_five {w : World} {news : Led} {sh tb hd : Addr} {kd : Kd} {lv : Int} (hs : ShelfIs news sh tb) (hh : HeadIs w news hd kd lv 5) :
   SpecR w 16 459 [.ref sh, .ref hd] news := by
  unfold SpecR
  intro mean mg mb dp un gd cn cs a ccd cl outer A₀ base h₀ L m s Q E B F X N T hk hd9 hu hraise
  obtain ⟨kv, rv, xv, o, mh1, mh2, mh3, mh4, mh5, mh6⟩ := hh
  cases mh6
  case' low => omega
  case' mid => omega
  rename (_, W.listOf _ _) ∈ news => hx4
  exact form_matrix_all (mv := 5) hs mh1 mh2 mh3 hx4 (Nat.le_of_ble_eq_true rfl) (.cons (.self (.int _ _)) (.cons (.self (.int _ _)) (.cons (.self (.int _ _)) (.cons (.self (.int _ _)) (.cons (.self (.int _ _)) .nil))))) (.five (Int.le_refl 5))
    mean mg mb dp un gd cn cs a ccd cl outer A₀ base h₀ L m s Q E B F X N T hk hd9 hu (fun h => absurd h (by decide)) fun _ => hraise
theorem form_matrix_six {w : World} {news : Led} {sh tb hd : Addr} {kd : Kd} {lv : Int} (hs : ShelfIs news sh tb) (hh : HeadIs w news hd kd lv 6) :
   SpecR w 16 459 [.ref sh, .ref hd] news := by
  unfold SpecR
  intro mean mg mb dp un gd cn cs a ccd cl outer A₀ base h₀ L m s Q E B F X N T hk hd9 hu hraise
  obtain ⟨kv, rv, xv, o, mh1, mh2, mh3, mh4, mh5, mh6⟩ := hh
  cases mh6
  case' low => omega
  case' mid => omega
  rename strObj _ _ _ => hsr
  rename (_, W.listOf _ _) ∈ news => hx4
  obtain ⟨rd, rh, rt1, rt2, rn, mr1, mr2⟩ := hsr
  exact form_matrix_all (mv := 6) hs mh1 mh2 mh3 hx4 (Nat.le_of_ble_eq_true rfl) (.cons (.self (.int _ _)) (.cons (.self (.int _ _)) (.cons (.self (.int _ _)) (.cons (.self (.int _ _)) (.cons (.self (.name mr1 mr2)) (.cons (.self (.int _ _)) .nil)))))) (.six (.bad (by decide)))
    mean mg mb dp un gd cn cs a ccd cl outer A₀ base h₀ L m s Q E B F X N T hk hd9 hu (fun h => absurd h (by decide)) fun _ => hraise
end
example : True := by
  k_with "out C15" =>
    skip
  trivial
section
example : True := by
  k_with "=execs cons" =>
    ((fail_if_success k_extra "out C16"); ((k_here; (with_reducible show wpAny _ _ (execs (Stmt.Assign [Expr.Name (Str.ofString "sort") _] _ _ :: _) _) _ _ _); refine hold_of ?_)))
  k_with "my vals" =>
    ((fail_if_success k_extra "out C16"); (first | ((with_reducible rename valueAt (spotsK _ _ _ _) _ = _ => hva9); simp only [hva9, Option.getD_none]) | ((with_reducible rename valueAt (sortsK _ _ _ _ _ _) _ = _ => hva9); simp only [hva9, Option.getD_some]) | ((with_reducible rename valueAt _ _ = _ => hva9); simp only [hva9, Option.getD_some, Option.getD_none])))
  k_with "=compareOp NotEq ref ref" =>
    ((fail_if_success k_extra "out C16"); ((k_here; (with_reducible show wpAny _ _ (compareOp _ (Value.ref _) (Value.ref _)) _ _ _); k_dflt (first
      | (refine' ne_lists ?a9z95 ?b9z95 ?c9z95 ?d9z95 ?e9z95 ?_; (case a9z95 => k_asm); (case b9z95 => k_mem); (case c9z95 => k_mem); (case d9z95 => ktr_units); (case e9z95 => rfl); k_whole)
      | (refine' ne_nils ?a9z95 ?b9z95 ?c9z95 ?d9z95 ?_; (case a9z95 => k_asm); (case b9z95 => k_mem); (case c9z95 => k_mem); (case d9z95 => ktr_units); k_whole)))))
  k_with "my sorted" =>
    ((fail_if_success k_extra "out C16"); (((refine' sorted_led ?a9z96 ?b9z96 ?c9z96 ?d9z96 ?e9z96 ?_; (case a9z96 => k_asm); (case b9z96 => k_asm); (case c9z96 => k_mem); (case d9z96 => first | exact .cons _ _ .nil | exact .cons _ _ (.cons _ _ .nil)); (case e9z96 => exact Nat.le_of_ble_eq_true rfl); k_whole); intro _ _ _ _ _ _ _ _ _ _ _; (try k_sweep))))
  k_with "=call builtin:sorted" =>
    ((fail_if_success k_extra "out C16"); ((k_here; (with_reducible show wpAny _ _ (call (Value.builtin "sorted") [Value.ref _]) _ _ _); refine hold_of ?_)))
  trivial

theorem OpsAre.length {all : Led} {vs : List Value} {os : List Opn} (h : OpsAre all vs os) : vs.length = os.length := by
  induction h with
  | nil => rfl
  | cons _ _ ih => exact congrArg (· + 1) ih
/-- what stands in «value» behind the two tests -/
noncomputable def Cof (σ : String) (o : Opn) (s : String) : Prop := (σ = "Font" ∧ ∃ k, o = .tf s k) ∨ (σ = "XObject" ∧ o = .do_ s)
set_option autoImplicit false in
noncomputable def QC16_1 (w : World) (news : Led) (l : Addr) (L' : Addr) (oc : Obj) (m' : Str → Option Value) (all' : Led) : Prop := ∀ G9 : Prop, (∀ (fd pd sd : Addr) (fo po so : Obj),
    (m' = locs [("found", .ref fd), ("spots", .ref pd), ("sorts", .ref sd), ("operations", .ref l)]) →
    (all' = (fd, fo) :: (pd, po) :: (sd, so) :: (L' + 1, oc) :: news) →
    ((@LT.lt Nat _ L' fd ∧ @LT.lt Nat _ L' pd ∧ @LT.lt Nat _ L' sd)) →
    (fo.IsDictOf (PySem.strKind PP w) []) →
    ((fd == sysModules) = false) →
    ((pd == sysModules) = false) →
    ((sd == sysModules) = false) →
    (SortsAre w so) →
    (SpotsAre w po) →
    (@Ne Nat fd pd) →
    (@Ne Nat fd sd) →
    (@Ne Nat fd (L' + 1)) →
    (@Ne Nat pd (L' + 1)) →
    (@Ne Nat sd (L' + 1)) →
    ((∀ p ∈ news, p.1 ≠ fd)) → G9) → G9
set_option autoImplicit false in
noncomputable def QC16_2 (m₁ : Str → Option Value) (tl0 : Led) (news : Led) (x : Addr) (fd : Addr) (pd : Addr) (sd : Addr) (l : Addr) (I : Addr) (L' : Addr) (it : Obj) (fo : Obj) (po : Obj) (so : Obj) (o : Opn) (q1 : Tok) (q2 : Tok) (q3 : Tok) (q4 : Tok) (q5 : Tok) (q6 : Tok) (q7 : Tok) (q8 : Tok) (q9 : Tok) (q10 : Tok) (m' : Str → Option Value) (all' : Led) : Prop := ∀ G9 : Prop, (∀ (oc2 : Obj) (vv : Value),
    (oc2.data = .cell (some vv)) →
    (m' = locsOn m₁ [("operation", .ref x), ("found", Value.ref fd), ("spots", .ref pd), ("sorts", .ref sd), ("operations", .ref l)]) →
    (all' = (I, it) :: (fd, fo) :: (L' + 1, oc2) :: (tl0 ++ (pd, po) :: (sd, so) :: news)) →
    (((vv = .none ∧ (o = .q ∨ o = .Q)) ∨ (∃ (y : Addr) (σ s : String) (q : Tok), vv = .ref y ∧ strObj news y s ∧ valueAt (sortsK q1 q2 q3 q4 q5 q6) (Str.ofString o.word) = some (.str (Str.ofString σ) q) ∧ valueAt (spotsK q7 q8 q9 q10) (Str.ofString o.word) = none ∧ Cof σ o s))) → G9) → G9
set_option maxHeartbeats 4000000 in
theorem used_spec {w : World} {news : Led} {l : Addr} {d : Int} (hd0 : DeedIs news l d) :
   Makes w 10 426 [.ref l] news (fun r add => ∃ u, r = .ref u ∧ UsedIs w add u (fontsOf d) (formsOf d)) := by
  refine Box.out ?_
  simp (disch := k_dflt (
    refine Box2.mk ?_
    unfold Makes Spec
    intro mean mg mb dp un gd cn cs a ccd cl outer A₀ base h₀ L m s Q E B F X N T hk hd9 hu hret
    refine wpAny_call ?_
    k_dflt k_extra "my enterC"
    obtain ⟨vs, n, hl, hops⟩ := hd0
    rename_i g' L' h' tk' FG' F' B' X' T' oc dc
    replace F' := fr_cast F' (m' := locs [("operations", .ref l)]) (by kernel_rfl)
    with_reducible refine seg 3 F' (QC16_1 w news l L' oc) ?_ ?_
    · k_extra "my o"
      dsimp only [List.take]
      k_steps
      all_goals k_extra "my q"
      rename Obj.IsDictOf (PySem.strKind PP w) _ [] => hfo9
      rename Obj.IsDictOf (PySem.strKind PP w) _ (strPairs ((Value.str (Str.ofString "SCN") _, _) :: _)) => hpo9
      rename Obj.IsDictOf (PySem.strKind PP w) _ (strPairs ((Value.str (Str.ofString "Tf") _, _) :: _)) => hso9
      dsimp only [strPairs] at hso9 hpo9
      refine' Mid.intro ?a1 ?a2 ?a3
      case a1 => assumption
      case a2 => assumption
      refine (fun _ kk9 => kk9 _ _ _ _ _ _ rfl rfl ⟨?_, ?_, ?_⟩ hfo9 ?_ ?_ ?_ ⟨_, _, _, _, _, _, hso9⟩ ⟨_, _, _, _, hpo9⟩ ?_ ?_ ?_ ?_ ?_ ?_)
      all_goals first | assumption | k_extra "my off" | k_extra "my ne" | omega | (dsimp only; omega) | (k_extra "my lts"; first | omega | (dsimp only; omega))
    clear F' N'
    intro m' all' h2 tk2 F2 N2 hQ9
    refine hQ9 _ ?_
    clear hQ9
    rintro fd pd sd fo po so rfl rfl ⟨g1, g2, g3⟩ hfo s1 s2 s3 hso hpo n1 n2 n3 n4 n5 hoff1
    dsimp only [List.drop]
    refine wpAny_execs_cons ?_
    refine For_invVF F2 rfl rfl ?_
    k_extra "my upto"
    refine iter_list (l := l) (vs := vs) (n := n) rfl (by assumption) (News.perm (by assumption) (l' := (fd, fo) :: (L' + 1, oc) :: ([] ++ (pd, po) :: (sd, so) :: news)) ?zz) (UsedJ w fd pd sd L' l po so news d) ?_ ?_ ?_ ?_
    case zz => k_extra "my inn"
    · refine ⟨fo, [], oc, _, [], ?_, ?_, dc, hfo, Nat.le_refl _, .none rfl, .none rfl, List.forall_mem_nil _, List.forall_mem_nil _, List.forall_mem_nil _⟩
      · exact has_of (by rfl)
      · rfl
    · rintro i m' all' ⟨fo, kvs, oc, cv, tl0, _, rfl, _⟩
      exact List.mem_cons_of_mem _ (List.mem_cons_of_mem _ (List.mem_append_right _ (List.mem_cons_of_mem _ (List.mem_cons_of_mem _ hl))))
    · rintro i v m₁ news₁ h tk5 I it hi hv ⟨fo, kvs, oc, cv, tl0, hm, rfl, hcd, hfo, hle, hwf, hwx, u1, u2, u3⟩ hoffI hI F5 N5
      k_extra "my o"
      replace F5 := fr_on F5 _ hm
      obtain ⟨x, o, rfl, hoi, hop⟩ := hops.get (i := i) (v := v) (by rw [← hv]; simp)
      have hcb := combo_of hoi
      have hws := words_succ hoi
      obtain ⟨d1, l1', oh1, oh2, ot1, ot2, ot3, on1, om1, om2, oa1⟩ := hop
      have hi4 : i < 4 := Nat.lt_of_lt_of_le (List.getElem?_eq_some_iff.mp hoi).1 (deed_len d)
      have hoI : ∀ p ∈ tl0, p.1 ≠ I := fun p hp => hoffI p (List.mem_cons_of_mem _ (List.mem_cons_of_mem _ (List.mem_append_left _ hp)))
      have hIc : @Ne Nat (L' + 1) I := hoffI (L' + 1, oc) (List.mem_cons_of_mem _ List.mem_cons_self)
      have hIf : @Ne Nat fd I := hoffI (fd, fo) List.mem_cons_self
      k_lt hI
      have hnc : ∀ p ∈ news, p.1 ≠ L' + 1 := fun p hp => Nat.ne_of_lt (Nat.lt_succ_of_lt (l1 p hp))
      obtain ⟨q1, q2, q3, q4, q5, q6, hso⟩ := hso
      obtain ⟨q7, q8, q9, q10, hpo⟩ := hpo
      with_reducible refine seg 3 F5 (QC16_2 m₁ tl0 news x fd pd sd l I L' it fo po so o q1 q2 q3 q4 q5 q6 q7 q8 q9 q10) ?_ ?_
      · dsimp only [List.take]
        unfold sortsK at hso
        unfold spotsK at hpo
        cases oa1
        case' tf x8 s8 k8 t8 n8 ha1 hb1 => obtain ⟨y1, yh1, yt1, yt2, yn1, my1, my2⟩ := id ha1
        case' do_ x8 s8 n8 ha1 hb1 => obtain ⟨y1, yh1, yt1, yt2, yn1, my1, my2⟩ := id ha1
        all_goals dsimp only [Opn.word] at om2
        all_goals k_extra "my o"
        all_goals k_steps
        all_goals k_extra "my q"
        all_goals first
          | exact Mid.intro (by assumption) (by assumption) (fun _ kk9 => kk9 _ _ (by assumption) rfl rfl (.inl ⟨rfl, .inl rfl⟩))
          | exact Mid.intro (by assumption) (by assumption) (fun _ kk9 => kk9 _ _ (by assumption) rfl rfl (.inl ⟨rfl, .inr rfl⟩))
          | exact Mid.intro (by assumption) (News.perm (by assumption) fun p hp => List.mem_cons_of_mem _ hp) (fun _ kk9 => kk9 _ _ (by assumption) rfl rfl (.inr ⟨_, _, _, _, rfl, ha1, sorts_Tf, spots_Tf, .inl ⟨rfl, _, rfl⟩⟩))
          | exact Mid.intro (by assumption) (News.perm (by assumption) fun p hp => List.mem_cons_of_mem _ hp) (fun _ kk9 => kk9 _ _ (by assumption) rfl rfl (.inr ⟨_, _, _, _, rfl, ha1, sorts_Do, spots_Do, .inr ⟨rfl, rfl⟩⟩))
      clear F5 N5
      intro m' all' h7 tk7 F7 N7 hQ9
      refine hQ9 _ ?_
      clear hQ9
      rintro oc2 vv hoc2 rfl rfl hvv
      dsimp only [List.drop]
      rcases hvv with ⟨rfl, hoq⟩ | ⟨y, σ, s9, q0, rfl, ⟨y1, yh1, yt1, yt2, yn1, my1, my2⟩, hva1, hva2, hcof⟩
      · k_steps
        all_goals k_extra "my q"
        refine TurnEnd.next (by assumption) (News.perm (by assumption) ?zp0) ?zo0 (UsedJ.skip ?zm0 hoc2 hfo hle hws hoq hwf hwx u1 u2 u3)
        case zp0 => k_extra "my perm"
        case zo0 => k_extra "my off"
        case zm0 =>
          exact has_of (by rfl)
      · k_steps
        all_goals k_extra "my q"
        unfold Hold
        rename Fr g' _ _ _ => F6
        with_reducible refine seg 1 F6 (fun m' all' => m' = locsOn m₁ [("sort", .str (Str.ofString σ) q0), ("operation", .ref x), ("found", Value.ref fd), ("spots", .ref pd), ("sorts", .ref sd), ("operations", .ref l)] ∧ all' = (I, it) :: (fd, fo) :: (L' + 1, oc2) :: (tl0 ++ (pd, po) :: (sd, so) :: news)) ?_ ?_
        · k_extra "my o"
          dsimp only [List.take]
          with_reducible refine wpAny_execs_cons ?_
          k_steps
          all_goals k_extra "my q"
          refine Mid.intro (by assumption) (by assumption) ?_
          refine ⟨?_, rfl⟩
          simp only [hva1, Option.getD_some]
          try rfl
        rintro m' all' h8 tk8 F8 N8 ⟨rfl, rfl⟩
        dsimp only [List.drop]
        clear F6 hva1 hva2 hso hpo
        k_extra "my aim"
        have hcw : ∃ ws, WordsAt tl0 kvs σ ws ∧ (s9, ws) ∈ combos ∧ (σ = "Font" → (wordsOf ((deedOps d).take i).reverse).1 = ws) ∧ (σ = "XObject" → (wordsOf ((deedOps d).take i).reverse).2 = ws) := by
          rcases hcof with ⟨rfl, k, rfl⟩ | ⟨rfl, rfl⟩
          · exact ⟨_, hwf, hcb, fun _ => rfl, fun h => absurd h (by decide)⟩
          · exact ⟨_, hwx, hcb, fun h => absurd h (by decide), fun _ => rfl⟩
        obtain ⟨ws, hww, hcc, hw1, hw2⟩ := hcw
        have hww2 := hww
        cases hww2
        case' none hva => k_steps; unfold Hold
        case' some =>
          rename_i l9 vs9 n9 w1 ws1 hva hm9 hs9
          obtain ⟨vs9⟩ := vs9
          cases hs9
          rename_i t9 vs8 hs9
          obtain ⟨hws1, hne9⟩ : ws1 = [] ∧ (Str.ofString w1 ≠ Str.ofString s9) := by
            simp only [combos, List.mem_cons, Prod.mk.injEq, List.not_mem_nil, or_false, List.cons.injEq, reduceCtorEq, and_false, false_or] at hcc
            rcases hcc with ⟨rfl, rfl, rfl⟩ | ⟨rfl, rfl, rfl⟩
            · exact ⟨rfl, by decide⟩
            · exact ⟨rfl, by decide⟩
          subst hws1
          cases hs9
          k_steps
          all_goals k_extra "my q"
          unfold Hold
        any_goals
          rename (Str.ofString w1 != Str.ofString s9) = false => hb9
          exact absurd (of_decide_eq_true (by simpa using hb9)) hne9
        all_goals
          k_extra "my sorted"
          k_steps
          all_goals k_extra "my q"
          rename List.Perm _ _ => hpm9
          rename sortedS _ = true => hso9
          rename PyProof.Rows.StrsAre (Array.toList _) _ => hst9
          have hst8 := sort_ins hcc hpm9 hso9
          subst hst8
          rename Obj.IsDictOf _ _ (stored _ _ _) => hfo9
          rcases hcof with ⟨rfl, k, rfl⟩ | ⟨rfl, rfl⟩
          · refine' TurnEnd.next (by assumption) (News.perm (by assumption) ?zp) ?zo (UsedJ.font ?zm hoc2 hfo9 hle hws (hw1 rfl) hcc hst9 hwx u1 u2 u3 (by k_extra "my om") (by k_extra "my om") (by k_extra "my om"))
            case zp => k_extra "my perm"
            case zo => k_extra "my off"
            case zm =>
              exact has_of (by rfl)
          · refine' TurnEnd.next (by assumption) (News.perm (by assumption) ?zp2) ?zo2 (UsedJ.form ?zm2 hoc2 hfo9 hle hws (hw2 rfl) hcc hst9 hwf u1 u2 u3 (by k_extra "my om") (by k_extra "my om") (by k_extra "my om"))
            case zp2 => k_extra "my perm"
            case zo2 => k_extra "my off"
            case zm2 =>
              exact has_of (by rfl)
    · rintro m₁ news₁ h tk5 ⟨fo, kvs, oc, cv, tl0, hm, rfl, hcd, hfo, hle, hwf, hwx, u1, u2, u3⟩ F5 N5
      replace F5 := fr_on0 F5 _ hm
      have hlen : (deedOps d).take vs.size = deedOps d := List.take_of_length_le (by rw [← hops.length]; simp)
      rw [hlen] at hwf hwx
      k_steps
      all_goals k_extra "my q"
      refine hret _ _ _ _ (by assumption) (News.perm (by assumption) ?_) ⟨(fd, fo) :: tl0, rfl, ⟨L', l1, all_cons (Nat.le_of_lt g1) (fun p hp => Nat.le_of_lt (u1 p hp))⟩, _, rfl, fo, kvs, List.mem_cons_self, hfo, s1, hwf.mono (fun p hp => List.mem_cons_of_mem _ hp), hwx.mono (fun p hp => List.mem_cons_of_mem _ hp)⟩
      k_extra "my inn")) only [↓Box.of]
end
example : True := by
  k_with "out C16" =>
    skip
  trivial
section
structure StrmD where
  kd : Kd
  lent : Int
  mat : Int
  deed : Int
structure ResD where
  fa : Fo
  ta : Th
  fb : Fo
  tb : Th
/-- what is painted: a sheet, or nothing -/
inductive OT
  | nil
  | node (deed shift : Int) (fa fb : Option Int) (xa xb : OT)
noncomputable def fontNo : Fo → Option Int
  | .viaRef => some 5
  | .direct => some 9
  | _ => none
noncomputable def ResD.font (r : ResD) (x : String) : Fo := if x = "A" then r.fa else r.fb
noncomputable def ResD.thing (r : ResD) (x : String) : Th := if x = "A" then r.ta else r.tb
noncomputable def lentAt (at_ lent : Int) : Int := if lent = 0 then at_ else lent - 1
/-- what a word's thing becomes: none = it fails, nil = it is not painted -/
noncomputable def subT (S : Int → StrmD) (rec_ : Int → Int → Int → Option OT) (at_ : Int) : Th → Option OT
  | .str k => if isForm (S k).kd = true then (if 5 ≤ (S k).mat then none else rec_ (lentAt at_ (S k).lent) (S k).deed (matShift (S k).mat)) else some .nil
  | _ => some .nil
/-- the sheet at most fuel deep -/
noncomputable def paint (S : Int → StrmD) (R : Int → ResD) : Nat → Int → Int → Int → Option OT
  | 0, _, _, _ => none
  | f + 1, at_, deed, shift =>
    let fo := fun x => if x ∈ fontsOf deed then fontNo ((R at_).font x) else none
    let xo := fun x => if x ∈ formsOf deed then subT S (paint S R f) at_ ((R at_).thing x) else some .nil
    match xo "A" with
    | none => none
    | some xa => match xo "B" with
      | none => none
      | some xb => some (.node deed shift (fo "A") (fo "B") xa xb)
/-- up to two pairs, A ahead of B -/
noncomputable def pairK (a b : Option Value) : List (Str × Value) := addK (addK [] sA a) sB b
inductive IntO : Option Int → Option Value → Prop
  | none : IntO none none
  | some {i : Int} {t : Tok} : IntO (some i) (some (.int i t))
set_option autoImplicit false in
/-- a sheet as it is made, over what is said of its two forms -/
inductive SheetN (w : World) (all : Led) (Pa Pb : Option Value → Prop) (deed shift : Int) (fa fb : Option Int) (v : Option Value) : Prop
  | mk (x d l fd xd mt : Addr) (h1 h2 h3 h4 : Int) (t1 t2 t3 t4 : Tok) (n : Nat) (fo xo : Obj) (va vb ya yb : Option Value)
    (_ : v = some (.ref x))
    (_ : (x, instObj 443 d) ∈ all)
    (_ : (d, dictOf [⟨h1, .str (Str.ofString "operations") t1, .ref l⟩, ⟨h2, .str (Str.ofString "fonts") t2, .ref fd⟩, ⟨h3, .str (Str.ofString "forms") t3, .ref xd⟩, ⟨h4, .str (Str.ofString "own") t4, .ref mt⟩] n) ∈ all)
    (_ : DeedIs all l deed)
    (_ : ((fd, fo) ∈ all ∧ fo.IsDictOf (PySem.strKind PP w) (pairK va vb) ∧ (fd == sysModules) = false))
    (_ : IntO fa va)
    (_ : IntO fb vb)
    (_ : ((xd, xo) ∈ all ∧ xo.IsDictOf (PySem.strKind PP w) (pairK ya yb) ∧ (xd == sysModules) = false))
    (_ : Pa ya)
    (_ : Pb yb)
    (_ : MatIs all mt 1 0 0 1 shift 0) : SheetN w all Pa Pb deed shift fa fb v
/-- a sheet as it is made -/
noncomputable def SheetV (w : World) (all : Led) : OT → Option Value → Prop
  | .nil, v => v = none
  | .node deed shift fa fb xa xb, v => SheetN w all (SheetV w all xa) (SheetV w all xb) deed shift fa fb v
theorem SheetV.mono {w : World} {all all' : Led} (hs : ∀ p ∈ all, p ∈ all') : ∀ {t : OT} {v : Option Value}, SheetV w all t v → SheetV w all' t v := by
  intro t
  induction t with
  | nil => intro v h; exact h
  | node deed shift fa fb xa xb iha ihb =>
    rintro v ⟨x, d, l, fd, xd, mt, h1, h2, h3, h4, t1, t2, t3, t4, n, fo, xo, va, vb, ya, yb, e, a1, a2, a3, ⟨a4, a5, a6⟩, a7, a8, ⟨a9, a10, a11⟩, a12, a13, a14⟩
    exact ⟨x, d, l, fd, xd, mt, h1, h2, h3, h4, t1, t2, t3, t4, n, fo, xo, va, vb, ya, yb, e, hs _ a1, hs _ a2, a3.mono hs, ⟨hs _ a4, a5, a6⟩, a7, a8, ⟨hs _ a9, a10, a11⟩, iha a12, ihb a13, a14.mono hs⟩
set_option autoImplicit false in
/-- a stream with its head and its deed -/
inductive StrmAt (all : Led) (x hd : Addr) (deed : Int) : Prop
  | mk (d h1 h2 t1 t2 t3 n : _)
    (_ : (x, instObj 233 d) ∈ all)
    (_ : (d, dictOf [⟨h1, .str (Str.ofString "head") t1, .ref hd⟩, ⟨h2, .str (Str.ofString "octets") t2, .bytes #[UInt8.ofNat deed.toNat] t3⟩] n) ∈ all) : StrmAt all x hd deed
theorem StrmAt.mono {all all' : Led} {x hd : Addr} {deed : Int} (h : StrmAt all x hd deed) (hs : ∀ p ∈ all, p ∈ all') : StrmAt all' x hd deed := by
  obtain ⟨d, h1, h2, t1, t2, t3, n, a, b⟩ := h
  exact ⟨d, h1, h2, t1, t2, t3, n, hs _ a, hs _ b⟩
/-- the shelf, its table's rows, the streams and the resources -/
structure WorldIs (w : World) (all : Led) (sh tb : Addr) (S : Int → StrmD) (R : Int → ResD) : Prop where
  shelf : ShelfIs all sh tb
  strm : ∀ k : Int, 0 ≤ k → k < 3 → ∃ x hd, RowIs w all tb (1 + k) (.ref x) ∧ StrmAt all x hd (S k).deed ∧ HeadIs w all hd (S k).kd (S k).lent (S k).mat ∧ 0 ≤ (S k).lent ∧ (S k).lent ≤ 3 ∧ 0 ≤ (S k).deed ∧ (S k).deed < 4 ∧ (S k).mat ≤ 6
  res : ∀ k : Int, 0 ≤ k → k < 3 → ∃ rd, RowIs w all tb (4 + k) (.ref rd) ∧ ResIs w all rd (R k).fa (R k).ta (R k).fb (R k).tb
  row7 : ∃ d o t, RowIs w all tb 7 (.ref d) ∧ (d, o) ∈ all ∧ o.IsDictOf (PySem.strKind PP w) [(Str.ofString "Id", .int 5 t)] ∧ (d == sysModules) = false
  row8 : ∃ t, RowIs w all tb 8 (.int 0 t)
theorem WorldIs.mono {w : World} {all all' : Led} {sh tb : Addr} {S : Int → StrmD} {R : Int → ResD} (h : WorldIs w all sh tb S R) (hs : ∀ p ∈ all, p ∈ all') : WorldIs w all' sh tb S R := by
  refine ⟨h.shelf.mono hs, fun k h0 h1 => ?_, fun k h0 h1 => ?_, ?_, ?_⟩
  · obtain ⟨x, hd, a, b, c, r⟩ := h.strm k h0 h1
    exact ⟨x, hd, a.mono hs, b.mono hs, c.mono hs, r⟩
  · obtain ⟨rd, a, b⟩ := h.res k h0 h1
    exact ⟨rd, a.mono hs, b.mono hs⟩
  · obtain ⟨d, o, t, a, b, c, e⟩ := h.row7
    exact ⟨d, o, t, a.mono hs, hs _ b, c, e⟩
  · obtain ⟨t, a⟩ := h.row8
    exact ⟨t, a.mono hs⟩
/-- a part of the ledger that stays as it is -/
structure SubL (core news : Led) : Prop where
  sub : ∀ p ∈ core, p ∈ news
theorem subIn {core news : Led} {p : Addr × Obj} (h : SubL core news) (hp : p ∈ core) : p ∈ news := h.sub p hp
set_option autoImplicit false in
/-- a function object in the ledger -/
inductive FnIn (all : Led) (fn : Addr) : Prop
  | mk (oc od fd sl : _)
    (_ : (fn, (⟨oc, od, .func fd, sl⟩ : Obj)) ∈ all) : FnIn all fn
theorem FnIn.mono {all all' : Led} {fn : Addr} (h : FnIn all fn) (hs : ∀ p ∈ all, p ∈ all') : FnIn all' fn := by
  obtain ⟨a, b, c, d, e⟩ := h
  exact ⟨a, b, c, d, hs _ e⟩
/-- font_of, as a contract -/
noncomputable def FontFn (w : World) (all : Led) (sh fn : Addr) : Prop := FnIn all fn ∧ ∀ news : Led, (∀ p ∈ all, p ∈ news) → ∀ (x : Addr) (o : Obj) (i : Int) (t : Tok), (x, o) ∈ news → o.IsDictOf (PySem.strKind PP w) [(Str.ofString "Id", .int i t)] → (x == sysModules) = false →
  Spec w 10 fn [.ref sh, .ref x] news (fun r n' => n' = news ∧ r = .int i t)
theorem FontFn.mono {w : World} {all all' : Led} {sh fn : Addr} (h : FontFn w all sh fn) (hs : ∀ p ∈ all, p ∈ all') : FontFn w all' sh fn := ⟨h.1.mono hs, fun news hn => h.2 news fun p hp => hn p (hs p hp)⟩
/-- content_of, as a contract -/
noncomputable def ContFn (w : World) (all : Led) (sh fn : Addr) : Prop := FnIn all fn ∧ ∀ news : Led, (∀ p ∈ all, p ∈ news) → ∀ (x hd : Addr) (deed : Int), 0 ≤ deed → deed < 4 → StrmAt news x hd deed →
  Spec w 10 fn [.ref sh, .ref x] news (fun r n' => n' = news ∧ ∃ l, r = .ref l ∧ DeedIs all l deed)
theorem ContFn.mono {w : World} {all all' : Led} {sh fn : Addr} (h : ContFn w all sh fn) (hs : ∀ p ∈ all, p ∈ all') : ContFn w all' sh fn := ⟨h.1.mono hs, fun news hn x hd deed h0 h4 hx => by
  have h' := h.2 news (fun p hp => hn p (hs p hp)) x hd deed h0 h4 hx
  intro mean mg mb dp un gd cn cs a ccd cl outer A₀ base h₀ L m s Q E B F X N T hk hd9 hu hret
  refine h' mean mg mb dp un gd cn cs a ccd cl outer A₀ base h₀ L m s Q E B F X N T hk hd9 hu ?_
  rintro r n' h9 tk F' N' ⟨e, l, el, hl⟩
  exact hret r n' h9 tk F' N' ⟨e, l, el, hl.mono hs⟩⟩
/-- the loop's dict of fonts behind some words -/
inductive FKv (g : String → Option Int) : List String → List (Str × Value) → Prop
  | nil : FKv g [] []
  | skip {ws : List String} {kvs : List (Str × Value)} {x : String} : FKv g ws kvs → g x = none → FKv g (ws ++ [x]) kvs
  | add {ws : List String} {kvs : List (Str × Value)} {x : String} {i : Int} {t : Tok} : FKv g ws kvs → g x = some i → FKv g (ws ++ [x]) (stored kvs (Str.ofString x) (.int i t))
/-- the loop's dict of forms behind some words -/
inductive XKv (w : World) (all : Led) (g : String → Option OT) : List String → List (Str × Value) → Prop
  | nil : XKv w all g [] []
  | skip {ws : List String} {kvs : List (Str × Value)} {x : String} : XKv w all g ws kvs → g x = some .nil → XKv w all g (ws ++ [x]) kvs
  | add {ws : List String} {kvs : List (Str × Value)} {x : String} {t : OT} {v : Value} : XKv w all g ws kvs → g x = some t → SheetV w all t (some v) → XKv w all g (ws ++ [x]) (stored kvs (Str.ofString x) v)
theorem XKv.mono {w : World} {all all' : Led} {g : String → Option OT} {ws : List String} {kvs : List (Str × Value)} (h : XKv w all g ws kvs) (hs : ∀ p ∈ all, p ∈ all') : XKv w all' g ws kvs := by
  induction h with
  | nil => exact .nil
  | skip _ a ih => exact .skip ih a
  | add _ a b ih => exact .add ih a (b.mono hs)
/-- the lists of words that stand -/
noncomputable def wordLists : List (List String) := [[], ["A"], ["B"], ["A", "B"]]
theorem fonts_list (d : Int) : fontsOf d ∈ wordLists := by
  unfold fontsOf deedOps
  split <;> decide
theorem forms_list (d : Int) : formsOf d ∈ wordLists := by
  unfold formsOf deedOps
  split <;> decide
theorem FKv.one {g : String → Option Int} {ws : List String} {x : String} {kvs : List (Str × Value)} (h : FKv g (ws ++ [x]) kvs) : ∃ kvs0 v, FKv g ws kvs0 ∧ IntO (g x) v ∧ kvs = addK kvs0 (Str.ofString x) v := by
  generalize e : ws ++ [x] = l at h
  cases h with
  | nil => simp at e
  | skip a b =>
    obtain ⟨e1, e2⟩ := List.append_inj' e rfl
    simp only [List.cons.injEq, and_true] at e2
    subst e1 e2
    exact ⟨_, none, a, by rw [b]; exact .none, rfl⟩
  | add a b =>
    obtain ⟨e1, e2⟩ := List.append_inj' e rfl
    simp only [List.cons.injEq, and_true] at e2
    subst e1 e2
    exact ⟨_, some _, a, by rw [b]; exact .some, rfl⟩
theorem XKv.one {w : World} {all : Led} {g : String → Option OT} {ws : List String} {x : String} {kvs : List (Str × Value)} (h : XKv w all g (ws ++ [x]) kvs) : ∃ kvs0 v t, XKv w all g ws kvs0 ∧ g x = some t ∧ SheetV w all t v ∧ kvs = addK kvs0 (Str.ofString x) v := by
  generalize e : ws ++ [x] = l at h
  cases h with
  | nil => simp at e
  | skip a b =>
    obtain ⟨e1, e2⟩ := List.append_inj' e rfl
    simp only [List.cons.injEq, and_true] at e2
    subst e1 e2
    exact ⟨_, none, .nil, a, b, rfl, rfl⟩
  | add a b c =>
    obtain ⟨e1, e2⟩ := List.append_inj' e rfl
    simp only [List.cons.injEq, and_true] at e2
    subst e1 e2
    exact ⟨_, some _, _, a, b, c, rfl⟩
theorem FKv.empty {g : String → Option Int} {kvs : List (Str × Value)} (h : FKv g [] kvs) : kvs = [] := by
  generalize e : ([] : List String) = l at h
  cases h with
  | nil => rfl
  | skip => simp at e
  | add => simp at e
theorem XKv.empty {w : World} {all : Led} {g : String → Option OT} {kvs : List (Str × Value)} (h : XKv w all g [] kvs) : kvs = [] := by
  generalize e : ([] : List String) = l at h
  cases h with
  | nil => rfl
  | skip => simp at e
  | add => simp at e
theorem FKv.pair {g : String → Option Int} {ws : List String} {kvs : List (Str × Value)} (hw : ws ∈ wordLists) (h : FKv g ws kvs) : ∃ va vb, IntO (if "A" ∈ ws then g "A" else none) va ∧ IntO (if "B" ∈ ws then g "B" else none) vb ∧ kvs = pairK va vb := by
  simp only [wordLists, List.mem_cons, List.not_mem_nil, or_false] at hw
  rcases hw with rfl | rfl | rfl | rfl
  · have := h.empty; subst this
    exact ⟨_, _, .none, .none, rfl⟩
  · obtain ⟨k0, v, h0, hv, rfl⟩ := FKv.one (ws := []) h
    have := h0.empty; subst this
    exact ⟨v, _, hv, .none, rfl⟩
  · obtain ⟨k0, v, h0, hv, rfl⟩ := FKv.one (ws := []) h
    have := h0.empty; subst this
    exact ⟨_, v, .none, hv, rfl⟩
  · obtain ⟨k0, v, h0, hv, rfl⟩ := FKv.one (ws := ["A"]) h
    obtain ⟨k1, v1, h1, hv1, rfl⟩ := FKv.one (ws := []) h0
    have := h1.empty; subst this
    exact ⟨v1, v, hv1, hv, rfl⟩
theorem XKv.pair {w : World} {all : Led} {g : String → Option OT} {ws : List String} {kvs : List (Str × Value)} (hw : ws ∈ wordLists) (h : XKv w all g ws kvs) : ∃ va vb ta tb, (if "A" ∈ ws then g "A" else some .nil) = some ta ∧ (if "B" ∈ ws then g "B" else some .nil) = some tb ∧ SheetV w all ta va ∧ SheetV w all tb vb ∧ kvs = pairK va vb := by
  simp only [wordLists, List.mem_cons, List.not_mem_nil, or_false] at hw
  rcases hw with rfl | rfl | rfl | rfl
  · have := h.empty; subst this
    exact ⟨_, _, .nil, .nil, rfl, rfl, rfl, rfl, rfl⟩
  · obtain ⟨k0, v, t, h0, hg, hv, rfl⟩ := XKv.one (ws := []) h
    have := h0.empty; subst this
    exact ⟨v, _, t, .nil, hg, rfl, hv, rfl, rfl⟩
  · obtain ⟨k0, v, t, h0, hg, hv, rfl⟩ := XKv.one (ws := []) h
    have := h0.empty; subst this
    exact ⟨_, v, .nil, t, rfl, hg, rfl, hv, rfl⟩
  · obtain ⟨k0, v, t, h0, hg, hv, rfl⟩ := XKv.one (ws := ["A"]) h
    obtain ⟨k1, v1, t1, h1, hg1, hv1, rfl⟩ := XKv.one (ws := []) h0
    have := h1.empty; subst this
    exact ⟨v1, v, t1, t, hg1, hg, hv1, hv, rfl⟩
/-- form_matrix, whole -/
theorem form_matrix_ok {w : World} {news : Led} {sh tb hd : Addr} {kd : Kd} {lv mv : Int} {t8 : Tok} (hs : ShelfIs news sh tb) (hh : HeadIs w news hd kd lv mv) (h8 : RowIs w news tb 8 (.int 0 t8)) (hm : mv < 5) :
   Makes w 16 459 [.ref sh, .ref hd] news (fun r add => ∃ x, r = .ref x ∧ MatIs add x 1 0 0 1 (matShift mv) 0) := by
  by_cases h : mv ≤ 1
  · have e : matShift mv = 0 := by unfold matShift; rw [if_neg]; omega
    rw [e]; exact form_matrix_low hs hh h
  · have e : matShift mv = mv := by unfold matShift; rw [if_pos]; omega
    rw [e]; exact form_matrix_mid hs hh h8 (by omega) (by omega)
theorem form_matrix_bad {w : World} {news : Led} {sh tb hd : Addr} {kd : Kd} {lv mv : Int} (hs : ShelfIs news sh tb) (hh : HeadIs w news hd kd lv mv) (hm : 5 ≤ mv) (hm6 : mv ≤ 6) : SpecR w 16 459 [.ref sh, .ref hd] news := by
  have h : mv = 5 ∨ mv = 6 := by omega
  rcases h with rfl | rfl
  · exact form_matrix_five hs hh
  · exact form_matrix_six hs hh
theorem Above.push {news a : Led} {d : Addr} {o : Obj} (h : Above news a) (h2 : ∀ p ∈ a ++ news, p.1 < d) : Above news ((d, o) :: a) := Above.trans h (Above.one h2)
theorem Above.swap {news a : Led} {d : Addr} {o o' : Obj} (h : Above news ((d, o) :: a)) : Above news ((d, o') :: a) := by
  obtain ⟨lo, u, v⟩ := h
  exact ⟨lo, u, all_cons (v (d, o) List.mem_cons_self) fun p hp => v p (List.mem_cons_of_mem _ hp)⟩
end
section
/-- a contract of a call that hands back or raises a PaintFault -/
noncomputable def SpecB (w : World) (n : Nat) (f : Addr) (vs : List Value) (news : Led) (R : Value → Led → Prop) (X : Prop) : Prop :=
  ∀ (mean : ExcName → Option Value) (mg mb : Str → Option Value) (dp un : Nat) (gd : Option (List Code)) (cn : Str) (cs : Scope) (a : Addr) (ccd : Value) (cl : List (Str × Addr)) (outer : List Env) (A₀ : Around) (base h₀ : Heap) (L : Addr) (m : Str → Option Value) (s : Shared) (Q E : Value → Shared → Prop),
    Below A₀ base outer h₀ → Fr h₀ L s.heap m → (KH w.params).In h₀ → News h₀ L s.heap news → Top VW LO mean mg mb h₀ → cs.kind = .function →
    dp + n < recursionLimit → un + 8 * n < cLine →
    (∀ r news' h' tk', Fr h₀ L h' m → News h₀ L h' news' → R r news' → Q r { s with heap := h', toks := tk' }) →
    (∀ e h' tk' g₂, X → RaisedN base (envX cn cs L a ccd cl :: outer) e (.ref 59) news h' → Fr h₀ L g₂ m → g₂.UpToSlots h' → E (.ref e) { s with heap := h', toks := tk' }) →
    wpAny (model PP w) (ktrTop dp un gd cn cs L a ccd cl outer) (call (.ref f) vs) Q E s
theorem SpecB.use {w : World} {n : Nat} {f : Addr} {vs : List Value} {news : Led} {R : Value → Led → Prop} {Y : Prop} (S : SpecB w n f vs news R Y)
  {mean : ExcName → Option Value} {mg mb : Str → Option Value} {dp un : Nat} {gd : Option (List Code)} {cn : Str} {cs : Scope} {a : Addr} {ccd : Value} {cl : List (Str × Addr)} {outer : List Env} {A₀ : Around} {base h₀ : Heap} {L : Addr} {m : Str → Option Value} {s : Shared} {Q E : Value → Shared → Prop}
  (B : Below A₀ base outer h₀) (F : Fr h₀ L s.heap m) (X : (KH w.params).In h₀) (N : News h₀ L s.heap news) (T : Top VW LO mean mg mb h₀) (hk : cs.kind = .function)
  (hd : dp + n < recursionLimit) (hu : un + 8 * n < cLine)
  (ret : ∀ r news' h' tk', Fr h₀ L h' m → News h₀ L h' news' → R r news' → Q r { s with heap := h', toks := tk' })
  (raised : ∀ e h' tk' g₂, Y → RaisedN base (envX cn cs L a ccd cl :: outer) e (.ref 59) news h' → Fr h₀ L g₂ m → g₂.UpToSlots h' → E (.ref e) { s with heap := h', toks := tk' }) :
  wpAny (model PP w) (ktrTop dp un gd cn cs L a ccd cl outer) (call (.ref f) vs) Q E s := S mean mg mb dp un gd cn cs a ccd cl outer A₀ base h₀ L m s Q E B F X N T hk hd hu ret raised
theorem SpecB.use2 {w : World} {n : Nat} {f : Addr} {vs : List Value} {news : Led} {R : Value → Led → Prop} {Y : Prop} (S : SpecB w n f vs news R Y)
  {mean : ExcName → Option Value} {mg mb : Str → Option Value} {dp un : Nat} {gd : Option (List Code)} {cn : Str} {cs : Scope} {a : Addr} {ccd : Value} {cl : List (Str × Addr)} {outer : List Env} {A₀ : Around} {base h₀ : Heap} {L : Addr} {m : Str → Option Value} {h1 : Heap} {gs : Array GenState} {dr : Drawn} {t1 : Nat} {os : OsState} {Q E : Value → Shared → Prop}
  (ret : ∀ r news', R r news' → ∀ h' tk', Fr h₀ L h' m → News h₀ L h' news' → Q r ⟨h', gs, dr, tk', os⟩)
  (raised : ∀ e h' tk' g₂, Y → RaisedN base (envX cn cs L a ccd cl :: outer) e (.ref 59) news h' → Fr h₀ L g₂ m → g₂.UpToSlots h' → E (.ref e) ⟨h', gs, dr, tk', os⟩)
  (B : Below A₀ base outer h₀ := by k_asm) (F : Fr h₀ L h1 m := by k_asm) (X : (KH w.params).In h₀ := by k_asm) (N : News h₀ L h1 news := by k_asm) (T : Top VW LO mean mg mb h₀ := by k_asm) (hk : cs.kind = .function := by first | exact rfl | assumption)
  (hd : dp + n < recursionLimit := by ktr_room) (hu : un + 8 * n < cLine := by ktr_units) :
  wpAny (model PP w) (ktrTop dp un gd cn cs L a ccd cl outer) (call (.ref f) vs) Q E ⟨h1, gs, dr, t1, os⟩ := S mean mg mb dp un gd cn cs a ccd cl outer A₀ base h₀ L m ⟨h1, gs, dr, t1, os⟩ Q E B F X N T hk hd hu (fun r n h t F N R => ret r n R h t F N) raised
theorem resD {w : World} {news : Led} {sh tb hd : Addr} {o : Obj} {kvs : List (Str × Value)} {key : Str} {t : Tok} {ov v' : Value} (hs : ShelfIs news sh tb) (hm : (hd, o) ∈ news) (ho : o.IsDictOf (PySem.strKind PP w) kvs) (hsys : (hd == sysModules) = false)
   (hv : (valueAt kvs key).getD .none = ov) (hf : FetchTo w news tb ov v' "dict") : Spec w 7 454 [.ref sh, .ref hd, .str key t] news (fun r news' => news' = news ∧ r = v') := by
  have h := resource_dict (t := t) hs hm ho hsys hv hf
  intro mean mg mb dp un gd cn cs a ccd cl outer A₀ base h₀ L m s Q E B F X N T hk hd9 hu hret
  exact h mean mg mb dp un gd cn cs a ccd cl outer A₀ base h₀ L m s Q E B F X N T hk hd9 hu fun r n' h' tk' F' N' hr => hret r n' h' tk' F' N' (hr.1 rfl)
set_option autoImplicit false in
/-- what text_sheet hands back -/
inductive SheetR (w : World) (S : Int → StrmD) (R : Int → ResD) (f : Nat) (at_ deed shift : Int) (core news : Led) (r : Value) (news' : Led) : Prop
  | mk (T add : _)
    (_ : paint S R f at_ deed shift = some T)
    (_ : news' = add ++ news)
    (_ : Above news add)
    (_ : SheetV w (add ++ core) T (some r)) : SheetR w S R f at_ deed shift core news r news'
noncomputable def SheetSpec (w : World) (S : Int → StrmD) (R : Int → ResD) (f : Nat) : Prop := ∀ (core news : Led) (sh tb rd ol pl mt fn cn : Addr) (at_ deed shift dv : Int) (t9 : Tok) (n9 : Nat), SubL core news → f ≤ 9 → dv = 9 - (f : Int) →
  WorldIs w core sh tb S R → FontFn w core sh fn → ContFn w core sh cn → 0 ≤ at_ → at_ < 3 → ResIs w core rd (R at_).fa (R at_).ta (R at_).fb (R at_).tb → DeedIs core ol deed →
  (pl, tupOf #[.int dv t9, .ref mt] n9) ∈ news → MatIs core mt 1 0 0 1 shift 0 →
  SpecB w (20 + 4 * f) 473 [.ref sh, .ref rd, .ref ol, .ref pl, .ref fn, .ref cn] news (SheetR w S R f at_ deed shift core news) (paint S R f at_ deed shift = none)
theorem elSheet {w : World} {S : Int → StrmD} {R : Int → ResD} {f : Nat} {at_ deed shift : Int} {core news : Led} {G : Value → Led → Prop} (K : ∀ r T add, paint S R f at_ deed shift = some T → Above news add → SheetV w (add ++ core) T (some r) → G r (add ++ news)) :
  ∀ r n, SheetR w S R f at_ deed shift core news r n → G r n := by
  rintro r _ ⟨T, add, hp, rfl, ha, hv⟩
  exact K r T add hp ha hv
theorem fetch_dict {w : World} {all : Led} {tb x : Addr} {o : Obj} {kvs : List (Str × Value)} (h : (x, o) ∈ all) (h2 : o.IsDictOf (PySem.strKind PP w) kvs) : FetchTo w all tb (.ref x) (.ref x) "dict" := .self (.dict h h2)
/-- the pair of one word in a resource -/
theorem pair_at {x : String} (hx : x = "A" ∨ x = "B") (a b : Option Value) : valueAt (pairK a b) (Str.ofString x) = if x = "A" then a else b := by
  rcases hx with rfl | rfl <;> cases a <;> cases b <;> rfl
theorem word_in {x : String} {ws : List String} (hw : ws ∈ wordLists) (hx : x ∈ ws) : x = "A" ∨ x = "B" := by
  simp only [wordLists, List.mem_cons, List.not_mem_nil, or_false] at hw
  rcases hw with rfl | rfl | rfl | rfl <;> simp at hx
  · exact .inl hx
  · exact .inr hx
  · exact hx
theorem paint_some {S : Int → StrmD} {R : Int → ResD} {f : Nat} {at_ deed shift : Int} {ta tb : OT}
    (ha : (if "A" ∈ formsOf deed then subT S (paint S R f) at_ ((R at_).thing "A") else some .nil) = some ta) (hb : (if "B" ∈ formsOf deed then subT S (paint S R f) at_ ((R at_).thing "B") else some .nil) = some tb) :
    paint S R (f + 1) at_ deed shift = some (.node deed shift (if "A" ∈ fontsOf deed then fontNo ((R at_).font "A") else none) (if "B" ∈ fontsOf deed then fontNo ((R at_).font "B") else none) ta tb) := by
  unfold paint
  simp only [ha, hb]
theorem paint_none {S : Int → StrmD} {R : Int → ResD} {f : Nat} {at_ deed shift : Int} {x : String} (hx : x = "A" ∨ x = "B") (hm : x ∈ formsOf deed) (h : subT S (paint S R f) at_ ((R at_).thing x) = none) :
    paint S R (f + 1) at_ deed shift = none := by
  unfold paint
  rcases hx with rfl | rfl
  · simp only [if_pos hm, h]
  · simp only [if_pos hm, h]
    split <;> rfl
theorem set_pull {w : World} {A : Around} {E : Value → Shared → Prop} {Q : Unit → Shared → Prop} {s : Shared} {h₀ : Heap} {L d : Addr} {m : Str → Option Value} {all rest : Led} {o : Obj} {kvs : List (Str × Value)} {k : Str} {t : Tok} {v : Value} (F : Fr h₀ L s.heap m) (N : News h₀ L s.heap all) (hl : Pull d o all rest) (off : ∀ p ∈ rest, p.1 ≠ d) (hd : o.IsDictOf (PySem.strKind PP w) kvs) (hsz : kvs.length ≤ sizeLine)
    (h : ∀ h' o', Fr h₀ L h' m → News h₀ L h' ((d, o') :: rest) → o'.IsDictOf (PySem.strKind PP w) (stored kvs k v) → Q () { s with heap := h', toks := s.toks + 1 }) : wpAny (model PP w) A (setItem (.ref d) (.str k t) v) Q E s :=
  kda_set F (News.pull N hl) (UpdF.head off) hd (strKind_is _ _ _ _) hsz h
theorem font_call {w : World} {all news : Led} {sh fn x : Addr} {o : Obj} {i : Int} {t : Tok} (hF : FontFn w all sh fn) (hs : ∀ p ∈ all, p ∈ news) (hm : (x, o) ∈ news) (ho : o.IsDictOf (PySem.strKind PP w) [(Str.ofString "Id", .int i t)]) (hsys : (x == sysModules) = false) :
  Spec w 10 fn [.ref sh, .ref x] news (fun r n' => n' = news ∧ r = .int i t) := hF.2 news hs x o i t hm ho hsys
theorem cont_call {w : World} {all news : Led} {sh fn x hd : Addr} {deed : Int} (hC : ContFn w all sh fn) (hs : ∀ p ∈ all, p ∈ news) (h0 : 0 ≤ deed) (h4 : deed < 4) (hx : StrmAt news x hd deed) :
  Spec w 10 fn [.ref sh, .ref x] news (fun r n' => n' = news ∧ ∃ l, r = .ref l ∧ DeedIs all l deed) := hC.2 news hs x hd deed h0 h4 hx
theorem StrsAre.get {vs : List Value} {ws : List String} (h : Mine.StrsAre vs ws) : ∀ {i : Nat} {v : Value}, vs[i]? = some v → ∃ x t, v = .str (Str.ofString x) t ∧ ws[i]? = some x := by
  induction h with
  | nil => intro i v e; simp at e
  | cons _ ih =>
    intro i v e
    cases i with
    | zero => simp only [List.getElem?_cons_zero, Option.some.injEq] at e; exact ⟨_, _, e.symm, rfl⟩
    | succ i => simp only [List.getElem?_cons_succ] at e; exact ih e
theorem StrsAre.length {vs : List Value} {ws : List String} (h : Mine.StrsAre vs ws) : vs.length = ws.length := by
  induction h with
  | nil => rfl
  | cons _ ih => exact congrArg (· + 1) ih
theorem list_le {ws : List String} (h : ws ∈ wordLists) : ws.length ≤ 2 := by
  simp only [wordLists, List.mem_cons, List.not_mem_nil, or_false] at h
  rcases h with rfl | rfl | rfl | rfl <;> decide
theorem take_succ {α : Type} {os : List α} {i : Nat} {o : α} (h : os[i]? = some o) : os.take (i + 1) = os.take i ++ [o] := by
  rw [List.take_add_one, h]; rfl
theorem iter_nil {prog : Program} {w : World} {A : Around} {E : Value → Shared → Prop} {s : Shared} {env : Env} {h₀ : Heap} {x : Str} {body : List Stmt} {Q : Flow → Shared → Prop} {l : Addr} {n : Nat} {m : Str → Option Value} {news : Led} {h1 : Heap} {t1 : Nat} (hh : A.handled = none) (F : Fr h₀ env.locals h1 m) (N : News h₀ env.locals h1 news) (hm : (l, W.listOf #[] n) ∈ news)
  (done : ∀ h tk, Fr h₀ env.locals h m → News h₀ env.locals h news → Q .next { s with heap := h, toks := tk }) :
  wpAny (model prog w) A (pyIter (.ref l)) (fun it s₂ => LoopAtV prog w A h₀ env x body Q E it s₂) E { s with heap := h1, toks := t1 } := by
  refine iter_list (l := l) (vs := #[]) (n := n) hh F N (fun _ m' n' => m' = m ∧ n' = news) ⟨rfl, rfl⟩ ?_ ?_ ?_
  · rintro i m' n' ⟨rfl, rfl⟩; exact hm
  · intro i v m₁ n₁ h tk I it hi; exact absurd hi (Nat.not_lt_zero _)
  · rintro m₁ n₁ h tk ⟨rfl, rfl⟩ F1 N1
    exact done h tk F1 N1
theorem Above.swapL {d : Addr} {o o' : Obj} {n a : Led} (h : Above ((d, o) :: n) a) : Above ((d, o') :: n) a := by
  obtain ⟨lo, u, v⟩ := h
  exact ⟨lo, all_cons (u (d, o) List.mem_cons_self) fun q hq => u q (List.mem_cons_of_mem _ hq), v⟩
theorem is_form_b {w : World} {news : Led} {sh tb x hd : Addr} {kd : Kd} {lv mv : Int} {b : Bool} (hs : ShelfIs news sh tb) (hx : StrmIs news x hd) (hh : HeadIs w news hd kd lv mv) (hb : isForm kd = b) :
   Spec w 7 466 [.ref sh, .ref x] news (fun r news' => news' = news ∧ r = .bool b) := hb ▸ is_form_yes hs hx hh
theorem StrmAt.is {all : Led} {x hd : Addr} {deed : Int} (h : StrmAt all x hd deed) : StrmIs all x hd := by
  obtain ⟨d, h1, h2, t1, t2, t3, n, a, b⟩ := h
  exact ⟨d, h1, h2, t1, t2, n, _, a, b⟩
theorem StrmIs.mono {all all' : Led} {x hd : Addr} (h : StrmIs all x hd) (hs : ∀ p ∈ all, p ∈ all') : StrmIs all' x hd := by
  obtain ⟨d, h1, h2, t1, t2, n, oc, a, b⟩ := h
  exact ⟨d, h1, h2, t1, t2, n, oc, hs _ a, hs _ b⟩
theorem lent_case {w : World} {news : Led} {sh tb : Addr} {S : Int → StrmD} {R : Int → ResD} {lv at_ : Int} {rv : Option Value} (hW : WorldIs w news sh tb S R) (h5 : ResV news lv rv) (b1 : 0 ≤ lv) (b2 : lv ≤ 3) :
  ∃ iv ik, FetchTo w news tb (rv.getD .none) iv ik ∧ ((ik = "null" ∧ iv = .none ∧ lv = 0) ∨ (ik = "dict" ∧ ∃ rd2, iv = .ref rd2 ∧ ResIs w news rd2 (R (lentAt at_ lv)).fa (R (lentAt at_ lv)).ta (R (lentAt at_ lv)).fb (R (lentAt at_ lv)).tb)) := by
  cases h5 with
  | zero => exact ⟨_, _, .self .none, .inl ⟨rfl, rfl, rfl⟩⟩
  | pos hp0 hp1 =>
    obtain ⟨rd2, rr1, rr2⟩ := hW.res (lv - 1) (by omega) (by omega)
    have e1 : 4 + (lv - 1) = 3 + lv := by omega
    have e2 : lentAt at_ lv = lv - 1 := by unfold lentAt; rw [if_neg (by omega)]
    rw [e1] at rr1
    obtain ⟨_, _, _, _, _, _, _, _, oo, _, _, _, _, ⟨q1, q2, q3⟩, _⟩ := id rr2
    exact ⟨_, _, .ref hp1 rr1 (.dict q1 q2), .inr ⟨rfl, rd2, rfl, e2.symm ▸ rr2⟩⟩
theorem Above.swap2 {news a : Led} {p : Addr × Obj} {d : Addr} {o o' : Obj} (h : Above news (p :: (d, o) :: a)) : Above news (p :: (d, o') :: a) := by
  obtain ⟨lo, u, v⟩ := h
  exact ⟨lo, u, all_cons (v _ List.mem_cons_self) (all_cons (v (d, o) (List.mem_cons_of_mem _ List.mem_cons_self)) fun p hp => v p (List.mem_cons_of_mem _ (List.mem_cons_of_mem _ hp)))⟩
theorem Above.inst {news a : Led} {x d : Addr} {ox od : Obj} (h : Above news a) (h1 : ∀ p ∈ a ++ news, p.1 < d) (h2 : @LT.lt Nat _ d x) : Above news ((x, ox) :: (d, od) :: a) :=
  (h.push h1).push (all_cons h2 fun p hp => Nat.lt_trans (h1 p hp) h2)
theorem lts_sub {l l' : Led} {d : Addr} (h : ∀ p ∈ l, p.1 < d) (hs : ∀ p ∈ l', p ∈ l) : ∀ p ∈ l', p.1 < d := fun p hp => h p (hs p hp)
end
section
noncomputable def pairF (x : String) : Option Int → List Dat
  | none => []
  | some i => [.tuple [.str (Str.ofString x), .int i]]
noncomputable def pairX (x : String) : Option Dat → List Dat
  | none => []
  | some d => [.tuple [.str (Str.ofString x), d]]
/-- what the law tells of a sheet -/
noncomputable def OT.dat : OT → Option Dat
  | .nil => none
  | .node d s fa fb xa xb => some (.tuple [.int d, .int s, .list (pairF "A" fa ++ pairF "B" fb), .list (pairX "A" xa.dat ++ pairX "B" xb.dat)])
noncomputable def due (S : Int → StrmD) (R : Int → ResD) (f : Nat) (at_ deed mat : Int) : Option OT := if 5 ≤ mat then none else paint S R f at_ deed (matShift mat)
theorem subT_due {S : Int → StrmD} {R : Int → ResD} {f : Nat} {at_ k : Int} (h : isForm (S k).kd = true) : subT S (paint S R f) at_ (.str k) = due S R f (lentAt at_ (S k).lent) (S k).deed (S k).mat := by
  simp only [subT, h, if_true, due]
theorem paint_node {S : Int → StrmD} {R : Int → ResD} {f : Nat} {at_ deed shift : Int} {T : OT} (h : paint S R f at_ deed shift = some T) : ∃ d, T.dat = some d := by
  cases f with
  | zero => cases h
  | succ f =>
    unfold paint at h
    dsimp only at h
    split at h
    · cases h
    · split at h
      · cases h
      · cases h; exact ⟨_, rfl⟩
theorem due_node {S : Int → StrmD} {R : Int → ResD} {f : Nat} {at_ deed mat : Int} {T : OT} (h : due S R f at_ deed mat = some T) : ∃ d, T.dat = some d := by
  unfold due at h
  split at h
  · cases h
  · exact paint_node h
/-- a thing points to one of the streams -/
noncomputable def ThB : Th → Prop
  | .str k => 0 ≤ k ∧ k < 3
  | _ => True
theorem ThingV.bound {w : World} {all : Led} {t : Th} {v : Option Value} (h : ThingV w all t v) : ThB t := by
  cases h with
  | str a b _ => exact ⟨a, b⟩
  | dict => trivial
  | missing => trivial
/-- the plain words: the lists of streams and of resources -/
structure PlainW (w : World) (all : Led) (sl rl : Addr) (S : Int → StrmD) (R : Int → ResD) : Prop where
  strm : ∃ vs n, (sl, W.listOf vs n) ∈ all ∧ ∀ k : Int, 0 ≤ k → k < 3 → ∃ pd, vs.toList[k.toNat]? = some (.ref pd) ∧ PlainIs w all pd (S k).kd (S k).lent (S k).mat (S k).deed ∧ 0 ≤ (S k).lent ∧ (S k).lent ≤ 3 ∧ 0 ≤ (S k).deed ∧ (S k).deed < 4
  res : ∃ vs n, (rl, W.listOf vs n) ∈ all ∧ ∀ k : Int, 0 ≤ k → k < 3 → ∃ pd, vs.toList[k.toNat]? = some (.ref pd) ∧ PlainResIs w all pd (R k).fa (R k).ta (R k).fb (R k).tb ∧ ThB (R k).ta ∧ ThB (R k).tb
set_option autoImplicit false in
/-- the two lists of words of a deed -/
inductive UsedP (all : Led) (x : Addr) (d : Int) : Prop
  | mk (l1 l2 n n1 n2 vs1 vs2 : _)
    (_ : (x, tupOf #[.ref l1, .ref l2] n) ∈ all)
    (_ : (l1, W.listOf vs1 n1) ∈ all)
    (_ : Mine.StrsAre vs1.toList (fontsOf d))
    (_ : (l2, W.listOf vs2 n2) ∈ all)
    (_ : Mine.StrsAre vs2.toList (formsOf d)) : UsedP all x d
theorem Above.pushO {news a l : Led} {d : Addr} {o : Obj} (h2 : ∀ p ∈ l, p.1 < d) (e : OnTop news l a) (h : Above news a) : Above news ((d, o) :: a) := h.push (e.eq ▸ h2)
noncomputable def dueDat (o : Option OT) : Dat := (o.bind OT.dat).getD .none
section
variable {w : World} {A : Around} {E : Value → Shared → Prop} {s : Shared} {h₀ : Heap} {L : Addr} {m : Str → Option Value} {all rest : Led} {D d : Addr} {its : Array Value} {n : Nat} {x v : Value} {o : Obj} {kvs : List (Str × Value)} {k : Str} {t : Tok}
theorem app_pull {Q : Value → Shared → Prop} (F : Fr h₀ L s.heap m) (N : News h₀ L s.heap all) (hl : Pull D (W.listOf its n) all rest) (off : ∀ p ∈ rest, p.1 ≠ D)
    (h : ∀ h', Fr h₀ L h' m → News h₀ L h' ((D, W.listOf (its.push x) (n + 1)) :: rest) → Q .none { s with heap := h' }) (hsz : its.size ≤ sizeLine) : wpAny (model PP w) A (call (.builtin "list.append") [.ref D, x]) Q E s :=
  append_K F (News.pull N hl) (Upd.head off) h hsz
theorem item_d {value slice : PySem.Expr} {Q : Value → Shared → Prop} (N : News h₀ L s.heap all) (hp : (d, o) ∈ all) (hd : o.IsDictOf (PySem.strKind PP w) kvs) (hl : valueAt kvs k = some v) (h : Q v { s with toks := s.toks + 1 })
    (hs : subscripted slice false (.ref d) (.str k t) = operate [.ref d, .str k t] (getItem (.ref d) (.str k t)) := by with_unfolding_all rfl) (hg : ∀ r, letTemporaryGo value (.ref d) r = pure () := by intro _; with_unfolding_all rfl) :
    wpAny (model PP w) A (subscriptTail value slice (.ref d) (.str k t)) Q E s := kda_item N hp hd (strKind_is _ _ _ _) hl h hs hg
theorem in_d {Q : Value → Shared → Prop} (N : News h₀ L s.heap all) (hp : (d, o) ∈ all) (hd : o.IsDictOf (PySem.strKind PP w) kvs) (lo : (d == sysModules) = false) {ov : Option Value} (hv : valueAt kvs k = ov) (h : Q (.bool ov.isSome) { s with toks := s.toks + 1 }) :
    wpAny (model PP w) A (compareOp .In (.str k t) (.ref d)) Q E s := kda_in N hp hd lo (strKind_is _ _ _ _) _ (by rw [hv]) h
end
theorem FontP.int {f : Fo} {o : Option Value} (h : FontP f o) : IntO (fontNo f) o := by
  cases h with
  | viaRef => exact .some
  | direct => exact .some
  | num => exact .none
  | missing => exact .none
theorem due_bad {S : Int → StrmD} {R : Int → ResD} {f : Nat} {at_ deed mat : Int} (h : 5 ≤ mat) : due S R f at_ deed mat = none := if_pos h
theorem pairF_one {l : Led} {x : String} {i : Int} {y : Addr} {n : Nat} {t t' : Tok} (h : (y, tupOf #[.str (Str.ofString x) t, .int i t'] n) ∈ l) : DatIn l (.ref y) (.tuple [.str (Str.ofString x), .int i]) :=
  .tuple (vs := [_, _]) h (.cons (.str _ _) (.cons (.int _ _) .nil))
/-- no address of add stands in news -/
noncomputable def Apart (news add : Led) : Prop := ∀ p ∈ add, ∀ q ∈ news, p.1 ≠ q.1
theorem Above.apart {news add : Led} (h : Above news add) : Apart news add := by
  obtain ⟨lo, u, v⟩ := h
  intro p hp q hq e
  have h1 := u q hq
  have h2 := v p hp
  rw [e] at h2
  exact Nat.lt_irrefl _ (Nat.lt_of_lt_of_le h1 h2)
theorem Apart.nil {news : Led} : Apart news [] := fun _ h => (nomatch h)
theorem Apart.trans {news a1 a2 : Led} (h1 : Apart news a1) (h2 : Apart (a1 ++ news) a2) : Apart news (a2 ++ a1) := fun p hp q hq => (List.mem_append.mp hp).elim (fun h => h2 p h q (List.mem_append_right _ hq)) fun h => h1 p h q hq
theorem Apart.sub {news news' add : Led} (h : Apart news add) (hs : ∀ p ∈ news', p ∈ news) : Apart news' add := fun p hp q hq => h p hp q (hs q hq)
theorem Apart.ne {news add : Led} (h : Apart news add) {t : Addr} {o : Obj} (ht : (t, o) ∈ news) : ∀ p ∈ add, p.1 ≠ t := fun p hp => h p hp _ ht
theorem Apart.cons {news a : Led} {d : Addr} {o : Obj} (ho : ∀ q ∈ news, q.1 ≠ d) (h : Apart news a) : Apart news ((d, o) :: a) := all_cons (fun q hq e => ho q hq e.symm) h
theorem off1_mem {D : Addr} : ∀ {l : Led}, LCg.Off1 D l → ∀ p ∈ l, p.1 ≠ D
  | [], _, _, h => (nomatch h)
  | _ :: _, h, _, hp => (List.mem_cons.mp hp).elim (fun e => e ▸ h.1) fun hp => off1_mem h.2 _ hp
/-- a contract that only makes, whose objects stand apart -/
noncomputable def MakesA (w : World) (n : Nat) (f : Addr) (vs : List Value) (news : Led) (P : Value → Led → Prop) : Prop := Spec w n f vs news (fun r news' => ∃ add, news' = add ++ news ∧ Apart news add ∧ P r add)
theorem Apart.app {news a b : Led} (h : Apart news a) (h2 : Apart news b) : Apart news (a ++ b) := fun p hp => (List.mem_append.mp hp).elim (h p) (h2 p)
theorem SubL.ext {core news all : Led} (h : SubL core news) (hs : ∀ p ∈ news, p ∈ all) : SubL core all := ⟨fun p hp => hs p (h.sub p hp)⟩
/-- what is told of some words -/
inductive XDat (g : String → Option OT) : List String → List Dat → Prop
  | nil : XDat g [] []
  | snoc {ws : List String} {ds : List Dat} {x : String} {T : OT} : XDat g ws ds → g x = some T → XDat g (ws ++ [x]) (ds ++ pairX x T.dat)
theorem XDat.one {g : String → Option OT} {ws : List String} {x : String} {ds : List Dat} (h : XDat g (ws ++ [x]) ds) : ∃ d0 T, XDat g ws d0 ∧ g x = some T ∧ ds = d0 ++ pairX x T.dat := by
  generalize e : ws ++ [x] = l at h
  cases h with
  | nil => simp at e
  | snoc a b =>
    obtain ⟨e1, e2⟩ := List.append_inj' e rfl
    simp only [List.cons.injEq, and_true] at e2
    subst e1 e2
    exact ⟨_, _, a, b, rfl⟩
theorem XDat.empty {g : String → Option OT} {ds : List Dat} (h : XDat g [] ds) : ds = [] := by
  generalize e : ([] : List String) = l at h
  cases h with
  | nil => rfl
  | snoc => simp at e
theorem XDat.pair {g : String → Option OT} {ws : List String} {ds : List Dat} (hw : ws ∈ wordLists) (h : XDat g ws ds) : ∃ ta tb, (if "A" ∈ ws then g "A" else some .nil) = some ta ∧ (if "B" ∈ ws then g "B" else some .nil) = some tb ∧ ds = pairX "A" ta.dat ++ pairX "B" tb.dat := by
  simp only [wordLists, List.mem_cons, List.not_mem_nil, or_false] at hw
  rcases hw with rfl | rfl | rfl | rfl
  · have := h.empty; subst this
    exact ⟨.nil, .nil, rfl, rfl, rfl⟩
  · obtain ⟨k0, t, h0, hg, rfl⟩ := XDat.one (ws := []) h
    have := h0.empty; subst this
    exact ⟨t, .nil, hg, rfl, by simp [OT.dat, pairX]⟩
  · obtain ⟨k0, t, h0, hg, rfl⟩ := XDat.one (ws := []) h
    have := h0.empty; subst this
    exact ⟨.nil, t, rfl, hg, rfl⟩
  · obtain ⟨k0, t, h0, hg, rfl⟩ := XDat.one (ws := ["A"]) h
    obtain ⟨k1, t1, h1, hg1, rfl⟩ := XDat.one (ws := []) h0
    have := h1.empty; subst this
    exact ⟨t1, t, hg1, hg, rfl⟩
theorem ThingP.pair {pa pb : Option Value} {r : ResD} {x : String} (hx : x = "A" ∨ x = "B") (h1 : ThingP r.ta pa) (h2 : ThingP r.tb pb) (b1 : ThB r.ta) (b2 : ThB r.tb) : ∃ xv, valueAt (addK (addK [] sA pa) sB pb) (Str.ofString x) = xv ∧ ThingP (r.thing x) xv ∧ ThB (r.thing x) := by
  refine ⟨_, pair_at hx pa pb, ?_⟩
  rcases hx with rfl | rfl
  · exact ⟨h1, b1⟩
  · exact ⟨h2, b2⟩
theorem dueDat_case {l : Led} {r : Value} {o : Option OT} (h : DatIn l r (dueDat o)) (hn : ∀ T, o = some T → ∃ d, T.dat = some d) : (o = none ∧ r = .none) ∨ ∃ (T : OT) (d : Dat) (x : Addr), o = some T ∧ T.dat = some d ∧ r = .ref x ∧ DatIn l (.ref x) d := by
  cases o with
  | none => cases h; exact .inl ⟨rfl, rfl⟩
  | some T =>
    obtain ⟨d, hd⟩ := hn T rfl
    have e : dueDat (some T) = d := by simp [dueDat, hd]
    rw [e] at h
    cases T with
    | nil => cases hd
    | node =>
      cases hd
      cases h with
      | tuple a b => exact .inr ⟨_, _, _, rfl, rfl, rfl, .tuple a b⟩
theorem pairX_some {x : String} {d : Dat} : pairX x (some d) = [.tuple [.str (Str.ofString x), d]] := rfl
theorem datall_push {l : Led} {vs : List Value} {ds : List Dat} {v : Value} {d : Dat} (h : DatAll l vs ds) (h2 : DatIn l v d) : DatAll l (vs ++ [v]) (ds ++ [d]) := h.append (.one h2)
theorem XDat.skip {g : String → Option OT} {ws : List String} {ds : List Dat} {x : String} (h : XDat g ws ds) (hg : g x = some .nil) : XDat g (ws ++ [x]) ds := by
  have h2 := XDat.snoc h hg
  rwa [show pairX x OT.nil.dat = [] from rfl, List.append_nil] at h2
theorem Apart.consL {n a : Led} {d : Addr} {o : Obj} (h : Apart n a) (h2 : ∀ p ∈ a, p.1 ≠ d) : Apart ((d, o) :: n) a := fun p hp q hq => (List.mem_cons.mp hq).elim (fun e => e ▸ h2 p hp) fun hq => h p hp q hq
end
section
theorem sheet_zero {w : World} {S : Int → StrmD} {R : Int → ResD} : SheetSpec w S R 0 := by
  refine Box.out ?_
  simp (disch := k_dflt (
    refine Box2.mk ?_
    intro core news sh tb rd ol pl mt fn cn0 at_ deed shift dv t9 n9 hsub hf9 hdv hW hF hC h0 h3 hR hD hpl hM
    unfold SpecB
    intro mean mg mb dp un gd cn cs a ccd cl outer A₀ base h₀ L m s Q E B F X N T hk hd9 hu hret hraise
    refine wpAny_call ?_
    k_dflt ktr_enter
    k_steps
    all_goals k_extra "my q"
    all_goals try (exfalso; omega)
    k_extra "my fault"
    intro h5 R5 U5
    exact hraise _ _ _ _ rfl (Mine.RaisedN.sub R5 (by k_extra "my inn")) (by assumption) U5)) only [↓Box.of]
end
section
example : True := by
  k_with "=call ref" =>
    ((fail_if_success k_extra "out C18"); ((k_here; (with_reducible show wpAny _ _ (call (Value.ref 426) _) _ _ _); k_dflt (refine' useMakes (used_spec ?hd0z98) ?_ ?k1z98 ?k2z98 ?k3z98 ?k4z98 ?k5z98 ?k6z98 ?k7z98 ?k8z98; (case k1z98 => k_asm); (case k2z98 => k_asm); (case k3z98 => k_asm); (case k4z98 => k_asm); (case k5z98 => k_asm); (case k6z98 => first | exact rfl | assumption); (case hd0z98 => first | with_reducible assumption | (refine DeedIs.mono (by with_reducible assumption) ?_; k_extra "my grow")); (case k7z98 => ktr_room); (case k8z98 => ktr_units); k_whole; intro _ _ _ _ _ _ _ _; (try k_sweep)))))
  k_with "=call ref" =>
    ((fail_if_success k_extra "out C18"); ((k_here; (with_reducible show wpAny _ _ (call (Value.ref 454) _) _ _ _); k_dflt (refine' useEq (resD ?hsz99 ?hmz99 ?hoz99 ?hsysz99 ?hvz99 ?hfz99) ?_ ?k1z99 ?k2z99 ?k3z99 ?k4z99 ?k5z99 ?k6z99 ?k7z99 ?k8z99; (case k1z99 => k_asm); (case k2z99 => k_asm); (case k3z99 => k_asm); (case k4z99 => k_asm); (case k5z99 => k_asm); (case k6z99 => first | exact rfl | assumption); (case hsz99 => first | with_reducible assumption | (refine ShelfIs.mono (by with_reducible assumption) ?_; k_extra "my grow")); (case hmz99 => k_extra "my mem"); (case hoz99 => with_reducible assumption); (case hsysz99 => with_reducible assumption); (case hvz99 => with_reducible assumption); (case hfz99 => first | with_reducible assumption | (refine FetchTo.mono (by with_reducible assumption) ?_; k_extra "my grow")); (case k7z99 => ktr_room); (case k8z99 => ktr_units); k_whole; intro _ _ _ _; (try k_sweep)))))
  k_with "=call ref" =>
    ((fail_if_success k_extra "out C18"); ((k_here; (with_reducible show wpAny _ _ (call (Value.ref 443) _) _ _ _); k_dflt (refine' useMk4 (mkSheet) ?_ ?k1z100 ?k2z100 ?k3z100 ?k4z100 ?k5z100 ?k6z100 ?k7z100 ?k8z100; (case k1z100 => k_asm); (case k2z100 => k_asm); (case k3z100 => k_asm); (case k4z100 => k_asm); (case k5z100 => k_asm); (case k6z100 => first | exact rfl | assumption); (case k7z100 => ktr_room); (case k8z100 => ktr_units); k_whole; intro _ _ _ _ _ _ _ _ _ _ _ _ _; (try k_sweep)))))
  k_with "=call ref" =>
    ((fail_if_success k_extra "out C18"); ((k_here; (with_reducible show wpAny _ _ (call (Value.ref _) _) _ _ _); k_dflt (refine' useEq (font_call ?hFz101 ?hsz101 ?hmz101 ?hoz101 ?hsysz101) ?_ ?k1z101 ?k2z101 ?k3z101 ?k4z101 ?k5z101 ?k6z101 ?k7z101 ?k8z101; (case k1z101 => k_asm); (case k2z101 => k_asm); (case k3z101 => k_asm); (case k4z101 => k_asm); (case k5z101 => k_asm); (case k6z101 => first | exact rfl | assumption); (case hFz101 => with_reducible assumption); (case hsz101 => k_extra "my grow"); (case hmz101 => k_extra "my mem"); (case hoz101 => with_reducible assumption); (case hsysz101 => with_reducible assumption); (case k7z101 => ktr_room); (case k8z101 => ktr_units); k_whole; intro _ _ _ _; (try k_sweep)))))
  k_with "=call ref" =>
    ((fail_if_success k_extra "out C18"); ((k_here; (with_reducible show wpAny _ _ (call (Value.ref _) _) _ _ _); k_dflt (refine' useCont (cont_call ?hFz102 ?hsz102 ?h0z102 ?h4z102 ?hxz102) ?_ ?k1z102 ?k2z102 ?k3z102 ?k4z102 ?k5z102 ?k6z102 ?k7z102 ?k8z102; (case k1z102 => k_asm); (case k2z102 => k_asm); (case k3z102 => k_asm); (case k4z102 => k_asm); (case k5z102 => k_asm); (case k6z102 => first | exact rfl | assumption); (case hFz102 => with_reducible assumption); (case hsz102 => k_extra "my grow"); (case hxz102 => first | with_reducible assumption | (refine StrmAt.mono (by with_reducible assumption) ?_; k_extra "my grow")); (case h0z102 => with_reducible assumption); (case h4z102 => with_reducible assumption); (case k7z102 => ktr_room); (case k8z102 => ktr_units); k_whole; intro _ _ _ _ _ _; (try k_sweep)))))
  k_with "=call ref" =>
    ((fail_if_success k_extra "out C18"); ((k_here; (with_reducible show wpAny _ _ (call (Value.ref 466) _) _ _ _); k_dflt (refine' useEq (is_form_no ?hvz103 ?hkz103) ?_ ?k1z103 ?k2z103 ?k3z103 ?k4z103 ?k5z103 ?k6z103 ?k7z103 ?k8z103; (case k1z103 => k_asm); (case k2z103 => k_asm); (case k3z103 => k_asm); (case k4z103 => k_asm); (case k5z103 => k_asm); (case k6z103 => first | exact rfl | assumption); (case hvz103 => first | with_reducible assumption | (refine KindOf.mono (by with_reducible assumption) ?_; k_extra "my grow")); (case hkz103 => decide); (case k7z103 => ktr_room); (case k8z103 => ktr_units); k_whole; intro _ _ _ _; (try k_sweep)))))
  k_with "=call ref" =>
    ((fail_if_success k_extra "out C18"); ((k_here; (with_reducible show wpAny _ _ (call (Value.ref 466) _) _ _ _); k_dflt (refine' useEq (is_form_b ?hsz104 ?hxz104 ?hhz104 ?hbz104) ?_ ?k1z104 ?k2z104 ?k3z104 ?k4z104 ?k5z104 ?k6z104 ?k7z104 ?k8z104; (case k1z104 => k_asm); (case k2z104 => k_asm); (case k3z104 => k_asm); (case k4z104 => k_asm); (case k5z104 => k_asm); (case k6z104 => first | exact rfl | assumption); (case hsz104 => first | with_reducible assumption | (refine ShelfIs.mono (by with_reducible assumption) ?_; k_extra "my grow")); (case hxz104 => first | with_reducible assumption | (refine StrmIs.mono (by with_reducible assumption) ?_; k_extra "my grow")); (case hhz104 => first | with_reducible assumption | (refine HeadIs.mono (by with_reducible assumption) ?_; k_extra "my grow")); (case hbz104 => with_reducible assumption); (case k7z104 => ktr_room); (case k8z104 => ktr_units); k_whole; intro _ _ _ _; (try k_sweep)))))
  k_with "=call ref" =>
    ((fail_if_success k_extra "out C18"); ((k_here; (with_reducible show wpAny _ _ (call (Value.ref 459) _) _ _ _); k_dflt (refine' useMakes (form_matrix_ok ?hsz105 ?hhz105 ?h8z105 ?hmz105) ?_ ?k1z105 ?k2z105 ?k3z105 ?k4z105 ?k5z105 ?k6z105 ?k7z105 ?k8z105; (case k1z105 => k_asm); (case k2z105 => k_asm); (case k3z105 => k_asm); (case k4z105 => k_asm); (case k5z105 => k_asm); (case k6z105 => first | exact rfl | assumption); (case hsz105 => first | with_reducible assumption | (refine ShelfIs.mono (by with_reducible assumption) ?_; k_extra "my grow")); (case hhz105 => first | with_reducible assumption | (refine HeadIs.mono (by with_reducible assumption) ?_; k_extra "my grow")); (case h8z105 => first | with_reducible assumption | (refine RowIs.mono (by with_reducible assumption) ?_; k_extra "my grow")); (case hmz105 => with_reducible assumption); (case k7z105 => ktr_room); (case k8z105 => ktr_units); k_whole; intro _ _ _ _ _ _ _ _; (try k_sweep)))))
  k_with "=call ref" =>
    ((fail_if_success k_extra "out C18"); ((k_here; (with_reducible show wpAny _ _ (call (Value.ref 459) _) _ _ _); k_dflt (refine' SpecR.use2 (form_matrix_bad ?hsz106 ?hhz106 ?hmz106 ?hm6z106) ?_; (case hsz106 => first | with_reducible assumption | (refine ShelfIs.mono (by with_reducible assumption) ?_; k_extra "my grow")); (case hhz106 => first | with_reducible assumption | (refine HeadIs.mono (by with_reducible assumption) ?_; k_extra "my grow")); (case hmz106 => with_reducible assumption); (case hm6z106 => with_reducible assumption); k_whole; intro _ _ _ _ _ _ _; refine hold2_of ?_))))
  k_with "=call ref" =>
    ((fail_if_success k_extra "out C18"); ((k_here; (with_reducible show wpAny _ _ (call (Value.ref 473) _) _ _ _); refine hold_of ?_)))
  k_with "=execs cons" =>
    ((fail_if_success k_extra "out C18"); ((k_here; (with_reducible show wpAny _ _ (execs (Stmt.Assign [Expr.Name (Str.ofString "inner") _] _ _ :: _) _) _ _ _); refine hold_of ?_)))
  k_with "=setItem ref str" =>
    ((fail_if_success k_extra "out C18"); ((k_here; k_dflt (refine' set_pull ?Fz109 ?Nz109 ?hlz109 ?offz109 ?dz109 ?zz109 ?_; (case Fz109 => k_asm); (case Nz109 => k_asm); (case hlz109 => k_extra "my pull"); (case offz109 => k_extra "my off"); (case dz109 => k_asm); (case zz109 => first | (rw [sizeLine_eq]; exact len_cap (by with_reducible assumption) (by with_reducible assumption) rfl) | (rw [sizeLine_eq]; omega))); intro _ _ _ N' _; (try dsimp only at N'); (try k_sweep))))
  k_with "=callWith ref" =>
    ((fail_if_success k_extra "out C18"); ((k_here; k_dflt (refine' callWith_F ?k1z110 ?_; (case k1z110 => exact FnAt.of (by k_asm) (by k_mem)); k_whole))))
  trivial

set_option autoImplicit false in
noncomputable def QC18_1 (w : World) (news : Led) (xdr : Addr) (fdr : Addr) (mt : Addr) (cn0 : Addr) (fn : Addr) (pl : Addr) (ol : Addr) (rd : Addr) (sh : Addr) (dv : Int) (fw_ : List String) (xw_ : List String) (m' : Str → Option Value) (all' : Led) : Prop := ∀ G9 : Prop, (∀ (u fd xd : Addr) (fo xo : Obj) (au : Led) (t : Tok),
    (m' = locs [("forms", .ref xd), ("fonts", .ref fd), ("things", .ref xdr), ("heads", .ref fdr), ("used", .ref u), ("own", .ref mt), ("depth", .int dv t), ("content_of", .ref cn0), ("font_of", .ref fn), ("place", .ref pl), ("operations", .ref ol), ("resources", .ref rd), ("shelf", .ref sh)]) →
    (all' = (xd, xo) :: (fd, fo) :: (au ++ news)) →
    (Above news ((xd, xo) :: (fd, fo) :: au)) →
    (UsedIs w au u fw_ xw_) →
    (fo.IsDictOf (PySem.strKind PP w) []) →
    (xo.IsDictOf (PySem.strKind PP w) []) →
    ((fd == sysModules) = false) →
    ((xd == sysModules) = false) →
    (@LT.lt Nat _ fd xd) →
    ((∀ p ∈ au ++ news, p.1 < fd)) → G9) → G9
set_option autoImplicit false in
noncomputable def QC18_2 (w : World) (R : Int → ResD) (au : Led) (news : Led) (xd : Addr) (fd : Addr) (xdr : Addr) (u : Addr) (mt : Addr) (cn0 : Addr) (fn : Addr) (ol : Addr) (rd : Addr) (sh : Addr) (xo : Obj) (dv : Int) (at_ : Int) (t0 : Tok) (fw_ : List String) (m' : Str → Option Value) (all' : Led) : Prop := ∀ G9 : Prop, (∀ (fo : Obj) (va vb : Option Value),
    ((∀ p ∈ [("forms", Value.ref xd), ("fonts", .ref fd), ("things", .ref xdr), ("used", .ref u), ("own", .ref mt), ("depth", .int dv t0), ("content_of", .ref cn0), ("font_of", .ref fn), ("operations", .ref ol), ("resources", .ref rd), ("shelf", .ref sh)], m' (Str.ofString p.1) = some p.2)) →
    (all' = (xd, xo) :: (fd, fo) :: (au ++ news)) →
    (fo.IsDictOf (PySem.strKind PP w) (pairK va vb)) →
    (IntO (if "A" ∈ fw_ then fontNo ((R at_).font "A") else none) va) →
    (IntO (if "B" ∈ fw_ then fontNo ((R at_).font "B") else none) vb) → G9) → G9
set_option autoImplicit false in
noncomputable def QC18_3 (w : World) (R : Int → ResD) (au : Led) (news : Led) (xd : Addr) (fd : Addr) (xdr : Addr) (fdr : Addr) (u : Addr) (mt : Addr) (cn0 : Addr) (fn : Addr) (ol : Addr) (rd : Addr) (sh : Addr) (xo : Obj) (w1 : String) (dv : Int) (at_ : Int) (t0 : Tok) (ws1 : List String) (i : Nat) (m' : Str → Option Value) (all' : Led) : Prop := ∀ G9 : Prop, (∀ (fo : Obj) (kvs : List (Str × Value)),
    ((∀ p ∈ [("forms", Value.ref xd), ("fonts", .ref fd), ("things", .ref xdr), ("heads", .ref fdr), ("used", .ref u), ("own", .ref mt), ("depth", .int dv t0), ("content_of", .ref cn0), ("font_of", .ref fn), ("operations", .ref ol), ("resources", .ref rd), ("shelf", .ref sh)], m' (Str.ofString p.1) = some p.2)) →
    (all' = (fd, fo) :: (xd, xo) :: (au ++ news)) →
    (fo.IsDictOf (PySem.strKind PP w) kvs) →
    (kvs.length ≤ i) →
    (FKv (fun x => fontNo ((R at_).font x)) ((w1 :: ws1).take i) kvs) → G9) → G9
set_option autoImplicit false in
noncomputable def QC18_4 (w : World) (S : Int → StrmD) (R : Int → ResD) (au : Led) (news : Led) (core : Led) (xd : Addr) (fd : Addr) (xdr : Addr) (u : Addr) (mt : Addr) (cn0 : Addr) (fn : Addr) (ol : Addr) (rd : Addr) (sh : Addr) (fo : Obj) (w1 : String) (dv : Int) (at_ : Int) (f : Nat) (t0 : Tok) (ws1 : List String) (i : Nat) (m' : Str → Option Value) (all' : Led) : Prop := ∀ G9 : Prop, (∀ (xo : Obj) (kvs : List (Str × Value)) (tl : Led),
    ((∀ p ∈ [("forms", Value.ref xd), ("fonts", .ref fd), ("things", .ref xdr), ("used", .ref u), ("own", .ref mt), ("depth", .int dv t0), ("content_of", .ref cn0), ("font_of", .ref fn), ("operations", .ref ol), ("resources", .ref rd), ("shelf", .ref sh)], m' (Str.ofString p.1) = some p.2)) →
    (all' = (xd, xo) :: (tl ++ (fd, fo) :: (au ++ news))) →
    (xo.IsDictOf (PySem.strKind PP w) kvs) →
    (kvs.length ≤ i) →
    (XKv w (tl ++ core) (fun x => subT S (paint S R f) at_ ((R at_).thing x)) ((w1 :: ws1).take i) kvs) →
    (Above ((xd, xo) :: (fd, fo) :: (au ++ news)) tl) → G9) → G9
set_option autoImplicit false in
noncomputable def QC18_5 (w : World) (S : Int → StrmD) (R : Int → ResD) (tl : Led) (au : Led) (news : Led) (core : Led) (sx : Addr) (xd : Addr) (fd : Addr) (xdr : Addr) (u : Addr) (mt : Addr) (cn0 : Addr) (fn : Addr) (ol : Addr) (rd : Addr) (sh : Addr) (I : Addr) (it : Obj) (xo : Obj) (fo : Obj) (x : String) (dv : Int) (at_ : Int) (k : Int) (t8 : Tok) (t0 : Tok) (m' : Str → Option Value) (all' : Led) : Prop := ∀ G9 : Prop, (∀ (rd2 : Addr),
    ((∀ p ∈ [("lent", Value.ref rd2), ("stream", .ref sx), ("word", .str (Str.ofString x) t8), ("forms", Value.ref xd), ("fonts", .ref fd), ("things", .ref xdr), ("used", .ref u), ("own", .ref mt), ("depth", .int dv t0), ("content_of", .ref cn0), ("font_of", .ref fn), ("operations", .ref ol), ("resources", .ref rd), ("shelf", .ref sh)], m' (Str.ofString p.1) = some p.2)) →
    (all' = (I, it) :: (xd, xo) :: (tl ++ (fd, fo) :: (au ++ news))) →
    (ResIs w core rd2 (R (lentAt at_ (S k).lent)).fa (R (lentAt at_ (S k).lent)).ta (R (lentAt at_ (S k).lent)).fb (R (lentAt at_ (S k).lent)).tb) → G9) → G9
theorem sheet_step {w : World} {S : Int → StrmD} {R : Int → ResD} {f : Nat} (ih : SheetSpec w S R f) : SheetSpec w S R (f + 1) := by
  refine Box.out ?_
  simp (disch := k_dflt (
    refine Box2.mk ?_
    intro core news sh tb rd ol pl mt fn cn0 at_ deed shift dv t9 n9 hsub hf9 hdv hW hF hC h0 h3 hR hD hpl hM
    unfold SpecB
    intro mean mg mb dp un gd cn cs a ccd cl outer A₀ base h₀ L m s Q E B F X N T hk hd9 hu hret hraise
    refine wpAny_call ?_
    k_dflt ktr_enter
    rename_i g' L' h' FG' F' N' B' X' T'
    replace F' := fr_locs F' [("content_of", .ref cn0), ("font_of", .ref fn), ("place", .ref pl), ("operations", .ref ol), ("resources", .ref rd), ("shelf", .ref sh)] rfl
    have hSh := hW.shelf
    obtain ⟨⟨oc1, od1, fd1, sl1, mfn⟩, _⟩ := id hF
    obtain ⟨⟨oc2, od2, fd2, sl2, mcn⟩, _⟩ := id hC
    obtain ⟨sd, sh1, sh2, st1, st2, sn, tr, ms1, ms2⟩ := id hSh
    obtain ⟨fva, fvb, xva, xvb, fdr, xdr, ofr, oxr, orr, rf1, rf2, rx1, rx2, ⟨rm1, rm2, rm3⟩, ⟨fm1, fm2, fm3⟩, ⟨xm1, xm2, xm3⟩⟩ := hR
    have hvF : (valueAt [(Str.ofString "Font", Value.ref fdr), (Str.ofString "XObject", Value.ref xdr)] (Str.ofString "Font")).getD .none = .ref fdr := rfl
    have hvX : (valueAt [(Str.ofString "Font", Value.ref fdr), (Str.ofString "XObject", Value.ref xdr)] (Str.ofString "XObject")).getD .none = .ref xdr := rfl
    have hfF := fetch_dict (all := core) (tb := tb) fm1 fm2
    have hfX := fetch_dict (all := core) (tb := tb) xm1 xm2
    with_reducible refine seg 7 F' (QC18_1 w news xdr fdr mt cn0 fn pl ol rd sh dv (fontsOf deed) (formsOf deed)) ?_ ?_
    · k_extra "my o"
      dsimp only [List.take]
      k_steps
      all_goals k_extra "my q"
      all_goals try (exfalso; omega)
      rename Above _ _ => hab
      refine Mid.intro (by assumption) (by assumption) ?_
      exact (fun _ kk9 => kk9 _ _ _ _ _ _ _ rfl rfl (Above.push (Above.push hab (by assumption)) (by assumption)) (by assumption) (by assumption) (by assumption) (by assumption) (by assumption) (ltFst (by assumption)) (by assumption))
    clear F' N' hvF hvX hfF hfX
    intro m' all' h2 tk2 F2 N2 hQ9
    refine hQ9 _ ?_
    clear hQ9
    rintro u fd xd fo xo au t0 rfl rfl hab ⟨uo, ukv, um1, um2, um3, uw1, uw2⟩ hfo hxo sf sx hlt hlt2
    have hne : @Ne Nat fd xd := Nat.ne_of_lt hlt
    have off1 : ∀ p ∈ au ++ news, p.1 ≠ fd := fun p hp => Nat.ne_of_lt (hlt2 p hp)
    have off2 : ∀ p ∈ au ++ news, p.1 ≠ xd := fun p hp => Nat.ne_of_lt (Nat.lt_trans (hlt2 p hp) hlt)
    dsimp only [List.drop]
    with_reducible refine seg 1 F2 (QC18_2 w R au news xd fd xdr u mt cn0 fn ol rd sh xo dv at_ t0 (fontsOf deed)) ?_ ?_
    · dsimp only [List.take]
      have hl9 := fonts_list deed
      generalize hfw : fontsOf deed = fw at uw1 hl9
      k_extra "my o"
      refine wpAny_execs_cons ?_
      refine For_invVF F2 rfl rfl ?_
      cases uw1
      case none hva hq9 =>
        k_extra "my upto"
        refine iter_nil rfl (by assumption) (by assumption) (by k_extra "my mem") ?_
        intro h tk F5 N5
        k_steps
        all_goals k_extra "my q"
        refine Mid.intro (by assumption) (News.perm (by assumption) (l' := (xd, xo) :: (fd, fo) :: (au ++ news)) ?zz) ?_
        case zz => k_extra "my inn"
        refine (fun _ kk9 => kk9 _ none none ?_ rfl hfo .none .none)
        exact has_of (by rfl)
      case some lw vsw nw w1 ws1 hva hlw hsw hq9 =>
        k_extra "my upto"
        have hlen := hsw.length
        have hle2 := list_le hl9
        refine iter_list (l := lw) (vs := vsw) (n := nw) rfl (by assumption) (News.perm (by assumption) (l' := (fd, fo) :: (xd, xo) :: (au ++ news)) ?zz2) (QC18_3 w R au news xd fd xdr fdr u mt cn0 fn ol rd sh xo w1 dv at_ t0 ws1) ?_ ?_ ?_ ?_
        case zz2 => k_extra "my inn"
        · refine (fun _ kk9 => kk9 _ _ ?_ rfl hfo (Nat.le_refl _) .nil)
          exact has_of (by rfl)
        · intro i m' all' hQ9
          refine hQ9 _ ?_
          clear hQ9
          rintro fo kvs _ rfl _ _ _
          k_extra "my mem"
        · intro i v m₁ news₁ h tk5 I it hi hv hQ9
          refine hQ9 _ ?_
          clear hQ9
          rintro fo kvs hm rfl hfo hle hK hoffI hI F5 N5
          k_extra "my o"
          replace F5 := fr_on F5 _ hm
          obtain ⟨x, t8, rfl, hwx⟩ := hsw.get (i := i) (v := v) (by rw [← hv]; simp)
          have hxw : x = "A" ∨ x = "B" := word_in hl9 (List.mem_of_getElem? hwx)
          have hi2 : i < 2 := Nat.lt_of_lt_of_le (List.getElem?_eq_some_iff.mp hwx).1 hle2
          have hIf : @Ne Nat fd I := hoffI (fd, fo) List.mem_cons_self
          have hIx : @Ne Nat xd I := hoffI (xd, xo) (List.mem_cons_of_mem _ List.mem_cons_self)
          have hIo : ∀ p ∈ au ++ news, p.1 ≠ I := fun p hp => hoffI p (List.mem_cons_of_mem _ (List.mem_cons_of_mem _ hp))
          obtain ⟨fv, hfv, hFV⟩ : ∃ fv, valueAt (addK (addK [] sA fva) sB fvb) (Str.ofString x) = fv ∧ FontV w core ((R at_).font x) fv := by
            refine ⟨_, pair_at hxw fva fvb, ?_⟩
            rcases hxw with rfl | rfl
            · exact rf1
            · exact rf2
          have htk := take_succ hwx
          generalize hfn : (R at_).font x = fnt at hFV
          cases hFV
          case' viaRef x8 hx8 =>
            obtain ⟨d7, o7, t7, r7, m7, i7, s7⟩ := hW.row7
            have hf8 : FetchTo w core tb (.ref x8) (.ref d7) "dict" := .ref hx8 r7 (.dict m7 i7)
            have hv8 : (valueAt (addK (addK [] sA fva) sB fvb) (Str.ofString x)).getD .none = .ref x8 := by rw [hfv]; rfl
            have hk8 := hf8.kind
          case' direct x8 o7 t7 m7 i7 s7 =>
            have hf8 : FetchTo w core tb (.ref x8) (.ref x8) "dict" := .self (.dict m7 i7)
            have hv8 : (valueAt (addK (addK [] sA fva) sB fvb) (Str.ofString x)).getD .none = .ref x8 := by rw [hfv]; rfl
            have hk8 := hf8.kind
          case' num t7 =>
            have hf8 : FetchTo w core tb (.int 12 t7) (.int 12 t7) "int" := .self (.int _ _)
            have hv8 : (valueAt (addK (addK [] sA fva) sB fvb) (Str.ofString x)).getD .none = .int 12 t7 := by rw [hfv]; rfl
            have hk8 := hf8.kind
          case' missing =>
            have hf8 : FetchTo w core tb .none .none "null" := .self .none
            have hv8 : (valueAt (addK (addK [] sA fva) sB fvb) (Str.ofString x)).getD .none = .none := by rw [hfv]; rfl
            have hk8 := hf8.kind
          all_goals k_steps
          all_goals k_extra "my q"
          all_goals first
            | (rename Obj.IsDictOf _ _ (stored kvs _ _) => hfo9
               refine TurnEnd.next (by assumption) (News.perm (by assumption) ?_) ?_ (fun _ kk9 => kk9 _ _ ?_ rfl hfo9 (Nat.le_trans stored_le (Nat.succ_le_succ hle)) (by rw [htk]; exact .add hK (by show fontNo ((R at_).font x) = _; rw [hfn]; rfl))))
            | (refine TurnEnd.next (by assumption) (News.perm (by assumption) ?_) ?_ (fun _ kk9 => kk9 _ _ ?_ rfl hfo (Nat.le_succ_of_le hle) (by rw [htk]; exact .skip hK (by show fontNo ((R at_).font x) = _; rw [hfn]; rfl))))
          all_goals first
            | k_extra "my inn"
            | k_extra "my off"
            | skip
          all_goals
            exact has_of (by rfl)
        · intro m₁ news₁ h tk5 hQ9
          refine hQ9 _ ?_
          clear hQ9
          rintro fo kvs hm rfl hfo hle hK F5 N5
          replace F5 := fr_on0 F5 _ hm
          have hlt9 : (w1 :: ws1).take vsw.size = w1 :: ws1 := List.take_of_length_le (by rw [← hlen]; simp)
          rw [hlt9] at hK
          obtain ⟨va, vb, hva9, hvb9, rfl⟩ := hK.pair hl9
          k_steps
          all_goals k_extra "my q"
          refine Mid.intro (by assumption) (News.perm (by assumption) (l' := (xd, xo) :: (fd, fo) :: (au ++ news)) ?zz3) ?_
          case zz3 => k_extra "my inn"
          refine (fun _ kk9 => kk9 _ va vb ?_ rfl hfo hva9 hvb9)
          exact has_of (by rfl)
    clear F2 N2 hfo
    intro m' all' h3 tk3 F3 N3 hQ9
    refine hQ9 _ ?_
    clear hQ9
    rintro fo va vb hm3 rfl hfo hva3 hvb3
    replace F3 := fr_on0 F3 _ hm3
    dsimp only [List.drop]
    with_reducible refine seg 1 F3 (fun m'' all'' => ∃ (xo : Obj) (ya yb : Option Value) (ta tb' : OT) (tl : Led), (∀ p ∈ [("forms", Value.ref xd), ("fonts", .ref fd), ("own", .ref mt), ("operations", .ref ol)], m'' (Str.ofString p.1) = some p.2) ∧
       all'' = (xd, xo) :: (tl ++ (fd, fo) :: (au ++ news)) ∧ xo.IsDictOf (PySem.strKind PP w) (pairK ya yb) ∧ Above ((xd, xo) :: (fd, fo) :: (au ++ news)) tl ∧
       (if "A" ∈ formsOf deed then subT S (paint S R f) at_ ((R at_).thing "A") else some .nil) = some ta ∧ (if "B" ∈ formsOf deed then subT S (paint S R f) at_ ((R at_).thing "B") else some .nil) = some tb' ∧
       SheetV w (tl ++ core) ta ya ∧ SheetV w (tl ++ core) tb' yb) ?_ ?_
    · dsimp only [List.take]
      have hl9 := forms_list deed
      have hpn : ∀ x : String, (x = "A" ∨ x = "B") → x ∈ formsOf deed → subT S (paint S R f) at_ ((R at_).thing x) = none → paint S R (f + 1) at_ deed shift = none := fun x a b c => paint_none a b c
      generalize hfw : formsOf deed = fw at uw2 hl9 hpn
      k_extra "my o"
      refine wpAny_execs_cons ?_
      refine For_invVF F3 rfl rfl ?_
      cases uw2
      case none hva hq9 =>
        k_extra "my upto"
        refine iter_nil rfl (by assumption) (by assumption) (by k_extra "my mem") ?_
        intro h tk F5 N5
        k_steps
        all_goals k_extra "my q"
        refine Mid.intro (by assumption) (News.perm (by assumption) (l' := (xd, xo) :: ([] ++ (fd, fo) :: (au ++ news))) ?zz5) ?_
        case zz5 => k_extra "my inn"
        refine ⟨_, none, none, .nil, .nil, [], ?_, rfl, hxo, Above.nil, rfl, rfl, rfl, rfl⟩
        exact has_of (by rfl)
      case some lw vsw nw w1 ws1 hva hlw hsw hq9 =>
        k_extra "my upto"
        have hlen := hsw.length
        have hle2 := list_le hl9
        refine iter_list (l := lw) (vs := vsw) (n := nw) rfl (by assumption) (News.perm (by assumption) (l' := (xd, xo) :: ([] ++ (fd, fo) :: (au ++ news))) ?zz6) (QC18_4 w S R au news core xd fd xdr u mt cn0 fn ol rd sh fo w1 dv at_ f t0 ws1) ?_ ?_ ?_ ?_
        case zz6 => k_extra "my inn"
        · refine (fun _ kk9 => kk9 _ _ [] ?_ rfl hxo (Nat.le_refl _) .nil Above.nil)
          exact has_of (by rfl)
        · intro i m' all' hQ9
          refine hQ9 _ ?_
          clear hQ9
          rintro xo kvs tl _ rfl _ _ _ _
          k_extra "my mem"
        · intro i v m₁ news₁ h tk5 I it hi hv hQ9
          refine hQ9 _ ?_
          clear hQ9
          rintro xo kvs tl hm rfl hxo hle hK hAb hoffI hI F5 N5
          k_extra "my o"
          replace F5 := fr_on F5 _ hm
          obtain ⟨x, t8, rfl, hwx⟩ := hsw.get (i := i) (v := v) (by rw [← hv]; simp)
          have hxm := List.mem_of_getElem? hwx
          have hxw : x = "A" ∨ x = "B" := word_in hl9 hxm
          have hi2 : i < 2 := Nat.lt_of_lt_of_le (List.getElem?_eq_some_iff.mp hwx).1 hle2
          have hpx := hpn x hxw hxm
          have hIx : @Ne Nat xd I := hoffI (xd, xo) List.mem_cons_self
          have hIt : ∀ p ∈ tl, p.1 ≠ I := fun p hp => hoffI p (List.mem_cons_of_mem _ (List.mem_append_left _ hp))
          have hIf : @Ne Nat fd I := hoffI (fd, fo) (List.mem_cons_of_mem _ (List.mem_append_right _ List.mem_cons_self))
          have hIo : ∀ p ∈ au ++ news, p.1 ≠ I := fun p hp => hoffI p (List.mem_cons_of_mem _ (List.mem_append_right _ (List.mem_cons_of_mem _ hp)))
          have htx : ∀ p ∈ tl, p.1 ≠ xd := hAb.ne List.mem_cons_self
          obtain ⟨xv, hxv, hXV⟩ : ∃ xv, valueAt (addK (addK [] sA xva) sB xvb) (Str.ofString x) = xv ∧ ThingV w core ((R at_).thing x) xv := by
            refine ⟨_, pair_at hxw xva xvb, ?_⟩
            rcases hxw with rfl | rfl
            · exact rx1
            · exact rx2
          have htk := take_succ hwx
          generalize hth : (R at_).thing x = th at hXV hpx
          cases hXV
          case' dict x8 o7 t7 m7 i7 s7 =>
            have hf8 : FetchTo w core tb (.ref x8) (.ref x8) "dict" := .self (.dict m7 i7)
            have hv8 : (valueAt (addK (addK [] sA xva) sB xvb) (Str.ofString x)).getD .none = .ref x8 := by rw [hxv]; rfl
            have hk8 := hf8.kind
          case' missing =>
            have hf8 : FetchTo w core tb .none .none "null" := .self .none
            have hv8 : (valueAt (addK (addK [] sA xva) sB xvb) (Str.ofString x)).getD .none = .none := by rw [hxv]; rfl
            have hk8 := hf8.kind
          case' str x8 k k0 k3 hx8 =>
            obtain ⟨sx, shd, sr1, sr2, sr3, b1, b2, b3, b4, b6⟩ := hW.strm k k0 k3
            obtain ⟨xd2, xh1, xh2, xt1, xt2, xt3, xn2, xm21, xm22⟩ := id sr2
            have sr4 := sr2.is
            have hf8 : FetchTo w core tb (.ref x8) (.ref sx) "stream" := .ref hx8 sr1 (.stream xm21 xm22)
            have hv8 : (valueAt (addK (addK [] sA xva) sB xvb) (Str.ofString x)).getD .none = .ref x8 := by rw [hxv]; rfl
            cases hfm : isForm (S k).kd
          case' dict => have hsk : subT S (paint S R f) at_ .dict = some .nil := rfl
          case' missing => have hsk : subT S (paint S R f) at_ .missing = some .nil := rfl
          case' str.false => have hsk : subT S (paint S R f) at_ (.str k) = some .nil := by simp only [subT, hfm]; rfl
          all_goals k_steps
          all_goals k_extra "my q"
          all_goals (try unfold Hold)
          all_goals try
            (refine TurnEnd.next (by assumption) (News.perm (by assumption) ?_) ?_ (fun _ kk9 => kk9 _ _ _ ?_ rfl hxo (Nat.le_succ_of_le hle) (by rw [htk]; exact .skip hK (by show subT S (paint S R f) at_ ((R at_).thing x) = _; rw [hth]; exact hsk)) hAb))
          all_goals first
            | k_extra "my inn"
            | k_extra "my off"
            | skip
          all_goals try
            (exact has_of (by rfl))
          obtain ⟨kv, rv, xv2, ho2, mh1, mh2, mh3, mh4, mh5, mh6⟩ := id sr3
          obtain ⟨iv, ik, hfi, hci⟩ := lent_case (at_ := at_) hW mh5 b1 b2
          have hvi : (valueAt (headK (subO (S k).kd kv) rv xv2) (Str.ofString "Resources")).getD .none = rv.getD .none := by rw [headK_vb]
          rename Fr g' _ _ _ => F6
          with_reducible refine seg 2 F6 (QC18_5 w S R tl au news core sx xd fd xdr u mt cn0 fn ol rd sh I it xo fo x dv at_ k t8 t0) ?_ ?_
          · k_extra "my o"
            dsimp only [List.take]
            with_reducible refine wpAny_execs_cons ?_
            have hki := hfi.kind
            rcases hci with ⟨rfl, rfl, hl0⟩ | ⟨rfl, rd2, rfl, hr2⟩
            all_goals k_steps
            all_goals k_extra "my q"
            · refine Mid.intro (by assumption) (by assumption) (fun _ kk9 => kk9 rd ?_ rfl ?_)
              · exact has_of (by rfl)
              · have e2 : lentAt at_ (S k).lent = at_ := by unfold lentAt; rw [if_pos hl0]
                rw [e2]
                exact ⟨fva, fvb, xva, xvb, fdr, xdr, ofr, oxr, orr, rf1, rf2, rx1, rx2, ⟨rm1, rm2, rm3⟩, ⟨fm1, fm2, fm3⟩, ⟨xm1, xm2, xm3⟩⟩
            · refine Mid.intro (by assumption) (by assumption) (fun _ kk9 => kk9 rd2 ?_ rfl hr2)
              exact has_of (by rfl)
          intro m' all' h7 tk7 F7 N7 hQ9
          refine hQ9 _ ?_
          clear hQ9
          rintro rd2 hm7 rfl hr2
          replace F7 := fr_on0 F7 _ hm7
          dsimp only [List.drop]
          have hl0' : 0 ≤ lentAt at_ (S k).lent := by unfold lentAt; split <;> omega
          have hl3' : lentAt at_ (S k).lent < 3 := by unfold lentAt; split <;> omega
          have hsub9 : subT S (paint S R f) at_ (.str k) = if 5 ≤ (S k).mat then none else paint S R f (lentAt at_ (S k).lent) (S k).deed (matShift (S k).mat) := by simp only [subT, hfm, if_true]
          have hr8 := hW.row8
          obtain ⟨t88, hr8⟩ := hr8
          by_cases hmat : 5 ≤ (S k).mat
          · rw [if_pos hmat] at hsub9
            have hX := hpx hsub9
            k_steps
            all_goals k_extra "my q"
            k_extra "my pass"
            intro h5 R5 U5
            exact hraise _ _ _ _ hX (Mine.RaisedN.sub R5 (by k_extra "my inn")) (by assumption) U5
          · rw [if_neg hmat] at hsub9
            have hmat5 : (S k).mat < 5 := by omega
            k_steps
            all_goals k_extra "my q"
            unfold Hold
            rename MatIs _ _ _ _ _ _ _ _ => hm9
            rename DeedIs _ _ _ => hl9'
            rename Above ((I, it) :: _) _ => hab8
            rename (∀ p : Addr × Obj, p ∈ _ ++ (I, it) :: _ → p.1 < _) => hsp
            refine' SpecB.use (ih (_ ++ core) _ _ _ _ _ _ _ _ _ _ _ _ _ _ _ ⟨?hsub⟩ (by omega) ?hdv (hW.mono fun p hp => List.mem_append_right _ hp) (hF.mono fun p hp => List.mem_append_right _ hp) (hC.mono fun p hp => List.mem_append_right _ hp) hl0' hl3' (hr2.mono fun p hp => List.mem_append_right _ hp) (hl9'.mono fun p hp => List.mem_append_right _ hp) ?hpl (hm9.mono fun p hp => List.mem_append_left _ hp)) ?k1 ?k2 ?k3 ?k4 ?k5 ?k6 ?k7 ?k8 ?ret ?raise
            case k1 => k_asm
            case k2 => k_asm
            case k3 => k_asm
            case k4 => k_asm
            case k5 => k_asm
            case k6 => first | exact rfl | assumption
            case hpl => k_extra "my mem"
            case hsub => k_extra "my inn"
            case hdv => omega
            case k7 => ktr_room
            case k8 => ktr_units
            case ret =>
              intro r9 n9 h9 tk9 F9 N9 hr9
              obtain ⟨T9, a9, hp9, e8, hab9, hv9⟩ := hr9
              subst e8
              k_steps
              all_goals k_extra "my q"
              rename Obj.IsDictOf _ _ (stored kvs _ _) => hxo9
              have hAb2 := Above.trans (Above.trans hAb (hab8.sub (by k_extra "my inn"))) (hab9.sub (by k_extra "my inn"))
              refine TurnEnd.next (by assumption) (News.perm (by assumption) ?zz7) ?zz8 (fun _ kk9 => kk9 _ _ _ ?zz9 rfl hxo9 (Nat.le_trans stored_le (Nat.succ_le_succ hle)) ?zz10 hAb2.swapL)
              case zz7 => k_extra "my inn"
              case zz8 => k_extra "my off"
              case zz9 =>
                exact has_of (by rfl)
              case zz10 =>
                rw [htk]
                refine .add (hK.mono ?zz11) (by show subT S (paint S R f) at_ ((R at_).thing x) = _; rw [hth, hsub9]; exact hp9) (hv9.mono ?zz12)
                case zz11 => k_extra "my inn"
                case zz12 => k_extra "my inn"
            case raise =>
              intro e9 h9 tk9 g9 Y9 R9 F9 U9
              k_extra "my pass"
              intro h5 R5 U5
              exact hraise _ _ _ _ (hpx (hsub9.trans Y9)) (Mine.RaisedN.sub R5 (by k_extra "my inn")) (by assumption) U5
        · intro m₁ news₁ h tk5 hQ9
          refine hQ9 _ ?_
          clear hQ9
          rintro xo kvs tl hm rfl hxo hle hK hAb F5 N5
          replace F5 := fr_on0 F5 _ hm
          have hlt9 : (w1 :: ws1).take vsw.size = w1 :: ws1 := List.take_of_length_le (by rw [← hlen]; simp)
          rw [hlt9] at hK
          obtain ⟨ya, yb, ta, tb', e1, e2, v1, v2, rfl⟩ := hK.pair hl9
          k_steps
          all_goals k_extra "my q"
          refine Mid.intro (by assumption) (by assumption) ⟨_, ya, yb, ta, tb', tl, ?_, rfl, hxo, hAb, e1, e2, v1, v2⟩
          exact has_of (by rfl)
    rintro m' all' h4 tk4 F4 N4 ⟨xo, ya, yb, ta, tb', tl, hm4, rfl, hxo, hAb, e1, e2, v1, v2⟩
    replace F4 := fr_on0 F4 _ hm4
    dsimp only [List.drop]
    k_steps
    all_goals k_extra "my q"
    rename (∀ p : Addr × Obj, p ∈ (xd, xo) :: _ → p.1 < _) => hlo9
    have hab7 := Above.trans ((hab.swap (o' := xo)).swap2 (o' := fo)) hAb
    refine' hret _ _ _ _ (by assumption) (News.perm (by assumption) ?z20) ⟨_, _, paint_some e1 e2, rfl, hab7.inst (lts_sub hlo9 ?z21) (by assumption), ?z22⟩
    case z20 => k_extra "my inn"
    case z21 => k_extra "my inn"
    case z22 =>
      refine' ⟨_, _, ol, fd, xd, mt, _, _, _, _, _, _, _, _, _, fo, xo, va, vb, ya, yb, rfl, List.mem_cons_self, List.mem_cons_of_mem _ List.mem_cons_self, hD.mono ?z23, ⟨?z24, hfo, sf⟩, hva3, hvb3, ⟨?z25, hxo, sx⟩, v1.mono ?z26, v2.mono ?z26, hM.mono ?z23⟩
      case z23 => k_extra "my inn"
      case z24 => k_extra "my mem"
      case z25 => k_extra "my mem"
      case z26 => k_extra "my inn")) only [↓Box.of]
end
example : True := by
  k_with "out C18" =>
    skip
  trivial
section
theorem pick5 {prog : Program} {w : World} {A : Around} {E : Value → Shared → Prop} {s : Shared} {h₀ : Heap} {L : Addr} {news : Led} {value slice : PySem.Expr} {l : Addr} {v0 v1 v2 v3 v4 : Value} {n : Nat} {k : Int} {u : Tok} {Q : Value → Shared → Prop}
    (N : News h₀ L s.heap news) (hm : (l, ({ cls := .type "tuple", data := .seq #[v0, v1, v2, v3, v4] n } : Obj)) ∈ news) (h0 : 0 ≤ k) (h5 : k < 5) (a0 : k = 0 → Q v0 s) (a1 : k = 1 → Q v1 s) (a2 : k = 2 → Q v2 s) (a3 : k = 3 → Q v3 s) (a4 : k = 4 → Q v4 s)
    (hs : subscripted slice false (.ref l) (.int k u) = operate [.ref l, .int k u] (getItem (.ref l) (.int k u)) := by with_unfolding_all rfl) :
    wpAny (model prog w) A (subscriptTail value slice (.ref l) (.int k u)) Q E s := by
  have hd5 : k = 0 ∨ k = 1 ∨ k = 2 ∨ k = 3 ∨ k = 4 := by omega
  rcases hd5 with rfl | rfl | rfl | rfl | rfl
  · exact m_itemT N hm (by decide) (by decide) rfl (a0 rfl) hs
  · exact m_itemT N hm (by decide) (by decide) rfl (a1 rfl) hs
  · exact m_itemT N hm (by decide) (by decide) rfl (a2 rfl) hs
  · exact m_itemT N hm (by decide) (by decide) rfl (a3 rfl) hs
  · exact m_itemT N hm (by decide) (by decide) rfl (a4 rfl) hs
example : True := by
  k_with "=subscriptTail Tuple" =>
    ((fail_if_success k_extra "out C19"); ((k_here; (with_reducible show wpAny _ _ (subscriptTail (Expr.Tuple _ _ _) _ (Value.ref _) (Value.int _ _)) _ _ _); k_dflt (refine' pick5 ?k1z111 ?k2z111 ?k3z111 ?k4z111 ?a0z111 ?a1z111 ?a2z111 ?a3z111 ?a4z111 ?k6z111; (case k1z111 => k_asm); (case k2z111 => k_mem); (case k3z111 => omega); (case k4z111 => omega); (case k6z111 => with_unfolding_all rfl)); (case' a0z111 => intro e8); (case' a1z111 => intro e8); (case' a2z111 => intro e8); (case' a3z111 => intro e8); (case' a4z111 => intro e8))))
  k_with "my used" =>
    ((fail_if_success k_extra "out C19"); (((rename (∀ (r : Value) (news' : List (Addr × Obj)) (h' : Heap) (tk' : Nat), _) => hret9); refine' hret9 _ _ _ _ ?Fz112 ?Nz112 ⟨_, OnTop.eq ?oz112, ?abz112, _, rfl, _, _, _, _, _, _, _, ?m1z112, ?m2z112, ?s1z112, ?m3z112, ?s2z112⟩; (case Fz112 => assumption); (case Nz112 => assumption); (case oz112 => k_extra "my ontop"); (case abz112 => k_extra "my aboves"); (case m1z112 => k_extra "my mem"); (case m2z112 => k_extra "my mem"); (case m3z112 => k_extra "my mem"); (case s1z112 => first | exact .nil | exact .cons .nil | exact .cons (.cons .nil)); (case s2z112 => first | exact .nil | exact .cons .nil | exact .cons (.cons .nil)))))
  trivial

theorem law_used {w : World} {news : Led} {d : Int} {t : Tok} (h0 : 0 ≤ d) (h5 : d < 5) :
   Makes w 4 508 [.int d t] news (fun r add => ∃ x, r = .ref x ∧ UsedP add x d) := by
  refine Box.out ?_
  simp (disch := k_dflt (
    refine Box2.mk ?_
    unfold Makes Spec
    intro mean mg mb dp un gd cn cs a ccd cl outer A₀ base h₀ L m s Q E B F X N T hk hd9 hu hret
    refine wpAny_call ?_
    k_dflt ktr_enter
    k_steps
    all_goals k_extra "my q"
    all_goals rename d = _ => hd8
    all_goals (first | (have hr8 := hret; clear hret; subst hd8) | skip)
    all_goals k_extra "my used")) only [↓Box.of]
end
example : True := by
  k_with "out C19" =>
    skip
  trivial
example : True := by
  k_with "=subscriptTail" =>
    k_extra "my item"
  k_with "=subscriptTail Name" =>
    k_extra "my item"
  k_with "=subscriptTail Subscript" =>
    (k_here; k_dflt (refine kba_turn (value' := PySem.Expr.Name (PySem.Str.ofString "_") ⟨0, 0, 0, 0⟩) (fun _ => rfl) ?_))
  k_with "=subscriptTail Name Name ref int" =>
    k_extra "my item"
  k_with "=subscriptTail Name Constant ref int" =>
    k_extra "my item"
  k_with "=compareOp In str ref" =>
    (k_here; k_dflt (refine' in_d ?Nz118 ?hpz118 ?hdz118 ?loz118 ?hvz118 ?_; (case Nz118 => k_asm); (case hpz118 => k_mem); (case hdz118 => with_reducible assumption); (case loz118 => with_reducible assumption); (case hvz118 => with_reducible assumption); k_whole); (try dsimp only [Option.isSome]))
  trivial
section
example : True := by
  k_with "=call ref" =>
    ((fail_if_success k_extra "out C20"); ((k_here; (with_reducible show wpAny _ _ (call (Value.ref 508) _) _ _ _); k_dflt (refine' useMakes (law_used ?h0z119 ?h5z119) ?_ ?k1z119 ?k2z119 ?k3z119 ?k4z119 ?k5z119 ?k6z119 ?k7z119 ?k8z119; (case k1z119 => k_asm); (case k2z119 => k_asm); (case k3z119 => k_asm); (case k4z119 => k_asm); (case k5z119 => k_asm); (case k6z119 => first | exact rfl | assumption); (case h0z119 => omega); (case h5z119 => omega); (case k7z119 => ktr_room); (case k8z119 => ktr_units); k_whole; intro _ _ _ _ _ _ _ _; (try k_sweep)))))
  k_with "=execs cons" =>
    ((fail_if_success k_extra "out C20"); ((k_here; (with_reducible show wpAny _ _ (execs (Stmt.Assign [Expr.Name (Str.ofString "lent") _] _ _ :: _) _) _ _ _); refine hold_of ?_)))
  k_with "=execs cons" =>
    ((fail_if_success k_extra "out C20"); ((k_here; (with_reducible show wpAny _ _ (execs (Stmt.If (Expr.Compare (Expr.Name (Str.ofString "inner") _) _ _ _) _ _ _ :: _) _) _ _ _); refine hold_of ?_)))
  k_with "=call builtin:list.append" =>
    ((fail_if_success k_extra "out C20"); ((k_here; (with_reducible show wpAny _ _ (call (Value.builtin _) [Value.ref _, _]) _ _ _); k_dflt (refine' app_pull ?Fz122 ?Nz122 ?hlz122 ?offz122 ?_ ?zz122; (case Fz122 => k_asm); (case Nz122 => k_asm); (case hlz122 => k_extra "my pull"); (case offz122 => k_extra "my off"); (case zz122 => (rw [sizeLine_eq]; (try simp only [List.size_toArray]); omega))); intro _ _ N'; (try dsimp only at N'); (try k_sweep))))
  trivial

/-- _law_due, so many levels deep -/
noncomputable def DueSpec (w : World) (S : Int → StrmD) (R : Int → ResD) (f : Nat) : Prop := ∀ (core news : Led) (sl rl : Addr) (at_ deed mat dv : Int) (t1 t2 t3 t4 : Tok), SubL core news → f ≤ 9 → dv = 9 - (f : Int) → PlainW w core sl rl S R → 0 ≤ at_ → at_ < 3 → 0 ≤ deed → deed < 5 →
  MakesA w (12 + 4 * f) 513 [.ref sl, .ref rl, .int at_ t1, .int deed t2, .int mat t3, .int dv t4] news (fun r add => DatIn add r (dueDat (due S R f at_ deed mat)))
theorem due_call {w : World} {S : Int → StrmD} {R : Int → ResD} {f : Nat} {core news : Led} {sl rl : Addr} {at_ deed mat dv : Int} {t1 t2 t3 t4 : Tok} (ih : DueSpec w S R f) (hsub : SubL core news) (hf : f ≤ 9) (hdv : dv = 9 - (f : Int)) (hW : PlainW w core sl rl S R) (h0 : 0 ≤ at_) (h3 : at_ < 3) (h0' : 0 ≤ deed) (h5' : deed < 5) :
  MakesA w (12 + 4 * f) 513 [.ref sl, .ref rl, .int at_ t1, .int deed t2, .int mat t3, .int dv t4] news (fun r add => DatIn add r (dueDat (due S R f at_ deed mat))) := ih core news sl rl at_ deed mat dv t1 t2 t3 t4 hsub hf hdv hW h0 h3 h0' h5'
theorem due_zero {w : World} {S : Int → StrmD} {R : Int → ResD} : DueSpec w S R 0 := by
  refine Box.out ?_
  simp (disch := k_dflt (
    refine Box2.mk ?_
    intro core news sl rl at_ deed mat dv t1 t2 t3 t4 hsub hf9 hdv hW h0 h3 h0' h5'
    unfold MakesA Spec
    intro mean mg mb dp un gd cn cs a ccd cl outer A₀ base h₀ L m s Q E B F X N T hk hd9 hu hret
    refine wpAny_call ?_
    k_dflt k_extra "my enterC"
    rename_i g' L' h' tk' FG' F' B' X' T' oc oc2 dc dc2
    k_steps
    all_goals k_extra "my q"
    all_goals try (exfalso; omega)
    have e9 : due S R 0 at_ deed mat = none := by unfold due; split <;> rfl
    refine hret _ _ _ _ (by assumption) (News.perm (by assumption) ?_) ⟨[], rfl, Apart.nil, ?_⟩
    · k_extra "my inn"
    · rw [e9]; exact .none)) only [↓Box.of]
theorem cell_cast {o : Obj} {v v' : Option Value} (d : o.data = .cell v) (e : v = v') : o.data = .cell v' := e ▸ d
example : True := by
  k_with "my fonts" =>
    ((fail_if_success k_extra "out C20"); (first
      | ((with_reducible rename LCg.Off1 _ _ => o9); (with_reducible rename Fr _ _ _ _ => F99); exact Mid.intro (fr_more F99) (by assumption) (fun _ kk9 => kk9 _ [] _ [] (has_of (by rfl)) rfl (Apart.cons (off1_mem o9) Apart.nil) (by rw [hfw]; (try rw [hfa]); (try rw [hfb]); exact .nil)))
      | ((with_reducible rename (_ ∧ LCg.Off1 _ _) => o9); (with_reducible rename Fr _ _ _ _ => F99); exact Mid.intro (fr_more F99) (by assumption) (fun _ kk9 => kk9 _ [.ref _] _ [(_, _)] (has_of (by rfl)) rfl (Apart.cons (off1_mem o9.2) (Apart.cons (by k_extra "my off") Apart.nil)) (by rw [hfw]; (try rw [hfa]); (try rw [hfb]); exact .cons (pairF_one List.mem_cons_self) .nil)))
      | ((with_reducible rename (_ ∧ _ ∧ LCg.Off1 _ _) => o9); (with_reducible rename Fr _ _ _ _ => F99); exact Mid.intro (fr_more F99) (by assumption) (fun _ kk9 => kk9 _ [.ref _, .ref _] _ [(_, _), (_, _)] (has_of (by rfl)) rfl (Apart.cons (off1_mem o9.2.2) (Apart.cons (by k_extra "my off") (Apart.cons (by k_extra "my off") Apart.nil))) (by rw [hfw]; (try rw [hfa]); (try rw [hfb]); exact .cons (pairF_one (List.mem_cons_of_mem _ List.mem_cons_self)) (.cons (pairF_one List.mem_cons_self) .nil))))
      | fail "my fonts"))
  k_with "=call ref" =>
    ((fail_if_success k_extra "out C20"); ((k_here; (with_reducible show wpAny _ _ (call (Value.ref 513) _) _ _ _); refine hold_of ?_)))
  trivial

set_option autoImplicit false in
noncomputable def QC20_1 (news : Led) (sl : Addr) (L' : Addr) (oc : Obj) (oc2 : Obj) (dv : Int) (mat : Int) (deed : Int) (t4 : Tok) (t3 : Tok) (t2 : Tok) (m' : Str → Option Value) (all' : Led) : Prop := ∀ G9 : Prop, (∀ (x : Addr) (au : Led),
    (m' = locs [("used", .ref x), ("depth", .int dv t4), ("matrix", .int mat t3), ("deed", .int deed t2), ("streams", .ref sl)]) →
    (all' = au ++ (L' + 1 + 1, oc) :: (L' + 1, oc2) :: news) →
    (Above ((L' + 1 + 1, oc) :: (L' + 1, oc2) :: news) au) →
    (UsedP au x deed) → G9) → G9
set_option autoImplicit false in
noncomputable def QC20_2 (R : Int → ResD) (au : Led) (news : Led) (x : Addr) (sl : Addr) (L' : Addr) (oc : Obj) (oc2 : Obj) (dv : Int) (mat : Int) (deed : Int) (at_ : Int) (t4 : Tok) (t3 : Tok) (t2 : Tok) (m' : Str → Option Value) (all' : Led) : Prop := ∀ G9 : Prop, (∀ (fl : Addr) (vs : List Value) (n : Nat) (tl : Led),
    ((∀ p ∈ [("fonts", Value.ref fl), ("used", .ref x), ("depth", .int dv t4), ("matrix", .int mat t3), ("deed", .int deed t2), ("streams", .ref sl)], m' (Str.ofString p.1) = some p.2)) →
    (all' = (fl, W.listOf vs.toArray n) :: (tl ++ (au ++ (L' + 1 + 1, oc) :: (L' + 1, oc2) :: news))) →
    (Apart (au ++ (L' + 1 + 1, oc) :: (L' + 1, oc2) :: news) ((fl, W.listOf vs.toArray n) :: tl)) →
    (DatAll tl vs (pairF "A" (if "A" ∈ fontsOf deed then fontNo (R at_).fa else none) ++ pairF "B" (if "B" ∈ fontsOf deed then fontNo (R at_).fb else none))) → G9) → G9
set_option autoImplicit false in
noncomputable def QC20_3 (S : Int → StrmD) (R : Int → ResD) (ftl : Led) (au : Led) (news : Led) (xl : Addr) (fl : Addr) (x : Addr) (sl : Addr) (L' : Addr) (oc : Obj) (oc2 : Obj) (dv : Int) (mat : Int) (deed : Int) (at_ : Int) (fn : Nat) (f : Nat) (t4 : Tok) (t3 : Tok) (t2 : Tok) (fvs : List Value) (i : Nat) (m' : Str → Option Value) (all' : Led) : Prop := ∀ G9 : Prop, (∀ (vs : List Value) (n : Nat) (tl : Led) (ds : List Dat),
    ((∀ p ∈ [("forms", Value.ref xl), ("fonts", .ref fl), ("used", .ref x), ("depth", .int dv t4), ("matrix", .int mat t3), ("deed", .int deed t2), ("streams", .ref sl)], m' (Str.ofString p.1) = some p.2)) →
    (all' = (xl, W.listOf vs.toArray n) :: (tl ++ (fl, W.listOf fvs.toArray fn) :: (ftl ++ (au ++ (L' + 1 + 1, oc) :: (L' + 1, oc2) :: news)))) →
    (vs.length ≤ i) →
    (XDat (fun x => subT S (paint S R f) at_ ((R at_).thing x)) ((formsOf deed).take i) ds) →
    (DatAll tl vs ds) →
    (Apart ((xl, W.listOf #[] 0) :: (fl, W.listOf fvs.toArray fn) :: (ftl ++ (au ++ (L' + 1 + 1, oc) :: (L' + 1, oc2) :: news))) tl) → G9) → G9
set_option autoImplicit false in
noncomputable def QC20_4 (tl : Led) (ftl : Led) (au : Led) (news : Led) (sp : Addr) (xl : Addr) (fl : Addr) (x : Addr) (sl : Addr) (I : Addr) (L' : Addr) (it : Obj) (oc : Obj) (oc2 : Obj) (z : String) (la_ : Int) (dv : Int) (mat : Int) (deed : Int) (n : Nat) (fn : Nat) (t8 : Tok) (t4 : Tok) (t3 : Tok) (t2 : Tok) (vs : List Value) (fvs : List Value) (m' : Str → Option Value) (all' : Led) : Prop := ∀ G9 : Prop, (∀ (tkl : Tok),
    ((∀ p ∈ [("lent", Value.int la_ tkl), ("stream", .ref sp), ("word", .str (Str.ofString z) t8), ("forms", .ref xl), ("fonts", .ref fl), ("used", .ref x), ("depth", .int dv t4), ("matrix", .int mat t3), ("deed", .int deed t2), ("streams", .ref sl)], m' (Str.ofString p.1) = some p.2)) →
    (all' = (I, it) :: (xl, W.listOf vs.toArray n) :: (tl ++ (fl, W.listOf fvs.toArray fn) :: (ftl ++ (au ++ (L' + 1 + 1, oc) :: (L' + 1, oc2) :: news)))) → G9) → G9
theorem due_step {w : World} {S : Int → StrmD} {R : Int → ResD} {f : Nat} (ih : DueSpec w S R f) : DueSpec w S R (f + 1) := by
  refine Box.out ?_
  simp (disch := k_dflt (
    refine Box2.mk ?_
    intro core news sl rl at_ deed mat dv t1 t2 t3 t4 hsub hf9 hdv hW h0 h3 h0' h5'
    unfold MakesA Spec
    intro mean mg mb dp un gd cn cs a ccd cl outer A₀ base h₀ L m s Q E B F X N T hk hd9 hu hret
    refine wpAny_call ?_
    k_dflt k_extra "my enterC"
    rename_i g' L' h' tk' FG' F' B' X' T' oc oc2 dc dc2
    replace dc := cell_cast dc (v' := some (.int at_ t1)) (by kernel_rfl)
    replace dc2 := cell_cast dc2 (v' := some (.ref rl)) (by kernel_rfl)
    replace F' := fr_cast F' (m' := locs [("depth", .int dv t4), ("matrix", .int mat t3), ("deed", .int deed t2), ("streams", .ref sl)]) (by kernel_rfl)
    by_cases hm5 : 5 ≤ mat
    · k_steps
      all_goals k_extra "my q"
      all_goals try (exfalso; omega)
      refine hret _ _ _ _ (by assumption) (News.perm (by assumption) ?_) ⟨[], rfl, Apart.nil, ?_⟩
      · k_extra "my inn"
      · rw [due_bad hm5]; exact .none
    have hoffC : ∀ p ∈ news, p.1 ≠ L' + 1 := fun p hp => Nat.ne_of_lt (Nat.lt_succ_of_lt (l1 p hp))
    with_reducible refine seg 2 F' (QC20_1 news sl L' oc oc2 dv mat deed t4 t3 t2) ?_ ?_
    · k_extra "my o"
      dsimp only [List.take]
      k_steps
      all_goals k_extra "my q"
      all_goals try (exfalso; omega)
      rename Above _ _ => hab9
      exact Mid.intro (by assumption) (by assumption) (fun _ kk9 => kk9 _ _ rfl rfl hab9 (by assumption))
    clear F' N'
    intro m' all' h2 tk2 F2 N2 hQ9
    refine hQ9 _ ?_
    clear hQ9
    rintro x au rfl rfl habU ⟨lf, lx, nu, nf, nx, vf, vx, um0, um1, um2, um3, um4⟩
    dsimp only [List.drop]
    obtain ⟨rvs, rn, rm, rall⟩ := hW.res
    obtain ⟨pr, hpr, ⟨pa, pb, pxa, pxb, pfd, pxd, pof, pox, po, pf1, pf2, px1, px2, ⟨pm1, pm2, pm3⟩, ⟨pm4, pm5, pm6⟩, ⟨pm7, pm8, pm9⟩⟩, tb1, tb2⟩ := rall at_ h0 h3
    have hvA : valueAt (addK (addK [] sA pa) sB pb) (Str.ofString "A") = pa := pair_at (.inl rfl) pa pb
    have hvB : valueAt (addK (addK [] sA pa) sB pb) (Str.ofString "B") = pb := pair_at (.inr rfl) pa pb
    have hia := pf1.int
    have hib := pf2.int
    with_reducible refine seg 1 F2 (QC20_2 R au news x sl L' oc oc2 dv mat deed at_ t4 t3 t2) ?_ ?_
    · k_extra "my o"
      dsimp only [List.take]
      have hl9 := fonts_list deed
      generalize hfw : fontsOf deed = fw at um2 hl9
      simp only [wordLists, List.mem_cons, List.not_mem_nil, or_false] at hl9
      obtain ⟨vf⟩ := vf
      rcases hl9 with rfl | rfl | rfl | rfl
      case' inl => cases um2
      case' inr.inl => cases um2; rename_i um2; cases um2; generalize hfa : fontNo (R at_).fa = fa at hia; cases hia
      case' inr.inr.inl => cases um2; rename_i um2; cases um2; generalize hfb : fontNo (R at_).fb = fb at hib; cases hib
      case' inr.inr.inr => cases um2; rename_i um2; cases um2; rename_i um2; cases um2; generalize hfa : fontNo (R at_).fa = fa at hia; generalize hfb : fontNo (R at_).fb = fb at hib; cases hia <;> cases hib
      all_goals k_steps
      all_goals k_extra "my q"
      all_goals k_extra "my fonts"
    clear F2 N2
    intro m' all' h3' tk3 F3 N3 hQ9
    refine hQ9 _ ?_
    clear hQ9
    rintro fl fvs fn ftl hm3 rfl hapF hdF
    replace F3 := fr_on0 F3 _ hm3
    dsimp only [List.drop]
    with_reducible refine seg 1 F3 (fun m'' all'' => ∃ (xl : Addr), m'' = locsOn m' [("forms", .ref xl), ("fonts", .ref fl), ("used", .ref x), ("depth", .int dv t4), ("matrix", .int mat t3), ("deed", .int deed t2), ("streams", .ref sl)] ∧ all'' = (xl, W.listOf #[] 0) :: ((fl, W.listOf fvs.toArray fn) :: (ftl ++ (au ++ (L' + 1 + 1, oc) :: (L' + 1, oc2) :: news))) ∧
        (∀ p ∈ (fl, W.listOf fvs.toArray fn) :: (ftl ++ (au ++ (L' + 1 + 1, oc) :: (L' + 1, oc2) :: news)), p.1 < xl)) ?_ ?_
    · k_extra "my o"
      dsimp only [List.take]
      k_steps
      all_goals k_extra "my q"
      exact Mid.intro (by assumption) (by assumption) ⟨_, rfl, rfl, by assumption⟩
    clear F3 N3
    rintro m'' all' h4 tk4 F4 N4 ⟨xl, rfl, rfl, hlx⟩
    dsimp only [List.drop]
    have hl9 := forms_list deed
    have hvlen := um4.length
    have hle2 := list_le hl9
    refine wpAny_execs_cons ?_
    refine For_invVF F4 rfl rfl ?_
    k_extra "my upto"
    obtain ⟨svs, sn, sm, sall⟩ := hW.strm
    have hns : @Ne Nat fl xl := Nat.ne_of_lt (hlx (fl, _) List.mem_cons_self)
    have off0 : ∀ p ∈ (fl, W.listOf fvs.toArray fn) :: (ftl ++ (au ++ (L' + 1 + 1, oc) :: (L' + 1, oc2) :: news)), p.1 ≠ xl := ne_of_lts hlx
    have hpn : ∀ z : String, z ∈ formsOf deed → subT S (paint S R f) at_ ((R at_).thing z) = none → due S R (f + 1) at_ deed mat = none := fun z a b => by
      unfold due; rw [if_neg hm5]; exact paint_none (word_in hl9 a) a b
    refine iter_list (l := lx) (vs := vx) (n := nx) rfl (by assumption) (News.perm (by assumption) (l' := (xl, W.listOf ([] : List Value).toArray 0) :: ([] ++ (fl, W.listOf fvs.toArray fn) :: (ftl ++ (au ++ (L' + 1 + 1, oc) :: (L' + 1, oc2) :: news)))) ?zz6) (QC20_3 S R ftl au news xl fl x sl L' oc oc2 dv mat deed at_ fn f t4 t3 t2 fvs) ?_ ?_ ?_ ?_
    case zz6 => k_extra "my inn"
    · refine (fun _ kk9 => kk9 [] _ [] [] ?_ rfl (Nat.le_refl _) .nil .nil Apart.nil)
      exact has_of (by rfl)
    · intro i m' all' hQ9
      refine hQ9 _ ?_
      clear hQ9
      rintro vs n tl ds _ rfl _ _ _ _
      k_extra "my mem"
    · intro i v m₁ news₁ h tk5 I it hi hv hQ9
      refine hQ9 _ ?_
      clear hQ9
      rintro vs n tl ds hm rfl hle hK hDs hAp hoffI hI F5 N5
      k_extra "my o"
      replace F5 := fr_on F5 _ hm
      obtain ⟨z, t8, rfl, hwx⟩ := um4.get (i := i) (v := v) (by rw [← hv]; simp)
      have hxm := List.mem_of_getElem? hwx
      have hxw : z = "A" ∨ z = "B" := word_in hl9 hxm
      have hi2 : i < 2 := Nat.lt_of_lt_of_le (List.getElem?_eq_some_iff.mp hwx).1 hle2
      have hpx := hpn z hxm
      have hIx : @Ne Nat xl I := hoffI (xl, _) List.mem_cons_self
      have hIt : ∀ p ∈ tl, p.1 ≠ I := fun p hp => hoffI p (List.mem_cons_of_mem _ (List.mem_append_left _ hp))
      have hIf : @Ne Nat fl I := hoffI (fl, _) (List.mem_cons_of_mem _ (List.mem_append_right _ List.mem_cons_self))
      have hIo : ∀ p ∈ ftl ++ (au ++ (L' + 1 + 1, oc) :: (L' + 1, oc2) :: news), p.1 ≠ I := fun p hp => hoffI p (List.mem_cons_of_mem _ (List.mem_append_right _ (List.mem_cons_of_mem _ hp)))
      have htx : ∀ p ∈ tl, p.1 ≠ xl := hAp.ne List.mem_cons_self
      have htk := take_succ hwx
      obtain ⟨xv, hxv, hXV, hB⟩ := ThingP.pair (r := R at_) hxw px1 px2 tb1 tb2
      generalize hth : (R at_).thing z = th at hXV hpx hB
      cases hXV
      case' dict => have hsk : subT S (paint S R f) at_ .dict = some .nil := rfl
      case' missing => have hsk : subT S (paint S R f) at_ .missing = some .nil := rfl
      case' str k tk8 =>
        obtain ⟨hk0, hk3⟩ := hB
        obtain ⟨sp, hsp, ⟨st1, st2, st3, so, so1, so2, so3⟩, b1, b2, b3, b4⟩ := sall k hk0 hk3
        cases hfm : isForm (S k).kd
      case' str.false => have hsk : subT S (paint S R f) at_ (.str k) = some .nil := by simp only [subT, hfm]; rfl
      case' str.true | str.false => rw [hfm] at so2
      all_goals k_steps
      all_goals k_extra "my q"
      all_goals (try unfold Hold)
      all_goals try
        (refine TurnEnd.next (by assumption) (News.perm (by assumption) ?_) ?_ (fun _ kk9 => kk9 vs n tl ds ?_ rfl (Nat.le_succ_of_le hle) (by rw [htk]; exact XDat.skip hK (by show subT S (paint S R f) at_ ((R at_).thing z) = _; rw [hth]; exact hsk)) hDs hAp))
      all_goals first
        | k_extra "my inn"
        | k_extra "my off"
        | skip
      all_goals try
        (exact has_of (by rfl))
      have hl0' : 0 ≤ lentAt at_ (S k).lent := by unfold lentAt; split <;> omega
      have hl3' : lentAt at_ (S k).lent < 3 := by unfold lentAt; split <;> omega
      have hsub9 := subT_due (R := R) (f := f) (at_ := at_) hfm
      rename Fr g' _ _ _ => F6
      with_reducible refine seg 1 F6 (QC20_4 tl ftl au news sp xl fl x sl I L' it oc oc2 z (lentAt at_ (S k).lent) dv mat deed n fn t8 t4 t3 t2 vs fvs) ?_ ?_
      · dsimp only [List.take]
        with_reducible refine wpAny_execs_cons ?_
        by_cases hlz : (S k).lent = 0
        · have e2 : lentAt at_ (S k).lent = at_ := by unfold lentAt; rw [if_pos hlz]
          rw [e2]
          k_steps
          all_goals k_extra "my q"
          all_goals try (exfalso; omega)
          refine' Mid.intro (by assumption) (by assumption) (fun _ kk9 => kk9 _ ?nmA rfl)
          case nmA =>
            exact has_of (by rfl)
        · have e2 : lentAt at_ (S k).lent = (S k).lent - 1 := by unfold lentAt; rw [if_neg hlz]
          rw [e2]
          k_steps
          all_goals k_extra "my q"
          all_goals try (exfalso; omega)
          refine' Mid.intro (by assumption) (by assumption) (fun _ kk9 => kk9 _ ?nmB rfl)
          case nmB =>
            exact has_of (by rfl)
      intro m' all' h7 tk7 F7 N7 hQ9
      refine hQ9 _ ?_
      clear hQ9
      rintro tkl hm7 rfl
      replace F7 := fr_on0 F7 _ hm7
      dsimp only [List.drop]
      k_steps
      all_goals k_extra "my q"
      unfold Hold
      refine' Spec.use (due_call ih ?hsub ?hf ?hdv hW hl0' hl3' ?h0 ?h5) ?k1 ?k2 ?k3 ?k4 ?k5 ?k6 ?k7 ?k8 ?_
      case k1 => k_asm
      case k2 => k_asm
      case k3 => k_asm
      case k4 => k_asm
      case k5 => k_asm
      case k6 => first | exact rfl | assumption
      case hsub => exact SubL.ext hsub (by k_extra "my inn")
      case hf => omega
      case hdv => omega
      case h0 => omega
      case h5 => omega
      case k7 => ktr_room
      case k8 => ktr_units
      intro r9 n9 h9 tk9 F9 N9 hr9
      obtain ⟨a9, e8, hap9, hd9⟩ := hr9
      subst e8
      k_steps
      all_goals k_extra "my q"
      unfold Hold
      rcases dueDat_case hd9 (fun T h => due_node h) with ⟨hdn, rfl⟩ | ⟨T, d, xr, hdn, hTd, rfl, hd8⟩
      · with_reducible refine wpAny_execs_cons ?_
        k_steps
        all_goals k_extra "my q"
        k_steps
        refine hret _ _ _ _ (by assumption) (News.perm (by assumption) ?zn1) ⟨[], rfl, Apart.nil, ?zn2⟩
        case zn1 => k_extra "my inn"
        case zn2 => rw [hpx (hsub9.trans hdn)]; exact .none
      · with_reducible refine wpAny_execs_cons ?_
        have off0t : ∀ p ∈ ftl ++ (au ++ (L' + 1 + 1, oc) :: (L' + 1, oc2) :: news), p.1 ≠ xl := fun p hp => off0 p (List.mem_cons_of_mem _ hp)
        have hap9I : ∀ p ∈ a9, p.1 ≠ I := hap9.ne (o := it) (by k_extra "my mem")
        have hap9x : ∀ p ∈ a9, p.1 ≠ xl := hap9.ne (o := W.listOf vs.toArray n) (by k_extra "my mem")
        k_steps
        all_goals k_extra "my q"
        rename (∀ p : Addr × Obj, p ∈ a9 ++ (I, it) :: _ → p.1 < _) => hlq
        rename News g' _ _ _ => N8
        try rw [List.push_toArray] at N8
        refine' TurnEnd.next (by assumption) (News.perm N8 (l' := (I, it) :: (xl, W.listOf (vs ++ [Value.ref _]).toArray (n + 1)) :: (((_, _) :: (a9 ++ tl)) ++ (fl, W.listOf fvs.toArray fn) :: (ftl ++ (au ++ (L' + 1 + 1, oc) :: (L' + 1, oc2) :: news)))) ?zq1) ?zq2 (fun _ kk9 => kk9 _ _ _ _ ?zq3 rfl ?zq4 ?zq5 ?zq8 (Apart.cons (all_cons (lt_ne (o := W.listOf vs.toArray n) hlq (by k_extra "my mem")) (ne_of_lts (lts_sub hlq (by k_extra "my inn")))) (Apart.app (Apart.consL (o := W.listOf #[] 0) (hap9.sub (by k_extra "my inn")) (hap9.ne (o := W.listOf vs.toArray n) (by k_extra "my mem"))) hAp)))
        case zq1 => k_extra "my inn"
        case zq2 => k_extra "my off"
        case zq3 =>
          exact has_of (by rfl)
        case zq4 => simp only [List.length_append, List.length_cons, List.length_nil]; omega
        case zq5 =>
          rw [htk]
          have hxs := XDat.snoc hK (show (fun x => subT S (paint S R f) at_ ((R at_).thing x)) z = some T by show subT S (paint S R f) at_ ((R at_).thing z) = _; rw [hth, hsub9]; exact hdn)
          rw [hTd] at hxs
          exact hxs
        case zq8 => exact datall_push (hDs.mono (by k_extra "my inn")) (.tuple (vs := [_, _]) List.mem_cons_self (.cons (.str _ _) (.cons (hd8.mono (by k_extra "my inn")) .nil)))
    · intro m₁ news₁ h tk5 hQ9
      refine hQ9 _ ?_
      clear hQ9
      rintro vs n tl ds hm rfl hle hK hDs hAp F5 N5
      replace F5 := fr_on0 F5 _ hm
      have hlt9 : (formsOf deed).take vx.size = formsOf deed := List.take_of_length_le (by rw [← hvlen]; simp)
      rw [hlt9] at hK
      obtain ⟨ta, tb, e1, e2, rfl⟩ := hK.pair hl9
      have hdue : dueDat (due S R (f + 1) at_ deed mat) = .tuple [.int deed, .int (matShift mat), .list (pairF "A" (if "A" ∈ fontsOf deed then fontNo (R at_).fa else none) ++ pairF "B" (if "B" ∈ fontsOf deed then fontNo (R at_).fb else none)), .list (pairX "A" ta.dat ++ pairX "B" tb.dat)] := by
        unfold due
        rw [if_neg hm5, paint_some e1 e2]
        rfl
      rw [hdue] at hret
      by_cases hms : 2 ≤ mat ∧ mat ≤ 4
      · have e3 : matShift mat = mat := if_pos hms
        rw [e3] at hret
        obtain ⟨hms1, hms2⟩ := hms
        k_steps
        all_goals k_extra "my q"
        all_goals try (exfalso; omega)
        rename (∀ p : Addr × Obj, p ∈ (xl, _) :: _ → p.1 < _) => hlq
        refine' hret _ _ _ _ (by assumption) (News.perm (by assumption) (l' := ((_, _) :: (xl, W.listOf vs.toArray n) :: (tl ++ (fl, W.listOf fvs.toArray fn) :: ftl)) ++ news) ?za0) ⟨_, rfl, Apart.cons (ne_of_lts (lts_sub hlq (by k_extra "my inn"))) (Apart.cons (fun p hp => Nat.ne_of_lt (hlx p (List.mem_cons_of_mem _ (List.mem_append_right _ (List.mem_append_right _ (List.mem_cons_of_mem _ (List.mem_cons_of_mem _ hp))))))) (Apart.app (hAp.sub (by k_extra "my inn")) (hapF.sub (by k_extra "my inn")))), .tuple (vs := [_, _, _, _]) List.mem_cons_self (.cons (.int _ _) (.cons (.int _ _) (.cons (.list (vs := fvs) ?za1 (hdF.mono ?za2)) (.cons (.list (vs := vs) ?za3 (hDs.mono ?za4)) .nil))))⟩
        case za0 => k_extra "my inn"
        case za1 => k_extra "my mem"
        case za2 => k_extra "my inn"
        case za3 => k_extra "my mem"
        case za4 => k_extra "my inn"
      · have e3 : matShift mat = 0 := if_neg hms
        rw [e3] at hret
        k_steps
        all_goals k_extra "my q"
        all_goals try (exfalso; omega)
        rename (∀ p : Addr × Obj, p ∈ (xl, _) :: _ → p.1 < _) => hlq
        refine' hret _ _ _ _ (by assumption) (News.perm (by assumption) (l' := ((_, _) :: (xl, W.listOf vs.toArray n) :: (tl ++ (fl, W.listOf fvs.toArray fn) :: ftl)) ++ news) ?zb0) ⟨_, rfl, Apart.cons (ne_of_lts (lts_sub hlq (by k_extra "my inn"))) (Apart.cons (fun p hp => Nat.ne_of_lt (hlx p (List.mem_cons_of_mem _ (List.mem_append_right _ (List.mem_append_right _ (List.mem_cons_of_mem _ (List.mem_cons_of_mem _ hp))))))) (Apart.app (hAp.sub (by k_extra "my inn")) (hapF.sub (by k_extra "my inn")))), .tuple (vs := [_, _, _, _]) List.mem_cons_self (.cons (.int _ _) (.cons (.int _ _) (.cons (.list (vs := fvs) ?zb1 (hdF.mono ?zb2)) (.cons (.list (vs := vs) ?zb3 (hDs.mono ?zb4)) .nil))))⟩
        case zb0 => k_extra "my inn"
        case zb1 => k_extra "my mem"
        case zb2 => k_extra "my inn"
        case zb3 => k_extra "my mem"
        case zb4 => k_extra "my inn")) only [↓Box.of]
end
example : True := by
  k_with "out C20" =>
    skip
  trivial
section
theorem Apart.inst {news a : Led} {x d : Addr} {ox od : Obj} (h1 : ∀ p ∈ news, p.1 < d) (h2 : @LT.lt Nat _ d x) (h : Apart news a) : Apart news ((x, ox) :: (d, od) :: a) :=
  Apart.cons (fun q hq => Nat.ne_of_lt (Nat.lt_trans (h1 q hq) h2)) (Apart.cons (fun q hq => Nat.ne_of_lt (h1 q hq)) h)
theorem Apart.consLt {news a : Led} {d : Addr} {o : Obj} (h1 : ∀ p ∈ news, p.1 < d) (h : Apart news a) : Apart news ((d, o) :: a) := Apart.cons (fun q hq => Nat.ne_of_lt (h1 q hq)) h
theorem cons_top {n l a : Led} {p : Addr × Obj} (h : OnTop n l a) : p :: l = p :: (a ++ n) := congrArg (List.cons p) h.eq
theorem cons_top2 {n l a : Led} {p q : Addr × Obj} (h : OnTop n l a) : p :: q :: l = p :: q :: (a ++ n) := congrArg (fun x => p :: q :: x) h.eq
theorem Apart.inst2 {news a l : Led} {x d : Addr} {ox od : Obj} (h1 : ∀ p ∈ l, p.1 < d) (s : ∀ p ∈ news, p ∈ l) (h2 : @LT.lt Nat _ d x) (h : Apart news a) : Apart news ((x, ox) :: (d, od) :: a) := Apart.inst (fun p hp => h1 p (s p hp)) h2 h
theorem cons_top8 {n l a : Led} {p1 p2 p3 p4 p5 p6 p7 p8 : Addr × Obj} (h : OnTop n l a) : p1 :: p2 :: p3 :: p4 :: p5 :: p6 :: p7 :: p8 :: l = p1 :: p2 :: p3 :: p4 :: p5 :: p6 :: p7 :: p8 :: (a ++ n) := congrArg (fun x => p1 :: p2 :: p3 :: p4 :: p5 :: p6 :: p7 :: p8 :: x) h.eq
end
section
noncomputable def opDat : Opn → Dat
  | .tf s k => .tuple [.str (Str.ofString "Tf"), .tuple [.tuple [.str (Str.ofString "name"), .str (Str.ofString s)], .tuple [.str (Str.ofString "int"), .int k]]]
  | .do_ s => .tuple [.str (Str.ofString "Do"), .tuple [.tuple [.str (Str.ofString "name"), .str (Str.ofString s)]]]
  | .q => .tuple [.str (Str.ofString "q"), .tuple []]
  | .Q => .tuple [.str (Str.ofString "Q"), .tuple []]
theorem told_int {w : World} {news : Led} {i : Int} {t : Tok} :
   Makes w 5 291 [.int i t] news (fun r add => DatIn add r (.tuple [.str (Str.ofString "int"), .int i])) := by
  refine Box.out ?_
  simp (disch := k_dflt (
    refine Box2.mk ?_
    unfold Makes Spec
    intro mean mg mb dp un gd cn cs a ccd cl outer A₀ base h₀ L m s Q E B F X N T hk hd9 hu hret
    have hv : KindOf w news (.int i t) "int" := .int _ _
    refine wpAny_call ?_
    k_dflt k_extra "my enterC"
    k_steps
    all_goals k_extra "my q"
    rename (∀ p : Addr × Obj, p ∈ (_, _) :: news → p.1 < _) => hlt
    refine' hret _ _ _ _ (by assumption) (News.perm (by assumption) (l' := [(_, _)] ++ news) ?zn) ⟨_, rfl, Above.one (fun p hp => hlt p (List.mem_cons_of_mem _ hp)), .tuple (vs := [_, _]) List.mem_cons_self (.cons (.str _ _) (.cons (.int _ _) .nil))⟩
    case zn => k_extra "my inn")) only [↓Box.of]
theorem told_name {w : World} {news : Led} {x : Addr} {s9 : String} (hx : strObj news x s9) :
   Makes w 5 291 [.ref x] news (fun r add => DatIn add r (.tuple [.str (Str.ofString "name"), .str (Str.ofString s9)])) := by
  refine Box.out ?_
  simp (disch := k_dflt (
    refine Box2.mk ?_
    unfold Makes Spec
    intro mean mg mb dp un gd cn cs a ccd cl outer A₀ base h₀ L m s Q E B F X N T hk hd9 hu hret
    obtain ⟨d1, h1, t1, t2, n1, m1, m2⟩ := hx
    have hv : KindOf w news (.ref x) "name" := .name m1 m2
    refine wpAny_call ?_
    k_dflt k_extra "my enterC"
    k_steps
    all_goals k_extra "my q"
    rename (∀ p : Addr × Obj, p ∈ (_, _) :: news → p.1 < _) => hlt
    refine' hret _ _ _ _ (by assumption) (News.perm (by assumption) (l' := [(_, _)] ++ news) ?zn) ⟨_, rfl, Above.one (fun p hp => hlt p (List.mem_cons_of_mem _ hp)), .tuple (vs := [_, _]) List.mem_cons_self (.cons (.str _ _) (.cons (.str _ _) .nil))⟩
    case zn => k_extra "my inn")) only [↓Box.of]
end
section
example : True := by
  k_with "=call ref" =>
    ((fail_if_success k_extra "out W2"); ((k_here; (with_reducible show wpAny _ _ (call (Value.ref 291) _) _ _ _); k_dflt (refine' useAdd (told_int) ?_ ?k1z125 ?k2z125 ?k3z125 ?k4z125 ?k5z125 ?k6z125 ?k7z125 ?k8z125; (case k1z125 => k_asm); (case k2z125 => k_asm); (case k3z125 => k_asm); (case k4z125 => k_asm); (case k5z125 => k_asm); (case k6z125 => first | exact rfl | assumption); (case k7z125 => ktr_room); (case k8z125 => ktr_units); k_whole; intro _ _ _ _ _ _ _ _; (try k_sweep)))))
  k_with "=call ref" =>
    ((fail_if_success k_extra "out W2"); ((k_here; (with_reducible show wpAny _ _ (call (Value.ref 291) _) _ _ _); k_dflt (refine' useAdd (told_name ?hxz126) ?_ ?k1z126 ?k2z126 ?k3z126 ?k4z126 ?k5z126 ?k6z126 ?k7z126 ?k8z126; (case k1z126 => k_asm); (case k2z126 => k_asm); (case k3z126 => k_asm); (case k4z126 => k_asm); (case k5z126 => k_asm); (case k6z126 => first | exact rfl | assumption); (case hxz126 => first | with_reducible assumption | (refine strObj.mono (by with_reducible assumption) ?_; k_extra "my grow")); (case k7z126 => ktr_room); (case k8z126 => ktr_units); k_whole; intro _ _ _ _ _ _ _ _; (try k_sweep)))))
  trivial

theorem op_told {w : World} {news : Led} {x : Addr} {o : Opn} (hx : OpIs news x o) :
   MakesA w 8 414 [.ref x] news (fun r add => DatIn add r (opDat o)) := by
  refine Box.out ?_
  simp (disch := k_dflt (
    refine Box2.mk ?_
    unfold MakesA Spec
    intro mean mg mb dp un gd cn cs a ccd cl outer A₀ base h₀ L m s Q E B F X N T hk hd9 hu hret
    obtain ⟨d1, l1', oh1, oh2, ot1, ot2, ot3, on1, om1, om2, oa1⟩ := hx
    refine wpAny_call ?_
    k_dflt ktr_enter
    cases oa1
    all_goals dsimp only [Opn.word] at om2
    all_goals k_steps
    all_goals k_extra "my q"
    · rename Above _ _ => hab2
      rename Above ((_, _) :: (_, _) :: (_, LCg.lst []) :: news) _ => hab1
      rename (∀ p : Addr × Obj, p ∈ (_, _) :: (_, _) :: _ → p.1 < _) => hlt
      rename (∀ p : Addr × Obj, p ∈ (_, _) :: (_ ++ (_ ++ news)) → p.1 < _) => hlt1
      refine' hret _ _ _ _ (by assumption) (News.perm (by assumption) (l' := ((_, _) :: (_, _) :: (_ ++ _)) ++ news) ?zn) ⟨_, rfl, Apart.cons (ne_of_lts (lts_sub hlt ?z1)) (Apart.cons (ne_of_lts (lts_sub hlt1 ?z2)) (Apart.app (hab2.apart.sub ?z3) (hab1.apart.sub ?z4))), .tuple (vs := [_, _]) List.mem_cons_self (.cons (.str _ _) (.cons (.tuple (vs := [_, _]) (List.mem_cons_of_mem _ List.mem_cons_self) (.cons (DatIn.mono ?z5 (by assumption)) (.cons (DatIn.mono ?z6 (by assumption)) .nil))) .nil))⟩
      case zn => k_extra "my inn"
      case z1 => k_extra "my inn"
      case z2 => k_extra "my inn"
      case z3 => k_extra "my inn"
      case z4 => k_extra "my inn"
      case z5 => k_extra "my inn"
      case z6 => k_extra "my inn"
    · rename Above _ _ => hab1
      rename (∀ p : Addr × Obj, p ∈ (_, _) :: (_, _) :: _ → p.1 < _) => hlt
      rename (∀ p : Addr × Obj, p ∈ (_, _) :: (_ ++ news) → p.1 < _) => hlt1
      refine' hret _ _ _ _ (by assumption) (News.perm (by assumption) (l' := ((_, _) :: (_, _) :: _) ++ news) ?zn) ⟨_, rfl, Apart.cons (ne_of_lts (lts_sub hlt ?z1)) (Apart.cons (ne_of_lts (lts_sub hlt1 ?z2)) (hab1.apart.sub ?z4)), .tuple (vs := [_, _]) List.mem_cons_self (.cons (.str _ _) (.cons (.tuple (vs := [_]) (List.mem_cons_of_mem _ List.mem_cons_self) (.cons (DatIn.mono ?z5 (by assumption)) .nil)) .nil))⟩
      case zn => k_extra "my inn"
      case z1 => k_extra "my inn"
      case z2 => k_extra "my inn"
      case z4 => k_extra "my inn"
      case z5 => k_extra "my inn"
    all_goals
      rename (∀ p : Addr × Obj, p ∈ (_, _) :: (_, _) :: _ → p.1 < _) => hlt
      rename (∀ p : Addr × Obj, p ∈ (_, _) :: news → p.1 < _) => hlt1
      refine' hret _ _ _ _ (by assumption) (News.perm (by assumption) (l' := [(_, _), (_, _)] ++ news) ?zn) ⟨_, rfl, Apart.cons (ne_of_lts (lts_sub hlt ?z1)) (Apart.cons (ne_of_lts (lts_sub hlt1 ?z2)) Apart.nil), .tuple (vs := [_, _]) List.mem_cons_self (.cons (.str _ _) (.cons (.tuple (vs := []) (List.mem_cons_of_mem _ List.mem_cons_self) .nil) .nil))⟩
      case zn => k_extra "my inn"
      case z1 => k_extra "my inn"
      case z2 => k_extra "my inn")) only [↓Box.of]
end
example : True := by
  k_with "out W2" =>
    skip
  trivial
section
theorem dec_told {w : World} {news : Led} {x : Addr} {i : Int} (hx : DecIs news x i) :
   Makes w 3 138 [.ref x] news (fun r add => DatIn add r (.tuple [.int i, .int 0])) := by
  refine Box.out ?_
  simp (disch := k_dflt (
    refine Box2.mk ?_
    unfold Makes Spec
    intro mean mg mb dp un gd cn cs a ccd cl outer A₀ base h₀ L m s Q E B F X N T hk hd9 hu hret
    obtain ⟨d1, h1, h2, t0, t1, t2, t3, n1, m1, m2⟩ := hx
    refine wpAny_call ?_
    k_dflt ktr_enter
    k_steps
    all_goals k_extra "my q"
    rename (∀ p : Addr × Obj, p ∈ news → p.1 < _) => hlt
    refine' hret _ _ _ _ (by assumption) (News.perm (by assumption) (l' := [(_, _)] ++ news) ?zn) ⟨_, rfl, Above.one hlt, .tuple (vs := [_, _]) List.mem_cons_self (.cons (.int _ _) (.cons (.int _ _) .nil))⟩
    case zn => k_extra "my inn")) only [↓Box.of]
theorem mat_parts {w : World} {news : Led} {x d : Addr} {h1 h2 h3 h4 h5 h6 : Int} {t1 t2 t3 t4 t5 t6 : Tok} {n : Nat} {x1 x2 x3 x4 x5 x6 : Addr} (m1 : (x, instObj 377 d) ∈ news)
  (m2 : (d, dictOf [⟨h1, .str (Str.ofString "a") t1, .ref x1⟩, ⟨h2, .str (Str.ofString "b") t2, .ref x2⟩, ⟨h3, .str (Str.ofString "c") t3, .ref x3⟩, ⟨h4, .str (Str.ofString "d") t4, .ref x4⟩, ⟨h5, .str (Str.ofString "e") t5, .ref x5⟩, ⟨h6, .str (Str.ofString "f") t6, .ref x6⟩] n) ∈ news) :
   Spec w 2 369 [.ref x] news (fun r news' => ∃ l, r = .ref l ∧ news' = (l, W.listOf #[.ref x1, .ref x2, .ref x3, .ref x4, .ref x5, .ref x6] 0) :: news ∧ ∀ p ∈ news, p.1 < l) := by
  unfold Spec
  intro mean mg mb dp un gd cn cs a ccd cl outer A₀ base h₀ L m s Q E B F X N T hk hd9 hu hret
  refine wpAny_call ?_
  k_dflt ktr_enter
  k_steps
  all_goals k_extra "my q"
  exact hret _ _ _ _ (by assumption) (by assumption) ⟨_, rfl, rfl, by assumption⟩
end
section
example : True := by
  k_with "=call ref" =>
    ((fail_if_success k_extra "out W4"); ((k_here; (with_reducible show wpAny _ _ (call (Value.ref 138) _) _ _ _); k_dflt (refine' useAdd (dec_told ?hxz127) ?_ ?k1z127 ?k2z127 ?k3z127 ?k4z127 ?k5z127 ?k6z127 ?k7z127 ?k8z127; (case k1z127 => k_asm); (case k2z127 => k_asm); (case k3z127 => k_asm); (case k4z127 => k_asm); (case k5z127 => k_asm); (case k6z127 => first | exact rfl | assumption); (case hxz127 => first | with_reducible assumption | (refine DecIs.mono (by with_reducible assumption) ?_; k_extra "my grow")); (case k7z127 => ktr_room); (case k8z127 => ktr_units); k_whole; intro _ _ _ _ _ _ _ _; (try k_sweep)))))
  k_with "=call ref" =>
    ((fail_if_success k_extra "out W4"); ((k_here; (with_reducible show wpAny _ _ (call (Value.ref 369) _) _ _ _); k_dflt (refine' useOne (mat_parts ?m1z128 ?m2z128) ?_ ?k1z128 ?k2z128 ?k3z128 ?k4z128 ?k5z128 ?k6z128 ?k7z128 ?k8z128; (case k1z128 => k_asm); (case k2z128 => k_asm); (case k3z128 => k_asm); (case k4z128 => k_asm); (case k5z128 => k_asm); (case k6z128 => first | exact rfl | assumption); (case m1z128 => k_extra "my mem"); (case m2z128 => k_extra "my mem"); (case k7z128 => ktr_room); (case k8z128 => ktr_units); k_whole; intro _ _ _ _ _ _; (try k_sweep)))))
  trivial

set_option autoImplicit false in
/-- a list of data behind some turns -/
inductive ListJ (n0 : Led) (ds : List Dat) (i : Nat) (ys : List Value) (nw : Led) : Prop
  | mk (add : Led)
    (_ : nw = add ++ n0)
    (_ : Apart n0 add)
    (_ : DatAll add ys (ds.take i)) : ListJ n0 ds i ys nw
theorem ListJ.zero {n0 : Led} {ds : List Dat} : ListJ n0 ds 0 [] n0 := ⟨[], rfl, Apart.nil, .nil⟩
theorem ListJ.step {n0 a l : Led} {ds : List Dat} {i : Nat} {ys : List Value} {r : Value} {d : Dat} (o : OnTop n0 l a) (hap : Apart n0 a) (hd : DatAll a ys (ds.take i)) (ho : ds[i]? = some d) (hr : DatIn a r d) : ListJ n0 ds (i + 1) (ys ++ [r]) l := by
  refine ⟨a, o.eq, hap, ?_⟩
  rw [List.take_add_one, ho]
  exact hd.append (.one hr)
theorem datall_len {l : Led} {ys : List Value} {ds : List Dat} (h : DatAll l ys ds) : ys.length = ds.length := by
  induction ys generalizing ds with
  | nil => cases h; rfl
  | cons y ys ih => cases h with
    | cons _ h => exact congrArg (· + 1) (ih h)
theorem cons_list {n : Nat} {ys : List Value} (h : ys.length = n + 1) : ∃ a r, ys = a :: r ∧ r.length = n := by
  cases ys with
  | nil => cases h
  | cons a r => exact ⟨a, r, rfl, Nat.succ.inj h⟩
theorem six_list {ys : List Value} (h : ys.length = 6) : ∃ a b c d e f, ys = [a, b, c, d, e, f] := by
  obtain ⟨a, r1, e1, h1⟩ := cons_list h
  obtain ⟨b, r2, e2, h2⟩ := cons_list h1
  obtain ⟨c, r3, e3, h3⟩ := cons_list h2
  obtain ⟨d, r4, e4, h4⟩ := cons_list h3
  obtain ⟨e, r5, e5, h5⟩ := cons_list h4
  obtain ⟨f, r6, e6, h6⟩ := cons_list h5
  exact ⟨a, b, c, d, e, f, by rw [e1, e2, e3, e4, e5, e6, List.eq_nil_of_length_eq_zero h6]⟩
noncomputable def decDat (i : Int) : Dat := .tuple [.int i, .int 0]
inductive DecsAre (all : Led) : List Value → List Dat → Prop
  | nil : DecsAre all [] []
  | cons {x : Addr} {i : Int} {vs : List Value} {ds : List Dat} : DecIs all x i → DecsAre all vs ds → DecsAre all (.ref x :: vs) (decDat i :: ds)
theorem DecsAre.get {all : Led} {vs : List Value} {ds : List Dat} (h : DecsAre all vs ds) : ∀ {i : Nat} {v : Value}, vs[i]? = some v → ∃ x k, v = .ref x ∧ DecIs all x k ∧ ds[i]? = some (.tuple [.int k, .int 0]) := by
  induction h with
  | nil => intro i v hv; cases hv
  | cons a _ ih =>
    intro i v hv
    cases i with
    | zero => cases hv; exact ⟨_, _, rfl, a, rfl⟩
    | succ i => exact ih hv
example : True := by
  k_with "=CompSrc" =>
    ((fail_if_success k_extra "out W4"); ((refine hold_of ?_)))
  trivial

theorem mat_told {w : World} {news : Led} {x : Addr} {i1 i2 i3 i4 i5 i6 : Int} (hx : MatIs news x i1 i2 i3 i4 i5 i6) :
   MakesA w 6 374 [.ref x] news (fun r add => DatIn add r (.tuple [.tuple [.int i1, .int 0], .tuple [.int i2, .int 0], .tuple [.int i3, .int 0], .tuple [.int i4, .int 0], .tuple [.int i5, .int 0], .tuple [.int i6, .int 0]])) := by
  refine Box.out ?_
  simp (disch := k_dflt (
    refine Box2.mk ?_
    unfold MakesA Spec
    intro mean mg mb dp un gd cn cs a ccd cl outer A₀ base h₀ L m s Q E B F X N T hk hd9 hu hret
    obtain ⟨d, h1, h2, h3, h4, h5, h6, t1, t2, t3, t4, t5, t6, n, x1, x2, x3, x4, x5, x6, m1, m2, c1, c2, c3, c4, c5, c6⟩ := hx
    have hdc : DecsAre news [.ref x1, .ref x2, .ref x3, .ref x4, .ref x5, .ref x6] [decDat i1, decDat i2, decDat i3, decDat i4, decDat i5, decDat i6] := .cons c1 (.cons c2 (.cons c3 (.cons c4 (.cons c5 (.cons c6 .nil)))))
    clear c1 c2 c3 c4 c5 c6
    refine wpAny_call ?_
    k_dflt ktr_enter
    k_steps
    all_goals k_extra "my q"
    unfold Hold
    refine LCg.CompSrc.ledger rfl (by assumption) (by assumption) (by k_extra "my mem") (by exact Nat.le_of_ble_eq_true rfl) ?_
    intro g9
    refine comp_inv (ListJ _ [decDat i1, decDat i2, decDat i3, decDat i4, decDat i5, decDat i6]) ListJ.zero ?_ ?_
    · rintro i ys nw v I oI C oC D m₂ h tk E' hi hv ⟨add, rfl, hap, hds⟩ hC hx F5 N5 off ne
      k_extra "my aim"
      obtain ⟨x9, k9, hv9, hc9, hd9'⟩ := hdc.get (i := i) (v := v) (by rw [← hv]; simp)
      subst hv9
      obtain ⟨y9, _, _, _, _, _, _, _, u9, v9⟩ := id hc9
      k_steps
      all_goals k_extra "my q"
      rename Above _ _ => hb9
      rename DatIn _ _ _ => hr9
      refine' ListJ.step ?zo (Apart.app (hb9.apart.sub ?zx) hap) (hds.mono ?zm) hd9' (hr9.mono ?zr)
      case zo => k_extra "my ontop"
      case zx => k_extra "my inn"
      case zm => k_extra "my inn"
      case zr => k_extra "my inn"
    · rintro ys nw ⟨add, rfl, hap, hds⟩
      obtain ⟨v1, v2, v3, v4, v5, v6, rfl⟩ := six_list (datall_len hds)
      k_steps
      all_goals k_extra "my q"
      rename (∀ p : Addr × Obj, p ∈ (_, _) :: _ → p.1 < _) => hlt
      refine' hret _ _ _ _ (by assumption) (News.perm (by assumption) (l' := ((_, _) :: add) ++ news) ?zn) ⟨_, rfl, Apart.cons (ne_of_lts (lts_sub hlt ?z0)) (hap.sub ?z1), .tuple (vs := [_, _, _, _, _, _]) List.mem_cons_self (hds.mono ?z2)⟩
      all_goals k_extra "my inn")) only [↓Box.of]
end
example : True := by
  k_with "out W4" =>
    skip
  trivial
section
theorem due_all {w : World} {S : Int → StrmD} {R : Int → ResD} : ∀ f, DueSpec w S R f
  | 0 => due_zero
  | f + 1 => due_step (due_all f)
set_option autoImplicit false in
/-- the five lists of operations -/
inductive DeedsAre (all : Led) (dl : Addr) : Prop
  | mk (vs : Array Value) (n : Nat)
    (_ : (dl, W.listOf vs n) ∈ all)
    (_ : ∀ k : Int, 0 ≤ k → k < 5 → ∃ l, vs.toList[k.toNat]? = some (.ref l) ∧ DeedIs all l k) : DeedsAre all dl
theorem DeedsAre.mono {all all' : Led} {dl : Addr} (h : DeedsAre all dl) (hs : ∀ p ∈ all, p ∈ all') : DeedsAre all' dl := by
  obtain ⟨vs, n, a, b⟩ := h
  refine ⟨vs, n, hs _ a, fun k h0 h5 => ?_⟩
  obtain ⟨l, e, c⟩ := b k h0 h5
  exact ⟨l, e, c.mono hs⟩
noncomputable def OT.ok : OT → Prop
  | .nil => True
  | .node deed _ _ _ xa xb => 0 ≤ deed ∧ deed < 5 ∧ xa.ok ∧ xb.ok
noncomputable def OT.ht : OT → Nat
  | .nil => 0
  | .node _ _ _ _ xa xb => max xa.ht xb.ht + 1
set_option autoImplicit false in
/-- told of the operations, the first some -/
inductive TellJ (n0 : Led) (os : List Opn) (i : Nat) (ys : List Value) (nw : Led) : Prop
  | mk (add : _)
    (_ : nw = add ++ n0)
    (_ : Apart n0 add)
    (_ : DatAll add ys ((os.take i).map opDat)) : TellJ n0 os i ys nw
theorem TellJ.zero {n0 : Led} {os : List Opn} : TellJ n0 os 0 [] n0 := ⟨[], rfl, Apart.nil, .nil⟩
theorem TellJ.succ {n0 a9 add : Led} {os : List Opn} {i : Nat} {ys : List Value} {r : Value} {o : Opn} (ha : Apart n0 add) (hd : DatAll add ys ((os.take i).map opDat)) (ho : os[i]? = some o) (h9 : Apart (add ++ n0) a9) (hr : DatIn a9 r (opDat o)) : TellJ n0 os (i + 1) (ys ++ [r]) (a9 ++ (add ++ n0)) := by
  refine ⟨a9 ++ add, (List.append_assoc ..).symm, ha.trans h9, ?_⟩
  rw [List.take_add_one, ho, List.map_append]
  exact (hd.mono fun p hp => List.mem_append_right _ hp).append (.one (hr.mono fun p hp => List.mem_append_left _ hp))
noncomputable def deedDat (d : Int) : Dat := .list ((deedOps d).map opDat)
noncomputable def wordNo (s : Str) : Dat → Int
  | .tuple [.tuple [_, .str u], _] => if u = Str.ofString "A" then 0 else 2
  | _ => if s = Str.ofString "q" then 3 else 1
noncomputable def deedNo : Dat → Int
  | .list [.tuple [.str s, x], _] => wordNo s x
  | _ => 4
theorem deedNo_of {a : Int} (ha : 0 ≤ a) (ha5 : a < 5) : deedNo (deedDat a) = a := by
  have h1 : a = 0 ∨ a = 1 ∨ a = 2 ∨ a = 3 ∨ a = 4 := by omega
  rcases h1 with rfl | rfl | rfl | rfl | rfl <;> rfl
theorem deedDat_inj {a b : Int} (ha : 0 ≤ a) (ha5 : a < 5) (hb : 0 ≤ b) (hb5 : b < 5) (h : deedDat a = deedDat b) : a = b :=
  (deedNo_of ha ha5).symm.trans ((congrArg deedNo h).trans (deedNo_of hb hb5))
theorem deedDat_ok (d : Int) : kqdOk 4 (deedDat d) = true := by
  unfold deedDat deedOps
  split <;> decide +kernel
section
variable {prog : Program} {w : World} {A : Around} {E : Value → Shared → Prop} {s : Shared} {h₀ : Heap} {L I C D c : Addr} {m : Str → Option Value} {all rest l add : Led} {oI oC oD o : Obj}
theorem off3_appA (hI : (I, oI) ∈ l) (hC : (C, oC) ∈ l) (hD : (D, oD) ∈ l) (ha : Apart l add) (h : LCg.Off3 I C D rest) : LCg.Off3 I C D (add ++ rest) :=
  LCg.Off3.of fun p hp => (List.mem_append.mp hp).elim (fun h1 => ⟨ha.ne hI p h1, ha.ne hC p h1, ha.ne hD p h1⟩) fun h1 => h.mem p h1
theorem store_cellP {cs : Scope} {cn : Str} {a : Addr} {ccd v : Value} {cl : List (Str × Addr)} {x : Str} {M : Model} {v₀ : Option Value} {Q : Unit → Shared → Prop} (F : Fr h₀ L s.heap m) (N : News h₀ L s.heap all) (hc : cl.lookup x = some c) (hl : Pull c o all rest) (off : ∀ p ∈ rest, p.1 ≠ c) (hd : o.data = .cell v₀)
    (h : ∀ h' o', Fr h₀ L h' m → News h₀ L h' ((c, o') :: rest) → o'.data = .cell (some v) → Q () { s with heap := h' })
    (hk : cs.kind = .function := by rfl) (hx : (envX cn cs L a ccd cl).kindOf x = some .cell := by rfl) : wpAny M A (storeName (envX cn cs L a ccd cl) x v) Q E s :=
  storeX_C F (News.pull N hl) hc (UpdF.head off) hd h hk hx
end
set_option autoImplicit false in
/-- the search of the deed behind its first turns -/
inductive DeedJ (n2 : Led) (deed : Int) (i : Nat) (ys : List Value) (nw : Led) : Prop
  | mk (add2 : Led)
    (_ : nw = add2 ++ n2)
    (_ : Apart n2 add2)
    (_ : (((i : Int) ≤ deed ∧ ys = []) ∨ (deed < (i : Int) ∧ ∃ t : Tok, ys = [.int deed t]))) : DeedJ n2 deed i ys nw
theorem DeedJ.zero {n2 : Led} {deed : Int} (h : 0 ≤ deed) : DeedJ n2 deed 0 [] n2 := ⟨[], rfl, Apart.nil, .inl ⟨h, rfl⟩⟩
theorem DeedJ.take {n2 a l : Led} {deed : Int} {i : Nat} {ys : List Value} {t : Tok} (o : OnTop n2 l a) (hap : Apart n2 a) (he : 0 + (i : Int) = deed) (h : ((i : Int) ≤ deed ∧ ys = []) ∨ (deed < (i : Int) ∧ ∃ t : Tok, ys = [.int deed t])) : DeedJ n2 deed (i + 1) (ys ++ [.int (0 + (i : Int)) t]) l := by
  refine ⟨a, o.eq, hap, .inr ⟨by omega, t, ?_⟩⟩
  rcases h with ⟨_, rfl⟩ | ⟨q, _⟩
  · rw [he]; rfl
  · omega
theorem DeedJ.skip {n2 a l : Led} {deed : Int} {i : Nat} {ys : List Value} (o : OnTop n2 l a) (hap : Apart n2 a) (he : 0 + (i : Int) ≠ deed) (h : ((i : Int) ≤ deed ∧ ys = []) ∨ (deed < (i : Int) ∧ ∃ t : Tok, ys = [.int deed t])) : DeedJ n2 deed (i + 1) ys l := by
  refine ⟨a, o.eq, hap, ?_⟩
  rcases h with ⟨q, rfl⟩ | ⟨q, r⟩
  · exact .inl ⟨by omega, rfl⟩
  · exact .inr ⟨by omega, r⟩
theorem deeds_eq {prog : Program} {w : World} {A : Around} {E : Value → Shared → Prop} {s : Shared} {h₀ : Heap} {L : Addr} {news : Led} {Q : Value → Shared → Prop} {u v : Value} {a b : Int} (N : News h₀ L s.heap news) (da : DatIn news u (deedDat a)) (db : DatIn news v (deedDat b)) (ha : 0 ≤ a) (ha5 : a < 5) (hb : 0 ≤ b) (hb5 : b < 5) (hu : A.units + 64 < cLine)
    (ht : a = b → Q (.bool true) s) (hf : a ≠ b → Q (.bool false) s) : wpAny (model prog w) A (compareOp .Eq u v) Q E s := by
  classical
  refine dat_eq N da (fun _ h => h) db (fun _ h => h) (deedDat_ok a) (deedDat_ok b) (by decide) (by decide) hu ?_
  by_cases hq : a = b
  · have h2 : deedDat a = deedDat b := congrArg _ hq
    rw [decide_eq_true h2]; exact ht hq
  · have h2 : ¬ deedDat a = deedDat b := fun h => hq (deedDat_inj ha ha5 hb hb5 h)
    rw [decide_eq_false h2]; exact hf hq
theorem Spec.mono' {w : World} {n : Nat} {f : Addr} {vs : List Value} {news : Led} {R R' : Value → Led → Prop} (S : Spec w n f vs news R) (h : ∀ r n', R r n' → R' r n') : Spec w n f vs news R' := by
  intro mean mg mb dp un gd cn cs a ccd cl outer A₀ base h₀ L m s Q E B F X N T hk hd hu hret
  exact S.use B F X N T hk hd hu fun r n' h' tk' F' N' hr => hret r n' h' tk' F' N' (h r n' hr)
theorem dec_tup {w : World} {news : Led} {x : Addr} {i : Int} (hx : DecIs news x i) :
   Spec w 3 138 [.ref x] news (fun r n' => ∃ add, n' = add ++ news ∧ Above news add ∧ ∃ t n u1 u2, r = .ref t ∧ (t, tupOf #[.int i u1, .int 0 u2] n) ∈ add) := by
  refine Spec.mono' (dec_told hx) ?_
  rintro r n' ⟨add, e, hab, hd⟩
  refine ⟨add, e, hab, hid ?_⟩
  clear e hab
  intro P hP
  cases hd with
  | tuple hm hv =>
    replace hP := fun t n u1 u2 a b => hP ⟨t, n, u1, u2, a, b⟩
    cases hv with
    | cons q1 hv => cases hv with
      | cons q2 hv => cases hv; cases q1; cases q2; exact hP _ _ _ _ rfl hm
theorem mat_tup {w : World} {news : Led} {x : Addr} {shift : Int} (hx : MatIs news x 1 0 0 1 shift 0) :
   Spec w 6 374 [.ref x] news (fun r n' => ∃ add, n' = add ++ news ∧ Apart news add ∧ ∃ t, r = .ref t ∧ DatIn add (.ref t) (.tuple [.tuple [.int 1, .int 0], .tuple [.int 0, .int 0], .tuple [.int 0, .int 0], .tuple [.int 1, .int 0], .tuple [.int shift, .int 0], .tuple [.int 0, .int 0]])) := by
  refine Spec.mono' (mat_told hx) ?_
  rintro r n' ⟨add, e, hab, hd⟩
  refine ⟨add, e, hab, ?_⟩
  cases hd with
  | tuple hm hv => exact ⟨_, rfl, .tuple hm hv⟩
theorem pairK_len {a b : Option Value} : (pairK a b).length = a.toList.length + b.toList.length := by cases a <;> cases b <;> rfl
theorem pairK_lt {a b : Option Value} : (pairK a b).length < 64 := by rw [pairK_len]; cases a <;> cases b <;> simp
theorem pairK_sort {a b : Option Value} {ss : List Str} (hp : ss.Perm ((pairK a b).map (·.1))) (hs : sortedS ss = true) : ss = (pairK a b).map (·.1) := by
  cases a <;> cases b
  · exact List.perm_nil.mp hp
  · exact List.perm_singleton.mp hp
  · exact List.perm_singleton.mp hp
  · rcases perm_pair hp with rfl | rfl
    · rfl
    · exact absurd hs (show ¬ sortedS [sB, sA] = true by decide)
theorem strs_get {vs : List Value} {ss : List Str} (h : PyProof.Rows.StrsAre vs ss) : ∀ {i : Nat} {v : Value}, vs[i]? = some v → ∃ (s : Str) (t : Tok), v = .str s t ∧ ss[i]? = some s := by
  induction vs generalizing ss with
  | nil => intro i v e; simp at e
  | cons a vs ih =>
    cases h with
    | cons s t h =>
      intro i v e
      cases i with
      | zero => simp only [List.getElem?_cons_zero, Option.some.injEq] at e; exact ⟨s, t, e.symm, rfl⟩
      | succ i => simp only [List.getElem?_cons_succ] at e; exact ih h e
theorem pair_item {a b : Option Value} {i : Nat} {s : Str} (h : ((pairK a b).map (·.1))[i]? = some s) : (∃ v, s = sA ∧ a = some v ∧ valueAt (pairK a b) s = some v ∧ i = 0) ∨ (∃ v, s = sB ∧ b = some v ∧ valueAt (pairK a b) s = some v ∧ i = (if a.isSome then 1 else 0)) := by
  cases a with
  | none =>
    cases b with
    | none => exact absurd h (by simp [pairK, addK])
    | some v =>
      rcases i with _ | i
      · exact .inr ⟨v, (Option.some.inj h).symm, rfl, by rw [← Option.some.inj h]; rfl, rfl⟩
      · exact absurd h (by simp [pairK, addK, stored])
  | some u =>
    cases b with
    | none =>
      rcases i with _ | i
      · exact .inl ⟨u, (Option.some.inj h).symm, rfl, by rw [← Option.some.inj h]; rfl, rfl⟩
      · exact absurd h (by simp [pairK, addK, stored])
    | some v =>
      rcases i with _ | _ | i
      · exact .inl ⟨u, (Option.some.inj h).symm, rfl, by rw [← Option.some.inj h]; rfl, rfl⟩
      · exact .inr ⟨v, (Option.some.inj h).symm, rfl, by rw [← Option.some.inj h]; rfl, rfl⟩
      · have e2 : pairK (some u) (some v) = [(sA, u), (sB, v)] := rfl
        rw [e2] at h
        exact absurd h (by simp)
theorem font_item {fa fb : Option Int} {va vb : Option Value} (ha : IntO fa va) (hb : IntO fb vb) {i : Nat} {s : Str} (h : ((pairK va vb).map (·.1))[i]? = some s) :
    ∃ (n : Int) (t : Tok), valueAt (pairK va vb) s = some (.int n t) ∧ (pairF "A" fa ++ pairF "B" fb)[i]? = some (.tuple [.str s, .int n]) := by
  rcases pair_item h with ⟨v, rfl, rfl, e, rfl⟩ | ⟨v, rfl, rfl, e, rfl⟩
  · cases ha
    exact ⟨_, _, e, rfl⟩
  · cases hb
    refine ⟨_, _, e, ?_⟩
    cases ha <;> rfl
theorem font_len {fa fb : Option Int} {va vb : Option Value} (ha : IntO fa va) (hb : IntO fb vb) : ((pairK va vb).map (·.1)).length = (pairF "A" fa ++ pairF "B" fb).length := by
  cases ha <;> cases hb <;> rfl
theorem SheetV.ref {w : World} {core : Led} {T : OT} {v : Value} (hT : SheetV w core T (some v)) : ∃ y d, v = .ref y ∧ T.dat = some d := by
  cases T with
  | nil => cases hT
  | node => obtain ⟨x, d, l, fd, xd, mt, h1, h2, h3, h4, t1, t2, t3, t4, n, fo, xo, va, vb, ya, yb, e, _⟩ := hT; exact ⟨x, _, Option.some.inj e, rfl⟩
theorem SheetV.nodat {w : World} {core : Led} {T : OT} (hT : SheetV w core T none) : T.dat = none := by
  cases T with
  | nil => rfl
  | node => obtain ⟨x, d, l, fd, xd, mt, h1, h2, h3, h4, t1, t2, t3, t4, n, fo, xo, va, vb, ya, yb, e, _⟩ := hT; cases e
theorem form_item {w : World} {core : Led} {xa xb : OT} {ya yb : Option Value} (ha : SheetV w core xa ya) (hb : SheetV w core xb yb) {i : Nat} {s : Str} (h : ((pairK ya yb).map (·.1))[i]? = some s) :
    ∃ (y : Addr) (T : OT) (d : Dat), valueAt (pairK ya yb) s = some (.ref y) ∧ SheetV w core T (some (.ref y)) ∧ (T = xa ∨ T = xb) ∧ T.dat = some d ∧ (pairX "A" xa.dat ++ pairX "B" xb.dat)[i]? = some (.tuple [.str s, d]) := by
  rcases pair_item h with ⟨v, hs, hy, e, hi⟩ | ⟨v, hs, hy, e, hi⟩
  · rw [hy] at ha
    obtain ⟨y, d, hv, hd⟩ := ha.ref
    rw [hv] at e ha
    exact ⟨y, xa, d, e, ha, .inl rfl, hd, by rw [hd, hs, hi]; rfl⟩
  · rw [hy] at hb
    obtain ⟨y, d, hv, hd⟩ := hb.ref
    rw [hv] at e hb
    refine ⟨y, xb, d, e, hb, .inr rfl, hd, ?_⟩
    rw [hd, hs]
    clear h e
    cases ya with
    | none => rw [ha.nodat, hi]; rfl
    | some u => obtain ⟨_, d2, _, hd2⟩ := ha.ref; rw [hd2, hi]; rfl
theorem form_one {w : World} {core : Led} {T : OT} {y : Option Value} {x : String} (h : SheetV w core T y) : y.toList.length = (pairX x T.dat).length := by
  cases y with
  | none => rw [h.nodat]; rfl
  | some u => obtain ⟨_, d, _, hd⟩ := h.ref; rw [hd]; rfl
theorem form_len {w : World} {core : Led} {xa xb : OT} {ya yb : Option Value} (ha : SheetV w core xa ya) (hb : SheetV w core xb yb) : ((pairK ya yb).map (·.1)).length = (pairX "A" xa.dat ++ pairX "B" xb.dat).length := by
  rw [List.length_map, pairK_len, List.length_append, form_one (x := "A") ha, form_one (x := "B") hb]
/-- _law_told, so many levels high -/
noncomputable def ToldSpec (w : World) (f : Nat) : Prop := ∀ (core news : Led) (x dl : Addr) (T : OT) (d : Dat), SubL core news → f ≤ 10 → SheetV w core T (some (.ref x)) → DeedsAre core dl → T.ok → T.ht ≤ f → T.dat = some d →
  MakesA w (12 + 4 * f) 518 [.ref x, .ref dl] news (fun r add => DatIn add r d)
theorem told_call {w : World} {f : Nat} {core news : Led} {x dl : Addr} {T : OT} {d : Dat} (ih : ToldSpec w f) (hsub : SubL core news) (hf : f ≤ 10) (hT : SheetV w core T (some (.ref x))) (hD : DeedsAre core dl) (hok : T.ok) (hht : T.ht ≤ f) (hd : T.dat = some d) :
  MakesA w (12 + 4 * f) 518 [.ref x, .ref dl] news (fun r add => DatIn add r d) := ih core news x dl T d hsub hf hT hD hok hht hd
theorem strs_len {vs : List Value} {ss : List Str} (h : PyProof.Rows.StrsAre vs ss) : vs.length = ss.length := by
  induction vs generalizing ss with
  | nil => cases h; rfl
  | cons a vs ih => cases h with
    | cons s t h => simp [ih h]
theorem strs_size {vs : Array Value} {a b : Option Value} (h : PyProof.Rows.StrsAre vs.toList ((pairK a b).map (·.1))) : vs.size ≤ sizeLine := by
  have h1 := strs_len h
  have h2 := pairK_lt (a := a) (b := b)
  rw [List.length_map, Array.length_toList] at h1
  rw [sizeLine_eq, h1]; omega
theorem strs_take {vs : Array Value} {ss : List Str} {ds : List Dat} (h : PyProof.Rows.StrsAre vs.toList ss) (hl : ss.length = ds.length) : ds.take vs.size = ds := by
  have h1 := strs_len h
  rw [Array.length_toList] at h1
  exact List.take_of_length_le (by omega)
theorem dat_same {prog : Program} {w : World} {A : Around} {E : Value → Shared → Prop} {s : Shared} {h₀ : Heap} {L : Addr} {news : Led} {Q : Value → Shared → Prop} {u v : Value} {d : Dat} {n : Nat} (N : News h₀ L s.heap news) (da : DatIn news u d) (db : DatIn news v d) (hd : kqdOk n d = true) (hn : n ≤ 64) (hu : A.units + 64 < cLine) (h : Q (.bool true) s) : wpAny (model prog w) A (compareOp .Eq u v) Q E s := by
  classical
  refine dat_eq N da (fun _ h => h) db (fun _ h => h) hd hd hn hn hu ?_
  rw [decide_eq_true rfl]; exact h
theorem matDat_ok (i : Int) : kqdOk 3 (.tuple [.tuple [.int 1, .int 0], .tuple [.int 0, .int 0], .tuple [.int 0, .int 0], .tuple [.int 1, .int 0], .tuple [.int i, .int 0], .tuple [.int 0, .int 0]]) = true := by simp [kqdOk]
end
example : True := by
  k_with "=call ref" =>
    (k_here; (with_reducible show wpAny _ _ (call (Value.ref 518) _) _ _ _); k_dflt (refine' useAdd (told_call ?ihz130 ?hsubz130 ?hfz130 ?hTz130 ?hDz130 ?hokz130 ?hhtz130 ?hdz130) ?_ ?k1z130 ?k2z130 ?k3z130 ?k4z130 ?k5z130 ?k6z130 ?k7z130 ?k8z130; (case k1z130 => k_asm); (case k2z130 => k_asm); (case k3z130 => k_asm); (case k4z130 => k_asm); (case k5z130 => k_asm); (case k6z130 => first | exact rfl | assumption); (case ihz130 => with_reducible assumption); (case hTz130 => with_reducible assumption); (case hsubz130 => exact SubL.ext (by with_reducible assumption) (by k_extra "my inn")); (case hfz130 => omega); (case hDz130 => with_reducible assumption); (case hokz130 => with_reducible assumption); (case hhtz130 => with_reducible assumption); (case hdz130 => with_reducible assumption); (case k7z130 => ktr_room); (case k8z130 => ktr_units); k_whole; intro _ _ _ _ _ _ _ _; (try k_sweep)))
  trivial
section
example : True := by
  k_with "=call ref" =>
    ((fail_if_success k_extra "out W6"); ((k_here; (with_reducible show wpAny _ _ (call (Value.ref 414) _) _ _ _); k_dflt (refine' useAdd (op_told ?hxz131) ?_ ?k1z131 ?k2z131 ?k3z131 ?k4z131 ?k5z131 ?k6z131 ?k7z131 ?k8z131; (case k1z131 => k_asm); (case k2z131 => k_asm); (case k3z131 => k_asm); (case k4z131 => k_asm); (case k5z131 => k_asm); (case k6z131 => first | exact rfl | assumption); (case hxz131 => first | with_reducible assumption | (refine OpIs.mono (by with_reducible assumption) ?_; k_extra "my grow")); (case k7z131 => ktr_room); (case k8z131 => ktr_units); k_whole; intro _ _ _ _ _ _ _ _; (try k_sweep)))))
  k_with "=call ref" =>
    ((fail_if_success k_extra "out W6"); ((k_here; (with_reducible show wpAny _ _ (call (Value.ref 138) _) _ _ _); k_dflt (refine' useTup (dec_tup ?hxz132) ?_ ?k1z132 ?k2z132 ?k3z132 ?k4z132 ?k5z132 ?k6z132 ?k7z132 ?k8z132; (case k1z132 => k_asm); (case k2z132 => k_asm); (case k3z132 => k_asm); (case k4z132 => k_asm); (case k5z132 => k_asm); (case k6z132 => first | exact rfl | assumption); (case hxz132 => first | with_reducible assumption | (refine DecIs.mono (by with_reducible assumption) ?_; k_extra "my grow")); (case k7z132 => ktr_room); (case k8z132 => ktr_units); k_whole; intro _ _ _ _ _ _ _ _ _ _ _; (try k_sweep)))))
  k_with "=call ref" =>
    ((fail_if_success k_extra "out W6"); ((k_here; (with_reducible show wpAny _ _ (call (Value.ref 374) _) _ _ _); k_dflt (refine' useMakes (mat_tup ?hxz133) ?_ ?k1z133 ?k2z133 ?k3z133 ?k4z133 ?k5z133 ?k6z133 ?k7z133 ?k8z133; (case k1z133 => k_asm); (case k2z133 => k_asm); (case k3z133 => k_asm); (case k4z133 => k_asm); (case k5z133 => k_asm); (case k6z133 => first | exact rfl | assumption); (case hxz133 => first | with_reducible assumption | (refine MatIs.mono (by with_reducible assumption) ?_; k_extra "my grow")); (case k7z133 => ktr_room); (case k8z133 => ktr_units); k_whole; intro _ _ _ _ _ _ _ _; (try k_sweep)))))
  k_with "=CompSrc" =>
    ((fail_if_success k_extra "out W6"); ((refine hold_of ?_)))
  k_with "=CompSrcT" =>
    ((fail_if_success k_extra "out W6"); ((refine hold_of ?_)))
  k_with "my off3" =>
    ((fail_if_success k_extra "out W6"); ((refine' off3_appA ?a9z136 ?b9z136 ?c9z136 ?d9z136 ?e9z136; (case d9z136 => with_reducible assumption); (case a9z136 => k_extra "my mem"); (case b9z136 => k_extra "my mem"); (case c9z136 => k_extra "my mem"); (case e9z136 => k_extra "my off3"))))
  k_with "=storeName" =>
    ((fail_if_success k_extra "out W6"); ((k_here; (with_reducible show wpAny _ _ (storeName _ (Str.ofString "words") _) _ _ _); refine hold_of ?_)))
  k_with "=compareOp Eq ref ref" =>
    ((fail_if_success k_extra "out W6"); ((k_here; (with_reducible show wpAny _ _ (compareOp CmpOp.Eq (Value.ref _) (Value.ref _)) _ _ _); refine hold_of ?_)))
  k_with "=call builtin:sorted" =>
    ((fail_if_success k_extra "out W6"); ((k_here; (with_reducible show wpAny _ _ (call (Value.builtin "sorted") [Value.ref _]) _ _ _); k_dflt (refine' sorted_dict ?hhz139 ?Fz139 ?Nz139 ?hmz139 ?hoz139 ?loz139 ?h64z139 ?_; (case hhz139 => rfl); (case Fz139 => k_asm); (case Nz139 => k_asm); (case hmz139 => k_extra "my mem"); (case hoz139 => with_reducible assumption); (case loz139 => with_reducible assumption); (case h64z139 => exact pairK_lt)); intro _ _ _ _ _ _ _ _ _ _ _ _; (try k_sweep))))
  trivial

theorem told_zero {w : World} : ToldSpec w 0 := by
  intro core news x dl T d hsub hf hT hD hok hht hd
  cases T with
  | nil => cases hd
  | node => simp [OT.ht] at hht
set_option autoImplicit false in
noncomputable def QW6_1 (news : Led) (L' : Addr) (o2 : Obj) (o3 : Obj) (o1 : Obj) (deed : Int) (m' : Str → Option Value) (all' : Led) : Prop := ∀ G9 : Prop, (∀ (wl : Addr) (ws : List Value) (nw : Nat) (oc : Obj) (add : Led),
    (m' = locs []) →
    (all' = (L' + 1 + 1 + 1, oc) :: (wl, W.listOf ws.toArray nw) :: (add ++ (L' + 1 + 1, o2) :: (L' + 1, o3) :: news)) →
    (oc.data = .cell (some (.ref wl))) →
    (Apart ((L' + 1 + 1 + 1, o1) :: (L' + 1 + 1, o2) :: (L' + 1, o3) :: news) ((wl, W.listOf ws.toArray nw) :: add)) →
    (DatAll add ws ((deedOps deed).map opDat)) → G9) → G9
set_option autoImplicit false in
noncomputable def QW6_2 (news : Led) (L' : Addr) (o2 : Obj) (o3 : Obj) (deed : Int) (td : Tok) (fa : Option Int) (fb : Option Int) (m' : Str → Option Value) (all' : Led) : Prop := ∀ G9 : Prop, (∀ (fl : Addr) (fvs : List Value) (fn : Nat) (tl : Led),
    (m' = locs [("fonts", .ref fl), ("deed", .int deed td)]) →
    (all' = (fl, W.listOf fvs.toArray fn) :: (tl ++ (L' + 1 + 1, o2) :: (L' + 1, o3) :: news)) →
    (Apart ((L' + 1 + 1, o2) :: (L' + 1, o3) :: news) ((fl, W.listOf fvs.toArray fn) :: tl)) →
    (DatAll tl fvs (pairF "A" fa ++ pairF "B" fb)) → G9) → G9
set_option autoImplicit false in
noncomputable def QW6_3 (tl : Led) (news : Led) (fl : Addr) (L' : Addr) (o2 : Obj) (o3 : Obj) (xa : OT) (xb : OT) (deed : Int) (fn : Nat) (td : Tok) (fvs : List Value) (m' : Str → Option Value) (all' : Led) : Prop := ∀ G9 : Prop, (∀ (xl : Addr) (xvs : List Value) (xn : Nat) (tx : Led),
    (m' = locs [("forms", .ref xl), ("fonts", .ref fl), ("deed", .int deed td)]) →
    (all' = (xl, W.listOf xvs.toArray xn) :: (tx ++ (fl, W.listOf fvs.toArray fn) :: (tl ++ (L' + 1 + 1, o2) :: (L' + 1, o3) :: news))) →
    (Apart ((fl, W.listOf fvs.toArray fn) :: (tl ++ (L' + 1 + 1, o2) :: (L' + 1, o3) :: news)) ((xl, W.listOf xvs.toArray xn) :: tx)) →
    (DatAll tx xvs (pairX "A" xa.dat ++ pairX "B" xb.dat)) → G9) → G9
set_option autoImplicit false in
noncomputable def QW6_4 (tx : Led) (tl : Led) (news : Led) (xl : Addr) (fl : Addr) (L' : Addr) (o2 : Obj) (o3 : Obj) (deed : Int) (shift : Int) (xn : Nat) (fn : Nat) (td : Tok) (xvs : List Value) (fvs : List Value) (m' : Str → Option Value) (all' : Led) : Prop := ∀ G9 : Prop, (∀ (ts : Addr) (n5 : Nat) (u1 u2 : Tok) (as : Led),
    (m' = locs [("shift", .ref ts), ("forms", .ref xl), ("fonts", .ref fl), ("deed", .int deed td)]) →
    (all' = as ++ (xl, W.listOf xvs.toArray xn) :: (tx ++ (fl, W.listOf fvs.toArray fn) :: (tl ++ (L' + 1 + 1, o2) :: (L' + 1, o3) :: news))) →
    (Above ((xl, W.listOf xvs.toArray xn) :: (tx ++ (fl, W.listOf fvs.toArray fn) :: (tl ++ (L' + 1 + 1, o2) :: (L' + 1, o3) :: news))) as) →
    ((ts, tupOf #[.int shift u1, .int 0 u2] n5) ∈ as) → G9) → G9
theorem told_step {w : World} {f : Nat} (ih : ToldSpec w f) : ToldSpec w (f + 1) := by
  refine Box.out ?_
  simp (disch := k_dflt (
    refine Box2.mk ?_
    intro core news x dl T d hsub hf hT hD hok hht hd
    cases T with
    | nil => cases hd
    | node deed shift fa fb xa xb =>
    cases hd
    obtain ⟨x', d1, l, fd, xd, mt, h1, h2, h3, h4, t1, t2, t3, t4, n1, fo, xo, va, vb, ya, yb, e0, a1, a2, a3, ⟨a4, a5, a6⟩, a7, a8, ⟨a9, a10, a11⟩, a12, a13, a14⟩ := hT
    cases e0
    obtain ⟨ok1, ok2, ok3, ok4⟩ := hok
    unfold MakesA Spec
    intro mean mg mb dp un gd cn cs a ccd cl outer A₀ base h₀ L m s Q E B F X N T hk hd9 hu hret
    obtain ⟨ovs, on, om, oops⟩ := a3
    have om' := hsub.sub _ om
    refine wpAny_call ?_
    k_dflt k_extra "my enterC"
    rename_i g' L' h' tk' FG' F' B' X' T' o1 o2 o3 c1 c2 c3
    replace c1 := cell_cast c1 (v' := none) (by kernel_rfl)
    replace c2 := cell_cast c2 (v' := some (.ref dl)) (by kernel_rfl)
    replace c3 := cell_cast c3 (v' := some (.ref x)) (by kernel_rfl)
    replace F' := fr_cast F' (m' := locs []) (by kernel_rfl)
    have nC23 : @Ne Nat (L' + 1 + 1) (L' + 1 + 1 + 1) := Nat.ne_of_lt (Nat.lt_succ_self _)
    have nC13 : @Ne Nat (L' + 1) (L' + 1 + 1 + 1) := Nat.ne_of_lt (Nat.lt_succ_of_lt (Nat.lt_succ_self _))
    have a1' := hsub.sub _ a1
    have a2' := hsub.sub _ a2
    have hoffC1 : ∀ p ∈ news, p.1 ≠ L' + 1 := fun p hp => Nat.ne_of_lt (Nat.lt_succ_of_lt (l1 p hp))
    have hoffC2 : ∀ p ∈ news, p.1 ≠ L' + 1 + 1 := fun p hp => Nat.ne_of_lt (Nat.lt_succ_of_lt (Nat.lt_succ_of_lt (l1 p hp)))
    have hoffC3 : ∀ p ∈ news, p.1 ≠ L' + 1 + 1 + 1 := fun p hp => Nat.ne_of_lt (Nat.lt_succ_of_lt (Nat.lt_succ_of_lt (Nat.lt_succ_of_lt (l1 p hp))))
    with_reducible refine seg 1 F' (QW6_1 news L' o2 o3 o1 deed) ?_ ?_
    · k_extra "my o"
      dsimp only [List.take]
      k_steps
      all_goals k_extra "my q"
      unfold Hold
      have hlen5 := oops.length
      have hsz5 : ovs.size ≤ sizeLine := by
        have := deed_len deed
        rw [sizeLine_eq, ← Array.length_toList, hlen5]; omega
      have om5 : (l, W.listOf ovs on) ∈ (L' + 1 + 1 + 1, o1) :: (L' + 1 + 1, o2) :: (L' + 1, o3) :: news := by k_extra "my mem"
      refine LCg.CompSrc.ledger rfl (by assumption) (by assumption) om5 hsz5 ?_
      intro g9
      refine comp_inv (TellJ ((L' + 1 + 1 + 1, o1) :: (L' + 1 + 1, o2) :: (L' + 1, o3) :: news) (deedOps deed)) TellJ.zero ?_ ?_
      · rintro i ys nw v I oI C oC D m₂ h tk E' hi hv ⟨add, rfl, hap, hds⟩ hC hx F5 N5 off ne
        k_extra "my aim"
        obtain ⟨x5, o5, rfl, ho5, hop⟩ := oops.get (i := i) (v := v) (by rw [← hv]; simp)
        obtain ⟨u1, u2, u3, u4, u5, u6, u7, u8, u9, u10, u11⟩ := id hop
        k_steps
        all_goals k_extra "my q"
        exact TellJ.succ hap hds ho5 (Apart.sub (by assumption) (by k_extra "my inn")) (by assumption)
      · rintro ys nw ⟨add, rfl, hap, hds⟩
        k_steps
        all_goals k_extra "my q"
        unfold Hold
        rename LCg.Off1 _ _ => o9
        have hoD := off1_mem o9
        refine' store_cellP (by assumption) (by assumption) ?hc (o := o1) ?hl ?off c1 ?_
        case hc => exact rfl
        case hl => k_extra "my pull"
        case off => exact all_cons (Ne.symm (hoD (L' + 1 + 1 + 1, o1) (by k_extra "my mem"))) (List.forall_mem_append.mpr ⟨hap.ne List.mem_cons_self, all_cons nC23 (all_cons nC13 hoffC3)⟩)
        intro h8 o8 F8 N8 hd8
        (try k_sweep)
        k_steps
        all_goals k_extra "my q"
        have htk : (deedOps deed).take ovs.size = deedOps deed := List.take_of_length_le (by rw [← hlen5]; simp)
        rw [htk] at hds
        refine' Mid.intro (by assumption) (by assumption) (fun _ kk9 => kk9 _ _ _ _ _ rfl rfl hd8 (Apart.cons (fun q hq => hoD q ?zq1) hap) hds)
        case zq1 => revert q; k_extra "my inn"
    clear F' N'
    intro m' all' h2 tk2 F2 N2 hQ9
    refine hQ9 _ ?_
    clear hQ9
    rintro wl ws nw oc add rfl rfl hoc hapW hdsW
    dsimp only [List.drop]
    with_reducible refine seg 1 F2 (fun m' all' => ∃ (td : Tok), m' = locs [("deed", .int deed td)] ∧ all' = (L' + 1 + 1, o2) :: (L' + 1, o3) :: news) ?_ ?_
    · k_extra "my o"
      dsimp only [List.take]
      k_steps
      all_goals k_extra "my q"
      unfold Hold
      rename IsRange _ _ _ _ _ _ _ _ => hr9
      refine LCt.CompSrcT.range (n := 5) rfl (by assumption) (by assumption) hr9 (by decide) rfl (by rw [sizeLine_eq]; decide) ?_
      intro g9
      obtain ⟨dvs, dn, dm, dall⟩ := id hD
      have hoffCap : ∀ p ∈ add, p.1 ≠ L' + 1 + 1 + 1 := fun p hp => hapW.ne List.mem_cons_self p (List.mem_cons_of_mem _ hp)
      refine comp_invT (DeedJ ((L' + 1 + 1 + 1, oc) :: (wl, W.listOf ws.toArray nw) :: (add ++ (L' + 1 + 1, o2) :: (L' + 1, o3) :: news)) deed) (DeedJ.zero ok1) ?_ ?_
      · rintro i ys nw' v I oI C oC D m₂ h tk E' hi hv ⟨add2, rfl, hap2, hys⟩ hC hx F5 N5 off ne
        k_extra "my aim"
        obtain ⟨tv, rfl⟩ := hv
        obtain ⟨lk, hlk, ⟨kvs, kn, km, kops⟩⟩ := dall (0 + (i : Int)) (by omega) (by omega)
        k_steps
        all_goals k_extra "my q"
        unfold Hold
        have hlen6 := kops.length
        have hsz6 : kvs.size ≤ sizeLine := by
          have := deed_len (0 + (i : Int))
          rw [sizeLine_eq, ← Array.length_toList, hlen6]; omega
        have hapI : ∀ p ∈ add2, p.1 ≠ L' + 1 + 1 + 1 := hap2.ne List.mem_cons_self
        refine LCg.CompSrc.ledger (its := kvs) (k := kn) rfl (by assumption) (by assumption) ?zm6 hsz6 ?_
        case zm6 => k_extra "my mem"
        intro g10
        refine comp_inv (TellJ ((I, oI) :: (C, oC) :: (D, LCg.lst ys) :: (add2 ++ ((L' + 1 + 1 + 1, oc) :: (wl, W.listOf ws.toArray nw) :: (add ++ (L' + 1 + 1, o2) :: (L' + 1, o3) :: news)))) (deedOps (0 + (i : Int)))) TellJ.zero ?_ ?_
        · rintro i2 ys2 nw2 v2 I2 oI2 C2 oC2 D2 m₃ h2 tk2 E2 hi2 hv2 ⟨add3, rfl, hap3, hds3⟩ hC2 hx2 F6 N6 off2 ne2
          obtain ⟨x5, o5, rfl, ho5, hop⟩ := kops.get (i := i2) (v := v2) (by rw [← hv2]; simp)
          obtain ⟨u1, u2, u3, u4, u5, u6, u7, u8, u9, u10, u11⟩ := id hop
          k_steps
          all_goals k_extra "my q"
          exact TellJ.succ hap3 hds3 ho5 (Apart.sub (by assumption) (by k_extra "my inn")) (by assumption)
        · rintro ys2 nw2 ⟨add3, rfl, hap3, hds3⟩
          have htk6 : (deedOps (0 + (i : Int))).take kvs.size = deedOps (0 + (i : Int)) := List.take_of_length_le (by rw [← hlen6]; simp)
          rw [htk6] at hds3
          k_steps
          all_goals k_extra "my q"
          unfold Hold
          rename LCg.Off1 _ _ => o9
          have hoD := off1_mem o9
          rename News g' _ _ _ => N7
          have nDI := hoD (I, oI) (by k_extra "my mem")
          have nDC := hoD (C, oC) (by k_extra "my mem")
          have nDD := hoD (D, LCg.lst ys) (by k_extra "my mem")
          refine' deeds_eq N7 (a := 0 + (i : Int)) (b := deed) (.list (vs := ys2) List.mem_cons_self (hds3.mono ?zs1)) (.list (vs := ws) ?zm1 (hdsW.mono ?zs2)) ?zb1 ?zb2 ok1 ok2 ?zu ?zt ?zf
          case zs1 => k_extra "my inn"
          case zm1 => k_extra "my mem"
          case zs2 => k_extra "my inn"
          case zb1 => omega
          case zb2 => omega
          case zu => ktr_units
          case zt =>
            intro he
            k_steps
            all_goals k_extra "my q"
            refine' DeedJ.take ?zo ?za he hys
            case zo => k_extra "my ontop"
            case za => exact Apart.cons (fun q hq => hoD q (List.mem_append_right _ (List.mem_cons_of_mem _ (List.mem_cons_of_mem _ (List.mem_cons_of_mem _ (List.mem_append_right _ hq)))))) (Apart.app (hap3.sub (by k_extra "my inn")) hap2)
          case zf =>
            intro he
            k_steps
            all_goals k_extra "my q"
            refine' DeedJ.skip ?zo2 ?za2 he hys
            case zo2 => k_extra "my ontop"
            case za2 => exact Apart.cons (fun q hq => hoD q (List.mem_append_right _ (List.mem_cons_of_mem _ (List.mem_cons_of_mem _ (List.mem_cons_of_mem _ (List.mem_append_right _ hq)))))) (Apart.app (hap3.sub (by k_extra "my inn")) hap2)
      · rintro ys nw' ⟨add2, rfl, hap2, hys⟩
        rcases hys with ⟨q, _⟩ | ⟨_, t7, rfl⟩
        · exfalso; omega
        k_steps
        all_goals k_extra "my q"
        refine' Mid.intro (by assumption) (News.perm (by assumption) ?zq2) ⟨_, rfl, rfl⟩
        case zq2 => k_extra "my inn"
    clear F2 N2 hapW hdsW hoc
    rintro m' all' h3' tk3 F3 N3 ⟨td, rfl, rfl⟩
    dsimp only [List.drop]
    with_reducible refine seg 1 F3 (QW6_2 news L' o2 o3 deed td fa fb) ?_ ?_
    · k_extra "my o"
      dsimp only [List.take]
      k_steps
      all_goals k_extra "my q"
      rename_i D8 h8 tk8 vs8 ss8 e8 F8 N8 lt8 hS8 hP8 hs8
      obtain rfl := pairK_sort hP8 hs8
      unfold Hold
      refine LCg.CompSrc.ledger (its := vs8) (k := e8) rfl (by assumption) (by assumption) List.mem_cons_self (strs_size hS8) ?_
      intro g9
      refine comp_inv (ListJ ((D8, W.listOf vs8 e8) :: (L' + 1 + 1, o2) :: (L' + 1, o3) :: news) (pairF "A" fa ++ pairF "B" fb)) ListJ.zero ?_ ?_
      · rintro i ys nw' v I oI C oC D m₂ h tk E' hi hv ⟨add, rfl, hap, hds⟩ hC hx F5 N5 off ne
        k_extra "my aim"
        obtain ⟨s9, t9, rfl, hs9⟩ := strs_get hS8 (i := i) (v := v) (by rw [← hv]; simp)
        obtain ⟨n9, tn9, hva, hit⟩ := font_item a7 a8 hs9
        k_steps
        all_goals k_extra "my q"
        rename (∀ p : Addr × Obj, p ∈ _ :: _ → p.1 < _) => hlt
        refine' ListJ.step ?zo (Apart.cons (ne_of_lts (lts_sub hlt ?zx)) hap) (hds.mono ?zm) hit (.tuple (vs := [_, _]) List.mem_cons_self (.cons (.str _ _) (.cons (.int _ _) .nil)))
        case zo => k_extra "my ontop"
        case zx => k_extra "my inn"
        case zm => k_extra "my inn"
      · rintro ys nw' ⟨add, rfl, hap, hds⟩
        rw [strs_take hS8 (font_len a7 a8)] at hds
        k_steps
        all_goals k_extra "my q"
        rename LCg.Off1 _ _ => o9
        have hoD := off1_mem o9
        refine' Mid.intro (by assumption) (News.perm (by assumption) (l' := (_, W.listOf ys.toArray _) :: (add ++ (L' + 1 + 1, o2) :: (L' + 1, o3) :: news)) ?zp) (fun _ kk9 => kk9 _ _ _ _ rfl rfl (Apart.cons (fun q hq => hoD q (List.mem_append_right _ (List.mem_cons_of_mem _ hq))) (hap.sub ?zx)) hds)
        case zp => k_extra "my inn"
        case zx => k_extra "my inn"
    clear F3 N3
    intro m' all' h4' tk4 F4 N4 hQ9
    refine hQ9 _ ?_
    clear hQ9
    rintro fl fvs fn tl rfl rfl hapF hdsF
    dsimp only [List.drop]
    with_reducible refine seg 1 F4 (QW6_3 tl news fl L' o2 o3 xa xb deed fn td fvs) ?_ ?_
    · k_extra "my o"
      dsimp only [List.take]
      k_steps
      all_goals k_extra "my q"
      rename_i D8 h8 tk8 vs8 ss8 e8 F8 N8 lt8 hS8 hP8 hs8
      obtain rfl := pairK_sort hP8 hs8
      unfold Hold
      refine LCg.CompSrc.ledger (its := vs8) (k := e8) rfl (by assumption) (by assumption) List.mem_cons_self (strs_size hS8) ?_
      intro g9
      refine comp_inv (ListJ ((D8, W.listOf vs8 e8) :: (fl, W.listOf fvs.toArray fn) :: (tl ++ (L' + 1 + 1, o2) :: (L' + 1, o3) :: news)) (pairX "A" xa.dat ++ pairX "B" xb.dat)) ListJ.zero ?_ ?_
      · rintro i ys nw' v I oI C oC D m₂ h tk E' hi hv ⟨add, rfl, hap, hds⟩ hC hx F5 N5 off ne
        k_extra "my aim"
        obtain ⟨s9, t9, rfl, hs9⟩ := strs_get hS8 (i := i) (v := v) (by rw [← hv]; simp)
        obtain ⟨y9, T9, d9, hva, hT9, hT9x, hTd9, hit⟩ := form_item a12 a13 hs9
        have hok9 : T9.ok := by rcases hT9x with rfl | rfl <;> assumption
        have hht9 : T9.ht ≤ f := by
          simp only [OT.ht] at hht
          rcases hT9x with rfl | rfl <;> omega
        k_steps
        all_goals k_extra "my q"
        rename (∀ p : Addr × Obj, p ∈ _ :: _ → p.1 < _) => hlt
        try (rename (∀ p : Addr × Obj, p ∈ _ ++ (I, oI) :: _ → p.1 < _) => hlt)
        rename Apart _ _ => h9a
        refine' ListJ.step ?zo (Apart.cons (ne_of_lts (lts_sub hlt ?zx)) (Apart.app (h9a.sub ?zy) hap)) (hds.mono ?zm) hit (.tuple (vs := [_, _]) List.mem_cons_self (.cons (.str _ _) (.cons (DatIn.mono ?zk (by assumption)) .nil)))
        case zo => k_extra "my ontop"
        case zx => k_extra "my inn"
        case zy => k_extra "my inn"
        case zm => k_extra "my inn"
        case zk => k_extra "my inn"
      · rintro ys nw' ⟨add, rfl, hap, hds⟩
        rw [strs_take hS8 (form_len a12 a13)] at hds
        k_steps
        all_goals k_extra "my q"
        rename LCg.Off1 _ _ => o9
        have hoD := off1_mem o9
        refine' Mid.intro (by assumption) (News.perm (by assumption) (l' := (_, W.listOf ys.toArray _) :: (add ++ (fl, W.listOf fvs.toArray fn) :: (tl ++ (L' + 1 + 1, o2) :: (L' + 1, o3) :: news))) ?zp) (fun _ kk9 => kk9 _ _ _ _ rfl rfl (Apart.cons (fun q hq => hoD q (List.mem_append_right _ (List.mem_cons_of_mem _ hq))) (hap.sub ?zx)) hds)
        case zp => k_extra "my inn"
        case zx => k_extra "my inn"
    clear F4 N4
    intro m' all' h5' tk5 F5 N5 hQ9
    refine hQ9 _ ?_
    clear hQ9
    rintro xl xvs xn tx rfl rfl hapX hdsX
    dsimp only [List.drop]
    obtain ⟨dm, mh1, mh2, mh3, mh4, mh5, mh6, mt1, mt2, mt3, mt4, mt5, mt6, mn, x1, x2, x3, x4, x5, x6, mm1, mm2, ma, mb, mc, md, me, mf⟩ := id a14
    obtain ⟨y5, _, _, _, _, _, _, _, u5, v5⟩ := id me
    with_reducible refine seg 1 F5 (QW6_4 tx tl news xl fl L' o2 o3 deed shift xn fn td xvs fvs) ?_ ?_
    · k_extra "my o"
      dsimp only [List.take]
      k_steps
      all_goals k_extra "my q"
      exact Mid.intro (by assumption) (by assumption) (fun _ kk9 => kk9 _ _ _ _ _ rfl rfl (by assumption) (by assumption))
    clear F5 N5
    intro m' all' h6' tk6 F6 N6 hQ9
    refine hQ9 _ ?_
    clear hQ9
    rintro ts n5 u1 u2 as rfl rfl habS mS
    dsimp only [List.drop]
    with_reducible refine seg 1 F6 (fun m' all' => m' = locs [("plain", .bool true), ("shift", .ref ts), ("forms", .ref xl), ("fonts", .ref fl), ("deed", .int deed td)] ∧ all' = as ++ (xl, W.listOf xvs.toArray xn) :: (tx ++ (fl, W.listOf fvs.toArray fn) :: (tl ++ (L' + 1 + 1, o2) :: (L' + 1, o3) :: news))) ?_ ?_
    · k_extra "my o"
      dsimp only [List.take]
      k_steps
      all_goals k_extra "my q"
      unfold Hold
      rename News g' _ _ _ => N8
      rename DatIn _ _ _ => hmt
      refine' dat_same N8 (hmt.mono ?zx) ?zt (matDat_ok shift) (by decide) ?zu ?_
      case zx => k_extra "my inn"
      case zt => kqd_in
      case zu => ktr_units
      k_steps
      all_goals k_extra "my q"
      refine' Mid.intro (by assumption) (News.perm (by assumption) ?zp) ⟨rfl, rfl⟩
      case zp => k_extra "my inn"
    clear F6 N6
    rintro m' all' h7' tk7 F7 N7 ⟨rfl, rfl⟩
    dsimp only [List.drop]
    k_steps
    all_goals k_extra "my q"
    rename (∀ p : Addr × Obj, p ∈ as ++ _ → p.1 < _) => hlt
    refine' hret _ _ _ _ (by assumption) (News.perm (by assumption) (l' := ((_, _) :: (as ++ (((xl, W.listOf xvs.toArray xn) :: tx) ++ ((fl, W.listOf fvs.toArray fn) :: tl)))) ++ news) ?zn) ⟨_, rfl, Apart.cons (ne_of_lts (lts_sub hlt ?z0)) (Apart.app (habS.apart.sub ?z1) (Apart.app (hapX.sub ?z2) (hapF.sub ?z3))), .tuple (vs := [_, _, _, _]) List.mem_cons_self (.cons (.int _ _) (.cons (.int _ _) (.cons (.list (vs := fvs) (n := fn) ?m1 (hdsF.mono ?s1)) (.cons (.list (vs := xvs) (n := xn) ?m2 (hdsX.mono ?s2)) .nil))))⟩
    case zn => k_extra "my inn"
    case z0 => k_extra "my inn"
    case z1 => k_extra "my inn"
    case z2 => k_extra "my inn"
    case z3 => k_extra "my inn"
    case m1 => k_extra "my mem"
    case m2 => k_extra "my mem"
    case s1 => k_extra "my inn"
    case s2 => k_extra "my inn")) only [↓Box.of]
end
example : True := by
  k_with "out W6" =>
    skip
  trivial
example : True := by
  k_with "my aparts" =>
    first | with_reducible exact Apart.nil | with_reducible assumption | (with_reducible refine' Apart.inst ?h9z140 ?h8z140 ?r9z140; (case h9z140 => with_reducible assumption); (case h8z140 => with_reducible assumption); (case r9z140 => k_extra "my aparts")) | (with_reducible refine' Apart.inst2 ?h9z140 ?s9z140 ?h8z140 ?r9z140; (case h9z140 => with_reducible assumption); (case s9z140 => k_extra "my inn"); (case h8z140 => with_reducible assumption); (case r9z140 => k_extra "my aparts")) | (with_reducible refine' Apart.consLt ?h9z140 ?r9z140; (case h9z140 => with_reducible assumption); (case r9z140 => k_extra "my aparts")) | (with_reducible refine' Apart.cons ?h9z140 ?r9z140; (case h9z140 => k_extra "my off"); (case r9z140 => k_extra "my aparts")) | ((with_reducible refine' Apart.app ?_ ?_) <;> k_extra "my aparts") | fail "my aparts"
  k_with "my off" =>
    with_reducible exact List.forall_mem_nil _
  k_with "my off" =>
    first | (with_reducible refine' off_of_lt ?h9z142 ?s9z142; (case h9z142 => with_reducible assumption); (case s9z142 => k_extra "my inn")) | fail "my off"
  k_with "=call ref" =>
    (k_here; (with_reducible show wpAny _ _ (call (Value.ref 480) _) _ _ _); k_dflt (refine' useDraw (draw_u ?hcz143 ?hctz143 ?hiz143 ?h1z143 ?h2z143 ?haz143 ?ha2z143 ?hlz143 ?hl2z143 (fun o' => ?hupz143)) ?_ ?k1z143 ?k2z143 ?k3z143 ?k4z143 ?k5z143 ?k6z143 ?k7z143 ?k8z143; (case k1z143 => k_asm); (case k2z143 => k_asm); (case k3z143 => k_asm); (case k4z143 => k_asm); (case k5z143 => k_asm); (case k6z143 => first | exact rfl | assumption); (case hupz143 => k_upd); (case hcz143 => k_mem); (case hctz143 => first | assumption | omega); (case hiz143 => assumption); (case h1z143 => omega); (case h2z143 => omega); (case haz143 => omega); (case ha2z143 => omega); (case hlz143 => omega); (case hl2z143 => omega); (case k7z143 => ktr_room); (case k8z143 => ktr_units); k_whole; intro _ _ _ _ _ _ _ _ _; (try k_sweep)))
  k_with "=call ref" =>
    (k_here; (with_reducible show wpAny _ _ (call (Value.ref 190) _) _ _ _); k_dflt (refine' useMk1 (mkName) ?_ ?k1z144 ?k2z144 ?k3z144 ?k4z144 ?k5z144 ?k6z144 ?k7z144 ?k8z144; (case k1z144 => k_asm); (case k2z144 => k_asm); (case k3z144 => k_asm); (case k4z144 => k_asm); (case k5z144 => k_asm); (case k6z144 => first | exact rfl | assumption); (case k7z144 => ktr_room); (case k8z144 => ktr_units); k_whole; intro _ _ _ _ _ _ _ _ _ _; (try k_sweep)))
  k_with "=call ref" =>
    (k_here; (with_reducible show wpAny _ _ (call (Value.ref 261) _) _ _ _); k_dflt (refine' useMk2 (mkRef) ?_ ?k1z145 ?k2z145 ?k3z145 ?k4z145 ?k5z145 ?k6z145 ?k7z145 ?k8z145; (case k1z145 => k_asm); (case k2z145 => k_asm); (case k3z145 => k_asm); (case k4z145 => k_asm); (case k5z145 => k_asm); (case k6z145 => first | exact rfl | assumption); (case k7z145 => ktr_room); (case k8z145 => ktr_units); k_whole; intro _ _ _ _ _ _ _ _ _ _ _; (try k_sweep)))
  trivial
section
set_option autoImplicit false in
noncomputable def QC3_1 (news : Led) (t : Addr) (c : Addr) (at_ : Int) (n : Nat) (m' : Str → Option Value) (all' : Led) : Prop := ∀ G9 : Prop, (∀ (kv κ add1 tk' : _),
    (KindV add1 kv κ) →
    (m' = locs [("kind", kv), ("tape", .ref t)]) →
    (all' = (t, W.listOf #[.ref c, .int (at_ + 1) tk'] n) :: (add1 ++ news)) →
    (Apart news add1) →
    ((∀ p ∈ add1, p.1 ≠ t)) → G9) → G9
set_option autoImplicit false in
noncomputable def QC3_2 (w : World) (add1 : Led) (news : Led) (t : Addr) (c : Addr) (kv : Value) (at_ : Int) (n : Nat) (m' : Str → Option Value) (all' : Led) : Prop := ∀ G9 : Prop, (∀ (lv mv dv tl tm td hd o tk' : _),
    ((0 ≤ lv ∧ lv < 4)) →
    ((0 ≤ mv ∧ mv < 7)) →
    ((0 ≤ dv ∧ dv < 4)) →
    (o.IsDictOf (PySem.strKind PP w) (headK none none none)) →
    ((hd == sysModules) = false) →
    (m' = locs [("head", .ref hd), ("deed", .int dv td), ("matrix", .int mv tm), ("lent", .int lv tl), ("kind", kv), ("tape", .ref t)]) →
    (all' = (t, W.listOf #[.ref c, .int (at_ + 1 + 1 + 1 + 1) tk'] n) :: (hd, o) :: (add1 ++ news)) →
    ((∀ p ∈ add1 ++ news, p.1 ≠ hd)) →
    (@LT.lt Nat _ t hd) → G9) → G9
set_option autoImplicit false in
noncomputable def QC3_3 (w : World) (add1 : Led) (news : Led) (hd_ : Addr) (t : Addr) (c : Addr) (kv : Value) (κ : Kd) (dv : Int) (mv : Int) (lv : Int) (at_ : Int) (n : Nat) (td : Tok) (tm : Tok) (tl : Tok) (tk2' : Tok) (m' : Str → Option Value) (all' : Led) : Prop := ∀ G9 : Prop, (∀ (o : _),
    (o.IsDictOf (PySem.strKind PP w) (headK (subO κ kv) none none)) →
    (m' = locs [("head", .ref hd_), ("deed", .int dv td), ("matrix", .int mv tm), ("lent", .int lv tl), ("kind", kv), ("tape", .ref t)]) →
    (all' = (t, W.listOf #[.ref c, .int (at_ + 1 + 1 + 1 + 1) tk2'] n) :: (hd_, o) :: (add1 ++ news)) → G9) → G9
set_option autoImplicit false in
noncomputable def QC3_4 (w : World) (add1 : Led) (news : Led) (hd_ : Addr) (t : Addr) (c : Addr) (kv : Value) (κ : Kd) (lv : Int) (dv : Int) (mv : Int) (at_ : Int) (n : Nat) (td : Tok) (tm : Tok) (tl : Tok) (tk2' : Tok) (m' : Str → Option Value) (all' : Led) : Prop := ∀ G9 : Prop, (∀ (rv o add2 : _),
    (ResV add2 lv rv) →
    (o.IsDictOf (PySem.strKind PP w) (headK (subO κ kv) rv none)) →
    (m' = locs [("head", .ref hd_), ("deed", .int dv td), ("matrix", .int mv tm), ("lent", .int lv tl), ("kind", kv), ("tape", .ref t)]) →
    (all' = (t, W.listOf #[.ref c, .int (at_ + 1 + 1 + 1 + 1) tk2'] n) :: (hd_, o) :: (add2 ++ (add1 ++ news))) →
    (Apart news add2) →
    ((∀ p ∈ add2, p.1 ≠ t)) →
    ((∀ p ∈ add2, p.1 ≠ hd_)) → G9) → G9
set_option autoImplicit false in
noncomputable def QC3_5 (w : World) (add2 : Led) (add1 : Led) (news : Led) (hd_ : Addr) (t : Addr) (c : Addr) (kv : Value) (rv : Option Value) (κ : Kd) (mv : Int) (dv : Int) (lv : Int) (at_ : Int) (n : Nat) (td : Tok) (tm : Tok) (tl : Tok) (tk2' : Tok) (m' : Str → Option Value) (all' : Led) : Prop := ∀ G9 : Prop, (∀ (xv o add3 : _),
    (MatV add3 mv xv) →
    (o.IsDictOf (PySem.strKind PP w) (headK (subO κ kv) rv xv)) →
    (m' = locs [("head", .ref hd_), ("deed", .int dv td), ("matrix", .int mv tm), ("lent", .int lv tl), ("kind", kv), ("tape", .ref t)]) →
    (all' = (t, W.listOf #[.ref c, .int (at_ + 1 + 1 + 1 + 1) tk2'] n) :: (hd_, o) :: (add3 ++ (add2 ++ (add1 ++ news)))) →
    (Apart news add3) →
    ((∀ p ∈ add3, p.1 ≠ t)) →
    ((∀ p ∈ add3, p.1 ≠ hd_)) → G9) → G9
theorem stream {w : World} {news : Led} {t c : Addr} {at_ : Int} {tk : Tok} {n nc : Nat} {vs : List Value} {ns : List Int}
  (hc : (c, W.listOf vs.toArray nc) ∈ news) (hct : c ≠ t) (hne : ∀ p ∈ news, p.1 ≠ t) (hi : IntsAre vs ns) (h1 : 1 ≤ ns.length) (h2 : ns.length ≤ 60) (ha : 0 ≤ at_) (ha2 : at_ ≤ 90)  :
   Spec w 10 487 [.ref t] ((t, W.listOf #[.ref c, .int at_ tk] n) :: news)
     (fun r news' => ∃ kd lv mv dv add tk', (0 ≤ lv ∧ lv < 4) ∧ (0 ≤ mv ∧ mv < 7) ∧ (0 ≤ dv ∧ dv < 4) ∧ news' = (t, W.listOf #[.ref c, .int (at_ + 1 + 1 + 1 + 1) tk'] n) :: (add ++ news) ∧ Apart news add ∧ (∀ p ∈ add, p.1 ≠ t) ∧ StreamOut w add r kd lv mv dv) := by
  refine Box.out ?_
  simp (disch := k_dflt (
    refine Box2.mk ?_
    unfold Spec
    intro mean mg mb dp un gd cn cs a ccd cl outer A₀ base h₀ L m s Q E B F X N T hk hd hu hret
    have TT : Tape t := ⟨⟩
    refine wpAny_call ?_
    k_dflt ktr_enter
    rename_i g' L' h' FG' F' N' B' X' T'
    replace F' := fr_locs F' [("tape", .ref t)] rfl
    with_reducible refine seg 1 F' (QC3_1 news t c at_ n) ?_ ?_
    · k_extra "my o"
      dsimp only [List.take]
      k_steps
      all_goals k_extra "my q"
      all_goals k_extra "my mid"
      all_goals refine' (fun _ kk9 => kk9 _ _ _ _ ?_ rfl (cons_top ?_) ?_ ?_)
      any_goals ((with_reducible show OnTop _ _ _); k_extra "my ontop")
      all_goals first | ((with_reducible show KindV _ _ _); k_extra "my kindv") | ((with_reducible show Apart _ _); k_extra "my aparts") | skip
      any_goals k_extra "my off"
    clear F' N'
    intro m' all' h2 tk2 F2 N2 hQ9
    refine hQ9 _ ?_
    clear hQ9
    rintro kv κ add1 tk1 hkv rfl rfl hap1 hof1
    dsimp only [List.drop]
    with_reducible refine seg 4 F2 (QC3_2 w add1 news t c kv at_ n) ?_ ?_
    · k_extra "my o"
      dsimp only [List.take]
      k_steps
      all_goals k_extra "my q"
      k_extra "my mid"
      refine' (fun _ kk9 => kk9 _ _ _ _ _ _ _ _ _ ⟨?_, ?_⟩ ⟨?_, ?_⟩ ⟨?_, ?_⟩ ?_ ?_ rfl rfl ?_ ?_)
      all_goals first | with_reducible assumption | assumption | k_extra "my off"
    clear F2 N2
    intro m' all' h2 tk2 F2 N2 hQ9
    refine hQ9 _ ?_
    clear hQ9
    rintro lv mv dv tl tm td hd_ o tk2' ⟨hl1, hl2⟩ ⟨hm1, hm2⟩ ⟨hd1, hd2⟩ ho hsys rfl rfl hoff2 hlt2
    dsimp only [List.drop]
    have hofn : ∀ p ∈ news, p.1 ≠ hd_ := fun p hp => hoff2 p (List.mem_append_right _ hp)
    have hofa : ∀ p ∈ add1, p.1 ≠ hd_ := fun p hp => hoff2 p (List.mem_append_left _ hp)
    with_reducible refine seg 1 F2 (QC3_3 w add1 news hd_ t c kv κ dv mv lv at_ n td tm tl tk2') ?_ ?_
    · k_extra "my o"
      dsimp only [List.take]
      have hkv' := hkv
      cases hkv'
      all_goals k_steps
      all_goals k_extra "my q"
      all_goals k_extra "my mid"
      all_goals exact (fun _ kk9 => kk9 _ (by assumption) rfl rfl)
    clear F2 N2 ho o
    intro m' all' h2 tk2 F2 N2 hQ9
    refine hQ9 _ ?_
    clear hQ9
    rintro o ho rfl rfl
    dsimp only [List.drop]
    have TT2 : Tape2 hd_ := ⟨⟩
    with_reducible refine seg 1 F2 (QC3_4 w add1 news hd_ t c kv κ lv dv mv at_ n td tm tl tk2') ?_ ?_
    · k_extra "my o"
      dsimp only [List.take]
      k_steps
      all_goals k_extra "my q"
      all_goals k_extra "my mid2"
      · refine' (fun _ kk9 => kk9 _ _ _ (ResV.pos ?zp (refObj.intro ?r1 ?r2)) (dict_b ?d1) rfl (cons_top2 ?z0) ?g1 ?g2 ?g3)
        case z0 => k_extra "my ontop"
        case d1 => assumption
        case r1 => k_extra "my mem"
        case r2 => k_extra "my mem"
        case zp => omega
        case g1 => k_extra "my aparts"
        case g2 => k_extra "my off"
        case g3 => k_extra "my off"
      · have : lv = 0 := by omega
        subst this
        exact (fun _ kk9 => kk9 _ _ [] .zero (by assumption) rfl rfl Apart.nil (List.forall_mem_nil _) (List.forall_mem_nil _))
    clear F2 N2 ho o
    intro m' all' h2 tk2 F2 N2 hQ9
    refine hQ9 _ ?_
    clear hQ9
    rintro rv o add2 hrv ho rfl rfl hap2 hof2 hofh2
    dsimp only [List.drop]
    with_reducible refine seg 2 F2 (QC3_5 w add2 add1 news hd_ t c kv rv κ mv dv lv at_ n td tm tl tk2') ?_ ?_
    · k_extra "my o"
      dsimp only [List.take]
      k_steps
      all_goals k_extra "my q"
      all_goals k_extra "my mid2"
      · refine' (fun _ kk9 => kk9 _ _ _ (MatV.mid ?zp ?zq (refObj.intro ?r1 ?r2) ?r3) (dict_c ?d1) rfl (cons_top2 ?z0) ?g1 ?g2 ?g3)
        case z0 => k_extra "my ontop"
        case d1 => assumption
        case r3 => k_extra "my mem"
        case r1 => k_extra "my mem"
        case r2 => k_extra "my mem"
        case zp => omega
        case zq => omega
        case g1 => k_extra "my aparts"
        case g2 => k_extra "my off"
        case g3 => k_extra "my off"
      · have e5 : mv = 5 := by omega
        subst e5
        refine' (fun _ kk9 => kk9 _ _ _ (MatV.five ?r3) (dict_c ?d1) rfl (cons_top2 ?z0) ?g1 ?g2 ?g3)
        case z0 => k_extra "my ontop"
        case d1 => assumption
        case r3 => k_extra "my mem"
        case g1 => k_extra "my aparts"
        case g2 => k_extra "my off"
        case g3 => k_extra "my off"
      · have e5 : mv = 6 := by omega
        subst e5
        refine' (fun _ kk9 => kk9 _ _ _ (MatV.six (strObj.intro ?r1 ?r2) ?r3) (dict_c ?d1) rfl (cons_top2 ?z0) ?g1 ?g2 ?g3)
        case z0 => k_extra "my ontop"
        case d1 => assumption
        case r3 => k_extra "my mem"
        case r1 => k_extra "my mem"
        case r2 => k_extra "my mem"
        case g1 => k_extra "my aparts"
        case g2 => k_extra "my off"
        case g3 => k_extra "my off"
      · exact (fun _ kk9 => kk9 _ _ [] (.low (by omega)) (by assumption) rfl rfl Apart.nil (List.forall_mem_nil _) (List.forall_mem_nil _))
    clear F2 N2 ho o
    intro m' all' h2 tk2 F2 N2 hQ9
    refine hQ9 _ ?_
    clear hQ9
    rintro xv o add3 hxv ho rfl rfl hap3 hof3 hofh3
    dsimp only [List.drop]
    have hkv3 := hkv
    rcases hkv3 with ⟨⟨d9, hs9, t9, t8, n9, m1, m2⟩⟩ | ⟨⟨d9, hs9, t9, t8, n9, m1, m2⟩⟩ | _
    all_goals k_steps
    all_goals k_extra "my q"
    · refine' hret _ _ _ _ ?f0 (News.perm ?n0 (l' := (t, _) :: (((_, _) :: (_, _) :: (hd_, o) :: (add3 ++ (add2 ++ add1))) ++ news)) ?pl0) ⟨.form, lv, mv, dv, _, tk2', ⟨hl1, hl2⟩, ⟨hm1, hm2⟩, ⟨hd1, hd2⟩, rfl, Apart.cons ?g0 (Apart.cons ?q0 (Apart.cons hofn (Apart.app hap3 (Apart.app hap2 hap1)))), ?o0, _, _, _, _, rfl, List.mem_cons_self, ⟨_, rv, xv, o, ?mh0, ho, hsys, ?k0, ?r0, ?m0⟩, ⟨_, _, _, _, List.mem_cons_of_mem _ List.mem_cons_self, ?dp0, ?sp0⟩⟩
      case f0 => assumption
      case n0 => assumption
      case pl0 => k_extra "my inn"
      case mh0 => k_extra "my mem"
      case dp0 => assumption
      case sp0 => assumption
      case g0 => k_extra "my off"
      case q0 => k_extra "my off"
      case o0 => k_extra "my off"
      case k0 => refine KindV.mono hkv ?_; k_extra "my inn"
      case r0 => refine ResV.mono hrv ?_; k_extra "my inn"
      case m0 => refine MatV.mono hxv ?_; k_extra "my inn"
    · refine' hret _ _ _ _ ?f1 (News.perm ?n1 (l' := (t, _) :: (((_, _) :: (_, _) :: (hd_, o) :: (add3 ++ (add2 ++ add1))) ++ news)) ?pl1) ⟨.image, lv, mv, dv, _, tk2', ⟨hl1, hl2⟩, ⟨hm1, hm2⟩, ⟨hd1, hd2⟩, rfl, Apart.cons ?g1 (Apart.cons ?q1 (Apart.cons hofn (Apart.app hap3 (Apart.app hap2 hap1)))), ?o1, _, _, _, _, rfl, List.mem_cons_self, ⟨_, rv, xv, o, ?mh1, ho, hsys, ?k1, ?r1, ?m1⟩, ⟨_, _, _, _, List.mem_cons_of_mem _ List.mem_cons_self, ?dp1, ?sp1⟩⟩
      case f1 => assumption
      case n1 => assumption
      case pl1 => k_extra "my inn"
      case mh1 => k_extra "my mem"
      case dp1 => assumption
      case sp1 => assumption
      case g1 => k_extra "my off"
      case q1 => k_extra "my off"
      case o1 => k_extra "my off"
      case k1 => refine KindV.mono hkv ?_; k_extra "my inn"
      case r1 => refine ResV.mono hrv ?_; k_extra "my inn"
      case m1 => refine MatV.mono hxv ?_; k_extra "my inn"
    · refine' hret _ _ _ _ ?f2 (News.perm ?n2 (l' := (t, _) :: (((_, _) :: (_, _) :: (hd_, o) :: (add3 ++ (add2 ++ add1))) ++ news)) ?pl2) ⟨.none, lv, mv, dv, _, tk2', ⟨hl1, hl2⟩, ⟨hm1, hm2⟩, ⟨hd1, hd2⟩, rfl, Apart.cons ?g2 (Apart.cons ?q2 (Apart.cons hofn (Apart.app hap3 (Apart.app hap2 hap1)))), ?o2, _, _, _, _, rfl, List.mem_cons_self, ⟨_, rv, xv, o, ?mh2, ho, hsys, ?k2, ?r2, ?m2⟩, ⟨_, _, _, _, List.mem_cons_of_mem _ List.mem_cons_self, ?dp2, ?sp2⟩⟩
      case f2 => assumption
      case n2 => assumption
      case pl2 => k_extra "my inn"
      case mh2 => k_extra "my mem"
      case dp2 => assumption
      case sp2 => assumption
      case g2 => k_extra "my off"
      case q2 => k_extra "my off"
      case o2 => k_extra "my off"
      case k2 => refine KindV.mono hkv ?_; k_extra "my inn"
      case r2 => refine ResV.mono hrv ?_; k_extra "my inn"
      case m2 => refine MatV.mono hxv ?_; k_extra "my inn")) only [↓Box.of]
end
section
set_option autoImplicit false in
noncomputable def QC4_1 (w : World) (news : Led) (t : Addr) (c : Addr) (at_ : Int) (n : Nat) (tk : Tok) (m' : Str → Option Value) (all' : Led) : Prop := ∀ G9 : Prop, (∀ (fd xd pd pf px of ox op opf opx : _),
    (m' = locs [("plain", .ref pd), ("things", .ref xd), ("fonts", .ref fd), ("tape", .ref t)]) →
    (all' = (t, W.listOf #[.ref c, .int at_ tk] n) :: (px, opx) :: (pf, opf) :: (pd, op) :: (xd, ox) :: (fd, of) :: news) →
    ((@LT.lt Nat _ t fd ∧ @LT.lt Nat _ fd xd ∧ @LT.lt Nat _ xd pd ∧ @LT.lt Nat _ pd pf ∧ @LT.lt Nat _ pf px)) →
    ((∀ p ∈ news, p.1 < fd)) →
    (of.IsDictOf (PySem.strKind PP w) []) →
    (ox.IsDictOf (PySem.strKind PP w) []) →
    (opf.IsDictOf (PySem.strKind PP w) []) →
    (opx.IsDictOf (PySem.strKind PP w) []) →
    (op.IsDictOf (PySem.strKind PP w) [(Str.ofString "fonts", .ref pf), (Str.ofString "things", .ref px)]) →
    ((fd == sysModules) = false) →
    ((xd == sysModules) = false) →
    ((pd == sysModules) = false) →
    ((pf == sysModules) = false) →
    ((px == sysModules) = false) → G9) → G9
set_option autoImplicit false in
noncomputable def QC4_2 (w : World) (news : Led) (pd : Addr) (xd : Addr) (fd : Addr) (t : Addr) (c : Addr) (px : Addr) (pf : Addr) (op : Obj) (at_ : Int) (n : Nat) (i : Nat) (m' : Str → Option Value) (all' : Led) : Prop := ∀ G9 : Prop, (∀ (ds lf lx lpf lpx of ox opf opx add1 tk' at' : _),
    (ds.map (·.1) = [Str.ofString "A", Str.ofString "B"].take i) →
    (RState w add1 ds lf lx lpf lpx) →
    ((lf.length ≤ i ∧ lx.length ≤ i ∧ lpf.length ≤ i ∧ lpx.length ≤ i)) →
    (of.IsDictOf (PySem.strKind PP w) lf) →
    (ox.IsDictOf (PySem.strKind PP w) lx) →
    (opf.IsDictOf (PySem.strKind PP w) lpf) →
    (opx.IsDictOf (PySem.strKind PP w) lpx) →
    ((∀ p ∈ [("plain", Value.ref pd), ("things", .ref xd), ("fonts", .ref fd), ("tape", .ref t)], m' (Str.ofString p.1) = some p.2)) →
    (all' = (t, W.listOf #[.ref c, .int at' tk'] n) :: (px, opx) :: (pf, opf) :: (pd, op) :: (xd, ox) :: (fd, of) :: (add1 ++ news)) →
    (at' = at_ + 2 * (i : Int)) →
    (Apart news add1) →
    ((∀ p ∈ add1, p.1 ≠ t)) →
    ((∀ p ∈ add1, p.1 ≠ fd)) →
    ((∀ p ∈ add1, p.1 ≠ xd)) →
    ((∀ p ∈ add1, p.1 ≠ pd)) →
    ((∀ p ∈ add1, p.1 ≠ pf)) →
    ((∀ p ∈ add1, p.1 ≠ px)) → G9) → G9
set_option autoImplicit false in
noncomputable def QC4_3 (w : World) (news : Led) (pd : Addr) (xd : Addr) (fd : Addr) (t : Addr) (c : Addr) (px : Addr) (pf : Addr) (D : Addr) (op : Obj) (at_ : Int) (n : Nat) (tk2 : Nat) (i : Nat) (m' : Str → Option Value) (all' : Led) : Prop := ∀ G9 : Prop, (∀ (ds lf lx lpf lpx of ox opf opx add1 tk' at' : _),
    (ds.map (·.1) = [Str.ofString "A", Str.ofString "B"].take i) →
    (RState w add1 ds lf lx lpf lpx) →
    ((lf.length ≤ i ∧ lx.length ≤ i ∧ lpf.length ≤ i ∧ lpx.length ≤ i)) →
    (of.IsDictOf (PySem.strKind PP w) lf) →
    (ox.IsDictOf (PySem.strKind PP w) lx) →
    (opf.IsDictOf (PySem.strKind PP w) lpf) →
    (opx.IsDictOf (PySem.strKind PP w) lpx) →
    ((∀ p ∈ [("plain", Value.ref pd), ("things", .ref xd), ("fonts", .ref fd), ("tape", .ref t)], m' (Str.ofString p.1) = some p.2)) →
    (all' = (t, W.listOf #[.ref c, .int at' tk'] n) :: (px, opx) :: (pf, opf) :: (pd, op) :: (xd, ox) :: (fd, of) :: (D, tupOf #[.str (Str.ofString "A") tk2, .str (Str.ofString "B") (tk2 + 1)] 0) :: (add1 ++ news)) →
    (at' = at_ + 2 * (i : Int)) →
    (Apart news add1) →
    ((∀ p ∈ add1, p.1 ≠ t)) →
    ((∀ p ∈ add1, p.1 ≠ fd)) →
    ((∀ p ∈ add1, p.1 ≠ xd)) →
    ((∀ p ∈ add1, p.1 ≠ pd)) →
    ((∀ p ∈ add1, p.1 ≠ pf)) →
    ((∀ p ∈ add1, p.1 ≠ px)) → G9) → G9
set_option autoImplicit false in
noncomputable def QC4_4 (m₁ : Str → Option Value) (add1 : Led) (news : Led) (pd : Addr) (xd : Addr) (fd : Addr) (t : Addr) (c : Addr) (I : Addr) (px : Addr) (pf : Addr) (D : Addr) (it : Obj) (opx : Obj) (opf : Obj) (op : Obj) (ox : Obj) (of : Obj) (x : Str) (at' : Int) (n : Nat) (tk2 : Nat) (tx : Tok) (m' : Str → Option Value) (all' : Led) : Prop := ∀ G9 : Prop, (∀ (fv tf tk6 : _),
    ((0 ≤ fv ∧ fv < 4)) →
    (m' = locsOn m₁ [("font", .int fv tf), ("word", .str x tx), ("plain", .ref pd), ("things", .ref xd), ("fonts", .ref fd), ("tape", .ref t)]) →
    (all' = (t, W.listOf #[.ref c, .int (at' + 1) tk6] n) :: (I, it) :: (px, opx) :: (pf, opf) :: (pd, op) :: (xd, ox) :: (fd, of) :: (D, tupOf #[.str (Str.ofString "A") tk2, .str (Str.ofString "B") (tk2 + 1)] 0) :: (add1 ++ news)) → G9) → G9
set_option autoImplicit false in
noncomputable def QC4_5 (w : World) (m₁ : Str → Option Value) (add1 : Led) (news : Led) (pd : Addr) (xd : Addr) (fd : Addr) (t : Addr) (c : Addr) (I : Addr) (px : Addr) (pf : Addr) (D : Addr) (it : Obj) (opx : Obj) (op : Obj) (ox : Obj) (x : Str) (fv : Int) (at' : Int) (n : Nat) (tk2 : Nat) (tf : Tok) (tx : Tok) (tk6 : Tok) (lf : List (Str × Value)) (lpf : List (Str × Value)) (m' : Str → Option Value) (all' : Led) : Prop := ∀ G9 : Prop, (∀ (f fo fp of opf add2 : _),
    (FontV w add2 f fo) →
    (FontP f fp) →
    (of.IsDictOf (PySem.strKind PP w) (addK lf x fo)) →
    (opf.IsDictOf (PySem.strKind PP w) (addK lpf x fp)) →
    (m' = locsOn m₁ [("font", .int fv tf), ("word", .str x tx), ("plain", .ref pd), ("things", .ref xd), ("fonts", .ref fd), ("tape", .ref t)]) →
    (all' = (t, W.listOf #[.ref c, .int (at' + 1) tk6] n) :: (I, it) :: (px, opx) :: (pf, opf) :: (pd, op) :: (xd, ox) :: (fd, of) :: (D, tupOf #[.str (Str.ofString "A") tk2, .str (Str.ofString "B") (tk2 + 1)] 0) :: (add2 ++ (add1 ++ news))) →
    (Apart news add2) →
    ((∀ p ∈ add2, p.1 ≠ t)) →
    ((∀ p ∈ add2, p.1 ≠ I)) →
    ((∀ p ∈ add2, p.1 ≠ fd)) →
    ((∀ p ∈ add2, p.1 ≠ xd)) →
    ((∀ p ∈ add2, p.1 ≠ pd)) →
    ((∀ p ∈ add2, p.1 ≠ pf)) →
    ((∀ p ∈ add2, p.1 ≠ px)) → G9) → G9
set_option autoImplicit false in
noncomputable def QC4_6 (m₁ : Str → Option Value) (add2 : Led) (add1 : Led) (news : Led) (pd : Addr) (xd : Addr) (fd : Addr) (t : Addr) (c : Addr) (I : Addr) (px : Addr) (pf : Addr) (D : Addr) (it : Obj) (opx : Obj) (opf : Obj) (op : Obj) (ox : Obj) (of : Obj) (x : Str) (fv : Int) (at' : Int) (n : Nat) (tk2 : Nat) (tf : Tok) (tx : Tok) (m' : Str → Option Value) (all' : Led) : Prop := ∀ G9 : Prop, (∀ (hv th tk7 : _),
    ((0 ≤ hv ∧ hv < 5)) →
    (m' = locsOn m₁ [("thing", .int hv th), ("font", .int fv tf), ("word", .str x tx), ("plain", .ref pd), ("things", .ref xd), ("fonts", .ref fd), ("tape", .ref t)]) →
    (all' = (t, W.listOf #[.ref c, .int (at' + 1 + 1) tk7] n) :: (I, it) :: (px, opx) :: (pf, opf) :: (pd, op) :: (xd, ox) :: (fd, of) :: (D, tupOf #[.str (Str.ofString "A") tk2, .str (Str.ofString "B") (tk2 + 1)] 0) :: (add2 ++ (add1 ++ news))) → G9) → G9
set_option autoImplicit false in
noncomputable def QC4_7 (w : World) (m₁ : Str → Option Value) (add2 : Led) (add1 : Led) (news : Led) (pd : Addr) (xd : Addr) (fd : Addr) (t : Addr) (c : Addr) (I : Addr) (px : Addr) (pf : Addr) (D : Addr) (it : Obj) (opf : Obj) (op : Obj) (of : Obj) (x : Str) (hv : Int) (fv : Int) (at' : Int) (n : Nat) (tk2 : Nat) (th : Tok) (tf : Tok) (tx : Tok) (tk7 : Tok) (lx : List (Str × Value)) (lpx : List (Str × Value)) (m' : Str → Option Value) (all' : Led) : Prop := ∀ G9 : Prop, (∀ (e eo ep ox opx add3 : _),
    (ThingV w add3 e eo) →
    (ThingP e ep) →
    (ox.IsDictOf (PySem.strKind PP w) (addK lx x eo)) →
    (opx.IsDictOf (PySem.strKind PP w) (addK lpx x ep)) →
    (m' = locsOn m₁ [("thing", .int hv th), ("font", .int fv tf), ("word", .str x tx), ("plain", .ref pd), ("things", .ref xd), ("fonts", .ref fd), ("tape", .ref t)]) →
    (all' = (t, W.listOf #[.ref c, .int (at' + 1 + 1) tk7] n) :: (I, it) :: (px, opx) :: (pf, opf) :: (pd, op) :: (xd, ox) :: (fd, of) :: (D, tupOf #[.str (Str.ofString "A") tk2, .str (Str.ofString "B") (tk2 + 1)] 0) :: (add3 ++ (add2 ++ (add1 ++ news)))) →
    (Apart news add3) →
    ((∀ p ∈ add3, p.1 ≠ t)) →
    ((∀ p ∈ add3, p.1 ≠ I)) →
    ((∀ p ∈ add3, p.1 ≠ fd)) →
    ((∀ p ∈ add3, p.1 ≠ xd)) →
    ((∀ p ∈ add3, p.1 ≠ pd)) →
    ((∀ p ∈ add3, p.1 ≠ pf)) →
    ((∀ p ∈ add3, p.1 ≠ px)) → G9) → G9
theorem resources {w : World} {news : Led} {t c : Addr} {at_ : Int} {tk : Tok} {n nc : Nat} {vs : List Value} {ns : List Int}
  (hc : (c, W.listOf vs.toArray nc) ∈ news) (hct : c ≠ t) (hne : ∀ p ∈ news, p.1 ≠ t) (hi : IntsAre vs ns) (h1 : 1 ≤ ns.length) (h2 : ns.length ≤ 60) (ha : 0 ≤ at_) (ha2 : at_ ≤ 90)  :
   Spec w 10 494 [.ref t] ((t, W.listOf #[.ref c, .int at_ tk] n) :: news)
     (fun r news' => ∃ fa ta fb tb add tk', news' = (t, W.listOf #[.ref c, .int (at_ + 4) tk'] n) :: (add ++ news) ∧ Apart news add ∧ (∀ p ∈ add, p.1 ≠ t) ∧ ResOut w add r fa ta fb tb) := by
  refine Box.out ?_
  simp (disch := k_dflt (
    refine Box2.mk ?_
    unfold Spec
    intro mean mg mb dp un gd cn cs a ccd cl outer A₀ base h₀ L m s Q E B F X N T hk hd hu hret
    have TT : Tape t := ⟨⟩
    refine wpAny_call ?_
    k_dflt ktr_enter
    rename_i g' L' h' FG' F' N' B' X' T'
    replace F' := fr_locs F' [("tape", .ref t)] rfl
    with_reducible refine seg 3 F' (QC4_1 w news t c at_ n tk) ?_ ?_
    · k_extra "my o"
      dsimp only [List.take]
      k_steps
      all_goals k_extra "my q"
      k_extra "my mid"
      refine' (fun _ kk9 => kk9 _ _ _ _ _ _ _ _ _ _ rfl rfl ⟨?_, ?_, ?_, ?_, ?_⟩ ?_ ?_ ?_ ?_ ?_ ?_ ?_ ?_ ?_ ?_ ?_)
      all_goals first | with_reducible assumption | k_extra "my off" | k_extra "my om" | assumption
    clear F' N'
    intro m' all' h2 tk2 F2 N2 hQ9
    refine hQ9 _ ?_
    clear hQ9
    rintro fd xd pd pf px of ox op opf opx rfl rfl ⟨g1, g2, g3, g4, g5⟩ hb1 hof hox hopf hopx hop s1 s2 s3 s4 s5
    dsimp only [List.drop]
    have hb2 : ∀ p ∈ news, p.1 < xd := fun p hp => Nat.lt_trans (hb1 p hp) g2
    have hb3 : ∀ p ∈ news, p.1 < pd := fun p hp => Nat.lt_trans (hb2 p hp) g3
    have hb4 : ∀ p ∈ news, p.1 < pf := fun p hp => Nat.lt_trans (hb3 p hp) g4
    have hb5 : ∀ p ∈ news, p.1 < px := fun p hp => Nat.lt_trans (hb4 p hp) g5
    with_reducible refine seg 1 F2 (fun m' all' => QC4_2 w news pd xd fd t c px pf op at_ n 2 m' all') ?_ ?_
    · k_extra "my o"
      dsimp only [List.take]
      refine wpAny_execs_cons ?_
      refine For_invVF F2 rfl rfl ?_
      k_extra "my upto"
      rename_i D h3 F3 N3 _
      have N4 : News g' L' h3 ((t, W.listOf #[.ref c, .int at_ tk] n) :: (px, opx) :: (pf, opf) :: (pd, op) :: (xd, ox) :: (fd, of) :: (D, tupOf #[.str (Str.ofString "A") tk2, .str (Str.ofString "B") (tk2 + 1)] 0) :: news) := by
        refine News.perm (by assumption) ?_
        k_extra "my perm"
      refine iter_tup (l := D) (n := 0) (vs := #[.str (Str.ofString "A") tk2, .str (Str.ofString "B") (tk2 + 1)]) rfl (by assumption) N4 (QC4_3 w news pd xd fd t c px pf D op at_ n tk2) ?_ ?_ ?_ ?_
      · refine (fun _ kk9 => kk9 [] [] [] [] [] of ox opf opx [] tk at_ rfl .nil ⟨Nat.le_refl _, Nat.le_refl _, Nat.le_refl _, Nat.le_refl _⟩ hof hox hopf hopx ?_ rfl (by omega) Apart.nil ?_ ?_ ?_ ?_ ?_ ?_)
        · exact has_of (by rfl)
        all_goals k_extra "my off"
      · intro i m' all' hQ9
        refine hQ9 _ ?_
        clear hQ9
        rintro ds lf lx lpf lpx of ox opf opx add1 tk' at' _ _ _ _ _ _ _ _ rfl _ _ _ _ _ _ _ _
        k_extra "my mem"
      · intro i v m₁ news₁ h tk5 I it hi hv hQ9
        refine hQ9 _ ?_
        clear hQ9
        rintro ds lf lx lpf lpx of ox opf opx add1 tk' at' hds hR ⟨le1, le2, le3, le4⟩ hof hox hopf hopx hm rfl hat hap1 o1 o2 o3 o4 o5 o6 hoffI hI F5 N5
        k_extra "my o"
        have hi2 : i < 2 := hi
        obtain ⟨x, tx, rfl, hx⟩ : ∃ x tx, v = .str x tx ∧ [Str.ofString "A", Str.ofString "B"][i]? = some x := by
          rcases i with _ | _ | i
          · exact ⟨_, _, (Option.some.inj hv).symm, rfl⟩
          · exact ⟨_, _, (Option.some.inj hv).symm, rfl⟩
          · omega
        clear hv
        replace F5 := fr_on F5 _ hm
        k_lt hI
        have hoI : ∀ p ∈ add1, p.1 ≠ I := fun p hp => hoffI p (List.mem_cons_of_mem _ (List.mem_cons_of_mem _ (List.mem_cons_of_mem _ (List.mem_cons_of_mem _ (List.mem_cons_of_mem _ (List.mem_cons_of_mem _ (List.mem_cons_of_mem _ (List.mem_append_left _ hp))))))))
        have TS : Tapes [t, I, px, pf, pd, xd, fd, D] := ⟨⟩
        with_reducible refine seg 1 F5 (QC4_4 m₁ add1 news pd xd fd t c I px pf D it opx opf op ox of x at' n tk2 tx) ?_ ?_
        · k_extra "my o"
          dsimp only [List.take]
          k_steps
          all_goals k_extra "my q"
          k_extra "my mids"
          exact (fun _ kk9 => kk9 _ _ _ ⟨by assumption, by assumption⟩ rfl rfl)
        clear F5 N5
        intro m' all' h6 tk6' F6 N6 hQ9
        refine hQ9 _ ?_
        clear hQ9
        rintro fv tf tk6 ⟨hf1, hf2⟩ rfl rfl
        dsimp only [List.drop]
        with_reducible refine seg 1 F6 (QC4_5 w m₁ add1 news pd xd fd t c I px pf D it opx op ox x fv at' n tk2 tf tx tk6 lf lpf) ?_ ?_
        · k_extra "my o"
          dsimp only [List.take]
          k_steps
          all_goals k_extra "my q"
          all_goals try (exfalso; omega)
          all_goals k_extra "my mids"
          · refine' (fun _ kk9 => kk9 _ _ _ _ _ _ (FontV.viaRef (refObj.intro ?r1a ?r2a)) FontP.viaRef ?da ?ea rfl (cons_top8 ?ta) ?ga ?o0a ?o1a ?o2a ?o3a ?o4a ?o5a ?o6a)
            case ta => k_extra "my ontop"
            case da => assumption
            case ea => assumption
            case r1a => k_extra "my mem"
            case r2a => k_extra "my mem"
            case ga => k_extra "my aparts"
            case o0a => k_extra "my off"
            case o1a => k_extra "my off"
            case o2a => k_extra "my off"
            case o3a => k_extra "my off"
            case o4a => k_extra "my off"
            case o5a => k_extra "my off"
            case o6a => k_extra "my off"
          · refine' (fun _ kk9 => kk9 _ _ _ _ _ _ (FontV.direct ?m1b ?m2b ?m3b) FontP.direct ?db ?eb rfl (cons_top8 ?tb) ?gb ?o0b ?o1b ?o2b ?o3b ?o4b ?o5b ?o6b)
            case tb => k_extra "my ontop"
            case db => assumption
            case eb => assumption
            case m1b => k_extra "my mem"
            case m2b => assumption
            case m3b => assumption
            case gb => k_extra "my aparts"
            case o0b => k_extra "my off"
            case o1b => k_extra "my off"
            case o2b => k_extra "my off"
            case o3b => k_extra "my off"
            case o4b => k_extra "my off"
            case o5b => k_extra "my off"
            case o6b => k_extra "my off"
          · refine (fun _ kk9 => kk9 _ _ _ _ _ [] FontV.num FontP.num (by assumption) hopf rfl rfl Apart.nil (List.forall_mem_nil _) (List.forall_mem_nil _) (List.forall_mem_nil _) (List.forall_mem_nil _) (List.forall_mem_nil _) (List.forall_mem_nil _) (List.forall_mem_nil _))
          · exact (fun _ kk9 => kk9 _ _ _ _ _ [] FontV.missing FontP.missing hof hopf rfl rfl Apart.nil (List.forall_mem_nil _) (List.forall_mem_nil _) (List.forall_mem_nil _) (List.forall_mem_nil _) (List.forall_mem_nil _) (List.forall_mem_nil _) (List.forall_mem_nil _))
        clear F6 N6 hof hopf hoffI
        intro m' all' h7 tk7' F7 N7 hQ9
        refine hQ9 _ ?_
        clear hQ9
        rintro f fo fp of opf add2 hfv hfp hof hopf rfl rfl hap2 q1 q2 q3 q4 q5 q6 q7
        dsimp only [List.drop]
        with_reducible refine seg 1 F7 (QC4_6 m₁ add2 add1 news pd xd fd t c I px pf D it opx opf op ox of x fv at' n tk2 tf tx) ?_ ?_
        · k_extra "my o"
          dsimp only [List.take]
          k_steps
          all_goals k_extra "my q"
          k_extra "my mids"
          exact (fun _ kk9 => kk9 _ _ _ ⟨by assumption, by assumption⟩ rfl rfl)
        clear F7 N7
        intro m' all' h8 tk8' F8 N8 hQ9
        refine hQ9 _ ?_
        clear hQ9
        rintro hv th tk7 ⟨hh1, hh2⟩ rfl rfl
        dsimp only [List.drop]
        with_reducible refine seg 1 F8 (QC4_7 w m₁ add2 add1 news pd xd fd t c I px pf D it opf op of x hv fv at' n tk2 th tf tx tk7 lx lpx) ?_ ?_
        · k_extra "my o"
          dsimp only [List.take]
          k_steps
          all_goals k_extra "my q"
          all_goals try (exfalso; omega)
          all_goals k_extra "my mids"
          · refine' (fun _ kk9 => kk9 _ _ _ _ _ _ (ThingV.str ?m1c ?m2c (refObj.intro ?r1c ?r2c)) ThingP.str ?dc ?ec rfl (cons_top8 ?tc) ?gc ?o0c ?o1c ?o2c ?o3c ?o4c ?o5c ?o6c)
            case tc => k_extra "my ontop"
            case dc => assumption
            case ec => assumption
            case r1c => k_extra "my mem"
            case r2c => k_extra "my mem"
            case m1c => omega
            case m2c => omega
            case gc => k_extra "my aparts"
            case o0c => k_extra "my off"
            case o1c => k_extra "my off"
            case o2c => k_extra "my off"
            case o3c => k_extra "my off"
            case o4c => k_extra "my off"
            case o5c => k_extra "my off"
            case o6c => k_extra "my off"
          · refine' (fun _ kk9 => kk9 _ _ _ _ _ _ (ThingV.dict ?m1f ?m2f ?m3f) ThingP.dict ?df ?ef rfl (cons_top8 ?tf) ?gf ?o0f ?o1f ?o2f ?o3f ?o4f ?o5f ?o6f)
            case tf => k_extra "my ontop"
            case df => assumption
            case ef => assumption
            case m1f => k_extra "my mem"
            case m2f => assumption
            case m3f => assumption
            case gf => k_extra "my aparts"
            case o0f => k_extra "my off"
            case o1f => k_extra "my off"
            case o2f => k_extra "my off"
            case o3f => k_extra "my off"
            case o4f => k_extra "my off"
            case o5f => k_extra "my off"
            case o6f => k_extra "my off"
          · exact (fun _ kk9 => kk9 _ _ _ _ _ [] ThingV.missing ThingP.missing hox hopx rfl rfl Apart.nil (List.forall_mem_nil _) (List.forall_mem_nil _) (List.forall_mem_nil _) (List.forall_mem_nil _) (List.forall_mem_nil _) (List.forall_mem_nil _) (List.forall_mem_nil _))
        clear F8 N8 hox hopx
        intro m' all' h9 tk9' F9 N9 hQ9
        refine hQ9 _ ?_
        clear hQ9
        rintro e eo ep ox opx add3 hxv hxp hox hopx rfl rfl hap3 u1 u2 u3 u4 u5 u6 u7
        dsimp only [List.drop]
        refine wpAny_execs_nil ?_
        k_extra "my q"
        refine ⟨h9, tk9', _, (t, W.listOf #[.ref c, .int (at' + 1 + 1) tk7] n) :: (px, opx) :: (pf, opf) :: (pd, op) :: (xd, ox) :: (fd, of) :: (D, tupOf #[.str (Str.ofString "A") tk2, .str (Str.ofString "B") (tk2 + 1)] 0) :: ((add3 ++ (add2 ++ add1)) ++ news), rfl, F9, News.perm N9 ?_, ?_, ?_⟩
        · k_extra "my inn"
        · k_extra "my off"
        · refine (fun _ kk9 => kk9 (ds ++ [(x, f, e)]) (addK lf x fo) (addK lx x eo) (addK lpf x fp) (addK lpx x ep) of ox opf opx (add3 ++ (add2 ++ add1)) tk7 (at' + 1 + 1) ?_ (.snoc (hR.mono ?_) (hfv.mono ?_) hfp (hxv.mono ?_) hxp) ⟨?_, ?_, ?_, ?_⟩ hof hox hopf hopx ?_ rfl (by omega) (Apart.app hap3 (Apart.app hap2 hap1)) ?_ ?_ ?_ ?_ ?_ ?_)
          · rw [List.map_append, hds, List.take_add_one, hx]; rfl
          · k_extra "my inn"
          · k_extra "my inn"
          · k_extra "my inn"
          · exact Nat.le_trans addK_le (Nat.succ_le_succ le1)
          · exact Nat.le_trans addK_le (Nat.succ_le_succ le2)
          · exact Nat.le_trans addK_le (Nat.succ_le_succ le3)
          · exact Nat.le_trans addK_le (Nat.succ_le_succ le4)
          · exact has_of (by rfl)
          all_goals k_extra "my off"
      · intro m₁ news₁ h tk5 hQ9
        refine hQ9 _ ?_
        clear hQ9
        rintro ds lf lx lpf lpx of ox opf opx add1 tk' at' hds hR hle hof hox hopf hopx hm rfl hat hap1 o1 o2 o3 o4 o5 o6 F5 N5
        refine wpAny_execs_nil ?_
        k_extra "my q"
        refine' Mid.intro F5 (News.perm N5 ?zi) (fun _ kk9 => kk9 ds lf lx lpf lpx of ox opf opx add1 tk' at' hds hR hle hof hox hopf hopx hm rfl hat hap1 o1 o2 o3 o4 o5 o6)
        k_extra "my inn"
    clear F2 N2 hof hox hopf hopx
    intro m' all' h3 tk3 F3 N3 hQ9
    refine hQ9 _ ?_
    clear hQ9
    rintro ds lf lx lpf lpx of ox opf opx add1 tk' at' hds hR ⟨le1, le2, le3, le4⟩ hof hox hopf hopx hm rfl hat hap1 o1 o2 o3 o4 o5 o6
    replace F3 := fr_on0 F3 _ hm
    dsimp only [List.drop]
    k_steps
    all_goals k_extra "my q"
    obtain ⟨fa, ta, fb, tb, a1, b1, xa, xb, pa, pb, ya, yb, v1, v2, v3, v4, p1, p2, p3, p4, rfl, rfl, rfl, rfl⟩ := hR.two hds
    have hat4 : at' = at_ + 4 := by omega
    subst hat4
    refine' hret _ _ _ _ ?zf (News.perm ?zn (l' := (t, _) :: (((_, _) :: (_, _) :: (px, opx) :: (pf, opf) :: (pd, op) :: (xd, ox) :: (fd, of) :: add1) ++ news)) ?zp) ⟨fa, ta, fb, tb, _, tk', rfl, ?zg, ?zo, _, _, pd, _, rfl, List.mem_cons_self,
      ⟨a1, b1, xa, xb, fd, xd, of, ox, _, ?w1, ?w2, ?w3, ?w4, ⟨List.mem_cons_of_mem _ List.mem_cons_self, ?x2, ?x3⟩, ⟨?y1, hof, s1⟩, ⟨?z1, hox, s2⟩⟩, ⟨pa, pb, ya, yb, pf, px, opf, opx, op, p1, p2, p3, p4, ⟨?x4, hop, s3⟩, ⟨?x5, hopf, s4⟩, ⟨?x6, hopx, s5⟩⟩⟩
    case zf => assumption
    case zn => assumption
    case zp => k_extra "my inn"
    case zg => k_extra "my aparts"
    case x2 => assumption
    case x3 => assumption
    case y1 => k_extra "my mem"
    case z1 => k_extra "my mem"
    case x4 => k_extra "my mem"
    case x5 => k_extra "my mem"
    case x6 => k_extra "my mem"
    case zo => k_extra "my off"
    case w1 => refine v1.mono ?_; k_extra "my inn"
    case w2 => refine v2.mono ?_; k_extra "my inn"
    case w3 => refine v3.mono ?_; k_extra "my inn"
    case w4 => refine v4.mono ?_; k_extra "my inn")) only [↓Box.of]
end
section
example : True := by
  k_with "=call ref" =>
    ((fail_if_success k_extra "out C5"); ((k_here; (with_reducible show wpAny _ _ (call (Value.ref 417) _) _ _ _); k_dflt (refine' useMk2 (mkOp) ?_ ?k1z146 ?k2z146 ?k3z146 ?k4z146 ?k5z146 ?k6z146 ?k7z146 ?k8z146; (case k1z146 => k_asm); (case k2z146 => k_asm); (case k3z146 => k_asm); (case k4z146 => k_asm); (case k5z146 => k_asm); (case k6z146 => first | exact rfl | assumption); (case k7z146 => ktr_room); (case k8z146 => ktr_units); k_whole; intro _ _ _ _ _ _ _ _ _ _ _; (try k_sweep)))))
  k_with "my op" =>
    ((fail_if_success k_extra "out C5"); ((refine' OpIs.intro ?x1z147 ?x2z147 ?x3z147; (case x1z147 => k_extra "my mem"); (case x2z147 => k_extra "my mem"); (case x3z147 => first
      | (refine' OperandsAre.tf (strObj.intro ?y1z147 ?y2z147) ?y3z147; (case y3z147 => k_extra "my mem"); (case y1z147 => k_extra "my mem"); (case y2z147 => k_extra "my mem"))
      | (refine' OperandsAre.do_ (strObj.intro ?z1z147 ?z2z147) ?z3z147; (case z3z147 => k_extra "my mem"); (case z1z147 => k_extra "my mem"); (case z2z147 => k_extra "my mem"))
      | (refine' OperandsAre.q ?w1z147; (case w1z147 => k_extra "my mem")) | (refine' OperandsAre.Q ?w2z147; (case w2z147 => k_extra "my mem"))))))
  trivial

theorem deeds {w : World} {news : Led} {d : Int} {t : Tok} (h0 : 0 ≤ d) (h4 : d < 4) :
   Spec w 8 501 [.int d t] news (fun r news' => ∃ add, news' = add ++ news ∧ Apart news add ∧ ∃ l, r = .ref l ∧ DeedIs add l d) := by
  refine Box.out ?_
  simp (disch := k_dflt (
    refine Box2.mk ?_
    unfold Spec
    intro mean mg mb dp un gd cn cs a ccd cl outer A₀ base h₀ L m s Q E B F X N T hk hd hu hret
    refine wpAny_call ?_
    k_dflt ktr_enter
    k_steps
    all_goals k_extra "my q"
    all_goals try (exfalso; omega)
    · obtain rfl : d = 0 := by omega
      refine' hret _ _ _ _ ?f0 ?n0 ⟨_, OnTop.eq ?e0, ?g0, _, rfl, _, _, ?m0, OpsAre.cons ?o0 (OpsAre.cons ?p0 .nil)⟩
      case f0 => assumption
      case n0 => assumption
      case e0 => k_extra "my ontop"
      case m0 => k_extra "my mem"
      case g0 => k_extra "my aparts"
      case o0 => k_extra "my op"
      case p0 => k_extra "my op"
    · obtain rfl : d = 1 := by omega
      refine' hret _ _ _ _ ?f1 ?n1 ⟨_, OnTop.eq ?e1, ?g1, _, rfl, _, _, ?m1, OpsAre.cons ?o1 (OpsAre.cons ?p1 .nil)⟩
      case f1 => assumption
      case n1 => assumption
      case e1 => k_extra "my ontop"
      case m1 => k_extra "my mem"
      case g1 => k_extra "my aparts"
      case o1 => k_extra "my op"
      case p1 => k_extra "my op"
    · obtain rfl : d = 2 := by omega
      refine' hret _ _ _ _ ?f2 ?n2 ⟨_, OnTop.eq ?e2, ?g2, _, rfl, _, _, ?m2, OpsAre.cons ?o2 (OpsAre.cons ?p2 .nil)⟩
      case f2 => assumption
      case n2 => assumption
      case e2 => k_extra "my ontop"
      case m2 => k_extra "my mem"
      case g2 => k_extra "my aparts"
      case o2 => k_extra "my op"
      case p2 => k_extra "my op"
    · obtain rfl : d = 3 := by omega
      refine' hret _ _ _ _ ?f3 ?n3 ⟨_, OnTop.eq ?e3, ?g3, _, rfl, _, _, ?m3, OpsAre.cons ?o3 (OpsAre.cons ?p3 .nil)⟩
      case f3 => assumption
      case n3 => assumption
      case e3 => k_extra "my ontop"
      case m3 => k_extra "my mem"
      case g3 => k_extra "my aparts"
      case o3 => k_extra "my op"
      case p3 => k_extra "my op")) only [↓Box.of]
end
example : True := by
  k_with "out C5" =>
    skip
  trivial
section
theorem clss_nil (l : List Str) : clssOf topProg l = [] := rfl
theorem top_weak {l : List Str} (hl : l.all (fun x => LO.contains x) = true) {mean : ExcName → Option Value} {mg mb : Str → Option Value} {h : Heap} (T : Top topProg l mean mg mb h) : Top VW LO mean mg mb h :=
  { T with free := fun x h1 h2 h3 h4 h5 => T.free x h1 (fun q => h2 (List.contains_iff_mem.mp (List.all_eq_true.mp hl x q))) h3 h4 (by rw [clss_nil]; exact List.not_mem_nil) }
end
section
/-- the streams that the law has made -/
noncomputable def StrmsAre (w : World) (all : Led) (ys : List Value) (ds : List StrmD) : Prop := ys.length = ds.length ∧ ∀ (k : Nat) (v : Value) (d : StrmD), ys[k]? = some v → ds[k]? = some d → StreamOut w all v d.kd d.lent d.mat d.deed ∧ (0 ≤ d.lent ∧ d.lent < 4) ∧ (0 ≤ d.mat ∧ d.mat < 7) ∧ (0 ≤ d.deed ∧ d.deed < 4)
theorem StrmsAre.nil {w : World} {all : Led} : StrmsAre w all [] [] := ⟨rfl, fun k v d e => by simp at e⟩
theorem StrmsAre.mono {w : World} {all all' : Led} {ys : List Value} {ds : List StrmD} (h : StrmsAre w all ys ds) (hs : ∀ p ∈ all, p ∈ all') : StrmsAre w all' ys ds :=
  ⟨h.1, fun k v d e1 e2 => let ⟨a, b⟩ := h.2 k v d e1 e2; ⟨a.mono hs, b⟩⟩
theorem StrmsAre.snoc {w : World} {all : Led} {ys : List Value} {ds : List StrmD} {r : Value} {d : StrmD} (h : StrmsAre w all ys ds) (hr : StreamOut w all r d.kd d.lent d.mat d.deed) (hb : (0 ≤ d.lent ∧ d.lent < 4) ∧ (0 ≤ d.mat ∧ d.mat < 7) ∧ (0 ≤ d.deed ∧ d.deed < 4)) : StrmsAre w all (ys ++ [r]) (ds ++ [d]) := by
  refine ⟨by simp [h.1], fun k v d' e1 e2 => ?_⟩
  by_cases hk : k < ys.length
  · rw [List.getElem?_append_left hk] at e1
    rw [List.getElem?_append_left (h.1 ▸ hk)] at e2
    exact h.2 k v d' e1 e2
  · rw [List.getElem?_append_right (Nat.le_of_not_lt hk)] at e1
    rw [List.getElem?_append_right (h.1 ▸ Nat.le_of_not_lt hk), ← h.1] at e2
    cases q : k - ys.length with
    | zero => rw [q] at e1 e2; cases e1; cases e2; exact ⟨hr, hb⟩
    | succ n => rw [q] at e1; simp at e1
/-- the resources that the law has made -/
noncomputable def RessAre (w : World) (all : Led) (ys : List Value) (ds : List ResD) : Prop := ys.length = ds.length ∧ ∀ (k : Nat) (v : Value) (d : ResD), ys[k]? = some v → ds[k]? = some d → ResOut w all v d.fa d.ta d.fb d.tb
theorem RessAre.nil {w : World} {all : Led} : RessAre w all [] [] := ⟨rfl, fun k v d e => by simp at e⟩
theorem RessAre.mono {w : World} {all all' : Led} {ys : List Value} {ds : List ResD} (h : RessAre w all ys ds) (hs : ∀ p ∈ all, p ∈ all') : RessAre w all' ys ds :=
  ⟨h.1, fun k v d e1 e2 => (h.2 k v d e1 e2).mono hs⟩
theorem RessAre.snoc {w : World} {all : Led} {ys : List Value} {ds : List ResD} {r : Value} {d : ResD} (h : RessAre w all ys ds) (hr : ResOut w all r d.fa d.ta d.fb d.tb) : RessAre w all (ys ++ [r]) (ds ++ [d]) := by
  refine ⟨by simp [h.1], fun k v d' e1 e2 => ?_⟩
  by_cases hk : k < ys.length
  · rw [List.getElem?_append_left hk] at e1
    rw [List.getElem?_append_left (h.1 ▸ hk)] at e2
    exact h.2 k v d' e1 e2
  · rw [List.getElem?_append_right (Nat.le_of_not_lt hk)] at e1
    rw [List.getElem?_append_right (h.1 ▸ Nat.le_of_not_lt hk), ← h.1] at e2
    cases q : k - ys.length with
    | zero => rw [q] at e1 e2; cases e1; cases e2; exact hr
    | succ n => rw [q] at e1; simp at e1
/-- the first deeds that the law has made -/
noncomputable def DeedsTo (all : Led) (ys : List Value) (i : Nat) : Prop := ys.length = i ∧ ∀ k : Nat, k < i → ∃ l, ys[k]? = some (.ref l) ∧ DeedIs all l (k : Int)
theorem DeedsTo.nil {all : Led} : DeedsTo all [] 0 := ⟨rfl, fun k h => absurd h (Nat.not_lt_zero _)⟩
theorem DeedsTo.mono {all all' : Led} {ys : List Value} {i : Nat} (h : DeedsTo all ys i) (hs : ∀ p ∈ all, p ∈ all') : DeedsTo all' ys i :=
  ⟨h.1, fun k hk => let ⟨l, a, b⟩ := h.2 k hk; ⟨l, a, b.mono hs⟩⟩
theorem DeedsTo.snoc {all : Led} {ys : List Value} {i : Nat} {l : Addr} (h : DeedsTo all ys i) (hr : DeedIs all l (i : Int)) : DeedsTo all (ys ++ [.ref l]) (i + 1) := by
  refine ⟨by simp [h.1], fun k hk => ?_⟩
  by_cases hk' : k < i
  · obtain ⟨l', a, b⟩ := h.2 k hk'
    exact ⟨l', by rw [List.getElem?_append_left (h.1 ▸ hk')]; exact a, b⟩
  · have e : k = i := by omega
    subst e
    exact ⟨l, by rw [List.getElem?_append_right (Nat.le_of_eq h.1), h.1]; simp, hr⟩
set_option autoImplicit false in
/-- what stands between two draws of a stream -/
inductive PairJ (w : World) (t c : Addr) (n : Nat) (base : Led) (i : Nat) (ys : List Value) (nw : Led) : Prop
  | mk (tk : Tok) (add : Led) (ds : List StrmD)
    (_ : nw = (t, W.listOf #[.ref c, .int (4 * (i : Int)) tk] n) :: (add ++ base))
    (_ : Apart base add)
    (_ : (∀ p ∈ add, p.1 ≠ t))
    (_ : StrmsAre w add ys ds)
    (_ : ds.length = i) : PairJ w t c n base i ys nw
set_option autoImplicit false in
inductive SrcJ (w : World) (t c : Addr) (n : Nat) (base : Led) (i : Nat) (ys : List Value) (nw : Led) : Prop
  | mk (tk : Tok) (add : Led) (ds : List ResD)
    (_ : nw = (t, W.listOf #[.ref c, .int (12 + 4 * (i : Int)) tk] n) :: (add ++ base))
    (_ : Apart base add)
    (_ : (∀ p ∈ add, p.1 ≠ t))
    (_ : RessAre w add ys ds)
    (_ : ds.length = i) : SrcJ w t c n base i ys nw
section
variable {w : World} {t c : Addr} {n : Nat} {base add add2 : Led} {i : Nat} {ys : List Value} {r : Value} {tk : Tok}
theorem PairJ.succ {ds : List StrmD} {kd : Kd} {lv mv dv : Int} (hap : Apart base add) (hoft : ∀ p ∈ add, p.1 ≠ t) (hst : StrmsAre w add ys ds) (hdl : ds.length = i) (hap9 : Apart (add ++ base) add2) (hof9 : ∀ p ∈ add2, p.1 ≠ t) (hout : StreamOut w add2 r kd lv mv dv) (hb : (0 ≤ lv ∧ lv < 4) ∧ (0 ≤ mv ∧ mv < 7) ∧ (0 ≤ dv ∧ dv < 4)) :
    PairJ w t c n base (i + 1) (ys ++ [r]) ((t, W.listOf #[.ref c, .int (4 * (i : Int) + 1 + 1 + 1 + 1) tk] n) :: (add2 ++ (add ++ base))) := by
  have e : 4 * (i : Int) + 1 + 1 + 1 + 1 = 4 * ((i + 1 : Nat) : Int) := by omega
  rw [e]
  exact ⟨tk, add2 ++ add, ds ++ [⟨kd, lv, mv, dv⟩], by rw [List.append_assoc], hap.trans hap9, fun p hp => (List.mem_append.mp hp).elim (hof9 p) (hoft p), (hst.mono fun p hp => List.mem_append_right _ hp).snoc (d := ⟨kd, lv, mv, dv⟩) (hout.mono fun p hp => List.mem_append_left _ hp) hb, by simp [hdl]⟩
theorem SrcJ.succ {ds : List ResD} {fa : Fo} {ta : Th} {fb : Fo} {tb : Th} (hap : Apart base add) (hoft : ∀ p ∈ add, p.1 ≠ t) (hst : RessAre w add ys ds) (hdl : ds.length = i) (hap9 : Apart (add ++ base) add2) (hof9 : ∀ p ∈ add2, p.1 ≠ t) (hout : ResOut w add2 r fa ta fb tb) :
    SrcJ w t c n base (i + 1) (ys ++ [r]) ((t, W.listOf #[.ref c, .int (12 + 4 * (i : Int) + 4) tk] n) :: (add2 ++ (add ++ base))) := by
  have e : 12 + 4 * (i : Int) + 4 = 12 + 4 * ((i + 1 : Nat) : Int) := by omega
  rw [e]
  exact ⟨tk, add2 ++ add, ds ++ [⟨fa, ta, fb, tb⟩], by rw [List.append_assoc], hap.trans hap9, fun p hp => (List.mem_append.mp hp).elim (hof9 p) (hoft p), (hst.mono fun p hp => List.mem_append_right _ hp).snoc (d := ⟨fa, ta, fb, tb⟩) (hout.mono fun p hp => List.mem_append_left _ hp), by simp [hdl]⟩
end
set_option autoImplicit false in
/-- what stands between two turns of the deeds -/
inductive DdsJ (base : Led) (i : Nat) (ys : List Value) (nw : Led) : Prop
  | mk (add : Led)
    (_ : nw = add ++ base)
    (_ : Apart base add)
    (_ : DeedsTo add ys i) : DdsJ base i ys nw
theorem DdsJ.succ {base add add2 : Led} {i : Nat} {ys : List Value} {l : Addr} (hap : Apart base add) (hst : DeedsTo add ys i) (hap9 : Apart (add ++ base) add2) (hout : DeedIs add2 l (i : Int)) : DdsJ base (i + 1) (ys ++ [.ref l]) (add2 ++ (add ++ base)) :=
  ⟨add2 ++ add, (List.append_assoc ..).symm, hap.trans hap9, (hst.mono fun p hp => List.mem_append_right _ hp).snoc (hout.mono fun p hp => List.mem_append_left _ hp)⟩
theorem DeedsTo.all {all : Led} {dl : Addr} {ys : List Value} {n : Nat} (hm : (dl, W.listOf ys.toArray n) ∈ all) (h : DeedsTo all ys 5) : DeedsAre all dl := by
  refine ⟨_, n, hm, fun k h0 h5 => ?_⟩
  obtain ⟨l, a, b⟩ := h.2 k.toNat (by omega)
  refine ⟨l, by simpa using a, ?_⟩
  rwa [Int.toNat_of_nonneg h0] at b
/-- two lists of operations, one behind the other -/
theorem deed_two {all : Led} {vs0 vs1 : List Value} {l : Addr} {n : Nat} (h0 : OpsAre all vs0 (deedOps 0)) (h1 : OpsAre all vs1 (deedOps 1)) (hm : (l, W.listOf (vs0 ++ vs1).toArray n) ∈ all) : DeedIs all l 4 := by
  refine ⟨_, n, hm, ?_⟩
  cases h0 with
  | cons a h0 => cases h0 with
    | cons b h0 => cases h0; cases h1 with
      | cons c h1 => cases h1 with
        | cons d h1 => cases h1; exact .cons a (.cons b (.cons c (.cons d .nil)))
section
variable {K : Type} [DecidableEq K]
theorem valueAt_st_self {l : List (K × Value)} {x : K} {v : Value} : valueAt (stored l x v) x = some v := by
  unfold stored valueAt
  split
  · rename_i h
    have key : ∀ l : List (K × Value), l.any (fun kv => kv.1 = x) = true → ((l.map fun kv => if kv.1 = x then (kv.1, v) else kv).find? fun kv => kv.1 = x).map (·.2) = some v := by
      intro l
      induction l with
      | nil => intro h; simp at h
      | cons a l ih =>
        intro h
        by_cases q : a.1 = x
        · simp [q]
        · have h' : l.any (fun kv => kv.1 = x) = true := by simpa [q] using h
          rw [List.map_cons, if_neg q, List.find?_cons, decide_eq_false q]
          exact ih h'
    exact key l h
  · rename_i h
    rw [List.find?_append]
    have : l.find? (fun kv => decide (kv.1 = x)) = none := by
      rw [List.find?_eq_none]
      intro a ha q
      exact h (List.any_eq_true.mpr ⟨a, ha, q⟩)
    rw [this]
    simp
theorem valueAt_st_ne {l : List (K × Value)} {x y : K} {v : Value} (hne : x ≠ y) : valueAt (stored l x v) y = valueAt l y := by
  unfold stored valueAt
  split
  · have key : ∀ l : List (K × Value), ((l.map fun kv => if kv.1 = x then (kv.1, v) else kv).find? fun kv => kv.1 = y).map (·.2) = (l.find? fun kv => kv.1 = y).map (·.2) := by
      intro l
      induction l with
      | nil => rfl
      | cons a l ih =>
        rw [List.map_cons, List.find?_cons, List.find?_cons]
        by_cases q : a.1 = x
        · have q2 : ¬ a.1 = y := fun z => hne (q ▸ z)
          rw [if_pos q, decide_eq_false q2]
          exact ih
        · rw [if_neg q]
          by_cases q2 : a.1 = y
          · rw [decide_eq_true q2]
          · rw [decide_eq_false q2]; exact ih
    exact key l
  · rw [List.find?_append]
    simp [hne]
theorem st_len {l : List (K × Value)} {x : K} {v : Value} : (stored l x v).length ≤ l.length + 1 := by
  unfold stored; split <;> simp
end
noncomputable def SS (ds : List StrmD) (k : Int) : StrmD := (ds[k.toNat]?).getD ⟨.none, 0, 0, 0⟩
noncomputable def RR (ds : List ResD) (k : Int) : ResD := (ds[k.toNat]?).getD ⟨.missing, .missing, .missing, .missing⟩
theorem StrmsAre.at {w : World} {all : Led} {ys : List Value} {ds : List StrmD} (h : StrmsAre w all ys ds) (hl : ds.length = 3) {i : Nat} (hi : i < 3) : ∃ v, ys[i]? = some v ∧ StreamOut w all v (SS ds (i : Int)).kd (SS ds (i : Int)).lent (SS ds (i : Int)).mat (SS ds (i : Int)).deed ∧ (0 ≤ (SS ds (i : Int)).lent ∧ (SS ds (i : Int)).lent < 4) ∧ (0 ≤ (SS ds (i : Int)).mat ∧ (SS ds (i : Int)).mat < 7) ∧ (0 ≤ (SS ds (i : Int)).deed ∧ (SS ds (i : Int)).deed < 4) := by
  have h1 : i < ys.length := by rw [h.1, hl]; exact hi
  have h2 : i < ds.length := by rw [hl]; exact hi
  have e : SS ds (i : Int) = ds[i] := by simp [SS, h2]
  rw [e]
  exact ⟨ys[i], List.getElem?_eq_getElem h1, h.2 i _ _ (List.getElem?_eq_getElem h1) (List.getElem?_eq_getElem h2)⟩
theorem RessAre.at {w : World} {all : Led} {ys : List Value} {ds : List ResD} (h : RessAre w all ys ds) (hl : ds.length = 3) {i : Nat} (hi : i < 3) : ∃ v, ys[i]? = some v ∧ ResOut w all v (RR ds (i : Int)).fa (RR ds (i : Int)).ta (RR ds (i : Int)).fb (RR ds (i : Int)).tb := by
  have h1 : i < ys.length := by rw [h.1, hl]; exact hi
  have h2 : i < ds.length := by rw [hl]; exact hi
  have e : RR ds (i : Int) = ds[i] := by simp [RR, h2]
  rw [e]
  exact ⟨ys[i], List.getElem?_eq_getElem h1, h.2 i _ _ (List.getElem?_eq_getElem h1) (List.getElem?_eq_getElem h2)⟩
theorem bytes_one {w : World} {A : Around} {E : Value → Shared → Prop} {s : Shared} {h₀ : Heap} {L l : Addr} {m : Str → Option Value} {news : Led} {d : Int} {u : Tok} {n : Nat} {Q : Value → Shared → Prop} (F : Fr h₀ L s.heap m) (N : News h₀ L s.heap news) (hm : (l, W.listOf #[.int d u] n) ∈ news) (h0 : 0 ≤ d) (h4 : d < 4) (hh : A.handled = none)
    (h : ∀ h' t' k, Fr h₀ L h' m → News h₀ L h' news → Q (.bytes #[UInt8.ofNat d.toNat] t') { s with heap := h', toks := k }) : wpAny (model PP w) A (call (.type "bytes") [.ref l]) Q E s :=
  bytes_K F N (N.isList hm) (.cons d u .nil) (by intro n hn; rw [List.mem_singleton.mp hn]; omega) (by simp [sizeLine_eq]) hh fun h' t k F' N' _ => h h' t k F' N'
set_option autoImplicit false in
/-- the table behind some turns -/
inductive TabJ (w : World) (tb a7 a8 : Addr) (ps : List (String × Value)) (big : Led) (S0 : List StrmD) (R0 : List ResD) (i : Nat) (m' : Str → Option Value) (all' : Led) : Prop
  | mk (ot : Obj) (kvs : List (Int × Value)) (bigi : Led)
    (_ : (∀ p ∈ ps, m' (Str.ofString p.1) = some p.2))
    (_ : all' = (tb, ot) :: (bigi ++ (520, tabObj #[]) :: []))
    (_ : ot.IsDictOf (PySem.intKind PP w) kvs)
    (_ : kvs.length ≤ 2 + 2 * i)
    (_ : valueAt kvs 7 = some (.ref a7))
    (_ : valueAt kvs 8 = some (.ref a8))
    (_ : (∀ p ∈ big, p ∈ bigi))
    (_ : (∀ p ∈ bigi, p.1 ≠ tb))
    (_ : (∀ p ∈ bigi, p.1 ≠ 520))
    (_ : (∀ k : Nat, k < i → ∃ (tp x hd : Addr) (t : Tok) (n : Nat), valueAt kvs (1 + (k : Int)) = some (.ref tp) ∧ (tp, tupOf #[.int 0 t, .ref x] n) ∈ bigi ∧ StrmAt bigi x hd (SS S0 k).deed ∧ HeadIs w bigi hd (SS S0 k).kd (SS S0 k).lent (SS S0 k).mat))
    (_ : (∀ k : Nat, k < i → ∃ (tp rd : Addr) (t : Tok) (n : Nat), valueAt kvs (4 + (k : Int)) = some (.ref tp) ∧ (tp, tupOf #[.int 0 t, .ref rd] n) ∈ bigi ∧ ResIs w bigi rd (RR R0 k).fa (RR R0 k).ta (RR R0 k).fb (RR R0 k).tb)) : TabJ w tb a7 a8 ps big S0 R0 i m' all'
theorem TabJ.succ {w : World} {tb a7 a8 tp1 tp2 x hd rd : Addr} {ps : List (String × Value)} {big bigi bign : Led} {S0 : List StrmD} {R0 : List ResD} {i : Nat} {m' : Str → Option Value} {ot : Obj} {kvs : List (Int × Value)} {t1 t2 : Tok} {n1 n2 : Nat} (hi : i < 3) (hps : ∀ p ∈ ps, m' (Str.ofString p.1) = some p.2)
    (ho : ot.IsDictOf (PySem.intKind PP w) (stored (stored kvs (1 + (i : Int)) (.ref tp1)) (4 + (i : Int)) (.ref tp2))) (hle : kvs.length ≤ 2 + 2 * i) (h7 : valueAt kvs 7 = some (.ref a7)) (h8 : valueAt kvs 8 = some (.ref a8)) (hb : ∀ p ∈ big, p ∈ bigi) (hbn : ∀ p ∈ bigi, p ∈ bign) (hof : ∀ p ∈ bign, p.1 ≠ tb) (hof5 : ∀ p ∈ bign, p.1 ≠ 520)
    (hS : ∀ k : Nat, k < i → ∃ (tp x hd : Addr) (t : Tok) (n : Nat), valueAt kvs (1 + (k : Int)) = some (.ref tp) ∧ (tp, tupOf #[.int 0 t, .ref x] n) ∈ bigi ∧ StrmAt bigi x hd (SS S0 k).deed ∧ HeadIs w bigi hd (SS S0 k).kd (SS S0 k).lent (SS S0 k).mat)
    (hR : ∀ k : Nat, k < i → ∃ (tp rd : Addr) (t : Tok) (n : Nat), valueAt kvs (4 + (k : Int)) = some (.ref tp) ∧ (tp, tupOf #[.int 0 t, .ref rd] n) ∈ bigi ∧ ResIs w bigi rd (RR R0 k).fa (RR R0 k).ta (RR R0 k).fb (RR R0 k).tb)
    (m1 : (tp1, tupOf #[.int 0 t1, .ref x] n1) ∈ bign) (hs : StrmAt bign x hd (SS S0 i).deed) (hh : HeadIs w bign hd (SS S0 i).kd (SS S0 i).lent (SS S0 i).mat) (m2 : (tp2, tupOf #[.int 0 t2, .ref rd] n2) ∈ bign) (hr : ResIs w bign rd (RR R0 i).fa (RR R0 i).ta (RR R0 i).fb (RR R0 i).tb) :
    TabJ w tb a7 a8 ps big S0 R0 (i + 1) m' ((tb, ot) :: (bign ++ (520, tabObj #[]) :: [])) := by
  refine ⟨ot, _, bign, hps, rfl, ho, ?_, ?_, ?_, fun p hp => hbn p (hb p hp), hof, hof5, fun k hk => ?_, fun k hk => ?_⟩
  · have a := st_len (l := stored kvs (1 + (i : Int)) (.ref tp1)) (x := 4 + (i : Int)) (v := .ref tp2)
    have b := st_len (l := kvs) (x := 1 + (i : Int)) (v := .ref tp1)
    omega
  · rw [valueAt_st_ne (by omega), valueAt_st_ne (by omega)]; exact h7
  · rw [valueAt_st_ne (by omega), valueAt_st_ne (by omega)]; exact h8
  · by_cases e : k = i
    · subst e
      exact ⟨tp1, x, hd, t1, n1, by rw [valueAt_st_ne (by omega), valueAt_st_self], m1, hs, hh⟩
    · obtain ⟨tp, x', hd', t, n, b1, b2, b3, b4⟩ := hS k (by omega)
      exact ⟨tp, x', hd', t, n, by rw [valueAt_st_ne (by omega), valueAt_st_ne (by omega)]; exact b1, hbn _ b2, b3.mono hbn, b4.mono hbn⟩
  · by_cases e : k = i
    · subst e
      exact ⟨tp2, rd, t2, n2, valueAt_st_self, m2, hr⟩
    · obtain ⟨tp, rd', t, n, b1, b2, b3⟩ := hR k (by omega)
      exact ⟨tp, rd', t, n, by rw [valueAt_st_ne (by omega), valueAt_st_ne (by omega)]; exact b1, hbn _ b2, b3.mono hbn⟩
theorem world_make {w : World} {core : Led} {sh tb a7 a8 i7 : Addr} {ot o7 : Obj} {kvs : List (Int × Value)} {S0 : List StrmD} {R0 : List ResD} {u1 u2 u3 u5 : Tok} {n7 n8 : Nat} {pvs : List Value} (hs : ShelfIs core sh tb) (hm : (tb, ot) ∈ core) (ho : ot.IsDictOf (PySem.intKind PP w) kvs) (htb : (tb == sysModules) = false)
    (h7 : valueAt kvs 7 = some (.ref a7)) (h8 : valueAt kvs 8 = some (.ref a8)) (m7 : (a7, tupOf #[.int 0 u1, .ref i7] n7) ∈ core) (m8 : (a8, tupOf #[.int 0 u2, .int 0 u3] n8) ∈ core) (mi : (i7, o7) ∈ core) (ho7 : o7.IsDictOf (PySem.strKind PP w) [(Str.ofString "Id", .int 5 u5)]) (hi7 : (i7 == sysModules) = false)
    (hst : StrmsAre w core pvs S0) (hSl : S0.length = 3)
    (hS : ∀ k : Nat, k < 3 → ∃ (tp x hd : Addr) (t : Tok) (n : Nat), valueAt kvs (1 + (k : Int)) = some (.ref tp) ∧ (tp, tupOf #[.int 0 t, .ref x] n) ∈ core ∧ StrmAt core x hd (SS S0 k).deed ∧ HeadIs w core hd (SS S0 k).kd (SS S0 k).lent (SS S0 k).mat)
    (hR : ∀ k : Nat, k < 3 → ∃ (tp rd : Addr) (t : Tok) (n : Nat), valueAt kvs (4 + (k : Int)) = some (.ref tp) ∧ (tp, tupOf #[.int 0 t, .ref rd] n) ∈ core ∧ ResIs w core rd (RR R0 k).fa (RR R0 k).ta (RR R0 k).fb (RR R0 k).tb) :
    WorldIs w core sh tb (SS S0) (RR R0) := by
  refine ⟨hs, fun k h0 h3 => ?_, fun k h0 h3 => ?_, ⟨i7, o7, u5, ⟨ot, kvs, a7, u1, n7, hm, ho, htb, h7, m7⟩, mi, ho7, hi7⟩, ⟨u3, ⟨ot, kvs, a8, u2, n8, hm, ho, htb, h8, m8⟩⟩⟩
  · obtain ⟨tp, x, hd, t, n, b1, b2, b3, b4⟩ := hS k.toNat (by omega)
    obtain ⟨_, _, _, ⟨c1, c2⟩, ⟨c3, c4⟩, ⟨c5, c6⟩⟩ := hst.at hSl (i := k.toNat) (by omega)
    rw [Int.toNat_of_nonneg h0] at b1 b3 b4 c1 c2 c3 c4 c5 c6
    exact ⟨x, hd, ⟨ot, kvs, tp, t, n, hm, ho, htb, b1, b2⟩, b3, b4, c1, by omega, c5, c6, by omega⟩
  · obtain ⟨tp, rd, t, n, b1, b2, b3⟩ := hR k.toNat (by omega)
    rw [Int.toNat_of_nonneg h0] at b1 b3
    exact ⟨rd, ⟨ot, kvs, tp, t, n, hm, ho, htb, b1, b2⟩, b3⟩
theorem sub3 {a b : Led} {x y z : Addr × Obj} (h : ∀ p ∈ a, p ∈ b) : ∀ p ∈ a, p ∈ x :: y :: z :: b := fun p hp => List.mem_cons_of_mem _ (List.mem_cons_of_mem _ (List.mem_cons_of_mem _ (h p hp)))
theorem deed_pair {add : Led} {l : Addr} {d : Int} {o1 o2 : Opn} (hd : deedOps d = [o1, o2]) (h : DeedIs add l d) : ∃ x1 x2 n, (l, W.listOf #[.ref x1, .ref x2] n) ∈ add ∧ OpsAre add [.ref x1, .ref x2] [o1, o2] := by
  obtain ⟨⟨vs⟩, n, m, op⟩ := h
  rw [hd] at op
  have h2 : ∃ x1 x2 : Addr, vs = [.ref x1, .ref x2] := by
    cases op with
    | cons _ op => cases op with
      | cons _ op => cases op; exact ⟨_, _, rfl⟩
  obtain ⟨x1, x2, rfl⟩ := h2
  exact ⟨x1, x2, n, m, op⟩
end
section
section
variable {prog : Program} {w : World} {A₀ : Around} {E : Value → Shared → Prop} {s' : Shared} {h₀ h : Heap} {outer : List Env} {L a e : Addr} {m : Str → Option Value} {name : Str} {scope : Scope} {cd : Value} {cl : List (Str × Addr)}
  {b₀ : Stmt} {suite : List Stmt} {pos np : Pos} {rest : List ExceptHandler} {Q : Flow → Shared → Prop} {news : Led} {KF : Frag} {C C2 : Addr} {mN mN2 : Str → Option Value}
  {p : Program} {loose : List Str} {mean : ExcName → Option Value} {mg mb : Str → Option Value} {x : Str}
/-- the own exception, caught by its name -/
theorem caught_own (K : Below A₀ h₀ outer h₀) (F : Fr h₀ L h m) (hsm : h.UpToSlots s'.heap) (R : RaisedN h₀ (envX name scope L a cd cl :: outer) e (.ref C) news s'.heap)
    (X : KF.In h₀) (T : TopRead p loose mg mb h₀) (ex : nsIn KF mainGlobals x = some (some (.ref C))) (TT : TwoCls h₀ C C2 mN mN2)
    (k : ∀ h', Fr h₀ L h' m → News h₀ L h' news →
      wpAny (model prog w) ((A₀.deeper (envX name scope L a cd cl)).mark (some (.ref e))) (execs (b₀ :: suite) (envX name scope L a cd cl)) Q E { s' with heap := h' })
    (hk : scope.kind = .function := by rfl) (hx : (envX name scope L a cd cl).kindOf x = some .globalImplicit := by rfl) (hd : (x == ("__debug__" : Str)) = false := by decide)
    (hE : PassesOwnAt (model prog w) ((A₀.deeper (envX name scope L a cd cl)).mark (some (.ref e))) (A₀.deeper (envX name scope L a cd cl)) (envX name scope L a cd cl) E := by passes_own) :
    wpAny (model prog w) (A₀.deeper (envX name scope L a cd cl)) (noteFrame (.ref e) (envX name scope L a cd cl))
      (fun _ s₂ => wpAny (model prog w) (A₀.deeper (envX name scope L a cd cl)) (setFlight (.ref e) none) (fun _ s₃ =>
        wpAny (model prog w) (A₀.deeper (envX name scope L a cd cl)) (handleBy (.ref e) (envX name scope L a cd cl) (.ExceptHandler (some (.Name x np)) none (b₀ :: suite) pos :: rest)) Q E s₃) E s₂) E s' := by
  obtain ⟨B, a0, hB, hl, hfl⟩ := R
  have hL : B.get? L = none := by
    obtain ⟨_, ⟨L', _, hf, hn', _⟩, _⟩ := hfl.2.2.1
    obtain rfl : L = L' := Option.some.inj hf
    exact hn'
  refine wpAny_looks_onW (Around.frames_deeper K.stack) rfl hfl fun h₄ hheld₄ hsm₄ => ?_
  refine wpAny_landsW hheld₄ fun h₅ hheld hsm₅' => ?_
  have hsm₅ := hsm₄.trans hsm₅'
  have hheld' := flyingW_base hB hheld
  have F₅ := F.of_stays hheld'.1 (hsm.trans hsm₅)
  obtain ⟨ob, hob, hobc⟩ := hheld'.there
  refine wpAny_handleBy_cons (codeAny_handlers_test (nameX_K F₅ X T ex ?_ hk hx hd)) (by intro q; cases q)
  obtain ⟨⟨nm, q, N, bs, sn, sub, ab, col, dd, k0, k1, k2, k3, k5, hC, hN⟩, _⟩ := TT.keeps F₅.keep
  refine wpAny_excMatches_sub_self hC hob hobc (by simp [bmX]) (codeAny_handlers_suite ?_)
  refine lands_againW hheld fun h₆ hfl₆ hsm₆ => ?_
  have F₆ := F.of_stays (flyingW_base hB hfl₆).1 ((hsm.trans hsm₅).trans hsm₆)
  exact wpAny_passesOwnAt hE (k h₆ F₆ fun q hq => ⟨hfl₆.1 _ _ (hl q hq).1, (fun z => by have := (hl q hq).1; rw [z, hL] at this; cases this), (hl q hq).2⟩)
end
theorem sheet_all {w : World} {S : Int → StrmD} {R : Int → ResD} : ∀ f, SheetSpec w S R f
  | 0 => sheet_zero
  | f + 1 => sheet_step (sheet_all f)
theorem told_all {w : World} : ∀ f, ToldSpec w f
  | 0 => told_zero
  | f + 1 => told_step (told_all f)
/-- of what is painted: its deeds and its height -/
theorem paint_ok {S : Int → StrmD} {R : Int → ResD} (hS : ∀ k : Int, 0 ≤ k → k < 3 → 0 ≤ (S k).deed ∧ (S k).deed < 4) (hR : ∀ k : Int, 0 ≤ k → k < 3 → ThB (R k).ta ∧ ThB (R k).tb) (hl : ∀ k : Int, 0 ≤ k → k < 3 → 0 ≤ (S k).lent ∧ (S k).lent < 4) : ∀ (f : Nat) (at_ deed shift : Int) (T : OT), 0 ≤ at_ → at_ < 3 → 0 ≤ deed → deed < 5 → paint S R f at_ deed shift = some T → T.ok ∧ T.ht ≤ f
  | 0, _, _, _, _, _, _, _, _, h => by cases h
  | f + 1, at_, deed, shift, T, h0, h3, d0, d5, h => by
    have sub : ∀ {th : Th} {T' : OT}, ThB th → subT S (paint S R f) at_ th = some T' → T'.ok ∧ T'.ht ≤ f := by
      intro th T' hb he
      cases th with
      | str k =>
        unfold subT at he
        dsimp only at he
        split at he
        · split at he
          · cases he
          · have b1 := hS k hb.1 hb.2
            have b2 := hl k hb.1 hb.2
            refine paint_ok hS hR hl f _ _ _ T' ?_ ?_ b1.1 (by omega) he
            · unfold lentAt; split <;> omega
            · unfold lentAt; split <;> omega
        · cases he; exact ⟨trivial, Nat.zero_le _⟩
      | dict => cases he; exact ⟨trivial, Nat.zero_le _⟩
      | missing => cases he; exact ⟨trivial, Nat.zero_le _⟩
    have hth : ∀ x : String, ThB ((R at_).thing x) := by
      intro x
      unfold ResD.thing
      split
      · exact (hR at_ h0 h3).1
      · exact (hR at_ h0 h3).2
    have xo : ∀ {x : String} {T' : OT}, (if x ∈ formsOf deed then subT S (paint S R f) at_ ((R at_).thing x) else some .nil) = some T' → T'.ok ∧ T'.ht ≤ f := by
      intro x T' he
      split at he
      · exact sub (hth x) he
      · cases he; exact ⟨trivial, Nat.zero_le _⟩
    unfold paint at h
    dsimp only at h
    split at h
    · cases h
    · rename_i xa ea
      split at h
      · cases h
      · rename_i xb eb
        cases h
        have ha := xo ea
        have hb := xo eb
        refine ⟨⟨d0, d5, ha.1, hb.1⟩, ?_⟩
        simp only [OT.ht]
        have := ha.2
        have := hb.2
        omega
section
variable {M : Model} {A : Around} {E : Value → Shared → Prop} {s : Shared} {h₀ : Heap} {L a c P : Addr} {m mg mb : Str → Option Value} {cn : Str} {cs : Scope} {ccd : Value} {cl : List (Str × Addr)} {all rest : Led}
  {p : Program} {loose : List Str} {mean : ExcName → Option Value} {name qual : Str} {params : Arguments} {body : PySem.Expr} {scope : Scope} {ps : Array Value} {pos : Pos} {firstLine : Nat} {clos : List (Str × Addr)}
theorem lam_nest {Q : Value → Shared → Prop} (F : Fr h₀ L s.heap m) (N : News h₀ L s.heap all) (T : Top p loose mean mg mb h₀) (hcd : ccd = .ref c) (C : CodeHd h₀ c P) (hl : Pull P (tabObj ps) all rest) (off : ∀ p ∈ rest, p.1 ≠ P) (ht : TriplesOk ps.toList) (hnf : codeAmong pos ps.toList = none)
    (hcl : closureFor scope (envX cn cs L a ccd cl) = pure clos)
    (h : ∀ (qq : Str) (pm : Value) f c' oc vs t ctv h' tk, Fr h₀ L h' m →
      News h₀ L h' ((f, kla_obj name qq params body scope clos pm c' ctv) :: (c', oc) :: (P, tabObj (ps ++ #[rawInt pos.line, rawInt pos.col, .ref c'])) :: rest) →
      oc.data = .fields vs → vs[1]? = some (.str qq t) → (∀ q ∈ (P, tabObj ps) :: rest, q.1 < c') → c' < f → Q (.ref f) { s with heap := h', toks := tk }) :
    wpAny M A (makeFunction name qual params (.expr body) scope (envX cn cs L a ccd cl) [] [] [] pos firstLine) Q E s :=
  kla_nest F (News.pull N hl) T C hcd (UpdF.head off) ht hnf hcl (h qual _)
end
theorem lam_pack {g h : Heap} {L f2 c2 P f1 c1 DT : Addr} {o2 oc2 ot o1 oc1 oT : Obj} {aI core : Led} (N : News g L h ((f2, o2) :: (c2, oc2) :: (P, ot) :: (f1, o1) :: (c1, oc1) :: (DT, oT) :: (aI ++ (core ++ [])))) :
    ∃ all : Led, News g L h all ∧ (f2, o2) ∈ all ∧ (c2, oc2) ∈ all ∧ (P, ot) ∈ all ∧ (f1, o1) ∈ all ∧ (c1, oc1) ∈ all ∧ (DT, oT) ∈ all ∧ (∀ p ∈ aI, p ∈ all) ∧ (∀ p ∈ core, p ∈ all) := by
  refine Box.out ?_
  simp (disch := k_dflt (
    refine Box2.mk ?_
    refine ⟨_, N, ?_, ?_, ?_, ?_, ?_, ?_, ?_, ?_⟩
    · k_extra "my mem"
    · k_extra "my mem"
    · k_extra "my mem"
    · k_extra "my mem"
    · k_extra "my mem"
    · k_extra "my mem"
    · k_extra "my inn"
    · k_extra "my inn")) only [↓Box.of]
theorem bytes_item {w : World} {A : Around} {E : Value → Shared → Prop} {s : Shared} {value slice : PySem.Expr} {d : Int} {t ui : Tok} {Q : Value → Shared → Prop} (h0 : 0 ≤ d) (h4 : d < 4) (h : ∀ tk s', s' = { s with toks := s.toks + 1 } → Q (.int d tk) s')
    (hs : subscripted slice false (.bytes #[UInt8.ofNat d.toNat] t) (.int 0 ui) = operate [.bytes #[UInt8.ofNat d.toNat] t, .int 0 ui] (getItem (.bytes #[UInt8.ofNat d.toNat] t) (.int 0 ui)) := by with_unfolding_all rfl)
    (ht : ∀ r, letTemporaryGo value (.bytes #[UInt8.ofNat d.toNat] t) r = pure () := by intro _; with_unfolding_all rfl) : wpAny (model PP w) A (subscriptTail value slice (.bytes #[UInt8.ofNat d.toNat] t) (.int 0 ui)) Q E s := by
  refine bytes_item_K (x := [UInt8.ofNat d.toNat]) (by rw [List.length_singleton]; decide) (Int.le_refl _) (by rw [List.length_singleton]; decide) (k := d) ?_ (h _ _ rfl) hs ht
  have h5 : d = 0 ∨ d = 1 ∨ d = 2 ∨ d = 3 := by omega
  rcases h5 with rfl | rfl | rfl | rfl <;> rfl
/-- the plain words, the first some -/
noncomputable def PlJ (w : World) (base : Led) (S0 : List StrmD) (i : Nat) (ys : List Value) (nw : Led) : Prop := nw = base ∧ ys.length = i ∧ ∀ k : Nat, k < i → ∃ pd, ys[k]? = some (.ref pd) ∧ PlainIs w base pd (SS S0 k).kd (SS S0 k).lent (SS S0 k).mat (SS S0 k).deed
theorem PlJ.succ {w : World} {base : Led} {S0 : List StrmD} {i : Nat} {ys : List Value} {pd : Addr} (h : PlJ w base S0 i ys base) (hp : PlainIs w base pd (SS S0 i).kd (SS S0 i).lent (SS S0 i).mat (SS S0 i).deed) : PlJ w base S0 (i + 1) (ys ++ [.ref pd]) base := by
  obtain ⟨_, hl, h⟩ := h
  refine ⟨rfl, by simp [hl], fun k hk => ?_⟩
  by_cases hk' : k < i
  · obtain ⟨p, a, b⟩ := h k hk'
    exact ⟨p, by rw [List.getElem?_append_left (hl ▸ hk')]; exact a, b⟩
  · have e : k = i := by omega
    subst e
    exact ⟨pd, by rw [List.getElem?_append_right (Nat.le_of_eq hl), hl]; simp, hp⟩
noncomputable def PrJ (w : World) (base : Led) (R0 : List ResD) (i : Nat) (ys : List Value) (nw : Led) : Prop := nw = base ∧ ys.length = i ∧ ∀ k : Nat, k < i → ∃ pd, ys[k]? = some (.ref pd) ∧ PlainResIs w base pd (RR R0 k).fa (RR R0 k).ta (RR R0 k).fb (RR R0 k).tb
theorem PrJ.succ {w : World} {base : Led} {R0 : List ResD} {i : Nat} {ys : List Value} {pd : Addr} (h : PrJ w base R0 i ys base) (hp : PlainResIs w base pd (RR R0 i).fa (RR R0 i).ta (RR R0 i).fb (RR R0 i).tb) : PrJ w base R0 (i + 1) (ys ++ [.ref pd]) base := by
  obtain ⟨_, hl, h⟩ := h
  refine ⟨rfl, by simp [hl], fun k hk => ?_⟩
  by_cases hk' : k < i
  · obtain ⟨p, a, b⟩ := h k hk'
    exact ⟨p, by rw [List.getElem?_append_left (hl ▸ hk')]; exact a, b⟩
  · have e : k = i := by omega
    subst e
    exact ⟨pd, by rw [List.getElem?_append_right (Nat.le_of_eq hl), hl]; simp, hp⟩
theorem plain_make {w : World} {all base1 base2 : Led} {sl rl : Addr} {S0 : List StrmD} {R0 : List ResD} {ys zs : List Value} {n1 n2 : Nat} {nw1 nw2 : Led} {pvs : List Value} (hst : StrmsAre w all pvs S0) (hSl : S0.length = 3) (m1 : (sl, W.listOf ys.toArray n1) ∈ all) (m2 : (rl, W.listOf zs.toArray n2) ∈ all)
    (h1 : PlJ w base1 S0 3 ys nw1) (s1 : ∀ p ∈ base1, p ∈ all) (h2 : PrJ w base2 R0 3 zs nw2) (s2 : ∀ p ∈ base2, p ∈ all) (hth : ∀ k : Int, 0 ≤ k → k < 3 → ThB (RR R0 k).ta ∧ ThB (RR R0 k).tb) : PlainW w all sl rl (SS S0) (RR R0) := by
  refine ⟨⟨_, n1, m1, fun k h0 h3 => ?_⟩, ⟨_, n2, m2, fun k h0 h3 => ?_⟩⟩
  · obtain ⟨pd, a, b⟩ := h1.2.2 k.toNat (by omega)
    have q := hst.at hSl (i := k.toNat) (by omega)
    rw [Int.toNat_of_nonneg h0] at b q
    obtain ⟨_, _, _, ⟨c1, c2⟩, _, ⟨c5, c6⟩⟩ := q
    exact ⟨pd, by simpa using a, b.mono s1, c1, by omega, c5, c6⟩
  · obtain ⟨pd, a, b⟩ := h2.2.2 k.toNat (by omega)
    rw [Int.toNat_of_nonneg h0] at b
    exact ⟨pd, by simpa using a, b.mono s2, hth k h0 h3⟩
theorem dat_deep : ∀ (T : OT) (d : Dat) (n : Nat), T.dat = some d → 3 * T.ht ≤ n → kqdOk n d = true := by
  intro T
  induction T with
  | nil => intro d n h; cases h
  | node deed shift fa fb xa xb iha ihb =>
    intro d n h hn
    cases h
    simp only [OT.ht] at hn
    obtain ⟨m, rfl⟩ : ∃ m, n = m + 3 := ⟨n - 3, by omega⟩
    have hA : PyData.strOk (Str.ofString "A") = true := by decide +kernel
    have hB : PyData.strOk (Str.ofString "B") = true := by decide +kernel
    have hf : ∀ (x : String) (o : Option Int), PyData.strOk (Str.ofString x) = true → (pairF x o).all (kqdOk (m + 1)) = true := by
      intro x o hx
      cases o with
      | none => rfl
      | some i => cases m <;> simp [pairF, kqdOk, hx]
    have hx : ∀ (x : String) (T : OT), PyData.strOk (Str.ofString x) = true → (∀ d n, T.dat = some d → 3 * T.ht ≤ n → kqdOk n d = true) → 3 * T.ht ≤ m → (pairX x T.dat).all (kqdOk (m + 1)) = true := by
      intro x T hs ih hm
      cases e : T.dat with
      | none => rfl
      | some d => cases m <;> simp [pairX, kqdOk, hs, ih d _ e hm]
    simp only [kqdOk, List.all_cons, List.all_nil, List.all_append, Bool.and_eq_true, and_true, true_and]
    exact ⟨⟨hf _ _ hA, hf _ _ hB⟩, hx _ _ hA iha (by omega), hx _ _ hB ihb (by omega)⟩
theorem due_deep {S : Int → StrmD} {R : Int → ResD} {o : Option OT} (h : ∀ T, o = some T → (∃ d, T.dat = some d) ∧ T.ht ≤ 9) : kqdOk 27 (dueDat o) = true := by
  cases o with
  | none => rfl
  | some T =>
    obtain ⟨⟨d, hd⟩, hh⟩ := h T rfl
    have e : dueDat (some T) = d := by simp [dueDat, hd]
    rw [e]
    exact dat_deep T d 27 hd (by omega)
end
section
example : True := by
  k_with "my off3" =>
    ((fail_if_success k_extra "out X1"); (first | (with_reducible refine' off3_appA ?a9z148 ?b9z148 ?c9z148 ?d9z148 ?e9z148; (case d9z148 => with_reducible assumption); (case a9z148 => k_extra "my mem"); (case b9z148 => k_extra "my mem"); (case c9z148 => k_extra "my mem"); (case e9z148 => k_extra "my off3")) | fail "my off3"))
  k_with "my off" =>
    ((fail_if_success k_extra "out X1"); (first | (with_reducible refine' Apart.ne ?h9z149 ?m9z149; (case h9z149 => with_reducible assumption); (case m9z149 => k_extra "my mem")) | fail "my off"))
  k_with "=call builtin:list.append" =>
    ((fail_if_success k_extra "out X1"); ((k_here; (with_reducible show wpAny _ _ (call (Value.builtin _) [Value.ref _, _]) _ _ _); k_dflt (refine' app_pull ?Fz150 ?Nz150 ?hlz150 ?offz150 ?_ ?zz150; (case Fz150 => k_asm); (case Nz150 => k_asm); (case hlz150 => k_extra "my pull"); (case offz150 => k_extra "my off"); (case zz150 => (rw [sizeLine_eq]; (try simp only [List.size_toArray]); omega))); intro _ _ N'; (try dsimp only at N'); (try k_sweep))))
  k_with "=call ref" =>
    ((fail_if_success k_extra "out X1"); ((k_here; (with_reducible show wpAny _ _ (call (Value.ref 233) _) _ _ _); k_dflt (refine' useMk2 (mkStream) ?_ ?k1z151 ?k2z151 ?k3z151 ?k4z151 ?k5z151 ?k6z151 ?k7z151 ?k8z151; (case k1z151 => k_asm); (case k2z151 => k_asm); (case k3z151 => k_asm); (case k4z151 => k_asm); (case k5z151 => k_asm); (case k6z151 => first | exact rfl | assumption); (case k7z151 => ktr_room); (case k8z151 => ktr_units); k_whole; intro _ _ _ _ _ _ _ _ _ _ _; (try k_sweep)))))
  k_with "=call ref" =>
    ((fail_if_success k_extra "out X1"); ((k_here; (with_reducible show wpAny _ _ (call (Value.ref 487) _) _ _ _); refine hold_of ?_)))
  k_with "=call ref" =>
    ((fail_if_success k_extra "out X1"); ((k_here; (with_reducible show wpAny _ _ (call (Value.ref 494) _) _ _ _); refine hold_of ?_)))
  k_with "=call ref" =>
    ((fail_if_success k_extra "out X1"); ((k_here; (with_reducible show wpAny _ _ (call (Value.ref 501) _) _ _ _); refine hold_of ?_)))
  k_with "=CompSrc" =>
    ((fail_if_success k_extra "out X1"); ((refine hold_of ?_)))
  k_with "=CompSrcT" =>
    ((fail_if_success k_extra "out X1"); ((refine hold_of ?_)))
  k_with "=storeName" =>
    ((fail_if_success k_extra "out X1"); ((k_here; (with_reducible show wpAny _ _ (storeName _ (Str.ofString "deeds") _) _ _ _); refine hold_of ?_)))
  k_with "=setItem ref int" =>
    ((fail_if_success k_extra "out X1"); ((k_here; k_dflt (refine' kda_set (knd := PySem.intKind _ _) ?Fz158 ?Nz158 ?Uz158 ?dz158 (intKind_is _ _ _ _) ?zz158 ?_; (case Fz158 => k_asm); (case Nz158 => k_asm); (case Uz158 => k_updF); (case dz158 => k_asm); (case zz158 => (rw [sizeLine_eq]; have ha9 := @st_len; first | omega | (refine Nat.le_trans st_len ?_; omega)))); intro _ _ _ N' _; (try dsimp only at N'); (try k_sweep))))
  k_with "=call type:bytes" =>
    ((fail_if_success k_extra "out X1"); ((k_here; (with_reducible show wpAny _ _ (call (Value.type "bytes") [Value.ref _]) _ _ _); k_dflt (refine' bytes_one ?Fz159 ?Nz159 ?mz159 ?h0z159 ?h4z159 ?hhz159 ?_; (case Fz159 => k_asm); (case Nz159 => k_asm); (case mz159 => k_mem); (case h0z159 => with_reducible assumption); (case h4z159 => with_reducible assumption); (case hhz159 => rfl)); intro _ _ _ _ _; (try k_sweep))))
  k_with "=call type:range" =>
    ((fail_if_success k_extra "out X1"); ((k_here; (with_reducible show wpAny _ _ (call (Value.type "range") _) (fun xv s₁ => wpAny _ _ (pyIter xv) (fun it s₂ => LoopAtV _ _ _ _ _ _ _ _ _ it s₂) _ s₁) _ _); refine hold_of ?_)))
  k_with "=call ref" =>
    ((fail_if_success k_extra "out X1"); ((k_here; (with_reducible show wpAny _ _ (call (Value.ref 473) _) _ _ _); refine hold_of ?_)))
  k_with "=eval Lambda" =>
    ((fail_if_success k_extra "out X1"); ((k_here; k_dflt (refine' kla_eval ?d0z162 ?_; (case d0z162 => exact rfl)); k_dflt (refine' lam_nest ?Fz162 ?Nz162 ?Tz162 ?cdz162 ?Cz162 ?hlz162 ?offz162 ?tz162 ?nz162 ?clz162 ?_; (case Fz162 => k_asm); (case Nz162 => k_asm); (case Tz162 => k_asm); (case cdz162 => exact rfl); (case Cz162 => with_reducible assumption); (case hlz162 => k_extra "my pull"); (case offz162 => k_extra "my off"); (case tz162 => kn_triples); (case nz162 => kn_among); (case clz162 => exact rfl)); intro _ _ _ _ _ _ _ _ _ _ _ _ _ _ l1 l2; (try k_lt2 l2); (have l3' := @Nat.lt_trans _ _ _ (l1 _ List.mem_cons_self) l2))))
  k_with "=subscriptTail" =>
    ((fail_if_success k_extra "out X1"); ((k_here; (with_reducible show wpAny _ _ (subscriptTail _ _ (Value.bytes _ _) (Value.int _ _)) _ _ _); k_dflt (refine' bytes_item ?h0z163 ?h4z163 ?_; (case h0z163 => with_reducible assumption); (case h4z163 => with_reducible assumption); k_whole); (intro _ _ e9; subst e9))))
  k_with "=call ref" =>
    ((fail_if_success k_extra "out X1"); ((k_here; (with_reducible show wpAny _ _ (call (Value.ref 513) _) _ _ _); refine hold_of ?_)))
  k_with "=compareOp Eq" =>
    ((fail_if_success k_extra "out X1"); ((k_here; (with_reducible show wpAny _ _ (compareOp CmpOp.Eq _ _) _ _ _); refine hold_of ?_)))
  k_with "=compareOp" =>
    ((fail_if_success k_extra "out X1"); ((k_here; (with_reducible show wpAny _ _ (compareOp CmpOp.Eq _ _) _ _ _); refine hold_of ?_)))
  trivial

set_option autoImplicit false in
inductive QX1_1 (sl : Addr) (L' : Addr) (oc1 : Obj) (m' : Str → Option Value) (all' : Led) : Prop
  | mk (t c : Addr) (cvs : List Value) (cns : List Int) (nc n : Nat) (tk : Tok) (oct : Obj)
    (_ : m' = locs [("script", .ref sl)])
    (_ : all' = (t, W.listOf #[.ref c, .int 0 tk] n) :: (c, W.listOf cvs.toArray nc) :: (L' + 1, oct) :: (L' + 1 + 1, oc1) :: (520, tabObj #[]) :: [])
    (_ : oct.data = .cell (some (.ref t)))
    (_ : IntsAre cvs cns)
    (_ : 1 ≤ cns.length)
    (_ : cns.length ≤ 60)
    (_ : @LT.lt Nat _ c t)
    (_ : @LT.lt Nat _ (L' + 1 + 1) c) : QX1_1 sl L' oc1 m' all'
set_option autoImplicit false in
inductive QX1_2 (w : World) (sl : Addr) (t : Addr) (c : Addr) (L' : Addr) (oct : Obj) (oc1 : Obj) (n : Nat) (nc : Nat) (cvs : List Value) (m' : Str → Option Value) (all' : Led) : Prop
  | mk (pl : Addr) (pvs : List Value) (pn : Nat) (add : Led) (S0 : List StrmD) (tk : Tok)
    (_ : m' = locs [("pairs", .ref pl), ("script", .ref sl)])
    (_ : all' = (t, W.listOf #[.ref c, .int 12 tk] n) :: (add ++ (c, W.listOf cvs.toArray nc) :: (L' + 1, oct) :: (L' + 1 + 1, oc1) :: (520, tabObj #[]) :: []))
    (_ : Apart ((c, W.listOf cvs.toArray nc) :: (L' + 1, oct) :: (L' + 1 + 1, oc1) :: (520, tabObj #[]) :: []) add)
    (_ : (∀ p ∈ add, p.1 ≠ t))
    (_ : (pl, W.listOf pvs.toArray pn) ∈ add)
    (_ : StrmsAre w add pvs S0)
    (_ : S0.length = 3) : QX1_2 w sl t c L' oct oc1 n nc cvs m' all'
set_option autoImplicit false in
inductive QX1_3 (w : World) (add : Led) (pl : Addr) (sl : Addr) (L' : Addr) (oc1 : Obj) (m' : Str → Option Value) (all' : Led) : Prop
  | mk (ql : Addr) (qvs : List Value) (qn : Nat) (addR : Led) (R0 : List ResD)
    (_ : m' = locs [("sources", .ref ql), ("pairs", .ref pl), ("script", .ref sl)])
    (_ : all' = addR ++ (add ++ (L' + 1 + 1, oc1) :: (520, tabObj #[]) :: []))
    (_ : Apart (add ++ (L' + 1 + 1, oc1) :: (520, tabObj #[]) :: []) addR)
    (_ : (ql, W.listOf qvs.toArray qn) ∈ addR)
    (_ : RessAre w addR qvs R0)
    (_ : R0.length = 3) : QX1_3 w add pl sl L' oc1 m' all'
set_option autoImplicit false in
inductive QX1_4 (addR : Led) (add : Led) (ql : Addr) (pl : Addr) (sl : Addr) (L' : Addr) (oc1 : Obj) (m' : Str → Option Value) (all' : Led) : Prop
  | mk (dl : Addr) (dvs : List Value) (dn : Nat) (addD : Led) (od : Obj)
    (_ : m' = locs [("sources", .ref ql), ("pairs", .ref pl), ("script", .ref sl)])
    (_ : all' = (L' + 1 + 1, od) :: (dl, W.listOf dvs.toArray dn) :: (addD ++ (addR ++ (add ++ (520, tabObj #[]) :: []))))
    (_ : od.data = .cell (some (.ref dl)))
    (_ : Apart (addR ++ (add ++ (L' + 1 + 1, oc1) :: (520, tabObj #[]) :: [])) ((dl, W.listOf dvs.toArray dn) :: addD))
    (_ : (∀ p ∈ addD, p.1 ≠ dl))
    (_ : DeedsTo addD dvs 4) : QX1_4 addR add ql pl sl L' oc1 m' all'
set_option autoImplicit false in
inductive QX1_5 (w : World) (ql : Addr) (pl : Addr) (sl : Addr) (L' : Addr) (dl : Addr) (od : Obj) (pn : Nat) (qn : Nat) (pvs : List Value) (S0 : List StrmD) (qvs : List Value) (R0 : List ResD) (m' : Str → Option Value) (all' : Led) : Prop
  | mk (big : Led)
    (_ : m' = locs [("sources", .ref ql), ("pairs", .ref pl), ("script", .ref sl)])
    (_ : all' = big ++ (520, tabObj #[]) :: [])
    (_ : (∀ p ∈ big, p.1 ≠ 520))
    (_ : (L' + 1 + 1, od) ∈ big)
    (_ : (pl, W.listOf pvs.toArray pn) ∈ big)
    (_ : StrmsAre w big pvs S0)
    (_ : (ql, W.listOf qvs.toArray qn) ∈ big)
    (_ : RessAre w big qvs R0)
    (_ : DeedsAre big dl) : QX1_5 w ql pl sl L' dl od pn qn pvs S0 qvs R0 m' all'
set_option autoImplicit false in
inductive QX1_6 (w : World) (big : Led) (ql : Addr) (pl : Addr) (sl : Addr) (m' : Str → Option Value) (all' : Led) : Prop
  | mk (tb a7 a8 i7 : Addr) (ot o7 : Obj) (u1 u2 u3 u5 k7 k8 : Tok) (n7 n8 : Nat) (big2 : Led)
    (_ : m' = locs [("table", .ref tb), ("sources", .ref ql), ("pairs", .ref pl), ("script", .ref sl)])
    (_ : all' = (tb, ot) :: (big2 ++ (520, tabObj #[]) :: []))
    (_ : ot.IsDictOf (PySem.intKind PP w) (intKeyPairs [(.int 7 k7, .ref a7), (.int 8 k8, .ref a8)]))
    (_ : (tb == sysModules) = false)
    (_ : @LT.lt Nat _ 520 tb)
    (_ : (∀ p ∈ big2, p.1 ≠ tb))
    (_ : (∀ p ∈ big2, p.1 ≠ 520))
    (_ : (∀ p ∈ big, p ∈ big2))
    (_ : (a7, tupOf #[.int 0 u1, .ref i7] n7) ∈ big2)
    (_ : (a8, tupOf #[.int 0 u2, .int 0 u3] n8) ∈ big2)
    (_ : (i7, o7) ∈ big2)
    (_ : o7.IsDictOf (PySem.strKind PP w) [(Str.ofString "Id", .int 5 u5)])
    (_ : (i7 == sysModules) = false) : QX1_6 w big ql pl sl m' all'
set_option autoImplicit false in
inductive QX1_7 (w : World) (m' : Str → Option Value) (tb : Addr) (ql : Addr) (pl : Addr) (sl : Addr) (dl : Addr) (L' : Addr) (od : Obj) (pn : Nat) (qn : Nat) (S0 : List StrmD) (R0 : List ResD) (pvs : List Value) (qvs : List Value) (m'' : Str → Option Value) (all' : Led) : Prop
  | mk (sh : Addr) (core : Led)
    (_ : m'' = locsOn m' [("shelf", Value.ref sh), ("table", .ref tb), ("sources", .ref ql), ("pairs", .ref pl), ("script", .ref sl)])
    (_ : all' = core ++ (520, tabObj #[]) :: [])
    (_ : (∀ p ∈ core, p.1 ≠ 520))
    (_ : WorldIs w core sh tb (SS S0) (RR R0))
    (_ : DeedsAre core dl)
    (_ : (L' + 1 + 1, od) ∈ core)
    (_ : (pl, W.listOf pvs.toArray pn) ∈ core)
    (_ : (ql, W.listOf qvs.toArray qn) ∈ core)
    (_ : StrmsAre w core pvs S0)
    (_ : RessAre w core qvs R0) : QX1_7 w m' tb ql pl sl dl L' od pn qn S0 R0 pvs qvs m'' all'
set_option autoImplicit false in
inductive QX1_8 (w : World) (ql : Addr) (pl : Addr) (pn : Nat) (qn : Nat) (pvs : List Value) (qvs : List Value) (S0 : List StrmD) (R0 : List ResD) (m3 : Str → Option Value) (all' : Led) : Prop
  | mk (fv : Value) (ps : Array Value)
    (_ : (∀ p ∈ [("found", fv), ("sources", Value.ref ql), ("pairs", .ref pl)], m3 (Str.ofString p.1) = some p.2))
    (_ : (520, tabObj ps) ∈ all')
    (_ : (pl, W.listOf pvs.toArray pn) ∈ all')
    (_ : (ql, W.listOf qvs.toArray qn) ∈ all')
    (_ : StrmsAre w all' pvs S0)
    (_ : RessAre w all' qvs R0)
    (_ : DatIn all' fv (dueDat (due (SS S0) (RR R0) 9 0 4 0))) : QX1_8 w ql pl pn qn pvs qvs S0 R0 m3 all'
theorem law_ok.tw10012479879170010862 : True := trivial
theorem law_ok.tw10141859146593582305 : True := trivial
theorem law_ok.tw10268879789366058922 : True := trivial
theorem law_ok.tw10297574901788101794 : True := trivial
theorem law_ok.tw1033563876918301386 : True := trivial
theorem law_ok.tw10372596584106923900 : True := trivial
theorem law_ok.tw1038946958811069917 : True := trivial
theorem law_ok.tw10414963769798558729 : True := trivial
theorem law_ok.tw10445056624341554395 : True := trivial
theorem law_ok.tw10459375310814284735 : True := trivial
theorem law_ok.tw10476424027884668821 : True := trivial
theorem law_ok.tw10500796754243054347 : True := trivial
theorem law_ok.tw10547367356602853888 : True := trivial
theorem law_ok.tw10561700564135272432 : True := trivial
theorem law_ok.tw10600113419552330170 : True := trivial
theorem law_ok.tw10625090877074703825 : True := trivial
theorem law_ok.tw10630332960695643541 : True := trivial
theorem law_ok.tw10711307178010309023 : True := trivial
theorem law_ok.tw10747075201240612423 : True := trivial
theorem law_ok.tw10789341057215718106 : True := trivial
theorem law_ok.tw10847527104187177683 : True := trivial
theorem law_ok.tw10861644312172809063 : True := trivial
theorem law_ok.tw10869366540074513172 : True := trivial
theorem law_ok.tw1089120489518695355 : True := trivial
theorem law_ok.tw10891882547920919738 : True := trivial
theorem law_ok.tw10904749744504994294 : True := trivial
theorem law_ok.tw10921849914867165041 : True := trivial
theorem law_ok.tw10952926067378490198 : True := trivial
theorem law_ok.tw10965555587067577654 : True := trivial
theorem law_ok.tw10972568857618404295 : True := trivial
theorem law_ok.tw11034764148145307989 : True := trivial
theorem law_ok.tw11047920712682165190 : True := trivial
theorem law_ok.tw11060437701027195343 : True := trivial
theorem law_ok.tw11078584202671501607 : True := trivial
theorem law_ok.tw11101197923615915921 : True := trivial
theorem law_ok.tw11102426719226159226 : True := trivial
theorem law_ok.tw11134094892897756815 : True := trivial
theorem law_ok.tw11148672621180681492 : True := trivial
theorem law_ok.tw1123876990009098271 : True := trivial
theorem law_ok.tw11276639237234923909 : True := trivial
theorem law_ok.tw11428322920017081344 : True := trivial
theorem law_ok.tw1145414946385591264 : True := trivial
theorem law_ok.tw11494174202697743994 : True := trivial
theorem law_ok.tw11561936418431809499 : True := trivial
theorem law_ok.tw11628221752760652321 : True := trivial
theorem law_ok.tw11702203403409982260 : True := trivial
theorem law_ok.tw11726557904778967422 : True := trivial
theorem law_ok.tw11773316227452262185 : True := trivial
theorem law_ok.tw11802476623031146041 : True := trivial
theorem law_ok.tw11811496802793099539 : True := trivial
theorem law_ok.tw11836950400474137844 : True := trivial
theorem law_ok.tw11982750745061242497 : True := trivial
theorem law_ok.tw11985721062450620623 : True := trivial
theorem law_ok.tw12050729888242245709 : True := trivial
theorem law_ok.tw12179942214473075342 : True := trivial
theorem law_ok.tw1220030944622457381 : True := trivial
theorem law_ok.tw12254368416156085317 : True := trivial
theorem law_ok.tw1226483584014160141 : True := trivial
theorem law_ok.tw1226824053636396120 : True := trivial
theorem law_ok.tw12331781611874594633 : True := trivial
theorem law_ok.tw12391086972666550107 : True := trivial
theorem law_ok.tw12397938930275722795 : True := trivial
theorem law_ok.tw1240012278758316483 : True := trivial
theorem law_ok.tw12403147902078164853 : True := trivial
theorem law_ok.tw12425992467787610314 : True := trivial
theorem law_ok.tw12455062753450229484 : True := trivial
theorem law_ok.tw12472381223965249493 : True := trivial
theorem law_ok.tw12490153383875378636 : True := trivial
theorem law_ok.tw12528335116697255576 : True := trivial
theorem law_ok.tw12590893165067909224 : True := trivial
theorem law_ok.tw12614643848160342147 : True := trivial
theorem law_ok.tw12653161283841797417 : True := trivial
theorem law_ok.tw12655982050399246214 : True := trivial
theorem law_ok.tw1270216625399542103 : True := trivial
theorem law_ok.tw12768317785297742883 : True := trivial
theorem law_ok.tw12995852178635112203 : True := trivial
theorem law_ok.tw13016895996114682215 : True := trivial
theorem law_ok.tw13018417811647714401 : True := trivial
theorem law_ok.tw13018927060474058511 : True := trivial
theorem law_ok.tw13021271742673932865 : True := trivial
theorem law_ok.tw13022590507434106435 : True := trivial
theorem law_ok.tw1306241110963214795 : True := trivial
theorem law_ok.tw13085212291775750020 : True := trivial
theorem law_ok.tw13099867473740493098 : True := trivial
theorem law_ok.tw13101834047339246624 : True := trivial
theorem law_ok.tw13109145970847376091 : True := trivial
theorem law_ok.tw13213042800498345917 : True := trivial
theorem law_ok.tw13229462541264499840 : True := trivial
theorem law_ok.tw13301257972681283543 : True := trivial
theorem law_ok.tw13327827979365782507 : True := trivial
theorem law_ok.tw13342742401248724747 : True := trivial
theorem law_ok.tw13415629036179248361 : True := trivial
theorem law_ok.tw13433541878458056358 : True := trivial
theorem law_ok.tw13475123123177324015 : True := trivial
theorem law_ok.tw13545497429126178422 : True := trivial
theorem law_ok.tw13574991917116087893 : True := trivial
theorem law_ok.tw13597333520160298596 : True := trivial
theorem law_ok.tw13601698912884245990 : True := trivial
theorem law_ok.tw13624742960796250203 : True := trivial
theorem law_ok.tw13627918818707173467 : True := trivial
theorem law_ok.tw13665329438705366092 : True := trivial
theorem law_ok.tw13702176116457618797 : True := trivial
theorem law_ok.tw13748006842988471338 : True := trivial
theorem law_ok.tw13786520517968327729 : True := trivial
theorem law_ok.tw13814273553951929546 : True := trivial
theorem law_ok.tw13816265215709503744 : True := trivial
theorem law_ok.tw13824868169494187883 : True := trivial
theorem law_ok.tw13895035210866501885 : True := trivial
theorem law_ok.tw13944658934666548201 : True := trivial
theorem law_ok.tw13952841820173172036 : True := trivial
theorem law_ok.tw14012625760524643413 : True := trivial
theorem law_ok.tw14019946597874815884 : True := trivial
theorem law_ok.tw14094815315185448338 : True := trivial
theorem law_ok.tw14133953589978561511 : True := trivial
theorem law_ok.tw14142314080292169694 : True := trivial
theorem law_ok.tw14145103849939954744 : True := trivial
theorem law_ok.tw14195192171034933768 : True := trivial
theorem law_ok.tw14248210991872372061 : True := trivial
theorem law_ok.tw14259016013844480606 : True := trivial
theorem law_ok.tw1426654599973094809 : True := trivial
theorem law_ok.tw14344687710529873745 : True := trivial
theorem law_ok.tw14387815473439380390 : True := trivial
theorem law_ok.tw14434180179415169566 : True := trivial
theorem law_ok.tw14435985506372926911 : True := trivial
theorem law_ok.tw14449943656951491206 : True := trivial
theorem law_ok.tw14543365057036940560 : True := trivial
theorem law_ok.tw14555245534657897199 : True := trivial
theorem law_ok.tw14570104732457111890 : True := trivial
theorem law_ok.tw14652604958342383117 : True := trivial
theorem law_ok.tw14696471081025107357 : True := trivial
theorem law_ok.tw14707295485655203418 : True := trivial
theorem law_ok.tw14713607780834248044 : True := trivial
theorem law_ok.tw14720877084124032599 : True := trivial
theorem law_ok.tw14752248896026078829 : True := trivial
theorem law_ok.tw14771721099278105165 : True := trivial
theorem law_ok.tw14790003884176563554 : True := trivial
theorem law_ok.tw14849790255880589400 : True := trivial
theorem law_ok.tw14866976346458632932 : True := trivial
theorem law_ok.tw14870816276347465506 : True := trivial
theorem law_ok.tw14934395583118738618 : True := trivial
theorem law_ok.tw14962452690395488154 : True := trivial
theorem law_ok.tw14964057328375972201 : True := trivial
theorem law_ok.tw14978807439564852327 : True := trivial
theorem law_ok.tw15047172837301376754 : True := trivial
theorem law_ok.tw15078316574438740354 : True := trivial
theorem law_ok.tw15185761139090470538 : True := trivial
theorem law_ok.tw15241089265502689144 : True := trivial
theorem law_ok.tw15247906133749373782 : True := trivial
theorem law_ok.tw15280486208493000761 : True := trivial
theorem law_ok.tw15304970921279981248 : True := trivial
theorem law_ok.tw15317074118795815421 : True := trivial
theorem law_ok.tw15354568572402763693 : True := trivial
theorem law_ok.tw15372941027749635551 : True := trivial
theorem law_ok.tw15444162034723729618 : True := trivial
theorem law_ok.tw15472547060870224796 : True := trivial
theorem law_ok.tw15481942193886319968 : True := trivial
theorem law_ok.tw15597828353343400504 : True := trivial
theorem law_ok.tw156358884595364801 : True := trivial
theorem law_ok.tw15789105653453399672 : True := trivial
theorem law_ok.tw15789668429982282212 : True := trivial
theorem law_ok.tw15826837888371891018 : True := trivial
theorem law_ok.tw15833004055134317831 : True := trivial
theorem law_ok.tw15833286465893294896 : True := trivial
theorem law_ok.tw15833800308006868869 : True := trivial
theorem law_ok.tw15877101703483874889 : True := trivial
theorem law_ok.tw15897875876423469450 : True := trivial
theorem law_ok.tw15912479167100210143 : True := trivial
theorem law_ok.tw1591729638137206192 : True := trivial
theorem law_ok.tw15923666913787406832 : True := trivial
theorem law_ok.tw15943797790640218661 : True := trivial
theorem law_ok.tw15972769693900946611 : True := trivial
theorem law_ok.tw15981648590296615016 : True := trivial
theorem law_ok.tw16035615327186478290 : True := trivial
theorem law_ok.tw16067049722670180851 : True := trivial
theorem law_ok.tw16079309222412948098 : True := trivial
theorem law_ok.tw16080425892960069609 : True := trivial
theorem law_ok.tw1609706699608968170 : True := trivial
theorem law_ok.tw16110603698919853273 : True := trivial
theorem law_ok.tw16175372668556065777 : True := trivial
theorem law_ok.tw1617939559688827673 : True := trivial
theorem law_ok.tw16222934209659601053 : True := trivial
theorem law_ok.tw16257485527137555949 : True := trivial
theorem law_ok.tw16402416636074217220 : True := trivial
theorem law_ok.tw16431081600542864865 : True := trivial
theorem law_ok.tw16495207245201107632 : True := trivial
theorem law_ok.tw16522612746376275904 : True := trivial
theorem law_ok.tw16544328010851332092 : True := trivial
theorem law_ok.tw16556105016720208607 : True := trivial
theorem law_ok.tw16615214514676263352 : True := trivial
theorem law_ok.tw16625787371639412691 : True := trivial
theorem law_ok.tw16626370615981138204 : True := trivial
theorem law_ok.tw1667917884393270531 : True := trivial
theorem law_ok.tw16696067601688687413 : True := trivial
theorem law_ok.tw1670100751684081796 : True := trivial
theorem law_ok.tw16705599948698527364 : True := trivial
theorem law_ok.tw16735771599132837765 : True := trivial
theorem law_ok.tw16737507432439321175 : True := trivial
theorem law_ok.tw16779505384208271662 : True := trivial
theorem law_ok.tw16780835988347825435 : True := trivial
theorem law_ok.tw16794728932027564254 : True := trivial
theorem law_ok.tw16806498575139375868 : True := trivial
theorem law_ok.tw16817230699459737761 : True := trivial
theorem law_ok.tw16860638618376947269 : True := trivial
theorem law_ok.tw16915378094732909348 : True := trivial
theorem law_ok.tw16919416429652957973 : True := trivial
theorem law_ok.tw1693716250125123597 : True := trivial
theorem law_ok.tw1709718534730700757 : True := trivial
theorem law_ok.tw17101415775406095460 : True := trivial
theorem law_ok.tw17105747857123930427 : True := trivial
theorem law_ok.tw17124383835018941105 : True := trivial
theorem law_ok.tw17185738000041328219 : True := trivial
theorem law_ok.tw17263489374239603806 : True := trivial
theorem law_ok.tw17267825584953942664 : True := trivial
theorem law_ok.tw17321683602496824614 : True := trivial
theorem law_ok.tw17428858707428213299 : True := trivial
theorem law_ok.tw17429893922571153566 : True := trivial
theorem law_ok.tw17437983384563281072 : True := trivial
theorem law_ok.tw17476259874602751844 : True := trivial
theorem law_ok.tw17530013617072845629 : True := trivial
theorem law_ok.tw17539102390545846742 : True := trivial
theorem law_ok.tw1755249971630584058 : True := trivial
theorem law_ok.tw17609075772846507584 : True := trivial
theorem law_ok.tw17658515177410677963 : True := trivial
theorem law_ok.tw17661673978508829123 : True := trivial
theorem law_ok.tw17689579215900992003 : True := trivial
theorem law_ok.tw17796375532461347730 : True := trivial
theorem law_ok.tw17814190411114186632 : True := trivial
theorem law_ok.tw17839408912275770965 : True := trivial
theorem law_ok.tw17908630626508599730 : True := trivial
theorem law_ok.tw17943348233596182406 : True := trivial
theorem law_ok.tw18032699716851397758 : True := trivial
theorem law_ok.tw18118558807831606073 : True := trivial
theorem law_ok.tw18159556251797688085 : True := trivial
theorem law_ok.tw18282492521119060558 : True := trivial
theorem law_ok.tw18308706271341169422 : True := trivial
theorem law_ok.tw1833027472594368290 : True := trivial
theorem law_ok.tw18338100588350115418 : True := trivial
theorem law_ok.tw18349442258481993731 : True := trivial
theorem law_ok.tw18366588320268564889 : True := trivial
theorem law_ok.tw18367772011930019650 : True := trivial
theorem law_ok.tw18371744995208566494 : True := trivial
theorem law_ok.tw1837475414349959933 : True := trivial
theorem law_ok.tw1851587540257378555 : True := trivial
theorem law_ok.tw1897027228844486584 : True := trivial
theorem law_ok.tw1899734961770360985 : True := trivial
theorem law_ok.tw191302682651031135 : True := trivial
theorem law_ok.tw1939501422829569747 : True := trivial
theorem law_ok.tw1942246841123498078 : True := trivial
theorem law_ok.tw1959508993253476546 : True := trivial
theorem law_ok.tw1972135924236673772 : True := trivial
theorem law_ok.tw1972230953914648179 : True := trivial
theorem law_ok.tw1975379508185871681 : True := trivial
theorem law_ok.tw2029905734672846063 : True := trivial
theorem law_ok.tw2030563397340796305 : True := trivial
theorem law_ok.tw2053400630596354368 : True := trivial
theorem law_ok.tw2068698770184907651 : True := trivial
theorem law_ok.tw2130642253121540270 : True := trivial
theorem law_ok.tw2144394055862137324 : True := trivial
theorem law_ok.tw2144474326605604926 : True := trivial
theorem law_ok.tw2189977595117084848 : True := trivial
theorem law_ok.tw2283968231786602039 : True := trivial
theorem law_ok.tw2436454712634590527 : True := trivial
theorem law_ok.tw2509147778413210194 : True := trivial
theorem law_ok.tw2511601452851242140 : True := trivial
theorem law_ok.tw2537444629461829546 : True := trivial
theorem law_ok.tw255809293959391352 : True := trivial
theorem law_ok.tw2597924943688068011 : True := trivial
theorem law_ok.tw2622875324353621139 : True := trivial
theorem law_ok.tw2651769136145787535 : True := trivial
theorem law_ok.tw2697588489022566568 : True := trivial
theorem law_ok.tw2750692357778865536 : True := trivial
theorem law_ok.tw2774956930009235795 : True := trivial
theorem law_ok.tw2776928121632198374 : True := trivial
theorem law_ok.tw2787419453607917429 : True := trivial
theorem law_ok.tw2849246472279420467 : True := trivial
theorem law_ok.tw2859379352625660630 : True := trivial
theorem law_ok.tw2882748451482491249 : True := trivial
theorem law_ok.tw2899832004034143871 : True := trivial
theorem law_ok.tw2904811999133846107 : True := trivial
theorem law_ok.tw2957684812295641845 : True := trivial
theorem law_ok.tw296402391286839642 : True := trivial
theorem law_ok.tw2978461460213582753 : True := trivial
theorem law_ok.tw3038783601953147494 : True := trivial
theorem law_ok.tw3081244546363728735 : True := trivial
theorem law_ok.tw3130132153820843868 : True := trivial
theorem law_ok.tw327688865159038549 : True := trivial
theorem law_ok.tw3310113703913284162 : True := trivial
theorem law_ok.tw3326567852587728545 : True := trivial
theorem law_ok.tw3397544926531586335 : True := trivial
theorem law_ok.tw3404626719791550520 : True := trivial
theorem law_ok.tw3443838150187576216 : True := trivial
theorem law_ok.tw3471996853604012508 : True := trivial
theorem law_ok.tw3511720378182323665 : True := trivial
theorem law_ok.tw3515588709311328248 : True := trivial
theorem law_ok.tw3532723196582461764 : True := trivial
theorem law_ok.tw3563835413860582142 : True := trivial
theorem law_ok.tw357439545951085703 : True := trivial
theorem law_ok.tw3593881455434780479 : True := trivial
theorem law_ok.tw3610314518991628617 : True := trivial
theorem law_ok.tw3644044182132770064 : True := trivial
theorem law_ok.tw3671016233650241184 : True := trivial
theorem law_ok.tw3693212469901493656 : True := trivial
theorem law_ok.tw3768775479905045936 : True := trivial
theorem law_ok.tw3769161970980628659 : True := trivial
theorem law_ok.tw3800658605591150582 : True := trivial
theorem law_ok.tw3802815668926819264 : True := trivial
theorem law_ok.tw3836197038641584248 : True := trivial
theorem law_ok.tw383655492102331692 : True := trivial
theorem law_ok.tw3882936520366082941 : True := trivial
theorem law_ok.tw398547918841541480 : True := trivial
theorem law_ok.tw4037177337398743211 : True := trivial
theorem law_ok.tw4070622113802893544 : True := trivial
theorem law_ok.tw4115055491538133600 : True := trivial
theorem law_ok.tw4138026829811356669 : True := trivial
theorem law_ok.tw4142528986147391622 : True := trivial
theorem law_ok.tw4156312508436965263 : True := trivial
theorem law_ok.tw4161518952752577004 : True := trivial
theorem law_ok.tw421999103924851805 : True := trivial
theorem law_ok.tw4279031228069612444 : True := trivial
theorem law_ok.tw428521698104088707 : True := trivial
theorem law_ok.tw4285884056840290291 : True := trivial
theorem law_ok.tw4333900472266966232 : True := trivial
theorem law_ok.tw4334873612916150315 : True := trivial
theorem law_ok.tw4397499491859613397 : True := trivial
theorem law_ok.tw4408865865093665520 : True := trivial
theorem law_ok.tw4413199352357101481 : True := trivial
theorem law_ok.tw443042806802728316 : True := trivial
theorem law_ok.tw443551138699594170 : True := trivial
theorem law_ok.tw4541704360429323886 : True := trivial
theorem law_ok.tw455122957415217379 : True := trivial
theorem law_ok.tw4566787275755180351 : True := trivial
theorem law_ok.tw4641088978822379516 : True := trivial
theorem law_ok.tw4644235553247067458 : True := trivial
theorem law_ok.tw4658015033352392890 : True := trivial
theorem law_ok.tw4665516462305634021 : True := trivial
theorem law_ok.tw4678560076761262200 : True := trivial
theorem law_ok.tw4698281158107278080 : True := trivial
theorem law_ok.tw4736417984224356581 : True := trivial
theorem law_ok.tw4774106743280670270 : True := trivial
theorem law_ok.tw4838971101024340215 : True := trivial
theorem law_ok.tw4857737992372715381 : True := trivial
theorem law_ok.tw4864487941165642646 : True := trivial
theorem law_ok.tw4932779659677404492 : True := trivial
theorem law_ok.tw4933756284116128778 : True := trivial
theorem law_ok.tw4952439747524435535 : True := trivial
theorem law_ok.tw4983816279090059528 : True := trivial
theorem law_ok.tw5051961413961215649 : True := trivial
theorem law_ok.tw5056028539619161061 : True := trivial
theorem law_ok.tw5061147260642216973 : True := trivial
theorem law_ok.tw5106033919597214175 : True := trivial
theorem law_ok.tw5138390142323248730 : True := trivial
theorem law_ok.tw5163593723154804294 : True := trivial
theorem law_ok.tw5197287874925524071 : True := trivial
theorem law_ok.tw5299751704431768017 : True := trivial
theorem law_ok.tw5389538095987651805 : True := trivial
theorem law_ok.tw5390954099367486457 : True := trivial
theorem law_ok.tw5410703576499266281 : True := trivial
theorem law_ok.tw5485794261957042688 : True := trivial
theorem law_ok.tw5536207748547261074 : True := trivial
theorem law_ok.tw5556724948475932772 : True := trivial
theorem law_ok.tw5634453500445889736 : True := trivial
theorem law_ok.tw5639241688683333018 : True := trivial
theorem law_ok.tw5654866877798258666 : True := trivial
theorem law_ok.tw5672433003871487873 : True := trivial
theorem law_ok.tw5720338036020098779 : True := trivial
theorem law_ok.tw5727943250394705938 : True := trivial
theorem law_ok.tw5745881219748309986 : True := trivial
theorem law_ok.tw5794944474899367895 : True := trivial
theorem law_ok.tw5800105236339770830 : True := trivial
theorem law_ok.tw5828092847561013618 : True := trivial
theorem law_ok.tw5863757997134229771 : True := trivial
theorem law_ok.tw5885198610316876843 : True := trivial
theorem law_ok.tw5924277548072080303 : True := trivial
theorem law_ok.tw5949331248722358056 : True := trivial
theorem law_ok.tw6075597756878948436 : True := trivial
theorem law_ok.tw6092394757653959987 : True := trivial
theorem law_ok.tw6119902616877977780 : True := trivial
theorem law_ok.tw6135278550697651125 : True := trivial
theorem law_ok.tw6183251786789733116 : True := trivial
theorem law_ok.tw628684455492981207 : True := trivial
theorem law_ok.tw6291472560006979854 : True := trivial
theorem law_ok.tw6373477671914155897 : True := trivial
theorem law_ok.tw6420427159841006591 : True := trivial
theorem law_ok.tw6444724385726965360 : True := trivial
theorem law_ok.tw6458473859851625762 : True := trivial
theorem law_ok.tw6458852384838576435 : True := trivial
theorem law_ok.tw6555368654370989809 : True := trivial
theorem law_ok.tw6580361837948046937 : True := trivial
theorem law_ok.tw6587264534874173053 : True := trivial
theorem law_ok.tw6630156667820431417 : True := trivial
theorem law_ok.tw6693355176489758165 : True := trivial
theorem law_ok.tw6696296481769119477 : True := trivial
theorem law_ok.tw6697676792893987622 : True := trivial
theorem law_ok.tw6701529251705557659 : True := trivial
theorem law_ok.tw6715651952670004744 : True := trivial
theorem law_ok.tw6739132333992870913 : True := trivial
theorem law_ok.tw6750045367075623389 : True := trivial
theorem law_ok.tw6786588686132397199 : True := trivial
theorem law_ok.tw6807300019566884232 : True := trivial
theorem law_ok.tw6840429287328245328 : True := trivial
theorem law_ok.tw6850974215724033232 : True := trivial
theorem law_ok.tw6869946163132378130 : True := trivial
theorem law_ok.tw695941549569141054 : True := trivial
theorem law_ok.tw7095595374189037121 : True := trivial
theorem law_ok.tw7155257421387096013 : True := trivial
theorem law_ok.tw7159946618216295561 : True := trivial
theorem law_ok.tw7197968764640069862 : True := trivial
theorem law_ok.tw7327205904302849805 : True := trivial
theorem law_ok.tw7394331428065957704 : True := trivial
theorem law_ok.tw7414602875821945213 : True := trivial
theorem law_ok.tw7460595315913643665 : True := trivial
theorem law_ok.tw7471519370151522856 : True := trivial
theorem law_ok.tw752075241935833846 : True := trivial
theorem law_ok.tw7530901438484319231 : True := trivial
theorem law_ok.tw7562125851381042987 : True := trivial
theorem law_ok.tw762986238519792243 : True := trivial
theorem law_ok.tw7648150661311903119 : True := trivial
theorem law_ok.tw7666153973889541127 : True := trivial
theorem law_ok.tw7741419604835234688 : True := trivial
theorem law_ok.tw7771995291731633939 : True := trivial
theorem law_ok.tw7781694561704820005 : True := trivial
theorem law_ok.tw786996363795456579 : True := trivial
theorem law_ok.tw7885080146466727186 : True := trivial
theorem law_ok.tw7919346170388560413 : True := trivial
theorem law_ok.tw7925154803827948985 : True := trivial
theorem law_ok.tw7949205161778269821 : True := trivial
theorem law_ok.tw7968372255643501924 : True := trivial
theorem law_ok.tw8028379268315242531 : True := trivial
theorem law_ok.tw8059405673493423855 : True := trivial
theorem law_ok.tw8111062421960811227 : True := trivial
theorem law_ok.tw8162602427667945145 : True := trivial
theorem law_ok.tw8187682914386162547 : True := trivial
theorem law_ok.tw8226639455339457192 : True := trivial
theorem law_ok.tw8273330295299669435 : True := trivial
theorem law_ok.tw8275342175473737420 : True := trivial
theorem law_ok.tw8301684986852356881 : True := trivial
theorem law_ok.tw8389824584795154542 : True := trivial
theorem law_ok.tw8401854158505552653 : True := trivial
theorem law_ok.tw8434422832014117021 : True := trivial
theorem law_ok.tw8496532759432169086 : True := trivial
theorem law_ok.tw850751340570607695 : True := trivial
theorem law_ok.tw8508709348116517342 : True := trivial
theorem law_ok.tw8514067729014780500 : True := trivial
theorem law_ok.tw8568553685741017486 : True := trivial
theorem law_ok.tw8612188032287061992 : True := trivial
theorem law_ok.tw8642123191243128220 : True := trivial
theorem law_ok.tw8644766479867292139 : True := trivial
theorem law_ok.tw871620886872778923 : True := trivial
theorem law_ok.tw8721305767427395513 : True := trivial
theorem law_ok.tw8728204864968989200 : True := trivial
theorem law_ok.tw8728393697906663399 : True := trivial
theorem law_ok.tw8764141117819904806 : True := trivial
theorem law_ok.tw8775339826668748581 : True := trivial
theorem law_ok.tw8786581348339002896 : True := trivial
theorem law_ok.tw8788467577374347694 : True := trivial
theorem law_ok.tw8805871569248703764 : True := trivial
theorem law_ok.tw8874662067609715569 : True := trivial
theorem law_ok.tw8909030923159015088 : True := trivial
theorem law_ok.tw8989379596678952438 : True := trivial
theorem law_ok.tw9002194050464787830 : True := trivial
theorem law_ok.tw9063304045290268338 : True := trivial
theorem law_ok.tw9091931450536184433 : True := trivial
theorem law_ok.tw9129753471904017975 : True := trivial
theorem law_ok.tw9147286536214741111 : True := trivial
theorem law_ok.tw9175137886316165188 : True := trivial
theorem law_ok.tw9175198099196055851 : True := trivial
theorem law_ok.tw9186407476834428805 : True := trivial
theorem law_ok.tw9192165532865250798 : True := trivial
theorem law_ok.tw9209506475045246085 : True := trivial
theorem law_ok.tw9218950413130701818 : True := trivial
theorem law_ok.tw924493398458447510 : True := trivial
theorem law_ok.tw9268854088076951032 : True := trivial
theorem law_ok.tw9269516411418703488 : True := trivial
theorem law_ok.tw9287620622929026539 : True := trivial
theorem law_ok.tw929010900900277589 : True := trivial
theorem law_ok.tw9368273852126436571 : True := trivial
theorem law_ok.tw9455140690623246201 : True := trivial
theorem law_ok.tw9485134902683008745 : True := trivial
theorem law_ok.tw9566712069845860653 : True := trivial
theorem law_ok.tw9579547324876612823 : True := trivial
theorem law_ok.tw9604418253089763881 : True := trivial
theorem law_ok.tw9675981739246116751 : True := trivial
theorem law_ok.tw9724848086193736465 : True := trivial
theorem law_ok.tw9751766721021122910 : True := trivial
theorem law_ok.tw9828922866740397909 : True := trivial
theorem law_ok.tw9862497834081358440 : True := trivial
theorem law_ok.tw9869134373298687432 : True := trivial
theorem law_ok.tw9887049267483205148 : True := trivial
theorem law_ok.tw9891151408106901127 : True := trivial
theorem law_ok.tw9894187439474081895 : True := trivial
theorem law_ok.tw9917933552089303921 : True := trivial
theorem law_ok.tw9921471594942900486 : True := trivial
theorem law_ok.tw9965239266033092146 : True := trivial
theorem law_ok.tw9972039519520966375 : True := trivial
set_option Elab.async true in
theorem law_ok : PySem.Challenge.rw_og0178_01.Holds := by
  w_on; o_law; k_head
  (case hw => w_witness2)
  k_go0
  rename_i w s0 s1 mg mb G Y fa o pm doc ho hg X9 V9 T9 B9 TE9 TW9 hcd ns hs9 hlay9 hL9 hr9 hl9 wa wb sl vs wc hLs ra9 w19 r09 hI hr9' hc1 hc2 hD9 h1 tk1 oc1 oc2 c1 c2 X0 X1 T1 K1 F1 N1 l01
  replace T1 := top_weak (by decide +kernel) T1
  have hlen : ns.length ≤ 63 := by omega
  clear hr9 hl9 hr9' hs9 hL9 hlay9 hT8 hT9 hcd X9 V9 T9 B9 TE9 TW9 X0 hD9 ra9 w19 r09 hLs hc1 hc2 ho
  replace c1 := cell_cast c1 (v' := none) (by kernel_rfl)
  replace c2 := cell_cast c2 (v' := none) (by kernel_rfl)
  replace F1 := fr_cast F1 (m' := locs [("script", .ref sl)]) (by kernel_rfl)
  generalize s1.heap.objs.size = L' at *
  generalize ghostOf s1.heap [(522, 520)] = g' at *
  have codeHd' : CodeHd g' 522 520 := codeHd
  replace X1 : (KH w.params).In g' := X1
  replace l01 : @LT.lt Nat _ 520 L' := ltFst l01
  dsimp only
  refine foldE ?_
  intro qk9 ek9
  with_reducible refine seg 1 F1 (QX1_1 sl L' oc1) ?_ ?_
  · k_extra "my o"
    dsimp only [List.take]
    k_steps
    all_goals k_extra "my q"
    · refine' Mid.intro ?zF_1 (News.perm ?zN_1 (l' := (?zt_1, W.listOf #[.ref ?zc_1, .int 0 ?zk_1] ?zn_1) :: (?zc_1, W.listOf (?zv_1 : List Value).toArray ?zm_1) :: (L' + 1, ?zo_1) :: (L' + 1 + 1, oc1) :: (520, tabObj #[]) :: []) ?zp_1) ⟨?zt_1, ?zc_1, ?zv_1, List.take 60 ns, ?zm_1, ?zn_1, ?zk_1, ?zo_1, rfl, rfl, ?z1_1, ?z2_1, ?z3_1, ?z4_1, ?z5_1, ?z6_1⟩
      case zF_1 => assumption
      case zN_1 => assumption
      case zp_1 => k_extra "my inn"
      case z1_1 => first | assumption | k_extra "my off" | k_extra "my om"
      case z2_1 => first | assumption | k_extra "my off" | k_extra "my om"
      case z3_1 => omega
      case z4_1 => rw [List.length_take]; exact Nat.min_le_left _ _
      case z5_1 => first | assumption | k_extra "my off" | k_extra "my om"
      case z6_1 => first | assumption | k_extra "my off" | k_extra "my om"
    · refine' Mid.intro ?yF_1 (News.perm ?yN_1 (l' := (?yt_1, W.listOf #[.ref ?yc_1, .int 0 ?yk_1] ?yn_1) :: (?yc_1, W.listOf [Value.int 0 ?yv_1].toArray ?ym_1) :: (L' + 1, ?yo_1) :: (L' + 1 + 1, oc1) :: (520, tabObj #[]) :: []) ?yp_1) ⟨?yt_1, ?yc_1, [.int 0 ?yv_1], [0], ?ym_1, ?yn_1, ?yk_1, ?yo_1, rfl, rfl, ?y1_1, .cons _ _ .nil, Nat.le_refl _, by decide, ?y5_1, ?y6_1⟩
      case yF_1 => assumption
      case yN_1 => assumption
      case yp_1 => k_extra "my inn"
      case y1_1 => first | assumption | k_extra "my off" | k_extra "my om"
      case y5_1 => first | assumption | k_extra "my off" | k_extra "my om"
      case y6_1 => rename (∀ p : Addr × Obj, p ∈ (_, W.listOf _ _) :: (_, W.listOf _ _) :: (L' + 1 + 1, oc1) :: _ → p.1 < _) => hlt; exact hlt (L' + 1 + 1, oc1) (by k_extra "my mem")
  clear F1 N1
  rintro m' all' h2 tk2 F2 N2 ⟨t, c, cvs, cns, nc, n, tkt, oct, rfl, rfl, hct, hcI, hc1', hc60, ltc, ltL⟩
  dsimp only [List.drop]
  have ltT : @LT.lt Nat _ (L' + 1 + 1) t := Nat.lt_trans ltL ltc
  have hbt : ∀ p ∈ (c, W.listOf cvs.toArray nc) :: (L' + 1, oct) :: (L' + 1 + 1, oc1) :: (520, tabObj #[]) :: [], p.1 ≠ t := by
    refine all_cons (Nat.ne_of_lt ltc) (all_cons ?_ (all_cons ?_ (all_cons ?_ (List.forall_mem_nil _))))
    · exact Nat.ne_of_lt (Nat.lt_trans (Nat.lt_succ_self _) ltT)
    · exact Nat.ne_of_lt ltT
    · exact Nat.ne_of_lt (Nat.lt_trans l01 (Nat.lt_trans (Nat.lt_succ_of_lt (Nat.lt_succ_self _)) ltT))
  with_reducible refine seg 1 F2 (QX1_2 w sl t c L' oct oc1 n nc cvs) ?_ ?_
  · k_extra "my o"
    dsimp only [List.take]
    k_steps
    all_goals k_extra "my q"
    unfold Hold
    rename IsRange _ _ _ _ _ _ _ _ => hr9
    refine LCg.CompSrc.range (n := 3) rfl (by assumption) (by assumption) hr9 (by decide) rfl (by rw [sizeLine_eq]; decide) ?_
    intro g9
    refine comp_inv (PairJ w t c n ((c, W.listOf cvs.toArray nc) :: (L' + 1, oct) :: (L' + 1 + 1, oc1) :: (520, tabObj #[]) :: [])) ⟨tkt, [], [], rfl, Apart.nil, List.forall_mem_nil _, .nil, rfl⟩ ?_ ?_
    · rintro i ys nw v I oI C oC D m₂ h tk E' hi hv ⟨tk6, add, ds, rfl, hap, hoft, hst, hdl⟩ hC hx F5 N5 off ne
      k_extra "my aim"
      obtain ⟨tv, rfl⟩ := hv
      obtain ⟨nI, nC, nD⟩ := off.mem (t, _) List.mem_cons_self
      have off2 : LCg.Off3 I C D (add ++ ((c, W.listOf cvs.toArray nc) :: (L' + 1, oct) :: (L' + 1 + 1, oc1) :: (520, tabObj #[]) :: [])) := off.2
      k_steps
      all_goals k_extra "my q"
      unfold Hold
      refine' Spec.use (stream (t := t) (c := c) (at_ := 4 * (i : Int)) (tk := tk6) (n := n) (nc := nc) (vs := cvs) (ns := cns) (news := (I, oI) :: (C, oC) :: (D, LCg.lst ys) :: (add ++ (c, W.listOf cvs.toArray nc) :: (L' + 1, oct) :: (L' + 1 + 1, oc1) :: (520, tabObj #[]) :: [])) ?hc_2 ?hct_2 ?hne_2 hcI hc1' hc60 ?ha_2 ?ha2_2) ?k1_2 ?k2_2 ?k3_2 ?k4_2 ?k5_2 ?k6_2 ?k7_2 ?k8_2 ?_
      case k1_2 => k_asm
      case k2_2 => k_asm
      case k3_2 => k_asm
      case k4_2 => exact News.perm (by assumption) (by k_extra "my inn")
      case k5_2 => k_asm
      case k6_2 => first | exact rfl | assumption
      case hc_2 => k_extra "my mem"
      case hct_2 => exact Nat.ne_of_lt ltc
      case hne_2 => exact all_cons (Ne.symm nI) (all_cons (Ne.symm nC) (all_cons (Ne.symm nD) (List.forall_mem_append.mpr ⟨hoft, hbt⟩)))
      case ha_2 => omega
      case ha2_2 => omega
      case k7_2 => ktr_room
      case k8_2 => ktr_units
      intro r9 n9 h9 tk9 F9 N9 hr9
      obtain ⟨kd, lv, mv, dv, add2, tk7, hl9, hm9, hd9, e8, hap9, hof9, hout⟩ := hr9
      subst e8
      k_steps
      all_goals k_extra "my q"
      exact PairJ.succ hap hoft hst hdl (hap9.sub (by k_extra "my inn")) hof9 hout ⟨hl9, hm9, hd9⟩
    · rintro ys nw ⟨tk6, add, ds, rfl, hap, hoft, hst, hdl⟩
      rw [show (4 * ((3 : Nat) : Int)) = 12 from rfl]
      k_steps
      all_goals k_extra "my q"
      rename (_ ∧ LCg.Off1 _ _) => o9
      have hoD := off1_mem o9.2
      refine' Mid.intro (by assumption) (News.perm (by assumption) (l' := (t, _) :: (((_, W.listOf ys.toArray _) :: add) ++ (c, W.listOf cvs.toArray nc) :: (L' + 1, oct) :: (L' + 1 + 1, oc1) :: (520, tabObj #[]) :: [])) ?zp_2) ⟨_, _, _, _, ds, _, rfl, rfl, Apart.cons (fun q hq => hoD q (List.mem_append_right _ hq)) hap, all_cons (Ne.symm o9.1) hoft, List.mem_cons_self, hst.mono (fun p hp => List.mem_cons_of_mem _ hp), hdl⟩
      case zp_2 => k_extra "my inn"
  clear F2 N2
  rintro m' all' h3 tk3 F3 N3 ⟨pl, pvs, pn, add, S0, tkp, rfl, rfl, hapP, hofP, hplm, hst, hSl⟩
  dsimp only [List.drop]
  with_reducible refine seg 1 F3 (QX1_3 w add pl sl L' oc1) ?_ ?_
  · k_extra "my o"
    dsimp only [List.take]
    k_steps
    all_goals k_extra "my q"
    unfold Hold
    rename IsRange _ _ _ _ _ _ _ _ => hr9
    refine LCg.CompSrc.range (n := 3) rfl (by assumption) (by assumption) hr9 (by decide) rfl (by rw [sizeLine_eq]; decide) ?_
    intro g9
    refine comp_inv (SrcJ w t c n (add ++ (c, W.listOf cvs.toArray nc) :: (L' + 1, oct) :: (L' + 1 + 1, oc1) :: (520, tabObj #[]) :: [])) ⟨tkp, [], [], rfl, Apart.nil, List.forall_mem_nil _, .nil, rfl⟩ ?_ ?_
    · rintro i ys nw v I oI C oC D m₂ h tk E' hi hv ⟨tk6, addR, ds, rfl, hap, hoft, hrt, hdl⟩ hC hx F5 N5 off ne
      k_extra "my aim"
      obtain ⟨tv, rfl⟩ := hv
      obtain ⟨nI, nC, nD⟩ := off.mem (t, _) List.mem_cons_self
      have off2 : LCg.Off3 I C D (addR ++ (add ++ (c, W.listOf cvs.toArray nc) :: (L' + 1, oct) :: (L' + 1 + 1, oc1) :: (520, tabObj #[]) :: [])) := off.2
      k_steps
      all_goals k_extra "my q"
      unfold Hold
      refine' Spec.use (resources (t := t) (c := c) (at_ := 12 + 4 * (i : Int)) (tk := tk6) (n := n) (nc := nc) (vs := cvs) (ns := cns) (news := (I, oI) :: (C, oC) :: (D, LCg.lst ys) :: (addR ++ (add ++ (c, W.listOf cvs.toArray nc) :: (L' + 1, oct) :: (L' + 1 + 1, oc1) :: (520, tabObj #[]) :: []))) ?hc_3 ?hct_3 ?hne_3 hcI hc1' hc60 ?ha_3 ?ha2_3) ?k1_3 ?k2_3 ?k3_3 ?k4_3 ?k5_3 ?k6_3 ?k7_3 ?k8_3 ?_
      case k1_3 => k_asm
      case k2_3 => k_asm
      case k3_3 => k_asm
      case k4_3 => exact News.perm (by assumption) (by k_extra "my inn")
      case k5_3 => k_asm
      case k6_3 => first | exact rfl | assumption
      case hc_3 => k_extra "my mem"
      case hct_3 => exact Nat.ne_of_lt ltc
      case hne_3 => exact all_cons (Ne.symm nI) (all_cons (Ne.symm nC) (all_cons (Ne.symm nD) (List.forall_mem_append.mpr ⟨hoft, List.forall_mem_append.mpr ⟨hofP, hbt⟩⟩)))
      case ha_3 => omega
      case ha2_3 => omega
      case k7_3 => ktr_room
      case k8_3 => ktr_units
      intro r9 n9 h9 tk9 F9 N9 hr9
      obtain ⟨fa9, ta9, fb9, tb9, add2, tk7, e8, hap9, hof9, hout⟩ := hr9
      subst e8
      k_steps
      all_goals k_extra "my q"
      exact SrcJ.succ hap hoft hrt hdl (hap9.sub (by k_extra "my inn")) hof9 hout
    · rintro ys nw ⟨tk6, addR, ds, rfl, hap, hoft, hrt, hdl⟩
      rw [show (12 + 4 * ((3 : Nat) : Int)) = 24 from rfl]
      k_steps
      all_goals k_extra "my q"
      rename (_ ∧ LCg.Off1 _ _) => o9
      have hoD := off1_mem o9.2
      have hsb : ∀ p ∈ (add ++ (L' + 1 + 1, oc1) :: (520, tabObj #[]) :: []), p ∈ add ++ (c, W.listOf cvs.toArray nc) :: (L' + 1, oct) :: (L' + 1 + 1, oc1) :: (520, tabObj #[]) :: [] := by k_extra "my inn"
      refine' Mid.intro (by assumption) (News.perm (by assumption) (l' := ((_, W.listOf ys.toArray _) :: addR) ++ (add ++ (L' + 1 + 1, oc1) :: (520, tabObj #[]) :: [])) ?zp_3) ⟨_, _, _, _, ds, rfl, rfl, Apart.cons (fun q hq => hoD q (List.mem_append_right _ (hsb q hq))) (hap.sub hsb), List.mem_cons_self, hrt.mono (fun p hp => List.mem_cons_of_mem _ hp), hdl⟩
      case zp_3 => k_extra "my inn"
  clear F3 N3 hofP hbt hct ltc ltL ltT hcI hc1' hc60 
  rintro m' all' h4 tk4 F4 N4 ⟨ql, qvs, qn, addR, R0, rfl, rfl, hapR, hqlm, hrt, hRl⟩
  dsimp only [List.drop]
  with_reducible refine seg 1 F4 (QX1_4 addR add ql pl sl L' oc1) ?_ ?_
  · k_extra "my o"
    dsimp only [List.take]
    k_steps
    all_goals k_extra "my q"
    unfold Hold
    rename IsRange _ _ _ _ _ _ _ _ => hr9
    refine LCg.CompSrc.range (n := 4) rfl (by assumption) (by assumption) hr9 (by decide) rfl (by rw [sizeLine_eq]; decide) ?_
    intro g9
    refine comp_inv (DdsJ (addR ++ (add ++ (L' + 1 + 1, oc1) :: (520, tabObj #[]) :: []))) ⟨[], rfl, Apart.nil, .nil⟩ ?_ ?_
    · rintro i ys nw v I oI C oC D m₂ h tk E' hi hv ⟨addD, rfl, hap, hdt⟩ hC hx F5 N5 off ne
      k_extra "my aim"
      obtain ⟨tv, rfl⟩ := hv
      k_steps
      all_goals k_extra "my q"
      unfold Hold
      refine' Spec.use (deeds (d := 0 + (i : Int)) (t := tv) ?ha_4 ?ha2_4) ?k1_4 ?k2_4 ?k3_4 ?k4_4 ?k5_4 ?k6_4 ?k7_4 ?k8_4 ?_
      case k1_4 => k_asm
      case k2_4 => k_asm
      case k3_4 => k_asm
      case k4_4 => k_asm
      case k5_4 => k_asm
      case k6_4 => first | exact rfl | assumption
      case ha_4 => omega
      case ha2_4 => omega
      case k7_4 => ktr_room
      case k8_4 => ktr_units
      intro r9 n9 h9 tk9 F9 N9 hr9
      obtain ⟨add2, e8, hap9, l9, e9, hout⟩ := hr9
      rw [Int.zero_add] at hout
      subst e8
      subst e9
      k_steps
      all_goals k_extra "my q"
      exact DdsJ.succ hap hdt (hap9.sub (by k_extra "my inn")) hout
    · rintro ys nw ⟨addD, rfl, hap, hdt⟩
      k_steps
      all_goals k_extra "my q"
      unfold Hold
      rename LCg.Off1 _ _ => o9
      have hoD := off1_mem o9
      have h520 : @Ne Nat 520 (L' + 1 + 1) := Nat.ne_of_lt (Nat.lt_trans l01 (Nat.lt_succ_of_lt (Nat.lt_succ_self _)))
      refine' store_cellP (by assumption) (by assumption) ?hc_4 (o := oc1) ?hl_4 ?off_4 c1 ?_
      case hc_4 => exact rfl
      case hl_4 => k_extra "my pull"
      case off_4 => exact all_cons (Ne.symm (hoD (L' + 1 + 1, oc1) (by k_extra "my mem"))) (List.forall_mem_append.mpr ⟨hap.ne (o := oc1) (by k_extra "my mem"), List.forall_mem_append.mpr ⟨hapR.ne (o := oc1) (by k_extra "my mem"), List.forall_mem_append.mpr ⟨hapP.ne (o := oc1) (by k_extra "my mem"), all_cons h520 (List.forall_mem_nil _)⟩⟩⟩)
      intro h8 o8 F8 N8 hd8
      (try k_sweep)
      k_steps
      all_goals k_extra "my q"
      exact Mid.intro (by assumption) (by assumption) ⟨_, ys, _, addD, o8, rfl, rfl, hd8, Apart.cons (fun q hq => hoD q (List.mem_append_right _ hq)) hap, (fun p hp => hoD p (List.mem_append_left _ hp)), hdt⟩
  clear F4 N4
  rintro m' all' h5 tk5 F5 N5 ⟨dl, dvs, dn, addD, od, rfl, rfl, hod, hapD, hofD, hdt⟩
  dsimp only [List.drop]
  have hld : ∀ p ∈ addR ++ (add ++ (520, tabObj #[]) :: []), p.1 ≠ dl := fun p hp => Ne.symm (hapD (dl, _) List.mem_cons_self p (by revert p; k_extra "my inn"))
  have hlc : @Ne Nat (L' + 1 + 1) dl := Ne.symm (hapD (dl, _) List.mem_cons_self (L' + 1 + 1, oc1) (by k_extra "my mem"))
  have hdl4 : dvs.length = 4 := hdt.1
  with_reducible refine seg 1 F5 (QX1_5 w ql pl sl L' dl od pn qn pvs S0 qvs R0) ?_ ?_
  · k_extra "my o"
    dsimp only [List.take]
    k_steps
    all_goals k_extra "my q"
    unfold Hold
    refine' useMakes (deeds (d := 0) ?ha_5 ?ha2_5) ?_ ?k1_5 ?k2_5 ?k3_5 ?k4_5 ?k5_5 ?k6_5 ?k7_5 ?k8_5
    case k1_5 => k_asm
    case k2_5 => k_asm
    case k3_5 => k_asm
    case k4_5 => k_asm
    case k5_5 => k_asm
    case k6_5 => first | exact rfl | assumption
    case k7_5 => ktr_room
    case k8_5 => ktr_units
    case ha_5 => omega
    case ha2_5 => omega
    intro add2 l9 hap9 hout h9 tk9 F9 N9
    k_steps
    all_goals k_extra "my q"
    unfold Hold
    refine' useMakes (deeds (d := 1) ?ha_6 ?ha2_6) ?_ ?k1_6 ?k2_6 ?k3_6 ?k4_6 ?k5_6 ?k6_6 ?k7_6 ?k8_6
    case k1_6 => k_asm
    case k2_6 => k_asm
    case k3_6 => k_asm
    case k4_6 => k_asm
    case k5_6 => k_asm
    case k6_6 => first | exact rfl | assumption
    case k7_6 => ktr_room
    case k8_6 => ktr_units
    case ha_6 => omega
    case ha2_6 => omega
    intro add3 l8 hap8 hout2 h8 tk8 F8 N8
    k_extra "my aim"
    obtain ⟨xa9, xb9, n9, m9, op9'⟩ := deed_pair (d := 0) rfl hout
    obtain ⟨xa8, xb8, n8, m8, op8'⟩ := deed_pair (d := 1) rfl hout2
    k_steps
    all_goals k_extra "my q"
    rename News g' _ _ _ => N8
    rw [List.push_toArray] at N8
    have h520l : @Ne Nat dl 520 := hapD.ne (o := tabObj #[]) (by k_extra "my mem") (dl, _) List.mem_cons_self
    have h520c : @Ne Nat (L' + 1 + 1) 520 := Nat.ne_of_gt (Nat.lt_trans l01 (Nat.lt_succ_of_lt (Nat.lt_succ_self _)))
    have h520D : ∀ p ∈ addD, p.1 ≠ 520 := fun p hp => hapD.ne (o := tabObj #[]) (by k_extra "my mem") p (List.mem_cons_of_mem _ hp)
    refine' Mid.intro ?zF_5 (News.perm N8 (l' := ((dl, _) :: (_, W.listOf #[_, _, _, _] 0) :: (add3 ++ (add2 ++ (L' + 1 + 1, od) :: (addD ++ (addR ++ add))))) ++ (520, tabObj #[]) :: []) ?zp_5) ⟨_, rfl, rfl, ?z5_5, ?m1_5, ?m2_5, hst.mono ?s1_5, ?m3_5, hrt.mono ?s2_5, DeedsTo.all (ys := dvs ++ [Value.ref _]) List.mem_cons_self ?dd_5⟩
    case zF_5 => assumption
    case zp_5 => k_extra "my inn"
    case z5_5 => k_extra "my off"
    case m1_5 => k_extra "my mem"
    case m2_5 => k_extra "my mem"
    case m3_5 => k_extra "my mem"
    case s1_5 => k_extra "my inn"
    case s2_5 => k_extra "my inn"
    case dd_5 =>
      refine DeedsTo.snoc (i := 4) (hdt.mono ?_) ?_
      · k_extra "my inn"
      · refine deed_two (op9'.mono ?_) (op8'.mono ?_) (n := 0) ?_
        · k_extra "my inn"
        · k_extra "my inn"
        · exact List.mem_cons_of_mem _ List.mem_cons_self
  clear F5 N5
  rintro m' all' h6 tk6 F6 N6 ⟨big, rfl, rfl, hb520, hcm, hpm, hstB, hqm, hrtB, hdds⟩
  clear hapP hplm hst hapR hqlm hrt hapD hofD hdt hld hlc add addR addD dvs dn hdl4
  dsimp only [List.drop]
  with_reducible refine seg 1 F6 (QX1_6 w big ql pl sl) ?_ ?_
  · k_extra "my o"
    dsimp only [List.take]
    k_steps
    all_goals k_extra "my q"
    rename Obj.IsDictOf (PySem.intKind _ w) _ (intKeyPairs _) => ho9
    rename Obj.IsDictOf (PySem.strKind _ w) _ (strPairs _) => ho8
    rename News g' _ _ _ => N8
    refine' Mid.intro ?zF_6 (News.perm N8 (l' := (_, _) :: (((?b8_6, tupOf #[.int 0 _, .int 0 _] _) :: (?b7_6, tupOf #[.int 0 _, .ref ?j7_6] _) :: (?j7_6, _) :: big) ++ (520, tabObj #[]) :: [])) ?zp_6) ⟨_, ?b7_6, ?b8_6, ?j7_6, _, _, _, _, _, _, _, _, _, _, _, rfl, rfl, ho9, ?z1_6, ?z2_6, ?z3_6, ?z4_6, ?z5_6, List.mem_cons_of_mem _ List.mem_cons_self, List.mem_cons_self, List.mem_cons_of_mem _ (List.mem_cons_of_mem _ List.mem_cons_self), ho8, ?z6_6⟩
    case zF_6 => assumption
    case zp_6 => k_extra "my inn"
    case z1_6 => first | assumption | k_extra "my off" | k_extra "my om"
    case z2_6 => rename (∀ p : Addr × Obj, p ∈ big ++ (520, tabObj #[]) :: [] → p.1 < _) => hlt; first | (exact hlt (520, tabObj #[]) (by k_extra "my mem")) | (clear hlt; rename (∀ p : Addr × Obj, p ∈ big ++ (520, tabObj #[]) :: [] → p.1 < _) => hlt; first | (exact hlt (520, tabObj #[]) (by k_extra "my mem")) | (clear hlt; rename (∀ p : Addr × Obj, p ∈ big ++ (520, tabObj #[]) :: [] → p.1 < _) => hlt; first | (exact hlt (520, tabObj #[]) (by k_extra "my mem")) | (clear hlt; rename (∀ p : Addr × Obj, p ∈ big ++ (520, tabObj #[]) :: [] → p.1 < _) => hlt; exact hlt (520, tabObj #[]) (by k_extra "my mem"))))
    case z3_6 => k_extra "my off"
    case z4_6 => k_extra "my off"
    case z5_6 => k_extra "my inn"
    case z6_6 => first | assumption | k_extra "my off" | k_extra "my om"
  clear F6 N6
  rintro m' all' h7 tk7 F7 N7 ⟨tb, a7, a8, i7, ot, o7, u1, u2, u3, u5, k7, k8, n7, n8, big2, rfl, rfl, hot, htb, hlb, hb2t, hb25, hbb, hm7, hm8, hmi, ho7, hi7⟩
  dsimp only [List.drop]
  have hcm2 := hbb _ hcm
  have hpm2 := hbb _ hpm
  have hqm2 := hbb _ hqm
  have hstC := hstB.mono hbb
  have hrtC := hrtB.mono hbb
  have hddC := hdds.mono hbb
  clear hcm hpm hqm hstB hrtB hdds hbb hb520 big
  have hsub5 : ∀ p ∈ big2, p.1 ≠ 520 := hb25
  with_reducible refine seg 1 F7 (fun m' all' => TabJ w tb a7 a8 [("table", Value.ref tb), ("sources", .ref ql), ("pairs", .ref pl), ("script", .ref sl)] big2 S0 R0 3 m' all') ?_ ?_
  · k_extra "my o"
    dsimp only [List.take]
    refine wpAny_execs_cons ?_
    refine For_invVF F7 rfl rfl ?_
    k_steps
    all_goals k_extra "my q"
    unfold Hold
    refine for_range (n := 3) rfl (by decide) (by decide) rfl (by assumption) (by assumption) (TabJ w tb a7 a8 [("table", Value.ref tb), ("sources", .ref ql), ("pairs", .ref pl), ("script", .ref sl)] big2 S0 R0) ?_ ?_ ?_
    · refine ⟨ot, _, big2, ?_, rfl, hot, Nat.le_refl _, rfl, rfl, fun p hp => hp, hb2t, hb25, fun k hk => absurd hk (Nat.not_lt_zero _), fun k hk => absurd hk (Nat.not_lt_zero _)⟩
      exact has_of (by rfl)
    · rintro i tv m₁ news₁ h tk5 I it hi ⟨ot2, kvs, bigi, hps, rfl, hot2, hle, hv7, hv8, hbi, hbt, hb5, hSk, hRk⟩ hoffI hI F8 N8
      k_extra "my o"
      replace F8 := fr_on F8 _ hps
      obtain ⟨sv, hsv, ⟨stp, shd, spd, sn, rfl, sm1, sm2, sm3⟩, ⟨sb1, sb2⟩, ⟨sb3, sb4⟩, ⟨sb5, sb6⟩⟩ := hstC.at hSl hi
      obtain ⟨rv, hrv, ⟨rtp, rrd, rpd, rn, rfl, rm1, rm2, rm3⟩⟩ := hrtC.at hRl hi
      have hsv' : pvs.toArray.toList[((i : Nat) : Int).toNat]? = some (.ref stp) := by simpa using hsv
      have hrv' : qvs.toArray.toList[((i : Nat) : Int).toNat]? = some (.ref rtp) := by simpa using hrv
      obtain ⟨pt1, pt2, pt3, po, pm1, pm2, pm3⟩ := id sm3
      have sm1' := hbi _ sm1
      have pm1' := hbi _ pm1
      have rm1' := hbi _ rm1
      have hpm3 := hbi _ hpm2
      have hqm3 := hbi _ hqm2
      have hIt : @Ne Nat tb I := hoffI (tb, ot2) List.mem_cons_self
      have hIb : ∀ p ∈ bigi ++ (520, tabObj #[]) :: [], p.1 ≠ I := fun p hp => hoffI p (List.mem_cons_of_mem _ hp)
      have hIb1 : ∀ p ∈ bigi, p.1 ≠ I := fun p hp => hIb p (List.mem_append_left _ hp)
      have hI5 : @Ne Nat 520 I := hIb (520, tabObj #[]) (by k_extra "my mem")
      k_steps
      all_goals k_extra "my q"
      rename Obj.IsDictOf (PySem.intKind _ w) _ (stored (stored kvs _ _) _ _) => hd9
      rename News g' _ _ _ => N9
      refine' TurnEnd.next ?zF_7 (News.perm N9 (l' := (I, it) :: (tb, _) :: (((?p2_7, tupOf #[.int 0 _, .ref rrd] _) :: (?p1_7, tupOf #[.int 0 _, .ref ?x9_7] _) :: (?x9_7, instObj 233 ?d9_7) :: (?d9_7, _) :: bigi) ++ (520, tabObj #[]) :: [])) ?zp_7) ?zo_7 (TabJ.succ hi ?nm_7 hd9 hle hv7 hv8 hbi ?z1_7 ?z2_7 ?z3_7 hSk hRk (List.mem_cons_of_mem _ List.mem_cons_self) ⟨?d9_7, _, _, _, _, _, _, List.mem_cons_of_mem _ (List.mem_cons_of_mem _ List.mem_cons_self), List.mem_cons_of_mem _ (List.mem_cons_of_mem _ (List.mem_cons_of_mem _ List.mem_cons_self))⟩ ((sm2.mono hbi).mono ?z4_7) List.mem_cons_self ((rm2.mono hbi).mono ?z5_7))
      case zF_7 => assumption
      case zp_7 => k_extra "my inn"
      case zo_7 => k_extra "my off"
      case nm_7 =>
        exact has_of (by rfl)
      case z1_7 => k_extra "my inn"
      case z2_7 => k_extra "my off"
      case z3_7 => k_extra "my off"
      case z4_7 => k_extra "my inn"
      case z5_7 => k_extra "my inn"
    · intro m₁ news₁ h tk5 hJ F8 N8
      refine wpAny_execs_nil ?_
      k_extra "my q"
      exact Mid.intro F8 N8 hJ
  clear F7 N7 hot hb2t hsub5
  rintro m' all' h8 tk8 F8 N8 ⟨ot2, kvs, big3, hps, rfl, hot2, hle, hv7, hv8, hb23, hb3t, hb35, hSk, hRk⟩
  replace F8 := fr_on0 F8 _ hps
  dsimp only [List.drop]
  with_reducible refine seg 1 F8 (QX1_7 w m' tb ql pl sl dl L' od pn qn S0 R0 pvs qvs) ?_ ?_
  · k_extra "my o"
    dsimp only [List.take]
    k_steps
    all_goals k_extra "my q"
    rename News g' _ _ _ => N9
    have h5t : @Ne Nat tb 520 := Nat.ne_of_gt hlb
    refine' Mid.intro ?zF_8 (News.perm N9 (l' := ((?c1_8, instObj 323 ?d1_8) :: (?d1_8, _) :: (tb, ot2) :: big3) ++ (520, tabObj #[]) :: []) ?zp_8) ⟨?c1_8, _, rfl, rfl, ?z5_8, world_make ⟨?d1_8, _, _, _, _, _, _, List.mem_cons_self, List.mem_cons_of_mem _ List.mem_cons_self⟩ (List.mem_cons_of_mem _ (List.mem_cons_of_mem _ List.mem_cons_self)) hot2 htb hv7 hv8 (sub3 hb23 _ hm7) (sub3 hb23 _ hm8) (sub3 hb23 _ hmi) ho7 hi7 (hstC.mono (sub3 hb23)) hSl ?zS_8 ?zR_8, hddC.mono (sub3 hb23), sub3 hb23 _ hcm2, sub3 hb23 _ hpm2, sub3 hb23 _ hqm2, hstC.mono (sub3 hb23), hrtC.mono (sub3 hb23)⟩
    case zF_8 => assumption
    case zp_8 => k_extra "my inn"
    case z5_8 => k_extra "my off"
    case zS_8 =>
      intro k hk
      obtain ⟨tp, x, hd, t9, n9, b1, b2, b3, b4⟩ := hSk k hk
      exact ⟨tp, x, hd, t9, n9, b1, sub3 (fun p hp => hp) _ b2, b3.mono (sub3 fun p hp => hp), b4.mono (sub3 fun p hp => hp)⟩
    case zR_8 =>
      intro k hk
      obtain ⟨tp, rd, t9, n9, b1, b2, b3⟩ := hRk k hk
      exact ⟨tp, rd, t9, n9, b1, sub3 (fun p hp => hp) _ b2, b3.mono (sub3 fun p hp => hp)⟩
  clear F8 N8 hot2 hle hv7 hv8 hb3t hb35 hSk hRk hcm2 hpm2 hqm2 hstC hrtC hddC hm7 hm8 hmi ho7 hi7 hb25 hb23 kvs big3 big2
  rintro m'' all' h9 tk9 F9 N9 ⟨sh, core, rfl, rfl, hcore5, hW, hDd, hcm, hpm, hqm, hst, hrt⟩
  dsimp only [List.drop]
  obtain ⟨dvs, dn, dm, dall⟩ := id hDd
  obtain ⟨dl4, hdl4, hdi4⟩ := dall 4 (by decide) (by decide)
  obtain ⟨rv0, hrv0, ⟨rtp, rrd, rpd, rn, rfl, rm1, rm2, rm3⟩⟩ := hrt.at hRl (i := 0) (by decide)
  have hrv0' : qvs.toArray.toList[((0 : Int)).toNat]? = some (.ref rtp) := by simpa using hrv0
  have hth : ∀ k : Int, 0 ≤ k → k < 3 → ThB (RR R0 k).ta ∧ ThB (RR R0 k).tb := by
    intro k h0 h3
    obtain ⟨rd, _, hres⟩ := hW.res k h0 h3
    obtain ⟨_, _, _, _, _, _, _, _, _, _, _, c3, c4, _⟩ := hres
    exact ⟨c3.bound, c4.bound⟩
  have hPO := paint_ok (S := SS S0) (R := RR R0) (fun k h0 h3 => by
    have := hst.at hSl (i := k.toNat) (by omega)
    rw [Int.toNat_of_nonneg h0] at this
    obtain ⟨_, _, _, _, _, q⟩ := this
    exact q) hth (fun k h0 h3 => by
    have := hst.at hSl (i := k.toNat) (by omega)
    rw [Int.toNat_of_nonneg h0] at this
    obtain ⟨_, _, _, q, _⟩ := this
    exact q)
  have hdue : due (SS S0) (RR R0) 9 0 4 0 = paint (SS S0) (RR R0) 9 0 4 0 := by
    unfold due
    rw [if_neg (by decide)]
    rfl
  have hdp : kqdOk 27 (dueDat (due (SS S0) (RR R0) 9 0 4 0)) = true := by
    rw [hdue]
    refine due_deep (S := SS S0) (R := RR R0) fun T hT => ⟨paint_node hT, (hPO 9 0 4 0 T (by decide) (by decide) (by decide) (by decide) hT).2⟩
  with_reducible refine seg 1 F9 (QX1_8 w ql pl pn qn pvs qvs S0 R0) ?_ ?_
  · k_extra "my o"
    dsimp only [List.take]
    refine wpAny_execs_cons ?_
    refine wpAny_Try_except ?_
    refine foldE ?_
    intro qk8 ek8
    k_steps
    all_goals k_extra "my q"
    unfold Hold
    rename_i aI xI habI hmI hh9 tkk9 DT hT FT NT ltT1 qq1 pm1 f1 fc1 fo1 fv1 ft1 fct1 fh1 ftk1 FF1 NF1 fd1 fe1 fl1 fl2 fx1 fl3 qq2 pm2 f2 gc2 go2 gv2 gt2 gct2 gh2 gtk2 FF2 NF2 gd2 ge2 gx1
    obtain ⟨all2, NA, ma2, mc2, m520, ma1, mc1, mDT, haI, hco⟩ := lam_pack NF2
    clear NF1 NF2 NT FT FF1 fl1 l1 fx1 gx1 ltT1 habI
    have hWA := hW.mono hco
    have hFont : FontFn w all2 sh f1 := by
      refine ⟨⟨_, _, _, _, ma1⟩, ?_⟩
      intro news hs x o i tv hx ho hsys
      unfold Spec
      intro mean2 mg2 mb2 dp un gd cn cs a ccd cl outer A₀ base h₀ L m s Q E B F X N T hk hd9 hu hret
      have mf := hs _ ma1
      have mc := hs _ mc1
      have hWn := hWA.mono hs
      have hsh := hWn.shelf
      obtain ⟨sd1, sd2, sd3, sd4, sd5, sd6, sd7, sd8, sd9⟩ := id hsh
      have hft : FetchTo w news tb ((some (Value.int i tv)).getD .none) (.int i tv) "int" := .self (.int _ _)
      have hvi : valueAt [(Str.ofString "Id", Value.int i tv)] (Str.ofString "Id") = some (.int i tv) := rfl
      clear FF2 NA
      refine wpAny_call ?_
      refine' kla_code ?k1_9 ?k2_9 ?k3_9 ?k4_9 ?k5_9 ?kA_9 ?kF_9 ?kK_9 ?k6_9 ?k7_9 ?k8_9 ?k9_9 ?kB_9 ?_ ?c2_9 ?c3_9 ?c4_9 ?c5_9
      case kA_9 => exact rfl
      case kF_9 => exact rfl
      case kK_9 => assumption
      case k1_9 => k_asm
      case k2_9 => k_asm
      case k3_9 => k_asm
      case k4_9 => k_asm
      case k5_9 => k_asm
      case k6_9 => exact mf
      case k7_9 => exact codeRec_news N mc fd1 fe1
      case k8_9 => k_room
      case k9_9 => exact rfl
      case c5_9 => decide
      case kB_9 => exact PyProof.Rows.locs rfl
      case c2_9 => exact rfl
      case c3_9 => exact rfl
      case c4_9 => exact rfl
      intro g3 L3 h3 FG3 F3 N3 B3 X3 T3
      replace F3 := fr_locs F3 [("head", .ref x), ("held", .ref sh)] (by kernel_rfl)
      clear G Y
      k_steps
      all_goals k_extra "my q"
      exact hret _ _ _ _ (by assumption) (by assumption) ⟨rfl, rfl⟩
    have hCont : ContFn w all2 sh f2 := by
      refine ⟨⟨_, _, _, _, ma2⟩, ?_⟩
      intro news hs x hd0 deed hde0 hde4 hx
      unfold Spec
      intro mean2 mg2 mb2 dp un gd cn cs a ccd cl outer A₀ base h₀ L m s Q E B F X N T hk hd9 hu hret
      have mf := hs _ ma2
      have mc := hs _ mc2
      have mcl := hs _ (hco _ hcm)
      have mdl := hs _ (hco _ dm)
      obtain ⟨xd1, xh1, xh2, xt1, xt2, xt3, xn, xm1, xm2⟩ := hx
      obtain ⟨dlk, hdlk, hdik⟩ := dall deed hde0 (by omega)
      clear FF2 NA G Y
      refine wpAny_call ?_
      refine' kla_code ?k1_9 ?k2_9 ?k3_9 ?k4_9 ?k5_9 ?kA_9 ?kF_9 ?kK_9 ?k6_9 ?k7_9 ?k8_9 ?k9_9 ?kB_9 ?_ ?c2_9 ?c3_9 ?c4_9 ?c5_9
      case kA_9 => exact rfl
      case kF_9 => exact rfl
      case kK_9 => assumption
      case k1_9 => k_asm
      case k2_9 => k_asm
      case k3_9 => k_asm
      case k4_9 => k_asm
      case k5_9 => k_asm
      case k6_9 => exact mf
      case k7_9 => exact codeRec_news N mc gd2 ge2
      case k8_9 => k_room
      case k9_9 => exact rfl
      case c5_9 => decide
      case kB_9 => exact PyProof.Rows.locs rfl
      case c2_9 => exact rfl
      case c3_9 => exact rfl
      case c4_9 => exact rfl
      intro g3 L3 h3 FG3 F3 N3 B3 X3 T3
      replace F3 := fr_locs F3 [("stream", .ref x), ("held", .ref sh)] (by kernel_rfl)
      k_steps
      all_goals k_extra "my q"
      exact hret _ _ _ _ (by assumption) (by assumption) ⟨rfl, _, rfl, hdik.mono hco⟩
    refine' SpecB.use (sheet_all 9 all2 all2 sh tb rrd dl4 DT xI f1 f2 0 4 0 0 _ _ ⟨fun _ h => h⟩ (by decide) (by decide) hWA hFont hCont (by decide) (by decide) (rm2.mono hco) (hdi4.mono hco) mDT (hmI.mono haI)) ?k1_9 ?k2_9 ?k3_9 ?k4_9 ?k5_9 ?k6_9 ?k7_9 ?k8_9 ?ret_9 ?raise_9
    case k1_9 => k_asm
    case k2_9 => k_asm
    case k3_9 => k_asm
    case k4_9 => k_asm
    case k5_9 => k_asm
    case k6_9 => first | exact rfl | assumption
    case k7_9 => ktr_room
    case k8_9 => ktr_units
    case raise_9 =>
      intro e9 h9' tk9' g9' Y9 R9 F9' U9
      k_unfold
      obtain ⟨mN, mN2, TT, _⟩ := two_of X1
      refine caught_own K1 F9' U9 R9 X1 (topRead_of T1) (by kernel_rfl) TT ?_
      intro h10 F10 N10
      k_steps
      all_goals k_extra "my q"
      refine' Mid.intro (by assumption) (by assumption) ⟨.none, _, ?nm_9, m520, hco _ hpm, hco _ hqm, hst.mono hco, hrt.mono hco, ?dd_9⟩
      case nm_9 =>
        exact has_of (by rfl)
      case dd_9 => rw [hdue, Y9]; exact .none
    case ret_9 =>
      intro r9 n9' h9' tk9' F9' N9' hr9
      obtain ⟨T9, a9, hp9, e8, hab9, hv9⟩ := hr9
      subst e8
      obtain ⟨mx, rfl⟩ : ∃ mx, r9 = .ref mx := by
        cases T9 with
        | nil => cases hv9
        | node => obtain ⟨x, d, l, fd, xd, mt, h1, h2, h3, h4, t1, t2, t3, t4, n, fo, xo, va, vb, ya, yb, e, _⟩ := hv9; exact ⟨x, Option.some.inj e⟩
      obtain ⟨dT, hdT⟩ := paint_node hp9
      have hokT := hPO 9 0 4 0 T9 (by decide) (by decide) (by decide) (by decide) hp9
      have hokT1 := hokT.1
      have hhtT : T9.ht ≤ 10 := Nat.le_succ_of_le hokT.2
      have ihT := told_all (w := w) 10
      have hSub9 : SubL (a9 ++ all2) (a9 ++ all2) := ⟨fun _ h => h⟩
      have hDA : DeedsAre (a9 ++ all2) dl := hDd.mono fun p hp => List.mem_append_right _ (hco p hp)
      have mcl := hco _ hcm
      k_steps
      all_goals k_extra "my q"
      rename DatIn _ _ dT => hdT9
      rename News g' _ _ _ => N11
      have hmn : ∀ (b : Led), ∀ p ∈ all2, p ∈ b ++ (a9 ++ all2) := fun b p hp => List.mem_append_right _ (List.mem_append_right _ hp)
      refine' Mid.intro (by assumption) N11 ⟨_, _, ?nm_9, hmn _ _ m520, hmn _ _ (hco _ hpm), hmn _ _ (hco _ hqm), hst.mono fun p hp => hmn _ p (hco p hp), hrt.mono fun p hp => hmn _ p (hco p hp), ?dd_9⟩
      case nm_9 =>
        exact has_of (by rfl)
      case dd_9 =>
        have e : dueDat (some T9) = dT := by simp [dueDat, hdT]
        rw [hdue, hp9, e]
        exact hdT9.mono fun p hp => List.mem_append_left _ hp
  clear F9 N9
  rintro m3 all3 h11 tk11 F11 N11 ⟨fv, ps, hnm, m520, hpm3, hqm3, hst3, hrt3, hfv⟩
  replace F11 := fr_on0 F11 _ hnm
  dsimp only [List.drop]
  k_steps
  all_goals k_extra "my q"
  unfold Hold
  refine LCg.CompSrc.ledger (its := pvs.toArray) (k := pn) rfl (by assumption) (by assumption) hpm3 (by rw [sizeLine_eq, List.size_toArray, hst3.1, hSl]; decide) ?_
  intro g9
  refine comp_inv (PlJ w all3 S0) ⟨rfl, rfl, fun k hk => absurd hk (Nat.not_lt_zero _)⟩ ?_ ?_
  · rintro i ys nw v I oI C oC D m₂ h tk E' hi hv hJ hC hx F5 N5 off ne
    have hi3 : i < 3 := by simpa [hst3.1, hSl] using hi
    obtain ⟨sv, hsv, ⟨stp, shd, spd, sn, rfl, sm1, sm2, sm3⟩, _⟩ := hst3.at hSl hi3
    obtain rfl : v = .ref stp := by
      have : pvs[i]? = some v := by simpa using hv
      rw [hsv] at this; exact (Option.some.inj this).symm
    obtain rfl := hJ.1
    k_steps
    all_goals k_extra "my q"
    exact PlJ.succ hJ sm3
  · rintro ys nw hJ1
    obtain rfl := hJ1.1
    k_steps
    all_goals k_extra "my q"
    unfold Hold
    have hqm4 : ∀ (x : Addr × Obj), (ql, W.listOf qvs.toArray qn) ∈ x :: nw := fun x => List.mem_cons_of_mem _ hqm3
    refine LCg.CompSrc.ledger (its := qvs.toArray) (k := qn) rfl (by assumption) (by assumption) (hqm4 _) (by rw [sizeLine_eq, List.size_toArray, hrt3.1, hRl]; decide) ?_
    intro g10
    refine comp_inv (PrJ w _ R0) ⟨rfl, rfl, fun k hk => absurd hk (Nat.not_lt_zero _)⟩ ?_ ?_
    · rintro i zs nw2 v I oI C oC D m₂ h tk E' hi hv hJ hC hx F5 N5 off ne
      have hi3 : i < 3 := by simpa [hrt3.1, hRl] using hi
      obtain ⟨sv, hsv, ⟨rtp, rrd2, rpd2, rn2, rfl, rq1, rq2, rq3⟩⟩ := hrt3.at hRl hi3
      obtain rfl : v = .ref rtp := by
        have : qvs[i]? = some v := by simpa using hv
        rw [hsv] at this; exact (Option.some.inj this).symm
      have hJ0 := hJ.1
      subst hJ0
      have rq1' := fun x => @List.mem_cons_of_mem _ x _ _ rq1
      k_steps
      all_goals k_extra "my q"
      exact PrJ.succ hJ (rq3.mono fun p hp => List.mem_cons_of_mem _ hp)
    · rintro zs nw2 hJ2
      have hJ0 := hJ2.1
      subst hJ0
      k_steps
      all_goals k_extra "my q"
      unfold Hold
      rename News g' _ _ _ => N12
      rw [show qvs.toArray.size = 3 by rw [List.size_toArray, hrt3.1, hRl]] at hJ2
      rw [show pvs.toArray.size = 3 by rw [List.size_toArray, hst3.1, hSl]] at hJ1
      refine' Spec.use (due_call (due_all 9) ⟨fun _ h => h⟩ (by decide) (by decide) (plain_make ?p1_9 hSl ?p2_9 ?p3_9 hJ1 ?p4_9 hJ2 ?p5_9 hth) (by decide) (by decide) (by decide) (by decide)) ?k1_9 ?k2_9 ?k3_9 ?k4_9 ?k5_9 ?k6_9 ?k7_9 ?k8_9 ?_
      case k1_9 => k_asm
      case k2_9 => k_asm
      case k3_9 => k_asm
      case k4_9 => exact N12
      case k5_9 => k_asm
      case k6_9 => first | exact rfl | assumption
      case p1_9 => exact hst3.mono fun p hp => List.mem_cons_of_mem _ (List.mem_cons_of_mem _ hp)
      case p2_9 => exact List.mem_cons_of_mem _ List.mem_cons_self
      case p3_9 => exact List.mem_cons_self
      case p4_9 => exact fun p hp => List.mem_cons_of_mem _ (List.mem_cons_of_mem _ hp)
      case p5_9 => exact fun p hp => List.mem_cons_of_mem _ hp
      case k7_9 => ktr_room
      case k8_9 => ktr_units
      intro r9 n9 h9 tk9 F9 N9 hr9
      obtain ⟨a9, e8, hap9, hd9⟩ := hr9
      subst e8
      k_steps
      all_goals k_extra "my q"
      unfold Hold
      refine' dat_same N9 (hfv.mono ?zx1_9) (hd9.mono ?zx2_9) hdp (by decide) ?zu_9 ?_
      case zx1_9 => exact fun p hp => List.mem_append_right _ (List.mem_cons_of_mem _ (List.mem_cons_of_mem _ hp))
      case zx2_9 => exact fun p hp => List.mem_append_left _ hp
      case zu_9 => ktr_units
      k_steps
end
end
end Mine
theorem PySem.Challenge.cw_og0178_01_holds : PySem.Challenge.rw_og0178_01.Holds := by
  exact Mine.law_ok
