import PyProof.Rows.All
import Wide.All
import OpenK.AllK
import Wide.FinOn
import Lean
import PySem.Challenge.RW_sz0088_01
open PySem PySem.W PyProof.Rows PySem.Calls PySem.Spec
set_option Elab.async false
namespace Mine
set_option maxRecDepth 100000
set_option maxHeartbeats 8000000
/-- the statement that stands at i, and the one at j within the class at i -/
def topAt (i : Nat) : Option Stmt := PySem.Challenge.pw_sz0088_01.main.body[i]?
def inAt (i j : Nat) : Option Stmt := match topAt i with | some (.ClassDef _ _ _ b _ _ _ _ _ _ _) => b[j]? | _ => none
/-- the row in its wide form -/
abbrev rr : RowW := OpenRow.toRowW PySem.Challenge.rw_sz0088_01.row
/-- the top as the head sees it: the statements that keep a meaning -/
noncomputable def hd.view_39 : Program := (fun (x1 : Stmt) (x2 : Stmt) (x4 : Stmt) (x5 : Stmt) (x6 : Stmt) (x7 : Stmt) (x8 : Stmt) (x9 : Stmt) (x10 : Stmt) (x11 : Stmt) (x12 : Stmt) (x13 : Stmt) (x14 : Stmt) (x15 : Stmt) (x16 : Stmt) (x18 : Stmt) (x19 : Stmt) (x20 : Stmt) (x21 : Stmt) (x22 : Stmt) (x23 : Stmt) (x24 : Stmt) (x25 : Stmt) (x26 : Stmt) (x27 : Stmt) (x28 : Stmt) (x30 : Stmt) (x31 : Stmt) (x32 : Stmt) (x33 : Stmt) (x34 : Stmt) (x35 : Stmt) (x36 : Stmt) (x37 : Stmt) (x38 : Stmt) (x39 : Stmt) (x40 : Stmt) (x41 : Stmt) (x42 : Stmt) (x44 : Stmt) (x45 : Stmt) (x46 : Stmt) (x47 : Stmt) (x48 : Stmt) (x50 : Stmt) (x52 : Stmt) (x53 : Stmt) (x54 : Stmt) (x55 : Stmt) (x56 : Stmt) (x57 : Stmt) (x58 : Stmt) (x59 : Stmt) (x60 : Stmt) (_ : topAt 1 = some x1) (_ : topAt 2 = some x2) (_ : topAt 4 = some x4) (_ : topAt 5 = some x5) (_ : topAt 6 = some x6) (_ : topAt 7 = some x7) (_ : topAt 8 = some x8) (_ : topAt 9 = some x9) (_ : topAt 10 = some x10) (_ : topAt 11 = some x11) (_ : topAt 12 = some x12) (_ : topAt 13 = some x13) (_ : topAt 14 = some x14) (_ : topAt 15 = some x15) (_ : topAt 16 = some x16) (_ : topAt 18 = some x18) (_ : topAt 19 = some x19) (_ : topAt 20 = some x20) (_ : topAt 21 = some x21) (_ : topAt 22 = some x22) (_ : topAt 23 = some x23) (_ : topAt 24 = some x24) (_ : topAt 25 = some x25) (_ : topAt 26 = some x26) (_ : topAt 27 = some x27) (_ : topAt 28 = some x28) (_ : topAt 30 = some x30) (_ : topAt 31 = some x31) (_ : topAt 32 = some x32) (_ : topAt 33 = some x33) (_ : topAt 34 = some x34) (_ : topAt 35 = some x35) (_ : topAt 36 = some x36) (_ : topAt 37 = some x37) (_ : topAt 38 = some x38) (_ : topAt 39 = some x39) (_ : topAt 40 = some x40) (_ : topAt 41 = some x41) (_ : topAt 42 = some x42) (_ : topAt 44 = some x44) (_ : topAt 45 = some x45) (_ : topAt 46 = some x46) (_ : topAt 47 = some x47) (_ : topAt 48 = some x48) (_ : topAt 50 = some x50) (_ : topAt 52 = some x52) (_ : topAt 53 = some x53) (_ : topAt 54 = some x54) (_ : topAt 55 = some x55) (_ : topAt 56 = some x56) (_ : topAt 57 = some x57) (_ : topAt 58 = some x58) (_ : topAt 59 = some x59) (_ : topAt 60 = some x60) => ({ rr.prog with main := { rr.prog.main with body := [x1, x2, x4, x5, x6, x7, x8, x9, x10, x11, x12, x13, x14, x15, x16, x18, x19, x20, x21, x22, x23, x24, x25, x26, x27, x28, x30, x31, x32, x33, x34, x35, x36, x37, x38, x39, x40, x41, x42, x44, x45, x46, x47, x48, x50, x52, x53, x54, x55, x56, x57, x58, x59, x60] } } : Program)) _ _ _ _ _ _ _ _ _ _ _ _ _ _ _ _ _ _ _ _ _ _ _ _ _ _ _ _ _ _ _ _ _ _ _ _ _ _ _ _ _ _ _ _ _ _ _ _ _ _ _ _ _ _ rfl rfl rfl rfl rfl rfl rfl rfl rfl rfl rfl rfl rfl rfl rfl rfl rfl rfl rfl rfl rfl rfl rfl rfl rfl rfl rfl rfl rfl rfl rfl rfl rfl rfl rfl rfl rfl rfl rfl rfl rfl rfl rfl rfl rfl rfl rfl rfl rfl rfl rfl rfl rfl rfl
set_option maxHeartbeats 8000000 in
/-- the objects that the top leaves: the defs' texts are the program's own -/
noncomputable def hd.heap_39 : Params → Frag := (fun
  (n0 : Str) (a0 : Arguments) (b0 : List Stmt) (d0 : List PySem.Expr) (r0 : Option PySem.Expr) (t0 : List TypeParam) (s0 : Scope) (c0 : Option Scope) (e0 : Str) (p0 : Pos)
  (n1 : Str) (a1 : Arguments) (b1 : List Stmt) (d1 : List PySem.Expr) (r1 : Option PySem.Expr) (t1 : List TypeParam) (s1 : Scope) (c1 : Option Scope) (e1 : Str) (p1 : Pos)
  (n2 : Str) (a2 : Arguments) (b2 : List Stmt) (d2 : List PySem.Expr) (r2 : Option PySem.Expr) (t2 : List TypeParam) (s2 : Scope) (c2 : Option Scope) (e2 : Str) (p2 : Pos)
  (n3 : Str) (a3 : Arguments) (b3 : List Stmt) (d3 : List PySem.Expr) (r3 : Option PySem.Expr) (t3 : List TypeParam) (s3 : Scope) (c3 : Option Scope) (e3 : Str) (p3 : Pos)
  (n4 : Str) (a4 : Arguments) (b4 : List Stmt) (d4 : List PySem.Expr) (r4 : Option PySem.Expr) (t4 : List TypeParam) (s4 : Scope) (c4 : Option Scope) (e4 : Str) (p4 : Pos)
  (n5 : Str) (a5 : Arguments) (b5 : List Stmt) (d5 : List PySem.Expr) (r5 : Option PySem.Expr) (t5 : List TypeParam) (s5 : Scope) (c5 : Option Scope) (e5 : Str) (p5 : Pos)
  (n6 : Str) (a6 : Arguments) (b6 : List Stmt) (d6 : List PySem.Expr) (r6 : Option PySem.Expr) (t6 : List TypeParam) (s6 : Scope) (c6 : Option Scope) (e6 : Str) (p6 : Pos)
  (n7 : Str) (a7 : Arguments) (b7 : List Stmt) (d7 : List PySem.Expr) (r7 : Option PySem.Expr) (t7 : List TypeParam) (s7 : Scope) (c7 : Option Scope) (e7 : Str) (p7 : Pos)
  (n8 : Str) (a8 : Arguments) (b8 : List Stmt) (d8 : List PySem.Expr) (r8 : Option PySem.Expr) (t8 : List TypeParam) (s8 : Scope) (c8 : Option Scope) (e8 : Str) (p8 : Pos)
  (n9 : Str) (a9 : Arguments) (b9 : List Stmt) (d9 : List PySem.Expr) (r9 : Option PySem.Expr) (t9 : List TypeParam) (s9 : Scope) (c9 : Option Scope) (e9 : Str) (p9 : Pos)
  (n10 : Str) (a10 : Arguments) (b10 : List Stmt) (d10 : List PySem.Expr) (r10 : Option PySem.Expr) (t10 : List TypeParam) (s10 : Scope) (c10 : Option Scope) (e10 : Str) (p10 : Pos)
  (n11 : Str) (a11 : Arguments) (b11 : List Stmt) (d11 : List PySem.Expr) (r11 : Option PySem.Expr) (t11 : List TypeParam) (s11 : Scope) (c11 : Option Scope) (e11 : Str) (p11 : Pos)
  (n12 : Str) (a12 : Arguments) (b12 : List Stmt) (d12 : List PySem.Expr) (r12 : Option PySem.Expr) (t12 : List TypeParam) (s12 : Scope) (c12 : Option Scope) (e12 : Str) (p12 : Pos)
  (n13 : Str) (a13 : Arguments) (b13 : List Stmt) (d13 : List PySem.Expr) (r13 : Option PySem.Expr) (t13 : List TypeParam) (s13 : Scope) (c13 : Option Scope) (e13 : Str) (p13 : Pos)
  (n14 : Str) (a14 : Arguments) (b14 : List Stmt) (d14 : List PySem.Expr) (r14 : Option PySem.Expr) (t14 : List TypeParam) (s14 : Scope) (c14 : Option Scope) (e14 : Str) (p14 : Pos)
  (n15 : Str) (a15 : Arguments) (b15 : List Stmt) (d15 : List PySem.Expr) (r15 : Option PySem.Expr) (t15 : List TypeParam) (s15 : Scope) (c15 : Option Scope) (e15 : Str) (p15 : Pos)
  (n16 : Str) (a16 : Arguments) (b16 : List Stmt) (d16 : List PySem.Expr) (r16 : Option PySem.Expr) (t16 : List TypeParam) (s16 : Scope) (c16 : Option Scope) (e16 : Str) (p16 : Pos)
  (n17 : Str) (a17 : Arguments) (b17 : List Stmt) (d17 : List PySem.Expr) (r17 : Option PySem.Expr) (t17 : List TypeParam) (s17 : Scope) (c17 : Option Scope) (e17 : Str) (p17 : Pos)
  (n18 : Str) (a18 : Arguments) (b18 : List Stmt) (d18 : List PySem.Expr) (r18 : Option PySem.Expr) (t18 : List TypeParam) (s18 : Scope) (c18 : Option Scope) (e18 : Str) (p18 : Pos)
  (n19 : Str) (a19 : Arguments) (b19 : List Stmt) (d19 : List PySem.Expr) (r19 : Option PySem.Expr) (t19 : List TypeParam) (s19 : Scope) (c19 : Option Scope) (e19 : Str) (p19 : Pos)
  (n20 : Str) (a20 : Arguments) (b20 : List Stmt) (d20 : List PySem.Expr) (r20 : Option PySem.Expr) (t20 : List TypeParam) (s20 : Scope) (c20 : Option Scope) (e20 : Str) (p20 : Pos)
  (n21 : Str) (a21 : Arguments) (b21 : List Stmt) (d21 : List PySem.Expr) (r21 : Option PySem.Expr) (t21 : List TypeParam) (s21 : Scope) (c21 : Option Scope) (e21 : Str) (p21 : Pos)
  (n22 : Str) (a22 : Arguments) (b22 : List Stmt) (d22 : List PySem.Expr) (r22 : Option PySem.Expr) (t22 : List TypeParam) (s22 : Scope) (c22 : Option Scope) (e22 : Str) (p22 : Pos)
  (n23 : Str) (a23 : Arguments) (b23 : List Stmt) (d23 : List PySem.Expr) (r23 : Option PySem.Expr) (t23 : List TypeParam) (s23 : Scope) (c23 : Option Scope) (e23 : Str) (p23 : Pos)
  (n24 : Str) (a24 : Arguments) (b24 : List Stmt) (d24 : List PySem.Expr) (r24 : Option PySem.Expr) (t24 : List TypeParam) (s24 : Scope) (c24 : Option Scope) (e24 : Str) (p24 : Pos)
  (n25 : Str) (a25 : Arguments) (b25 : List Stmt) (d25 : List PySem.Expr) (r25 : Option PySem.Expr) (t25 : List TypeParam) (s25 : Scope) (c25 : Option Scope) (e25 : Str) (p25 : Pos)
  (n26 : Str) (a26 : Arguments) (b26 : List Stmt) (d26 : List PySem.Expr) (r26 : Option PySem.Expr) (t26 : List TypeParam) (s26 : Scope) (c26 : Option Scope) (e26 : Str) (p26 : Pos)
  (n27 : Str) (a27 : Arguments) (b27 : List Stmt) (d27 : List PySem.Expr) (r27 : Option PySem.Expr) (t27 : List TypeParam) (s27 : Scope) (c27 : Option Scope) (e27 : Str) (p27 : Pos)
  (n28 : Str) (a28 : Arguments) (b28 : List Stmt) (d28 : List PySem.Expr) (r28 : Option PySem.Expr) (t28 : List TypeParam) (s28 : Scope) (c28 : Option Scope) (e28 : Str) (p28 : Pos)
  (n29 : Str) (a29 : Arguments) (b29 : List Stmt) (d29 : List PySem.Expr) (r29 : Option PySem.Expr) (t29 : List TypeParam) (s29 : Scope) (c29 : Option Scope) (e29 : Str) (p29 : Pos)
  (n30 : Str) (a30 : Arguments) (b30 : List Stmt) (d30 : List PySem.Expr) (r30 : Option PySem.Expr) (t30 : List TypeParam) (s30 : Scope) (c30 : Option Scope) (e30 : Str) (p30 : Pos)
  (n31 : Str) (a31 : Arguments) (b31 : List Stmt) (d31 : List PySem.Expr) (r31 : Option PySem.Expr) (t31 : List TypeParam) (s31 : Scope) (c31 : Option Scope) (e31 : Str) (p31 : Pos)
  (n32 : Str) (a32 : Arguments) (b32 : List Stmt) (d32 : List PySem.Expr) (r32 : Option PySem.Expr) (t32 : List TypeParam) (s32 : Scope) (c32 : Option Scope) (e32 : Str) (p32 : Pos)
  (n33 : Str) (a33 : Arguments) (b33 : List Stmt) (d33 : List PySem.Expr) (r33 : Option PySem.Expr) (t33 : List TypeParam) (s33 : Scope) (c33 : Option Scope) (e33 : Str) (p33 : Pos)
  (n34 : Str) (a34 : Arguments) (b34 : List Stmt) (d34 : List PySem.Expr) (r34 : Option PySem.Expr) (t34 : List TypeParam) (s34 : Scope) (c34 : Option Scope) (e34 : Str) (p34 : Pos)
  (n35 : Str) (a35 : Arguments) (b35 : List Stmt) (d35 : List PySem.Expr) (r35 : Option PySem.Expr) (t35 : List TypeParam) (s35 : Scope) (c35 : Option Scope) (e35 : Str) (p35 : Pos)
  (n36 : Str) (a36 : Arguments) (b36 : List Stmt) (d36 : List PySem.Expr) (r36 : Option PySem.Expr) (t36 : List TypeParam) (s36 : Scope) (c36 : Option Scope) (e36 : Str) (p36 : Pos)
  (n37 : Str) (a37 : Arguments) (b37 : List Stmt) (d37 : List PySem.Expr) (r37 : Option PySem.Expr) (t37 : List TypeParam) (s37 : Scope) (c37 : Option Scope) (e37 : Str) (p37 : Pos)
  (n38 : Str) (a38 : Arguments) (b38 : List Stmt) (d38 : List PySem.Expr) (r38 : Option PySem.Expr) (t38 : List TypeParam) (s38 : Scope) (c38 : Option Scope) (e38 : Str) (p38 : Pos)
  (n39 : Str) (a39 : Arguments) (b39 : List Stmt) (d39 : List PySem.Expr) (r39 : Option PySem.Expr) (t39 : List TypeParam) (s39 : Scope) (c39 : Option Scope) (e39 : Str) (p39 : Pos)
  (n40 : Str) (a40 : Arguments) (b40 : List Stmt) (d40 : List PySem.Expr) (r40 : Option PySem.Expr) (t40 : List TypeParam) (s40 : Scope) (c40 : Option Scope) (e40 : Str) (p40 : Pos)
  (n41 : Str) (a41 : Arguments) (b41 : List Stmt) (d41 : List PySem.Expr) (r41 : Option PySem.Expr) (t41 : List TypeParam) (s41 : Scope) (c41 : Option Scope) (e41 : Str) (p41 : Pos)
  (n42 : Str) (a42 : Arguments) (b42 : List Stmt) (d42 : List PySem.Expr) (r42 : Option PySem.Expr) (t42 : List TypeParam) (s42 : Scope) (c42 : Option Scope) (e42 : Str) (p42 : Pos)
  (n43 : Str) (a43 : Arguments) (b43 : List Stmt) (d43 : List PySem.Expr) (r43 : Option PySem.Expr) (t43 : List TypeParam) (s43 : Scope) (c43 : Option Scope) (e43 : Str) (p43 : Pos)
  (n44 : Str) (a44 : Arguments) (b44 : List Stmt) (d44 : List PySem.Expr) (r44 : Option PySem.Expr) (t44 : List TypeParam) (s44 : Scope) (c44 : Option Scope) (e44 : Str) (p44 : Pos)
  (n45 : Str) (a45 : Arguments) (b45 : List Stmt) (d45 : List PySem.Expr) (r45 : Option PySem.Expr) (t45 : List TypeParam) (s45 : Scope) (c45 : Option Scope) (e45 : Str) (p45 : Pos)
  (n46 : Str) (a46 : Arguments) (b46 : List Stmt) (d46 : List PySem.Expr) (r46 : Option PySem.Expr) (t46 : List TypeParam) (s46 : Scope) (c46 : Option Scope) (e46 : Str) (p46 : Pos)
  (n47 : Str) (a47 : Arguments) (b47 : List Stmt) (d47 : List PySem.Expr) (r47 : Option PySem.Expr) (t47 : List TypeParam) (s47 : Scope) (c47 : Option Scope) (e47 : Str) (p47 : Pos)
  (n48 : Str) (a48 : Arguments) (b48 : List Stmt) (d48 : List PySem.Expr) (r48 : Option PySem.Expr) (t48 : List TypeParam) (s48 : Scope) (c48 : Option Scope) (e48 : Str) (p48 : Pos)
  (n49 : Str) (a49 : Arguments) (b49 : List Stmt) (d49 : List PySem.Expr) (r49 : Option PySem.Expr) (t49 : List TypeParam) (s49 : Scope) (c49 : Option Scope) (e49 : Str) (p49 : Pos)
  (_ : inAt 1 0 = some (.FunctionDef n0 a0 b0 d0 r0 t0 s0 c0 e0 p0))
  (_ : inAt 2 0 = some (.FunctionDef n1 a1 b1 d1 r1 t1 s1 c1 e1 p1))
  (_ : topAt 6 = some (.FunctionDef n2 a2 b2 d2 r2 t2 s2 c2 e2 p2))
  (_ : topAt 7 = some (.FunctionDef n3 a3 b3 d3 r3 t3 s3 c3 e3 p3))
  (_ : topAt 8 = some (.FunctionDef n4 a4 b4 d4 r4 t4 s4 c4 e4 p4))
  (_ : topAt 9 = some (.FunctionDef n5 a5 b5 d5 r5 t5 s5 c5 e5 p5))
  (_ : topAt 10 = some (.FunctionDef n6 a6 b6 d6 r6 t6 s6 c6 e6 p6))
  (_ : topAt 11 = some (.FunctionDef n7 a7 b7 d7 r7 t7 s7 c7 e7 p7))
  (_ : topAt 12 = some (.FunctionDef n8 a8 b8 d8 r8 t8 s8 c8 e8 p8))
  (_ : topAt 13 = some (.FunctionDef n9 a9 b9 d9 r9 t9 s9 c9 e9 p9))
  (_ : topAt 14 = some (.FunctionDef n10 a10 b10 d10 r10 t10 s10 c10 e10 p10))
  (_ : topAt 15 = some (.FunctionDef n11 a11 b11 d11 r11 t11 s11 c11 e11 p11))
  (_ : topAt 16 = some (.FunctionDef n12 a12 b12 d12 r12 t12 s12 c12 e12 p12))
  (_ : inAt 19 0 = some (.FunctionDef n13 a13 b13 d13 r13 t13 s13 c13 e13 p13))
  (_ : inAt 20 0 = some (.FunctionDef n14 a14 b14 d14 r14 t14 s14 c14 e14 p14))
  (_ : inAt 21 0 = some (.FunctionDef n15 a15 b15 d15 r15 t15 s15 c15 e15 p15))
  (_ : inAt 22 0 = some (.FunctionDef n16 a16 b16 d16 r16 t16 s16 c16 e16 p16))
  (_ : inAt 23 0 = some (.FunctionDef n17 a17 b17 d17 r17 t17 s17 c17 e17 p17))
  (_ : inAt 24 0 = some (.FunctionDef n18 a18 b18 d18 r18 t18 s18 c18 e18 p18))
  (_ : inAt 25 0 = some (.FunctionDef n19 a19 b19 d19 r19 t19 s19 c19 e19 p19))
  (_ : topAt 26 = some (.FunctionDef n20 a20 b20 d20 r20 t20 s20 c20 e20 p20))
  (_ : topAt 27 = some (.FunctionDef n21 a21 b21 d21 r21 t21 s21 c21 e21 p21))
  (_ : topAt 28 = some (.FunctionDef n22 a22 b22 d22 r22 t22 s22 c22 e22 p22))
  (_ : topAt 30 = some (.FunctionDef n23 a23 b23 d23 r23 t23 s23 c23 e23 p23))
  (_ : topAt 31 = some (.FunctionDef n24 a24 b24 d24 r24 t24 s24 c24 e24 p24))
  (_ : topAt 32 = some (.FunctionDef n25 a25 b25 d25 r25 t25 s25 c25 e25 p25))
  (_ : topAt 33 = some (.FunctionDef n26 a26 b26 d26 r26 t26 s26 c26 e26 p26))
  (_ : topAt 34 = some (.FunctionDef n27 a27 b27 d27 r27 t27 s27 c27 e27 p27))
  (_ : topAt 35 = some (.FunctionDef n28 a28 b28 d28 r28 t28 s28 c28 e28 p28))
  (_ : topAt 36 = some (.FunctionDef n29 a29 b29 d29 r29 t29 s29 c29 e29 p29))
  (_ : topAt 37 = some (.FunctionDef n30 a30 b30 d30 r30 t30 s30 c30 e30 p30))
  (_ : topAt 38 = some (.FunctionDef n31 a31 b31 d31 r31 t31 s31 c31 e31 p31))
  (_ : topAt 39 = some (.FunctionDef n32 a32 b32 d32 r32 t32 s32 c32 e32 p32))
  (_ : topAt 40 = some (.FunctionDef n33 a33 b33 d33 r33 t33 s33 c33 e33 p33))
  (_ : topAt 41 = some (.FunctionDef n34 a34 b34 d34 r34 t34 s34 c34 e34 p34))
  (_ : topAt 42 = some (.FunctionDef n35 a35 b35 d35 r35 t35 s35 c35 e35 p35))
  (_ : topAt 44 = some (.FunctionDef n36 a36 b36 d36 r36 t36 s36 c36 e36 p36))
  (_ : topAt 45 = some (.FunctionDef n37 a37 b37 d37 r37 t37 s37 c37 e37 p37))
  (_ : topAt 46 = some (.FunctionDef n38 a38 b38 d38 r38 t38 s38 c38 e38 p38))
  (_ : topAt 47 = some (.FunctionDef n39 a39 b39 d39 r39 t39 s39 c39 e39 p39))
  (_ : topAt 48 = some (.FunctionDef n40 a40 b40 d40 r40 t40 s40 c40 e40 p40))
  (_ : inAt 50 0 = some (.FunctionDef n41 a41 b41 d41 r41 t41 s41 c41 e41 p41))
  (_ : topAt 53 = some (.FunctionDef n42 a42 b42 d42 r42 t42 s42 c42 e42 p42))
  (_ : topAt 54 = some (.FunctionDef n43 a43 b43 d43 r43 t43 s43 c43 e43 p43))
  (_ : topAt 55 = some (.FunctionDef n44 a44 b44 d44 r44 t44 s44 c44 e44 p44))
  (_ : topAt 56 = some (.FunctionDef n45 a45 b45 d45 r45 t45 s45 c45 e45 p45))
  (_ : topAt 57 = some (.FunctionDef n46 a46 b46 d46 r46 t46 s46 c46 e46 p46))
  (_ : topAt 58 = some (.FunctionDef n47 a47 b47 d47 r47 t47 s47 c47 e47 p47))
  (_ : topAt 59 = some (.FunctionDef n48 a48 b48 d48 r48 t48 s48 c48 e48 p48))
  (_ : topAt 60 = some (.FunctionDef n49 a49 b49 d49 r49 t49 s49 c49 e49 p49)) =>
 fun (P : Params) => (
  ((nat_lit 2), ⟨PySem.Value.none, .none, (.dict (List.toArray [⟨(PySem.PyData.keyHash P "type.__subclasses__.Exception.0"), (.str "type.__subclasses__.Exception.0" 214), (.int 31 0)⟩, ⟨(PySem.PyData.keyHash P "type.__subclasses__.Exception.n"), (.str "type.__subclasses__.Exception.n" 215), (.int 1 0)⟩]) 2), (List.toArray [])⟩) ::
  ((nat_lit 3), ⟨(.type "dict"), .none, (.dict (List.toArray [⟨(PySem.PyData.keyHash P "__name__"), (.str "__name__" 165), (.str "law_sz0088_01" 792)⟩, ⟨(PySem.PyData.keyHash P "__doc__"), (.str "__doc__" 166), PySem.Value.none⟩, ⟨(PySem.PyData.keyHash P "__package__"), (.str "__package__" 167), PySem.Value.none⟩, ⟨(PySem.PyData.keyHash P "__loader__"), (.str "__loader__" 168), (.builtin "__main__.__loader__#opaque")⟩, ⟨(PySem.PyData.keyHash P "__spec__"), (.str "__spec__" 169), PySem.Value.none⟩, ⟨(PySem.PyData.keyHash P "__annotations__"), (.str "__annotations__" 170), (.ref 6)⟩, ⟨(PySem.PyData.keyHash P "__builtins__"), (.str "__builtins__" 171), (.ref 4)⟩, ⟨(PySem.PyData.keyHash P "__file__"), (.str "__file__" 173), (.str "/claim/cut.py" 172)⟩, ⟨(PySem.PyData.keyHash P "__cached__"), (.str "__cached__" 174), PySem.Value.none⟩, ⟨(PySem.PyData.keyHash P "PerlError"), (.str "PerlError" 217), (.ref 31)⟩, ⟨(PySem.PyData.keyHash P "Die"), (.str "Die" 242), (.ref 51)⟩, ⟨(PySem.PyData.keyHash P "FIGURES"), (.str "FIGURES" 246), (.str "0123456789" 245)⟩, ⟨(PySem.PyData.keyHash P "SPACES"), (.str "SPACES" 248), (.str " \t\n\x0d\x0c\x0b" 247)⟩, ⟨(PySem.PyData.keyHash P "wrap_number"), (.str "wrap_number" 256), (.ref 60)⟩, ⟨(PySem.PyData.keyHash P "add_numbers"), (.str "add_numbers" 265), (.ref 67)⟩, ⟨(PySem.PyData.keyHash P "sub_numbers"), (.str "sub_numbers" 274), (.ref 74)⟩, ⟨(PySem.PyData.keyHash P "mul_numbers"), (.str "mul_numbers" 283), (.ref 81)⟩, ⟨(PySem.PyData.keyHash P "cut_quotient"), (.str "cut_quotient" 292), (.ref 88)⟩, ⟨(PySem.PyData.keyHash P "div_numbers"), (.str "div_numbers" 301), (.ref 95)⟩, ⟨(PySem.PyData.keyHash P "mod_numbers"), (.str "mod_numbers" 310), (.ref 102)⟩, ⟨(PySem.PyData.keyHash P "power_numbers"), (.str "power_numbers" 320), (.ref 109)⟩, ⟨(PySem.PyData.keyHash P "number_head"), (.str "number_head" 330), (.ref 116)⟩, ⟨(PySem.PyData.keyHash P "numeric_text"), (.str "numeric_text" 342), (.ref 123)⟩, ⟨(PySem.PyData.keyHash P "number_text"), (.str "number_text" 350), (.ref 130)⟩, ⟨(PySem.PyData.keyHash P "HEX_FIGURES"), (.str "HEX_FIGURES" 354), (.str "0123456789abcdef" 353)⟩, ⟨(PySem.PyData.keyHash P "Thing"), (.str "Thing" 388), (.ref 147)⟩, ⟨(PySem.PyData.keyHash P "Scalar"), (.str "Scalar" 415), (.ref 168)⟩, ⟨(PySem.PyData.keyHash P "Array"), (.str "Array" 441), (.ref 187)⟩, ⟨(PySem.PyData.keyHash P "Hash"), (.str "Hash" 468), (.ref 206)⟩, ⟨(PySem.PyData.keyHash P "Code"), (.str "Code" 498), (.ref 225)⟩, ⟨(PySem.PyData.keyHash P "Glob"), (.str "Glob" 528), (.ref 244)⟩, ⟨(PySem.PyData.keyHash P "Ref"), (.str "Ref" 559), (.ref 264)⟩, ⟨(PySem.PyData.keyHash P "thing_word"), (.str "thing_word" 566), (.ref 275)⟩, ⟨(PySem.PyData.keyHash P "hex_of"), (.str "hex_of" 574), (.ref 282)⟩, ⟨(PySem.PyData.keyHash P "ref_text"), (.str "ref_text" 582), (.ref 289)⟩, ⟨(PySem.PyData.keyHash P "value_of"), (.str "value_of" 591), (.ref 296)⟩, ⟨(PySem.PyData.keyHash P "to_text"), (.str "to_text" 598), (.ref 303)⟩, ⟨(PySem.PyData.keyHash P "to_number"), (.str "to_number" 606), (.ref 310)⟩, ⟨(PySem.PyData.keyHash P "compare_num"), (.str "compare_num" 617), (.ref 317)⟩, ⟨(PySem.PyData.keyHash P "compare_text"), (.str "compare_text" 627), (.ref 324)⟩, ⟨(PySem.PyData.keyHash P "by_numbers"), (.str "by_numbers" 637), (.ref 331)⟩, ⟨(PySem.PyData.keyHash P "op_add"), (.str "op_add" 646), (.ref 338)⟩, ⟨(PySem.PyData.keyHash P "op_sub"), (.str "op_sub" 655), (.ref 345)⟩, ⟨(PySem.PyData.keyHash P "op_mul"), (.str "op_mul" 664), (.ref 352)⟩, ⟨(PySem.PyData.keyHash P "op_div"), (.str "op_div" 673), (.ref 359)⟩, ⟨(PySem.PyData.keyHash P "op_mod"), (.str "op_mod" 682), (.ref 366)⟩, ⟨(PySem.PyData.keyHash P "op_power"), (.str "op_power" 691), (.ref 373)⟩, ⟨(PySem.PyData.keyHash P "arithmetic_ops"), (.str "arithmetic_ops" 697), (.ref 380)⟩, ⟨(PySem.PyData.keyHash P "merged_runs"), (.str "merged_runs" 711), (.ref 387)⟩, ⟨(PySem.PyData.keyHash P "sorted_members"), (.str "sorted_members" 717), (.ref 392)⟩, ⟨(PySem.PyData.keyHash P "order_by_text"), (.str "order_by_text" 725), (.ref 399)⟩, ⟨(PySem.PyData.keyHash P "sorted_by_text"), (.str "sorted_by_text" 732), (.ref 406)⟩, ⟨(PySem.PyData.keyHash P "is_sorted"), (.str "is_sorted" 741), (.ref 413)⟩, ⟨(PySem.PyData.keyHash P "Limits"), (.str "Limits" 791), (.ref 431)⟩, ⟨(PySem.PyData.keyHash P "_law_rest"), (.str "_law_rest" 802), (.ref 436)⟩, ⟨(PySem.PyData.keyHash P "_law_toss"), (.str "_law_toss" 811), (.ref 443)⟩, ⟨(PySem.PyData.keyHash P "_law_figure"), (.str "_law_figure" 819), (.ref 450)⟩, ⟨(PySem.PyData.keyHash P "_law_by_last"), (.str "_law_by_last" 827), (.ref 457)⟩, ⟨(PySem.PyData.keyHash P "_law_by_next"), (.str "_law_by_next" 835), (.ref 464)⟩, ⟨(PySem.PyData.keyHash P "_law_by_first"), (.str "_law_by_first" 843), (.ref 471)⟩, ⟨(PySem.PyData.keyHash P "_law_by_two"), (.str "_law_by_two" 852), (.ref 478)⟩, ⟨(PySem.PyData.keyHash P "_law_by_texts"), (.str "_law_by_texts" 860), (.ref 485)⟩, ⟨(PySem.PyData.keyHash P "law"), (.str "law" 866), (.ref 490)⟩]) 63), (List.toArray [])⟩) ::
  ((nat_lit 15), ⟨(.type "tuple"), .none, (.seq (List.toArray [(.type "Exception")]) 0), (List.toArray [])⟩) ::
  ((nat_lit 22), ⟨(.type "tuple"), .none, (.seq (List.toArray []) 0), (List.toArray [])⟩) ::
  ((nat_lit 24), ⟨(.type "tuple"), .none, (.seq (List.toArray [(.str "self" 204), (.str "text" 205)]) 0), (List.toArray [])⟩) ::
  ((nat_lit 25), ⟨(.type "tuple"), .none, (.seq (List.toArray []) 0), (List.toArray [])⟩) ::
  ((nat_lit 27), ⟨(.type "code"), .none, (.fields (List.toArray [(.str "__init__" 201), (.str "PerlError.__init__" 202), (.str "/claim/cut.py" 203), (.int 4 0), (.int 2 0), (.int 0 0), (.int 0 0), (.int 3 0), (.ref 22), (.bool Bool.true), (.int 181 0), (.ref 23), PySem.Value.none, (.ref 24), (.ref 25), (.ref 26), (.int 206 0), (.int 4 0), (.str "/claim/cut.py" 207)])), (List.toArray [])⟩) ::
  ((nat_lit 28), ⟨(.type "function"), .none, (.func ⟨"__init__", "PerlError.__init__", a0, (.stmts b0), s0, 3, [], PySem.Value.none, PySem.Value.none, PySem.Value.none, (.str "perlcore.errors" 187), .none, (.ref 27), PySem.Value.none, 0⟩), (List.toArray [])⟩) ::
  ((nat_lit 29), ⟨(.type "tuple"), .none, (.seq (List.toArray [(.str "text" 209)]) 0), (List.toArray [])⟩) ::
  ((nat_lit 30), ⟨(.type "dict"), .none, (.dict (List.toArray [⟨(PySem.PyData.keyHash P "__module__"), (.str "__module__" 196), (.str "perlcore.errors" 187)⟩, ⟨(PySem.PyData.keyHash P "__firstlineno__"), (.str "__firstlineno__" 200), (.int 2 199)⟩, ⟨(PySem.PyData.keyHash P "__init__"), (.str "__init__" 208), (.ref 28)⟩, ⟨(PySem.PyData.keyHash P "__static_attributes__"), (.str "__static_attributes__" 210), (.ref 29)⟩, ⟨(PySem.PyData.keyHash P "__weakref__"), (.str "__weakref__" 212), (.ref 32)⟩, ⟨(PySem.PyData.keyHash P "__doc__"), (.str "__doc__" 213), PySem.Value.none⟩]) 3), (List.toArray [])⟩) ::
  ((nat_lit 31), ⟨(.type "type"), .none, (.cls ⟨"PerlError", [(.type "Exception")], [(.ref 31), (.type "Exception"), (.type "BaseException"), (.type "object")], 30, "PerlError", Bool.true, [], [(.ref 51)], Bool.false, .none, Bool.false⟩), (List.toArray [(.some (.ref 15)), .none, (.some (.str "PerlError" 189)), (.some (.str "PerlError" 197)), (.some (.builtin "Exception.__new__")), (.some (.bool Bool.true))])⟩) ::
  ((nat_lit 32), ⟨(.type "getset_descriptor"), .none, (.fields (List.toArray [(.str "__weakref__" 211), (.ref 31), (.builtin "ExceptionGroup.__weakref__"), PySem.Value.none])), (List.toArray [])⟩) ::
  ((nat_lit 35), ⟨(.type "tuple"), .none, (.seq (List.toArray [(.ref 31)]) 0), (List.toArray [])⟩) ::
  ((nat_lit 42), ⟨(.type "tuple"), .none, (.seq (List.toArray []) 0), (List.toArray [])⟩) ::
  ((nat_lit 44), ⟨(.type "tuple"), .none, (.seq (List.toArray [(.str "self" 233), (.str "value" 234)]) 0), (List.toArray [])⟩) ::
  ((nat_lit 45), ⟨(.type "tuple"), .none, (.seq (List.toArray []) 0), (List.toArray [])⟩) ::
  ((nat_lit 47), ⟨(.type "code"), .none, (.fields (List.toArray [(.str "__init__" 230), (.str "Die.__init__" 231), (.str "/claim/cut.py" 232), (.int 9 0), (.int 2 0), (.int 0 0), (.int 0 0), (.int 3 0), (.ref 42), (.bool Bool.true), (.int 181 0), (.ref 43), PySem.Value.none, (.ref 44), (.ref 45), (.ref 46), (.int 235 0), (.int 9 0), (.str "/claim/cut.py" 236)])), (List.toArray [])⟩) ::
  ((nat_lit 48), ⟨(.type "function"), .none, (.func ⟨"__init__", "Die.__init__", a1, (.stmts b1), s1, 3, [], PySem.Value.none, PySem.Value.none, PySem.Value.none, (.str "perlcore.errors" 187), .none, (.ref 47), PySem.Value.none, 0⟩), (List.toArray [])⟩) ::
  ((nat_lit 49), ⟨(.type "tuple"), .none, (.seq (List.toArray [(.str "value" 238)]) 0), (List.toArray [])⟩) ::
  ((nat_lit 50), ⟨(.type "dict"), .none, (.dict (List.toArray [⟨(PySem.PyData.keyHash P "__module__"), (.str "__module__" 225), (.str "perlcore.errors" 187)⟩, ⟨(PySem.PyData.keyHash P "__firstlineno__"), (.str "__firstlineno__" 229), (.int 7 228)⟩, ⟨(PySem.PyData.keyHash P "__init__"), (.str "__init__" 237), (.ref 48)⟩, ⟨(PySem.PyData.keyHash P "__static_attributes__"), (.str "__static_attributes__" 239), (.ref 49)⟩, ⟨(PySem.PyData.keyHash P "__doc__"), (.str "__doc__" 240), PySem.Value.none⟩]) 2), (List.toArray [])⟩) ::
  ((nat_lit 51), ⟨(.type "type"), .none, (.cls ⟨"Die", [(.ref 31)], [(.ref 51), (.ref 31), (.type "Exception"), (.type "BaseException"), (.type "object")], 50, "Die", Bool.true, [], [], Bool.false, .none, Bool.false⟩), (List.toArray [(.some (.ref 35)), .none, (.some (.str "Die" 218)), (.some (.str "Die" 226)), (.some (.builtin "Exception.__new__")), (.some (.bool Bool.true))])⟩) ::
  ((nat_lit 54), ⟨(.type "tuple"), .none, (.seq (List.toArray []) 0), (List.toArray [])⟩) ::
  ((nat_lit 56), ⟨(.type "tuple"), .none, (.seq (List.toArray [(.str "n" 252), (.str "width" 253)]) 0), (List.toArray [])⟩) ::
  ((nat_lit 57), ⟨(.type "tuple"), .none, (.seq (List.toArray []) 0), (List.toArray [])⟩) ::
  ((nat_lit 59), ⟨(.type "code"), .none, (.fields (List.toArray [(.str "wrap_number" 249), (.str "wrap_number" 250), (.str "/claim/cut.py" 251), (.int 15 0), (.int 2 0), (.int 0 0), (.int 0 0), (.int 3 0), (.ref 54), (.bool Bool.true), (.int 181 0), (.ref 55), PySem.Value.none, (.ref 56), (.ref 57), (.ref 58), (.int 254 0), (.int 15 0), (.str "/claim/cut.py" 255)])), (List.toArray [])⟩) ::
  ((nat_lit 60), ⟨(.type "function"), .none, (.func ⟨"wrap_number", "wrap_number", a2, (.stmts b2), s2, 3, [], PySem.Value.none, PySem.Value.none, PySem.Value.none, (.str "perlcore.numbers" 243), .none, (.ref 59), PySem.Value.none, 0⟩), (List.toArray [])⟩) ::
  ((nat_lit 61), ⟨(.type "tuple"), .none, (.seq (List.toArray []) 0), (List.toArray [])⟩) ::
  ((nat_lit 63), ⟨(.type "tuple"), .none, (.seq (List.toArray [(.str "x" 260), (.str "y" 261), (.str "width" 262)]) 0), (List.toArray [])⟩) ::
  ((nat_lit 64), ⟨(.type "tuple"), .none, (.seq (List.toArray []) 0), (List.toArray [])⟩) ::
  ((nat_lit 66), ⟨(.type "code"), .none, (.fields (List.toArray [(.str "add_numbers" 257), (.str "add_numbers" 258), (.str "/claim/cut.py" 259), (.int 20 0), (.int 3 0), (.int 0 0), (.int 0 0), (.int 3 0), (.ref 61), (.bool Bool.true), (.int 181 0), (.ref 62), PySem.Value.none, (.ref 63), (.ref 64), (.ref 65), (.int 263 0), (.int 20 0), (.str "/claim/cut.py" 264)])), (List.toArray [])⟩) ::
  ((nat_lit 67), ⟨(.type "function"), .none, (.func ⟨"add_numbers", "add_numbers", a3, (.stmts b3), s3, 3, [], PySem.Value.none, PySem.Value.none, PySem.Value.none, (.str "perlcore.numbers" 243), .none, (.ref 66), PySem.Value.none, 0⟩), (List.toArray [])⟩) ::
  ((nat_lit 68), ⟨(.type "tuple"), .none, (.seq (List.toArray []) 0), (List.toArray [])⟩) ::
  ((nat_lit 70), ⟨(.type "tuple"), .none, (.seq (List.toArray [(.str "x" 269), (.str "y" 270), (.str "width" 271)]) 0), (List.toArray [])⟩) ::
  ((nat_lit 71), ⟨(.type "tuple"), .none, (.seq (List.toArray []) 0), (List.toArray [])⟩) ::
  ((nat_lit 73), ⟨(.type "code"), .none, (.fields (List.toArray [(.str "sub_numbers" 266), (.str "sub_numbers" 267), (.str "/claim/cut.py" 268), (.int 22 0), (.int 3 0), (.int 0 0), (.int 0 0), (.int 3 0), (.ref 68), (.bool Bool.true), (.int 181 0), (.ref 69), PySem.Value.none, (.ref 70), (.ref 71), (.ref 72), (.int 272 0), (.int 22 0), (.str "/claim/cut.py" 273)])), (List.toArray [])⟩) ::
  ((nat_lit 74), ⟨(.type "function"), .none, (.func ⟨"sub_numbers", "sub_numbers", a4, (.stmts b4), s4, 3, [], PySem.Value.none, PySem.Value.none, PySem.Value.none, (.str "perlcore.numbers" 243), .none, (.ref 73), PySem.Value.none, 0⟩), (List.toArray [])⟩) ::
  ((nat_lit 75), ⟨(.type "tuple"), .none, (.seq (List.toArray []) 0), (List.toArray [])⟩) ::
  ((nat_lit 77), ⟨(.type "tuple"), .none, (.seq (List.toArray [(.str "x" 278), (.str "y" 279), (.str "width" 280)]) 0), (List.toArray [])⟩) ::
  ((nat_lit 78), ⟨(.type "tuple"), .none, (.seq (List.toArray []) 0), (List.toArray [])⟩) ::
  ((nat_lit 80), ⟨(.type "code"), .none, (.fields (List.toArray [(.str "mul_numbers" 275), (.str "mul_numbers" 276), (.str "/claim/cut.py" 277), (.int 24 0), (.int 3 0), (.int 0 0), (.int 0 0), (.int 3 0), (.ref 75), (.bool Bool.true), (.int 181 0), (.ref 76), PySem.Value.none, (.ref 77), (.ref 78), (.ref 79), (.int 281 0), (.int 24 0), (.str "/claim/cut.py" 282)])), (List.toArray [])⟩) ::
  ((nat_lit 81), ⟨(.type "function"), .none, (.func ⟨"mul_numbers", "mul_numbers", a5, (.stmts b5), s5, 3, [], PySem.Value.none, PySem.Value.none, PySem.Value.none, (.str "perlcore.numbers" 243), .none, (.ref 80), PySem.Value.none, 0⟩), (List.toArray [])⟩) ::
  ((nat_lit 82), ⟨(.type "tuple"), .none, (.seq (List.toArray []) 0), (List.toArray [])⟩) ::
  ((nat_lit 84), ⟨(.type "tuple"), .none, (.seq (List.toArray [(.str "x" 287), (.str "y" 288), (.str "q" 289)]) 0), (List.toArray [])⟩) ::
  ((nat_lit 85), ⟨(.type "tuple"), .none, (.seq (List.toArray []) 0), (List.toArray [])⟩) ::
  ((nat_lit 87), ⟨(.type "code"), .none, (.fields (List.toArray [(.str "cut_quotient" 284), (.str "cut_quotient" 285), (.str "/claim/cut.py" 286), (.int 26 0), (.int 2 0), (.int 0 0), (.int 0 0), (.int 3 0), (.ref 82), (.bool Bool.true), (.int 181 0), (.ref 83), PySem.Value.none, (.ref 84), (.ref 85), (.ref 86), (.int 290 0), (.int 26 0), (.str "/claim/cut.py" 291)])), (List.toArray [])⟩) ::
  ((nat_lit 88), ⟨(.type "function"), .none, (.func ⟨"cut_quotient", "cut_quotient", a6, (.stmts b6), s6, 3, [], PySem.Value.none, PySem.Value.none, PySem.Value.none, (.str "perlcore.numbers" 243), .none, (.ref 87), PySem.Value.none, 0⟩), (List.toArray [])⟩) ::
  ((nat_lit 89), ⟨(.type "tuple"), .none, (.seq (List.toArray []) 0), (List.toArray [])⟩) ::
  ((nat_lit 91), ⟨(.type "tuple"), .none, (.seq (List.toArray [(.str "x" 296), (.str "y" 297), (.str "width" 298)]) 0), (List.toArray [])⟩) ::
  ((nat_lit 92), ⟨(.type "tuple"), .none, (.seq (List.toArray []) 0), (List.toArray [])⟩) ::
  ((nat_lit 94), ⟨(.type "code"), .none, (.fields (List.toArray [(.str "div_numbers" 293), (.str "div_numbers" 294), (.str "/claim/cut.py" 295), (.int 31 0), (.int 3 0), (.int 0 0), (.int 0 0), (.int 3 0), (.ref 89), (.bool Bool.true), (.int 181 0), (.ref 90), PySem.Value.none, (.ref 91), (.ref 92), (.ref 93), (.int 299 0), (.int 31 0), (.str "/claim/cut.py" 300)])), (List.toArray [])⟩) ::
  ((nat_lit 95), ⟨(.type "function"), .none, (.func ⟨"div_numbers", "div_numbers", a7, (.stmts b7), s7, 3, [], PySem.Value.none, PySem.Value.none, PySem.Value.none, (.str "perlcore.numbers" 243), .none, (.ref 94), PySem.Value.none, 0⟩), (List.toArray [])⟩) ::
  ((nat_lit 96), ⟨(.type "tuple"), .none, (.seq (List.toArray []) 0), (List.toArray [])⟩) ::
  ((nat_lit 98), ⟨(.type "tuple"), .none, (.seq (List.toArray [(.str "x" 305), (.str "y" 306), (.str "width" 307)]) 0), (List.toArray [])⟩) ::
  ((nat_lit 99), ⟨(.type "tuple"), .none, (.seq (List.toArray []) 0), (List.toArray [])⟩) ::
  ((nat_lit 101), ⟨(.type "code"), .none, (.fields (List.toArray [(.str "mod_numbers" 302), (.str "mod_numbers" 303), (.str "/claim/cut.py" 304), (.int 35 0), (.int 3 0), (.int 0 0), (.int 0 0), (.int 3 0), (.ref 96), (.bool Bool.true), (.int 181 0), (.ref 97), PySem.Value.none, (.ref 98), (.ref 99), (.ref 100), (.int 308 0), (.int 35 0), (.str "/claim/cut.py" 309)])), (List.toArray [])⟩) ::
  ((nat_lit 102), ⟨(.type "function"), .none, (.func ⟨"mod_numbers", "mod_numbers", a8, (.stmts b8), s8, 3, [], PySem.Value.none, PySem.Value.none, PySem.Value.none, (.str "perlcore.numbers" 243), .none, (.ref 101), PySem.Value.none, 0⟩), (List.toArray [])⟩) ::
  ((nat_lit 103), ⟨(.type "tuple"), .none, (.seq (List.toArray []) 0), (List.toArray [])⟩) ::
  ((nat_lit 105), ⟨(.type "tuple"), .none, (.seq (List.toArray [(.str "x" 314), (.str "n" 315), (.str "width" 316), (.str "result" 317)]) 0), (List.toArray [])⟩) ::
  ((nat_lit 106), ⟨(.type "tuple"), .none, (.seq (List.toArray []) 0), (List.toArray [])⟩) ::
  ((nat_lit 108), ⟨(.type "code"), .none, (.fields (List.toArray [(.str "power_numbers" 311), (.str "power_numbers" 312), (.str "/claim/cut.py" 313), (.int 39 0), (.int 3 0), (.int 0 0), (.int 0 0), (.int 3 0), (.ref 103), (.bool Bool.true), (.int 181 0), (.ref 104), PySem.Value.none, (.ref 105), (.ref 106), (.ref 107), (.int 318 0), (.int 39 0), (.str "/claim/cut.py" 319)])), (List.toArray [])⟩) ::
  ((nat_lit 109), ⟨(.type "function"), .none, (.func ⟨"power_numbers", "power_numbers", a9, (.stmts b9), s9, 3, [], PySem.Value.none, PySem.Value.none, PySem.Value.none, (.str "perlcore.numbers" 243), .none, (.ref 108), PySem.Value.none, 0⟩), (List.toArray [])⟩) ::
  ((nat_lit 110), ⟨(.type "tuple"), .none, (.seq (List.toArray []) 0), (List.toArray [])⟩) ::
  ((nat_lit 112), ⟨(.type "tuple"), .none, (.seq (List.toArray [(.str "text" 324), (.str "at" 325), (.str "end" 326), (.str "first" 327)]) 0), (List.toArray [])⟩) ::
  ((nat_lit 113), ⟨(.type "tuple"), .none, (.seq (List.toArray []) 0), (List.toArray [])⟩) ::
  ((nat_lit 115), ⟨(.type "code"), .none, (.fields (List.toArray [(.str "number_head" 321), (.str "number_head" 322), (.str "/claim/cut.py" 323), (.int 51 0), (.int 1 0), (.int 0 0), (.int 0 0), (.int 3 0), (.ref 110), (.bool Bool.true), (.int 181 0), (.ref 111), PySem.Value.none, (.ref 112), (.ref 113), (.ref 114), (.int 328 0), (.int 51 0), (.str "/claim/cut.py" 329)])), (List.toArray [])⟩) ::
  ((nat_lit 116), ⟨(.type "function"), .none, (.func ⟨"number_head", "number_head", a10, (.stmts b10), s10, 3, [], PySem.Value.none, PySem.Value.none, PySem.Value.none, (.str "perlcore.numbers" 243), .none, (.ref 115), PySem.Value.none, 0⟩), (List.toArray [])⟩) ::
  ((nat_lit 117), ⟨(.type "tuple"), .none, (.seq (List.toArray []) 0), (List.toArray [])⟩) ::
  ((nat_lit 119), ⟨(.type "tuple"), .none, (.seq (List.toArray [(.str "text" 334), (.str "width" 335), (.str "at" 336), (.str "end" 337), (.str "n" 338), (.str "sign" 339)]) 0), (List.toArray [])⟩) ::
  ((nat_lit 120), ⟨(.type "tuple"), .none, (.seq (List.toArray []) 0), (List.toArray [])⟩) ::
  ((nat_lit 122), ⟨(.type "code"), .none, (.fields (List.toArray [(.str "numeric_text" 331), (.str "numeric_text" 332), (.str "/claim/cut.py" 333), (.int 64 0), (.int 2 0), (.int 0 0), (.int 0 0), (.int 3 0), (.ref 117), (.bool Bool.true), (.int 181 0), (.ref 118), PySem.Value.none, (.ref 119), (.ref 120), (.ref 121), (.int 340 0), (.int 64 0), (.str "/claim/cut.py" 341)])), (List.toArray [])⟩) ::
  ((nat_lit 123), ⟨(.type "function"), .none, (.func ⟨"numeric_text", "numeric_text", a11, (.stmts b11), s11, 3, [], PySem.Value.none, PySem.Value.none, PySem.Value.none, (.str "perlcore.numbers" 243), .none, (.ref 122), PySem.Value.none, 0⟩), (List.toArray [])⟩) ::
  ((nat_lit 124), ⟨(.type "tuple"), .none, (.seq (List.toArray []) 0), (List.toArray [])⟩) ::
  ((nat_lit 126), ⟨(.type "tuple"), .none, (.seq (List.toArray [(.str "n" 346), (.str "text" 347)]) 0), (List.toArray [])⟩) ::
  ((nat_lit 127), ⟨(.type "tuple"), .none, (.seq (List.toArray []) 0), (List.toArray [])⟩) ::
  ((nat_lit 129), ⟨(.type "code"), .none, (.fields (List.toArray [(.str "number_text" 343), (.str "number_text" 344), (.str "/claim/cut.py" 345), (.int 73 0), (.int 1 0), (.int 0 0), (.int 0 0), (.int 3 0), (.ref 124), (.bool Bool.true), (.int 181 0), (.ref 125), PySem.Value.none, (.ref 126), (.ref 127), (.ref 128), (.int 348 0), (.int 73 0), (.str "/claim/cut.py" 349)])), (List.toArray [])⟩) ::
  ((nat_lit 130), ⟨(.type "function"), .none, (.func ⟨"number_text", "number_text", a12, (.stmts b12), s12, 3, [], PySem.Value.none, PySem.Value.none, PySem.Value.none, (.str "perlcore.numbers" 243), .none, (.ref 129), PySem.Value.none, 0⟩), (List.toArray [])⟩) ::
  ((nat_lit 138), ⟨(.type "tuple"), .none, (.seq (List.toArray []) 0), (List.toArray [])⟩) ::
  ((nat_lit 140), ⟨(.type "tuple"), .none, (.seq (List.toArray [(.str "self" 370), (.str "number" 371)]) 0), (List.toArray [])⟩) ::
  ((nat_lit 141), ⟨(.type "tuple"), .none, (.seq (List.toArray []) 0), (List.toArray [])⟩) ::
  ((nat_lit 143), ⟨(.type "code"), .none, (.fields (List.toArray [(.str "__init__" 367), (.str "Thing.__init__" 368), (.str "/claim/cut.py" 369), (.int 85 0), (.int 2 0), (.int 0 0), (.int 0 0), (.int 3 0), (.ref 138), (.bool Bool.true), (.int 181 0), (.ref 139), PySem.Value.none, (.ref 140), (.ref 141), (.ref 142), (.int 372 0), (.int 85 0), (.str "/claim/cut.py" 373)])), (List.toArray [])⟩) ::
  ((nat_lit 144), ⟨(.type "function"), .none, (.func ⟨"__init__", "Thing.__init__", a13, (.stmts b13), s13, 3, [], PySem.Value.none, PySem.Value.none, PySem.Value.none, (.str "perlcore.values" 351), .none, (.ref 143), PySem.Value.none, 0⟩), (List.toArray [])⟩) ::
  ((nat_lit 145), ⟨(.type "tuple"), .none, (.seq (List.toArray [(.str "blessed" 375), (.str "count" 376), (.str "is_destroyed" 377), (.str "is_freed" 378), (.str "number" 379), (.str "weak" 380)]) 0), (List.toArray [])⟩) ::
  ((nat_lit 146), ⟨(.type "dict"), .none, (.dict (List.toArray [⟨(PySem.PyData.keyHash P "__module__"), (.str "__module__" 362), (.str "perlcore.values" 351)⟩, ⟨(PySem.PyData.keyHash P "__firstlineno__"), (.str "__firstlineno__" 366), (.int 83 365)⟩, ⟨(PySem.PyData.keyHash P "__init__"), (.str "__init__" 374), (.ref 144)⟩, ⟨(PySem.PyData.keyHash P "__static_attributes__"), (.str "__static_attributes__" 381), (.ref 145)⟩, ⟨(PySem.PyData.keyHash P "__dict__"), (.str "__dict__" 383), (.ref 148)⟩, ⟨(PySem.PyData.keyHash P "__weakref__"), (.str "__weakref__" 385), (.ref 149)⟩, ⟨(PySem.PyData.keyHash P "__doc__"), (.str "__doc__" 386), PySem.Value.none⟩]) 4), (List.toArray [])⟩) ::
  ((nat_lit 147), ⟨(.type "type"), .none, (.cls ⟨"Thing", [(.type "object")], [(.ref 147), (.type "object")], 146, "Thing", Bool.true, [], [(.ref 168), (.ref 187), (.ref 206), (.ref 225), (.ref 244)], Bool.false, .none, Bool.false⟩), (List.toArray [.none, .none, (.some (.str "Thing" 355)), (.some (.str "Thing" 363)), (.some (.builtin "object.__new__")), (.some (.bool Bool.true))])⟩) ::
  ((nat_lit 148), ⟨(.type "getset_descriptor"), .none, (.fields (List.toArray [(.str "__dict__" 382), (.ref 147), (.builtin "function.__dict__"), (.builtin "function.__dict__#set")])), (List.toArray [])⟩) ::
  ((nat_lit 149), ⟨(.type "getset_descriptor"), .none, (.fields (List.toArray [(.str "__weakref__" 384), (.ref 147), (.builtin "ExceptionGroup.__weakref__"), PySem.Value.none])), (List.toArray [])⟩) ::
  ((nat_lit 152), ⟨(.type "tuple"), .none, (.seq (List.toArray [(.ref 147)]) 0), (List.toArray [])⟩) ::
  ((nat_lit 159), ⟨(.type "tuple"), .none, (.seq (List.toArray []) 0), (List.toArray [])⟩) ::
  ((nat_lit 161), ⟨(.type "tuple"), .none, (.seq (List.toArray [(.str "self" 404), (.str "number" 405), (.str "value" 406)]) 0), (List.toArray [])⟩) ::
  ((nat_lit 162), ⟨(.type "tuple"), .none, (.seq (List.toArray []) 0), (List.toArray [])⟩) ::
  ((nat_lit 164), ⟨(.type "code"), .none, (.fields (List.toArray [(.str "__init__" 401), (.str "Scalar.__init__" 402), (.str "/claim/cut.py" 403), (.int 94 0), (.int 3 0), (.int 0 0), (.int 0 0), (.int 3 0), (.ref 159), (.bool Bool.true), (.int 181 0), (.ref 160), PySem.Value.none, (.ref 161), (.ref 162), (.ref 163), (.int 407 0), (.int 94 0), (.str "/claim/cut.py" 408)])), (List.toArray [])⟩) ::
  ((nat_lit 165), ⟨(.type "function"), .none, (.func ⟨"__init__", "Scalar.__init__", a14, (.stmts b14), s14, 3, [], PySem.Value.none, PySem.Value.none, PySem.Value.none, (.str "perlcore.values" 351), .none, (.ref 164), PySem.Value.none, 0⟩), (List.toArray [])⟩) ::
  ((nat_lit 166), ⟨(.type "tuple"), .none, (.seq (List.toArray [(.str "magic" 410), (.str "value" 411)]) 0), (List.toArray [])⟩) ::
  ((nat_lit 167), ⟨(.type "dict"), .none, (.dict (List.toArray [⟨(PySem.PyData.keyHash P "__module__"), (.str "__module__" 396), (.str "perlcore.values" 351)⟩, ⟨(PySem.PyData.keyHash P "__firstlineno__"), (.str "__firstlineno__" 400), (.int 92 399)⟩, ⟨(PySem.PyData.keyHash P "__init__"), (.str "__init__" 409), (.ref 165)⟩, ⟨(PySem.PyData.keyHash P "__static_attributes__"), (.str "__static_attributes__" 412), (.ref 166)⟩, ⟨(PySem.PyData.keyHash P "__doc__"), (.str "__doc__" 413), PySem.Value.none⟩]) 2), (List.toArray [])⟩) ::
  ((nat_lit 168), ⟨(.type "type"), .none, (.cls ⟨"Scalar", [(.ref 147)], [(.ref 168), (.ref 147), (.type "object")], 167, "Scalar", Bool.true, [], [], Bool.false, .none, Bool.false⟩), (List.toArray [(.some (.ref 152)), .none, (.some (.str "Scalar" 389)), (.some (.str "Scalar" 397)), (.some (.builtin "object.__new__")), (.some (.bool Bool.true))])⟩) ::
  ((nat_lit 171), ⟨(.type "tuple"), .none, (.seq (List.toArray [(.ref 147)]) 0), (List.toArray [])⟩) ::
  ((nat_lit 178), ⟨(.type "tuple"), .none, (.seq (List.toArray []) 0), (List.toArray [])⟩) ::
  ((nat_lit 180), ⟨(.type "tuple"), .none, (.seq (List.toArray [(.str "self" 431), (.str "number" 432)]) 0), (List.toArray [])⟩) ::
  ((nat_lit 181), ⟨(.type "tuple"), .none, (.seq (List.toArray []) 0), (List.toArray [])⟩) ::
  ((nat_lit 183), ⟨(.type "code"), .none, (.fields (List.toArray [(.str "__init__" 428), (.str "Array.__init__" 429), (.str "/claim/cut.py" 430), (.int 100 0), (.int 2 0), (.int 0 0), (.int 0 0), (.int 3 0), (.ref 178), (.bool Bool.true), (.int 181 0), (.ref 179), PySem.Value.none, (.ref 180), (.ref 181), (.ref 182), (.int 433 0), (.int 100 0), (.str "/claim/cut.py" 434)])), (List.toArray [])⟩) ::
  ((nat_lit 184), ⟨(.type "function"), .none, (.func ⟨"__init__", "Array.__init__", a15, (.stmts b15), s15, 3, [], PySem.Value.none, PySem.Value.none, PySem.Value.none, (.str "perlcore.values" 351), .none, (.ref 183), PySem.Value.none, 0⟩), (List.toArray [])⟩) ::
  ((nat_lit 185), ⟨(.type "tuple"), .none, (.seq (List.toArray [(.str "items" 436), (.str "tied" 437)]) 0), (List.toArray [])⟩) ::
  ((nat_lit 186), ⟨(.type "dict"), .none, (.dict (List.toArray [⟨(PySem.PyData.keyHash P "__module__"), (.str "__module__" 423), (.str "perlcore.values" 351)⟩, ⟨(PySem.PyData.keyHash P "__firstlineno__"), (.str "__firstlineno__" 427), (.int 98 426)⟩, ⟨(PySem.PyData.keyHash P "__init__"), (.str "__init__" 435), (.ref 184)⟩, ⟨(PySem.PyData.keyHash P "__static_attributes__"), (.str "__static_attributes__" 438), (.ref 185)⟩, ⟨(PySem.PyData.keyHash P "__doc__"), (.str "__doc__" 439), PySem.Value.none⟩]) 2), (List.toArray [])⟩) ::
  ((nat_lit 187), ⟨(.type "type"), .none, (.cls ⟨"Array", [(.ref 147)], [(.ref 187), (.ref 147), (.type "object")], 186, "Array", Bool.true, [], [], Bool.false, .none, Bool.false⟩), (List.toArray [(.some (.ref 171)), .none, (.some (.str "Array" 416)), (.some (.str "Array" 424)), (.some (.builtin "object.__new__")), (.some (.bool Bool.true))])⟩) ::
  ((nat_lit 190), ⟨(.type "tuple"), .none, (.seq (List.toArray [(.ref 147)]) 0), (List.toArray [])⟩) ::
  ((nat_lit 197), ⟨(.type "tuple"), .none, (.seq (List.toArray []) 0), (List.toArray [])⟩) ::
  ((nat_lit 199), ⟨(.type "tuple"), .none, (.seq (List.toArray [(.str "self" 457), (.str "number" 458)]) 0), (List.toArray [])⟩) ::
  ((nat_lit 200), ⟨(.type "tuple"), .none, (.seq (List.toArray []) 0), (List.toArray [])⟩) ::
  ((nat_lit 202), ⟨(.type "code"), .none, (.fields (List.toArray [(.str "__init__" 454), (.str "Hash.__init__" 455), (.str "/claim/cut.py" 456), (.int 106 0), (.int 2 0), (.int 0 0), (.int 0 0), (.int 3 0), (.ref 197), (.bool Bool.true), (.int 181 0), (.ref 198), PySem.Value.none, (.ref 199), (.ref 200), (.ref 201), (.int 459 0), (.int 106 0), (.str "/claim/cut.py" 460)])), (List.toArray [])⟩) ::
  ((nat_lit 203), ⟨(.type "function"), .none, (.func ⟨"__init__", "Hash.__init__", a16, (.stmts b16), s16, 3, [], PySem.Value.none, PySem.Value.none, PySem.Value.none, (.str "perlcore.values" 351), .none, (.ref 202), PySem.Value.none, 0⟩), (List.toArray [])⟩) ::
  ((nat_lit 204), ⟨(.type "tuple"), .none, (.seq (List.toArray [(.str "at" 462), (.str "table" 463), (.str "tied" 464)]) 0), (List.toArray [])⟩) ::
  ((nat_lit 205), ⟨(.type "dict"), .none, (.dict (List.toArray [⟨(PySem.PyData.keyHash P "__module__"), (.str "__module__" 449), (.str "perlcore.values" 351)⟩, ⟨(PySem.PyData.keyHash P "__firstlineno__"), (.str "__firstlineno__" 453), (.int 104 452)⟩, ⟨(PySem.PyData.keyHash P "__init__"), (.str "__init__" 461), (.ref 203)⟩, ⟨(PySem.PyData.keyHash P "__static_attributes__"), (.str "__static_attributes__" 465), (.ref 204)⟩, ⟨(PySem.PyData.keyHash P "__doc__"), (.str "__doc__" 466), PySem.Value.none⟩]) 2), (List.toArray [])⟩) ::
  ((nat_lit 206), ⟨(.type "type"), .none, (.cls ⟨"Hash", [(.ref 147)], [(.ref 206), (.ref 147), (.type "object")], 205, "Hash", Bool.true, [], [], Bool.false, .none, Bool.false⟩), (List.toArray [(.some (.ref 190)), .none, (.some (.str "Hash" 442)), (.some (.str "Hash" 450)), (.some (.builtin "object.__new__")), (.some (.bool Bool.true))])⟩) ::
  ((nat_lit 209), ⟨(.type "tuple"), .none, (.seq (List.toArray [(.ref 147)]) 0), (List.toArray [])⟩) ::
  ((nat_lit 216), ⟨(.type "tuple"), .none, (.seq (List.toArray []) 0), (List.toArray [])⟩) ::
  ((nat_lit 218), ⟨(.type "tuple"), .none, (.seq (List.toArray [(.str "self" 484), (.str "number" 485), (.str "sub" 486), (.str "captures" 487)]) 0), (List.toArray [])⟩) ::
  ((nat_lit 219), ⟨(.type "tuple"), .none, (.seq (List.toArray []) 0), (List.toArray [])⟩) ::
  ((nat_lit 221), ⟨(.type "code"), .none, (.fields (List.toArray [(.str "__init__" 481), (.str "Code.__init__" 482), (.str "/claim/cut.py" 483), (.int 113 0), (.int 4 0), (.int 0 0), (.int 0 0), (.int 3 0), (.ref 216), (.bool Bool.true), (.int 181 0), (.ref 217), PySem.Value.none, (.ref 218), (.ref 219), (.ref 220), (.int 488 0), (.int 113 0), (.str "/claim/cut.py" 489)])), (List.toArray [])⟩) ::
  ((nat_lit 222), ⟨(.type "function"), .none, (.func ⟨"__init__", "Code.__init__", a17, (.stmts b17), s17, 3, [], PySem.Value.none, PySem.Value.none, PySem.Value.none, (.str "perlcore.values" 351), .none, (.ref 221), PySem.Value.none, 0⟩), (List.toArray [])⟩) ::
  ((nat_lit 223), ⟨(.type "tuple"), .none, (.seq (List.toArray [(.str "builtin" 491), (.str "captures" 492), (.str "package" 493), (.str "sub" 494)]) 0), (List.toArray [])⟩) ::
  ((nat_lit 224), ⟨(.type "dict"), .none, (.dict (List.toArray [⟨(PySem.PyData.keyHash P "__module__"), (.str "__module__" 476), (.str "perlcore.values" 351)⟩, ⟨(PySem.PyData.keyHash P "__firstlineno__"), (.str "__firstlineno__" 480), (.int 111 479)⟩, ⟨(PySem.PyData.keyHash P "__init__"), (.str "__init__" 490), (.ref 222)⟩, ⟨(PySem.PyData.keyHash P "__static_attributes__"), (.str "__static_attributes__" 495), (.ref 223)⟩, ⟨(PySem.PyData.keyHash P "__doc__"), (.str "__doc__" 496), PySem.Value.none⟩]) 2), (List.toArray [])⟩) ::
  ((nat_lit 225), ⟨(.type "type"), .none, (.cls ⟨"Code", [(.ref 147)], [(.ref 225), (.ref 147), (.type "object")], 224, "Code", Bool.true, [], [], Bool.false, .none, Bool.false⟩), (List.toArray [(.some (.ref 209)), .none, (.some (.str "Code" 469)), (.some (.str "Code" 477)), (.some (.builtin "object.__new__")), (.some (.bool Bool.true))])⟩) ::
  ((nat_lit 228), ⟨(.type "tuple"), .none, (.seq (List.toArray [(.ref 147)]) 0), (List.toArray [])⟩) ::
  ((nat_lit 235), ⟨(.type "tuple"), .none, (.seq (List.toArray []) 0), (List.toArray [])⟩) ::
  ((nat_lit 237), ⟨(.type "tuple"), .none, (.seq (List.toArray [(.str "self" 514), (.str "number" 515), (.str "name" 516)]) 0), (List.toArray [])⟩) ::
  ((nat_lit 238), ⟨(.type "tuple"), .none, (.seq (List.toArray []) 0), (List.toArray [])⟩) ::
  ((nat_lit 240), ⟨(.type "code"), .none, (.fields (List.toArray [(.str "__init__" 511), (.str "Glob.__init__" 512), (.str "/claim/cut.py" 513), (.int 121 0), (.int 3 0), (.int 0 0), (.int 0 0), (.int 3 0), (.ref 235), (.bool Bool.true), (.int 181 0), (.ref 236), PySem.Value.none, (.ref 237), (.ref 238), (.ref 239), (.int 517 0), (.int 121 0), (.str "/claim/cut.py" 518)])), (List.toArray [])⟩) ::
  ((nat_lit 241), ⟨(.type "function"), .none, (.func ⟨"__init__", "Glob.__init__", a18, (.stmts b18), s18, 3, [], PySem.Value.none, PySem.Value.none, PySem.Value.none, (.str "perlcore.values" 351), .none, (.ref 240), PySem.Value.none, 0⟩), (List.toArray [])⟩) ::
  ((nat_lit 242), ⟨(.type "tuple"), .none, (.seq (List.toArray [(.str "array" 520), (.str "code" 521), (.str "hash" 522), (.str "name" 523), (.str "scalar" 524)]) 0), (List.toArray [])⟩) ::
  ((nat_lit 243), ⟨(.type "dict"), .none, (.dict (List.toArray [⟨(PySem.PyData.keyHash P "__module__"), (.str "__module__" 506), (.str "perlcore.values" 351)⟩, ⟨(PySem.PyData.keyHash P "__firstlineno__"), (.str "__firstlineno__" 510), (.int 119 509)⟩, ⟨(PySem.PyData.keyHash P "__init__"), (.str "__init__" 519), (.ref 241)⟩, ⟨(PySem.PyData.keyHash P "__static_attributes__"), (.str "__static_attributes__" 525), (.ref 242)⟩, ⟨(PySem.PyData.keyHash P "__doc__"), (.str "__doc__" 526), PySem.Value.none⟩]) 2), (List.toArray [])⟩) ::
  ((nat_lit 244), ⟨(.type "type"), .none, (.cls ⟨"Glob", [(.ref 147)], [(.ref 244), (.ref 147), (.type "object")], 243, "Glob", Bool.true, [], [], Bool.false, .none, Bool.false⟩), (List.toArray [(.some (.ref 228)), .none, (.some (.str "Glob" 499)), (.some (.str "Glob" 507)), (.some (.builtin "object.__new__")), (.some (.bool Bool.true))])⟩) ::
  ((nat_lit 254), ⟨(.type "tuple"), .none, (.seq (List.toArray [(.bool Bool.false)]) 0), (List.toArray [])⟩) ::
  ((nat_lit 255), ⟨(.type "tuple"), .none, (.seq (List.toArray []) 0), (List.toArray [])⟩) ::
  ((nat_lit 257), ⟨(.type "tuple"), .none, (.seq (List.toArray [(.str "self" 544), (.str "target" 545), (.str "is_weak" 546)]) 0), (List.toArray [])⟩) ::
  ((nat_lit 258), ⟨(.type "tuple"), .none, (.seq (List.toArray []) 0), (List.toArray [])⟩) ::
  ((nat_lit 260), ⟨(.type "code"), .none, (.fields (List.toArray [(.str "__init__" 541), (.str "Ref.__init__" 542), (.str "/claim/cut.py" 543), (.int 130 0), (.int 3 0), (.int 0 0), (.int 0 0), (.int 3 0), (.ref 255), (.bool Bool.true), (.int 181 0), (.ref 256), PySem.Value.none, (.ref 257), (.ref 258), (.ref 259), (.int 547 0), (.int 130 0), (.str "/claim/cut.py" 548)])), (List.toArray [])⟩) ::
  ((nat_lit 261), ⟨(.type "function"), .none, (.func ⟨"__init__", "Ref.__init__", a19, (.stmts b19), s19, 3, [], (.ref 254), PySem.Value.none, PySem.Value.none, (.str "perlcore.values" 351), .none, (.ref 260), PySem.Value.none, 0⟩), (List.toArray [])⟩) ::
  ((nat_lit 262), ⟨(.type "tuple"), .none, (.seq (List.toArray [(.str "is_weak" 550), (.str "target" 551)]) 0), (List.toArray [])⟩) ::
  ((nat_lit 263), ⟨(.type "dict"), .none, (.dict (List.toArray [⟨(PySem.PyData.keyHash P "__module__"), (.str "__module__" 536), (.str "perlcore.values" 351)⟩, ⟨(PySem.PyData.keyHash P "__firstlineno__"), (.str "__firstlineno__" 540), (.int 128 539)⟩, ⟨(PySem.PyData.keyHash P "__init__"), (.str "__init__" 549), (.ref 261)⟩, ⟨(PySem.PyData.keyHash P "__static_attributes__"), (.str "__static_attributes__" 552), (.ref 262)⟩, ⟨(PySem.PyData.keyHash P "__dict__"), (.str "__dict__" 554), (.ref 265)⟩, ⟨(PySem.PyData.keyHash P "__weakref__"), (.str "__weakref__" 556), (.ref 266)⟩, ⟨(PySem.PyData.keyHash P "__doc__"), (.str "__doc__" 557), PySem.Value.none⟩]) 4), (List.toArray [])⟩) ::
  ((nat_lit 264), ⟨(.type "type"), .none, (.cls ⟨"Ref", [(.type "object")], [(.ref 264), (.type "object")], 263, "Ref", Bool.true, [], [], Bool.false, .none, Bool.false⟩), (List.toArray [.none, .none, (.some (.str "Ref" 529)), (.some (.str "Ref" 537)), (.some (.builtin "object.__new__")), (.some (.bool Bool.true))])⟩) ::
  ((nat_lit 265), ⟨(.type "getset_descriptor"), .none, (.fields (List.toArray [(.str "__dict__" 553), (.ref 264), (.builtin "function.__dict__"), (.builtin "function.__dict__#set")])), (List.toArray [])⟩) ::
  ((nat_lit 266), ⟨(.type "getset_descriptor"), .none, (.fields (List.toArray [(.str "__weakref__" 555), (.ref 264), (.builtin "ExceptionGroup.__weakref__"), PySem.Value.none])), (List.toArray [])⟩) ::
  ((nat_lit 269), ⟨(.type "tuple"), .none, (.seq (List.toArray []) 0), (List.toArray [])⟩) ::
  ((nat_lit 271), ⟨(.type "tuple"), .none, (.seq (List.toArray [(.str "thing" 563)]) 0), (List.toArray [])⟩) ::
  ((nat_lit 272), ⟨(.type "tuple"), .none, (.seq (List.toArray []) 0), (List.toArray [])⟩) ::
  ((nat_lit 274), ⟨(.type "code"), .none, (.fields (List.toArray [(.str "thing_word" 560), (.str "thing_word" 561), (.str "/claim/cut.py" 562), (.int 133 0), (.int 1 0), (.int 0 0), (.int 0 0), (.int 3 0), (.ref 269), (.bool Bool.true), (.int 181 0), (.ref 270), PySem.Value.none, (.ref 271), (.ref 272), (.ref 273), (.int 564 0), (.int 133 0), (.str "/claim/cut.py" 565)])), (List.toArray [])⟩) ::
  ((nat_lit 275), ⟨(.type "function"), .none, (.func ⟨"thing_word", "thing_word", a20, (.stmts b20), s20, 3, [], PySem.Value.none, PySem.Value.none, PySem.Value.none, (.str "perlcore.values" 351), .none, (.ref 274), PySem.Value.none, 0⟩), (List.toArray [])⟩) ::
  ((nat_lit 276), ⟨(.type "tuple"), .none, (.seq (List.toArray []) 0), (List.toArray [])⟩) ::
  ((nat_lit 278), ⟨(.type "tuple"), .none, (.seq (List.toArray [(.str "number" 570), (.str "text" 571)]) 0), (List.toArray [])⟩) ::
  ((nat_lit 279), ⟨(.type "tuple"), .none, (.seq (List.toArray []) 0), (List.toArray [])⟩) ::
  ((nat_lit 281), ⟨(.type "code"), .none, (.fields (List.toArray [(.str "hex_of" 567), (.str "hex_of" 568), (.str "/claim/cut.py" 569), (.int 145 0), (.int 1 0), (.int 0 0), (.int 0 0), (.int 3 0), (.ref 276), (.bool Bool.true), (.int 181 0), (.ref 277), PySem.Value.none, (.ref 278), (.ref 279), (.ref 280), (.int 572 0), (.int 145 0), (.str "/claim/cut.py" 573)])), (List.toArray [])⟩) ::
  ((nat_lit 282), ⟨(.type "function"), .none, (.func ⟨"hex_of", "hex_of", a21, (.stmts b21), s21, 3, [], PySem.Value.none, PySem.Value.none, PySem.Value.none, (.str "perlcore.values" 351), .none, (.ref 281), PySem.Value.none, 0⟩), (List.toArray [])⟩) ::
  ((nat_lit 283), ⟨(.type "tuple"), .none, (.seq (List.toArray []) 0), (List.toArray [])⟩) ::
  ((nat_lit 285), ⟨(.type "tuple"), .none, (.seq (List.toArray [(.str "ref" 578), (.str "text" 579)]) 0), (List.toArray [])⟩) ::
  ((nat_lit 286), ⟨(.type "tuple"), .none, (.seq (List.toArray []) 0), (List.toArray [])⟩) ::
  ((nat_lit 288), ⟨(.type "code"), .none, (.fields (List.toArray [(.str "ref_text" 575), (.str "ref_text" 576), (.str "/claim/cut.py" 577), (.int 151 0), (.int 1 0), (.int 0 0), (.int 0 0), (.int 3 0), (.ref 283), (.bool Bool.true), (.int 181 0), (.ref 284), PySem.Value.none, (.ref 285), (.ref 286), (.ref 287), (.int 580 0), (.int 151 0), (.str "/claim/cut.py" 581)])), (List.toArray [])⟩) ::
  ((nat_lit 289), ⟨(.type "function"), .none, (.func ⟨"ref_text", "ref_text", a22, (.stmts b22), s22, 3, [], PySem.Value.none, PySem.Value.none, PySem.Value.none, (.str "perlcore.values" 351), .none, (.ref 288), PySem.Value.none, 0⟩), (List.toArray [])⟩) ::
  ((nat_lit 290), ⟨(.type "tuple"), .none, (.seq (List.toArray []) 0), (List.toArray [])⟩) ::
  ((nat_lit 292), ⟨(.type "tuple"), .none, (.seq (List.toArray [(.str "x" 588)]) 0), (List.toArray [])⟩) ::
  ((nat_lit 293), ⟨(.type "tuple"), .none, (.seq (List.toArray []) 0), (List.toArray [])⟩) ::
  ((nat_lit 295), ⟨(.type "code"), .none, (.fields (List.toArray [(.str "value_of" 585), (.str "value_of" 586), (.str "/claim/cut.py" 587), (.int 157 0), (.int 1 0), (.int 0 0), (.int 0 0), (.int 3 0), (.ref 290), (.bool Bool.true), (.int 181 0), (.ref 291), PySem.Value.none, (.ref 292), (.ref 293), (.ref 294), (.int 589 0), (.int 157 0), (.str "/claim/cut.py" 590)])), (List.toArray [])⟩) ::
  ((nat_lit 296), ⟨(.type "function"), .none, (.func ⟨"value_of", "value_of", a23, (.stmts b23), s23, 3, [], PySem.Value.none, PySem.Value.none, PySem.Value.none, (.str "perlcore.convert" 583), .none, (.ref 295), PySem.Value.none, 0⟩), (List.toArray [])⟩) ::
  ((nat_lit 297), ⟨(.type "tuple"), .none, (.seq (List.toArray []) 0), (List.toArray [])⟩) ::
  ((nat_lit 299), ⟨(.type "tuple"), .none, (.seq (List.toArray [(.str "value" 595)]) 0), (List.toArray [])⟩) ::
  ((nat_lit 300), ⟨(.type "tuple"), .none, (.seq (List.toArray []) 0), (List.toArray [])⟩) ::
  ((nat_lit 302), ⟨(.type "code"), .none, (.fields (List.toArray [(.str "to_text" 592), (.str "to_text" 593), (.str "/claim/cut.py" 594), (.int 163 0), (.int 1 0), (.int 0 0), (.int 0 0), (.int 3 0), (.ref 297), (.bool Bool.true), (.int 181 0), (.ref 298), PySem.Value.none, (.ref 299), (.ref 300), (.ref 301), (.int 596 0), (.int 163 0), (.str "/claim/cut.py" 597)])), (List.toArray [])⟩) ::
  ((nat_lit 303), ⟨(.type "function"), .none, (.func ⟨"to_text", "to_text", a24, (.stmts b24), s24, 3, [], PySem.Value.none, PySem.Value.none, PySem.Value.none, (.str "perlcore.convert" 583), .none, (.ref 302), PySem.Value.none, 0⟩), (List.toArray [])⟩) ::
  ((nat_lit 304), ⟨(.type "tuple"), .none, (.seq (List.toArray []) 0), (List.toArray [])⟩) ::
  ((nat_lit 306), ⟨(.type "tuple"), .none, (.seq (List.toArray [(.str "value" 602), (.str "limits" 603)]) 0), (List.toArray [])⟩) ::
  ((nat_lit 307), ⟨(.type "tuple"), .none, (.seq (List.toArray []) 0), (List.toArray [])⟩) ::
  ((nat_lit 309), ⟨(.type "code"), .none, (.fields (List.toArray [(.str "to_number" 599), (.str "to_number" 600), (.str "/claim/cut.py" 601), (.int 171 0), (.int 2 0), (.int 0 0), (.int 0 0), (.int 3 0), (.ref 304), (.bool Bool.true), (.int 181 0), (.ref 305), PySem.Value.none, (.ref 306), (.ref 307), (.ref 308), (.int 604 0), (.int 171 0), (.str "/claim/cut.py" 605)])), (List.toArray [])⟩) ::
  ((nat_lit 310), ⟨(.type "function"), .none, (.func ⟨"to_number", "to_number", a25, (.stmts b25), s25, 3, [], PySem.Value.none, PySem.Value.none, PySem.Value.none, (.str "perlcore.convert" 583), .none, (.ref 309), PySem.Value.none, 0⟩), (List.toArray [])⟩) ::
  ((nat_lit 311), ⟨(.type "tuple"), .none, (.seq (List.toArray []) 0), (List.toArray [])⟩) ::
  ((nat_lit 313), ⟨(.type "tuple"), .none, (.seq (List.toArray [(.str "x" 610), (.str "y" 611), (.str "limits" 612), (.str "a" 613), (.str "b" 614)]) 0), (List.toArray [])⟩) ::
  ((nat_lit 314), ⟨(.type "tuple"), .none, (.seq (List.toArray []) 0), (List.toArray [])⟩) ::
  ((nat_lit 316), ⟨(.type "code"), .none, (.fields (List.toArray [(.str "compare_num" 607), (.str "compare_num" 608), (.str "/claim/cut.py" 609), (.int 179 0), (.int 3 0), (.int 0 0), (.int 0 0), (.int 3 0), (.ref 311), (.bool Bool.true), (.int 181 0), (.ref 312), PySem.Value.none, (.ref 313), (.ref 314), (.ref 315), (.int 615 0), (.int 179 0), (.str "/claim/cut.py" 616)])), (List.toArray [])⟩) ::
  ((nat_lit 317), ⟨(.type "function"), .none, (.func ⟨"compare_num", "compare_num", a26, (.stmts b26), s26, 3, [], PySem.Value.none, PySem.Value.none, PySem.Value.none, (.str "perlcore.convert" 583), .none, (.ref 316), PySem.Value.none, 0⟩), (List.toArray [])⟩) ::
  ((nat_lit 318), ⟨(.type "tuple"), .none, (.seq (List.toArray []) 0), (List.toArray [])⟩) ::
  ((nat_lit 320), ⟨(.type "tuple"), .none, (.seq (List.toArray [(.str "x" 621), (.str "y" 622), (.str "a" 623), (.str "b" 624)]) 0), (List.toArray [])⟩) ::
  ((nat_lit 321), ⟨(.type "tuple"), .none, (.seq (List.toArray []) 0), (List.toArray [])⟩) ::
  ((nat_lit 323), ⟨(.type "code"), .none, (.fields (List.toArray [(.str "compare_text" 618), (.str "compare_text" 619), (.str "/claim/cut.py" 620), (.int 185 0), (.int 2 0), (.int 0 0), (.int 0 0), (.int 3 0), (.ref 318), (.bool Bool.true), (.int 181 0), (.ref 319), PySem.Value.none, (.ref 320), (.ref 321), (.ref 322), (.int 625 0), (.int 185 0), (.str "/claim/cut.py" 626)])), (List.toArray [])⟩) ::
  ((nat_lit 324), ⟨(.type "function"), .none, (.func ⟨"compare_text", "compare_text", a27, (.stmts b27), s27, 3, [], PySem.Value.none, PySem.Value.none, PySem.Value.none, (.str "perlcore.convert" 583), .none, (.ref 323), PySem.Value.none, 0⟩), (List.toArray [])⟩) ::
  ((nat_lit 325), ⟨(.type "tuple"), .none, (.seq (List.toArray []) 0), (List.toArray [])⟩) ::
  ((nat_lit 327), ⟨(.type "tuple"), .none, (.seq (List.toArray [(.str "reckon" 631), (.str "x" 632), (.str "y" 633), (.str "limits" 634)]) 0), (List.toArray [])⟩) ::
  ((nat_lit 328), ⟨(.type "tuple"), .none, (.seq (List.toArray []) 0), (List.toArray [])⟩) ::
  ((nat_lit 330), ⟨(.type "code"), .none, (.fields (List.toArray [(.str "by_numbers" 628), (.str "by_numbers" 629), (.str "/claim/cut.py" 630), (.int 191 0), (.int 4 0), (.int 0 0), (.int 0 0), (.int 3 0), (.ref 325), (.bool Bool.true), (.int 181 0), (.ref 326), PySem.Value.none, (.ref 327), (.ref 328), (.ref 329), (.int 635 0), (.int 191 0), (.str "/claim/cut.py" 636)])), (List.toArray [])⟩) ::
  ((nat_lit 331), ⟨(.type "function"), .none, (.func ⟨"by_numbers", "by_numbers", a28, (.stmts b28), s28, 3, [], PySem.Value.none, PySem.Value.none, PySem.Value.none, (.str "perlcore.convert" 583), .none, (.ref 330), PySem.Value.none, 0⟩), (List.toArray [])⟩) ::
  ((nat_lit 332), ⟨(.type "tuple"), .none, (.seq (List.toArray []) 0), (List.toArray [])⟩) ::
  ((nat_lit 334), ⟨(.type "tuple"), .none, (.seq (List.toArray [(.str "x" 641), (.str "y" 642), (.str "limits" 643)]) 0), (List.toArray [])⟩) ::
  ((nat_lit 335), ⟨(.type "tuple"), .none, (.seq (List.toArray []) 0), (List.toArray [])⟩) ::
  ((nat_lit 337), ⟨(.type "code"), .none, (.fields (List.toArray [(.str "op_add" 638), (.str "op_add" 639), (.str "/claim/cut.py" 640), (.int 193 0), (.int 3 0), (.int 0 0), (.int 0 0), (.int 3 0), (.ref 332), (.bool Bool.true), (.int 181 0), (.ref 333), PySem.Value.none, (.ref 334), (.ref 335), (.ref 336), (.int 644 0), (.int 193 0), (.str "/claim/cut.py" 645)])), (List.toArray [])⟩) ::
  ((nat_lit 338), ⟨(.type "function"), .none, (.func ⟨"op_add", "op_add", a29, (.stmts b29), s29, 3, [], PySem.Value.none, PySem.Value.none, PySem.Value.none, (.str "perlcore.convert" 583), .none, (.ref 337), PySem.Value.none, 0⟩), (List.toArray [])⟩) ::
  ((nat_lit 339), ⟨(.type "tuple"), .none, (.seq (List.toArray []) 0), (List.toArray [])⟩) ::
  ((nat_lit 341), ⟨(.type "tuple"), .none, (.seq (List.toArray [(.str "x" 650), (.str "y" 651), (.str "limits" 652)]) 0), (List.toArray [])⟩) ::
  ((nat_lit 342), ⟨(.type "tuple"), .none, (.seq (List.toArray []) 0), (List.toArray [])⟩) ::
  ((nat_lit 344), ⟨(.type "code"), .none, (.fields (List.toArray [(.str "op_sub" 647), (.str "op_sub" 648), (.str "/claim/cut.py" 649), (.int 195 0), (.int 3 0), (.int 0 0), (.int 0 0), (.int 3 0), (.ref 339), (.bool Bool.true), (.int 181 0), (.ref 340), PySem.Value.none, (.ref 341), (.ref 342), (.ref 343), (.int 653 0), (.int 195 0), (.str "/claim/cut.py" 654)])), (List.toArray [])⟩) ::
  ((nat_lit 345), ⟨(.type "function"), .none, (.func ⟨"op_sub", "op_sub", a30, (.stmts b30), s30, 3, [], PySem.Value.none, PySem.Value.none, PySem.Value.none, (.str "perlcore.convert" 583), .none, (.ref 344), PySem.Value.none, 0⟩), (List.toArray [])⟩) ::
  ((nat_lit 346), ⟨(.type "tuple"), .none, (.seq (List.toArray []) 0), (List.toArray [])⟩) ::
  ((nat_lit 348), ⟨(.type "tuple"), .none, (.seq (List.toArray [(.str "x" 659), (.str "y" 660), (.str "limits" 661)]) 0), (List.toArray [])⟩) ::
  ((nat_lit 349), ⟨(.type "tuple"), .none, (.seq (List.toArray []) 0), (List.toArray [])⟩) ::
  ((nat_lit 351), ⟨(.type "code"), .none, (.fields (List.toArray [(.str "op_mul" 656), (.str "op_mul" 657), (.str "/claim/cut.py" 658), (.int 197 0), (.int 3 0), (.int 0 0), (.int 0 0), (.int 3 0), (.ref 346), (.bool Bool.true), (.int 181 0), (.ref 347), PySem.Value.none, (.ref 348), (.ref 349), (.ref 350), (.int 662 0), (.int 197 0), (.str "/claim/cut.py" 663)])), (List.toArray [])⟩) ::
  ((nat_lit 352), ⟨(.type "function"), .none, (.func ⟨"op_mul", "op_mul", a31, (.stmts b31), s31, 3, [], PySem.Value.none, PySem.Value.none, PySem.Value.none, (.str "perlcore.convert" 583), .none, (.ref 351), PySem.Value.none, 0⟩), (List.toArray [])⟩) ::
  ((nat_lit 353), ⟨(.type "tuple"), .none, (.seq (List.toArray []) 0), (List.toArray [])⟩) ::
  ((nat_lit 355), ⟨(.type "tuple"), .none, (.seq (List.toArray [(.str "x" 668), (.str "y" 669), (.str "limits" 670)]) 0), (List.toArray [])⟩) ::
  ((nat_lit 356), ⟨(.type "tuple"), .none, (.seq (List.toArray []) 0), (List.toArray [])⟩) ::
  ((nat_lit 358), ⟨(.type "code"), .none, (.fields (List.toArray [(.str "op_div" 665), (.str "op_div" 666), (.str "/claim/cut.py" 667), (.int 199 0), (.int 3 0), (.int 0 0), (.int 0 0), (.int 3 0), (.ref 353), (.bool Bool.true), (.int 181 0), (.ref 354), PySem.Value.none, (.ref 355), (.ref 356), (.ref 357), (.int 671 0), (.int 199 0), (.str "/claim/cut.py" 672)])), (List.toArray [])⟩) ::
  ((nat_lit 359), ⟨(.type "function"), .none, (.func ⟨"op_div", "op_div", a32, (.stmts b32), s32, 3, [], PySem.Value.none, PySem.Value.none, PySem.Value.none, (.str "perlcore.convert" 583), .none, (.ref 358), PySem.Value.none, 0⟩), (List.toArray [])⟩) ::
  ((nat_lit 360), ⟨(.type "tuple"), .none, (.seq (List.toArray []) 0), (List.toArray [])⟩) ::
  ((nat_lit 362), ⟨(.type "tuple"), .none, (.seq (List.toArray [(.str "x" 677), (.str "y" 678), (.str "limits" 679)]) 0), (List.toArray [])⟩) ::
  ((nat_lit 363), ⟨(.type "tuple"), .none, (.seq (List.toArray []) 0), (List.toArray [])⟩) ::
  ((nat_lit 365), ⟨(.type "code"), .none, (.fields (List.toArray [(.str "op_mod" 674), (.str "op_mod" 675), (.str "/claim/cut.py" 676), (.int 201 0), (.int 3 0), (.int 0 0), (.int 0 0), (.int 3 0), (.ref 360), (.bool Bool.true), (.int 181 0), (.ref 361), PySem.Value.none, (.ref 362), (.ref 363), (.ref 364), (.int 680 0), (.int 201 0), (.str "/claim/cut.py" 681)])), (List.toArray [])⟩) ::
  ((nat_lit 366), ⟨(.type "function"), .none, (.func ⟨"op_mod", "op_mod", a33, (.stmts b33), s33, 3, [], PySem.Value.none, PySem.Value.none, PySem.Value.none, (.str "perlcore.convert" 583), .none, (.ref 365), PySem.Value.none, 0⟩), (List.toArray [])⟩) ::
  ((nat_lit 367), ⟨(.type "tuple"), .none, (.seq (List.toArray []) 0), (List.toArray [])⟩) ::
  ((nat_lit 369), ⟨(.type "tuple"), .none, (.seq (List.toArray [(.str "x" 686), (.str "y" 687), (.str "limits" 688)]) 0), (List.toArray [])⟩) ::
  ((nat_lit 370), ⟨(.type "tuple"), .none, (.seq (List.toArray []) 0), (List.toArray [])⟩) ::
  ((nat_lit 372), ⟨(.type "code"), .none, (.fields (List.toArray [(.str "op_power" 683), (.str "op_power" 684), (.str "/claim/cut.py" 685), (.int 203 0), (.int 3 0), (.int 0 0), (.int 0 0), (.int 3 0), (.ref 367), (.bool Bool.true), (.int 181 0), (.ref 368), PySem.Value.none, (.ref 369), (.ref 370), (.ref 371), (.int 689 0), (.int 203 0), (.str "/claim/cut.py" 690)])), (List.toArray [])⟩) ::
  ((nat_lit 373), ⟨(.type "function"), .none, (.func ⟨"op_power", "op_power", a34, (.stmts b34), s34, 3, [], PySem.Value.none, PySem.Value.none, PySem.Value.none, (.str "perlcore.convert" 583), .none, (.ref 372), PySem.Value.none, 0⟩), (List.toArray [])⟩) ::
  ((nat_lit 374), ⟨(.type "tuple"), .none, (.seq (List.toArray []) 0), (List.toArray [])⟩) ::
  ((nat_lit 376), ⟨(.type "tuple"), .none, (.seq (List.toArray []) 0), (List.toArray [])⟩) ::
  ((nat_lit 377), ⟨(.type "tuple"), .none, (.seq (List.toArray []) 0), (List.toArray [])⟩) ::
  ((nat_lit 379), ⟨(.type "code"), .none, (.fields (List.toArray [(.str "arithmetic_ops" 692), (.str "arithmetic_ops" 693), (.str "/claim/cut.py" 694), (.int 205 0), (.int 0 0), (.int 0 0), (.int 0 0), (.int 3 0), (.ref 374), (.bool Bool.true), (.int 181 0), (.ref 375), PySem.Value.none, (.ref 376), (.ref 377), (.ref 378), (.int 695 0), (.int 205 0), (.str "/claim/cut.py" 696)])), (List.toArray [])⟩) ::
  ((nat_lit 380), ⟨(.type "function"), .none, (.func ⟨"arithmetic_ops", "arithmetic_ops", a35, (.stmts b35), s35, 3, [], PySem.Value.none, PySem.Value.none, PySem.Value.none, (.str "perlcore.convert" 583), .none, (.ref 379), PySem.Value.none, 0⟩), (List.toArray [])⟩) ::
  ((nat_lit 381), ⟨(.type "tuple"), .none, (.seq (List.toArray []) 0), (List.toArray [])⟩) ::
  ((nat_lit 383), ⟨(.type "tuple"), .none, (.seq (List.toArray [(.str "left" 703), (.str "right" 704), (.str "order" 705), (.str "found" 706), (.str "one" 707), (.str "two" 708)]) 0), (List.toArray [])⟩) ::
  ((nat_lit 384), ⟨(.type "tuple"), .none, (.seq (List.toArray []) 0), (List.toArray [])⟩) ::
  ((nat_lit 386), ⟨(.type "code"), .none, (.fields (List.toArray [(.str "merged_runs" 700), (.str "merged_runs" 701), (.str "/claim/cut.py" 702), (.int 208 0), (.int 3 0), (.int 0 0), (.int 0 0), (.int 3 0), (.ref 381), (.bool Bool.true), (.int 181 0), (.ref 382), PySem.Value.none, (.ref 383), (.ref 384), (.ref 385), (.int 709 0), (.int 208 0), (.str "/claim/cut.py" 710)])), (List.toArray [])⟩) ::
  ((nat_lit 387), ⟨(.type "function"), .none, (.func ⟨"merged_runs", "merged_runs", a36, (.stmts b36), s36, 3, [], PySem.Value.none, PySem.Value.none, PySem.Value.none, (.str "perlcore.sorting" 698), .none, (.ref 386), PySem.Value.none, 0⟩), (List.toArray [])⟩) ::
  ((nat_lit 388), ⟨(.type "tuple"), .none, (.seq (List.toArray []) 0), (List.toArray [])⟩) ::
  ((nat_lit 391), ⟨(.type "code"), .none, (.fields (List.toArray [(.str "sorted_members" 712), (.str "sorted_members" 713), (.str "/claim/cut.py" 714), (.int 222 0), (.int 2 0), (.int 0 0), (.int 0 0), (.int 3 0), (.ref 388), (.bool Bool.true), (.int 181 0), (.ref 389), PySem.Value.none, PySem.Value.none, PySem.Value.none, (.ref 390), (.int 715 0), (.int 222 0), (.str "/claim/cut.py" 716)])), (List.toArray [])⟩) ::
  ((nat_lit 392), ⟨(.type "function"), .none, (.func ⟨"sorted_members", "sorted_members", a37, (.stmts b37), s37, 3, [], PySem.Value.none, PySem.Value.none, PySem.Value.none, (.str "perlcore.sorting" 698), .none, (.ref 391), PySem.Value.none, 0⟩), (List.toArray [])⟩) ::
  ((nat_lit 393), ⟨(.type "tuple"), .none, (.seq (List.toArray []) 0), (List.toArray [])⟩) ::
  ((nat_lit 395), ⟨(.type "tuple"), .none, (.seq (List.toArray [(.str "x" 721), (.str "y" 722)]) 0), (List.toArray [])⟩) ::
  ((nat_lit 396), ⟨(.type "tuple"), .none, (.seq (List.toArray []) 0), (List.toArray [])⟩) ::
  ((nat_lit 398), ⟨(.type "code"), .none, (.fields (List.toArray [(.str "order_by_text" 718), (.str "order_by_text" 719), (.str "/claim/cut.py" 720), (.int 234 0), (.int 2 0), (.int 0 0), (.int 0 0), (.int 3 0), (.ref 393), (.bool Bool.true), (.int 181 0), (.ref 394), PySem.Value.none, (.ref 395), (.ref 396), (.ref 397), (.int 723 0), (.int 234 0), (.str "/claim/cut.py" 724)])), (List.toArray [])⟩) ::
  ((nat_lit 399), ⟨(.type "function"), .none, (.func ⟨"order_by_text", "order_by_text", a38, (.stmts b38), s38, 3, [], PySem.Value.none, PySem.Value.none, PySem.Value.none, (.str "perlcore.sorting" 698), .none, (.ref 398), PySem.Value.none, 0⟩), (List.toArray [])⟩) ::
  ((nat_lit 400), ⟨(.type "tuple"), .none, (.seq (List.toArray []) 0), (List.toArray [])⟩) ::
  ((nat_lit 402), ⟨(.type "tuple"), .none, (.seq (List.toArray [(.str "members" 729)]) 0), (List.toArray [])⟩) ::
  ((nat_lit 403), ⟨(.type "tuple"), .none, (.seq (List.toArray []) 0), (List.toArray [])⟩) ::
  ((nat_lit 405), ⟨(.type "code"), .none, (.fields (List.toArray [(.str "sorted_by_text" 726), (.str "sorted_by_text" 727), (.str "/claim/cut.py" 728), (.int 236 0), (.int 1 0), (.int 0 0), (.int 0 0), (.int 3 0), (.ref 400), (.bool Bool.true), (.int 181 0), (.ref 401), PySem.Value.none, (.ref 402), (.ref 403), (.ref 404), (.int 730 0), (.int 236 0), (.str "/claim/cut.py" 731)])), (List.toArray [])⟩) ::
  ((nat_lit 406), ⟨(.type "function"), .none, (.func ⟨"sorted_by_text", "sorted_by_text", a39, (.stmts b39), s39, 3, [], PySem.Value.none, PySem.Value.none, PySem.Value.none, (.str "perlcore.sorting" 698), .none, (.ref 405), PySem.Value.none, 0⟩), (List.toArray [])⟩) ::
  ((nat_lit 407), ⟨(.type "tuple"), .none, (.seq (List.toArray []) 0), (List.toArray [])⟩) ::
  ((nat_lit 409), ⟨(.type "tuple"), .none, (.seq (List.toArray [(.str "members" 736), (.str "order" 737), (.str "at" 738)]) 0), (List.toArray [])⟩) ::
  ((nat_lit 410), ⟨(.type "tuple"), .none, (.seq (List.toArray []) 0), (List.toArray [])⟩) ::
  ((nat_lit 412), ⟨(.type "code"), .none, (.fields (List.toArray [(.str "is_sorted" 733), (.str "is_sorted" 734), (.str "/claim/cut.py" 735), (.int 238 0), (.int 2 0), (.int 0 0), (.int 0 0), (.int 3 0), (.ref 407), (.bool Bool.true), (.int 181 0), (.ref 408), PySem.Value.none, (.ref 409), (.ref 410), (.ref 411), (.int 739 0), (.int 238 0), (.str "/claim/cut.py" 740)])), (List.toArray [])⟩) ::
  ((nat_lit 413), ⟨(.type "function"), .none, (.func ⟨"is_sorted", "is_sorted", a40, (.stmts b40), s40, 3, [], PySem.Value.none, PySem.Value.none, PySem.Value.none, (.str "perlcore.sorting" 698), .none, (.ref 412), PySem.Value.none, 0⟩), (List.toArray [])⟩) ::
  ((nat_lit 421), ⟨(.type "tuple"), .none, (.seq (List.toArray [(.int 64 756), (.int 50 757), (.int 1000000 760), (.int 100000 763), (.int 10000 766)]) 0), (List.toArray [])⟩) ::
  ((nat_lit 422), ⟨(.type "tuple"), .none, (.seq (List.toArray []) 0), (List.toArray [])⟩) ::
  ((nat_lit 424), ⟨(.type "tuple"), .none, (.seq (List.toArray [(.str "self" 770), (.str "width" 771), (.str "depth" 772), (.str "steps" 773), (.str "text" 774), (.str "items" 775)]) 0), (List.toArray [])⟩) ::
  ((nat_lit 425), ⟨(.type "tuple"), .none, (.seq (List.toArray []) 0), (List.toArray [])⟩) ::
  ((nat_lit 427), ⟨(.type "code"), .none, (.fields (List.toArray [(.str "__init__" 767), (.str "Limits.__init__" 768), (.str "/claim/cut.py" 769), (.int 246 0), (.int 6 0), (.int 0 0), (.int 0 0), (.int 3 0), (.ref 422), (.bool Bool.true), (.int 181 0), (.ref 423), PySem.Value.none, (.ref 424), (.ref 425), (.ref 426), (.int 776 0), (.int 246 0), (.str "/claim/cut.py" 777)])), (List.toArray [])⟩) ::
  ((nat_lit 428), ⟨(.type "function"), .none, (.func ⟨"__init__", "Limits.__init__", a41, (.stmts b41), s41, 3, [], (.ref 421), PySem.Value.none, PySem.Value.none, (.str "perlcore.limits" 742), .none, (.ref 427), PySem.Value.none, 0⟩), (List.toArray [])⟩) ::
  ((nat_lit 429), ⟨(.type "tuple"), .none, (.seq (List.toArray [(.str "depth" 779), (.str "items" 780), (.str "steps" 781), (.str "text" 782), (.str "width" 783)]) 0), (List.toArray [])⟩) ::
  ((nat_lit 430), ⟨(.type "dict"), .none, (.dict (List.toArray [⟨(PySem.PyData.keyHash P "__module__"), (.str "__module__" 751), (.str "perlcore.limits" 742)⟩, ⟨(PySem.PyData.keyHash P "__firstlineno__"), (.str "__firstlineno__" 755), (.int 244 754)⟩, ⟨(PySem.PyData.keyHash P "__init__"), (.str "__init__" 778), (.ref 428)⟩, ⟨(PySem.PyData.keyHash P "__static_attributes__"), (.str "__static_attributes__" 784), (.ref 429)⟩, ⟨(PySem.PyData.keyHash P "__dict__"), (.str "__dict__" 786), (.ref 432)⟩, ⟨(PySem.PyData.keyHash P "__weakref__"), (.str "__weakref__" 788), (.ref 433)⟩, ⟨(PySem.PyData.keyHash P "__doc__"), (.str "__doc__" 789), PySem.Value.none⟩]) 4), (List.toArray [])⟩) ::
  ((nat_lit 431), ⟨(.type "type"), .none, (.cls ⟨"Limits", [(.type "object")], [(.ref 431), (.type "object")], 430, "Limits", Bool.true, [], [], Bool.false, .none, Bool.false⟩), (List.toArray [.none, .none, (.some (.str "Limits" 744)), (.some (.str "Limits" 752)), (.some (.builtin "object.__new__")), (.some (.bool Bool.true))])⟩) ::
  ((nat_lit 432), ⟨(.type "getset_descriptor"), .none, (.fields (List.toArray [(.str "__dict__" 785), (.ref 431), (.builtin "function.__dict__"), (.builtin "function.__dict__#set")])), (List.toArray [])⟩) ::
  ((nat_lit 433), ⟨(.type "getset_descriptor"), .none, (.fields (List.toArray [(.str "__weakref__" 787), (.ref 431), (.builtin "ExceptionGroup.__weakref__"), PySem.Value.none])), (List.toArray [])⟩) ::
  ((nat_lit 436), ⟨(.type "tuple"), .none, (.seq (List.toArray [(.int 6 794), (.int 310 795), (.int 21 796), (.int 300 797), (.int 21 798), (.int 121 799), (.int 20 800), (.int 0 801)]) 0), (List.toArray [])⟩) ::
  ((nat_lit 437), ⟨(.type "tuple"), .none, (.seq (List.toArray []) 0), (List.toArray [])⟩) ::
  ((nat_lit 439), ⟨(.type "tuple"), .none, (.seq (List.toArray [(.str "dice" 806), (.str "many" 807), (.str "spot" 808)]) 0), (List.toArray [])⟩) ::
  ((nat_lit 440), ⟨(.type "tuple"), .none, (.seq (List.toArray []) 0), (List.toArray [])⟩) ::
  ((nat_lit 442), ⟨(.type "code"), .none, (.fields (List.toArray [(.str "_law_toss" 803), (.str "_law_toss" 804), (.str "/claim/cut.py" 805), (.int 254 0), (.int 2 0), (.int 0 0), (.int 0 0), (.int 3 0), (.ref 437), (.bool Bool.true), (.int 181 0), (.ref 438), PySem.Value.none, (.ref 439), (.ref 440), (.ref 441), (.int 809 0), (.int 254 0), (.str "/claim/cut.py" 810)])), (List.toArray [])⟩) ::
  ((nat_lit 443), ⟨(.type "function"), .none, (.func ⟨"_law_toss", "_law_toss", a42, (.stmts b42), s42, 3, [], PySem.Value.none, PySem.Value.none, PySem.Value.none, (.str "law_sz0088_01" 792), .none, (.ref 442), PySem.Value.none, 0⟩), (List.toArray [])⟩) ::
  ((nat_lit 444), ⟨(.type "tuple"), .none, (.seq (List.toArray []) 0), (List.toArray [])⟩) ::
  ((nat_lit 446), ⟨(.type "tuple"), .none, (.seq (List.toArray [(.str "number" 815), (.str "place" 816)]) 0), (List.toArray [])⟩) ::
  ((nat_lit 447), ⟨(.type "tuple"), .none, (.seq (List.toArray []) 0), (List.toArray [])⟩) ::
  ((nat_lit 449), ⟨(.type "code"), .none, (.fields (List.toArray [(.str "_law_figure" 812), (.str "_law_figure" 813), (.str "/claim/cut.py" 814), (.int 258 0), (.int 2 0), (.int 0 0), (.int 0 0), (.int 3 0), (.ref 444), (.bool Bool.true), (.int 181 0), (.ref 445), PySem.Value.none, (.ref 446), (.ref 447), (.ref 448), (.int 817 0), (.int 258 0), (.str "/claim/cut.py" 818)])), (List.toArray [])⟩) ::
  ((nat_lit 450), ⟨(.type "function"), .none, (.func ⟨"_law_figure", "_law_figure", a43, (.stmts b43), s43, 3, [], PySem.Value.none, PySem.Value.none, PySem.Value.none, (.str "law_sz0088_01" 792), .none, (.ref 449), PySem.Value.none, 0⟩), (List.toArray [])⟩) ::
  ((nat_lit 451), ⟨(.type "tuple"), .none, (.seq (List.toArray []) 0), (List.toArray [])⟩) ::
  ((nat_lit 453), ⟨(.type "tuple"), .none, (.seq (List.toArray [(.str "x" 823), (.str "y" 824)]) 0), (List.toArray [])⟩) ::
  ((nat_lit 454), ⟨(.type "tuple"), .none, (.seq (List.toArray []) 0), (List.toArray [])⟩) ::
  ((nat_lit 456), ⟨(.type "code"), .none, (.fields (List.toArray [(.str "_law_by_last" 820), (.str "_law_by_last" 821), (.str "/claim/cut.py" 822), (.int 260 0), (.int 2 0), (.int 0 0), (.int 0 0), (.int 3 0), (.ref 451), (.bool Bool.true), (.int 181 0), (.ref 452), PySem.Value.none, (.ref 453), (.ref 454), (.ref 455), (.int 825 0), (.int 260 0), (.str "/claim/cut.py" 826)])), (List.toArray [])⟩) ::
  ((nat_lit 457), ⟨(.type "function"), .none, (.func ⟨"_law_by_last", "_law_by_last", a44, (.stmts b44), s44, 3, [], PySem.Value.none, PySem.Value.none, PySem.Value.none, (.str "law_sz0088_01" 792), .none, (.ref 456), PySem.Value.none, 0⟩), (List.toArray [])⟩) ::
  ((nat_lit 458), ⟨(.type "tuple"), .none, (.seq (List.toArray []) 0), (List.toArray [])⟩) ::
  ((nat_lit 460), ⟨(.type "tuple"), .none, (.seq (List.toArray [(.str "x" 831), (.str "y" 832)]) 0), (List.toArray [])⟩) ::
  ((nat_lit 461), ⟨(.type "tuple"), .none, (.seq (List.toArray []) 0), (List.toArray [])⟩) ::
  ((nat_lit 463), ⟨(.type "code"), .none, (.fields (List.toArray [(.str "_law_by_next" 828), (.str "_law_by_next" 829), (.str "/claim/cut.py" 830), (.int 262 0), (.int 2 0), (.int 0 0), (.int 0 0), (.int 3 0), (.ref 458), (.bool Bool.true), (.int 181 0), (.ref 459), PySem.Value.none, (.ref 460), (.ref 461), (.ref 462), (.int 833 0), (.int 262 0), (.str "/claim/cut.py" 834)])), (List.toArray [])⟩) ::
  ((nat_lit 464), ⟨(.type "function"), .none, (.func ⟨"_law_by_next", "_law_by_next", a45, (.stmts b45), s45, 3, [], PySem.Value.none, PySem.Value.none, PySem.Value.none, (.str "law_sz0088_01" 792), .none, (.ref 463), PySem.Value.none, 0⟩), (List.toArray [])⟩) ::
  ((nat_lit 465), ⟨(.type "tuple"), .none, (.seq (List.toArray []) 0), (List.toArray [])⟩) ::
  ((nat_lit 467), ⟨(.type "tuple"), .none, (.seq (List.toArray [(.str "x" 839), (.str "y" 840)]) 0), (List.toArray [])⟩) ::
  ((nat_lit 468), ⟨(.type "tuple"), .none, (.seq (List.toArray []) 0), (List.toArray [])⟩) ::
  ((nat_lit 470), ⟨(.type "code"), .none, (.fields (List.toArray [(.str "_law_by_first" 836), (.str "_law_by_first" 837), (.str "/claim/cut.py" 838), (.int 264 0), (.int 2 0), (.int 0 0), (.int 0 0), (.int 3 0), (.ref 465), (.bool Bool.true), (.int 181 0), (.ref 466), PySem.Value.none, (.ref 467), (.ref 468), (.ref 469), (.int 841 0), (.int 264 0), (.str "/claim/cut.py" 842)])), (List.toArray [])⟩) ::
  ((nat_lit 471), ⟨(.type "function"), .none, (.func ⟨"_law_by_first", "_law_by_first", a46, (.stmts b46), s46, 3, [], PySem.Value.none, PySem.Value.none, PySem.Value.none, (.str "law_sz0088_01" 792), .none, (.ref 470), PySem.Value.none, 0⟩), (List.toArray [])⟩) ::
  ((nat_lit 472), ⟨(.type "tuple"), .none, (.seq (List.toArray []) 0), (List.toArray [])⟩) ::
  ((nat_lit 474), ⟨(.type "tuple"), .none, (.seq (List.toArray [(.str "x" 847), (.str "y" 848), (.str "way" 849)]) 0), (List.toArray [])⟩) ::
  ((nat_lit 475), ⟨(.type "tuple"), .none, (.seq (List.toArray []) 0), (List.toArray [])⟩) ::
  ((nat_lit 477), ⟨(.type "code"), .none, (.fields (List.toArray [(.str "_law_by_two" 844), (.str "_law_by_two" 845), (.str "/claim/cut.py" 846), (.int 266 0), (.int 2 0), (.int 0 0), (.int 0 0), (.int 3 0), (.ref 472), (.bool Bool.true), (.int 181 0), (.ref 473), PySem.Value.none, (.ref 474), (.ref 475), (.ref 476), (.int 850 0), (.int 266 0), (.str "/claim/cut.py" 851)])), (List.toArray [])⟩) ::
  ((nat_lit 478), ⟨(.type "function"), .none, (.func ⟨"_law_by_two", "_law_by_two", a47, (.stmts b47), s47, 3, [], PySem.Value.none, PySem.Value.none, PySem.Value.none, (.str "law_sz0088_01" 792), .none, (.ref 477), PySem.Value.none, 0⟩), (List.toArray [])⟩) ::
  ((nat_lit 479), ⟨(.type "tuple"), .none, (.seq (List.toArray []) 0), (List.toArray [])⟩) ::
  ((nat_lit 481), ⟨(.type "tuple"), .none, (.seq (List.toArray [(.str "x" 856), (.str "y" 857)]) 0), (List.toArray [])⟩) ::
  ((nat_lit 482), ⟨(.type "tuple"), .none, (.seq (List.toArray []) 0), (List.toArray [])⟩) ::
  ((nat_lit 484), ⟨(.type "code"), .none, (.fields (List.toArray [(.str "_law_by_texts" 853), (.str "_law_by_texts" 854), (.str "/claim/cut.py" 855), (.int 269 0), (.int 2 0), (.int 0 0), (.int 0 0), (.int 3 0), (.ref 479), (.bool Bool.true), (.int 181 0), (.ref 480), PySem.Value.none, (.ref 481), (.ref 482), (.ref 483), (.int 858 0), (.int 269 0), (.str "/claim/cut.py" 859)])), (List.toArray [])⟩) ::
  ((nat_lit 485), ⟨(.type "function"), .none, (.func ⟨"_law_by_texts", "_law_by_texts", a48, (.stmts b48), s48, 3, [], PySem.Value.none, PySem.Value.none, PySem.Value.none, (.str "law_sz0088_01" 792), .none, (.ref 484), PySem.Value.none, 0⟩), (List.toArray [])⟩) ::
  ((nat_lit 486), ⟨(.type "tuple"), .none, (.seq (List.toArray []) 0), (List.toArray [])⟩) ::
  ((nat_lit 489), ⟨(.type "code"), .none, (.fields (List.toArray [(.str "law" 861), (.str "law" 862), (.str "/claim/cut.py" 863), (.int 271 0), (.int 1 0), (.int 0 0), (.int 0 0), (.int 3 0), (.ref 486), (.bool Bool.true), (.int 181 0), (.ref 487), PySem.Value.none, PySem.Value.none, PySem.Value.none, (.ref 488), (.int 864 0), (.int 271 0), (.str "/claim/cut.py" 865)])), (List.toArray [])⟩) ::
  ((nat_lit 490), ⟨(.type "function"), .none, (.func ⟨"law", "law", a49, (.stmts b49), s49, 3, [], PySem.Value.none, PySem.Value.none, PySem.Value.none, (.str "law_sz0088_01" 792), .none, (.ref 489), PySem.Value.none, 0⟩), (List.toArray [])⟩) :: [] : List (Nat × Obj)))
  _ _ _ _ _ _ _ _ _ _ _ _ _ _ _ _ _ _ _ _ _ _ _ _ _ _ _ _ _ _ _ _ _ _ _ _ _ _ _ _ _ _ _ _ _ _ _ _ _ _ _ _ _ _ _ _ _ _ _ _ _ _ _ _ _ _ _ _ _ _ _ _ _ _ _ _ _ _ _ _ _ _ _ _ _ _ _ _ _ _ _ _ _ _ _ _ _ _ _ _ _ _ _ _ _ _ _ _ _ _ _ _ _ _ _ _ _ _ _ _ _ _ _ _ _ _ _ _ _ _ _ _ _ _ _ _ _ _ _ _ _ _ _ _ _ _ _ _ _ _ _ _ _ _ _ _ _ _ _ _ _ _ _ _ _ _ _ _ _ _ _ _ _ _ _ _ _ _ _ _ _ _ _ _ _ _ _ _ _ _ _ _ _ _ _ _ _ _ _ _ _ _ _ _ _ _ _ _ _ _ _ _ _ _ _ _ _ _ _ _ _ _ _ _ _ _ _ _ _ _ _ _ _ _ _ _ _ _ _ _ _ _ _ _ _ _ _ _ _ _ _ _ _ _ _ _ _ _ _ _ _ _ _ _ _ _ _ _ _ _ _ _ _ _ _ _ _ _ _ _ _ _ _ _ _ _ _ _ _ _ _ _ _ _ _ _ _ _ _ _ _ _ _ _ _ _ _ _ _ _ _ _ _ _ _ _ _ _ _ _ _ _ _ _ _ _ _ _ _ _ _ _ _ _ _ _ _ _ _ _ _ _ _ _ _ _ _ _ _ _ _ _ _ _ _ _ _ _ _ _ _ _ _ _ _ _ _ _ _ _ _ _ _ _ _ _ _ _ _ _ _ _ _ _ _ _ _ _ _ _ _ _ _ _ _ _ _ _ _ _ _ _ _ _ _ _ _ _ _ _ _ _ _ _ _ _ _ _ _ _ _ _ _ _ _ _ _ _ _ _ _ _ _ _ _ _ _ _ _ _ _ _ _ _ _ _ _ _ _ _ _ _ _ _ _ _ _ _ _ _ _ _ _ _ _ _ _ _ _ _ _ _ _ _ _ _ _ _ _ _ _ _ _ _ _ _ _ _ _ _ _ _ _ _ _ _ _ _ _ _
  rfl rfl rfl rfl rfl rfl rfl rfl rfl rfl rfl rfl rfl rfl rfl rfl rfl rfl rfl rfl rfl rfl rfl rfl rfl rfl rfl rfl rfl rfl rfl rfl rfl rfl rfl rfl rfl rfl rfl rfl rfl rfl rfl rfl rfl rfl rfl rfl rfl rfl
abbrev kas : List Addr := [(nat_lit 2), (nat_lit 3), (nat_lit 15), (nat_lit 22), (nat_lit 24), (nat_lit 25), (nat_lit 27), (nat_lit 28), (nat_lit 29), (nat_lit 30), (nat_lit 31), (nat_lit 32), (nat_lit 35), (nat_lit 42), (nat_lit 44), (nat_lit 45), (nat_lit 47), (nat_lit 48), (nat_lit 49), (nat_lit 50), (nat_lit 51), (nat_lit 54), (nat_lit 56), (nat_lit 57), (nat_lit 59), (nat_lit 60), (nat_lit 61), (nat_lit 63), (nat_lit 64), (nat_lit 66), (nat_lit 67), (nat_lit 68), (nat_lit 70), (nat_lit 71), (nat_lit 73), (nat_lit 74), (nat_lit 75), (nat_lit 77), (nat_lit 78), (nat_lit 80), (nat_lit 81), (nat_lit 82), (nat_lit 84), (nat_lit 85), (nat_lit 87), (nat_lit 88), (nat_lit 89), (nat_lit 91), (nat_lit 92), (nat_lit 94), (nat_lit 95), (nat_lit 96), (nat_lit 98), (nat_lit 99), (nat_lit 101), (nat_lit 102), (nat_lit 103), (nat_lit 105), (nat_lit 106), (nat_lit 108), (nat_lit 109), (nat_lit 110), (nat_lit 112), (nat_lit 113), (nat_lit 115), (nat_lit 116), (nat_lit 117), (nat_lit 119), (nat_lit 120), (nat_lit 122), (nat_lit 123), (nat_lit 124), (nat_lit 126), (nat_lit 127), (nat_lit 129), (nat_lit 130), (nat_lit 138), (nat_lit 140), (nat_lit 141), (nat_lit 143), (nat_lit 144), (nat_lit 145), (nat_lit 146), (nat_lit 147), (nat_lit 148), (nat_lit 149), (nat_lit 152), (nat_lit 159), (nat_lit 161), (nat_lit 162), (nat_lit 164), (nat_lit 165), (nat_lit 166), (nat_lit 167), (nat_lit 168), (nat_lit 171), (nat_lit 178), (nat_lit 180), (nat_lit 181), (nat_lit 183), (nat_lit 184), (nat_lit 185), (nat_lit 186), (nat_lit 187), (nat_lit 190), (nat_lit 197), (nat_lit 199), (nat_lit 200), (nat_lit 202), (nat_lit 203), (nat_lit 204), (nat_lit 205), (nat_lit 206), (nat_lit 209), (nat_lit 216), (nat_lit 218), (nat_lit 219), (nat_lit 221), (nat_lit 222), (nat_lit 223), (nat_lit 224), (nat_lit 225), (nat_lit 228), (nat_lit 235), (nat_lit 237), (nat_lit 238), (nat_lit 240), (nat_lit 241), (nat_lit 242), (nat_lit 243), (nat_lit 244), (nat_lit 254), (nat_lit 255), (nat_lit 257), (nat_lit 258), (nat_lit 260), (nat_lit 261), (nat_lit 262), (nat_lit 263), (nat_lit 264), (nat_lit 265), (nat_lit 266), (nat_lit 269), (nat_lit 271), (nat_lit 272), (nat_lit 274), (nat_lit 275), (nat_lit 276), (nat_lit 278), (nat_lit 279), (nat_lit 281), (nat_lit 282), (nat_lit 283), (nat_lit 285), (nat_lit 286), (nat_lit 288), (nat_lit 289), (nat_lit 290), (nat_lit 292), (nat_lit 293), (nat_lit 295), (nat_lit 296), (nat_lit 297), (nat_lit 299), (nat_lit 300), (nat_lit 302), (nat_lit 303), (nat_lit 304), (nat_lit 306), (nat_lit 307), (nat_lit 309), (nat_lit 310), (nat_lit 311), (nat_lit 313), (nat_lit 314), (nat_lit 316), (nat_lit 317), (nat_lit 318), (nat_lit 320), (nat_lit 321), (nat_lit 323), (nat_lit 324), (nat_lit 325), (nat_lit 327), (nat_lit 328), (nat_lit 330), (nat_lit 331), (nat_lit 332), (nat_lit 334), (nat_lit 335), (nat_lit 337), (nat_lit 338), (nat_lit 339), (nat_lit 341), (nat_lit 342), (nat_lit 344), (nat_lit 345), (nat_lit 346), (nat_lit 348), (nat_lit 349), (nat_lit 351), (nat_lit 352), (nat_lit 353), (nat_lit 355), (nat_lit 356), (nat_lit 358), (nat_lit 359), (nat_lit 360), (nat_lit 362), (nat_lit 363), (nat_lit 365), (nat_lit 366), (nat_lit 367), (nat_lit 369), (nat_lit 370), (nat_lit 372), (nat_lit 373), (nat_lit 374), (nat_lit 376), (nat_lit 377), (nat_lit 379), (nat_lit 380), (nat_lit 381), (nat_lit 383), (nat_lit 384), (nat_lit 386), (nat_lit 387), (nat_lit 388), (nat_lit 391), (nat_lit 392), (nat_lit 393), (nat_lit 395), (nat_lit 396), (nat_lit 398), (nat_lit 399), (nat_lit 400), (nat_lit 402), (nat_lit 403), (nat_lit 405), (nat_lit 406), (nat_lit 407), (nat_lit 409), (nat_lit 410), (nat_lit 412), (nat_lit 413), (nat_lit 421), (nat_lit 422), (nat_lit 424), (nat_lit 425), (nat_lit 427), (nat_lit 428), (nat_lit 429), (nat_lit 430), (nat_lit 431), (nat_lit 432), (nat_lit 433), (nat_lit 436), (nat_lit 437), (nat_lit 439), (nat_lit 440), (nat_lit 442), (nat_lit 443), (nat_lit 444), (nat_lit 446), (nat_lit 447), (nat_lit 449), (nat_lit 450), (nat_lit 451), (nat_lit 453), (nat_lit 454), (nat_lit 456), (nat_lit 457), (nat_lit 458), (nat_lit 460), (nat_lit 461), (nat_lit 463), (nat_lit 464), (nat_lit 465), (nat_lit 467), (nat_lit 468), (nat_lit 470), (nat_lit 471), (nat_lit 472), (nat_lit 474), (nat_lit 475), (nat_lit 477), (nat_lit 478), (nat_lit 479), (nat_lit 481), (nat_lit 482), (nat_lit 484), (nat_lit 485), (nat_lit 486), (nat_lit 489), (nat_lit 490)]
theorem kas_ok : ∀ P, kas = (hd.heap_39 P).map (·.1) := fun _ => by kernel_rfl

/-- the texts of the def that stands there -/
def fA : Option Stmt → Arguments | some (.FunctionDef _ a _ _ _ _ _ _ _ _) => a | _ => default
def fB : Option Stmt → List Stmt | some (.FunctionDef _ _ b _ _ _ _ _ _ _) => b | _ => []
def fS : Option Stmt → Scope | some (.FunctionDef _ _ _ _ _ _ s _ _ _) => s | _ => default

noncomputable abbrev o_10_0 (_ : Params) : Obj := ⟨(.type "frame"), .none, PySem.Data.plain, (List.toArray [(.some (.ref 9)), (.some (.ref 3)), (.some (.ref 3)), .none, (.some (.str "__main__" 164)), .none, (.some (.ref 0))])⟩
noncomputable abbrev o_11_0 (_ : Params) : Obj := ⟨(.type "tuple"), .none, (.seq (List.toArray []) 0), (List.toArray [])⟩
noncomputable abbrev o_12_0 (_ : Params) : Obj := ⟨PySem.Value.none, .none, (.fields (List.toArray [])), (List.toArray [])⟩
noncomputable abbrev o_13_0 (_ : Params) : Obj := ⟨(.type "code"), .none, (.fields (List.toArray [(.str "<module>" 182), (.str "<module>" 183), (.str "/claim/cut.py" 184), (.int 1 0), (.int 0 0), (.int 0 0), (.int 0 0), (.int 0 0), (.ref 11), (.bool Bool.false), (.int 181 0), (.ref 12), PySem.Value.none, PySem.Value.none, PySem.Value.none, PySem.Value.none, (.int 185 0), (.int 1 0), (.str "/claim/cut.py" 186)])), (List.toArray [])⟩
noncomputable abbrev o_14_0 (_ : Params) : Obj := ⟨(.type "frame"), .none, PySem.Data.plain, (List.toArray [(.some (.ref 13)), (.some (.ref 3)), (.some (.ref 3)), .none, (.some (.str "__main__" 164)), .none, (.some (.ref 0))])⟩
noncomputable abbrev o_2_1 (P : Params) : Obj := ⟨PySem.Value.none, .none, (.dict (List.toArray [⟨(PySem.PyData.keyHash P "type.__subclasses__.Exception.0"), (.str "type.__subclasses__.Exception.0" 214), (.int 31 0)⟩, ⟨(PySem.PyData.keyHash P "type.__subclasses__.Exception.n"), (.str "type.__subclasses__.Exception.n" 215), (.int 1 0)⟩]) 2), (List.toArray [])⟩
noncomputable abbrev o_3_1 (P : Params) : Obj := ⟨(.type "dict"), .none, (.dict (List.toArray [⟨(PySem.PyData.keyHash P "__name__"), (.str "__name__" 165), (.str "perlcore.errors" 187)⟩, ⟨(PySem.PyData.keyHash P "__doc__"), (.str "__doc__" 166), PySem.Value.none⟩, ⟨(PySem.PyData.keyHash P "__package__"), (.str "__package__" 167), PySem.Value.none⟩, ⟨(PySem.PyData.keyHash P "__loader__"), (.str "__loader__" 168), (.builtin "__main__.__loader__#opaque")⟩, ⟨(PySem.PyData.keyHash P "__spec__"), (.str "__spec__" 169), PySem.Value.none⟩, ⟨(PySem.PyData.keyHash P "__annotations__"), (.str "__annotations__" 170), (.ref 6)⟩, ⟨(PySem.PyData.keyHash P "__builtins__"), (.str "__builtins__" 171), (.ref 4)⟩, ⟨(PySem.PyData.keyHash P "__file__"), (.str "__file__" 173), (.str "/claim/cut.py" 172)⟩, ⟨(PySem.PyData.keyHash P "__cached__"), (.str "__cached__" 174), PySem.Value.none⟩, ⟨(PySem.PyData.keyHash P "PerlError"), (.str "PerlError" 217), (.ref 31)⟩]) 10), (List.toArray [])⟩
noncomputable abbrev o_12_1 (_ : Params) : Obj := ⟨PySem.Value.none, .none, (.fields (List.toArray [(.int 2 0), (.int 0 0), (.ref 20)])), (List.toArray [])⟩
noncomputable abbrev o_15_0 (_ : Params) : Obj := ⟨(.type "tuple"), .none, (.seq (List.toArray [(.type "Exception")]) 0), (List.toArray [])⟩
noncomputable abbrev o_16_0 (_ : Params) : Obj := ⟨(.type "builtin_function_or_method"), .none, (.fields (List.toArray [(.builtin "type.__prepare__"), (.type "type")])), (List.toArray [])⟩
noncomputable abbrev o_17_0 (P : Params) : Obj := ⟨(.type "dict"), .none, (.dict (List.toArray [⟨(PySem.PyData.keyHash P "__module__"), (.str "__module__" 196), (.str "perlcore.errors" 187)⟩, ⟨(PySem.PyData.keyHash P "__qualname__"), (.str "__qualname__" 198), (.str "PerlError" 197)⟩, ⟨(PySem.PyData.keyHash P "__firstlineno__"), (.str "__firstlineno__" 200), (.int 2 199)⟩, ⟨(PySem.PyData.keyHash P "__init__"), (.str "__init__" 208), (.ref 28)⟩, ⟨(PySem.PyData.keyHash P "__static_attributes__"), (.str "__static_attributes__" 210), (.ref 29)⟩]) 5), (List.toArray [])⟩
noncomputable abbrev o_18_0 (_ : Params) : Obj := ⟨(.type "tuple"), .none, (.seq (List.toArray []) 0), (List.toArray [])⟩
noncomputable abbrev o_19_0 (_ : Params) : Obj := ⟨PySem.Value.none, .none, (.fields (List.toArray [(.int 4 0), (.int 4 0), (.ref 27)])), (List.toArray [])⟩
noncomputable abbrev o_20_0 (_ : Params) : Obj := ⟨(.type "code"), .none, (.fields (List.toArray [(.str "PerlError" 191), (.str "PerlError" 192), (.str "/claim/cut.py" 193), (.int 2 0), (.int 0 0), (.int 0 0), (.int 0 0), (.int 0 0), (.ref 18), (.bool Bool.false), (.int 181 0), (.ref 19), PySem.Value.none, PySem.Value.none, PySem.Value.none, PySem.Value.none, (.int 194 0), (.int 2 0), (.str "/claim/cut.py" 195)])), (List.toArray [])⟩
noncomputable abbrev o_21_0 (_ : Params) : Obj := ⟨(.type "frame"), .none, PySem.Data.plain, (List.toArray [(.some (.ref 20)), (.some (.ref 3)), (.some (.ref 17)), .none, (.some (.str "perlcore.errors" 187)), .none, (.some (.ref 0))])⟩
noncomputable abbrev o_22_0 (_ : Params) : Obj := ⟨(.type "tuple"), .none, (.seq (List.toArray []) 0), (List.toArray [])⟩
noncomputable abbrev o_23_0 (_ : Params) : Obj := ⟨PySem.Value.none, .none, (.fields (List.toArray [])), (List.toArray [])⟩
noncomputable abbrev o_24_0 (_ : Params) : Obj := ⟨(.type "tuple"), .none, (.seq (List.toArray [(.str "self" 204), (.str "text" 205)]) 0), (List.toArray [])⟩
noncomputable abbrev o_25_0 (_ : Params) : Obj := ⟨(.type "tuple"), .none, (.seq (List.toArray []) 0), (List.toArray [])⟩
noncomputable abbrev o_26_0 (_ : Params) : Obj := ⟨PySem.Value.none, .none, (.func ⟨"__init__", "PerlError.__init__", (fA (inAt 1 0)), (.stmts (fB (inAt 1 0))), (fS (inAt 1 0)), 0, [], PySem.Value.none, PySem.Value.none, PySem.Value.none, PySem.Value.none, .none, PySem.Value.none, PySem.Value.none, 0⟩), (List.toArray [])⟩
noncomputable abbrev o_27_0 (_ : Params) : Obj := ⟨(.type "code"), .none, (.fields (List.toArray [(.str "__init__" 201), (.str "PerlError.__init__" 202), (.str "/claim/cut.py" 203), (.int 4 0), (.int 2 0), (.int 0 0), (.int 0 0), (.int 3 0), (.ref 22), (.bool Bool.true), (.int 181 0), (.ref 23), PySem.Value.none, (.ref 24), (.ref 25), (.ref 26), (.int 206 0), (.int 4 0), (.str "/claim/cut.py" 207)])), (List.toArray [])⟩
noncomputable abbrev o_28_0 (_ : Params) : Obj := ⟨(.type "function"), .none, (.func ⟨"__init__", "PerlError.__init__", (fA (inAt 1 0)), (.stmts (fB (inAt 1 0))), (fS (inAt 1 0)), 3, [], PySem.Value.none, PySem.Value.none, PySem.Value.none, (.str "perlcore.errors" 187), .none, (.ref 27), PySem.Value.none, 0⟩), (List.toArray [])⟩
noncomputable abbrev o_29_0 (_ : Params) : Obj := ⟨(.type "tuple"), .none, (.seq (List.toArray [(.str "text" 209)]) 0), (List.toArray [])⟩
noncomputable abbrev o_30_0 (P : Params) : Obj := ⟨(.type "dict"), .none, (.dict (List.toArray [⟨(PySem.PyData.keyHash P "__module__"), (.str "__module__" 196), (.str "perlcore.errors" 187)⟩, ⟨(PySem.PyData.keyHash P "__firstlineno__"), (.str "__firstlineno__" 200), (.int 2 199)⟩, ⟨(PySem.PyData.keyHash P "__init__"), (.str "__init__" 208), (.ref 28)⟩, ⟨(PySem.PyData.keyHash P "__static_attributes__"), (.str "__static_attributes__" 210), (.ref 29)⟩, ⟨(PySem.PyData.keyHash P "__weakref__"), (.str "__weakref__" 212), (.ref 32)⟩, ⟨(PySem.PyData.keyHash P "__doc__"), (.str "__doc__" 213), PySem.Value.none⟩]) 3), (List.toArray [])⟩
noncomputable abbrev o_31_0 (_ : Params) : Obj := ⟨(.type "type"), .none, (.cls ⟨"PerlError", [(.type "Exception")], [(.ref 31), (.type "Exception"), (.type "BaseException"), (.type "object")], 30, "PerlError", Bool.true, [], [], Bool.false, .none, Bool.false⟩), (List.toArray [(.some (.ref 15)), .none, (.some (.str "PerlError" 189)), (.some (.str "PerlError" 197)), (.some (.builtin "Exception.__new__")), (.some (.bool Bool.true))])⟩
noncomputable abbrev o_32_0 (_ : Params) : Obj := ⟨(.type "getset_descriptor"), .none, (.fields (List.toArray [(.str "__weakref__" 211), (.ref 31), (.builtin "ExceptionGroup.__weakref__"), PySem.Value.none])), (List.toArray [])⟩
noncomputable abbrev o_33_0 (_ : Params) : Obj := ⟨(.type "super"), .none, (.fields (List.toArray [(.ref 31), (.ref 31), (.ref 31)])), (List.toArray [])⟩
noncomputable abbrev o_34_0 (_ : Params) : Obj := ⟨(.type "builtin_function_or_method"), .none, (.fields (List.toArray [(.builtin "object.__init_subclass__"), (.ref 31)])), (List.toArray [])⟩
noncomputable abbrev o_3_2 (P : Params) : Obj := ⟨(.type "dict"), .none, (.dict (List.toArray [⟨(PySem.PyData.keyHash P "__name__"), (.str "__name__" 165), (.str "perlcore.numbers" 243)⟩, ⟨(PySem.PyData.keyHash P "__doc__"), (.str "__doc__" 166), PySem.Value.none⟩, ⟨(PySem.PyData.keyHash P "__package__"), (.str "__package__" 167), PySem.Value.none⟩, ⟨(PySem.PyData.keyHash P "__loader__"), (.str "__loader__" 168), (.builtin "__main__.__loader__#opaque")⟩, ⟨(PySem.PyData.keyHash P "__spec__"), (.str "__spec__" 169), PySem.Value.none⟩, ⟨(PySem.PyData.keyHash P "__annotations__"), (.str "__annotations__" 170), (.ref 6)⟩, ⟨(PySem.PyData.keyHash P "__builtins__"), (.str "__builtins__" 171), (.ref 4)⟩, ⟨(PySem.PyData.keyHash P "__file__"), (.str "__file__" 173), (.str "/claim/cut.py" 172)⟩, ⟨(PySem.PyData.keyHash P "__cached__"), (.str "__cached__" 174), PySem.Value.none⟩, ⟨(PySem.PyData.keyHash P "PerlError"), (.str "PerlError" 217), (.ref 31)⟩, ⟨(PySem.PyData.keyHash P "Die"), (.str "Die" 242), (.ref 51)⟩, ⟨(PySem.PyData.keyHash P "FIGURES"), (.str "FIGURES" 246), (.str "0123456789" 245)⟩, ⟨(PySem.PyData.keyHash P "SPACES"), (.str "SPACES" 248), (.str " \t\n\x0d\x0c\x0b" 247)⟩, ⟨(PySem.PyData.keyHash P "wrap_number"), (.str "wrap_number" 256), (.ref 60)⟩, ⟨(PySem.PyData.keyHash P "add_numbers"), (.str "add_numbers" 265), (.ref 67)⟩, ⟨(PySem.PyData.keyHash P "sub_numbers"), (.str "sub_numbers" 274), (.ref 74)⟩, ⟨(PySem.PyData.keyHash P "mul_numbers"), (.str "mul_numbers" 283), (.ref 81)⟩, ⟨(PySem.PyData.keyHash P "cut_quotient"), (.str "cut_quotient" 292), (.ref 88)⟩]) 18), (List.toArray [])⟩
noncomputable abbrev o_12_2 (_ : Params) : Obj := ⟨PySem.Value.none, .none, (.fields (List.toArray [(.int 2 0), (.int 0 0), (.ref 20), (.int 7 0), (.int 0 0), (.ref 40), (.int 15 0), (.int 0 0), (.ref 59), (.int 20 0), (.int 0 0), (.ref 66), (.int 22 0), (.int 0 0), (.ref 73), (.int 24 0), (.int 0 0), (.ref 80), (.int 26 0), (.int 0 0), (.ref 87)])), (List.toArray [])⟩
noncomputable abbrev o_31_1 (_ : Params) : Obj := ⟨(.type "type"), .none, (.cls ⟨"PerlError", [(.type "Exception")], [(.ref 31), (.type "Exception"), (.type "BaseException"), (.type "object")], 30, "PerlError", Bool.true, [], [(.ref 51)], Bool.false, .none, Bool.false⟩), (List.toArray [(.some (.ref 15)), .none, (.some (.str "PerlError" 189)), (.some (.str "PerlError" 197)), (.some (.builtin "Exception.__new__")), (.some (.bool Bool.true))])⟩
noncomputable abbrev o_35_0 (_ : Params) : Obj := ⟨(.type "tuple"), .none, (.seq (List.toArray [(.ref 31)]) 0), (List.toArray [])⟩
noncomputable abbrev o_36_0 (_ : Params) : Obj := ⟨(.type "builtin_function_or_method"), .none, (.fields (List.toArray [(.builtin "type.__prepare__"), (.type "type")])), (List.toArray [])⟩
noncomputable abbrev o_37_0 (P : Params) : Obj := ⟨(.type "dict"), .none, (.dict (List.toArray [⟨(PySem.PyData.keyHash P "__module__"), (.str "__module__" 225), (.str "perlcore.errors" 187)⟩, ⟨(PySem.PyData.keyHash P "__qualname__"), (.str "__qualname__" 227), (.str "Die" 226)⟩, ⟨(PySem.PyData.keyHash P "__firstlineno__"), (.str "__firstlineno__" 229), (.int 7 228)⟩, ⟨(PySem.PyData.keyHash P "__init__"), (.str "__init__" 237), (.ref 48)⟩, ⟨(PySem.PyData.keyHash P "__static_attributes__"), (.str "__static_attributes__" 239), (.ref 49)⟩]) 5), (List.toArray [])⟩
noncomputable abbrev o_38_0 (_ : Params) : Obj := ⟨(.type "tuple"), .none, (.seq (List.toArray []) 0), (List.toArray [])⟩
noncomputable abbrev o_39_0 (_ : Params) : Obj := ⟨PySem.Value.none, .none, (.fields (List.toArray [(.int 9 0), (.int 4 0), (.ref 47)])), (List.toArray [])⟩
noncomputable abbrev o_40_0 (_ : Params) : Obj := ⟨(.type "code"), .none, (.fields (List.toArray [(.str "Die" 220), (.str "Die" 221), (.str "/claim/cut.py" 222), (.int 7 0), (.int 0 0), (.int 0 0), (.int 0 0), (.int 0 0), (.ref 38), (.bool Bool.false), (.int 181 0), (.ref 39), PySem.Value.none, PySem.Value.none, PySem.Value.none, PySem.Value.none, (.int 223 0), (.int 7 0), (.str "/claim/cut.py" 224)])), (List.toArray [])⟩
noncomputable abbrev o_41_0 (_ : Params) : Obj := ⟨(.type "frame"), .none, PySem.Data.plain, (List.toArray [(.some (.ref 40)), (.some (.ref 3)), (.some (.ref 37)), .none, (.some (.str "perlcore.errors" 187)), .none, (.some (.ref 0))])⟩
noncomputable abbrev o_42_0 (_ : Params) : Obj := ⟨(.type "tuple"), .none, (.seq (List.toArray []) 0), (List.toArray [])⟩
noncomputable abbrev o_43_0 (_ : Params) : Obj := ⟨PySem.Value.none, .none, (.fields (List.toArray [])), (List.toArray [])⟩
noncomputable abbrev o_44_0 (_ : Params) : Obj := ⟨(.type "tuple"), .none, (.seq (List.toArray [(.str "self" 233), (.str "value" 234)]) 0), (List.toArray [])⟩
noncomputable abbrev o_45_0 (_ : Params) : Obj := ⟨(.type "tuple"), .none, (.seq (List.toArray []) 0), (List.toArray [])⟩
noncomputable abbrev o_46_0 (_ : Params) : Obj := ⟨PySem.Value.none, .none, (.func ⟨"__init__", "Die.__init__", (fA (inAt 2 0)), (.stmts (fB (inAt 2 0))), (fS (inAt 2 0)), 0, [], PySem.Value.none, PySem.Value.none, PySem.Value.none, PySem.Value.none, .none, PySem.Value.none, PySem.Value.none, 0⟩), (List.toArray [])⟩
noncomputable abbrev o_47_0 (_ : Params) : Obj := ⟨(.type "code"), .none, (.fields (List.toArray [(.str "__init__" 230), (.str "Die.__init__" 231), (.str "/claim/cut.py" 232), (.int 9 0), (.int 2 0), (.int 0 0), (.int 0 0), (.int 3 0), (.ref 42), (.bool Bool.true), (.int 181 0), (.ref 43), PySem.Value.none, (.ref 44), (.ref 45), (.ref 46), (.int 235 0), (.int 9 0), (.str "/claim/cut.py" 236)])), (List.toArray [])⟩
noncomputable abbrev o_48_0 (_ : Params) : Obj := ⟨(.type "function"), .none, (.func ⟨"__init__", "Die.__init__", (fA (inAt 2 0)), (.stmts (fB (inAt 2 0))), (fS (inAt 2 0)), 3, [], PySem.Value.none, PySem.Value.none, PySem.Value.none, (.str "perlcore.errors" 187), .none, (.ref 47), PySem.Value.none, 0⟩), (List.toArray [])⟩
noncomputable abbrev o_49_0 (_ : Params) : Obj := ⟨(.type "tuple"), .none, (.seq (List.toArray [(.str "value" 238)]) 0), (List.toArray [])⟩
noncomputable abbrev o_50_0 (P : Params) : Obj := ⟨(.type "dict"), .none, (.dict (List.toArray [⟨(PySem.PyData.keyHash P "__module__"), (.str "__module__" 225), (.str "perlcore.errors" 187)⟩, ⟨(PySem.PyData.keyHash P "__firstlineno__"), (.str "__firstlineno__" 229), (.int 7 228)⟩, ⟨(PySem.PyData.keyHash P "__init__"), (.str "__init__" 237), (.ref 48)⟩, ⟨(PySem.PyData.keyHash P "__static_attributes__"), (.str "__static_attributes__" 239), (.ref 49)⟩, ⟨(PySem.PyData.keyHash P "__doc__"), (.str "__doc__" 240), PySem.Value.none⟩]) 2), (List.toArray [])⟩
noncomputable abbrev o_51_0 (_ : Params) : Obj := ⟨(.type "type"), .none, (.cls ⟨"Die", [(.ref 31)], [(.ref 51), (.ref 31), (.type "Exception"), (.type "BaseException"), (.type "object")], 50, "Die", Bool.true, [], [], Bool.false, .none, Bool.false⟩), (List.toArray [(.some (.ref 35)), .none, (.some (.str "Die" 218)), (.some (.str "Die" 226)), (.some (.builtin "Exception.__new__")), (.some (.bool Bool.true))])⟩
noncomputable abbrev o_52_0 (_ : Params) : Obj := ⟨(.type "super"), .none, (.fields (List.toArray [(.ref 51), (.ref 51), (.ref 51)])), (List.toArray [])⟩
noncomputable abbrev o_53_0 (_ : Params) : Obj := ⟨(.type "builtin_function_or_method"), .none, (.fields (List.toArray [(.builtin "object.__init_subclass__"), (.ref 51)])), (List.toArray [])⟩
noncomputable abbrev o_54_0 (_ : Params) : Obj := ⟨(.type "tuple"), .none, (.seq (List.toArray []) 0), (List.toArray [])⟩
noncomputable abbrev o_55_0 (_ : Params) : Obj := ⟨PySem.Value.none, .none, (.fields (List.toArray [])), (List.toArray [])⟩
noncomputable abbrev o_56_0 (_ : Params) : Obj := ⟨(.type "tuple"), .none, (.seq (List.toArray [(.str "n" 252), (.str "width" 253)]) 0), (List.toArray [])⟩
noncomputable abbrev o_57_0 (_ : Params) : Obj := ⟨(.type "tuple"), .none, (.seq (List.toArray []) 0), (List.toArray [])⟩
noncomputable abbrev o_58_0 (_ : Params) : Obj := ⟨PySem.Value.none, .none, (.func ⟨"wrap_number", "wrap_number", (fA (topAt 6)), (.stmts (fB (topAt 6))), (fS (topAt 6)), 0, [], PySem.Value.none, PySem.Value.none, PySem.Value.none, PySem.Value.none, .none, PySem.Value.none, PySem.Value.none, 0⟩), (List.toArray [])⟩
noncomputable abbrev o_59_0 (_ : Params) : Obj := ⟨(.type "code"), .none, (.fields (List.toArray [(.str "wrap_number" 249), (.str "wrap_number" 250), (.str "/claim/cut.py" 251), (.int 15 0), (.int 2 0), (.int 0 0), (.int 0 0), (.int 3 0), (.ref 54), (.bool Bool.true), (.int 181 0), (.ref 55), PySem.Value.none, (.ref 56), (.ref 57), (.ref 58), (.int 254 0), (.int 15 0), (.str "/claim/cut.py" 255)])), (List.toArray [])⟩
noncomputable abbrev o_60_0 (_ : Params) : Obj := ⟨(.type "function"), .none, (.func ⟨"wrap_number", "wrap_number", (fA (topAt 6)), (.stmts (fB (topAt 6))), (fS (topAt 6)), 3, [], PySem.Value.none, PySem.Value.none, PySem.Value.none, (.str "perlcore.numbers" 243), .none, (.ref 59), PySem.Value.none, 0⟩), (List.toArray [])⟩
noncomputable abbrev o_61_0 (_ : Params) : Obj := ⟨(.type "tuple"), .none, (.seq (List.toArray []) 0), (List.toArray [])⟩
noncomputable abbrev o_62_0 (_ : Params) : Obj := ⟨PySem.Value.none, .none, (.fields (List.toArray [])), (List.toArray [])⟩
noncomputable abbrev o_63_0 (_ : Params) : Obj := ⟨(.type "tuple"), .none, (.seq (List.toArray [(.str "x" 260), (.str "y" 261), (.str "width" 262)]) 0), (List.toArray [])⟩
noncomputable abbrev o_64_0 (_ : Params) : Obj := ⟨(.type "tuple"), .none, (.seq (List.toArray []) 0), (List.toArray [])⟩
noncomputable abbrev o_65_0 (_ : Params) : Obj := ⟨PySem.Value.none, .none, (.func ⟨"add_numbers", "add_numbers", (fA (topAt 7)), (.stmts (fB (topAt 7))), (fS (topAt 7)), 0, [], PySem.Value.none, PySem.Value.none, PySem.Value.none, PySem.Value.none, .none, PySem.Value.none, PySem.Value.none, 0⟩), (List.toArray [])⟩
noncomputable abbrev o_66_0 (_ : Params) : Obj := ⟨(.type "code"), .none, (.fields (List.toArray [(.str "add_numbers" 257), (.str "add_numbers" 258), (.str "/claim/cut.py" 259), (.int 20 0), (.int 3 0), (.int 0 0), (.int 0 0), (.int 3 0), (.ref 61), (.bool Bool.true), (.int 181 0), (.ref 62), PySem.Value.none, (.ref 63), (.ref 64), (.ref 65), (.int 263 0), (.int 20 0), (.str "/claim/cut.py" 264)])), (List.toArray [])⟩
noncomputable abbrev o_67_0 (_ : Params) : Obj := ⟨(.type "function"), .none, (.func ⟨"add_numbers", "add_numbers", (fA (topAt 7)), (.stmts (fB (topAt 7))), (fS (topAt 7)), 3, [], PySem.Value.none, PySem.Value.none, PySem.Value.none, (.str "perlcore.numbers" 243), .none, (.ref 66), PySem.Value.none, 0⟩), (List.toArray [])⟩
noncomputable abbrev o_68_0 (_ : Params) : Obj := ⟨(.type "tuple"), .none, (.seq (List.toArray []) 0), (List.toArray [])⟩
noncomputable abbrev o_69_0 (_ : Params) : Obj := ⟨PySem.Value.none, .none, (.fields (List.toArray [])), (List.toArray [])⟩
noncomputable abbrev o_70_0 (_ : Params) : Obj := ⟨(.type "tuple"), .none, (.seq (List.toArray [(.str "x" 269), (.str "y" 270), (.str "width" 271)]) 0), (List.toArray [])⟩
noncomputable abbrev o_71_0 (_ : Params) : Obj := ⟨(.type "tuple"), .none, (.seq (List.toArray []) 0), (List.toArray [])⟩
noncomputable abbrev o_72_0 (_ : Params) : Obj := ⟨PySem.Value.none, .none, (.func ⟨"sub_numbers", "sub_numbers", (fA (topAt 8)), (.stmts (fB (topAt 8))), (fS (topAt 8)), 0, [], PySem.Value.none, PySem.Value.none, PySem.Value.none, PySem.Value.none, .none, PySem.Value.none, PySem.Value.none, 0⟩), (List.toArray [])⟩
noncomputable abbrev o_73_0 (_ : Params) : Obj := ⟨(.type "code"), .none, (.fields (List.toArray [(.str "sub_numbers" 266), (.str "sub_numbers" 267), (.str "/claim/cut.py" 268), (.int 22 0), (.int 3 0), (.int 0 0), (.int 0 0), (.int 3 0), (.ref 68), (.bool Bool.true), (.int 181 0), (.ref 69), PySem.Value.none, (.ref 70), (.ref 71), (.ref 72), (.int 272 0), (.int 22 0), (.str "/claim/cut.py" 273)])), (List.toArray [])⟩
noncomputable abbrev o_74_0 (_ : Params) : Obj := ⟨(.type "function"), .none, (.func ⟨"sub_numbers", "sub_numbers", (fA (topAt 8)), (.stmts (fB (topAt 8))), (fS (topAt 8)), 3, [], PySem.Value.none, PySem.Value.none, PySem.Value.none, (.str "perlcore.numbers" 243), .none, (.ref 73), PySem.Value.none, 0⟩), (List.toArray [])⟩
noncomputable abbrev o_75_0 (_ : Params) : Obj := ⟨(.type "tuple"), .none, (.seq (List.toArray []) 0), (List.toArray [])⟩
noncomputable abbrev o_76_0 (_ : Params) : Obj := ⟨PySem.Value.none, .none, (.fields (List.toArray [])), (List.toArray [])⟩
noncomputable abbrev o_77_0 (_ : Params) : Obj := ⟨(.type "tuple"), .none, (.seq (List.toArray [(.str "x" 278), (.str "y" 279), (.str "width" 280)]) 0), (List.toArray [])⟩
noncomputable abbrev o_78_0 (_ : Params) : Obj := ⟨(.type "tuple"), .none, (.seq (List.toArray []) 0), (List.toArray [])⟩
noncomputable abbrev o_79_0 (_ : Params) : Obj := ⟨PySem.Value.none, .none, (.func ⟨"mul_numbers", "mul_numbers", (fA (topAt 9)), (.stmts (fB (topAt 9))), (fS (topAt 9)), 0, [], PySem.Value.none, PySem.Value.none, PySem.Value.none, PySem.Value.none, .none, PySem.Value.none, PySem.Value.none, 0⟩), (List.toArray [])⟩
noncomputable abbrev o_80_0 (_ : Params) : Obj := ⟨(.type "code"), .none, (.fields (List.toArray [(.str "mul_numbers" 275), (.str "mul_numbers" 276), (.str "/claim/cut.py" 277), (.int 24 0), (.int 3 0), (.int 0 0), (.int 0 0), (.int 3 0), (.ref 75), (.bool Bool.true), (.int 181 0), (.ref 76), PySem.Value.none, (.ref 77), (.ref 78), (.ref 79), (.int 281 0), (.int 24 0), (.str "/claim/cut.py" 282)])), (List.toArray [])⟩
noncomputable abbrev o_81_0 (_ : Params) : Obj := ⟨(.type "function"), .none, (.func ⟨"mul_numbers", "mul_numbers", (fA (topAt 9)), (.stmts (fB (topAt 9))), (fS (topAt 9)), 3, [], PySem.Value.none, PySem.Value.none, PySem.Value.none, (.str "perlcore.numbers" 243), .none, (.ref 80), PySem.Value.none, 0⟩), (List.toArray [])⟩
noncomputable abbrev o_82_0 (_ : Params) : Obj := ⟨(.type "tuple"), .none, (.seq (List.toArray []) 0), (List.toArray [])⟩
noncomputable abbrev o_83_0 (_ : Params) : Obj := ⟨PySem.Value.none, .none, (.fields (List.toArray [])), (List.toArray [])⟩
noncomputable abbrev o_84_0 (_ : Params) : Obj := ⟨(.type "tuple"), .none, (.seq (List.toArray [(.str "x" 287), (.str "y" 288), (.str "q" 289)]) 0), (List.toArray [])⟩
noncomputable abbrev o_85_0 (_ : Params) : Obj := ⟨(.type "tuple"), .none, (.seq (List.toArray []) 0), (List.toArray [])⟩
noncomputable abbrev o_86_0 (_ : Params) : Obj := ⟨PySem.Value.none, .none, (.func ⟨"cut_quotient", "cut_quotient", (fA (topAt 10)), (.stmts (fB (topAt 10))), (fS (topAt 10)), 0, [], PySem.Value.none, PySem.Value.none, PySem.Value.none, PySem.Value.none, .none, PySem.Value.none, PySem.Value.none, 0⟩), (List.toArray [])⟩
noncomputable abbrev o_87_0 (_ : Params) : Obj := ⟨(.type "code"), .none, (.fields (List.toArray [(.str "cut_quotient" 284), (.str "cut_quotient" 285), (.str "/claim/cut.py" 286), (.int 26 0), (.int 2 0), (.int 0 0), (.int 0 0), (.int 3 0), (.ref 82), (.bool Bool.true), (.int 181 0), (.ref 83), PySem.Value.none, (.ref 84), (.ref 85), (.ref 86), (.int 290 0), (.int 26 0), (.str "/claim/cut.py" 291)])), (List.toArray [])⟩
noncomputable abbrev o_88_0 (_ : Params) : Obj := ⟨(.type "function"), .none, (.func ⟨"cut_quotient", "cut_quotient", (fA (topAt 10)), (.stmts (fB (topAt 10))), (fS (topAt 10)), 3, [], PySem.Value.none, PySem.Value.none, PySem.Value.none, (.str "perlcore.numbers" 243), .none, (.ref 87), PySem.Value.none, 0⟩), (List.toArray [])⟩
noncomputable abbrev o_3_3 (P : Params) : Obj := ⟨(.type "dict"), .none, (.dict (List.toArray [⟨(PySem.PyData.keyHash P "__name__"), (.str "__name__" 165), (.str "perlcore.values" 351)⟩, ⟨(PySem.PyData.keyHash P "__doc__"), (.str "__doc__" 166), PySem.Value.none⟩, ⟨(PySem.PyData.keyHash P "__package__"), (.str "__package__" 167), PySem.Value.none⟩, ⟨(PySem.PyData.keyHash P "__loader__"), (.str "__loader__" 168), (.builtin "__main__.__loader__#opaque")⟩, ⟨(PySem.PyData.keyHash P "__spec__"), (.str "__spec__" 169), PySem.Value.none⟩, ⟨(PySem.PyData.keyHash P "__annotations__"), (.str "__annotations__" 170), (.ref 6)⟩, ⟨(PySem.PyData.keyHash P "__builtins__"), (.str "__builtins__" 171), (.ref 4)⟩, ⟨(PySem.PyData.keyHash P "__file__"), (.str "__file__" 173), (.str "/claim/cut.py" 172)⟩, ⟨(PySem.PyData.keyHash P "__cached__"), (.str "__cached__" 174), PySem.Value.none⟩, ⟨(PySem.PyData.keyHash P "PerlError"), (.str "PerlError" 217), (.ref 31)⟩, ⟨(PySem.PyData.keyHash P "Die"), (.str "Die" 242), (.ref 51)⟩, ⟨(PySem.PyData.keyHash P "FIGURES"), (.str "FIGURES" 246), (.str "0123456789" 245)⟩, ⟨(PySem.PyData.keyHash P "SPACES"), (.str "SPACES" 248), (.str " \t\n\x0d\x0c\x0b" 247)⟩, ⟨(PySem.PyData.keyHash P "wrap_number"), (.str "wrap_number" 256), (.ref 60)⟩, ⟨(PySem.PyData.keyHash P "add_numbers"), (.str "add_numbers" 265), (.ref 67)⟩, ⟨(PySem.PyData.keyHash P "sub_numbers"), (.str "sub_numbers" 274), (.ref 74)⟩, ⟨(PySem.PyData.keyHash P "mul_numbers"), (.str "mul_numbers" 283), (.ref 81)⟩, ⟨(PySem.PyData.keyHash P "cut_quotient"), (.str "cut_quotient" 292), (.ref 88)⟩, ⟨(PySem.PyData.keyHash P "div_numbers"), (.str "div_numbers" 301), (.ref 95)⟩, ⟨(PySem.PyData.keyHash P "mod_numbers"), (.str "mod_numbers" 310), (.ref 102)⟩, ⟨(PySem.PyData.keyHash P "power_numbers"), (.str "power_numbers" 320), (.ref 109)⟩, ⟨(PySem.PyData.keyHash P "number_head"), (.str "number_head" 330), (.ref 116)⟩, ⟨(PySem.PyData.keyHash P "numeric_text"), (.str "numeric_text" 342), (.ref 123)⟩, ⟨(PySem.PyData.keyHash P "number_text"), (.str "number_text" 350), (.ref 130)⟩, ⟨(PySem.PyData.keyHash P "HEX_FIGURES"), (.str "HEX_FIGURES" 354), (.str "0123456789abcdef" 353)⟩, ⟨(PySem.PyData.keyHash P "Thing"), (.str "Thing" 388), (.ref 147)⟩]) 26), (List.toArray [])⟩
noncomputable abbrev o_12_3 (_ : Params) : Obj := ⟨PySem.Value.none, .none, (.fields (List.toArray ((.int 2 0) :: (.int 0 0) :: (.ref 20) :: (.int 7 0) :: (.int 0 0) :: (.ref 40) :: (.int 15 0) :: (.int 0 0) :: (.ref 59) :: (.int 20 0) :: (.int 0 0) :: (.ref 66) :: (.int 22 0) :: (.int 0 0) :: (.ref 73) :: (.int 24 0) :: (.int 0 0) :: (.ref 80) :: (.int 26 0) :: (.int 0 0) :: (.ref 87) :: (.int 31 0) :: (.int 0 0) :: (.ref 94) :: (.int 35 0) :: (.int 0 0) :: (.ref 101) :: (.int 39 0) :: (.int 0 0) :: (.ref 108) :: (.int 51 0) :: (.int 0 0) :: (.ref 115) :: (.int 64 0) :: (.int 0 0) :: (.ref 122) :: (.int 73 0) :: (.int 0 0) :: (.ref 129) :: (.int 83 0) :: (.int 0 0) :: (.ref 136) :: []))), (List.toArray [])⟩
noncomputable abbrev o_89_0 (_ : Params) : Obj := ⟨(.type "tuple"), .none, (.seq (List.toArray []) 0), (List.toArray [])⟩
noncomputable abbrev o_90_0 (_ : Params) : Obj := ⟨PySem.Value.none, .none, (.fields (List.toArray [])), (List.toArray [])⟩
noncomputable abbrev o_91_0 (_ : Params) : Obj := ⟨(.type "tuple"), .none, (.seq (List.toArray [(.str "x" 296), (.str "y" 297), (.str "width" 298)]) 0), (List.toArray [])⟩
noncomputable abbrev o_92_0 (_ : Params) : Obj := ⟨(.type "tuple"), .none, (.seq (List.toArray []) 0), (List.toArray [])⟩
noncomputable abbrev o_93_0 (_ : Params) : Obj := ⟨PySem.Value.none, .none, (.func ⟨"div_numbers", "div_numbers", (fA (topAt 11)), (.stmts (fB (topAt 11))), (fS (topAt 11)), 0, [], PySem.Value.none, PySem.Value.none, PySem.Value.none, PySem.Value.none, .none, PySem.Value.none, PySem.Value.none, 0⟩), (List.toArray [])⟩
noncomputable abbrev o_94_0 (_ : Params) : Obj := ⟨(.type "code"), .none, (.fields (List.toArray [(.str "div_numbers" 293), (.str "div_numbers" 294), (.str "/claim/cut.py" 295), (.int 31 0), (.int 3 0), (.int 0 0), (.int 0 0), (.int 3 0), (.ref 89), (.bool Bool.true), (.int 181 0), (.ref 90), PySem.Value.none, (.ref 91), (.ref 92), (.ref 93), (.int 299 0), (.int 31 0), (.str "/claim/cut.py" 300)])), (List.toArray [])⟩
noncomputable abbrev o_95_0 (_ : Params) : Obj := ⟨(.type "function"), .none, (.func ⟨"div_numbers", "div_numbers", (fA (topAt 11)), (.stmts (fB (topAt 11))), (fS (topAt 11)), 3, [], PySem.Value.none, PySem.Value.none, PySem.Value.none, (.str "perlcore.numbers" 243), .none, (.ref 94), PySem.Value.none, 0⟩), (List.toArray [])⟩
noncomputable abbrev o_96_0 (_ : Params) : Obj := ⟨(.type "tuple"), .none, (.seq (List.toArray []) 0), (List.toArray [])⟩
noncomputable abbrev o_97_0 (_ : Params) : Obj := ⟨PySem.Value.none, .none, (.fields (List.toArray [])), (List.toArray [])⟩
noncomputable abbrev o_98_0 (_ : Params) : Obj := ⟨(.type "tuple"), .none, (.seq (List.toArray [(.str "x" 305), (.str "y" 306), (.str "width" 307)]) 0), (List.toArray [])⟩
noncomputable abbrev o_99_0 (_ : Params) : Obj := ⟨(.type "tuple"), .none, (.seq (List.toArray []) 0), (List.toArray [])⟩
noncomputable abbrev o_100_0 (_ : Params) : Obj := ⟨PySem.Value.none, .none, (.func ⟨"mod_numbers", "mod_numbers", (fA (topAt 12)), (.stmts (fB (topAt 12))), (fS (topAt 12)), 0, [], PySem.Value.none, PySem.Value.none, PySem.Value.none, PySem.Value.none, .none, PySem.Value.none, PySem.Value.none, 0⟩), (List.toArray [])⟩
noncomputable abbrev o_101_0 (_ : Params) : Obj := ⟨(.type "code"), .none, (.fields (List.toArray [(.str "mod_numbers" 302), (.str "mod_numbers" 303), (.str "/claim/cut.py" 304), (.int 35 0), (.int 3 0), (.int 0 0), (.int 0 0), (.int 3 0), (.ref 96), (.bool Bool.true), (.int 181 0), (.ref 97), PySem.Value.none, (.ref 98), (.ref 99), (.ref 100), (.int 308 0), (.int 35 0), (.str "/claim/cut.py" 309)])), (List.toArray [])⟩
noncomputable abbrev o_102_0 (_ : Params) : Obj := ⟨(.type "function"), .none, (.func ⟨"mod_numbers", "mod_numbers", (fA (topAt 12)), (.stmts (fB (topAt 12))), (fS (topAt 12)), 3, [], PySem.Value.none, PySem.Value.none, PySem.Value.none, (.str "perlcore.numbers" 243), .none, (.ref 101), PySem.Value.none, 0⟩), (List.toArray [])⟩
noncomputable abbrev o_103_0 (_ : Params) : Obj := ⟨(.type "tuple"), .none, (.seq (List.toArray []) 0), (List.toArray [])⟩
noncomputable abbrev o_104_0 (_ : Params) : Obj := ⟨PySem.Value.none, .none, (.fields (List.toArray [])), (List.toArray [])⟩
noncomputable abbrev o_105_0 (_ : Params) : Obj := ⟨(.type "tuple"), .none, (.seq (List.toArray [(.str "x" 314), (.str "n" 315), (.str "width" 316), (.str "result" 317)]) 0), (List.toArray [])⟩
noncomputable abbrev o_106_0 (_ : Params) : Obj := ⟨(.type "tuple"), .none, (.seq (List.toArray []) 0), (List.toArray [])⟩
noncomputable abbrev o_107_0 (_ : Params) : Obj := ⟨PySem.Value.none, .none, (.func ⟨"power_numbers", "power_numbers", (fA (topAt 13)), (.stmts (fB (topAt 13))), (fS (topAt 13)), 0, [], PySem.Value.none, PySem.Value.none, PySem.Value.none, PySem.Value.none, .none, PySem.Value.none, PySem.Value.none, 0⟩), (List.toArray [])⟩
noncomputable abbrev o_108_0 (_ : Params) : Obj := ⟨(.type "code"), .none, (.fields (List.toArray [(.str "power_numbers" 311), (.str "power_numbers" 312), (.str "/claim/cut.py" 313), (.int 39 0), (.int 3 0), (.int 0 0), (.int 0 0), (.int 3 0), (.ref 103), (.bool Bool.true), (.int 181 0), (.ref 104), PySem.Value.none, (.ref 105), (.ref 106), (.ref 107), (.int 318 0), (.int 39 0), (.str "/claim/cut.py" 319)])), (List.toArray [])⟩
noncomputable abbrev o_109_0 (_ : Params) : Obj := ⟨(.type "function"), .none, (.func ⟨"power_numbers", "power_numbers", (fA (topAt 13)), (.stmts (fB (topAt 13))), (fS (topAt 13)), 3, [], PySem.Value.none, PySem.Value.none, PySem.Value.none, (.str "perlcore.numbers" 243), .none, (.ref 108), PySem.Value.none, 0⟩), (List.toArray [])⟩
noncomputable abbrev o_110_0 (_ : Params) : Obj := ⟨(.type "tuple"), .none, (.seq (List.toArray []) 0), (List.toArray [])⟩
noncomputable abbrev o_111_0 (_ : Params) : Obj := ⟨PySem.Value.none, .none, (.fields (List.toArray [])), (List.toArray [])⟩
noncomputable abbrev o_112_0 (_ : Params) : Obj := ⟨(.type "tuple"), .none, (.seq (List.toArray [(.str "text" 324), (.str "at" 325), (.str "end" 326), (.str "first" 327)]) 0), (List.toArray [])⟩
noncomputable abbrev o_113_0 (_ : Params) : Obj := ⟨(.type "tuple"), .none, (.seq (List.toArray []) 0), (List.toArray [])⟩
noncomputable abbrev o_114_0 (_ : Params) : Obj := ⟨PySem.Value.none, .none, (.func ⟨"number_head", "number_head", (fA (topAt 14)), (.stmts (fB (topAt 14))), (fS (topAt 14)), 0, [], PySem.Value.none, PySem.Value.none, PySem.Value.none, PySem.Value.none, .none, PySem.Value.none, PySem.Value.none, 0⟩), (List.toArray [])⟩
noncomputable abbrev o_115_0 (_ : Params) : Obj := ⟨(.type "code"), .none, (.fields (List.toArray [(.str "number_head" 321), (.str "number_head" 322), (.str "/claim/cut.py" 323), (.int 51 0), (.int 1 0), (.int 0 0), (.int 0 0), (.int 3 0), (.ref 110), (.bool Bool.true), (.int 181 0), (.ref 111), PySem.Value.none, (.ref 112), (.ref 113), (.ref 114), (.int 328 0), (.int 51 0), (.str "/claim/cut.py" 329)])), (List.toArray [])⟩
noncomputable abbrev o_116_0 (_ : Params) : Obj := ⟨(.type "function"), .none, (.func ⟨"number_head", "number_head", (fA (topAt 14)), (.stmts (fB (topAt 14))), (fS (topAt 14)), 3, [], PySem.Value.none, PySem.Value.none, PySem.Value.none, (.str "perlcore.numbers" 243), .none, (.ref 115), PySem.Value.none, 0⟩), (List.toArray [])⟩
noncomputable abbrev o_117_0 (_ : Params) : Obj := ⟨(.type "tuple"), .none, (.seq (List.toArray []) 0), (List.toArray [])⟩
noncomputable abbrev o_118_0 (_ : Params) : Obj := ⟨PySem.Value.none, .none, (.fields (List.toArray [])), (List.toArray [])⟩
noncomputable abbrev o_119_0 (_ : Params) : Obj := ⟨(.type "tuple"), .none, (.seq (List.toArray [(.str "text" 334), (.str "width" 335), (.str "at" 336), (.str "end" 337), (.str "n" 338), (.str "sign" 339)]) 0), (List.toArray [])⟩
noncomputable abbrev o_120_0 (_ : Params) : Obj := ⟨(.type "tuple"), .none, (.seq (List.toArray []) 0), (List.toArray [])⟩
noncomputable abbrev o_121_0 (_ : Params) : Obj := ⟨PySem.Value.none, .none, (.func ⟨"numeric_text", "numeric_text", (fA (topAt 15)), (.stmts (fB (topAt 15))), (fS (topAt 15)), 0, [], PySem.Value.none, PySem.Value.none, PySem.Value.none, PySem.Value.none, .none, PySem.Value.none, PySem.Value.none, 0⟩), (List.toArray [])⟩
noncomputable abbrev o_122_0 (_ : Params) : Obj := ⟨(.type "code"), .none, (.fields (List.toArray [(.str "numeric_text" 331), (.str "numeric_text" 332), (.str "/claim/cut.py" 333), (.int 64 0), (.int 2 0), (.int 0 0), (.int 0 0), (.int 3 0), (.ref 117), (.bool Bool.true), (.int 181 0), (.ref 118), PySem.Value.none, (.ref 119), (.ref 120), (.ref 121), (.int 340 0), (.int 64 0), (.str "/claim/cut.py" 341)])), (List.toArray [])⟩
noncomputable abbrev o_123_0 (_ : Params) : Obj := ⟨(.type "function"), .none, (.func ⟨"numeric_text", "numeric_text", (fA (topAt 15)), (.stmts (fB (topAt 15))), (fS (topAt 15)), 3, [], PySem.Value.none, PySem.Value.none, PySem.Value.none, (.str "perlcore.numbers" 243), .none, (.ref 122), PySem.Value.none, 0⟩), (List.toArray [])⟩
noncomputable abbrev o_124_0 (_ : Params) : Obj := ⟨(.type "tuple"), .none, (.seq (List.toArray []) 0), (List.toArray [])⟩
noncomputable abbrev o_125_0 (_ : Params) : Obj := ⟨PySem.Value.none, .none, (.fields (List.toArray [])), (List.toArray [])⟩
noncomputable abbrev o_126_0 (_ : Params) : Obj := ⟨(.type "tuple"), .none, (.seq (List.toArray [(.str "n" 346), (.str "text" 347)]) 0), (List.toArray [])⟩
noncomputable abbrev o_127_0 (_ : Params) : Obj := ⟨(.type "tuple"), .none, (.seq (List.toArray []) 0), (List.toArray [])⟩
noncomputable abbrev o_128_0 (_ : Params) : Obj := ⟨PySem.Value.none, .none, (.func ⟨"number_text", "number_text", (fA (topAt 16)), (.stmts (fB (topAt 16))), (fS (topAt 16)), 0, [], PySem.Value.none, PySem.Value.none, PySem.Value.none, PySem.Value.none, .none, PySem.Value.none, PySem.Value.none, 0⟩), (List.toArray [])⟩
noncomputable abbrev o_129_0 (_ : Params) : Obj := ⟨(.type "code"), .none, (.fields (List.toArray [(.str "number_text" 343), (.str "number_text" 344), (.str "/claim/cut.py" 345), (.int 73 0), (.int 1 0), (.int 0 0), (.int 0 0), (.int 3 0), (.ref 124), (.bool Bool.true), (.int 181 0), (.ref 125), PySem.Value.none, (.ref 126), (.ref 127), (.ref 128), (.int 348 0), (.int 73 0), (.str "/claim/cut.py" 349)])), (List.toArray [])⟩
noncomputable abbrev o_130_0 (_ : Params) : Obj := ⟨(.type "function"), .none, (.func ⟨"number_text", "number_text", (fA (topAt 16)), (.stmts (fB (topAt 16))), (fS (topAt 16)), 3, [], PySem.Value.none, PySem.Value.none, PySem.Value.none, (.str "perlcore.numbers" 243), .none, (.ref 129), PySem.Value.none, 0⟩), (List.toArray [])⟩
noncomputable abbrev o_131_0 (_ : Params) : Obj := ⟨(.type "tuple"), .none, (.seq (List.toArray []) 0), (List.toArray [])⟩
noncomputable abbrev o_132_0 (_ : Params) : Obj := ⟨(.type "builtin_function_or_method"), .none, (.fields (List.toArray [(.builtin "type.__prepare__"), (.type "type")])), (List.toArray [])⟩
noncomputable abbrev o_133_0 (P : Params) : Obj := ⟨(.type "dict"), .none, (.dict (List.toArray [⟨(PySem.PyData.keyHash P "__module__"), (.str "__module__" 362), (.str "perlcore.values" 351)⟩, ⟨(PySem.PyData.keyHash P "__qualname__"), (.str "__qualname__" 364), (.str "Thing" 363)⟩, ⟨(PySem.PyData.keyHash P "__firstlineno__"), (.str "__firstlineno__" 366), (.int 83 365)⟩, ⟨(PySem.PyData.keyHash P "__init__"), (.str "__init__" 374), (.ref 144)⟩, ⟨(PySem.PyData.keyHash P "__static_attributes__"), (.str "__static_attributes__" 381), (.ref 145)⟩]) 5), (List.toArray [])⟩
noncomputable abbrev o_134_0 (_ : Params) : Obj := ⟨(.type "tuple"), .none, (.seq (List.toArray []) 0), (List.toArray [])⟩
noncomputable abbrev o_135_0 (_ : Params) : Obj := ⟨PySem.Value.none, .none, (.fields (List.toArray [(.int 85 0), (.int 4 0), (.ref 143)])), (List.toArray [])⟩
noncomputable abbrev o_136_0 (_ : Params) : Obj := ⟨(.type "code"), .none, (.fields (List.toArray [(.str "Thing" 357), (.str "Thing" 358), (.str "/claim/cut.py" 359), (.int 83 0), (.int 0 0), (.int 0 0), (.int 0 0), (.int 0 0), (.ref 134), (.bool Bool.false), (.int 181 0), (.ref 135), PySem.Value.none, PySem.Value.none, PySem.Value.none, PySem.Value.none, (.int 360 0), (.int 83 0), (.str "/claim/cut.py" 361)])), (List.toArray [])⟩
noncomputable abbrev o_137_0 (_ : Params) : Obj := ⟨(.type "frame"), .none, PySem.Data.plain, (List.toArray [(.some (.ref 136)), (.some (.ref 3)), (.some (.ref 133)), .none, (.some (.str "perlcore.values" 351)), .none, (.some (.ref 0))])⟩
noncomputable abbrev o_138_0 (_ : Params) : Obj := ⟨(.type "tuple"), .none, (.seq (List.toArray []) 0), (List.toArray [])⟩
noncomputable abbrev o_139_0 (_ : Params) : Obj := ⟨PySem.Value.none, .none, (.fields (List.toArray [])), (List.toArray [])⟩
noncomputable abbrev o_140_0 (_ : Params) : Obj := ⟨(.type "tuple"), .none, (.seq (List.toArray [(.str "self" 370), (.str "number" 371)]) 0), (List.toArray [])⟩
noncomputable abbrev o_141_0 (_ : Params) : Obj := ⟨(.type "tuple"), .none, (.seq (List.toArray []) 0), (List.toArray [])⟩
noncomputable abbrev o_142_0 (_ : Params) : Obj := ⟨PySem.Value.none, .none, (.func ⟨"__init__", "Thing.__init__", (fA (inAt 19 0)), (.stmts (fB (inAt 19 0))), (fS (inAt 19 0)), 0, [], PySem.Value.none, PySem.Value.none, PySem.Value.none, PySem.Value.none, .none, PySem.Value.none, PySem.Value.none, 0⟩), (List.toArray [])⟩
noncomputable abbrev o_143_0 (_ : Params) : Obj := ⟨(.type "code"), .none, (.fields (List.toArray [(.str "__init__" 367), (.str "Thing.__init__" 368), (.str "/claim/cut.py" 369), (.int 85 0), (.int 2 0), (.int 0 0), (.int 0 0), (.int 3 0), (.ref 138), (.bool Bool.true), (.int 181 0), (.ref 139), PySem.Value.none, (.ref 140), (.ref 141), (.ref 142), (.int 372 0), (.int 85 0), (.str "/claim/cut.py" 373)])), (List.toArray [])⟩
noncomputable abbrev o_144_0 (_ : Params) : Obj := ⟨(.type "function"), .none, (.func ⟨"__init__", "Thing.__init__", (fA (inAt 19 0)), (.stmts (fB (inAt 19 0))), (fS (inAt 19 0)), 3, [], PySem.Value.none, PySem.Value.none, PySem.Value.none, (.str "perlcore.values" 351), .none, (.ref 143), PySem.Value.none, 0⟩), (List.toArray [])⟩
noncomputable abbrev o_145_0 (_ : Params) : Obj := ⟨(.type "tuple"), .none, (.seq (List.toArray [(.str "blessed" 375), (.str "count" 376), (.str "is_destroyed" 377), (.str "is_freed" 378), (.str "number" 379), (.str "weak" 380)]) 0), (List.toArray [])⟩
noncomputable abbrev o_146_0 (P : Params) : Obj := ⟨(.type "dict"), .none, (.dict (List.toArray [⟨(PySem.PyData.keyHash P "__module__"), (.str "__module__" 362), (.str "perlcore.values" 351)⟩, ⟨(PySem.PyData.keyHash P "__firstlineno__"), (.str "__firstlineno__" 366), (.int 83 365)⟩, ⟨(PySem.PyData.keyHash P "__init__"), (.str "__init__" 374), (.ref 144)⟩, ⟨(PySem.PyData.keyHash P "__static_attributes__"), (.str "__static_attributes__" 381), (.ref 145)⟩, ⟨(PySem.PyData.keyHash P "__dict__"), (.str "__dict__" 383), (.ref 148)⟩, ⟨(PySem.PyData.keyHash P "__weakref__"), (.str "__weakref__" 385), (.ref 149)⟩, ⟨(PySem.PyData.keyHash P "__doc__"), (.str "__doc__" 386), PySem.Value.none⟩]) 4), (List.toArray [])⟩
noncomputable abbrev o_147_0 (_ : Params) : Obj := ⟨(.type "type"), .none, (.cls ⟨"Thing", [(.type "object")], [(.ref 147), (.type "object")], 146, "Thing", Bool.true, [], [], Bool.false, .none, Bool.false⟩), (List.toArray [.none, .none, (.some (.str "Thing" 355)), (.some (.str "Thing" 363)), (.some (.builtin "object.__new__")), (.some (.bool Bool.true))])⟩
noncomputable abbrev o_148_0 (_ : Params) : Obj := ⟨(.type "getset_descriptor"), .none, (.fields (List.toArray [(.str "__dict__" 382), (.ref 147), (.builtin "function.__dict__"), (.builtin "function.__dict__#set")])), (List.toArray [])⟩
noncomputable abbrev o_149_0 (_ : Params) : Obj := ⟨(.type "getset_descriptor"), .none, (.fields (List.toArray [(.str "__weakref__" 384), (.ref 147), (.builtin "ExceptionGroup.__weakref__"), PySem.Value.none])), (List.toArray [])⟩
noncomputable abbrev o_150_0 (_ : Params) : Obj := ⟨(.type "super"), .none, (.fields (List.toArray [(.ref 147), (.ref 147), (.ref 147)])), (List.toArray [])⟩
noncomputable abbrev o_151_0 (_ : Params) : Obj := ⟨(.type "builtin_function_or_method"), .none, (.fields (List.toArray [(.builtin "object.__init_subclass__"), (.ref 147)])), (List.toArray [])⟩
noncomputable abbrev o_3_4 (P : Params) : Obj := ⟨(.type "dict"), .none, (.dict (List.toArray [⟨(PySem.PyData.keyHash P "__name__"), (.str "__name__" 165), (.str "perlcore.values" 351)⟩, ⟨(PySem.PyData.keyHash P "__doc__"), (.str "__doc__" 166), PySem.Value.none⟩, ⟨(PySem.PyData.keyHash P "__package__"), (.str "__package__" 167), PySem.Value.none⟩, ⟨(PySem.PyData.keyHash P "__loader__"), (.str "__loader__" 168), (.builtin "__main__.__loader__#opaque")⟩, ⟨(PySem.PyData.keyHash P "__spec__"), (.str "__spec__" 169), PySem.Value.none⟩, ⟨(PySem.PyData.keyHash P "__annotations__"), (.str "__annotations__" 170), (.ref 6)⟩, ⟨(PySem.PyData.keyHash P "__builtins__"), (.str "__builtins__" 171), (.ref 4)⟩, ⟨(PySem.PyData.keyHash P "__file__"), (.str "__file__" 173), (.str "/claim/cut.py" 172)⟩, ⟨(PySem.PyData.keyHash P "__cached__"), (.str "__cached__" 174), PySem.Value.none⟩, ⟨(PySem.PyData.keyHash P "PerlError"), (.str "PerlError" 217), (.ref 31)⟩, ⟨(PySem.PyData.keyHash P "Die"), (.str "Die" 242), (.ref 51)⟩, ⟨(PySem.PyData.keyHash P "FIGURES"), (.str "FIGURES" 246), (.str "0123456789" 245)⟩, ⟨(PySem.PyData.keyHash P "SPACES"), (.str "SPACES" 248), (.str " \t\n\x0d\x0c\x0b" 247)⟩, ⟨(PySem.PyData.keyHash P "wrap_number"), (.str "wrap_number" 256), (.ref 60)⟩, ⟨(PySem.PyData.keyHash P "add_numbers"), (.str "add_numbers" 265), (.ref 67)⟩, ⟨(PySem.PyData.keyHash P "sub_numbers"), (.str "sub_numbers" 274), (.ref 74)⟩, ⟨(PySem.PyData.keyHash P "mul_numbers"), (.str "mul_numbers" 283), (.ref 81)⟩, ⟨(PySem.PyData.keyHash P "cut_quotient"), (.str "cut_quotient" 292), (.ref 88)⟩, ⟨(PySem.PyData.keyHash P "div_numbers"), (.str "div_numbers" 301), (.ref 95)⟩, ⟨(PySem.PyData.keyHash P "mod_numbers"), (.str "mod_numbers" 310), (.ref 102)⟩, ⟨(PySem.PyData.keyHash P "power_numbers"), (.str "power_numbers" 320), (.ref 109)⟩, ⟨(PySem.PyData.keyHash P "number_head"), (.str "number_head" 330), (.ref 116)⟩, ⟨(PySem.PyData.keyHash P "numeric_text"), (.str "numeric_text" 342), (.ref 123)⟩, ⟨(PySem.PyData.keyHash P "number_text"), (.str "number_text" 350), (.ref 130)⟩, ⟨(PySem.PyData.keyHash P "HEX_FIGURES"), (.str "HEX_FIGURES" 354), (.str "0123456789abcdef" 353)⟩, ⟨(PySem.PyData.keyHash P "Thing"), (.str "Thing" 388), (.ref 147)⟩, ⟨(PySem.PyData.keyHash P "Scalar"), (.str "Scalar" 415), (.ref 168)⟩]) 27), (List.toArray [])⟩
noncomputable abbrev o_12_4 (_ : Params) : Obj := ⟨PySem.Value.none, .none, (.fields (List.toArray ((.int 2 0) :: (.int 0 0) :: (.ref 20) :: (.int 7 0) :: (.int 0 0) :: (.ref 40) :: (.int 15 0) :: (.int 0 0) :: (.ref 59) :: (.int 20 0) :: (.int 0 0) :: (.ref 66) :: (.int 22 0) :: (.int 0 0) :: (.ref 73) :: (.int 24 0) :: (.int 0 0) :: (.ref 80) :: (.int 26 0) :: (.int 0 0) :: (.ref 87) :: (.int 31 0) :: (.int 0 0) :: (.ref 94) :: (.int 35 0) :: (.int 0 0) :: (.ref 101) :: (.int 39 0) :: (.int 0 0) :: (.ref 108) :: (.int 51 0) :: (.int 0 0) :: (.ref 115) :: (.int 64 0) :: (.int 0 0) :: (.ref 122) :: (.int 73 0) :: (.int 0 0) :: (.ref 129) :: (.int 83 0) :: (.int 0 0) :: (.ref 136) :: (.int 92 0) :: (.int 0 0) :: (.ref 157) :: []))), (List.toArray [])⟩
noncomputable abbrev o_147_1 (_ : Params) : Obj := ⟨(.type "type"), .none, (.cls ⟨"Thing", [(.type "object")], [(.ref 147), (.type "object")], 146, "Thing", Bool.true, [], [(.ref 168)], Bool.false, .none, Bool.false⟩), (List.toArray [.none, .none, (.some (.str "Thing" 355)), (.some (.str "Thing" 363)), (.some (.builtin "object.__new__")), (.some (.bool Bool.true))])⟩
noncomputable abbrev o_152_0 (_ : Params) : Obj := ⟨(.type "tuple"), .none, (.seq (List.toArray [(.ref 147)]) 0), (List.toArray [])⟩
noncomputable abbrev o_153_0 (_ : Params) : Obj := ⟨(.type "builtin_function_or_method"), .none, (.fields (List.toArray [(.builtin "type.__prepare__"), (.type "type")])), (List.toArray [])⟩
noncomputable abbrev o_154_0 (P : Params) : Obj := ⟨(.type "dict"), .none, (.dict (List.toArray [⟨(PySem.PyData.keyHash P "__module__"), (.str "__module__" 396), (.str "perlcore.values" 351)⟩, ⟨(PySem.PyData.keyHash P "__qualname__"), (.str "__qualname__" 398), (.str "Scalar" 397)⟩, ⟨(PySem.PyData.keyHash P "__firstlineno__"), (.str "__firstlineno__" 400), (.int 92 399)⟩, ⟨(PySem.PyData.keyHash P "__init__"), (.str "__init__" 409), (.ref 165)⟩, ⟨(PySem.PyData.keyHash P "__static_attributes__"), (.str "__static_attributes__" 412), (.ref 166)⟩]) 5), (List.toArray [])⟩
noncomputable abbrev o_155_0 (_ : Params) : Obj := ⟨(.type "tuple"), .none, (.seq (List.toArray []) 0), (List.toArray [])⟩
noncomputable abbrev o_156_0 (_ : Params) : Obj := ⟨PySem.Value.none, .none, (.fields (List.toArray [(.int 94 0), (.int 4 0), (.ref 164)])), (List.toArray [])⟩
noncomputable abbrev o_157_0 (_ : Params) : Obj := ⟨(.type "code"), .none, (.fields (List.toArray [(.str "Scalar" 391), (.str "Scalar" 392), (.str "/claim/cut.py" 393), (.int 92 0), (.int 0 0), (.int 0 0), (.int 0 0), (.int 0 0), (.ref 155), (.bool Bool.false), (.int 181 0), (.ref 156), PySem.Value.none, PySem.Value.none, PySem.Value.none, PySem.Value.none, (.int 394 0), (.int 92 0), (.str "/claim/cut.py" 395)])), (List.toArray [])⟩
noncomputable abbrev o_158_0 (_ : Params) : Obj := ⟨(.type "frame"), .none, PySem.Data.plain, (List.toArray [(.some (.ref 157)), (.some (.ref 3)), (.some (.ref 154)), .none, (.some (.str "perlcore.values" 351)), .none, (.some (.ref 0))])⟩
noncomputable abbrev o_159_0 (_ : Params) : Obj := ⟨(.type "tuple"), .none, (.seq (List.toArray []) 0), (List.toArray [])⟩
noncomputable abbrev o_160_0 (_ : Params) : Obj := ⟨PySem.Value.none, .none, (.fields (List.toArray [])), (List.toArray [])⟩
noncomputable abbrev o_161_0 (_ : Params) : Obj := ⟨(.type "tuple"), .none, (.seq (List.toArray [(.str "self" 404), (.str "number" 405), (.str "value" 406)]) 0), (List.toArray [])⟩
noncomputable abbrev o_162_0 (_ : Params) : Obj := ⟨(.type "tuple"), .none, (.seq (List.toArray []) 0), (List.toArray [])⟩
noncomputable abbrev o_163_0 (_ : Params) : Obj := ⟨PySem.Value.none, .none, (.func ⟨"__init__", "Scalar.__init__", (fA (inAt 20 0)), (.stmts (fB (inAt 20 0))), (fS (inAt 20 0)), 0, [], PySem.Value.none, PySem.Value.none, PySem.Value.none, PySem.Value.none, .none, PySem.Value.none, PySem.Value.none, 0⟩), (List.toArray [])⟩
noncomputable abbrev o_164_0 (_ : Params) : Obj := ⟨(.type "code"), .none, (.fields (List.toArray [(.str "__init__" 401), (.str "Scalar.__init__" 402), (.str "/claim/cut.py" 403), (.int 94 0), (.int 3 0), (.int 0 0), (.int 0 0), (.int 3 0), (.ref 159), (.bool Bool.true), (.int 181 0), (.ref 160), PySem.Value.none, (.ref 161), (.ref 162), (.ref 163), (.int 407 0), (.int 94 0), (.str "/claim/cut.py" 408)])), (List.toArray [])⟩
noncomputable abbrev o_165_0 (_ : Params) : Obj := ⟨(.type "function"), .none, (.func ⟨"__init__", "Scalar.__init__", (fA (inAt 20 0)), (.stmts (fB (inAt 20 0))), (fS (inAt 20 0)), 3, [], PySem.Value.none, PySem.Value.none, PySem.Value.none, (.str "perlcore.values" 351), .none, (.ref 164), PySem.Value.none, 0⟩), (List.toArray [])⟩
noncomputable abbrev o_166_0 (_ : Params) : Obj := ⟨(.type "tuple"), .none, (.seq (List.toArray [(.str "magic" 410), (.str "value" 411)]) 0), (List.toArray [])⟩
noncomputable abbrev o_167_0 (P : Params) : Obj := ⟨(.type "dict"), .none, (.dict (List.toArray [⟨(PySem.PyData.keyHash P "__module__"), (.str "__module__" 396), (.str "perlcore.values" 351)⟩, ⟨(PySem.PyData.keyHash P "__firstlineno__"), (.str "__firstlineno__" 400), (.int 92 399)⟩, ⟨(PySem.PyData.keyHash P "__init__"), (.str "__init__" 409), (.ref 165)⟩, ⟨(PySem.PyData.keyHash P "__static_attributes__"), (.str "__static_attributes__" 412), (.ref 166)⟩, ⟨(PySem.PyData.keyHash P "__doc__"), (.str "__doc__" 413), PySem.Value.none⟩]) 2), (List.toArray [])⟩
noncomputable abbrev o_168_0 (_ : Params) : Obj := ⟨(.type "type"), .none, (.cls ⟨"Scalar", [(.ref 147)], [(.ref 168), (.ref 147), (.type "object")], 167, "Scalar", Bool.true, [], [], Bool.false, .none, Bool.false⟩), (List.toArray [(.some (.ref 152)), .none, (.some (.str "Scalar" 389)), (.some (.str "Scalar" 397)), (.some (.builtin "object.__new__")), (.some (.bool Bool.true))])⟩
noncomputable abbrev o_169_0 (_ : Params) : Obj := ⟨(.type "super"), .none, (.fields (List.toArray [(.ref 168), (.ref 168), (.ref 168)])), (List.toArray [])⟩
noncomputable abbrev o_170_0 (_ : Params) : Obj := ⟨(.type "builtin_function_or_method"), .none, (.fields (List.toArray [(.builtin "object.__init_subclass__"), (.ref 168)])), (List.toArray [])⟩
noncomputable abbrev o_3_5 (P : Params) : Obj := ⟨(.type "dict"), .none, (.dict (List.toArray [⟨(PySem.PyData.keyHash P "__name__"), (.str "__name__" 165), (.str "perlcore.values" 351)⟩, ⟨(PySem.PyData.keyHash P "__doc__"), (.str "__doc__" 166), PySem.Value.none⟩, ⟨(PySem.PyData.keyHash P "__package__"), (.str "__package__" 167), PySem.Value.none⟩, ⟨(PySem.PyData.keyHash P "__loader__"), (.str "__loader__" 168), (.builtin "__main__.__loader__#opaque")⟩, ⟨(PySem.PyData.keyHash P "__spec__"), (.str "__spec__" 169), PySem.Value.none⟩, ⟨(PySem.PyData.keyHash P "__annotations__"), (.str "__annotations__" 170), (.ref 6)⟩, ⟨(PySem.PyData.keyHash P "__builtins__"), (.str "__builtins__" 171), (.ref 4)⟩, ⟨(PySem.PyData.keyHash P "__file__"), (.str "__file__" 173), (.str "/claim/cut.py" 172)⟩, ⟨(PySem.PyData.keyHash P "__cached__"), (.str "__cached__" 174), PySem.Value.none⟩, ⟨(PySem.PyData.keyHash P "PerlError"), (.str "PerlError" 217), (.ref 31)⟩, ⟨(PySem.PyData.keyHash P "Die"), (.str "Die" 242), (.ref 51)⟩, ⟨(PySem.PyData.keyHash P "FIGURES"), (.str "FIGURES" 246), (.str "0123456789" 245)⟩, ⟨(PySem.PyData.keyHash P "SPACES"), (.str "SPACES" 248), (.str " \t\n\x0d\x0c\x0b" 247)⟩, ⟨(PySem.PyData.keyHash P "wrap_number"), (.str "wrap_number" 256), (.ref 60)⟩, ⟨(PySem.PyData.keyHash P "add_numbers"), (.str "add_numbers" 265), (.ref 67)⟩, ⟨(PySem.PyData.keyHash P "sub_numbers"), (.str "sub_numbers" 274), (.ref 74)⟩, ⟨(PySem.PyData.keyHash P "mul_numbers"), (.str "mul_numbers" 283), (.ref 81)⟩, ⟨(PySem.PyData.keyHash P "cut_quotient"), (.str "cut_quotient" 292), (.ref 88)⟩, ⟨(PySem.PyData.keyHash P "div_numbers"), (.str "div_numbers" 301), (.ref 95)⟩, ⟨(PySem.PyData.keyHash P "mod_numbers"), (.str "mod_numbers" 310), (.ref 102)⟩, ⟨(PySem.PyData.keyHash P "power_numbers"), (.str "power_numbers" 320), (.ref 109)⟩, ⟨(PySem.PyData.keyHash P "number_head"), (.str "number_head" 330), (.ref 116)⟩, ⟨(PySem.PyData.keyHash P "numeric_text"), (.str "numeric_text" 342), (.ref 123)⟩, ⟨(PySem.PyData.keyHash P "number_text"), (.str "number_text" 350), (.ref 130)⟩, ⟨(PySem.PyData.keyHash P "HEX_FIGURES"), (.str "HEX_FIGURES" 354), (.str "0123456789abcdef" 353)⟩, ⟨(PySem.PyData.keyHash P "Thing"), (.str "Thing" 388), (.ref 147)⟩, ⟨(PySem.PyData.keyHash P "Scalar"), (.str "Scalar" 415), (.ref 168)⟩, ⟨(PySem.PyData.keyHash P "Array"), (.str "Array" 441), (.ref 187)⟩]) 28), (List.toArray [])⟩
noncomputable abbrev o_12_5 (_ : Params) : Obj := ⟨PySem.Value.none, .none, (.fields (List.toArray ((.int 2 0) :: (.int 0 0) :: (.ref 20) :: (.int 7 0) :: (.int 0 0) :: (.ref 40) :: (.int 15 0) :: (.int 0 0) :: (.ref 59) :: (.int 20 0) :: (.int 0 0) :: (.ref 66) :: (.int 22 0) :: (.int 0 0) :: (.ref 73) :: (.int 24 0) :: (.int 0 0) :: (.ref 80) :: (.int 26 0) :: (.int 0 0) :: (.ref 87) :: (.int 31 0) :: (.int 0 0) :: (.ref 94) :: (.int 35 0) :: (.int 0 0) :: (.ref 101) :: (.int 39 0) :: (.int 0 0) :: (.ref 108) :: (.int 51 0) :: (.int 0 0) :: (.ref 115) :: (.int 64 0) :: (.int 0 0) :: (.ref 122) :: (.int 73 0) :: (.int 0 0) :: (.ref 129) :: (.int 83 0) :: (.int 0 0) :: (.ref 136) :: (.int 92 0) :: (.int 0 0) :: (.ref 157) :: (.int 98 0) :: (.int 0 0) :: (.ref 176) :: []))), (List.toArray [])⟩
noncomputable abbrev o_147_2 (_ : Params) : Obj := ⟨(.type "type"), .none, (.cls ⟨"Thing", [(.type "object")], [(.ref 147), (.type "object")], 146, "Thing", Bool.true, [], [(.ref 168), (.ref 187)], Bool.false, .none, Bool.false⟩), (List.toArray [.none, .none, (.some (.str "Thing" 355)), (.some (.str "Thing" 363)), (.some (.builtin "object.__new__")), (.some (.bool Bool.true))])⟩
noncomputable abbrev o_171_0 (_ : Params) : Obj := ⟨(.type "tuple"), .none, (.seq (List.toArray [(.ref 147)]) 0), (List.toArray [])⟩
noncomputable abbrev o_172_0 (_ : Params) : Obj := ⟨(.type "builtin_function_or_method"), .none, (.fields (List.toArray [(.builtin "type.__prepare__"), (.type "type")])), (List.toArray [])⟩
noncomputable abbrev o_173_0 (P : Params) : Obj := ⟨(.type "dict"), .none, (.dict (List.toArray [⟨(PySem.PyData.keyHash P "__module__"), (.str "__module__" 423), (.str "perlcore.values" 351)⟩, ⟨(PySem.PyData.keyHash P "__qualname__"), (.str "__qualname__" 425), (.str "Array" 424)⟩, ⟨(PySem.PyData.keyHash P "__firstlineno__"), (.str "__firstlineno__" 427), (.int 98 426)⟩, ⟨(PySem.PyData.keyHash P "__init__"), (.str "__init__" 435), (.ref 184)⟩, ⟨(PySem.PyData.keyHash P "__static_attributes__"), (.str "__static_attributes__" 438), (.ref 185)⟩]) 5), (List.toArray [])⟩
noncomputable abbrev o_174_0 (_ : Params) : Obj := ⟨(.type "tuple"), .none, (.seq (List.toArray []) 0), (List.toArray [])⟩
noncomputable abbrev o_175_0 (_ : Params) : Obj := ⟨PySem.Value.none, .none, (.fields (List.toArray [(.int 100 0), (.int 4 0), (.ref 183)])), (List.toArray [])⟩
noncomputable abbrev o_176_0 (_ : Params) : Obj := ⟨(.type "code"), .none, (.fields (List.toArray [(.str "Array" 418), (.str "Array" 419), (.str "/claim/cut.py" 420), (.int 98 0), (.int 0 0), (.int 0 0), (.int 0 0), (.int 0 0), (.ref 174), (.bool Bool.false), (.int 181 0), (.ref 175), PySem.Value.none, PySem.Value.none, PySem.Value.none, PySem.Value.none, (.int 421 0), (.int 98 0), (.str "/claim/cut.py" 422)])), (List.toArray [])⟩
noncomputable abbrev o_177_0 (_ : Params) : Obj := ⟨(.type "frame"), .none, PySem.Data.plain, (List.toArray [(.some (.ref 176)), (.some (.ref 3)), (.some (.ref 173)), .none, (.some (.str "perlcore.values" 351)), .none, (.some (.ref 0))])⟩
noncomputable abbrev o_178_0 (_ : Params) : Obj := ⟨(.type "tuple"), .none, (.seq (List.toArray []) 0), (List.toArray [])⟩
noncomputable abbrev o_179_0 (_ : Params) : Obj := ⟨PySem.Value.none, .none, (.fields (List.toArray [])), (List.toArray [])⟩
noncomputable abbrev o_180_0 (_ : Params) : Obj := ⟨(.type "tuple"), .none, (.seq (List.toArray [(.str "self" 431), (.str "number" 432)]) 0), (List.toArray [])⟩
noncomputable abbrev o_181_0 (_ : Params) : Obj := ⟨(.type "tuple"), .none, (.seq (List.toArray []) 0), (List.toArray [])⟩
noncomputable abbrev o_182_0 (_ : Params) : Obj := ⟨PySem.Value.none, .none, (.func ⟨"__init__", "Array.__init__", (fA (inAt 21 0)), (.stmts (fB (inAt 21 0))), (fS (inAt 21 0)), 0, [], PySem.Value.none, PySem.Value.none, PySem.Value.none, PySem.Value.none, .none, PySem.Value.none, PySem.Value.none, 0⟩), (List.toArray [])⟩
noncomputable abbrev o_183_0 (_ : Params) : Obj := ⟨(.type "code"), .none, (.fields (List.toArray [(.str "__init__" 428), (.str "Array.__init__" 429), (.str "/claim/cut.py" 430), (.int 100 0), (.int 2 0), (.int 0 0), (.int 0 0), (.int 3 0), (.ref 178), (.bool Bool.true), (.int 181 0), (.ref 179), PySem.Value.none, (.ref 180), (.ref 181), (.ref 182), (.int 433 0), (.int 100 0), (.str "/claim/cut.py" 434)])), (List.toArray [])⟩
noncomputable abbrev o_184_0 (_ : Params) : Obj := ⟨(.type "function"), .none, (.func ⟨"__init__", "Array.__init__", (fA (inAt 21 0)), (.stmts (fB (inAt 21 0))), (fS (inAt 21 0)), 3, [], PySem.Value.none, PySem.Value.none, PySem.Value.none, (.str "perlcore.values" 351), .none, (.ref 183), PySem.Value.none, 0⟩), (List.toArray [])⟩
noncomputable abbrev o_185_0 (_ : Params) : Obj := ⟨(.type "tuple"), .none, (.seq (List.toArray [(.str "items" 436), (.str "tied" 437)]) 0), (List.toArray [])⟩
noncomputable abbrev o_186_0 (P : Params) : Obj := ⟨(.type "dict"), .none, (.dict (List.toArray [⟨(PySem.PyData.keyHash P "__module__"), (.str "__module__" 423), (.str "perlcore.values" 351)⟩, ⟨(PySem.PyData.keyHash P "__firstlineno__"), (.str "__firstlineno__" 427), (.int 98 426)⟩, ⟨(PySem.PyData.keyHash P "__init__"), (.str "__init__" 435), (.ref 184)⟩, ⟨(PySem.PyData.keyHash P "__static_attributes__"), (.str "__static_attributes__" 438), (.ref 185)⟩, ⟨(PySem.PyData.keyHash P "__doc__"), (.str "__doc__" 439), PySem.Value.none⟩]) 2), (List.toArray [])⟩
noncomputable abbrev o_187_0 (_ : Params) : Obj := ⟨(.type "type"), .none, (.cls ⟨"Array", [(.ref 147)], [(.ref 187), (.ref 147), (.type "object")], 186, "Array", Bool.true, [], [], Bool.false, .none, Bool.false⟩), (List.toArray [(.some (.ref 171)), .none, (.some (.str "Array" 416)), (.some (.str "Array" 424)), (.some (.builtin "object.__new__")), (.some (.bool Bool.true))])⟩
noncomputable abbrev o_188_0 (_ : Params) : Obj := ⟨(.type "super"), .none, (.fields (List.toArray [(.ref 187), (.ref 187), (.ref 187)])), (List.toArray [])⟩
noncomputable abbrev o_189_0 (_ : Params) : Obj := ⟨(.type "builtin_function_or_method"), .none, (.fields (List.toArray [(.builtin "object.__init_subclass__"), (.ref 187)])), (List.toArray [])⟩
noncomputable abbrev o_3_6 (P : Params) : Obj := ⟨(.type "dict"), .none, (.dict (List.toArray [⟨(PySem.PyData.keyHash P "__name__"), (.str "__name__" 165), (.str "perlcore.values" 351)⟩, ⟨(PySem.PyData.keyHash P "__doc__"), (.str "__doc__" 166), PySem.Value.none⟩, ⟨(PySem.PyData.keyHash P "__package__"), (.str "__package__" 167), PySem.Value.none⟩, ⟨(PySem.PyData.keyHash P "__loader__"), (.str "__loader__" 168), (.builtin "__main__.__loader__#opaque")⟩, ⟨(PySem.PyData.keyHash P "__spec__"), (.str "__spec__" 169), PySem.Value.none⟩, ⟨(PySem.PyData.keyHash P "__annotations__"), (.str "__annotations__" 170), (.ref 6)⟩, ⟨(PySem.PyData.keyHash P "__builtins__"), (.str "__builtins__" 171), (.ref 4)⟩, ⟨(PySem.PyData.keyHash P "__file__"), (.str "__file__" 173), (.str "/claim/cut.py" 172)⟩, ⟨(PySem.PyData.keyHash P "__cached__"), (.str "__cached__" 174), PySem.Value.none⟩, ⟨(PySem.PyData.keyHash P "PerlError"), (.str "PerlError" 217), (.ref 31)⟩, ⟨(PySem.PyData.keyHash P "Die"), (.str "Die" 242), (.ref 51)⟩, ⟨(PySem.PyData.keyHash P "FIGURES"), (.str "FIGURES" 246), (.str "0123456789" 245)⟩, ⟨(PySem.PyData.keyHash P "SPACES"), (.str "SPACES" 248), (.str " \t\n\x0d\x0c\x0b" 247)⟩, ⟨(PySem.PyData.keyHash P "wrap_number"), (.str "wrap_number" 256), (.ref 60)⟩, ⟨(PySem.PyData.keyHash P "add_numbers"), (.str "add_numbers" 265), (.ref 67)⟩, ⟨(PySem.PyData.keyHash P "sub_numbers"), (.str "sub_numbers" 274), (.ref 74)⟩, ⟨(PySem.PyData.keyHash P "mul_numbers"), (.str "mul_numbers" 283), (.ref 81)⟩, ⟨(PySem.PyData.keyHash P "cut_quotient"), (.str "cut_quotient" 292), (.ref 88)⟩, ⟨(PySem.PyData.keyHash P "div_numbers"), (.str "div_numbers" 301), (.ref 95)⟩, ⟨(PySem.PyData.keyHash P "mod_numbers"), (.str "mod_numbers" 310), (.ref 102)⟩, ⟨(PySem.PyData.keyHash P "power_numbers"), (.str "power_numbers" 320), (.ref 109)⟩, ⟨(PySem.PyData.keyHash P "number_head"), (.str "number_head" 330), (.ref 116)⟩, ⟨(PySem.PyData.keyHash P "numeric_text"), (.str "numeric_text" 342), (.ref 123)⟩, ⟨(PySem.PyData.keyHash P "number_text"), (.str "number_text" 350), (.ref 130)⟩, ⟨(PySem.PyData.keyHash P "HEX_FIGURES"), (.str "HEX_FIGURES" 354), (.str "0123456789abcdef" 353)⟩, ⟨(PySem.PyData.keyHash P "Thing"), (.str "Thing" 388), (.ref 147)⟩, ⟨(PySem.PyData.keyHash P "Scalar"), (.str "Scalar" 415), (.ref 168)⟩, ⟨(PySem.PyData.keyHash P "Array"), (.str "Array" 441), (.ref 187)⟩, ⟨(PySem.PyData.keyHash P "Hash"), (.str "Hash" 468), (.ref 206)⟩]) 29), (List.toArray [])⟩
noncomputable abbrev o_12_6 (_ : Params) : Obj := ⟨PySem.Value.none, .none, (.fields (List.toArray ((.int 2 0) :: (.int 0 0) :: (.ref 20) :: (.int 7 0) :: (.int 0 0) :: (.ref 40) :: (.int 15 0) :: (.int 0 0) :: (.ref 59) :: (.int 20 0) :: (.int 0 0) :: (.ref 66) :: (.int 22 0) :: (.int 0 0) :: (.ref 73) :: (.int 24 0) :: (.int 0 0) :: (.ref 80) :: (.int 26 0) :: (.int 0 0) :: (.ref 87) :: (.int 31 0) :: (.int 0 0) :: (.ref 94) :: (.int 35 0) :: (.int 0 0) :: (.ref 101) :: (.int 39 0) :: (.int 0 0) :: (.ref 108) :: (.int 51 0) :: (.int 0 0) :: (.ref 115) :: (.int 64 0) :: (.int 0 0) :: (.ref 122) :: (.int 73 0) :: (.int 0 0) :: (.ref 129) :: (.int 83 0) :: (.int 0 0) :: (.ref 136) :: (.int 92 0) :: (.int 0 0) :: (.ref 157) :: (.int 98 0) :: (.int 0 0) :: (.ref 176) :: (.int 104 0) :: (.int 0 0) :: (.ref 195) :: []))), (List.toArray [])⟩
noncomputable abbrev o_147_3 (_ : Params) : Obj := ⟨(.type "type"), .none, (.cls ⟨"Thing", [(.type "object")], [(.ref 147), (.type "object")], 146, "Thing", Bool.true, [], [(.ref 168), (.ref 187), (.ref 206)], Bool.false, .none, Bool.false⟩), (List.toArray [.none, .none, (.some (.str "Thing" 355)), (.some (.str "Thing" 363)), (.some (.builtin "object.__new__")), (.some (.bool Bool.true))])⟩
noncomputable abbrev o_190_0 (_ : Params) : Obj := ⟨(.type "tuple"), .none, (.seq (List.toArray [(.ref 147)]) 0), (List.toArray [])⟩
noncomputable abbrev o_191_0 (_ : Params) : Obj := ⟨(.type "builtin_function_or_method"), .none, (.fields (List.toArray [(.builtin "type.__prepare__"), (.type "type")])), (List.toArray [])⟩
noncomputable abbrev o_192_0 (P : Params) : Obj := ⟨(.type "dict"), .none, (.dict (List.toArray [⟨(PySem.PyData.keyHash P "__module__"), (.str "__module__" 449), (.str "perlcore.values" 351)⟩, ⟨(PySem.PyData.keyHash P "__qualname__"), (.str "__qualname__" 451), (.str "Hash" 450)⟩, ⟨(PySem.PyData.keyHash P "__firstlineno__"), (.str "__firstlineno__" 453), (.int 104 452)⟩, ⟨(PySem.PyData.keyHash P "__init__"), (.str "__init__" 461), (.ref 203)⟩, ⟨(PySem.PyData.keyHash P "__static_attributes__"), (.str "__static_attributes__" 465), (.ref 204)⟩]) 5), (List.toArray [])⟩
noncomputable abbrev o_193_0 (_ : Params) : Obj := ⟨(.type "tuple"), .none, (.seq (List.toArray []) 0), (List.toArray [])⟩
noncomputable abbrev o_194_0 (_ : Params) : Obj := ⟨PySem.Value.none, .none, (.fields (List.toArray [(.int 106 0), (.int 4 0), (.ref 202)])), (List.toArray [])⟩
noncomputable abbrev o_195_0 (_ : Params) : Obj := ⟨(.type "code"), .none, (.fields (List.toArray [(.str "Hash" 444), (.str "Hash" 445), (.str "/claim/cut.py" 446), (.int 104 0), (.int 0 0), (.int 0 0), (.int 0 0), (.int 0 0), (.ref 193), (.bool Bool.false), (.int 181 0), (.ref 194), PySem.Value.none, PySem.Value.none, PySem.Value.none, PySem.Value.none, (.int 447 0), (.int 104 0), (.str "/claim/cut.py" 448)])), (List.toArray [])⟩
noncomputable abbrev o_196_0 (_ : Params) : Obj := ⟨(.type "frame"), .none, PySem.Data.plain, (List.toArray [(.some (.ref 195)), (.some (.ref 3)), (.some (.ref 192)), .none, (.some (.str "perlcore.values" 351)), .none, (.some (.ref 0))])⟩
noncomputable abbrev o_197_0 (_ : Params) : Obj := ⟨(.type "tuple"), .none, (.seq (List.toArray []) 0), (List.toArray [])⟩
noncomputable abbrev o_198_0 (_ : Params) : Obj := ⟨PySem.Value.none, .none, (.fields (List.toArray [])), (List.toArray [])⟩
noncomputable abbrev o_199_0 (_ : Params) : Obj := ⟨(.type "tuple"), .none, (.seq (List.toArray [(.str "self" 457), (.str "number" 458)]) 0), (List.toArray [])⟩
noncomputable abbrev o_200_0 (_ : Params) : Obj := ⟨(.type "tuple"), .none, (.seq (List.toArray []) 0), (List.toArray [])⟩
noncomputable abbrev o_201_0 (_ : Params) : Obj := ⟨PySem.Value.none, .none, (.func ⟨"__init__", "Hash.__init__", (fA (inAt 22 0)), (.stmts (fB (inAt 22 0))), (fS (inAt 22 0)), 0, [], PySem.Value.none, PySem.Value.none, PySem.Value.none, PySem.Value.none, .none, PySem.Value.none, PySem.Value.none, 0⟩), (List.toArray [])⟩
noncomputable abbrev o_202_0 (_ : Params) : Obj := ⟨(.type "code"), .none, (.fields (List.toArray [(.str "__init__" 454), (.str "Hash.__init__" 455), (.str "/claim/cut.py" 456), (.int 106 0), (.int 2 0), (.int 0 0), (.int 0 0), (.int 3 0), (.ref 197), (.bool Bool.true), (.int 181 0), (.ref 198), PySem.Value.none, (.ref 199), (.ref 200), (.ref 201), (.int 459 0), (.int 106 0), (.str "/claim/cut.py" 460)])), (List.toArray [])⟩
noncomputable abbrev o_203_0 (_ : Params) : Obj := ⟨(.type "function"), .none, (.func ⟨"__init__", "Hash.__init__", (fA (inAt 22 0)), (.stmts (fB (inAt 22 0))), (fS (inAt 22 0)), 3, [], PySem.Value.none, PySem.Value.none, PySem.Value.none, (.str "perlcore.values" 351), .none, (.ref 202), PySem.Value.none, 0⟩), (List.toArray [])⟩
noncomputable abbrev o_204_0 (_ : Params) : Obj := ⟨(.type "tuple"), .none, (.seq (List.toArray [(.str "at" 462), (.str "table" 463), (.str "tied" 464)]) 0), (List.toArray [])⟩
noncomputable abbrev o_205_0 (P : Params) : Obj := ⟨(.type "dict"), .none, (.dict (List.toArray [⟨(PySem.PyData.keyHash P "__module__"), (.str "__module__" 449), (.str "perlcore.values" 351)⟩, ⟨(PySem.PyData.keyHash P "__firstlineno__"), (.str "__firstlineno__" 453), (.int 104 452)⟩, ⟨(PySem.PyData.keyHash P "__init__"), (.str "__init__" 461), (.ref 203)⟩, ⟨(PySem.PyData.keyHash P "__static_attributes__"), (.str "__static_attributes__" 465), (.ref 204)⟩, ⟨(PySem.PyData.keyHash P "__doc__"), (.str "__doc__" 466), PySem.Value.none⟩]) 2), (List.toArray [])⟩
noncomputable abbrev o_206_0 (_ : Params) : Obj := ⟨(.type "type"), .none, (.cls ⟨"Hash", [(.ref 147)], [(.ref 206), (.ref 147), (.type "object")], 205, "Hash", Bool.true, [], [], Bool.false, .none, Bool.false⟩), (List.toArray [(.some (.ref 190)), .none, (.some (.str "Hash" 442)), (.some (.str "Hash" 450)), (.some (.builtin "object.__new__")), (.some (.bool Bool.true))])⟩
noncomputable abbrev o_207_0 (_ : Params) : Obj := ⟨(.type "super"), .none, (.fields (List.toArray [(.ref 206), (.ref 206), (.ref 206)])), (List.toArray [])⟩
noncomputable abbrev o_208_0 (_ : Params) : Obj := ⟨(.type "builtin_function_or_method"), .none, (.fields (List.toArray [(.builtin "object.__init_subclass__"), (.ref 206)])), (List.toArray [])⟩
noncomputable abbrev o_3_7 (P : Params) : Obj := ⟨(.type "dict"), .none, (.dict (List.toArray [⟨(PySem.PyData.keyHash P "__name__"), (.str "__name__" 165), (.str "perlcore.values" 351)⟩, ⟨(PySem.PyData.keyHash P "__doc__"), (.str "__doc__" 166), PySem.Value.none⟩, ⟨(PySem.PyData.keyHash P "__package__"), (.str "__package__" 167), PySem.Value.none⟩, ⟨(PySem.PyData.keyHash P "__loader__"), (.str "__loader__" 168), (.builtin "__main__.__loader__#opaque")⟩, ⟨(PySem.PyData.keyHash P "__spec__"), (.str "__spec__" 169), PySem.Value.none⟩, ⟨(PySem.PyData.keyHash P "__annotations__"), (.str "__annotations__" 170), (.ref 6)⟩, ⟨(PySem.PyData.keyHash P "__builtins__"), (.str "__builtins__" 171), (.ref 4)⟩, ⟨(PySem.PyData.keyHash P "__file__"), (.str "__file__" 173), (.str "/claim/cut.py" 172)⟩, ⟨(PySem.PyData.keyHash P "__cached__"), (.str "__cached__" 174), PySem.Value.none⟩, ⟨(PySem.PyData.keyHash P "PerlError"), (.str "PerlError" 217), (.ref 31)⟩, ⟨(PySem.PyData.keyHash P "Die"), (.str "Die" 242), (.ref 51)⟩, ⟨(PySem.PyData.keyHash P "FIGURES"), (.str "FIGURES" 246), (.str "0123456789" 245)⟩, ⟨(PySem.PyData.keyHash P "SPACES"), (.str "SPACES" 248), (.str " \t\n\x0d\x0c\x0b" 247)⟩, ⟨(PySem.PyData.keyHash P "wrap_number"), (.str "wrap_number" 256), (.ref 60)⟩, ⟨(PySem.PyData.keyHash P "add_numbers"), (.str "add_numbers" 265), (.ref 67)⟩, ⟨(PySem.PyData.keyHash P "sub_numbers"), (.str "sub_numbers" 274), (.ref 74)⟩, ⟨(PySem.PyData.keyHash P "mul_numbers"), (.str "mul_numbers" 283), (.ref 81)⟩, ⟨(PySem.PyData.keyHash P "cut_quotient"), (.str "cut_quotient" 292), (.ref 88)⟩, ⟨(PySem.PyData.keyHash P "div_numbers"), (.str "div_numbers" 301), (.ref 95)⟩, ⟨(PySem.PyData.keyHash P "mod_numbers"), (.str "mod_numbers" 310), (.ref 102)⟩, ⟨(PySem.PyData.keyHash P "power_numbers"), (.str "power_numbers" 320), (.ref 109)⟩, ⟨(PySem.PyData.keyHash P "number_head"), (.str "number_head" 330), (.ref 116)⟩, ⟨(PySem.PyData.keyHash P "numeric_text"), (.str "numeric_text" 342), (.ref 123)⟩, ⟨(PySem.PyData.keyHash P "number_text"), (.str "number_text" 350), (.ref 130)⟩, ⟨(PySem.PyData.keyHash P "HEX_FIGURES"), (.str "HEX_FIGURES" 354), (.str "0123456789abcdef" 353)⟩, ⟨(PySem.PyData.keyHash P "Thing"), (.str "Thing" 388), (.ref 147)⟩, ⟨(PySem.PyData.keyHash P "Scalar"), (.str "Scalar" 415), (.ref 168)⟩, ⟨(PySem.PyData.keyHash P "Array"), (.str "Array" 441), (.ref 187)⟩, ⟨(PySem.PyData.keyHash P "Hash"), (.str "Hash" 468), (.ref 206)⟩, ⟨(PySem.PyData.keyHash P "Code"), (.str "Code" 498), (.ref 225)⟩]) 30), (List.toArray [])⟩
noncomputable abbrev o_12_7 (_ : Params) : Obj := ⟨PySem.Value.none, .none, (.fields (List.toArray ((.int 2 0) :: (.int 0 0) :: (.ref 20) :: (.int 7 0) :: (.int 0 0) :: (.ref 40) :: (.int 15 0) :: (.int 0 0) :: (.ref 59) :: (.int 20 0) :: (.int 0 0) :: (.ref 66) :: (.int 22 0) :: (.int 0 0) :: (.ref 73) :: (.int 24 0) :: (.int 0 0) :: (.ref 80) :: (.int 26 0) :: (.int 0 0) :: (.ref 87) :: (.int 31 0) :: (.int 0 0) :: (.ref 94) :: (.int 35 0) :: (.int 0 0) :: (.ref 101) :: (.int 39 0) :: (.int 0 0) :: (.ref 108) :: (.int 51 0) :: (.int 0 0) :: (.ref 115) :: (.int 64 0) :: (.int 0 0) :: (.ref 122) :: (.int 73 0) :: (.int 0 0) :: (.ref 129) :: (.int 83 0) :: (.int 0 0) :: (.ref 136) :: (.int 92 0) :: (.int 0 0) :: (.ref 157) :: (.int 98 0) :: (.int 0 0) :: (.ref 176) :: (.int 104 0) :: (.int 0 0) :: (.ref 195) :: (.int 111 0) :: (.int 0 0) :: (.ref 214) :: []))), (List.toArray [])⟩
noncomputable abbrev o_147_4 (_ : Params) : Obj := ⟨(.type "type"), .none, (.cls ⟨"Thing", [(.type "object")], [(.ref 147), (.type "object")], 146, "Thing", Bool.true, [], [(.ref 168), (.ref 187), (.ref 206), (.ref 225)], Bool.false, .none, Bool.false⟩), (List.toArray [.none, .none, (.some (.str "Thing" 355)), (.some (.str "Thing" 363)), (.some (.builtin "object.__new__")), (.some (.bool Bool.true))])⟩
noncomputable abbrev o_209_0 (_ : Params) : Obj := ⟨(.type "tuple"), .none, (.seq (List.toArray [(.ref 147)]) 0), (List.toArray [])⟩
noncomputable abbrev o_210_0 (_ : Params) : Obj := ⟨(.type "builtin_function_or_method"), .none, (.fields (List.toArray [(.builtin "type.__prepare__"), (.type "type")])), (List.toArray [])⟩
noncomputable abbrev o_211_0 (P : Params) : Obj := ⟨(.type "dict"), .none, (.dict (List.toArray [⟨(PySem.PyData.keyHash P "__module__"), (.str "__module__" 476), (.str "perlcore.values" 351)⟩, ⟨(PySem.PyData.keyHash P "__qualname__"), (.str "__qualname__" 478), (.str "Code" 477)⟩, ⟨(PySem.PyData.keyHash P "__firstlineno__"), (.str "__firstlineno__" 480), (.int 111 479)⟩, ⟨(PySem.PyData.keyHash P "__init__"), (.str "__init__" 490), (.ref 222)⟩, ⟨(PySem.PyData.keyHash P "__static_attributes__"), (.str "__static_attributes__" 495), (.ref 223)⟩]) 5), (List.toArray [])⟩
noncomputable abbrev o_212_0 (_ : Params) : Obj := ⟨(.type "tuple"), .none, (.seq (List.toArray []) 0), (List.toArray [])⟩
noncomputable abbrev o_213_0 (_ : Params) : Obj := ⟨PySem.Value.none, .none, (.fields (List.toArray [(.int 113 0), (.int 4 0), (.ref 221)])), (List.toArray [])⟩
noncomputable abbrev o_214_0 (_ : Params) : Obj := ⟨(.type "code"), .none, (.fields (List.toArray [(.str "Code" 471), (.str "Code" 472), (.str "/claim/cut.py" 473), (.int 111 0), (.int 0 0), (.int 0 0), (.int 0 0), (.int 0 0), (.ref 212), (.bool Bool.false), (.int 181 0), (.ref 213), PySem.Value.none, PySem.Value.none, PySem.Value.none, PySem.Value.none, (.int 474 0), (.int 111 0), (.str "/claim/cut.py" 475)])), (List.toArray [])⟩
noncomputable abbrev o_215_0 (_ : Params) : Obj := ⟨(.type "frame"), .none, PySem.Data.plain, (List.toArray [(.some (.ref 214)), (.some (.ref 3)), (.some (.ref 211)), .none, (.some (.str "perlcore.values" 351)), .none, (.some (.ref 0))])⟩
noncomputable abbrev o_216_0 (_ : Params) : Obj := ⟨(.type "tuple"), .none, (.seq (List.toArray []) 0), (List.toArray [])⟩
noncomputable abbrev o_217_0 (_ : Params) : Obj := ⟨PySem.Value.none, .none, (.fields (List.toArray [])), (List.toArray [])⟩
noncomputable abbrev o_218_0 (_ : Params) : Obj := ⟨(.type "tuple"), .none, (.seq (List.toArray [(.str "self" 484), (.str "number" 485), (.str "sub" 486), (.str "captures" 487)]) 0), (List.toArray [])⟩
noncomputable abbrev o_219_0 (_ : Params) : Obj := ⟨(.type "tuple"), .none, (.seq (List.toArray []) 0), (List.toArray [])⟩
noncomputable abbrev o_220_0 (_ : Params) : Obj := ⟨PySem.Value.none, .none, (.func ⟨"__init__", "Code.__init__", (fA (inAt 23 0)), (.stmts (fB (inAt 23 0))), (fS (inAt 23 0)), 0, [], PySem.Value.none, PySem.Value.none, PySem.Value.none, PySem.Value.none, .none, PySem.Value.none, PySem.Value.none, 0⟩), (List.toArray [])⟩
noncomputable abbrev o_221_0 (_ : Params) : Obj := ⟨(.type "code"), .none, (.fields (List.toArray [(.str "__init__" 481), (.str "Code.__init__" 482), (.str "/claim/cut.py" 483), (.int 113 0), (.int 4 0), (.int 0 0), (.int 0 0), (.int 3 0), (.ref 216), (.bool Bool.true), (.int 181 0), (.ref 217), PySem.Value.none, (.ref 218), (.ref 219), (.ref 220), (.int 488 0), (.int 113 0), (.str "/claim/cut.py" 489)])), (List.toArray [])⟩
noncomputable abbrev o_222_0 (_ : Params) : Obj := ⟨(.type "function"), .none, (.func ⟨"__init__", "Code.__init__", (fA (inAt 23 0)), (.stmts (fB (inAt 23 0))), (fS (inAt 23 0)), 3, [], PySem.Value.none, PySem.Value.none, PySem.Value.none, (.str "perlcore.values" 351), .none, (.ref 221), PySem.Value.none, 0⟩), (List.toArray [])⟩
noncomputable abbrev o_223_0 (_ : Params) : Obj := ⟨(.type "tuple"), .none, (.seq (List.toArray [(.str "builtin" 491), (.str "captures" 492), (.str "package" 493), (.str "sub" 494)]) 0), (List.toArray [])⟩
noncomputable abbrev o_224_0 (P : Params) : Obj := ⟨(.type "dict"), .none, (.dict (List.toArray [⟨(PySem.PyData.keyHash P "__module__"), (.str "__module__" 476), (.str "perlcore.values" 351)⟩, ⟨(PySem.PyData.keyHash P "__firstlineno__"), (.str "__firstlineno__" 480), (.int 111 479)⟩, ⟨(PySem.PyData.keyHash P "__init__"), (.str "__init__" 490), (.ref 222)⟩, ⟨(PySem.PyData.keyHash P "__static_attributes__"), (.str "__static_attributes__" 495), (.ref 223)⟩, ⟨(PySem.PyData.keyHash P "__doc__"), (.str "__doc__" 496), PySem.Value.none⟩]) 2), (List.toArray [])⟩
noncomputable abbrev o_225_0 (_ : Params) : Obj := ⟨(.type "type"), .none, (.cls ⟨"Code", [(.ref 147)], [(.ref 225), (.ref 147), (.type "object")], 224, "Code", Bool.true, [], [], Bool.false, .none, Bool.false⟩), (List.toArray [(.some (.ref 209)), .none, (.some (.str "Code" 469)), (.some (.str "Code" 477)), (.some (.builtin "object.__new__")), (.some (.bool Bool.true))])⟩
noncomputable abbrev o_226_0 (_ : Params) : Obj := ⟨(.type "super"), .none, (.fields (List.toArray [(.ref 225), (.ref 225), (.ref 225)])), (List.toArray [])⟩
noncomputable abbrev o_227_0 (_ : Params) : Obj := ⟨(.type "builtin_function_or_method"), .none, (.fields (List.toArray [(.builtin "object.__init_subclass__"), (.ref 225)])), (List.toArray [])⟩
noncomputable abbrev o_3_8 (P : Params) : Obj := ⟨(.type "dict"), .none, (.dict (List.toArray [⟨(PySem.PyData.keyHash P "__name__"), (.str "__name__" 165), (.str "perlcore.values" 351)⟩, ⟨(PySem.PyData.keyHash P "__doc__"), (.str "__doc__" 166), PySem.Value.none⟩, ⟨(PySem.PyData.keyHash P "__package__"), (.str "__package__" 167), PySem.Value.none⟩, ⟨(PySem.PyData.keyHash P "__loader__"), (.str "__loader__" 168), (.builtin "__main__.__loader__#opaque")⟩, ⟨(PySem.PyData.keyHash P "__spec__"), (.str "__spec__" 169), PySem.Value.none⟩, ⟨(PySem.PyData.keyHash P "__annotations__"), (.str "__annotations__" 170), (.ref 6)⟩, ⟨(PySem.PyData.keyHash P "__builtins__"), (.str "__builtins__" 171), (.ref 4)⟩, ⟨(PySem.PyData.keyHash P "__file__"), (.str "__file__" 173), (.str "/claim/cut.py" 172)⟩, ⟨(PySem.PyData.keyHash P "__cached__"), (.str "__cached__" 174), PySem.Value.none⟩, ⟨(PySem.PyData.keyHash P "PerlError"), (.str "PerlError" 217), (.ref 31)⟩, ⟨(PySem.PyData.keyHash P "Die"), (.str "Die" 242), (.ref 51)⟩, ⟨(PySem.PyData.keyHash P "FIGURES"), (.str "FIGURES" 246), (.str "0123456789" 245)⟩, ⟨(PySem.PyData.keyHash P "SPACES"), (.str "SPACES" 248), (.str " \t\n\x0d\x0c\x0b" 247)⟩, ⟨(PySem.PyData.keyHash P "wrap_number"), (.str "wrap_number" 256), (.ref 60)⟩, ⟨(PySem.PyData.keyHash P "add_numbers"), (.str "add_numbers" 265), (.ref 67)⟩, ⟨(PySem.PyData.keyHash P "sub_numbers"), (.str "sub_numbers" 274), (.ref 74)⟩, ⟨(PySem.PyData.keyHash P "mul_numbers"), (.str "mul_numbers" 283), (.ref 81)⟩, ⟨(PySem.PyData.keyHash P "cut_quotient"), (.str "cut_quotient" 292), (.ref 88)⟩, ⟨(PySem.PyData.keyHash P "div_numbers"), (.str "div_numbers" 301), (.ref 95)⟩, ⟨(PySem.PyData.keyHash P "mod_numbers"), (.str "mod_numbers" 310), (.ref 102)⟩, ⟨(PySem.PyData.keyHash P "power_numbers"), (.str "power_numbers" 320), (.ref 109)⟩, ⟨(PySem.PyData.keyHash P "number_head"), (.str "number_head" 330), (.ref 116)⟩, ⟨(PySem.PyData.keyHash P "numeric_text"), (.str "numeric_text" 342), (.ref 123)⟩, ⟨(PySem.PyData.keyHash P "number_text"), (.str "number_text" 350), (.ref 130)⟩, ⟨(PySem.PyData.keyHash P "HEX_FIGURES"), (.str "HEX_FIGURES" 354), (.str "0123456789abcdef" 353)⟩, ⟨(PySem.PyData.keyHash P "Thing"), (.str "Thing" 388), (.ref 147)⟩, ⟨(PySem.PyData.keyHash P "Scalar"), (.str "Scalar" 415), (.ref 168)⟩, ⟨(PySem.PyData.keyHash P "Array"), (.str "Array" 441), (.ref 187)⟩, ⟨(PySem.PyData.keyHash P "Hash"), (.str "Hash" 468), (.ref 206)⟩, ⟨(PySem.PyData.keyHash P "Code"), (.str "Code" 498), (.ref 225)⟩, ⟨(PySem.PyData.keyHash P "Glob"), (.str "Glob" 528), (.ref 244)⟩]) 31), (List.toArray [])⟩
noncomputable abbrev o_12_8 (_ : Params) : Obj := ⟨PySem.Value.none, .none, (.fields (List.toArray ((.int 2 0) :: (.int 0 0) :: (.ref 20) :: (.int 7 0) :: (.int 0 0) :: (.ref 40) :: (.int 15 0) :: (.int 0 0) :: (.ref 59) :: (.int 20 0) :: (.int 0 0) :: (.ref 66) :: (.int 22 0) :: (.int 0 0) :: (.ref 73) :: (.int 24 0) :: (.int 0 0) :: (.ref 80) :: (.int 26 0) :: (.int 0 0) :: (.ref 87) :: (.int 31 0) :: (.int 0 0) :: (.ref 94) :: (.int 35 0) :: (.int 0 0) :: (.ref 101) :: (.int 39 0) :: (.int 0 0) :: (.ref 108) :: (.int 51 0) :: (.int 0 0) :: (.ref 115) :: (.int 64 0) :: (.int 0 0) :: (.ref 122) :: (.int 73 0) :: (.int 0 0) :: (.ref 129) :: (.int 83 0) :: (.int 0 0) :: (.ref 136) :: (.int 92 0) :: (.int 0 0) :: (.ref 157) :: (.int 98 0) :: (.int 0 0) :: (.ref 176) :: (.int 104 0) :: (.int 0 0) :: (.ref 195) :: (.int 111 0) :: (.int 0 0) :: (.ref 214) :: (.int 119 0) :: (.int 0 0) :: (.ref 233) :: []))), (List.toArray [])⟩
noncomputable abbrev o_147_5 (_ : Params) : Obj := ⟨(.type "type"), .none, (.cls ⟨"Thing", [(.type "object")], [(.ref 147), (.type "object")], 146, "Thing", Bool.true, [], [(.ref 168), (.ref 187), (.ref 206), (.ref 225), (.ref 244)], Bool.false, .none, Bool.false⟩), (List.toArray [.none, .none, (.some (.str "Thing" 355)), (.some (.str "Thing" 363)), (.some (.builtin "object.__new__")), (.some (.bool Bool.true))])⟩
noncomputable abbrev o_228_0 (_ : Params) : Obj := ⟨(.type "tuple"), .none, (.seq (List.toArray [(.ref 147)]) 0), (List.toArray [])⟩
noncomputable abbrev o_229_0 (_ : Params) : Obj := ⟨(.type "builtin_function_or_method"), .none, (.fields (List.toArray [(.builtin "type.__prepare__"), (.type "type")])), (List.toArray [])⟩
noncomputable abbrev o_230_0 (P : Params) : Obj := ⟨(.type "dict"), .none, (.dict (List.toArray [⟨(PySem.PyData.keyHash P "__module__"), (.str "__module__" 506), (.str "perlcore.values" 351)⟩, ⟨(PySem.PyData.keyHash P "__qualname__"), (.str "__qualname__" 508), (.str "Glob" 507)⟩, ⟨(PySem.PyData.keyHash P "__firstlineno__"), (.str "__firstlineno__" 510), (.int 119 509)⟩, ⟨(PySem.PyData.keyHash P "__init__"), (.str "__init__" 519), (.ref 241)⟩, ⟨(PySem.PyData.keyHash P "__static_attributes__"), (.str "__static_attributes__" 525), (.ref 242)⟩]) 5), (List.toArray [])⟩
noncomputable abbrev o_231_0 (_ : Params) : Obj := ⟨(.type "tuple"), .none, (.seq (List.toArray []) 0), (List.toArray [])⟩
noncomputable abbrev o_232_0 (_ : Params) : Obj := ⟨PySem.Value.none, .none, (.fields (List.toArray [(.int 121 0), (.int 4 0), (.ref 240)])), (List.toArray [])⟩
noncomputable abbrev o_233_0 (_ : Params) : Obj := ⟨(.type "code"), .none, (.fields (List.toArray [(.str "Glob" 501), (.str "Glob" 502), (.str "/claim/cut.py" 503), (.int 119 0), (.int 0 0), (.int 0 0), (.int 0 0), (.int 0 0), (.ref 231), (.bool Bool.false), (.int 181 0), (.ref 232), PySem.Value.none, PySem.Value.none, PySem.Value.none, PySem.Value.none, (.int 504 0), (.int 119 0), (.str "/claim/cut.py" 505)])), (List.toArray [])⟩
noncomputable abbrev o_234_0 (_ : Params) : Obj := ⟨(.type "frame"), .none, PySem.Data.plain, (List.toArray [(.some (.ref 233)), (.some (.ref 3)), (.some (.ref 230)), .none, (.some (.str "perlcore.values" 351)), .none, (.some (.ref 0))])⟩
noncomputable abbrev o_235_0 (_ : Params) : Obj := ⟨(.type "tuple"), .none, (.seq (List.toArray []) 0), (List.toArray [])⟩
noncomputable abbrev o_236_0 (_ : Params) : Obj := ⟨PySem.Value.none, .none, (.fields (List.toArray [])), (List.toArray [])⟩
noncomputable abbrev o_237_0 (_ : Params) : Obj := ⟨(.type "tuple"), .none, (.seq (List.toArray [(.str "self" 514), (.str "number" 515), (.str "name" 516)]) 0), (List.toArray [])⟩
noncomputable abbrev o_238_0 (_ : Params) : Obj := ⟨(.type "tuple"), .none, (.seq (List.toArray []) 0), (List.toArray [])⟩
noncomputable abbrev o_239_0 (_ : Params) : Obj := ⟨PySem.Value.none, .none, (.func ⟨"__init__", "Glob.__init__", (fA (inAt 24 0)), (.stmts (fB (inAt 24 0))), (fS (inAt 24 0)), 0, [], PySem.Value.none, PySem.Value.none, PySem.Value.none, PySem.Value.none, .none, PySem.Value.none, PySem.Value.none, 0⟩), (List.toArray [])⟩
noncomputable abbrev o_240_0 (_ : Params) : Obj := ⟨(.type "code"), .none, (.fields (List.toArray [(.str "__init__" 511), (.str "Glob.__init__" 512), (.str "/claim/cut.py" 513), (.int 121 0), (.int 3 0), (.int 0 0), (.int 0 0), (.int 3 0), (.ref 235), (.bool Bool.true), (.int 181 0), (.ref 236), PySem.Value.none, (.ref 237), (.ref 238), (.ref 239), (.int 517 0), (.int 121 0), (.str "/claim/cut.py" 518)])), (List.toArray [])⟩
noncomputable abbrev o_241_0 (_ : Params) : Obj := ⟨(.type "function"), .none, (.func ⟨"__init__", "Glob.__init__", (fA (inAt 24 0)), (.stmts (fB (inAt 24 0))), (fS (inAt 24 0)), 3, [], PySem.Value.none, PySem.Value.none, PySem.Value.none, (.str "perlcore.values" 351), .none, (.ref 240), PySem.Value.none, 0⟩), (List.toArray [])⟩
noncomputable abbrev o_242_0 (_ : Params) : Obj := ⟨(.type "tuple"), .none, (.seq (List.toArray [(.str "array" 520), (.str "code" 521), (.str "hash" 522), (.str "name" 523), (.str "scalar" 524)]) 0), (List.toArray [])⟩
noncomputable abbrev o_243_0 (P : Params) : Obj := ⟨(.type "dict"), .none, (.dict (List.toArray [⟨(PySem.PyData.keyHash P "__module__"), (.str "__module__" 506), (.str "perlcore.values" 351)⟩, ⟨(PySem.PyData.keyHash P "__firstlineno__"), (.str "__firstlineno__" 510), (.int 119 509)⟩, ⟨(PySem.PyData.keyHash P "__init__"), (.str "__init__" 519), (.ref 241)⟩, ⟨(PySem.PyData.keyHash P "__static_attributes__"), (.str "__static_attributes__" 525), (.ref 242)⟩, ⟨(PySem.PyData.keyHash P "__doc__"), (.str "__doc__" 526), PySem.Value.none⟩]) 2), (List.toArray [])⟩
noncomputable abbrev o_244_0 (_ : Params) : Obj := ⟨(.type "type"), .none, (.cls ⟨"Glob", [(.ref 147)], [(.ref 244), (.ref 147), (.type "object")], 243, "Glob", Bool.true, [], [], Bool.false, .none, Bool.false⟩), (List.toArray [(.some (.ref 228)), .none, (.some (.str "Glob" 499)), (.some (.str "Glob" 507)), (.some (.builtin "object.__new__")), (.some (.bool Bool.true))])⟩
noncomputable abbrev o_245_0 (_ : Params) : Obj := ⟨(.type "super"), .none, (.fields (List.toArray [(.ref 244), (.ref 244), (.ref 244)])), (List.toArray [])⟩
noncomputable abbrev o_246_0 (_ : Params) : Obj := ⟨(.type "builtin_function_or_method"), .none, (.fields (List.toArray [(.builtin "object.__init_subclass__"), (.ref 244)])), (List.toArray [])⟩
noncomputable abbrev o_3_9 (P : Params) : Obj := ⟨(.type "dict"), .none, (.dict (List.toArray [⟨(PySem.PyData.keyHash P "__name__"), (.str "__name__" 165), (.str "perlcore.convert" 583)⟩, ⟨(PySem.PyData.keyHash P "__doc__"), (.str "__doc__" 166), PySem.Value.none⟩, ⟨(PySem.PyData.keyHash P "__package__"), (.str "__package__" 167), PySem.Value.none⟩, ⟨(PySem.PyData.keyHash P "__loader__"), (.str "__loader__" 168), (.builtin "__main__.__loader__#opaque")⟩, ⟨(PySem.PyData.keyHash P "__spec__"), (.str "__spec__" 169), PySem.Value.none⟩, ⟨(PySem.PyData.keyHash P "__annotations__"), (.str "__annotations__" 170), (.ref 6)⟩, ⟨(PySem.PyData.keyHash P "__builtins__"), (.str "__builtins__" 171), (.ref 4)⟩, ⟨(PySem.PyData.keyHash P "__file__"), (.str "__file__" 173), (.str "/claim/cut.py" 172)⟩, ⟨(PySem.PyData.keyHash P "__cached__"), (.str "__cached__" 174), PySem.Value.none⟩, ⟨(PySem.PyData.keyHash P "PerlError"), (.str "PerlError" 217), (.ref 31)⟩, ⟨(PySem.PyData.keyHash P "Die"), (.str "Die" 242), (.ref 51)⟩, ⟨(PySem.PyData.keyHash P "FIGURES"), (.str "FIGURES" 246), (.str "0123456789" 245)⟩, ⟨(PySem.PyData.keyHash P "SPACES"), (.str "SPACES" 248), (.str " \t\n\x0d\x0c\x0b" 247)⟩, ⟨(PySem.PyData.keyHash P "wrap_number"), (.str "wrap_number" 256), (.ref 60)⟩, ⟨(PySem.PyData.keyHash P "add_numbers"), (.str "add_numbers" 265), (.ref 67)⟩, ⟨(PySem.PyData.keyHash P "sub_numbers"), (.str "sub_numbers" 274), (.ref 74)⟩, ⟨(PySem.PyData.keyHash P "mul_numbers"), (.str "mul_numbers" 283), (.ref 81)⟩, ⟨(PySem.PyData.keyHash P "cut_quotient"), (.str "cut_quotient" 292), (.ref 88)⟩, ⟨(PySem.PyData.keyHash P "div_numbers"), (.str "div_numbers" 301), (.ref 95)⟩, ⟨(PySem.PyData.keyHash P "mod_numbers"), (.str "mod_numbers" 310), (.ref 102)⟩, ⟨(PySem.PyData.keyHash P "power_numbers"), (.str "power_numbers" 320), (.ref 109)⟩, ⟨(PySem.PyData.keyHash P "number_head"), (.str "number_head" 330), (.ref 116)⟩, ⟨(PySem.PyData.keyHash P "numeric_text"), (.str "numeric_text" 342), (.ref 123)⟩, ⟨(PySem.PyData.keyHash P "number_text"), (.str "number_text" 350), (.ref 130)⟩, ⟨(PySem.PyData.keyHash P "HEX_FIGURES"), (.str "HEX_FIGURES" 354), (.str "0123456789abcdef" 353)⟩, ⟨(PySem.PyData.keyHash P "Thing"), (.str "Thing" 388), (.ref 147)⟩, ⟨(PySem.PyData.keyHash P "Scalar"), (.str "Scalar" 415), (.ref 168)⟩, ⟨(PySem.PyData.keyHash P "Array"), (.str "Array" 441), (.ref 187)⟩, ⟨(PySem.PyData.keyHash P "Hash"), (.str "Hash" 468), (.ref 206)⟩, ⟨(PySem.PyData.keyHash P "Code"), (.str "Code" 498), (.ref 225)⟩, ⟨(PySem.PyData.keyHash P "Glob"), (.str "Glob" 528), (.ref 244)⟩, ⟨(PySem.PyData.keyHash P "Ref"), (.str "Ref" 559), (.ref 264)⟩, ⟨(PySem.PyData.keyHash P "thing_word"), (.str "thing_word" 566), (.ref 275)⟩, ⟨(PySem.PyData.keyHash P "hex_of"), (.str "hex_of" 574), (.ref 282)⟩, ⟨(PySem.PyData.keyHash P "ref_text"), (.str "ref_text" 582), (.ref 289)⟩, ⟨(PySem.PyData.keyHash P "value_of"), (.str "value_of" 591), (.ref 296)⟩, ⟨(PySem.PyData.keyHash P "to_text"), (.str "to_text" 598), (.ref 303)⟩, ⟨(PySem.PyData.keyHash P "to_number"), (.str "to_number" 606), (.ref 310)⟩, ⟨(PySem.PyData.keyHash P "compare_num"), (.str "compare_num" 617), (.ref 317)⟩]) 39), (List.toArray [])⟩
noncomputable abbrev o_12_9 (_ : Params) : Obj := ⟨PySem.Value.none, .none, (.fields (List.toArray ((.int 2 0) :: (.int 0 0) :: (.ref 20) :: (.int 7 0) :: (.int 0 0) :: (.ref 40) :: (.int 15 0) :: (.int 0 0) :: (.ref 59) :: (.int 20 0) :: (.int 0 0) :: (.ref 66) :: (.int 22 0) :: (.int 0 0) :: (.ref 73) :: (.int 24 0) :: (.int 0 0) :: (.ref 80) :: (.int 26 0) :: (.int 0 0) :: (.ref 87) :: (.int 31 0) :: (.int 0 0) :: (.ref 94) :: (.int 35 0) :: (.int 0 0) :: (.ref 101) :: (.int 39 0) :: (.int 0 0) :: (.ref 108) :: (.int 51 0) :: (.int 0 0) :: (.ref 115) :: (.int 64 0) :: (.int 0 0) :: (.ref 122) :: (.int 73 0) :: (.int 0 0) :: (.ref 129) :: (.int 83 0) :: (.int 0 0) :: (.ref 136) :: (.int 92 0) :: (.int 0 0) :: (.ref 157) :: (.int 98 0) :: (.int 0 0) :: (.ref 176) :: (.int 104 0) :: (.int 0 0) :: (.ref 195) :: (.int 111 0) :: (.int 0 0) :: (.ref 214) :: (.int 119 0) :: (.int 0 0) :: (.ref 233) :: (.int 128 0) :: (.int 0 0) :: (.ref 252) :: (.int 133 0) :: (.int 0 0) :: (.ref 274) :: (.int 145 0) :: (.int 0 0) :: (.ref 281) :: (.int 151 0) :: (.int 0 0) :: (.ref 288) :: (.int 157 0) :: (.int 0 0) :: (.ref 295) :: (.int 163 0) :: (.int 0 0) :: (.ref 302) :: (.int 171 0) :: (.int 0 0) :: (.ref 309) :: (.int 179 0) :: (.int 0 0) :: (.ref 316) :: []))), (List.toArray [])⟩
noncomputable abbrev o_247_0 (_ : Params) : Obj := ⟨(.type "tuple"), .none, (.seq (List.toArray []) 0), (List.toArray [])⟩
noncomputable abbrev o_248_0 (_ : Params) : Obj := ⟨(.type "builtin_function_or_method"), .none, (.fields (List.toArray [(.builtin "type.__prepare__"), (.type "type")])), (List.toArray [])⟩
noncomputable abbrev o_249_0 (P : Params) : Obj := ⟨(.type "dict"), .none, (.dict (List.toArray [⟨(PySem.PyData.keyHash P "__module__"), (.str "__module__" 536), (.str "perlcore.values" 351)⟩, ⟨(PySem.PyData.keyHash P "__qualname__"), (.str "__qualname__" 538), (.str "Ref" 537)⟩, ⟨(PySem.PyData.keyHash P "__firstlineno__"), (.str "__firstlineno__" 540), (.int 128 539)⟩, ⟨(PySem.PyData.keyHash P "__init__"), (.str "__init__" 549), (.ref 261)⟩, ⟨(PySem.PyData.keyHash P "__static_attributes__"), (.str "__static_attributes__" 552), (.ref 262)⟩]) 5), (List.toArray [])⟩
noncomputable abbrev o_250_0 (_ : Params) : Obj := ⟨(.type "tuple"), .none, (.seq (List.toArray []) 0), (List.toArray [])⟩
noncomputable abbrev o_251_0 (_ : Params) : Obj := ⟨PySem.Value.none, .none, (.fields (List.toArray [(.int 130 0), (.int 4 0), (.ref 260)])), (List.toArray [])⟩
noncomputable abbrev o_252_0 (_ : Params) : Obj := ⟨(.type "code"), .none, (.fields (List.toArray [(.str "Ref" 531), (.str "Ref" 532), (.str "/claim/cut.py" 533), (.int 128 0), (.int 0 0), (.int 0 0), (.int 0 0), (.int 0 0), (.ref 250), (.bool Bool.false), (.int 181 0), (.ref 251), PySem.Value.none, PySem.Value.none, PySem.Value.none, PySem.Value.none, (.int 534 0), (.int 128 0), (.str "/claim/cut.py" 535)])), (List.toArray [])⟩
noncomputable abbrev o_253_0 (_ : Params) : Obj := ⟨(.type "frame"), .none, PySem.Data.plain, (List.toArray [(.some (.ref 252)), (.some (.ref 3)), (.some (.ref 249)), .none, (.some (.str "perlcore.values" 351)), .none, (.some (.ref 0))])⟩
noncomputable abbrev o_254_0 (_ : Params) : Obj := ⟨(.type "tuple"), .none, (.seq (List.toArray [(.bool Bool.false)]) 0), (List.toArray [])⟩
noncomputable abbrev o_255_0 (_ : Params) : Obj := ⟨(.type "tuple"), .none, (.seq (List.toArray []) 0), (List.toArray [])⟩
noncomputable abbrev o_256_0 (_ : Params) : Obj := ⟨PySem.Value.none, .none, (.fields (List.toArray [])), (List.toArray [])⟩
noncomputable abbrev o_257_0 (_ : Params) : Obj := ⟨(.type "tuple"), .none, (.seq (List.toArray [(.str "self" 544), (.str "target" 545), (.str "is_weak" 546)]) 0), (List.toArray [])⟩
noncomputable abbrev o_258_0 (_ : Params) : Obj := ⟨(.type "tuple"), .none, (.seq (List.toArray []) 0), (List.toArray [])⟩
noncomputable abbrev o_259_0 (_ : Params) : Obj := ⟨PySem.Value.none, .none, (.func ⟨"__init__", "Ref.__init__", (fA (inAt 25 0)), (.stmts (fB (inAt 25 0))), (fS (inAt 25 0)), 0, [], PySem.Value.none, PySem.Value.none, PySem.Value.none, PySem.Value.none, .none, PySem.Value.none, PySem.Value.none, 0⟩), (List.toArray [])⟩
noncomputable abbrev o_260_0 (_ : Params) : Obj := ⟨(.type "code"), .none, (.fields (List.toArray [(.str "__init__" 541), (.str "Ref.__init__" 542), (.str "/claim/cut.py" 543), (.int 130 0), (.int 3 0), (.int 0 0), (.int 0 0), (.int 3 0), (.ref 255), (.bool Bool.true), (.int 181 0), (.ref 256), PySem.Value.none, (.ref 257), (.ref 258), (.ref 259), (.int 547 0), (.int 130 0), (.str "/claim/cut.py" 548)])), (List.toArray [])⟩
noncomputable abbrev o_261_0 (_ : Params) : Obj := ⟨(.type "function"), .none, (.func ⟨"__init__", "Ref.__init__", (fA (inAt 25 0)), (.stmts (fB (inAt 25 0))), (fS (inAt 25 0)), 3, [], (.ref 254), PySem.Value.none, PySem.Value.none, (.str "perlcore.values" 351), .none, (.ref 260), PySem.Value.none, 0⟩), (List.toArray [])⟩
noncomputable abbrev o_262_0 (_ : Params) : Obj := ⟨(.type "tuple"), .none, (.seq (List.toArray [(.str "is_weak" 550), (.str "target" 551)]) 0), (List.toArray [])⟩
noncomputable abbrev o_263_0 (P : Params) : Obj := ⟨(.type "dict"), .none, (.dict (List.toArray [⟨(PySem.PyData.keyHash P "__module__"), (.str "__module__" 536), (.str "perlcore.values" 351)⟩, ⟨(PySem.PyData.keyHash P "__firstlineno__"), (.str "__firstlineno__" 540), (.int 128 539)⟩, ⟨(PySem.PyData.keyHash P "__init__"), (.str "__init__" 549), (.ref 261)⟩, ⟨(PySem.PyData.keyHash P "__static_attributes__"), (.str "__static_attributes__" 552), (.ref 262)⟩, ⟨(PySem.PyData.keyHash P "__dict__"), (.str "__dict__" 554), (.ref 265)⟩, ⟨(PySem.PyData.keyHash P "__weakref__"), (.str "__weakref__" 556), (.ref 266)⟩, ⟨(PySem.PyData.keyHash P "__doc__"), (.str "__doc__" 557), PySem.Value.none⟩]) 4), (List.toArray [])⟩
noncomputable abbrev o_264_0 (_ : Params) : Obj := ⟨(.type "type"), .none, (.cls ⟨"Ref", [(.type "object")], [(.ref 264), (.type "object")], 263, "Ref", Bool.true, [], [], Bool.false, .none, Bool.false⟩), (List.toArray [.none, .none, (.some (.str "Ref" 529)), (.some (.str "Ref" 537)), (.some (.builtin "object.__new__")), (.some (.bool Bool.true))])⟩
noncomputable abbrev o_265_0 (_ : Params) : Obj := ⟨(.type "getset_descriptor"), .none, (.fields (List.toArray [(.str "__dict__" 553), (.ref 264), (.builtin "function.__dict__"), (.builtin "function.__dict__#set")])), (List.toArray [])⟩
noncomputable abbrev o_266_0 (_ : Params) : Obj := ⟨(.type "getset_descriptor"), .none, (.fields (List.toArray [(.str "__weakref__" 555), (.ref 264), (.builtin "ExceptionGroup.__weakref__"), PySem.Value.none])), (List.toArray [])⟩
noncomputable abbrev o_267_0 (_ : Params) : Obj := ⟨(.type "super"), .none, (.fields (List.toArray [(.ref 264), (.ref 264), (.ref 264)])), (List.toArray [])⟩
noncomputable abbrev o_268_0 (_ : Params) : Obj := ⟨(.type "builtin_function_or_method"), .none, (.fields (List.toArray [(.builtin "object.__init_subclass__"), (.ref 264)])), (List.toArray [])⟩
noncomputable abbrev o_269_0 (_ : Params) : Obj := ⟨(.type "tuple"), .none, (.seq (List.toArray []) 0), (List.toArray [])⟩
noncomputable abbrev o_270_0 (_ : Params) : Obj := ⟨PySem.Value.none, .none, (.fields (List.toArray [])), (List.toArray [])⟩
noncomputable abbrev o_271_0 (_ : Params) : Obj := ⟨(.type "tuple"), .none, (.seq (List.toArray [(.str "thing" 563)]) 0), (List.toArray [])⟩
noncomputable abbrev o_272_0 (_ : Params) : Obj := ⟨(.type "tuple"), .none, (.seq (List.toArray []) 0), (List.toArray [])⟩
noncomputable abbrev o_273_0 (_ : Params) : Obj := ⟨PySem.Value.none, .none, (.func ⟨"thing_word", "thing_word", (fA (topAt 26)), (.stmts (fB (topAt 26))), (fS (topAt 26)), 0, [], PySem.Value.none, PySem.Value.none, PySem.Value.none, PySem.Value.none, .none, PySem.Value.none, PySem.Value.none, 0⟩), (List.toArray [])⟩
noncomputable abbrev o_274_0 (_ : Params) : Obj := ⟨(.type "code"), .none, (.fields (List.toArray [(.str "thing_word" 560), (.str "thing_word" 561), (.str "/claim/cut.py" 562), (.int 133 0), (.int 1 0), (.int 0 0), (.int 0 0), (.int 3 0), (.ref 269), (.bool Bool.true), (.int 181 0), (.ref 270), PySem.Value.none, (.ref 271), (.ref 272), (.ref 273), (.int 564 0), (.int 133 0), (.str "/claim/cut.py" 565)])), (List.toArray [])⟩
noncomputable abbrev o_275_0 (_ : Params) : Obj := ⟨(.type "function"), .none, (.func ⟨"thing_word", "thing_word", (fA (topAt 26)), (.stmts (fB (topAt 26))), (fS (topAt 26)), 3, [], PySem.Value.none, PySem.Value.none, PySem.Value.none, (.str "perlcore.values" 351), .none, (.ref 274), PySem.Value.none, 0⟩), (List.toArray [])⟩
noncomputable abbrev o_276_0 (_ : Params) : Obj := ⟨(.type "tuple"), .none, (.seq (List.toArray []) 0), (List.toArray [])⟩
noncomputable abbrev o_277_0 (_ : Params) : Obj := ⟨PySem.Value.none, .none, (.fields (List.toArray [])), (List.toArray [])⟩
noncomputable abbrev o_278_0 (_ : Params) : Obj := ⟨(.type "tuple"), .none, (.seq (List.toArray [(.str "number" 570), (.str "text" 571)]) 0), (List.toArray [])⟩
noncomputable abbrev o_279_0 (_ : Params) : Obj := ⟨(.type "tuple"), .none, (.seq (List.toArray []) 0), (List.toArray [])⟩
noncomputable abbrev o_280_0 (_ : Params) : Obj := ⟨PySem.Value.none, .none, (.func ⟨"hex_of", "hex_of", (fA (topAt 27)), (.stmts (fB (topAt 27))), (fS (topAt 27)), 0, [], PySem.Value.none, PySem.Value.none, PySem.Value.none, PySem.Value.none, .none, PySem.Value.none, PySem.Value.none, 0⟩), (List.toArray [])⟩
noncomputable abbrev o_281_0 (_ : Params) : Obj := ⟨(.type "code"), .none, (.fields (List.toArray [(.str "hex_of" 567), (.str "hex_of" 568), (.str "/claim/cut.py" 569), (.int 145 0), (.int 1 0), (.int 0 0), (.int 0 0), (.int 3 0), (.ref 276), (.bool Bool.true), (.int 181 0), (.ref 277), PySem.Value.none, (.ref 278), (.ref 279), (.ref 280), (.int 572 0), (.int 145 0), (.str "/claim/cut.py" 573)])), (List.toArray [])⟩
noncomputable abbrev o_282_0 (_ : Params) : Obj := ⟨(.type "function"), .none, (.func ⟨"hex_of", "hex_of", (fA (topAt 27)), (.stmts (fB (topAt 27))), (fS (topAt 27)), 3, [], PySem.Value.none, PySem.Value.none, PySem.Value.none, (.str "perlcore.values" 351), .none, (.ref 281), PySem.Value.none, 0⟩), (List.toArray [])⟩
noncomputable abbrev o_283_0 (_ : Params) : Obj := ⟨(.type "tuple"), .none, (.seq (List.toArray []) 0), (List.toArray [])⟩
noncomputable abbrev o_284_0 (_ : Params) : Obj := ⟨PySem.Value.none, .none, (.fields (List.toArray [])), (List.toArray [])⟩
noncomputable abbrev o_285_0 (_ : Params) : Obj := ⟨(.type "tuple"), .none, (.seq (List.toArray [(.str "ref" 578), (.str "text" 579)]) 0), (List.toArray [])⟩
noncomputable abbrev o_286_0 (_ : Params) : Obj := ⟨(.type "tuple"), .none, (.seq (List.toArray []) 0), (List.toArray [])⟩
noncomputable abbrev o_287_0 (_ : Params) : Obj := ⟨PySem.Value.none, .none, (.func ⟨"ref_text", "ref_text", (fA (topAt 28)), (.stmts (fB (topAt 28))), (fS (topAt 28)), 0, [], PySem.Value.none, PySem.Value.none, PySem.Value.none, PySem.Value.none, .none, PySem.Value.none, PySem.Value.none, 0⟩), (List.toArray [])⟩
noncomputable abbrev o_288_0 (_ : Params) : Obj := ⟨(.type "code"), .none, (.fields (List.toArray [(.str "ref_text" 575), (.str "ref_text" 576), (.str "/claim/cut.py" 577), (.int 151 0), (.int 1 0), (.int 0 0), (.int 0 0), (.int 3 0), (.ref 283), (.bool Bool.true), (.int 181 0), (.ref 284), PySem.Value.none, (.ref 285), (.ref 286), (.ref 287), (.int 580 0), (.int 151 0), (.str "/claim/cut.py" 581)])), (List.toArray [])⟩
noncomputable abbrev o_289_0 (_ : Params) : Obj := ⟨(.type "function"), .none, (.func ⟨"ref_text", "ref_text", (fA (topAt 28)), (.stmts (fB (topAt 28))), (fS (topAt 28)), 3, [], PySem.Value.none, PySem.Value.none, PySem.Value.none, (.str "perlcore.values" 351), .none, (.ref 288), PySem.Value.none, 0⟩), (List.toArray [])⟩
noncomputable abbrev o_290_0 (_ : Params) : Obj := ⟨(.type "tuple"), .none, (.seq (List.toArray []) 0), (List.toArray [])⟩
noncomputable abbrev o_291_0 (_ : Params) : Obj := ⟨PySem.Value.none, .none, (.fields (List.toArray [])), (List.toArray [])⟩
noncomputable abbrev o_292_0 (_ : Params) : Obj := ⟨(.type "tuple"), .none, (.seq (List.toArray [(.str "x" 588)]) 0), (List.toArray [])⟩
noncomputable abbrev o_293_0 (_ : Params) : Obj := ⟨(.type "tuple"), .none, (.seq (List.toArray []) 0), (List.toArray [])⟩
noncomputable abbrev o_294_0 (_ : Params) : Obj := ⟨PySem.Value.none, .none, (.func ⟨"value_of", "value_of", (fA (topAt 30)), (.stmts (fB (topAt 30))), (fS (topAt 30)), 0, [], PySem.Value.none, PySem.Value.none, PySem.Value.none, PySem.Value.none, .none, PySem.Value.none, PySem.Value.none, 0⟩), (List.toArray [])⟩
noncomputable abbrev o_295_0 (_ : Params) : Obj := ⟨(.type "code"), .none, (.fields (List.toArray [(.str "value_of" 585), (.str "value_of" 586), (.str "/claim/cut.py" 587), (.int 157 0), (.int 1 0), (.int 0 0), (.int 0 0), (.int 3 0), (.ref 290), (.bool Bool.true), (.int 181 0), (.ref 291), PySem.Value.none, (.ref 292), (.ref 293), (.ref 294), (.int 589 0), (.int 157 0), (.str "/claim/cut.py" 590)])), (List.toArray [])⟩
noncomputable abbrev o_296_0 (_ : Params) : Obj := ⟨(.type "function"), .none, (.func ⟨"value_of", "value_of", (fA (topAt 30)), (.stmts (fB (topAt 30))), (fS (topAt 30)), 3, [], PySem.Value.none, PySem.Value.none, PySem.Value.none, (.str "perlcore.convert" 583), .none, (.ref 295), PySem.Value.none, 0⟩), (List.toArray [])⟩
noncomputable abbrev o_297_0 (_ : Params) : Obj := ⟨(.type "tuple"), .none, (.seq (List.toArray []) 0), (List.toArray [])⟩
noncomputable abbrev o_298_0 (_ : Params) : Obj := ⟨PySem.Value.none, .none, (.fields (List.toArray [])), (List.toArray [])⟩
noncomputable abbrev o_299_0 (_ : Params) : Obj := ⟨(.type "tuple"), .none, (.seq (List.toArray [(.str "value" 595)]) 0), (List.toArray [])⟩
noncomputable abbrev o_300_0 (_ : Params) : Obj := ⟨(.type "tuple"), .none, (.seq (List.toArray []) 0), (List.toArray [])⟩
noncomputable abbrev o_301_0 (_ : Params) : Obj := ⟨PySem.Value.none, .none, (.func ⟨"to_text", "to_text", (fA (topAt 31)), (.stmts (fB (topAt 31))), (fS (topAt 31)), 0, [], PySem.Value.none, PySem.Value.none, PySem.Value.none, PySem.Value.none, .none, PySem.Value.none, PySem.Value.none, 0⟩), (List.toArray [])⟩
noncomputable abbrev o_302_0 (_ : Params) : Obj := ⟨(.type "code"), .none, (.fields (List.toArray [(.str "to_text" 592), (.str "to_text" 593), (.str "/claim/cut.py" 594), (.int 163 0), (.int 1 0), (.int 0 0), (.int 0 0), (.int 3 0), (.ref 297), (.bool Bool.true), (.int 181 0), (.ref 298), PySem.Value.none, (.ref 299), (.ref 300), (.ref 301), (.int 596 0), (.int 163 0), (.str "/claim/cut.py" 597)])), (List.toArray [])⟩
noncomputable abbrev o_303_0 (_ : Params) : Obj := ⟨(.type "function"), .none, (.func ⟨"to_text", "to_text", (fA (topAt 31)), (.stmts (fB (topAt 31))), (fS (topAt 31)), 3, [], PySem.Value.none, PySem.Value.none, PySem.Value.none, (.str "perlcore.convert" 583), .none, (.ref 302), PySem.Value.none, 0⟩), (List.toArray [])⟩
noncomputable abbrev o_304_0 (_ : Params) : Obj := ⟨(.type "tuple"), .none, (.seq (List.toArray []) 0), (List.toArray [])⟩
noncomputable abbrev o_305_0 (_ : Params) : Obj := ⟨PySem.Value.none, .none, (.fields (List.toArray [])), (List.toArray [])⟩
noncomputable abbrev o_306_0 (_ : Params) : Obj := ⟨(.type "tuple"), .none, (.seq (List.toArray [(.str "value" 602), (.str "limits" 603)]) 0), (List.toArray [])⟩
noncomputable abbrev o_307_0 (_ : Params) : Obj := ⟨(.type "tuple"), .none, (.seq (List.toArray []) 0), (List.toArray [])⟩
noncomputable abbrev o_308_0 (_ : Params) : Obj := ⟨PySem.Value.none, .none, (.func ⟨"to_number", "to_number", (fA (topAt 32)), (.stmts (fB (topAt 32))), (fS (topAt 32)), 0, [], PySem.Value.none, PySem.Value.none, PySem.Value.none, PySem.Value.none, .none, PySem.Value.none, PySem.Value.none, 0⟩), (List.toArray [])⟩
noncomputable abbrev o_309_0 (_ : Params) : Obj := ⟨(.type "code"), .none, (.fields (List.toArray [(.str "to_number" 599), (.str "to_number" 600), (.str "/claim/cut.py" 601), (.int 171 0), (.int 2 0), (.int 0 0), (.int 0 0), (.int 3 0), (.ref 304), (.bool Bool.true), (.int 181 0), (.ref 305), PySem.Value.none, (.ref 306), (.ref 307), (.ref 308), (.int 604 0), (.int 171 0), (.str "/claim/cut.py" 605)])), (List.toArray [])⟩
noncomputable abbrev o_310_0 (_ : Params) : Obj := ⟨(.type "function"), .none, (.func ⟨"to_number", "to_number", (fA (topAt 32)), (.stmts (fB (topAt 32))), (fS (topAt 32)), 3, [], PySem.Value.none, PySem.Value.none, PySem.Value.none, (.str "perlcore.convert" 583), .none, (.ref 309), PySem.Value.none, 0⟩), (List.toArray [])⟩
noncomputable abbrev o_311_0 (_ : Params) : Obj := ⟨(.type "tuple"), .none, (.seq (List.toArray []) 0), (List.toArray [])⟩
noncomputable abbrev o_312_0 (_ : Params) : Obj := ⟨PySem.Value.none, .none, (.fields (List.toArray [])), (List.toArray [])⟩
noncomputable abbrev o_313_0 (_ : Params) : Obj := ⟨(.type "tuple"), .none, (.seq (List.toArray [(.str "x" 610), (.str "y" 611), (.str "limits" 612), (.str "a" 613), (.str "b" 614)]) 0), (List.toArray [])⟩
noncomputable abbrev o_314_0 (_ : Params) : Obj := ⟨(.type "tuple"), .none, (.seq (List.toArray []) 0), (List.toArray [])⟩
noncomputable abbrev o_315_0 (_ : Params) : Obj := ⟨PySem.Value.none, .none, (.func ⟨"compare_num", "compare_num", (fA (topAt 33)), (.stmts (fB (topAt 33))), (fS (topAt 33)), 0, [], PySem.Value.none, PySem.Value.none, PySem.Value.none, PySem.Value.none, .none, PySem.Value.none, PySem.Value.none, 0⟩), (List.toArray [])⟩
noncomputable abbrev o_316_0 (_ : Params) : Obj := ⟨(.type "code"), .none, (.fields (List.toArray [(.str "compare_num" 607), (.str "compare_num" 608), (.str "/claim/cut.py" 609), (.int 179 0), (.int 3 0), (.int 0 0), (.int 0 0), (.int 3 0), (.ref 311), (.bool Bool.true), (.int 181 0), (.ref 312), PySem.Value.none, (.ref 313), (.ref 314), (.ref 315), (.int 615 0), (.int 179 0), (.str "/claim/cut.py" 616)])), (List.toArray [])⟩
noncomputable abbrev o_317_0 (_ : Params) : Obj := ⟨(.type "function"), .none, (.func ⟨"compare_num", "compare_num", (fA (topAt 33)), (.stmts (fB (topAt 33))), (fS (topAt 33)), 3, [], PySem.Value.none, PySem.Value.none, PySem.Value.none, (.str "perlcore.convert" 583), .none, (.ref 316), PySem.Value.none, 0⟩), (List.toArray [])⟩
noncomputable abbrev o_3_10 (P : Params) : Obj := ⟨(.type "dict"), .none, (.dict (List.toArray (⟨(PySem.PyData.keyHash P "__name__"), (.str "__name__" 165), (.str "perlcore.limits" 742)⟩ :: ⟨(PySem.PyData.keyHash P "__doc__"), (.str "__doc__" 166), PySem.Value.none⟩ :: ⟨(PySem.PyData.keyHash P "__package__"), (.str "__package__" 167), PySem.Value.none⟩ :: ⟨(PySem.PyData.keyHash P "__loader__"), (.str "__loader__" 168), (.builtin "__main__.__loader__#opaque")⟩ :: ⟨(PySem.PyData.keyHash P "__spec__"), (.str "__spec__" 169), PySem.Value.none⟩ :: ⟨(PySem.PyData.keyHash P "__annotations__"), (.str "__annotations__" 170), (.ref 6)⟩ :: ⟨(PySem.PyData.keyHash P "__builtins__"), (.str "__builtins__" 171), (.ref 4)⟩ :: ⟨(PySem.PyData.keyHash P "__file__"), (.str "__file__" 173), (.str "/claim/cut.py" 172)⟩ :: ⟨(PySem.PyData.keyHash P "__cached__"), (.str "__cached__" 174), PySem.Value.none⟩ :: ⟨(PySem.PyData.keyHash P "PerlError"), (.str "PerlError" 217), (.ref 31)⟩ :: ⟨(PySem.PyData.keyHash P "Die"), (.str "Die" 242), (.ref 51)⟩ :: ⟨(PySem.PyData.keyHash P "FIGURES"), (.str "FIGURES" 246), (.str "0123456789" 245)⟩ :: ⟨(PySem.PyData.keyHash P "SPACES"), (.str "SPACES" 248), (.str " \t\n\x0d\x0c\x0b" 247)⟩ :: ⟨(PySem.PyData.keyHash P "wrap_number"), (.str "wrap_number" 256), (.ref 60)⟩ :: ⟨(PySem.PyData.keyHash P "add_numbers"), (.str "add_numbers" 265), (.ref 67)⟩ :: ⟨(PySem.PyData.keyHash P "sub_numbers"), (.str "sub_numbers" 274), (.ref 74)⟩ :: ⟨(PySem.PyData.keyHash P "mul_numbers"), (.str "mul_numbers" 283), (.ref 81)⟩ :: ⟨(PySem.PyData.keyHash P "cut_quotient"), (.str "cut_quotient" 292), (.ref 88)⟩ :: ⟨(PySem.PyData.keyHash P "div_numbers"), (.str "div_numbers" 301), (.ref 95)⟩ :: ⟨(PySem.PyData.keyHash P "mod_numbers"), (.str "mod_numbers" 310), (.ref 102)⟩ :: ⟨(PySem.PyData.keyHash P "power_numbers"), (.str "power_numbers" 320), (.ref 109)⟩ :: ⟨(PySem.PyData.keyHash P "number_head"), (.str "number_head" 330), (.ref 116)⟩ :: ⟨(PySem.PyData.keyHash P "numeric_text"), (.str "numeric_text" 342), (.ref 123)⟩ :: ⟨(PySem.PyData.keyHash P "number_text"), (.str "number_text" 350), (.ref 130)⟩ :: ⟨(PySem.PyData.keyHash P "HEX_FIGURES"), (.str "HEX_FIGURES" 354), (.str "0123456789abcdef" 353)⟩ :: ⟨(PySem.PyData.keyHash P "Thing"), (.str "Thing" 388), (.ref 147)⟩ :: ⟨(PySem.PyData.keyHash P "Scalar"), (.str "Scalar" 415), (.ref 168)⟩ :: ⟨(PySem.PyData.keyHash P "Array"), (.str "Array" 441), (.ref 187)⟩ :: ⟨(PySem.PyData.keyHash P "Hash"), (.str "Hash" 468), (.ref 206)⟩ :: ⟨(PySem.PyData.keyHash P "Code"), (.str "Code" 498), (.ref 225)⟩ :: ⟨(PySem.PyData.keyHash P "Glob"), (.str "Glob" 528), (.ref 244)⟩ :: ⟨(PySem.PyData.keyHash P "Ref"), (.str "Ref" 559), (.ref 264)⟩ :: ⟨(PySem.PyData.keyHash P "thing_word"), (.str "thing_word" 566), (.ref 275)⟩ :: ⟨(PySem.PyData.keyHash P "hex_of"), (.str "hex_of" 574), (.ref 282)⟩ :: ⟨(PySem.PyData.keyHash P "ref_text"), (.str "ref_text" 582), (.ref 289)⟩ :: ⟨(PySem.PyData.keyHash P "value_of"), (.str "value_of" 591), (.ref 296)⟩ :: ⟨(PySem.PyData.keyHash P "to_text"), (.str "to_text" 598), (.ref 303)⟩ :: ⟨(PySem.PyData.keyHash P "to_number"), (.str "to_number" 606), (.ref 310)⟩ :: ⟨(PySem.PyData.keyHash P "compare_num"), (.str "compare_num" 617), (.ref 317)⟩ :: ⟨(PySem.PyData.keyHash P "compare_text"), (.str "compare_text" 627), (.ref 324)⟩ :: ⟨(PySem.PyData.keyHash P "by_numbers"), (.str "by_numbers" 637), (.ref 331)⟩ :: ⟨(PySem.PyData.keyHash P "op_add"), (.str "op_add" 646), (.ref 338)⟩ :: ⟨(PySem.PyData.keyHash P "op_sub"), (.str "op_sub" 655), (.ref 345)⟩ :: ⟨(PySem.PyData.keyHash P "op_mul"), (.str "op_mul" 664), (.ref 352)⟩ :: ⟨(PySem.PyData.keyHash P "op_div"), (.str "op_div" 673), (.ref 359)⟩ :: ⟨(PySem.PyData.keyHash P "op_mod"), (.str "op_mod" 682), (.ref 366)⟩ :: ⟨(PySem.PyData.keyHash P "op_power"), (.str "op_power" 691), (.ref 373)⟩ :: ⟨(PySem.PyData.keyHash P "arithmetic_ops"), (.str "arithmetic_ops" 697), (.ref 380)⟩ :: ⟨(PySem.PyData.keyHash P "merged_runs"), (.str "merged_runs" 711), (.ref 387)⟩ :: ⟨(PySem.PyData.keyHash P "sorted_members"), (.str "sorted_members" 717), (.ref 392)⟩ :: ⟨(PySem.PyData.keyHash P "order_by_text"), (.str "order_by_text" 725), (.ref 399)⟩ :: ⟨(PySem.PyData.keyHash P "sorted_by_text"), (.str "sorted_by_text" 732), (.ref 406)⟩ :: ⟨(PySem.PyData.keyHash P "is_sorted"), (.str "is_sorted" 741), (.ref 413)⟩ :: [])) 53), (List.toArray [])⟩
noncomputable abbrev o_12_10 (_ : Params) : Obj := ⟨PySem.Value.none, .none, (.fields (List.toArray ((.int 2 0) :: (.int 0 0) :: (.ref 20) :: (.int 7 0) :: (.int 0 0) :: (.ref 40) :: (.int 15 0) :: (.int 0 0) :: (.ref 59) :: (.int 20 0) :: (.int 0 0) :: (.ref 66) :: (.int 22 0) :: (.int 0 0) :: (.ref 73) :: (.int 24 0) :: (.int 0 0) :: (.ref 80) :: (.int 26 0) :: (.int 0 0) :: (.ref 87) :: (.int 31 0) :: (.int 0 0) :: (.ref 94) :: (.int 35 0) :: (.int 0 0) :: (.ref 101) :: (.int 39 0) :: (.int 0 0) :: (.ref 108) :: (.int 51 0) :: (.int 0 0) :: (.ref 115) :: (.int 64 0) :: (.int 0 0) :: (.ref 122) :: (.int 73 0) :: (.int 0 0) :: (.ref 129) :: (.int 83 0) :: (.int 0 0) :: (.ref 136) :: (.int 92 0) :: (.int 0 0) :: (.ref 157) :: (.int 98 0) :: (.int 0 0) :: (.ref 176) :: (.int 104 0) :: (.int 0 0) :: (.ref 195) :: (.int 111 0) :: (.int 0 0) :: (.ref 214) :: (.int 119 0) :: (.int 0 0) :: (.ref 233) :: (.int 128 0) :: (.int 0 0) :: (.ref 252) :: (.int 133 0) :: (.int 0 0) :: (.ref 274) :: (.int 145 0) :: (.int 0 0) :: (.ref 281) :: (.int 151 0) :: (.int 0 0) :: (.ref 288) :: (.int 157 0) :: (.int 0 0) :: (.ref 295) :: (.int 163 0) :: (.int 0 0) :: (.ref 302) :: (.int 171 0) :: (.int 0 0) :: (.ref 309) :: (.int 179 0) :: (.int 0 0) :: (.ref 316) :: (.int 185 0) :: (.int 0 0) :: (.ref 323) :: (.int 191 0) :: (.int 0 0) :: (.ref 330) :: (.int 193 0) :: (.int 0 0) :: (.ref 337) :: (.int 195 0) :: (.int 0 0) :: (.ref 344) :: (.int 197 0) :: (.int 0 0) :: (.ref 351) :: (.int 199 0) :: (.int 0 0) :: (.ref 358) :: (.int 201 0) :: (.int 0 0) :: (.ref 365) :: (.int 203 0) :: (.int 0 0) :: (.ref 372) :: (.int 205 0) :: (.int 0 0) :: (.ref 379) :: (.int 208 0) :: (.int 0 0) :: (.ref 386) :: (.int 222 0) :: (.int 0 0) :: (.ref 391) :: (.int 234 0) :: (.int 0 0) :: (.ref 398) :: (.int 236 0) :: (.int 0 0) :: (.ref 405) :: (.int 238 0) :: (.int 0 0) :: (.ref 412) :: []))), (List.toArray [])⟩
noncomputable abbrev o_318_0 (_ : Params) : Obj := ⟨(.type "tuple"), .none, (.seq (List.toArray []) 0), (List.toArray [])⟩
noncomputable abbrev o_319_0 (_ : Params) : Obj := ⟨PySem.Value.none, .none, (.fields (List.toArray [])), (List.toArray [])⟩
noncomputable abbrev o_320_0 (_ : Params) : Obj := ⟨(.type "tuple"), .none, (.seq (List.toArray [(.str "x" 621), (.str "y" 622), (.str "a" 623), (.str "b" 624)]) 0), (List.toArray [])⟩
noncomputable abbrev o_321_0 (_ : Params) : Obj := ⟨(.type "tuple"), .none, (.seq (List.toArray []) 0), (List.toArray [])⟩
noncomputable abbrev o_322_0 (_ : Params) : Obj := ⟨PySem.Value.none, .none, (.func ⟨"compare_text", "compare_text", (fA (topAt 34)), (.stmts (fB (topAt 34))), (fS (topAt 34)), 0, [], PySem.Value.none, PySem.Value.none, PySem.Value.none, PySem.Value.none, .none, PySem.Value.none, PySem.Value.none, 0⟩), (List.toArray [])⟩
noncomputable abbrev o_323_0 (_ : Params) : Obj := ⟨(.type "code"), .none, (.fields (List.toArray [(.str "compare_text" 618), (.str "compare_text" 619), (.str "/claim/cut.py" 620), (.int 185 0), (.int 2 0), (.int 0 0), (.int 0 0), (.int 3 0), (.ref 318), (.bool Bool.true), (.int 181 0), (.ref 319), PySem.Value.none, (.ref 320), (.ref 321), (.ref 322), (.int 625 0), (.int 185 0), (.str "/claim/cut.py" 626)])), (List.toArray [])⟩
noncomputable abbrev o_324_0 (_ : Params) : Obj := ⟨(.type "function"), .none, (.func ⟨"compare_text", "compare_text", (fA (topAt 34)), (.stmts (fB (topAt 34))), (fS (topAt 34)), 3, [], PySem.Value.none, PySem.Value.none, PySem.Value.none, (.str "perlcore.convert" 583), .none, (.ref 323), PySem.Value.none, 0⟩), (List.toArray [])⟩
noncomputable abbrev o_325_0 (_ : Params) : Obj := ⟨(.type "tuple"), .none, (.seq (List.toArray []) 0), (List.toArray [])⟩
noncomputable abbrev o_326_0 (_ : Params) : Obj := ⟨PySem.Value.none, .none, (.fields (List.toArray [])), (List.toArray [])⟩
noncomputable abbrev o_327_0 (_ : Params) : Obj := ⟨(.type "tuple"), .none, (.seq (List.toArray [(.str "reckon" 631), (.str "x" 632), (.str "y" 633), (.str "limits" 634)]) 0), (List.toArray [])⟩
noncomputable abbrev o_328_0 (_ : Params) : Obj := ⟨(.type "tuple"), .none, (.seq (List.toArray []) 0), (List.toArray [])⟩
noncomputable abbrev o_329_0 (_ : Params) : Obj := ⟨PySem.Value.none, .none, (.func ⟨"by_numbers", "by_numbers", (fA (topAt 35)), (.stmts (fB (topAt 35))), (fS (topAt 35)), 0, [], PySem.Value.none, PySem.Value.none, PySem.Value.none, PySem.Value.none, .none, PySem.Value.none, PySem.Value.none, 0⟩), (List.toArray [])⟩
noncomputable abbrev o_330_0 (_ : Params) : Obj := ⟨(.type "code"), .none, (.fields (List.toArray [(.str "by_numbers" 628), (.str "by_numbers" 629), (.str "/claim/cut.py" 630), (.int 191 0), (.int 4 0), (.int 0 0), (.int 0 0), (.int 3 0), (.ref 325), (.bool Bool.true), (.int 181 0), (.ref 326), PySem.Value.none, (.ref 327), (.ref 328), (.ref 329), (.int 635 0), (.int 191 0), (.str "/claim/cut.py" 636)])), (List.toArray [])⟩
noncomputable abbrev o_331_0 (_ : Params) : Obj := ⟨(.type "function"), .none, (.func ⟨"by_numbers", "by_numbers", (fA (topAt 35)), (.stmts (fB (topAt 35))), (fS (topAt 35)), 3, [], PySem.Value.none, PySem.Value.none, PySem.Value.none, (.str "perlcore.convert" 583), .none, (.ref 330), PySem.Value.none, 0⟩), (List.toArray [])⟩
noncomputable abbrev o_332_0 (_ : Params) : Obj := ⟨(.type "tuple"), .none, (.seq (List.toArray []) 0), (List.toArray [])⟩
noncomputable abbrev o_333_0 (_ : Params) : Obj := ⟨PySem.Value.none, .none, (.fields (List.toArray [])), (List.toArray [])⟩
noncomputable abbrev o_334_0 (_ : Params) : Obj := ⟨(.type "tuple"), .none, (.seq (List.toArray [(.str "x" 641), (.str "y" 642), (.str "limits" 643)]) 0), (List.toArray [])⟩
noncomputable abbrev o_335_0 (_ : Params) : Obj := ⟨(.type "tuple"), .none, (.seq (List.toArray []) 0), (List.toArray [])⟩
noncomputable abbrev o_336_0 (_ : Params) : Obj := ⟨PySem.Value.none, .none, (.func ⟨"op_add", "op_add", (fA (topAt 36)), (.stmts (fB (topAt 36))), (fS (topAt 36)), 0, [], PySem.Value.none, PySem.Value.none, PySem.Value.none, PySem.Value.none, .none, PySem.Value.none, PySem.Value.none, 0⟩), (List.toArray [])⟩
noncomputable abbrev o_337_0 (_ : Params) : Obj := ⟨(.type "code"), .none, (.fields (List.toArray [(.str "op_add" 638), (.str "op_add" 639), (.str "/claim/cut.py" 640), (.int 193 0), (.int 3 0), (.int 0 0), (.int 0 0), (.int 3 0), (.ref 332), (.bool Bool.true), (.int 181 0), (.ref 333), PySem.Value.none, (.ref 334), (.ref 335), (.ref 336), (.int 644 0), (.int 193 0), (.str "/claim/cut.py" 645)])), (List.toArray [])⟩
noncomputable abbrev o_338_0 (_ : Params) : Obj := ⟨(.type "function"), .none, (.func ⟨"op_add", "op_add", (fA (topAt 36)), (.stmts (fB (topAt 36))), (fS (topAt 36)), 3, [], PySem.Value.none, PySem.Value.none, PySem.Value.none, (.str "perlcore.convert" 583), .none, (.ref 337), PySem.Value.none, 0⟩), (List.toArray [])⟩
noncomputable abbrev o_339_0 (_ : Params) : Obj := ⟨(.type "tuple"), .none, (.seq (List.toArray []) 0), (List.toArray [])⟩
noncomputable abbrev o_340_0 (_ : Params) : Obj := ⟨PySem.Value.none, .none, (.fields (List.toArray [])), (List.toArray [])⟩
noncomputable abbrev o_341_0 (_ : Params) : Obj := ⟨(.type "tuple"), .none, (.seq (List.toArray [(.str "x" 650), (.str "y" 651), (.str "limits" 652)]) 0), (List.toArray [])⟩
noncomputable abbrev o_342_0 (_ : Params) : Obj := ⟨(.type "tuple"), .none, (.seq (List.toArray []) 0), (List.toArray [])⟩
noncomputable abbrev o_343_0 (_ : Params) : Obj := ⟨PySem.Value.none, .none, (.func ⟨"op_sub", "op_sub", (fA (topAt 37)), (.stmts (fB (topAt 37))), (fS (topAt 37)), 0, [], PySem.Value.none, PySem.Value.none, PySem.Value.none, PySem.Value.none, .none, PySem.Value.none, PySem.Value.none, 0⟩), (List.toArray [])⟩
noncomputable abbrev o_344_0 (_ : Params) : Obj := ⟨(.type "code"), .none, (.fields (List.toArray [(.str "op_sub" 647), (.str "op_sub" 648), (.str "/claim/cut.py" 649), (.int 195 0), (.int 3 0), (.int 0 0), (.int 0 0), (.int 3 0), (.ref 339), (.bool Bool.true), (.int 181 0), (.ref 340), PySem.Value.none, (.ref 341), (.ref 342), (.ref 343), (.int 653 0), (.int 195 0), (.str "/claim/cut.py" 654)])), (List.toArray [])⟩
noncomputable abbrev o_345_0 (_ : Params) : Obj := ⟨(.type "function"), .none, (.func ⟨"op_sub", "op_sub", (fA (topAt 37)), (.stmts (fB (topAt 37))), (fS (topAt 37)), 3, [], PySem.Value.none, PySem.Value.none, PySem.Value.none, (.str "perlcore.convert" 583), .none, (.ref 344), PySem.Value.none, 0⟩), (List.toArray [])⟩
noncomputable abbrev o_346_0 (_ : Params) : Obj := ⟨(.type "tuple"), .none, (.seq (List.toArray []) 0), (List.toArray [])⟩
noncomputable abbrev o_347_0 (_ : Params) : Obj := ⟨PySem.Value.none, .none, (.fields (List.toArray [])), (List.toArray [])⟩
noncomputable abbrev o_348_0 (_ : Params) : Obj := ⟨(.type "tuple"), .none, (.seq (List.toArray [(.str "x" 659), (.str "y" 660), (.str "limits" 661)]) 0), (List.toArray [])⟩
noncomputable abbrev o_349_0 (_ : Params) : Obj := ⟨(.type "tuple"), .none, (.seq (List.toArray []) 0), (List.toArray [])⟩
noncomputable abbrev o_350_0 (_ : Params) : Obj := ⟨PySem.Value.none, .none, (.func ⟨"op_mul", "op_mul", (fA (topAt 38)), (.stmts (fB (topAt 38))), (fS (topAt 38)), 0, [], PySem.Value.none, PySem.Value.none, PySem.Value.none, PySem.Value.none, .none, PySem.Value.none, PySem.Value.none, 0⟩), (List.toArray [])⟩
noncomputable abbrev o_351_0 (_ : Params) : Obj := ⟨(.type "code"), .none, (.fields (List.toArray [(.str "op_mul" 656), (.str "op_mul" 657), (.str "/claim/cut.py" 658), (.int 197 0), (.int 3 0), (.int 0 0), (.int 0 0), (.int 3 0), (.ref 346), (.bool Bool.true), (.int 181 0), (.ref 347), PySem.Value.none, (.ref 348), (.ref 349), (.ref 350), (.int 662 0), (.int 197 0), (.str "/claim/cut.py" 663)])), (List.toArray [])⟩
noncomputable abbrev o_352_0 (_ : Params) : Obj := ⟨(.type "function"), .none, (.func ⟨"op_mul", "op_mul", (fA (topAt 38)), (.stmts (fB (topAt 38))), (fS (topAt 38)), 3, [], PySem.Value.none, PySem.Value.none, PySem.Value.none, (.str "perlcore.convert" 583), .none, (.ref 351), PySem.Value.none, 0⟩), (List.toArray [])⟩
noncomputable abbrev o_353_0 (_ : Params) : Obj := ⟨(.type "tuple"), .none, (.seq (List.toArray []) 0), (List.toArray [])⟩
noncomputable abbrev o_354_0 (_ : Params) : Obj := ⟨PySem.Value.none, .none, (.fields (List.toArray [])), (List.toArray [])⟩
noncomputable abbrev o_355_0 (_ : Params) : Obj := ⟨(.type "tuple"), .none, (.seq (List.toArray [(.str "x" 668), (.str "y" 669), (.str "limits" 670)]) 0), (List.toArray [])⟩
noncomputable abbrev o_356_0 (_ : Params) : Obj := ⟨(.type "tuple"), .none, (.seq (List.toArray []) 0), (List.toArray [])⟩
noncomputable abbrev o_357_0 (_ : Params) : Obj := ⟨PySem.Value.none, .none, (.func ⟨"op_div", "op_div", (fA (topAt 39)), (.stmts (fB (topAt 39))), (fS (topAt 39)), 0, [], PySem.Value.none, PySem.Value.none, PySem.Value.none, PySem.Value.none, .none, PySem.Value.none, PySem.Value.none, 0⟩), (List.toArray [])⟩
noncomputable abbrev o_358_0 (_ : Params) : Obj := ⟨(.type "code"), .none, (.fields (List.toArray [(.str "op_div" 665), (.str "op_div" 666), (.str "/claim/cut.py" 667), (.int 199 0), (.int 3 0), (.int 0 0), (.int 0 0), (.int 3 0), (.ref 353), (.bool Bool.true), (.int 181 0), (.ref 354), PySem.Value.none, (.ref 355), (.ref 356), (.ref 357), (.int 671 0), (.int 199 0), (.str "/claim/cut.py" 672)])), (List.toArray [])⟩
noncomputable abbrev o_359_0 (_ : Params) : Obj := ⟨(.type "function"), .none, (.func ⟨"op_div", "op_div", (fA (topAt 39)), (.stmts (fB (topAt 39))), (fS (topAt 39)), 3, [], PySem.Value.none, PySem.Value.none, PySem.Value.none, (.str "perlcore.convert" 583), .none, (.ref 358), PySem.Value.none, 0⟩), (List.toArray [])⟩
noncomputable abbrev o_360_0 (_ : Params) : Obj := ⟨(.type "tuple"), .none, (.seq (List.toArray []) 0), (List.toArray [])⟩
noncomputable abbrev o_361_0 (_ : Params) : Obj := ⟨PySem.Value.none, .none, (.fields (List.toArray [])), (List.toArray [])⟩
noncomputable abbrev o_362_0 (_ : Params) : Obj := ⟨(.type "tuple"), .none, (.seq (List.toArray [(.str "x" 677), (.str "y" 678), (.str "limits" 679)]) 0), (List.toArray [])⟩
noncomputable abbrev o_363_0 (_ : Params) : Obj := ⟨(.type "tuple"), .none, (.seq (List.toArray []) 0), (List.toArray [])⟩
noncomputable abbrev o_364_0 (_ : Params) : Obj := ⟨PySem.Value.none, .none, (.func ⟨"op_mod", "op_mod", (fA (topAt 40)), (.stmts (fB (topAt 40))), (fS (topAt 40)), 0, [], PySem.Value.none, PySem.Value.none, PySem.Value.none, PySem.Value.none, .none, PySem.Value.none, PySem.Value.none, 0⟩), (List.toArray [])⟩
noncomputable abbrev o_365_0 (_ : Params) : Obj := ⟨(.type "code"), .none, (.fields (List.toArray [(.str "op_mod" 674), (.str "op_mod" 675), (.str "/claim/cut.py" 676), (.int 201 0), (.int 3 0), (.int 0 0), (.int 0 0), (.int 3 0), (.ref 360), (.bool Bool.true), (.int 181 0), (.ref 361), PySem.Value.none, (.ref 362), (.ref 363), (.ref 364), (.int 680 0), (.int 201 0), (.str "/claim/cut.py" 681)])), (List.toArray [])⟩
noncomputable abbrev o_366_0 (_ : Params) : Obj := ⟨(.type "function"), .none, (.func ⟨"op_mod", "op_mod", (fA (topAt 40)), (.stmts (fB (topAt 40))), (fS (topAt 40)), 3, [], PySem.Value.none, PySem.Value.none, PySem.Value.none, (.str "perlcore.convert" 583), .none, (.ref 365), PySem.Value.none, 0⟩), (List.toArray [])⟩
noncomputable abbrev o_367_0 (_ : Params) : Obj := ⟨(.type "tuple"), .none, (.seq (List.toArray []) 0), (List.toArray [])⟩
noncomputable abbrev o_368_0 (_ : Params) : Obj := ⟨PySem.Value.none, .none, (.fields (List.toArray [])), (List.toArray [])⟩
noncomputable abbrev o_369_0 (_ : Params) : Obj := ⟨(.type "tuple"), .none, (.seq (List.toArray [(.str "x" 686), (.str "y" 687), (.str "limits" 688)]) 0), (List.toArray [])⟩
noncomputable abbrev o_370_0 (_ : Params) : Obj := ⟨(.type "tuple"), .none, (.seq (List.toArray []) 0), (List.toArray [])⟩
noncomputable abbrev o_371_0 (_ : Params) : Obj := ⟨PySem.Value.none, .none, (.func ⟨"op_power", "op_power", (fA (topAt 41)), (.stmts (fB (topAt 41))), (fS (topAt 41)), 0, [], PySem.Value.none, PySem.Value.none, PySem.Value.none, PySem.Value.none, .none, PySem.Value.none, PySem.Value.none, 0⟩), (List.toArray [])⟩
noncomputable abbrev o_372_0 (_ : Params) : Obj := ⟨(.type "code"), .none, (.fields (List.toArray [(.str "op_power" 683), (.str "op_power" 684), (.str "/claim/cut.py" 685), (.int 203 0), (.int 3 0), (.int 0 0), (.int 0 0), (.int 3 0), (.ref 367), (.bool Bool.true), (.int 181 0), (.ref 368), PySem.Value.none, (.ref 369), (.ref 370), (.ref 371), (.int 689 0), (.int 203 0), (.str "/claim/cut.py" 690)])), (List.toArray [])⟩
noncomputable abbrev o_373_0 (_ : Params) : Obj := ⟨(.type "function"), .none, (.func ⟨"op_power", "op_power", (fA (topAt 41)), (.stmts (fB (topAt 41))), (fS (topAt 41)), 3, [], PySem.Value.none, PySem.Value.none, PySem.Value.none, (.str "perlcore.convert" 583), .none, (.ref 372), PySem.Value.none, 0⟩), (List.toArray [])⟩
noncomputable abbrev o_374_0 (_ : Params) : Obj := ⟨(.type "tuple"), .none, (.seq (List.toArray []) 0), (List.toArray [])⟩
noncomputable abbrev o_375_0 (_ : Params) : Obj := ⟨PySem.Value.none, .none, (.fields (List.toArray [])), (List.toArray [])⟩
noncomputable abbrev o_376_0 (_ : Params) : Obj := ⟨(.type "tuple"), .none, (.seq (List.toArray []) 0), (List.toArray [])⟩
noncomputable abbrev o_377_0 (_ : Params) : Obj := ⟨(.type "tuple"), .none, (.seq (List.toArray []) 0), (List.toArray [])⟩
noncomputable abbrev o_378_0 (_ : Params) : Obj := ⟨PySem.Value.none, .none, (.func ⟨"arithmetic_ops", "arithmetic_ops", (fA (topAt 42)), (.stmts (fB (topAt 42))), (fS (topAt 42)), 0, [], PySem.Value.none, PySem.Value.none, PySem.Value.none, PySem.Value.none, .none, PySem.Value.none, PySem.Value.none, 0⟩), (List.toArray [])⟩
noncomputable abbrev o_379_0 (_ : Params) : Obj := ⟨(.type "code"), .none, (.fields (List.toArray [(.str "arithmetic_ops" 692), (.str "arithmetic_ops" 693), (.str "/claim/cut.py" 694), (.int 205 0), (.int 0 0), (.int 0 0), (.int 0 0), (.int 3 0), (.ref 374), (.bool Bool.true), (.int 181 0), (.ref 375), PySem.Value.none, (.ref 376), (.ref 377), (.ref 378), (.int 695 0), (.int 205 0), (.str "/claim/cut.py" 696)])), (List.toArray [])⟩
noncomputable abbrev o_380_0 (_ : Params) : Obj := ⟨(.type "function"), .none, (.func ⟨"arithmetic_ops", "arithmetic_ops", (fA (topAt 42)), (.stmts (fB (topAt 42))), (fS (topAt 42)), 3, [], PySem.Value.none, PySem.Value.none, PySem.Value.none, (.str "perlcore.convert" 583), .none, (.ref 379), PySem.Value.none, 0⟩), (List.toArray [])⟩
noncomputable abbrev o_381_0 (_ : Params) : Obj := ⟨(.type "tuple"), .none, (.seq (List.toArray []) 0), (List.toArray [])⟩
noncomputable abbrev o_382_0 (_ : Params) : Obj := ⟨PySem.Value.none, .none, (.fields (List.toArray [])), (List.toArray [])⟩
noncomputable abbrev o_383_0 (_ : Params) : Obj := ⟨(.type "tuple"), .none, (.seq (List.toArray [(.str "left" 703), (.str "right" 704), (.str "order" 705), (.str "found" 706), (.str "one" 707), (.str "two" 708)]) 0), (List.toArray [])⟩
noncomputable abbrev o_384_0 (_ : Params) : Obj := ⟨(.type "tuple"), .none, (.seq (List.toArray []) 0), (List.toArray [])⟩
noncomputable abbrev o_385_0 (_ : Params) : Obj := ⟨PySem.Value.none, .none, (.func ⟨"merged_runs", "merged_runs", (fA (topAt 44)), (.stmts (fB (topAt 44))), (fS (topAt 44)), 0, [], PySem.Value.none, PySem.Value.none, PySem.Value.none, PySem.Value.none, .none, PySem.Value.none, PySem.Value.none, 0⟩), (List.toArray [])⟩
noncomputable abbrev o_386_0 (_ : Params) : Obj := ⟨(.type "code"), .none, (.fields (List.toArray [(.str "merged_runs" 700), (.str "merged_runs" 701), (.str "/claim/cut.py" 702), (.int 208 0), (.int 3 0), (.int 0 0), (.int 0 0), (.int 3 0), (.ref 381), (.bool Bool.true), (.int 181 0), (.ref 382), PySem.Value.none, (.ref 383), (.ref 384), (.ref 385), (.int 709 0), (.int 208 0), (.str "/claim/cut.py" 710)])), (List.toArray [])⟩
noncomputable abbrev o_387_0 (_ : Params) : Obj := ⟨(.type "function"), .none, (.func ⟨"merged_runs", "merged_runs", (fA (topAt 44)), (.stmts (fB (topAt 44))), (fS (topAt 44)), 3, [], PySem.Value.none, PySem.Value.none, PySem.Value.none, (.str "perlcore.sorting" 698), .none, (.ref 386), PySem.Value.none, 0⟩), (List.toArray [])⟩
noncomputable abbrev o_388_0 (_ : Params) : Obj := ⟨(.type "tuple"), .none, (.seq (List.toArray []) 0), (List.toArray [])⟩
noncomputable abbrev o_389_0 (_ : Params) : Obj := ⟨PySem.Value.none, .none, (.fields (List.toArray [])), (List.toArray [])⟩
noncomputable abbrev o_390_0 (_ : Params) : Obj := ⟨PySem.Value.none, .none, (.func ⟨"sorted_members", "sorted_members", (fA (topAt 45)), (.stmts (fB (topAt 45))), (fS (topAt 45)), 0, [], PySem.Value.none, PySem.Value.none, PySem.Value.none, PySem.Value.none, .none, PySem.Value.none, PySem.Value.none, 0⟩), (List.toArray [])⟩
noncomputable abbrev o_391_0 (_ : Params) : Obj := ⟨(.type "code"), .none, (.fields (List.toArray [(.str "sorted_members" 712), (.str "sorted_members" 713), (.str "/claim/cut.py" 714), (.int 222 0), (.int 2 0), (.int 0 0), (.int 0 0), (.int 3 0), (.ref 388), (.bool Bool.true), (.int 181 0), (.ref 389), PySem.Value.none, PySem.Value.none, PySem.Value.none, (.ref 390), (.int 715 0), (.int 222 0), (.str "/claim/cut.py" 716)])), (List.toArray [])⟩
noncomputable abbrev o_392_0 (_ : Params) : Obj := ⟨(.type "function"), .none, (.func ⟨"sorted_members", "sorted_members", (fA (topAt 45)), (.stmts (fB (topAt 45))), (fS (topAt 45)), 3, [], PySem.Value.none, PySem.Value.none, PySem.Value.none, (.str "perlcore.sorting" 698), .none, (.ref 391), PySem.Value.none, 0⟩), (List.toArray [])⟩
noncomputable abbrev o_393_0 (_ : Params) : Obj := ⟨(.type "tuple"), .none, (.seq (List.toArray []) 0), (List.toArray [])⟩
noncomputable abbrev o_394_0 (_ : Params) : Obj := ⟨PySem.Value.none, .none, (.fields (List.toArray [])), (List.toArray [])⟩
noncomputable abbrev o_395_0 (_ : Params) : Obj := ⟨(.type "tuple"), .none, (.seq (List.toArray [(.str "x" 721), (.str "y" 722)]) 0), (List.toArray [])⟩
noncomputable abbrev o_396_0 (_ : Params) : Obj := ⟨(.type "tuple"), .none, (.seq (List.toArray []) 0), (List.toArray [])⟩
noncomputable abbrev o_397_0 (_ : Params) : Obj := ⟨PySem.Value.none, .none, (.func ⟨"order_by_text", "order_by_text", (fA (topAt 46)), (.stmts (fB (topAt 46))), (fS (topAt 46)), 0, [], PySem.Value.none, PySem.Value.none, PySem.Value.none, PySem.Value.none, .none, PySem.Value.none, PySem.Value.none, 0⟩), (List.toArray [])⟩
noncomputable abbrev o_398_0 (_ : Params) : Obj := ⟨(.type "code"), .none, (.fields (List.toArray [(.str "order_by_text" 718), (.str "order_by_text" 719), (.str "/claim/cut.py" 720), (.int 234 0), (.int 2 0), (.int 0 0), (.int 0 0), (.int 3 0), (.ref 393), (.bool Bool.true), (.int 181 0), (.ref 394), PySem.Value.none, (.ref 395), (.ref 396), (.ref 397), (.int 723 0), (.int 234 0), (.str "/claim/cut.py" 724)])), (List.toArray [])⟩
noncomputable abbrev o_399_0 (_ : Params) : Obj := ⟨(.type "function"), .none, (.func ⟨"order_by_text", "order_by_text", (fA (topAt 46)), (.stmts (fB (topAt 46))), (fS (topAt 46)), 3, [], PySem.Value.none, PySem.Value.none, PySem.Value.none, (.str "perlcore.sorting" 698), .none, (.ref 398), PySem.Value.none, 0⟩), (List.toArray [])⟩
noncomputable abbrev o_400_0 (_ : Params) : Obj := ⟨(.type "tuple"), .none, (.seq (List.toArray []) 0), (List.toArray [])⟩
noncomputable abbrev o_401_0 (_ : Params) : Obj := ⟨PySem.Value.none, .none, (.fields (List.toArray [])), (List.toArray [])⟩
noncomputable abbrev o_402_0 (_ : Params) : Obj := ⟨(.type "tuple"), .none, (.seq (List.toArray [(.str "members" 729)]) 0), (List.toArray [])⟩
noncomputable abbrev o_403_0 (_ : Params) : Obj := ⟨(.type "tuple"), .none, (.seq (List.toArray []) 0), (List.toArray [])⟩
noncomputable abbrev o_404_0 (_ : Params) : Obj := ⟨PySem.Value.none, .none, (.func ⟨"sorted_by_text", "sorted_by_text", (fA (topAt 47)), (.stmts (fB (topAt 47))), (fS (topAt 47)), 0, [], PySem.Value.none, PySem.Value.none, PySem.Value.none, PySem.Value.none, .none, PySem.Value.none, PySem.Value.none, 0⟩), (List.toArray [])⟩
noncomputable abbrev o_405_0 (_ : Params) : Obj := ⟨(.type "code"), .none, (.fields (List.toArray [(.str "sorted_by_text" 726), (.str "sorted_by_text" 727), (.str "/claim/cut.py" 728), (.int 236 0), (.int 1 0), (.int 0 0), (.int 0 0), (.int 3 0), (.ref 400), (.bool Bool.true), (.int 181 0), (.ref 401), PySem.Value.none, (.ref 402), (.ref 403), (.ref 404), (.int 730 0), (.int 236 0), (.str "/claim/cut.py" 731)])), (List.toArray [])⟩
noncomputable abbrev o_406_0 (_ : Params) : Obj := ⟨(.type "function"), .none, (.func ⟨"sorted_by_text", "sorted_by_text", (fA (topAt 47)), (.stmts (fB (topAt 47))), (fS (topAt 47)), 3, [], PySem.Value.none, PySem.Value.none, PySem.Value.none, (.str "perlcore.sorting" 698), .none, (.ref 405), PySem.Value.none, 0⟩), (List.toArray [])⟩
noncomputable abbrev o_407_0 (_ : Params) : Obj := ⟨(.type "tuple"), .none, (.seq (List.toArray []) 0), (List.toArray [])⟩
noncomputable abbrev o_408_0 (_ : Params) : Obj := ⟨PySem.Value.none, .none, (.fields (List.toArray [])), (List.toArray [])⟩
noncomputable abbrev o_409_0 (_ : Params) : Obj := ⟨(.type "tuple"), .none, (.seq (List.toArray [(.str "members" 736), (.str "order" 737), (.str "at" 738)]) 0), (List.toArray [])⟩
noncomputable abbrev o_410_0 (_ : Params) : Obj := ⟨(.type "tuple"), .none, (.seq (List.toArray []) 0), (List.toArray [])⟩
noncomputable abbrev o_411_0 (_ : Params) : Obj := ⟨PySem.Value.none, .none, (.func ⟨"is_sorted", "is_sorted", (fA (topAt 48)), (.stmts (fB (topAt 48))), (fS (topAt 48)), 0, [], PySem.Value.none, PySem.Value.none, PySem.Value.none, PySem.Value.none, .none, PySem.Value.none, PySem.Value.none, 0⟩), (List.toArray [])⟩
noncomputable abbrev o_412_0 (_ : Params) : Obj := ⟨(.type "code"), .none, (.fields (List.toArray [(.str "is_sorted" 733), (.str "is_sorted" 734), (.str "/claim/cut.py" 735), (.int 238 0), (.int 2 0), (.int 0 0), (.int 0 0), (.int 3 0), (.ref 407), (.bool Bool.true), (.int 181 0), (.ref 408), PySem.Value.none, (.ref 409), (.ref 410), (.ref 411), (.int 739 0), (.int 238 0), (.str "/claim/cut.py" 740)])), (List.toArray [])⟩
noncomputable abbrev o_413_0 (_ : Params) : Obj := ⟨(.type "function"), .none, (.func ⟨"is_sorted", "is_sorted", (fA (topAt 48)), (.stmts (fB (topAt 48))), (fS (topAt 48)), 3, [], PySem.Value.none, PySem.Value.none, PySem.Value.none, (.str "perlcore.sorting" 698), .none, (.ref 412), PySem.Value.none, 0⟩), (List.toArray [])⟩
noncomputable abbrev o_3_11 (P : Params) : Obj := ⟨(.type "dict"), .none, (.dict (List.toArray (⟨(PySem.PyData.keyHash P "__name__"), (.str "__name__" 165), (.str "law_sz0088_01" 792)⟩ :: ⟨(PySem.PyData.keyHash P "__doc__"), (.str "__doc__" 166), PySem.Value.none⟩ :: ⟨(PySem.PyData.keyHash P "__package__"), (.str "__package__" 167), PySem.Value.none⟩ :: ⟨(PySem.PyData.keyHash P "__loader__"), (.str "__loader__" 168), (.builtin "__main__.__loader__#opaque")⟩ :: ⟨(PySem.PyData.keyHash P "__spec__"), (.str "__spec__" 169), PySem.Value.none⟩ :: ⟨(PySem.PyData.keyHash P "__annotations__"), (.str "__annotations__" 170), (.ref 6)⟩ :: ⟨(PySem.PyData.keyHash P "__builtins__"), (.str "__builtins__" 171), (.ref 4)⟩ :: ⟨(PySem.PyData.keyHash P "__file__"), (.str "__file__" 173), (.str "/claim/cut.py" 172)⟩ :: ⟨(PySem.PyData.keyHash P "__cached__"), (.str "__cached__" 174), PySem.Value.none⟩ :: ⟨(PySem.PyData.keyHash P "PerlError"), (.str "PerlError" 217), (.ref 31)⟩ :: ⟨(PySem.PyData.keyHash P "Die"), (.str "Die" 242), (.ref 51)⟩ :: ⟨(PySem.PyData.keyHash P "FIGURES"), (.str "FIGURES" 246), (.str "0123456789" 245)⟩ :: ⟨(PySem.PyData.keyHash P "SPACES"), (.str "SPACES" 248), (.str " \t\n\x0d\x0c\x0b" 247)⟩ :: ⟨(PySem.PyData.keyHash P "wrap_number"), (.str "wrap_number" 256), (.ref 60)⟩ :: ⟨(PySem.PyData.keyHash P "add_numbers"), (.str "add_numbers" 265), (.ref 67)⟩ :: ⟨(PySem.PyData.keyHash P "sub_numbers"), (.str "sub_numbers" 274), (.ref 74)⟩ :: ⟨(PySem.PyData.keyHash P "mul_numbers"), (.str "mul_numbers" 283), (.ref 81)⟩ :: ⟨(PySem.PyData.keyHash P "cut_quotient"), (.str "cut_quotient" 292), (.ref 88)⟩ :: ⟨(PySem.PyData.keyHash P "div_numbers"), (.str "div_numbers" 301), (.ref 95)⟩ :: ⟨(PySem.PyData.keyHash P "mod_numbers"), (.str "mod_numbers" 310), (.ref 102)⟩ :: ⟨(PySem.PyData.keyHash P "power_numbers"), (.str "power_numbers" 320), (.ref 109)⟩ :: ⟨(PySem.PyData.keyHash P "number_head"), (.str "number_head" 330), (.ref 116)⟩ :: ⟨(PySem.PyData.keyHash P "numeric_text"), (.str "numeric_text" 342), (.ref 123)⟩ :: ⟨(PySem.PyData.keyHash P "number_text"), (.str "number_text" 350), (.ref 130)⟩ :: ⟨(PySem.PyData.keyHash P "HEX_FIGURES"), (.str "HEX_FIGURES" 354), (.str "0123456789abcdef" 353)⟩ :: ⟨(PySem.PyData.keyHash P "Thing"), (.str "Thing" 388), (.ref 147)⟩ :: ⟨(PySem.PyData.keyHash P "Scalar"), (.str "Scalar" 415), (.ref 168)⟩ :: ⟨(PySem.PyData.keyHash P "Array"), (.str "Array" 441), (.ref 187)⟩ :: ⟨(PySem.PyData.keyHash P "Hash"), (.str "Hash" 468), (.ref 206)⟩ :: ⟨(PySem.PyData.keyHash P "Code"), (.str "Code" 498), (.ref 225)⟩ :: ⟨(PySem.PyData.keyHash P "Glob"), (.str "Glob" 528), (.ref 244)⟩ :: ⟨(PySem.PyData.keyHash P "Ref"), (.str "Ref" 559), (.ref 264)⟩ :: ⟨(PySem.PyData.keyHash P "thing_word"), (.str "thing_word" 566), (.ref 275)⟩ :: ⟨(PySem.PyData.keyHash P "hex_of"), (.str "hex_of" 574), (.ref 282)⟩ :: ⟨(PySem.PyData.keyHash P "ref_text"), (.str "ref_text" 582), (.ref 289)⟩ :: ⟨(PySem.PyData.keyHash P "value_of"), (.str "value_of" 591), (.ref 296)⟩ :: ⟨(PySem.PyData.keyHash P "to_text"), (.str "to_text" 598), (.ref 303)⟩ :: ⟨(PySem.PyData.keyHash P "to_number"), (.str "to_number" 606), (.ref 310)⟩ :: ⟨(PySem.PyData.keyHash P "compare_num"), (.str "compare_num" 617), (.ref 317)⟩ :: ⟨(PySem.PyData.keyHash P "compare_text"), (.str "compare_text" 627), (.ref 324)⟩ :: ⟨(PySem.PyData.keyHash P "by_numbers"), (.str "by_numbers" 637), (.ref 331)⟩ :: ⟨(PySem.PyData.keyHash P "op_add"), (.str "op_add" 646), (.ref 338)⟩ :: ⟨(PySem.PyData.keyHash P "op_sub"), (.str "op_sub" 655), (.ref 345)⟩ :: ⟨(PySem.PyData.keyHash P "op_mul"), (.str "op_mul" 664), (.ref 352)⟩ :: ⟨(PySem.PyData.keyHash P "op_div"), (.str "op_div" 673), (.ref 359)⟩ :: ⟨(PySem.PyData.keyHash P "op_mod"), (.str "op_mod" 682), (.ref 366)⟩ :: ⟨(PySem.PyData.keyHash P "op_power"), (.str "op_power" 691), (.ref 373)⟩ :: ⟨(PySem.PyData.keyHash P "arithmetic_ops"), (.str "arithmetic_ops" 697), (.ref 380)⟩ :: ⟨(PySem.PyData.keyHash P "merged_runs"), (.str "merged_runs" 711), (.ref 387)⟩ :: ⟨(PySem.PyData.keyHash P "sorted_members"), (.str "sorted_members" 717), (.ref 392)⟩ :: ⟨(PySem.PyData.keyHash P "order_by_text"), (.str "order_by_text" 725), (.ref 399)⟩ :: ⟨(PySem.PyData.keyHash P "sorted_by_text"), (.str "sorted_by_text" 732), (.ref 406)⟩ :: ⟨(PySem.PyData.keyHash P "is_sorted"), (.str "is_sorted" 741), (.ref 413)⟩ :: ⟨(PySem.PyData.keyHash P "Limits"), (.str "Limits" 791), (.ref 431)⟩ :: ⟨(PySem.PyData.keyHash P "_law_rest"), (.str "_law_rest" 802), (.ref 436)⟩ :: ⟨(PySem.PyData.keyHash P "_law_toss"), (.str "_law_toss" 811), (.ref 443)⟩ :: ⟨(PySem.PyData.keyHash P "_law_figure"), (.str "_law_figure" 819), (.ref 450)⟩ :: ⟨(PySem.PyData.keyHash P "_law_by_last"), (.str "_law_by_last" 827), (.ref 457)⟩ :: ⟨(PySem.PyData.keyHash P "_law_by_next"), (.str "_law_by_next" 835), (.ref 464)⟩ :: ⟨(PySem.PyData.keyHash P "_law_by_first"), (.str "_law_by_first" 843), (.ref 471)⟩ :: [])) 60), (List.toArray [])⟩
noncomputable abbrev o_12_11 (_ : Params) : Obj := ⟨PySem.Value.none, .none, (.fields (List.toArray ((.int 2 0) :: (.int 0 0) :: (.ref 20) :: (.int 7 0) :: (.int 0 0) :: (.ref 40) :: (.int 15 0) :: (.int 0 0) :: (.ref 59) :: (.int 20 0) :: (.int 0 0) :: (.ref 66) :: (.int 22 0) :: (.int 0 0) :: (.ref 73) :: (.int 24 0) :: (.int 0 0) :: (.ref 80) :: (.int 26 0) :: (.int 0 0) :: (.ref 87) :: (.int 31 0) :: (.int 0 0) :: (.ref 94) :: (.int 35 0) :: (.int 0 0) :: (.ref 101) :: (.int 39 0) :: (.int 0 0) :: (.ref 108) :: (.int 51 0) :: (.int 0 0) :: (.ref 115) :: (.int 64 0) :: (.int 0 0) :: (.ref 122) :: (.int 73 0) :: (.int 0 0) :: (.ref 129) :: (.int 83 0) :: (.int 0 0) :: (.ref 136) :: (.int 92 0) :: (.int 0 0) :: (.ref 157) :: (.int 98 0) :: (.int 0 0) :: (.ref 176) :: (.int 104 0) :: (.int 0 0) :: (.ref 195) :: (.int 111 0) :: (.int 0 0) :: (.ref 214) :: (.int 119 0) :: (.int 0 0) :: (.ref 233) :: (.int 128 0) :: (.int 0 0) :: (.ref 252) :: (.int 133 0) :: (.int 0 0) :: (.ref 274) :: (.int 145 0) :: (.int 0 0) :: (.ref 281) :: (.int 151 0) :: (.int 0 0) :: (.ref 288) :: (.int 157 0) :: (.int 0 0) :: (.ref 295) :: (.int 163 0) :: (.int 0 0) :: (.ref 302) :: (.int 171 0) :: (.int 0 0) :: (.ref 309) :: (.int 179 0) :: (.int 0 0) :: (.ref 316) :: (.int 185 0) :: (.int 0 0) :: (.ref 323) :: (.int 191 0) :: (.int 0 0) :: (.ref 330) :: (.int 193 0) :: (.int 0 0) :: (.ref 337) :: (.int 195 0) :: (.int 0 0) :: (.ref 344) :: (.int 197 0) :: (.int 0 0) :: (.ref 351) :: (.int 199 0) :: (.int 0 0) :: (.ref 358) :: (.int 201 0) :: (.int 0 0) :: (.ref 365) :: (.int 203 0) :: (.int 0 0) :: (.ref 372) :: (.int 205 0) :: (.int 0 0) :: (.ref 379) :: (.int 208 0) :: (.int 0 0) :: (.ref 386) :: (.int 222 0) :: (.int 0 0) :: (.ref 391) :: (.int 234 0) :: (.int 0 0) :: (.ref 398) :: (.int 236 0) :: (.int 0 0) :: (.ref 405) :: (.int 238 0) :: (.int 0 0) :: (.ref 412) :: (.int 244 0) :: (.int 0 0) :: (.ref 419) :: (.int 254 0) :: (.int 0 0) :: (.ref 442) :: (.int 258 0) :: (.int 0 0) :: (.ref 449) :: (.int 260 0) :: (.int 0 0) :: (.ref 456) :: (.int 262 0) :: (.int 0 0) :: (.ref 463) :: (.int 264 0) :: (.int 0 0) :: (.ref 470) :: []))), (List.toArray [])⟩
noncomputable abbrev o_414_0 (_ : Params) : Obj := ⟨(.type "tuple"), .none, (.seq (List.toArray []) 0), (List.toArray [])⟩
noncomputable abbrev o_415_0 (_ : Params) : Obj := ⟨(.type "builtin_function_or_method"), .none, (.fields (List.toArray [(.builtin "type.__prepare__"), (.type "type")])), (List.toArray [])⟩
noncomputable abbrev o_416_0 (P : Params) : Obj := ⟨(.type "dict"), .none, (.dict (List.toArray [⟨(PySem.PyData.keyHash P "__module__"), (.str "__module__" 751), (.str "perlcore.limits" 742)⟩, ⟨(PySem.PyData.keyHash P "__qualname__"), (.str "__qualname__" 753), (.str "Limits" 752)⟩, ⟨(PySem.PyData.keyHash P "__firstlineno__"), (.str "__firstlineno__" 755), (.int 244 754)⟩, ⟨(PySem.PyData.keyHash P "__init__"), (.str "__init__" 778), (.ref 428)⟩, ⟨(PySem.PyData.keyHash P "__static_attributes__"), (.str "__static_attributes__" 784), (.ref 429)⟩]) 5), (List.toArray [])⟩
noncomputable abbrev o_417_0 (_ : Params) : Obj := ⟨(.type "tuple"), .none, (.seq (List.toArray []) 0), (List.toArray [])⟩
noncomputable abbrev o_418_0 (_ : Params) : Obj := ⟨PySem.Value.none, .none, (.fields (List.toArray [(.int 246 0), (.int 4 0), (.ref 427)])), (List.toArray [])⟩
noncomputable abbrev o_419_0 (_ : Params) : Obj := ⟨(.type "code"), .none, (.fields (List.toArray [(.str "Limits" 746), (.str "Limits" 747), (.str "/claim/cut.py" 748), (.int 244 0), (.int 0 0), (.int 0 0), (.int 0 0), (.int 0 0), (.ref 417), (.bool Bool.false), (.int 181 0), (.ref 418), PySem.Value.none, PySem.Value.none, PySem.Value.none, PySem.Value.none, (.int 749 0), (.int 244 0), (.str "/claim/cut.py" 750)])), (List.toArray [])⟩
noncomputable abbrev o_420_0 (_ : Params) : Obj := ⟨(.type "frame"), .none, PySem.Data.plain, (List.toArray [(.some (.ref 419)), (.some (.ref 3)), (.some (.ref 416)), .none, (.some (.str "perlcore.limits" 742)), .none, (.some (.ref 0))])⟩
noncomputable abbrev o_421_0 (_ : Params) : Obj := ⟨(.type "tuple"), .none, (.seq (List.toArray [(.int 64 756), (.int 50 757), (.int 1000000 760), (.int 100000 763), (.int 10000 766)]) 0), (List.toArray [])⟩
noncomputable abbrev o_422_0 (_ : Params) : Obj := ⟨(.type "tuple"), .none, (.seq (List.toArray []) 0), (List.toArray [])⟩
noncomputable abbrev o_423_0 (_ : Params) : Obj := ⟨PySem.Value.none, .none, (.fields (List.toArray [])), (List.toArray [])⟩
noncomputable abbrev o_424_0 (_ : Params) : Obj := ⟨(.type "tuple"), .none, (.seq (List.toArray [(.str "self" 770), (.str "width" 771), (.str "depth" 772), (.str "steps" 773), (.str "text" 774), (.str "items" 775)]) 0), (List.toArray [])⟩
noncomputable abbrev o_425_0 (_ : Params) : Obj := ⟨(.type "tuple"), .none, (.seq (List.toArray []) 0), (List.toArray [])⟩
noncomputable abbrev o_426_0 (_ : Params) : Obj := ⟨PySem.Value.none, .none, (.func ⟨"__init__", "Limits.__init__", (fA (inAt 50 0)), (.stmts (fB (inAt 50 0))), (fS (inAt 50 0)), 0, [], PySem.Value.none, PySem.Value.none, PySem.Value.none, PySem.Value.none, .none, PySem.Value.none, PySem.Value.none, 0⟩), (List.toArray [])⟩
noncomputable abbrev o_427_0 (_ : Params) : Obj := ⟨(.type "code"), .none, (.fields (List.toArray [(.str "__init__" 767), (.str "Limits.__init__" 768), (.str "/claim/cut.py" 769), (.int 246 0), (.int 6 0), (.int 0 0), (.int 0 0), (.int 3 0), (.ref 422), (.bool Bool.true), (.int 181 0), (.ref 423), PySem.Value.none, (.ref 424), (.ref 425), (.ref 426), (.int 776 0), (.int 246 0), (.str "/claim/cut.py" 777)])), (List.toArray [])⟩
noncomputable abbrev o_428_0 (_ : Params) : Obj := ⟨(.type "function"), .none, (.func ⟨"__init__", "Limits.__init__", (fA (inAt 50 0)), (.stmts (fB (inAt 50 0))), (fS (inAt 50 0)), 3, [], (.ref 421), PySem.Value.none, PySem.Value.none, (.str "perlcore.limits" 742), .none, (.ref 427), PySem.Value.none, 0⟩), (List.toArray [])⟩
noncomputable abbrev o_429_0 (_ : Params) : Obj := ⟨(.type "tuple"), .none, (.seq (List.toArray [(.str "depth" 779), (.str "items" 780), (.str "steps" 781), (.str "text" 782), (.str "width" 783)]) 0), (List.toArray [])⟩
noncomputable abbrev o_430_0 (P : Params) : Obj := ⟨(.type "dict"), .none, (.dict (List.toArray [⟨(PySem.PyData.keyHash P "__module__"), (.str "__module__" 751), (.str "perlcore.limits" 742)⟩, ⟨(PySem.PyData.keyHash P "__firstlineno__"), (.str "__firstlineno__" 755), (.int 244 754)⟩, ⟨(PySem.PyData.keyHash P "__init__"), (.str "__init__" 778), (.ref 428)⟩, ⟨(PySem.PyData.keyHash P "__static_attributes__"), (.str "__static_attributes__" 784), (.ref 429)⟩, ⟨(PySem.PyData.keyHash P "__dict__"), (.str "__dict__" 786), (.ref 432)⟩, ⟨(PySem.PyData.keyHash P "__weakref__"), (.str "__weakref__" 788), (.ref 433)⟩, ⟨(PySem.PyData.keyHash P "__doc__"), (.str "__doc__" 789), PySem.Value.none⟩]) 4), (List.toArray [])⟩
noncomputable abbrev o_431_0 (_ : Params) : Obj := ⟨(.type "type"), .none, (.cls ⟨"Limits", [(.type "object")], [(.ref 431), (.type "object")], 430, "Limits", Bool.true, [], [], Bool.false, .none, Bool.false⟩), (List.toArray [.none, .none, (.some (.str "Limits" 744)), (.some (.str "Limits" 752)), (.some (.builtin "object.__new__")), (.some (.bool Bool.true))])⟩
noncomputable abbrev o_432_0 (_ : Params) : Obj := ⟨(.type "getset_descriptor"), .none, (.fields (List.toArray [(.str "__dict__" 785), (.ref 431), (.builtin "function.__dict__"), (.builtin "function.__dict__#set")])), (List.toArray [])⟩
noncomputable abbrev o_433_0 (_ : Params) : Obj := ⟨(.type "getset_descriptor"), .none, (.fields (List.toArray [(.str "__weakref__" 787), (.ref 431), (.builtin "ExceptionGroup.__weakref__"), PySem.Value.none])), (List.toArray [])⟩
noncomputable abbrev o_434_0 (_ : Params) : Obj := ⟨(.type "super"), .none, (.fields (List.toArray [(.ref 431), (.ref 431), (.ref 431)])), (List.toArray [])⟩
noncomputable abbrev o_435_0 (_ : Params) : Obj := ⟨(.type "builtin_function_or_method"), .none, (.fields (List.toArray [(.builtin "object.__init_subclass__"), (.ref 431)])), (List.toArray [])⟩
noncomputable abbrev o_436_0 (_ : Params) : Obj := ⟨(.type "tuple"), .none, (.seq (List.toArray [(.int 6 794), (.int 310 795), (.int 21 796), (.int 300 797), (.int 21 798), (.int 121 799), (.int 20 800), (.int 0 801)]) 0), (List.toArray [])⟩
noncomputable abbrev o_437_0 (_ : Params) : Obj := ⟨(.type "tuple"), .none, (.seq (List.toArray []) 0), (List.toArray [])⟩
noncomputable abbrev o_438_0 (_ : Params) : Obj := ⟨PySem.Value.none, .none, (.fields (List.toArray [])), (List.toArray [])⟩
noncomputable abbrev o_439_0 (_ : Params) : Obj := ⟨(.type "tuple"), .none, (.seq (List.toArray [(.str "dice" 806), (.str "many" 807), (.str "spot" 808)]) 0), (List.toArray [])⟩
noncomputable abbrev o_440_0 (_ : Params) : Obj := ⟨(.type "tuple"), .none, (.seq (List.toArray []) 0), (List.toArray [])⟩
noncomputable abbrev o_441_0 (_ : Params) : Obj := ⟨PySem.Value.none, .none, (.func ⟨"_law_toss", "_law_toss", (fA (topAt 53)), (.stmts (fB (topAt 53))), (fS (topAt 53)), 0, [], PySem.Value.none, PySem.Value.none, PySem.Value.none, PySem.Value.none, .none, PySem.Value.none, PySem.Value.none, 0⟩), (List.toArray [])⟩
noncomputable abbrev o_442_0 (_ : Params) : Obj := ⟨(.type "code"), .none, (.fields (List.toArray [(.str "_law_toss" 803), (.str "_law_toss" 804), (.str "/claim/cut.py" 805), (.int 254 0), (.int 2 0), (.int 0 0), (.int 0 0), (.int 3 0), (.ref 437), (.bool Bool.true), (.int 181 0), (.ref 438), PySem.Value.none, (.ref 439), (.ref 440), (.ref 441), (.int 809 0), (.int 254 0), (.str "/claim/cut.py" 810)])), (List.toArray [])⟩
noncomputable abbrev o_443_0 (_ : Params) : Obj := ⟨(.type "function"), .none, (.func ⟨"_law_toss", "_law_toss", (fA (topAt 53)), (.stmts (fB (topAt 53))), (fS (topAt 53)), 3, [], PySem.Value.none, PySem.Value.none, PySem.Value.none, (.str "law_sz0088_01" 792), .none, (.ref 442), PySem.Value.none, 0⟩), (List.toArray [])⟩
noncomputable abbrev o_444_0 (_ : Params) : Obj := ⟨(.type "tuple"), .none, (.seq (List.toArray []) 0), (List.toArray [])⟩
noncomputable abbrev o_445_0 (_ : Params) : Obj := ⟨PySem.Value.none, .none, (.fields (List.toArray [])), (List.toArray [])⟩
noncomputable abbrev o_446_0 (_ : Params) : Obj := ⟨(.type "tuple"), .none, (.seq (List.toArray [(.str "number" 815), (.str "place" 816)]) 0), (List.toArray [])⟩
noncomputable abbrev o_447_0 (_ : Params) : Obj := ⟨(.type "tuple"), .none, (.seq (List.toArray []) 0), (List.toArray [])⟩
noncomputable abbrev o_448_0 (_ : Params) : Obj := ⟨PySem.Value.none, .none, (.func ⟨"_law_figure", "_law_figure", (fA (topAt 54)), (.stmts (fB (topAt 54))), (fS (topAt 54)), 0, [], PySem.Value.none, PySem.Value.none, PySem.Value.none, PySem.Value.none, .none, PySem.Value.none, PySem.Value.none, 0⟩), (List.toArray [])⟩
noncomputable abbrev o_449_0 (_ : Params) : Obj := ⟨(.type "code"), .none, (.fields (List.toArray [(.str "_law_figure" 812), (.str "_law_figure" 813), (.str "/claim/cut.py" 814), (.int 258 0), (.int 2 0), (.int 0 0), (.int 0 0), (.int 3 0), (.ref 444), (.bool Bool.true), (.int 181 0), (.ref 445), PySem.Value.none, (.ref 446), (.ref 447), (.ref 448), (.int 817 0), (.int 258 0), (.str "/claim/cut.py" 818)])), (List.toArray [])⟩
noncomputable abbrev o_450_0 (_ : Params) : Obj := ⟨(.type "function"), .none, (.func ⟨"_law_figure", "_law_figure", (fA (topAt 54)), (.stmts (fB (topAt 54))), (fS (topAt 54)), 3, [], PySem.Value.none, PySem.Value.none, PySem.Value.none, (.str "law_sz0088_01" 792), .none, (.ref 449), PySem.Value.none, 0⟩), (List.toArray [])⟩
noncomputable abbrev o_451_0 (_ : Params) : Obj := ⟨(.type "tuple"), .none, (.seq (List.toArray []) 0), (List.toArray [])⟩
noncomputable abbrev o_452_0 (_ : Params) : Obj := ⟨PySem.Value.none, .none, (.fields (List.toArray [])), (List.toArray [])⟩
noncomputable abbrev o_453_0 (_ : Params) : Obj := ⟨(.type "tuple"), .none, (.seq (List.toArray [(.str "x" 823), (.str "y" 824)]) 0), (List.toArray [])⟩
noncomputable abbrev o_454_0 (_ : Params) : Obj := ⟨(.type "tuple"), .none, (.seq (List.toArray []) 0), (List.toArray [])⟩
noncomputable abbrev o_455_0 (_ : Params) : Obj := ⟨PySem.Value.none, .none, (.func ⟨"_law_by_last", "_law_by_last", (fA (topAt 55)), (.stmts (fB (topAt 55))), (fS (topAt 55)), 0, [], PySem.Value.none, PySem.Value.none, PySem.Value.none, PySem.Value.none, .none, PySem.Value.none, PySem.Value.none, 0⟩), (List.toArray [])⟩
noncomputable abbrev o_456_0 (_ : Params) : Obj := ⟨(.type "code"), .none, (.fields (List.toArray [(.str "_law_by_last" 820), (.str "_law_by_last" 821), (.str "/claim/cut.py" 822), (.int 260 0), (.int 2 0), (.int 0 0), (.int 0 0), (.int 3 0), (.ref 451), (.bool Bool.true), (.int 181 0), (.ref 452), PySem.Value.none, (.ref 453), (.ref 454), (.ref 455), (.int 825 0), (.int 260 0), (.str "/claim/cut.py" 826)])), (List.toArray [])⟩
noncomputable abbrev o_457_0 (_ : Params) : Obj := ⟨(.type "function"), .none, (.func ⟨"_law_by_last", "_law_by_last", (fA (topAt 55)), (.stmts (fB (topAt 55))), (fS (topAt 55)), 3, [], PySem.Value.none, PySem.Value.none, PySem.Value.none, (.str "law_sz0088_01" 792), .none, (.ref 456), PySem.Value.none, 0⟩), (List.toArray [])⟩
noncomputable abbrev o_458_0 (_ : Params) : Obj := ⟨(.type "tuple"), .none, (.seq (List.toArray []) 0), (List.toArray [])⟩
noncomputable abbrev o_459_0 (_ : Params) : Obj := ⟨PySem.Value.none, .none, (.fields (List.toArray [])), (List.toArray [])⟩
noncomputable abbrev o_460_0 (_ : Params) : Obj := ⟨(.type "tuple"), .none, (.seq (List.toArray [(.str "x" 831), (.str "y" 832)]) 0), (List.toArray [])⟩
noncomputable abbrev o_461_0 (_ : Params) : Obj := ⟨(.type "tuple"), .none, (.seq (List.toArray []) 0), (List.toArray [])⟩
noncomputable abbrev o_462_0 (_ : Params) : Obj := ⟨PySem.Value.none, .none, (.func ⟨"_law_by_next", "_law_by_next", (fA (topAt 56)), (.stmts (fB (topAt 56))), (fS (topAt 56)), 0, [], PySem.Value.none, PySem.Value.none, PySem.Value.none, PySem.Value.none, .none, PySem.Value.none, PySem.Value.none, 0⟩), (List.toArray [])⟩
noncomputable abbrev o_463_0 (_ : Params) : Obj := ⟨(.type "code"), .none, (.fields (List.toArray [(.str "_law_by_next" 828), (.str "_law_by_next" 829), (.str "/claim/cut.py" 830), (.int 262 0), (.int 2 0), (.int 0 0), (.int 0 0), (.int 3 0), (.ref 458), (.bool Bool.true), (.int 181 0), (.ref 459), PySem.Value.none, (.ref 460), (.ref 461), (.ref 462), (.int 833 0), (.int 262 0), (.str "/claim/cut.py" 834)])), (List.toArray [])⟩
noncomputable abbrev o_464_0 (_ : Params) : Obj := ⟨(.type "function"), .none, (.func ⟨"_law_by_next", "_law_by_next", (fA (topAt 56)), (.stmts (fB (topAt 56))), (fS (topAt 56)), 3, [], PySem.Value.none, PySem.Value.none, PySem.Value.none, (.str "law_sz0088_01" 792), .none, (.ref 463), PySem.Value.none, 0⟩), (List.toArray [])⟩
noncomputable abbrev o_465_0 (_ : Params) : Obj := ⟨(.type "tuple"), .none, (.seq (List.toArray []) 0), (List.toArray [])⟩
noncomputable abbrev o_466_0 (_ : Params) : Obj := ⟨PySem.Value.none, .none, (.fields (List.toArray [])), (List.toArray [])⟩
noncomputable abbrev o_467_0 (_ : Params) : Obj := ⟨(.type "tuple"), .none, (.seq (List.toArray [(.str "x" 839), (.str "y" 840)]) 0), (List.toArray [])⟩
noncomputable abbrev o_468_0 (_ : Params) : Obj := ⟨(.type "tuple"), .none, (.seq (List.toArray []) 0), (List.toArray [])⟩
noncomputable abbrev o_469_0 (_ : Params) : Obj := ⟨PySem.Value.none, .none, (.func ⟨"_law_by_first", "_law_by_first", (fA (topAt 57)), (.stmts (fB (topAt 57))), (fS (topAt 57)), 0, [], PySem.Value.none, PySem.Value.none, PySem.Value.none, PySem.Value.none, .none, PySem.Value.none, PySem.Value.none, 0⟩), (List.toArray [])⟩
noncomputable abbrev o_470_0 (_ : Params) : Obj := ⟨(.type "code"), .none, (.fields (List.toArray [(.str "_law_by_first" 836), (.str "_law_by_first" 837), (.str "/claim/cut.py" 838), (.int 264 0), (.int 2 0), (.int 0 0), (.int 0 0), (.int 3 0), (.ref 465), (.bool Bool.true), (.int 181 0), (.ref 466), PySem.Value.none, (.ref 467), (.ref 468), (.ref 469), (.int 841 0), (.int 264 0), (.str "/claim/cut.py" 842)])), (List.toArray [])⟩
noncomputable abbrev o_471_0 (_ : Params) : Obj := ⟨(.type "function"), .none, (.func ⟨"_law_by_first", "_law_by_first", (fA (topAt 57)), (.stmts (fB (topAt 57))), (fS (topAt 57)), 3, [], PySem.Value.none, PySem.Value.none, PySem.Value.none, (.str "law_sz0088_01" 792), .none, (.ref 470), PySem.Value.none, 0⟩), (List.toArray [])⟩
noncomputable abbrev o_3_12 (P : Params) : Obj := ⟨(.type "dict"), .none, (.dict (List.toArray (⟨(PySem.PyData.keyHash P "__name__"), (.str "__name__" 165), (.str "law_sz0088_01" 792)⟩ :: ⟨(PySem.PyData.keyHash P "__doc__"), (.str "__doc__" 166), PySem.Value.none⟩ :: ⟨(PySem.PyData.keyHash P "__package__"), (.str "__package__" 167), PySem.Value.none⟩ :: ⟨(PySem.PyData.keyHash P "__loader__"), (.str "__loader__" 168), (.builtin "__main__.__loader__#opaque")⟩ :: ⟨(PySem.PyData.keyHash P "__spec__"), (.str "__spec__" 169), PySem.Value.none⟩ :: ⟨(PySem.PyData.keyHash P "__annotations__"), (.str "__annotations__" 170), (.ref 6)⟩ :: ⟨(PySem.PyData.keyHash P "__builtins__"), (.str "__builtins__" 171), (.ref 4)⟩ :: ⟨(PySem.PyData.keyHash P "__file__"), (.str "__file__" 173), (.str "/claim/cut.py" 172)⟩ :: ⟨(PySem.PyData.keyHash P "__cached__"), (.str "__cached__" 174), PySem.Value.none⟩ :: ⟨(PySem.PyData.keyHash P "PerlError"), (.str "PerlError" 217), (.ref 31)⟩ :: ⟨(PySem.PyData.keyHash P "Die"), (.str "Die" 242), (.ref 51)⟩ :: ⟨(PySem.PyData.keyHash P "FIGURES"), (.str "FIGURES" 246), (.str "0123456789" 245)⟩ :: ⟨(PySem.PyData.keyHash P "SPACES"), (.str "SPACES" 248), (.str " \t\n\x0d\x0c\x0b" 247)⟩ :: ⟨(PySem.PyData.keyHash P "wrap_number"), (.str "wrap_number" 256), (.ref 60)⟩ :: ⟨(PySem.PyData.keyHash P "add_numbers"), (.str "add_numbers" 265), (.ref 67)⟩ :: ⟨(PySem.PyData.keyHash P "sub_numbers"), (.str "sub_numbers" 274), (.ref 74)⟩ :: ⟨(PySem.PyData.keyHash P "mul_numbers"), (.str "mul_numbers" 283), (.ref 81)⟩ :: ⟨(PySem.PyData.keyHash P "cut_quotient"), (.str "cut_quotient" 292), (.ref 88)⟩ :: ⟨(PySem.PyData.keyHash P "div_numbers"), (.str "div_numbers" 301), (.ref 95)⟩ :: ⟨(PySem.PyData.keyHash P "mod_numbers"), (.str "mod_numbers" 310), (.ref 102)⟩ :: ⟨(PySem.PyData.keyHash P "power_numbers"), (.str "power_numbers" 320), (.ref 109)⟩ :: ⟨(PySem.PyData.keyHash P "number_head"), (.str "number_head" 330), (.ref 116)⟩ :: ⟨(PySem.PyData.keyHash P "numeric_text"), (.str "numeric_text" 342), (.ref 123)⟩ :: ⟨(PySem.PyData.keyHash P "number_text"), (.str "number_text" 350), (.ref 130)⟩ :: ⟨(PySem.PyData.keyHash P "HEX_FIGURES"), (.str "HEX_FIGURES" 354), (.str "0123456789abcdef" 353)⟩ :: ⟨(PySem.PyData.keyHash P "Thing"), (.str "Thing" 388), (.ref 147)⟩ :: ⟨(PySem.PyData.keyHash P "Scalar"), (.str "Scalar" 415), (.ref 168)⟩ :: ⟨(PySem.PyData.keyHash P "Array"), (.str "Array" 441), (.ref 187)⟩ :: ⟨(PySem.PyData.keyHash P "Hash"), (.str "Hash" 468), (.ref 206)⟩ :: ⟨(PySem.PyData.keyHash P "Code"), (.str "Code" 498), (.ref 225)⟩ :: ⟨(PySem.PyData.keyHash P "Glob"), (.str "Glob" 528), (.ref 244)⟩ :: ⟨(PySem.PyData.keyHash P "Ref"), (.str "Ref" 559), (.ref 264)⟩ :: ⟨(PySem.PyData.keyHash P "thing_word"), (.str "thing_word" 566), (.ref 275)⟩ :: ⟨(PySem.PyData.keyHash P "hex_of"), (.str "hex_of" 574), (.ref 282)⟩ :: ⟨(PySem.PyData.keyHash P "ref_text"), (.str "ref_text" 582), (.ref 289)⟩ :: ⟨(PySem.PyData.keyHash P "value_of"), (.str "value_of" 591), (.ref 296)⟩ :: ⟨(PySem.PyData.keyHash P "to_text"), (.str "to_text" 598), (.ref 303)⟩ :: ⟨(PySem.PyData.keyHash P "to_number"), (.str "to_number" 606), (.ref 310)⟩ :: ⟨(PySem.PyData.keyHash P "compare_num"), (.str "compare_num" 617), (.ref 317)⟩ :: ⟨(PySem.PyData.keyHash P "compare_text"), (.str "compare_text" 627), (.ref 324)⟩ :: ⟨(PySem.PyData.keyHash P "by_numbers"), (.str "by_numbers" 637), (.ref 331)⟩ :: ⟨(PySem.PyData.keyHash P "op_add"), (.str "op_add" 646), (.ref 338)⟩ :: ⟨(PySem.PyData.keyHash P "op_sub"), (.str "op_sub" 655), (.ref 345)⟩ :: ⟨(PySem.PyData.keyHash P "op_mul"), (.str "op_mul" 664), (.ref 352)⟩ :: ⟨(PySem.PyData.keyHash P "op_div"), (.str "op_div" 673), (.ref 359)⟩ :: ⟨(PySem.PyData.keyHash P "op_mod"), (.str "op_mod" 682), (.ref 366)⟩ :: ⟨(PySem.PyData.keyHash P "op_power"), (.str "op_power" 691), (.ref 373)⟩ :: ⟨(PySem.PyData.keyHash P "arithmetic_ops"), (.str "arithmetic_ops" 697), (.ref 380)⟩ :: ⟨(PySem.PyData.keyHash P "merged_runs"), (.str "merged_runs" 711), (.ref 387)⟩ :: ⟨(PySem.PyData.keyHash P "sorted_members"), (.str "sorted_members" 717), (.ref 392)⟩ :: ⟨(PySem.PyData.keyHash P "order_by_text"), (.str "order_by_text" 725), (.ref 399)⟩ :: ⟨(PySem.PyData.keyHash P "sorted_by_text"), (.str "sorted_by_text" 732), (.ref 406)⟩ :: ⟨(PySem.PyData.keyHash P "is_sorted"), (.str "is_sorted" 741), (.ref 413)⟩ :: ⟨(PySem.PyData.keyHash P "Limits"), (.str "Limits" 791), (.ref 431)⟩ :: ⟨(PySem.PyData.keyHash P "_law_rest"), (.str "_law_rest" 802), (.ref 436)⟩ :: ⟨(PySem.PyData.keyHash P "_law_toss"), (.str "_law_toss" 811), (.ref 443)⟩ :: ⟨(PySem.PyData.keyHash P "_law_figure"), (.str "_law_figure" 819), (.ref 450)⟩ :: ⟨(PySem.PyData.keyHash P "_law_by_last"), (.str "_law_by_last" 827), (.ref 457)⟩ :: ⟨(PySem.PyData.keyHash P "_law_by_next"), (.str "_law_by_next" 835), (.ref 464)⟩ :: ⟨(PySem.PyData.keyHash P "_law_by_first"), (.str "_law_by_first" 843), (.ref 471)⟩ :: ⟨(PySem.PyData.keyHash P "_law_by_two"), (.str "_law_by_two" 852), (.ref 478)⟩ :: ⟨(PySem.PyData.keyHash P "_law_by_texts"), (.str "_law_by_texts" 860), (.ref 485)⟩ :: ⟨(PySem.PyData.keyHash P "law"), (.str "law" 866), (.ref 490)⟩ :: [])) 63), (List.toArray [])⟩
noncomputable abbrev o_12_12 (_ : Params) : Obj := ⟨PySem.Value.none, .none, (.fields (List.toArray ((.int 2 0) :: (.int 0 0) :: (.ref 20) :: (.int 7 0) :: (.int 0 0) :: (.ref 40) :: (.int 15 0) :: (.int 0 0) :: (.ref 59) :: (.int 20 0) :: (.int 0 0) :: (.ref 66) :: (.int 22 0) :: (.int 0 0) :: (.ref 73) :: (.int 24 0) :: (.int 0 0) :: (.ref 80) :: (.int 26 0) :: (.int 0 0) :: (.ref 87) :: (.int 31 0) :: (.int 0 0) :: (.ref 94) :: (.int 35 0) :: (.int 0 0) :: (.ref 101) :: (.int 39 0) :: (.int 0 0) :: (.ref 108) :: (.int 51 0) :: (.int 0 0) :: (.ref 115) :: (.int 64 0) :: (.int 0 0) :: (.ref 122) :: (.int 73 0) :: (.int 0 0) :: (.ref 129) :: (.int 83 0) :: (.int 0 0) :: (.ref 136) :: (.int 92 0) :: (.int 0 0) :: (.ref 157) :: (.int 98 0) :: (.int 0 0) :: (.ref 176) :: (.int 104 0) :: (.int 0 0) :: (.ref 195) :: (.int 111 0) :: (.int 0 0) :: (.ref 214) :: (.int 119 0) :: (.int 0 0) :: (.ref 233) :: (.int 128 0) :: (.int 0 0) :: (.ref 252) :: (.int 133 0) :: (.int 0 0) :: (.ref 274) :: (.int 145 0) :: (.int 0 0) :: (.ref 281) :: (.int 151 0) :: (.int 0 0) :: (.ref 288) :: (.int 157 0) :: (.int 0 0) :: (.ref 295) :: (.int 163 0) :: (.int 0 0) :: (.ref 302) :: (.int 171 0) :: (.int 0 0) :: (.ref 309) :: (.int 179 0) :: (.int 0 0) :: (.ref 316) :: (.int 185 0) :: (.int 0 0) :: (.ref 323) :: (.int 191 0) :: (.int 0 0) :: (.ref 330) :: (.int 193 0) :: (.int 0 0) :: (.ref 337) :: (.int 195 0) :: (.int 0 0) :: (.ref 344) :: (.int 197 0) :: (.int 0 0) :: (.ref 351) :: (.int 199 0) :: (.int 0 0) :: (.ref 358) :: (.int 201 0) :: (.int 0 0) :: (.ref 365) :: (.int 203 0) :: (.int 0 0) :: (.ref 372) :: (.int 205 0) :: (.int 0 0) :: (.ref 379) :: (.int 208 0) :: (.int 0 0) :: (.ref 386) :: (.int 222 0) :: (.int 0 0) :: (.ref 391) :: (.int 234 0) :: (.int 0 0) :: (.ref 398) :: (.int 236 0) :: (.int 0 0) :: (.ref 405) :: (.int 238 0) :: (.int 0 0) :: (.ref 412) :: (.int 244 0) :: (.int 0 0) :: (.ref 419) :: (.int 254 0) :: (.int 0 0) :: (.ref 442) :: (.int 258 0) :: (.int 0 0) :: (.ref 449) :: (.int 260 0) :: (.int 0 0) :: (.ref 456) :: (.int 262 0) :: (.int 0 0) :: (.ref 463) :: (.int 264 0) :: (.int 0 0) :: (.ref 470) :: (.int 266 0) :: (.int 0 0) :: (.ref 477) :: (.int 269 0) :: (.int 0 0) :: (.ref 484) :: (.int 271 0) :: (.int 0 0) :: (.ref 489) :: []))), (List.toArray [])⟩
noncomputable abbrev o_472_0 (_ : Params) : Obj := ⟨(.type "tuple"), .none, (.seq (List.toArray []) 0), (List.toArray [])⟩
noncomputable abbrev o_473_0 (_ : Params) : Obj := ⟨PySem.Value.none, .none, (.fields (List.toArray [])), (List.toArray [])⟩
noncomputable abbrev o_474_0 (_ : Params) : Obj := ⟨(.type "tuple"), .none, (.seq (List.toArray [(.str "x" 847), (.str "y" 848), (.str "way" 849)]) 0), (List.toArray [])⟩
noncomputable abbrev o_475_0 (_ : Params) : Obj := ⟨(.type "tuple"), .none, (.seq (List.toArray []) 0), (List.toArray [])⟩
noncomputable abbrev o_476_0 (_ : Params) : Obj := ⟨PySem.Value.none, .none, (.func ⟨"_law_by_two", "_law_by_two", (fA (topAt 58)), (.stmts (fB (topAt 58))), (fS (topAt 58)), 0, [], PySem.Value.none, PySem.Value.none, PySem.Value.none, PySem.Value.none, .none, PySem.Value.none, PySem.Value.none, 0⟩), (List.toArray [])⟩
noncomputable abbrev o_477_0 (_ : Params) : Obj := ⟨(.type "code"), .none, (.fields (List.toArray [(.str "_law_by_two" 844), (.str "_law_by_two" 845), (.str "/claim/cut.py" 846), (.int 266 0), (.int 2 0), (.int 0 0), (.int 0 0), (.int 3 0), (.ref 472), (.bool Bool.true), (.int 181 0), (.ref 473), PySem.Value.none, (.ref 474), (.ref 475), (.ref 476), (.int 850 0), (.int 266 0), (.str "/claim/cut.py" 851)])), (List.toArray [])⟩
noncomputable abbrev o_478_0 (_ : Params) : Obj := ⟨(.type "function"), .none, (.func ⟨"_law_by_two", "_law_by_two", (fA (topAt 58)), (.stmts (fB (topAt 58))), (fS (topAt 58)), 3, [], PySem.Value.none, PySem.Value.none, PySem.Value.none, (.str "law_sz0088_01" 792), .none, (.ref 477), PySem.Value.none, 0⟩), (List.toArray [])⟩
noncomputable abbrev o_479_0 (_ : Params) : Obj := ⟨(.type "tuple"), .none, (.seq (List.toArray []) 0), (List.toArray [])⟩
noncomputable abbrev o_480_0 (_ : Params) : Obj := ⟨PySem.Value.none, .none, (.fields (List.toArray [])), (List.toArray [])⟩
noncomputable abbrev o_481_0 (_ : Params) : Obj := ⟨(.type "tuple"), .none, (.seq (List.toArray [(.str "x" 856), (.str "y" 857)]) 0), (List.toArray [])⟩
noncomputable abbrev o_482_0 (_ : Params) : Obj := ⟨(.type "tuple"), .none, (.seq (List.toArray []) 0), (List.toArray [])⟩
noncomputable abbrev o_483_0 (_ : Params) : Obj := ⟨PySem.Value.none, .none, (.func ⟨"_law_by_texts", "_law_by_texts", (fA (topAt 59)), (.stmts (fB (topAt 59))), (fS (topAt 59)), 0, [], PySem.Value.none, PySem.Value.none, PySem.Value.none, PySem.Value.none, .none, PySem.Value.none, PySem.Value.none, 0⟩), (List.toArray [])⟩
noncomputable abbrev o_484_0 (_ : Params) : Obj := ⟨(.type "code"), .none, (.fields (List.toArray [(.str "_law_by_texts" 853), (.str "_law_by_texts" 854), (.str "/claim/cut.py" 855), (.int 269 0), (.int 2 0), (.int 0 0), (.int 0 0), (.int 3 0), (.ref 479), (.bool Bool.true), (.int 181 0), (.ref 480), PySem.Value.none, (.ref 481), (.ref 482), (.ref 483), (.int 858 0), (.int 269 0), (.str "/claim/cut.py" 859)])), (List.toArray [])⟩
noncomputable abbrev o_485_0 (_ : Params) : Obj := ⟨(.type "function"), .none, (.func ⟨"_law_by_texts", "_law_by_texts", (fA (topAt 59)), (.stmts (fB (topAt 59))), (fS (topAt 59)), 3, [], PySem.Value.none, PySem.Value.none, PySem.Value.none, (.str "law_sz0088_01" 792), .none, (.ref 484), PySem.Value.none, 0⟩), (List.toArray [])⟩
noncomputable abbrev o_486_0 (_ : Params) : Obj := ⟨(.type "tuple"), .none, (.seq (List.toArray []) 0), (List.toArray [])⟩
noncomputable abbrev o_487_0 (_ : Params) : Obj := ⟨PySem.Value.none, .none, (.fields (List.toArray [])), (List.toArray [])⟩
noncomputable abbrev o_488_0 (_ : Params) : Obj := ⟨PySem.Value.none, .none, (.func ⟨"law", "law", (fA (topAt 60)), (.stmts (fB (topAt 60))), (fS (topAt 60)), 0, [], PySem.Value.none, PySem.Value.none, PySem.Value.none, PySem.Value.none, .none, PySem.Value.none, PySem.Value.none, 0⟩), (List.toArray [])⟩
noncomputable abbrev o_489_0 (_ : Params) : Obj := ⟨(.type "code"), .none, (.fields (List.toArray [(.str "law" 861), (.str "law" 862), (.str "/claim/cut.py" 863), (.int 271 0), (.int 1 0), (.int 0 0), (.int 0 0), (.int 3 0), (.ref 486), (.bool Bool.true), (.int 181 0), (.ref 487), PySem.Value.none, PySem.Value.none, PySem.Value.none, (.ref 488), (.int 864 0), (.int 271 0), (.str "/claim/cut.py" 865)])), (List.toArray [])⟩
noncomputable abbrev o_490_0 (_ : Params) : Obj := ⟨(.type "function"), .none, (.func ⟨"law", "law", (fA (topAt 60)), (.stmts (fB (topAt 60))), (fS (topAt 60)), 3, [], PySem.Value.none, PySem.Value.none, PySem.Value.none, (.str "law_sz0088_01" 792), .none, (.ref 489), PySem.Value.none, 0⟩), (List.toArray [])⟩
abbrev tLife : Life := ⟨[], [], [], 0, [], [], Bool.false, (List.toArray []), [], 0, Bool.false, Bool.false, Bool.false, 0, [2000, 10, 10], Bool.false, 0, Bool.true, [], [], 0, Bool.false⟩
abbrev tDrawn : Drawn := ⟨0, 0, 0, 0⟩
noncomputable abbrev tEnv : Env := { scope := PySem.Challenge.pw_sz0088_01.main.scope, locals := mainNs, globals := mainNs, cells := [], code := (.ref 13), frame := some 14 }
noncomputable abbrev tCode : Code := .body (behindTheImports PySem.Challenge.pw_sz0088_01) tEnv
abbrev tB : List Frame := [topFrame ⟨0, 0, 0, 0⟩]
noncomputable abbrev tr_0 (P : Params) : BT := (.node (boot_o_0 P) (.node (boot_o_1 P) (.node (boot_o_3 P) (.node (boot_o_7 P) .nil .nil) (.node (o_11_0 P) .nil .nil)) (.node (boot_o_5 P) (.node (boot_o_9 P) .nil .nil) (.node (o_13_0 P) .nil .nil))) (.node (boot_o_2 P) (.node (boot_o_4 P) (.node (boot_o_8 P) .nil .nil) (.node (o_12_0 P) .nil .nil)) (.node (boot_o_6 P) (.node (o_10_0 P) .nil .nil) (.node (o_14_0 P) .nil .nil))))
noncomputable abbrev tr_2 (P : Params) : BT := (.node (boot_o_0 P) (.node (boot_o_1 P) (.node (o_3_1 P) (.node (boot_o_7 P) (.node (o_15_0 P) (.node (o_31_0 P) .nil .nil) .nil) (.node (o_23_0 P) .nil .nil)) (.node (o_11_0 P) (.node (o_19_0 P) .nil .nil) (.node (o_27_0 P) .nil .nil))) (.node (boot_o_5 P) (.node (boot_o_9 P) (.node (o_17_0 P) (.node (o_33_0 P) .nil .nil) .nil) (.node (o_25_0 P) .nil .nil)) (.node (o_13_0 P) (.node (o_21_0 P) .nil .nil) (.node (o_29_0 P) .nil .nil)))) (.node (o_2_1 P) (.node (boot_o_4 P) (.node (boot_o_8 P) (.node (o_16_0 P) (.node (o_32_0 P) .nil .nil) .nil) (.node (o_24_0 P) .nil .nil)) (.node (o_12_1 P) (.node (o_20_0 P) .nil .nil) (.node (o_28_0 P) .nil .nil))) (.node (boot_o_6 P) (.node (o_10_0 P) (.node (o_18_0 P) (.node (o_34_0 P) .nil .nil) .nil) (.node (o_26_0 P) .nil .nil)) (.node (o_14_0 P) (.node (o_22_0 P) .nil .nil) (.node (o_30_0 P) .nil .nil)))))
noncomputable abbrev tr_3 (P : Params) : BT := (.node (boot_o_0 P) (.node (boot_o_1 P) (.node (o_3_2 P) (.node (boot_o_7 P) (.node (o_15_0 P) (.node (o_31_1 P) (.node (o_63_0 P) .nil .nil) .nil) (.node (o_47_0 P) (.node (o_79_0 P) .nil .nil) .nil)) (.node (o_23_0 P) (.node (o_39_0 P) (.node (o_71_0 P) .nil .nil) .nil) (.node (o_55_0 P) (.node (o_87_0 P) .nil .nil) .nil))) (.node (o_11_0 P) (.node (o_19_0 P) (.node (o_35_0 P) (.node (o_67_0 P) .nil .nil) .nil) (.node (o_51_0 P) (.node (o_83_0 P) .nil .nil) .nil)) (.node (o_27_0 P) (.node (o_43_0 P) (.node (o_75_0 P) .nil .nil) .nil) (.node (o_59_0 P) .nil .nil)))) (.node (boot_o_5 P) (.node (boot_o_9 P) (.node (o_17_0 P) (.node (o_33_0 P) (.node (o_65_0 P) .nil .nil) .nil) (.node (o_49_0 P) (.node (o_81_0 P) .nil .nil) .nil)) (.node (o_25_0 P) (.node (o_41_0 P) (.node (o_73_0 P) .nil .nil) .nil) (.node (o_57_0 P) .nil .nil))) (.node (o_13_0 P) (.node (o_21_0 P) (.node (o_37_0 P) (.node (o_69_0 P) .nil .nil) .nil) (.node (o_53_0 P) (.node (o_85_0 P) .nil .nil) .nil)) (.node (o_29_0 P) (.node (o_45_0 P) (.node (o_77_0 P) .nil .nil) .nil) (.node (o_61_0 P) .nil .nil))))) (.node (o_2_1 P) (.node (boot_o_4 P) (.node (boot_o_8 P) (.node (o_16_0 P) (.node (o_32_0 P) (.node (o_64_0 P) .nil .nil) .nil) (.node (o_48_0 P) (.node (o_80_0 P) .nil .nil) .nil)) (.node (o_24_0 P) (.node (o_40_0 P) (.node (o_72_0 P) .nil .nil) .nil) (.node (o_56_0 P) (.node (o_88_0 P) .nil .nil) .nil))) (.node (o_12_2 P) (.node (o_20_0 P) (.node (o_36_0 P) (.node (o_68_0 P) .nil .nil) .nil) (.node (o_52_0 P) (.node (o_84_0 P) .nil .nil) .nil)) (.node (o_28_0 P) (.node (o_44_0 P) (.node (o_76_0 P) .nil .nil) .nil) (.node (o_60_0 P) .nil .nil)))) (.node (boot_o_6 P) (.node (o_10_0 P) (.node (o_18_0 P) (.node (o_34_0 P) (.node (o_66_0 P) .nil .nil) .nil) (.node (o_50_0 P) (.node (o_82_0 P) .nil .nil) .nil)) (.node (o_26_0 P) (.node (o_42_0 P) (.node (o_74_0 P) .nil .nil) .nil) (.node (o_58_0 P) .nil .nil))) (.node (o_14_0 P) (.node (o_22_0 P) (.node (o_38_0 P) (.node (o_70_0 P) .nil .nil) .nil) (.node (o_54_0 P) (.node (o_86_0 P) .nil .nil) .nil)) (.node (o_30_0 P) (.node (o_46_0 P) (.node (o_78_0 P) .nil .nil) .nil) (.node (o_62_0 P) .nil .nil))))))
noncomputable abbrev tr_4 (P : Params) : BT := (.node (boot_o_0 P) (.node (boot_o_1 P) (.node (o_3_3 P) (.node (boot_o_7 P) (.node (o_15_0 P) (.node (o_31_1 P) (.node (o_63_0 P) (.node (o_127_0 P) .nil .nil) .nil) (.node (o_95_0 P) .nil .nil)) (.node (o_47_0 P) (.node (o_79_0 P) (.node (o_143_0 P) .nil .nil) .nil) (.node (o_111_0 P) .nil .nil))) (.node (o_23_0 P) (.node (o_39_0 P) (.node (o_71_0 P) (.node (o_135_0 P) .nil .nil) .nil) (.node (o_103_0 P) .nil .nil)) (.node (o_55_0 P) (.node (o_87_0 P) (.node (o_151_0 P) .nil .nil) .nil) (.node (o_119_0 P) .nil .nil)))) (.node (o_11_0 P) (.node (o_19_0 P) (.node (o_35_0 P) (.node (o_67_0 P) (.node (o_131_0 P) .nil .nil) .nil) (.node (o_99_0 P) .nil .nil)) (.node (o_51_0 P) (.node (o_83_0 P) (.node (o_147_0 P) .nil .nil) .nil) (.node (o_115_0 P) .nil .nil))) (.node (o_27_0 P) (.node (o_43_0 P) (.node (o_75_0 P) (.node (o_139_0 P) .nil .nil) .nil) (.node (o_107_0 P) .nil .nil)) (.node (o_59_0 P) (.node (o_91_0 P) .nil .nil) (.node (o_123_0 P) .nil .nil))))) (.node (boot_o_5 P) (.node (boot_o_9 P) (.node (o_17_0 P) (.node (o_33_0 P) (.node (o_65_0 P) (.node (o_129_0 P) .nil .nil) .nil) (.node (o_97_0 P) .nil .nil)) (.node (o_49_0 P) (.node (o_81_0 P) (.node (o_145_0 P) .nil .nil) .nil) (.node (o_113_0 P) .nil .nil))) (.node (o_25_0 P) (.node (o_41_0 P) (.node (o_73_0 P) (.node (o_137_0 P) .nil .nil) .nil) (.node (o_105_0 P) .nil .nil)) (.node (o_57_0 P) (.node (o_89_0 P) .nil .nil) (.node (o_121_0 P) .nil .nil)))) (.node (o_13_0 P) (.node (o_21_0 P) (.node (o_37_0 P) (.node (o_69_0 P) (.node (o_133_0 P) .nil .nil) .nil) (.node (o_101_0 P) .nil .nil)) (.node (o_53_0 P) (.node (o_85_0 P) (.node (o_149_0 P) .nil .nil) .nil) (.node (o_117_0 P) .nil .nil))) (.node (o_29_0 P) (.node (o_45_0 P) (.node (o_77_0 P) (.node (o_141_0 P) .nil .nil) .nil) (.node (o_109_0 P) .nil .nil)) (.node (o_61_0 P) (.node (o_93_0 P) .nil .nil) (.node (o_125_0 P) .nil .nil)))))) (.node (o_2_1 P) (.node (boot_o_4 P) (.node (boot_o_8 P) (.node (o_16_0 P) (.node (o_32_0 P) (.node (o_64_0 P) (.node (o_128_0 P) .nil .nil) .nil) (.node (o_96_0 P) .nil .nil)) (.node (o_48_0 P) (.node (o_80_0 P) (.node (o_144_0 P) .nil .nil) .nil) (.node (o_112_0 P) .nil .nil))) (.node (o_24_0 P) (.node (o_40_0 P) (.node (o_72_0 P) (.node (o_136_0 P) .nil .nil) .nil) (.node (o_104_0 P) .nil .nil)) (.node (o_56_0 P) (.node (o_88_0 P) .nil .nil) (.node (o_120_0 P) .nil .nil)))) (.node (o_12_3 P) (.node (o_20_0 P) (.node (o_36_0 P) (.node (o_68_0 P) (.node (o_132_0 P) .nil .nil) .nil) (.node (o_100_0 P) .nil .nil)) (.node (o_52_0 P) (.node (o_84_0 P) (.node (o_148_0 P) .nil .nil) .nil) (.node (o_116_0 P) .nil .nil))) (.node (o_28_0 P) (.node (o_44_0 P) (.node (o_76_0 P) (.node (o_140_0 P) .nil .nil) .nil) (.node (o_108_0 P) .nil .nil)) (.node (o_60_0 P) (.node (o_92_0 P) .nil .nil) (.node (o_124_0 P) .nil .nil))))) (.node (boot_o_6 P) (.node (o_10_0 P) (.node (o_18_0 P) (.node (o_34_0 P) (.node (o_66_0 P) (.node (o_130_0 P) .nil .nil) .nil) (.node (o_98_0 P) .nil .nil)) (.node (o_50_0 P) (.node (o_82_0 P) (.node (o_146_0 P) .nil .nil) .nil) (.node (o_114_0 P) .nil .nil))) (.node (o_26_0 P) (.node (o_42_0 P) (.node (o_74_0 P) (.node (o_138_0 P) .nil .nil) .nil) (.node (o_106_0 P) .nil .nil)) (.node (o_58_0 P) (.node (o_90_0 P) .nil .nil) (.node (o_122_0 P) .nil .nil)))) (.node (o_14_0 P) (.node (o_22_0 P) (.node (o_38_0 P) (.node (o_70_0 P) (.node (o_134_0 P) .nil .nil) .nil) (.node (o_102_0 P) .nil .nil)) (.node (o_54_0 P) (.node (o_86_0 P) (.node (o_150_0 P) .nil .nil) .nil) (.node (o_118_0 P) .nil .nil))) (.node (o_30_0 P) (.node (o_46_0 P) (.node (o_78_0 P) (.node (o_142_0 P) .nil .nil) .nil) (.node (o_110_0 P) .nil .nil)) (.node (o_62_0 P) (.node (o_94_0 P) .nil .nil) (.node (o_126_0 P) .nil .nil)))))))
noncomputable abbrev tr_5 (P : Params) : BT := (.node (boot_o_0 P) (.node (boot_o_1 P) (.node (o_3_4 P) (.node (boot_o_7 P) (.node (o_15_0 P) (.node (o_31_1 P) (.node (o_63_0 P) (.node (o_127_0 P) .nil .nil) .nil) (.node (o_95_0 P) (.node (o_159_0 P) .nil .nil) .nil)) (.node (o_47_0 P) (.node (o_79_0 P) (.node (o_143_0 P) .nil .nil) .nil) (.node (o_111_0 P) .nil .nil))) (.node (o_23_0 P) (.node (o_39_0 P) (.node (o_71_0 P) (.node (o_135_0 P) .nil .nil) .nil) (.node (o_103_0 P) (.node (o_167_0 P) .nil .nil) .nil)) (.node (o_55_0 P) (.node (o_87_0 P) (.node (o_151_0 P) .nil .nil) .nil) (.node (o_119_0 P) .nil .nil)))) (.node (o_11_0 P) (.node (o_19_0 P) (.node (o_35_0 P) (.node (o_67_0 P) (.node (o_131_0 P) .nil .nil) .nil) (.node (o_99_0 P) (.node (o_163_0 P) .nil .nil) .nil)) (.node (o_51_0 P) (.node (o_83_0 P) (.node (o_147_1 P) .nil .nil) .nil) (.node (o_115_0 P) .nil .nil))) (.node (o_27_0 P) (.node (o_43_0 P) (.node (o_75_0 P) (.node (o_139_0 P) .nil .nil) .nil) (.node (o_107_0 P) .nil .nil)) (.node (o_59_0 P) (.node (o_91_0 P) (.node (o_155_0 P) .nil .nil) .nil) (.node (o_123_0 P) .nil .nil))))) (.node (boot_o_5 P) (.node (boot_o_9 P) (.node (o_17_0 P) (.node (o_33_0 P) (.node (o_65_0 P) (.node (o_129_0 P) .nil .nil) .nil) (.node (o_97_0 P) (.node (o_161_0 P) .nil .nil) .nil)) (.node (o_49_0 P) (.node (o_81_0 P) (.node (o_145_0 P) .nil .nil) .nil) (.node (o_113_0 P) .nil .nil))) (.node (o_25_0 P) (.node (o_41_0 P) (.node (o_73_0 P) (.node (o_137_0 P) .nil .nil) .nil) (.node (o_105_0 P) (.node (o_169_0 P) .nil .nil) .nil)) (.node (o_57_0 P) (.node (o_89_0 P) (.node (o_153_0 P) .nil .nil) .nil) (.node (o_121_0 P) .nil .nil)))) (.node (o_13_0 P) (.node (o_21_0 P) (.node (o_37_0 P) (.node (o_69_0 P) (.node (o_133_0 P) .nil .nil) .nil) (.node (o_101_0 P) (.node (o_165_0 P) .nil .nil) .nil)) (.node (o_53_0 P) (.node (o_85_0 P) (.node (o_149_0 P) .nil .nil) .nil) (.node (o_117_0 P) .nil .nil))) (.node (o_29_0 P) (.node (o_45_0 P) (.node (o_77_0 P) (.node (o_141_0 P) .nil .nil) .nil) (.node (o_109_0 P) .nil .nil)) (.node (o_61_0 P) (.node (o_93_0 P) (.node (o_157_0 P) .nil .nil) .nil) (.node (o_125_0 P) .nil .nil)))))) (.node (o_2_1 P) (.node (boot_o_4 P) (.node (boot_o_8 P) (.node (o_16_0 P) (.node (o_32_0 P) (.node (o_64_0 P) (.node (o_128_0 P) .nil .nil) .nil) (.node (o_96_0 P) (.node (o_160_0 P) .nil .nil) .nil)) (.node (o_48_0 P) (.node (o_80_0 P) (.node (o_144_0 P) .nil .nil) .nil) (.node (o_112_0 P) .nil .nil))) (.node (o_24_0 P) (.node (o_40_0 P) (.node (o_72_0 P) (.node (o_136_0 P) .nil .nil) .nil) (.node (o_104_0 P) (.node (o_168_0 P) .nil .nil) .nil)) (.node (o_56_0 P) (.node (o_88_0 P) (.node (o_152_0 P) .nil .nil) .nil) (.node (o_120_0 P) .nil .nil)))) (.node (o_12_4 P) (.node (o_20_0 P) (.node (o_36_0 P) (.node (o_68_0 P) (.node (o_132_0 P) .nil .nil) .nil) (.node (o_100_0 P) (.node (o_164_0 P) .nil .nil) .nil)) (.node (o_52_0 P) (.node (o_84_0 P) (.node (o_148_0 P) .nil .nil) .nil) (.node (o_116_0 P) .nil .nil))) (.node (o_28_0 P) (.node (o_44_0 P) (.node (o_76_0 P) (.node (o_140_0 P) .nil .nil) .nil) (.node (o_108_0 P) .nil .nil)) (.node (o_60_0 P) (.node (o_92_0 P) (.node (o_156_0 P) .nil .nil) .nil) (.node (o_124_0 P) .nil .nil))))) (.node (boot_o_6 P) (.node (o_10_0 P) (.node (o_18_0 P) (.node (o_34_0 P) (.node (o_66_0 P) (.node (o_130_0 P) .nil .nil) .nil) (.node (o_98_0 P) (.node (o_162_0 P) .nil .nil) .nil)) (.node (o_50_0 P) (.node (o_82_0 P) (.node (o_146_0 P) .nil .nil) .nil) (.node (o_114_0 P) .nil .nil))) (.node (o_26_0 P) (.node (o_42_0 P) (.node (o_74_0 P) (.node (o_138_0 P) .nil .nil) .nil) (.node (o_106_0 P) (.node (o_170_0 P) .nil .nil) .nil)) (.node (o_58_0 P) (.node (o_90_0 P) (.node (o_154_0 P) .nil .nil) .nil) (.node (o_122_0 P) .nil .nil)))) (.node (o_14_0 P) (.node (o_22_0 P) (.node (o_38_0 P) (.node (o_70_0 P) (.node (o_134_0 P) .nil .nil) .nil) (.node (o_102_0 P) (.node (o_166_0 P) .nil .nil) .nil)) (.node (o_54_0 P) (.node (o_86_0 P) (.node (o_150_0 P) .nil .nil) .nil) (.node (o_118_0 P) .nil .nil))) (.node (o_30_0 P) (.node (o_46_0 P) (.node (o_78_0 P) (.node (o_142_0 P) .nil .nil) .nil) (.node (o_110_0 P) .nil .nil)) (.node (o_62_0 P) (.node (o_94_0 P) (.node (o_158_0 P) .nil .nil) .nil) (.node (o_126_0 P) .nil .nil)))))))
noncomputable abbrev tr_6 (P : Params) : BT := (.node (boot_o_0 P) (.node (boot_o_1 P) (.node (o_3_5 P) (.node (boot_o_7 P) (.node (o_15_0 P) (.node (o_31_1 P) (.node (o_63_0 P) (.node (o_127_0 P) .nil .nil) .nil) (.node (o_95_0 P) (.node (o_159_0 P) .nil .nil) .nil)) (.node (o_47_0 P) (.node (o_79_0 P) (.node (o_143_0 P) .nil .nil) .nil) (.node (o_111_0 P) (.node (o_175_0 P) .nil .nil) .nil))) (.node (o_23_0 P) (.node (o_39_0 P) (.node (o_71_0 P) (.node (o_135_0 P) .nil .nil) .nil) (.node (o_103_0 P) (.node (o_167_0 P) .nil .nil) .nil)) (.node (o_55_0 P) (.node (o_87_0 P) (.node (o_151_0 P) .nil .nil) .nil) (.node (o_119_0 P) (.node (o_183_0 P) .nil .nil) .nil)))) (.node (o_11_0 P) (.node (o_19_0 P) (.node (o_35_0 P) (.node (o_67_0 P) (.node (o_131_0 P) .nil .nil) .nil) (.node (o_99_0 P) (.node (o_163_0 P) .nil .nil) .nil)) (.node (o_51_0 P) (.node (o_83_0 P) (.node (o_147_2 P) .nil .nil) .nil) (.node (o_115_0 P) (.node (o_179_0 P) .nil .nil) .nil))) (.node (o_27_0 P) (.node (o_43_0 P) (.node (o_75_0 P) (.node (o_139_0 P) .nil .nil) .nil) (.node (o_107_0 P) (.node (o_171_0 P) .nil .nil) .nil)) (.node (o_59_0 P) (.node (o_91_0 P) (.node (o_155_0 P) .nil .nil) .nil) (.node (o_123_0 P) (.node (o_187_0 P) .nil .nil) .nil))))) (.node (boot_o_5 P) (.node (boot_o_9 P) (.node (o_17_0 P) (.node (o_33_0 P) (.node (o_65_0 P) (.node (o_129_0 P) .nil .nil) .nil) (.node (o_97_0 P) (.node (o_161_0 P) .nil .nil) .nil)) (.node (o_49_0 P) (.node (o_81_0 P) (.node (o_145_0 P) .nil .nil) .nil) (.node (o_113_0 P) (.node (o_177_0 P) .nil .nil) .nil))) (.node (o_25_0 P) (.node (o_41_0 P) (.node (o_73_0 P) (.node (o_137_0 P) .nil .nil) .nil) (.node (o_105_0 P) (.node (o_169_0 P) .nil .nil) .nil)) (.node (o_57_0 P) (.node (o_89_0 P) (.node (o_153_0 P) .nil .nil) .nil) (.node (o_121_0 P) (.node (o_185_0 P) .nil .nil) .nil)))) (.node (o_13_0 P) (.node (o_21_0 P) (.node (o_37_0 P) (.node (o_69_0 P) (.node (o_133_0 P) .nil .nil) .nil) (.node (o_101_0 P) (.node (o_165_0 P) .nil .nil) .nil)) (.node (o_53_0 P) (.node (o_85_0 P) (.node (o_149_0 P) .nil .nil) .nil) (.node (o_117_0 P) (.node (o_181_0 P) .nil .nil) .nil))) (.node (o_29_0 P) (.node (o_45_0 P) (.node (o_77_0 P) (.node (o_141_0 P) .nil .nil) .nil) (.node (o_109_0 P) (.node (o_173_0 P) .nil .nil) .nil)) (.node (o_61_0 P) (.node (o_93_0 P) (.node (o_157_0 P) .nil .nil) .nil) (.node (o_125_0 P) (.node (o_189_0 P) .nil .nil) .nil)))))) (.node (o_2_1 P) (.node (boot_o_4 P) (.node (boot_o_8 P) (.node (o_16_0 P) (.node (o_32_0 P) (.node (o_64_0 P) (.node (o_128_0 P) .nil .nil) .nil) (.node (o_96_0 P) (.node (o_160_0 P) .nil .nil) .nil)) (.node (o_48_0 P) (.node (o_80_0 P) (.node (o_144_0 P) .nil .nil) .nil) (.node (o_112_0 P) (.node (o_176_0 P) .nil .nil) .nil))) (.node (o_24_0 P) (.node (o_40_0 P) (.node (o_72_0 P) (.node (o_136_0 P) .nil .nil) .nil) (.node (o_104_0 P) (.node (o_168_0 P) .nil .nil) .nil)) (.node (o_56_0 P) (.node (o_88_0 P) (.node (o_152_0 P) .nil .nil) .nil) (.node (o_120_0 P) (.node (o_184_0 P) .nil .nil) .nil)))) (.node (o_12_5 P) (.node (o_20_0 P) (.node (o_36_0 P) (.node (o_68_0 P) (.node (o_132_0 P) .nil .nil) .nil) (.node (o_100_0 P) (.node (o_164_0 P) .nil .nil) .nil)) (.node (o_52_0 P) (.node (o_84_0 P) (.node (o_148_0 P) .nil .nil) .nil) (.node (o_116_0 P) (.node (o_180_0 P) .nil .nil) .nil))) (.node (o_28_0 P) (.node (o_44_0 P) (.node (o_76_0 P) (.node (o_140_0 P) .nil .nil) .nil) (.node (o_108_0 P) (.node (o_172_0 P) .nil .nil) .nil)) (.node (o_60_0 P) (.node (o_92_0 P) (.node (o_156_0 P) .nil .nil) .nil) (.node (o_124_0 P) (.node (o_188_0 P) .nil .nil) .nil))))) (.node (boot_o_6 P) (.node (o_10_0 P) (.node (o_18_0 P) (.node (o_34_0 P) (.node (o_66_0 P) (.node (o_130_0 P) .nil .nil) .nil) (.node (o_98_0 P) (.node (o_162_0 P) .nil .nil) .nil)) (.node (o_50_0 P) (.node (o_82_0 P) (.node (o_146_0 P) .nil .nil) .nil) (.node (o_114_0 P) (.node (o_178_0 P) .nil .nil) .nil))) (.node (o_26_0 P) (.node (o_42_0 P) (.node (o_74_0 P) (.node (o_138_0 P) .nil .nil) .nil) (.node (o_106_0 P) (.node (o_170_0 P) .nil .nil) .nil)) (.node (o_58_0 P) (.node (o_90_0 P) (.node (o_154_0 P) .nil .nil) .nil) (.node (o_122_0 P) (.node (o_186_0 P) .nil .nil) .nil)))) (.node (o_14_0 P) (.node (o_22_0 P) (.node (o_38_0 P) (.node (o_70_0 P) (.node (o_134_0 P) .nil .nil) .nil) (.node (o_102_0 P) (.node (o_166_0 P) .nil .nil) .nil)) (.node (o_54_0 P) (.node (o_86_0 P) (.node (o_150_0 P) .nil .nil) .nil) (.node (o_118_0 P) (.node (o_182_0 P) .nil .nil) .nil))) (.node (o_30_0 P) (.node (o_46_0 P) (.node (o_78_0 P) (.node (o_142_0 P) .nil .nil) .nil) (.node (o_110_0 P) (.node (o_174_0 P) .nil .nil) .nil)) (.node (o_62_0 P) (.node (o_94_0 P) (.node (o_158_0 P) .nil .nil) .nil) (.node (o_126_0 P) .nil .nil)))))))
noncomputable abbrev tr_7 (P : Params) : BT := (.node (boot_o_0 P) (.node (boot_o_1 P) (.node (o_3_6 P) (.node (boot_o_7 P) (.node (o_15_0 P) (.node (o_31_1 P) (.node (o_63_0 P) (.node (o_127_0 P) .nil .nil) (.node (o_191_0 P) .nil .nil)) (.node (o_95_0 P) (.node (o_159_0 P) .nil .nil) .nil)) (.node (o_47_0 P) (.node (o_79_0 P) (.node (o_143_0 P) .nil .nil) (.node (o_207_0 P) .nil .nil)) (.node (o_111_0 P) (.node (o_175_0 P) .nil .nil) .nil))) (.node (o_23_0 P) (.node (o_39_0 P) (.node (o_71_0 P) (.node (o_135_0 P) .nil .nil) (.node (o_199_0 P) .nil .nil)) (.node (o_103_0 P) (.node (o_167_0 P) .nil .nil) .nil)) (.node (o_55_0 P) (.node (o_87_0 P) (.node (o_151_0 P) .nil .nil) .nil) (.node (o_119_0 P) (.node (o_183_0 P) .nil .nil) .nil)))) (.node (o_11_0 P) (.node (o_19_0 P) (.node (o_35_0 P) (.node (o_67_0 P) (.node (o_131_0 P) .nil .nil) (.node (o_195_0 P) .nil .nil)) (.node (o_99_0 P) (.node (o_163_0 P) .nil .nil) .nil)) (.node (o_51_0 P) (.node (o_83_0 P) (.node (o_147_3 P) .nil .nil) .nil) (.node (o_115_0 P) (.node (o_179_0 P) .nil .nil) .nil))) (.node (o_27_0 P) (.node (o_43_0 P) (.node (o_75_0 P) (.node (o_139_0 P) .nil .nil) (.node (o_203_0 P) .nil .nil)) (.node (o_107_0 P) (.node (o_171_0 P) .nil .nil) .nil)) (.node (o_59_0 P) (.node (o_91_0 P) (.node (o_155_0 P) .nil .nil) .nil) (.node (o_123_0 P) (.node (o_187_0 P) .nil .nil) .nil))))) (.node (boot_o_5 P) (.node (boot_o_9 P) (.node (o_17_0 P) (.node (o_33_0 P) (.node (o_65_0 P) (.node (o_129_0 P) .nil .nil) (.node (o_193_0 P) .nil .nil)) (.node (o_97_0 P) (.node (o_161_0 P) .nil .nil) .nil)) (.node (o_49_0 P) (.node (o_81_0 P) (.node (o_145_0 P) .nil .nil) .nil) (.node (o_113_0 P) (.node (o_177_0 P) .nil .nil) .nil))) (.node (o_25_0 P) (.node (o_41_0 P) (.node (o_73_0 P) (.node (o_137_0 P) .nil .nil) (.node (o_201_0 P) .nil .nil)) (.node (o_105_0 P) (.node (o_169_0 P) .nil .nil) .nil)) (.node (o_57_0 P) (.node (o_89_0 P) (.node (o_153_0 P) .nil .nil) .nil) (.node (o_121_0 P) (.node (o_185_0 P) .nil .nil) .nil)))) (.node (o_13_0 P) (.node (o_21_0 P) (.node (o_37_0 P) (.node (o_69_0 P) (.node (o_133_0 P) .nil .nil) (.node (o_197_0 P) .nil .nil)) (.node (o_101_0 P) (.node (o_165_0 P) .nil .nil) .nil)) (.node (o_53_0 P) (.node (o_85_0 P) (.node (o_149_0 P) .nil .nil) .nil) (.node (o_117_0 P) (.node (o_181_0 P) .nil .nil) .nil))) (.node (o_29_0 P) (.node (o_45_0 P) (.node (o_77_0 P) (.node (o_141_0 P) .nil .nil) (.node (o_205_0 P) .nil .nil)) (.node (o_109_0 P) (.node (o_173_0 P) .nil .nil) .nil)) (.node (o_61_0 P) (.node (o_93_0 P) (.node (o_157_0 P) .nil .nil) .nil) (.node (o_125_0 P) (.node (o_189_0 P) .nil .nil) .nil)))))) (.node (o_2_1 P) (.node (boot_o_4 P) (.node (boot_o_8 P) (.node (o_16_0 P) (.node (o_32_0 P) (.node (o_64_0 P) (.node (o_128_0 P) .nil .nil) (.node (o_192_0 P) .nil .nil)) (.node (o_96_0 P) (.node (o_160_0 P) .nil .nil) .nil)) (.node (o_48_0 P) (.node (o_80_0 P) (.node (o_144_0 P) .nil .nil) (.node (o_208_0 P) .nil .nil)) (.node (o_112_0 P) (.node (o_176_0 P) .nil .nil) .nil))) (.node (o_24_0 P) (.node (o_40_0 P) (.node (o_72_0 P) (.node (o_136_0 P) .nil .nil) (.node (o_200_0 P) .nil .nil)) (.node (o_104_0 P) (.node (o_168_0 P) .nil .nil) .nil)) (.node (o_56_0 P) (.node (o_88_0 P) (.node (o_152_0 P) .nil .nil) .nil) (.node (o_120_0 P) (.node (o_184_0 P) .nil .nil) .nil)))) (.node (o_12_6 P) (.node (o_20_0 P) (.node (o_36_0 P) (.node (o_68_0 P) (.node (o_132_0 P) .nil .nil) (.node (o_196_0 P) .nil .nil)) (.node (o_100_0 P) (.node (o_164_0 P) .nil .nil) .nil)) (.node (o_52_0 P) (.node (o_84_0 P) (.node (o_148_0 P) .nil .nil) .nil) (.node (o_116_0 P) (.node (o_180_0 P) .nil .nil) .nil))) (.node (o_28_0 P) (.node (o_44_0 P) (.node (o_76_0 P) (.node (o_140_0 P) .nil .nil) (.node (o_204_0 P) .nil .nil)) (.node (o_108_0 P) (.node (o_172_0 P) .nil .nil) .nil)) (.node (o_60_0 P) (.node (o_92_0 P) (.node (o_156_0 P) .nil .nil) .nil) (.node (o_124_0 P) (.node (o_188_0 P) .nil .nil) .nil))))) (.node (boot_o_6 P) (.node (o_10_0 P) (.node (o_18_0 P) (.node (o_34_0 P) (.node (o_66_0 P) (.node (o_130_0 P) .nil .nil) (.node (o_194_0 P) .nil .nil)) (.node (o_98_0 P) (.node (o_162_0 P) .nil .nil) .nil)) (.node (o_50_0 P) (.node (o_82_0 P) (.node (o_146_0 P) .nil .nil) .nil) (.node (o_114_0 P) (.node (o_178_0 P) .nil .nil) .nil))) (.node (o_26_0 P) (.node (o_42_0 P) (.node (o_74_0 P) (.node (o_138_0 P) .nil .nil) (.node (o_202_0 P) .nil .nil)) (.node (o_106_0 P) (.node (o_170_0 P) .nil .nil) .nil)) (.node (o_58_0 P) (.node (o_90_0 P) (.node (o_154_0 P) .nil .nil) .nil) (.node (o_122_0 P) (.node (o_186_0 P) .nil .nil) .nil)))) (.node (o_14_0 P) (.node (o_22_0 P) (.node (o_38_0 P) (.node (o_70_0 P) (.node (o_134_0 P) .nil .nil) (.node (o_198_0 P) .nil .nil)) (.node (o_102_0 P) (.node (o_166_0 P) .nil .nil) .nil)) (.node (o_54_0 P) (.node (o_86_0 P) (.node (o_150_0 P) .nil .nil) .nil) (.node (o_118_0 P) (.node (o_182_0 P) .nil .nil) .nil))) (.node (o_30_0 P) (.node (o_46_0 P) (.node (o_78_0 P) (.node (o_142_0 P) .nil .nil) (.node (o_206_0 P) .nil .nil)) (.node (o_110_0 P) (.node (o_174_0 P) .nil .nil) .nil)) (.node (o_62_0 P) (.node (o_94_0 P) (.node (o_158_0 P) .nil .nil) .nil) (.node (o_126_0 P) (.node (o_190_0 P) .nil .nil) .nil)))))))
noncomputable abbrev tr_8 (P : Params) : BT := (.node (boot_o_0 P) (.node (boot_o_1 P) (.node (o_3_7 P) (.node (boot_o_7 P) (.node (o_15_0 P) (.node (o_31_1 P) (.node (o_63_0 P) (.node (o_127_0 P) .nil .nil) (.node (o_191_0 P) .nil .nil)) (.node (o_95_0 P) (.node (o_159_0 P) .nil .nil) (.node (o_223_0 P) .nil .nil))) (.node (o_47_0 P) (.node (o_79_0 P) (.node (o_143_0 P) .nil .nil) (.node (o_207_0 P) .nil .nil)) (.node (o_111_0 P) (.node (o_175_0 P) .nil .nil) .nil))) (.node (o_23_0 P) (.node (o_39_0 P) (.node (o_71_0 P) (.node (o_135_0 P) .nil .nil) (.node (o_199_0 P) .nil .nil)) (.node (o_103_0 P) (.node (o_167_0 P) .nil .nil) .nil)) (.node (o_55_0 P) (.node (o_87_0 P) (.node (o_151_0 P) .nil .nil) (.node (o_215_0 P) .nil .nil)) (.node (o_119_0 P) (.node (o_183_0 P) .nil .nil) .nil)))) (.node (o_11_0 P) (.node (o_19_0 P) (.node (o_35_0 P) (.node (o_67_0 P) (.node (o_131_0 P) .nil .nil) (.node (o_195_0 P) .nil .nil)) (.node (o_99_0 P) (.node (o_163_0 P) .nil .nil) (.node (o_227_0 P) .nil .nil))) (.node (o_51_0 P) (.node (o_83_0 P) (.node (o_147_4 P) .nil .nil) (.node (o_211_0 P) .nil .nil)) (.node (o_115_0 P) (.node (o_179_0 P) .nil .nil) .nil))) (.node (o_27_0 P) (.node (o_43_0 P) (.node (o_75_0 P) (.node (o_139_0 P) .nil .nil) (.node (o_203_0 P) .nil .nil)) (.node (o_107_0 P) (.node (o_171_0 P) .nil .nil) .nil)) (.node (o_59_0 P) (.node (o_91_0 P) (.node (o_155_0 P) .nil .nil) (.node (o_219_0 P) .nil .nil)) (.node (o_123_0 P) (.node (o_187_0 P) .nil .nil) .nil))))) (.node (boot_o_5 P) (.node (boot_o_9 P) (.node (o_17_0 P) (.node (o_33_0 P) (.node (o_65_0 P) (.node (o_129_0 P) .nil .nil) (.node (o_193_0 P) .nil .nil)) (.node (o_97_0 P) (.node (o_161_0 P) .nil .nil) (.node (o_225_0 P) .nil .nil))) (.node (o_49_0 P) (.node (o_81_0 P) (.node (o_145_0 P) .nil .nil) (.node (o_209_0 P) .nil .nil)) (.node (o_113_0 P) (.node (o_177_0 P) .nil .nil) .nil))) (.node (o_25_0 P) (.node (o_41_0 P) (.node (o_73_0 P) (.node (o_137_0 P) .nil .nil) (.node (o_201_0 P) .nil .nil)) (.node (o_105_0 P) (.node (o_169_0 P) .nil .nil) .nil)) (.node (o_57_0 P) (.node (o_89_0 P) (.node (o_153_0 P) .nil .nil) (.node (o_217_0 P) .nil .nil)) (.node (o_121_0 P) (.node (o_185_0 P) .nil .nil) .nil)))) (.node (o_13_0 P) (.node (o_21_0 P) (.node (o_37_0 P) (.node (o_69_0 P) (.node (o_133_0 P) .nil .nil) (.node (o_197_0 P) .nil .nil)) (.node (o_101_0 P) (.node (o_165_0 P) .nil .nil) .nil)) (.node (o_53_0 P) (.node (o_85_0 P) (.node (o_149_0 P) .nil .nil) (.node (o_213_0 P) .nil .nil)) (.node (o_117_0 P) (.node (o_181_0 P) .nil .nil) .nil))) (.node (o_29_0 P) (.node (o_45_0 P) (.node (o_77_0 P) (.node (o_141_0 P) .nil .nil) (.node (o_205_0 P) .nil .nil)) (.node (o_109_0 P) (.node (o_173_0 P) .nil .nil) .nil)) (.node (o_61_0 P) (.node (o_93_0 P) (.node (o_157_0 P) .nil .nil) (.node (o_221_0 P) .nil .nil)) (.node (o_125_0 P) (.node (o_189_0 P) .nil .nil) .nil)))))) (.node (o_2_1 P) (.node (boot_o_4 P) (.node (boot_o_8 P) (.node (o_16_0 P) (.node (o_32_0 P) (.node (o_64_0 P) (.node (o_128_0 P) .nil .nil) (.node (o_192_0 P) .nil .nil)) (.node (o_96_0 P) (.node (o_160_0 P) .nil .nil) (.node (o_224_0 P) .nil .nil))) (.node (o_48_0 P) (.node (o_80_0 P) (.node (o_144_0 P) .nil .nil) (.node (o_208_0 P) .nil .nil)) (.node (o_112_0 P) (.node (o_176_0 P) .nil .nil) .nil))) (.node (o_24_0 P) (.node (o_40_0 P) (.node (o_72_0 P) (.node (o_136_0 P) .nil .nil) (.node (o_200_0 P) .nil .nil)) (.node (o_104_0 P) (.node (o_168_0 P) .nil .nil) .nil)) (.node (o_56_0 P) (.node (o_88_0 P) (.node (o_152_0 P) .nil .nil) (.node (o_216_0 P) .nil .nil)) (.node (o_120_0 P) (.node (o_184_0 P) .nil .nil) .nil)))) (.node (o_12_7 P) (.node (o_20_0 P) (.node (o_36_0 P) (.node (o_68_0 P) (.node (o_132_0 P) .nil .nil) (.node (o_196_0 P) .nil .nil)) (.node (o_100_0 P) (.node (o_164_0 P) .nil .nil) .nil)) (.node (o_52_0 P) (.node (o_84_0 P) (.node (o_148_0 P) .nil .nil) (.node (o_212_0 P) .nil .nil)) (.node (o_116_0 P) (.node (o_180_0 P) .nil .nil) .nil))) (.node (o_28_0 P) (.node (o_44_0 P) (.node (o_76_0 P) (.node (o_140_0 P) .nil .nil) (.node (o_204_0 P) .nil .nil)) (.node (o_108_0 P) (.node (o_172_0 P) .nil .nil) .nil)) (.node (o_60_0 P) (.node (o_92_0 P) (.node (o_156_0 P) .nil .nil) (.node (o_220_0 P) .nil .nil)) (.node (o_124_0 P) (.node (o_188_0 P) .nil .nil) .nil))))) (.node (boot_o_6 P) (.node (o_10_0 P) (.node (o_18_0 P) (.node (o_34_0 P) (.node (o_66_0 P) (.node (o_130_0 P) .nil .nil) (.node (o_194_0 P) .nil .nil)) (.node (o_98_0 P) (.node (o_162_0 P) .nil .nil) (.node (o_226_0 P) .nil .nil))) (.node (o_50_0 P) (.node (o_82_0 P) (.node (o_146_0 P) .nil .nil) (.node (o_210_0 P) .nil .nil)) (.node (o_114_0 P) (.node (o_178_0 P) .nil .nil) .nil))) (.node (o_26_0 P) (.node (o_42_0 P) (.node (o_74_0 P) (.node (o_138_0 P) .nil .nil) (.node (o_202_0 P) .nil .nil)) (.node (o_106_0 P) (.node (o_170_0 P) .nil .nil) .nil)) (.node (o_58_0 P) (.node (o_90_0 P) (.node (o_154_0 P) .nil .nil) (.node (o_218_0 P) .nil .nil)) (.node (o_122_0 P) (.node (o_186_0 P) .nil .nil) .nil)))) (.node (o_14_0 P) (.node (o_22_0 P) (.node (o_38_0 P) (.node (o_70_0 P) (.node (o_134_0 P) .nil .nil) (.node (o_198_0 P) .nil .nil)) (.node (o_102_0 P) (.node (o_166_0 P) .nil .nil) .nil)) (.node (o_54_0 P) (.node (o_86_0 P) (.node (o_150_0 P) .nil .nil) (.node (o_214_0 P) .nil .nil)) (.node (o_118_0 P) (.node (o_182_0 P) .nil .nil) .nil))) (.node (o_30_0 P) (.node (o_46_0 P) (.node (o_78_0 P) (.node (o_142_0 P) .nil .nil) (.node (o_206_0 P) .nil .nil)) (.node (o_110_0 P) (.node (o_174_0 P) .nil .nil) .nil)) (.node (o_62_0 P) (.node (o_94_0 P) (.node (o_158_0 P) .nil .nil) (.node (o_222_0 P) .nil .nil)) (.node (o_126_0 P) (.node (o_190_0 P) .nil .nil) .nil)))))))
noncomputable abbrev tr_9 (P : Params) : BT := (.node (boot_o_0 P) (.node (boot_o_1 P) (.node (o_3_8 P) (.node (boot_o_7 P) (.node (o_15_0 P) (.node (o_31_1 P) (.node (o_63_0 P) (.node (o_127_0 P) .nil .nil) (.node (o_191_0 P) .nil .nil)) (.node (o_95_0 P) (.node (o_159_0 P) .nil .nil) (.node (o_223_0 P) .nil .nil))) (.node (o_47_0 P) (.node (o_79_0 P) (.node (o_143_0 P) .nil .nil) (.node (o_207_0 P) .nil .nil)) (.node (o_111_0 P) (.node (o_175_0 P) .nil .nil) (.node (o_239_0 P) .nil .nil)))) (.node (o_23_0 P) (.node (o_39_0 P) (.node (o_71_0 P) (.node (o_135_0 P) .nil .nil) (.node (o_199_0 P) .nil .nil)) (.node (o_103_0 P) (.node (o_167_0 P) .nil .nil) (.node (o_231_0 P) .nil .nil))) (.node (o_55_0 P) (.node (o_87_0 P) (.node (o_151_0 P) .nil .nil) (.node (o_215_0 P) .nil .nil)) (.node (o_119_0 P) (.node (o_183_0 P) .nil .nil) .nil)))) (.node (o_11_0 P) (.node (o_19_0 P) (.node (o_35_0 P) (.node (o_67_0 P) (.node (o_131_0 P) .nil .nil) (.node (o_195_0 P) .nil .nil)) (.node (o_99_0 P) (.node (o_163_0 P) .nil .nil) (.node (o_227_0 P) .nil .nil))) (.node (o_51_0 P) (.node (o_83_0 P) (.node (o_147_5 P) .nil .nil) (.node (o_211_0 P) .nil .nil)) (.node (o_115_0 P) (.node (o_179_0 P) .nil .nil) (.node (o_243_0 P) .nil .nil)))) (.node (o_27_0 P) (.node (o_43_0 P) (.node (o_75_0 P) (.node (o_139_0 P) .nil .nil) (.node (o_203_0 P) .nil .nil)) (.node (o_107_0 P) (.node (o_171_0 P) .nil .nil) (.node (o_235_0 P) .nil .nil))) (.node (o_59_0 P) (.node (o_91_0 P) (.node (o_155_0 P) .nil .nil) (.node (o_219_0 P) .nil .nil)) (.node (o_123_0 P) (.node (o_187_0 P) .nil .nil) .nil))))) (.node (boot_o_5 P) (.node (boot_o_9 P) (.node (o_17_0 P) (.node (o_33_0 P) (.node (o_65_0 P) (.node (o_129_0 P) .nil .nil) (.node (o_193_0 P) .nil .nil)) (.node (o_97_0 P) (.node (o_161_0 P) .nil .nil) (.node (o_225_0 P) .nil .nil))) (.node (o_49_0 P) (.node (o_81_0 P) (.node (o_145_0 P) .nil .nil) (.node (o_209_0 P) .nil .nil)) (.node (o_113_0 P) (.node (o_177_0 P) .nil .nil) (.node (o_241_0 P) .nil .nil)))) (.node (o_25_0 P) (.node (o_41_0 P) (.node (o_73_0 P) (.node (o_137_0 P) .nil .nil) (.node (o_201_0 P) .nil .nil)) (.node (o_105_0 P) (.node (o_169_0 P) .nil .nil) (.node (o_233_0 P) .nil .nil))) (.node (o_57_0 P) (.node (o_89_0 P) (.node (o_153_0 P) .nil .nil) (.node (o_217_0 P) .nil .nil)) (.node (o_121_0 P) (.node (o_185_0 P) .nil .nil) .nil)))) (.node (o_13_0 P) (.node (o_21_0 P) (.node (o_37_0 P) (.node (o_69_0 P) (.node (o_133_0 P) .nil .nil) (.node (o_197_0 P) .nil .nil)) (.node (o_101_0 P) (.node (o_165_0 P) .nil .nil) (.node (o_229_0 P) .nil .nil))) (.node (o_53_0 P) (.node (o_85_0 P) (.node (o_149_0 P) .nil .nil) (.node (o_213_0 P) .nil .nil)) (.node (o_117_0 P) (.node (o_181_0 P) .nil .nil) (.node (o_245_0 P) .nil .nil)))) (.node (o_29_0 P) (.node (o_45_0 P) (.node (o_77_0 P) (.node (o_141_0 P) .nil .nil) (.node (o_205_0 P) .nil .nil)) (.node (o_109_0 P) (.node (o_173_0 P) .nil .nil) (.node (o_237_0 P) .nil .nil))) (.node (o_61_0 P) (.node (o_93_0 P) (.node (o_157_0 P) .nil .nil) (.node (o_221_0 P) .nil .nil)) (.node (o_125_0 P) (.node (o_189_0 P) .nil .nil) .nil)))))) (.node (o_2_1 P) (.node (boot_o_4 P) (.node (boot_o_8 P) (.node (o_16_0 P) (.node (o_32_0 P) (.node (o_64_0 P) (.node (o_128_0 P) .nil .nil) (.node (o_192_0 P) .nil .nil)) (.node (o_96_0 P) (.node (o_160_0 P) .nil .nil) (.node (o_224_0 P) .nil .nil))) (.node (o_48_0 P) (.node (o_80_0 P) (.node (o_144_0 P) .nil .nil) (.node (o_208_0 P) .nil .nil)) (.node (o_112_0 P) (.node (o_176_0 P) .nil .nil) (.node (o_240_0 P) .nil .nil)))) (.node (o_24_0 P) (.node (o_40_0 P) (.node (o_72_0 P) (.node (o_136_0 P) .nil .nil) (.node (o_200_0 P) .nil .nil)) (.node (o_104_0 P) (.node (o_168_0 P) .nil .nil) (.node (o_232_0 P) .nil .nil))) (.node (o_56_0 P) (.node (o_88_0 P) (.node (o_152_0 P) .nil .nil) (.node (o_216_0 P) .nil .nil)) (.node (o_120_0 P) (.node (o_184_0 P) .nil .nil) .nil)))) (.node (o_12_8 P) (.node (o_20_0 P) (.node (o_36_0 P) (.node (o_68_0 P) (.node (o_132_0 P) .nil .nil) (.node (o_196_0 P) .nil .nil)) (.node (o_100_0 P) (.node (o_164_0 P) .nil .nil) (.node (o_228_0 P) .nil .nil))) (.node (o_52_0 P) (.node (o_84_0 P) (.node (o_148_0 P) .nil .nil) (.node (o_212_0 P) .nil .nil)) (.node (o_116_0 P) (.node (o_180_0 P) .nil .nil) (.node (o_244_0 P) .nil .nil)))) (.node (o_28_0 P) (.node (o_44_0 P) (.node (o_76_0 P) (.node (o_140_0 P) .nil .nil) (.node (o_204_0 P) .nil .nil)) (.node (o_108_0 P) (.node (o_172_0 P) .nil .nil) (.node (o_236_0 P) .nil .nil))) (.node (o_60_0 P) (.node (o_92_0 P) (.node (o_156_0 P) .nil .nil) (.node (o_220_0 P) .nil .nil)) (.node (o_124_0 P) (.node (o_188_0 P) .nil .nil) .nil))))) (.node (boot_o_6 P) (.node (o_10_0 P) (.node (o_18_0 P) (.node (o_34_0 P) (.node (o_66_0 P) (.node (o_130_0 P) .nil .nil) (.node (o_194_0 P) .nil .nil)) (.node (o_98_0 P) (.node (o_162_0 P) .nil .nil) (.node (o_226_0 P) .nil .nil))) (.node (o_50_0 P) (.node (o_82_0 P) (.node (o_146_0 P) .nil .nil) (.node (o_210_0 P) .nil .nil)) (.node (o_114_0 P) (.node (o_178_0 P) .nil .nil) (.node (o_242_0 P) .nil .nil)))) (.node (o_26_0 P) (.node (o_42_0 P) (.node (o_74_0 P) (.node (o_138_0 P) .nil .nil) (.node (o_202_0 P) .nil .nil)) (.node (o_106_0 P) (.node (o_170_0 P) .nil .nil) (.node (o_234_0 P) .nil .nil))) (.node (o_58_0 P) (.node (o_90_0 P) (.node (o_154_0 P) .nil .nil) (.node (o_218_0 P) .nil .nil)) (.node (o_122_0 P) (.node (o_186_0 P) .nil .nil) .nil)))) (.node (o_14_0 P) (.node (o_22_0 P) (.node (o_38_0 P) (.node (o_70_0 P) (.node (o_134_0 P) .nil .nil) (.node (o_198_0 P) .nil .nil)) (.node (o_102_0 P) (.node (o_166_0 P) .nil .nil) (.node (o_230_0 P) .nil .nil))) (.node (o_54_0 P) (.node (o_86_0 P) (.node (o_150_0 P) .nil .nil) (.node (o_214_0 P) .nil .nil)) (.node (o_118_0 P) (.node (o_182_0 P) .nil .nil) (.node (o_246_0 P) .nil .nil)))) (.node (o_30_0 P) (.node (o_46_0 P) (.node (o_78_0 P) (.node (o_142_0 P) .nil .nil) (.node (o_206_0 P) .nil .nil)) (.node (o_110_0 P) (.node (o_174_0 P) .nil .nil) (.node (o_238_0 P) .nil .nil))) (.node (o_62_0 P) (.node (o_94_0 P) (.node (o_158_0 P) .nil .nil) (.node (o_222_0 P) .nil .nil)) (.node (o_126_0 P) (.node (o_190_0 P) .nil .nil) .nil)))))))
noncomputable abbrev tr_10 (P : Params) : BT := (.node (boot_o_0 P) (.node (boot_o_1 P) (.node (o_3_9 P) (.node (boot_o_7 P) (.node (o_15_0 P) (.node (o_31_1 P) (.node (o_63_0 P) (.node (o_127_0 P) (.node (o_255_0 P) .nil .nil) .nil) (.node (o_191_0 P) .nil .nil)) (.node (o_95_0 P) (.node (o_159_0 P) (.node (o_287_0 P) .nil .nil) .nil) (.node (o_223_0 P) .nil .nil))) (.node (o_47_0 P) (.node (o_79_0 P) (.node (o_143_0 P) (.node (o_271_0 P) .nil .nil) .nil) (.node (o_207_0 P) .nil .nil)) (.node (o_111_0 P) (.node (o_175_0 P) (.node (o_303_0 P) .nil .nil) .nil) (.node (o_239_0 P) .nil .nil)))) (.node (o_23_0 P) (.node (o_39_0 P) (.node (o_71_0 P) (.node (o_135_0 P) (.node (o_263_0 P) .nil .nil) .nil) (.node (o_199_0 P) .nil .nil)) (.node (o_103_0 P) (.node (o_167_0 P) (.node (o_295_0 P) .nil .nil) .nil) (.node (o_231_0 P) .nil .nil))) (.node (o_55_0 P) (.node (o_87_0 P) (.node (o_151_0 P) (.node (o_279_0 P) .nil .nil) .nil) (.node (o_215_0 P) .nil .nil)) (.node (o_119_0 P) (.node (o_183_0 P) (.node (o_311_0 P) .nil .nil) .nil) (.node (o_247_0 P) .nil .nil))))) (.node (o_11_0 P) (.node (o_19_0 P) (.node (o_35_0 P) (.node (o_67_0 P) (.node (o_131_0 P) (.node (o_259_0 P) .nil .nil) .nil) (.node (o_195_0 P) .nil .nil)) (.node (o_99_0 P) (.node (o_163_0 P) (.node (o_291_0 P) .nil .nil) .nil) (.node (o_227_0 P) .nil .nil))) (.node (o_51_0 P) (.node (o_83_0 P) (.node (o_147_5 P) (.node (o_275_0 P) .nil .nil) .nil) (.node (o_211_0 P) .nil .nil)) (.node (o_115_0 P) (.node (o_179_0 P) (.node (o_307_0 P) .nil .nil) .nil) (.node (o_243_0 P) .nil .nil)))) (.node (o_27_0 P) (.node (o_43_0 P) (.node (o_75_0 P) (.node (o_139_0 P) (.node (o_267_0 P) .nil .nil) .nil) (.node (o_203_0 P) .nil .nil)) (.node (o_107_0 P) (.node (o_171_0 P) (.node (o_299_0 P) .nil .nil) .nil) (.node (o_235_0 P) .nil .nil))) (.node (o_59_0 P) (.node (o_91_0 P) (.node (o_155_0 P) (.node (o_283_0 P) .nil .nil) .nil) (.node (o_219_0 P) .nil .nil)) (.node (o_123_0 P) (.node (o_187_0 P) (.node (o_315_0 P) .nil .nil) .nil) (.node (o_251_0 P) .nil .nil)))))) (.node (boot_o_5 P) (.node (boot_o_9 P) (.node (o_17_0 P) (.node (o_33_0 P) (.node (o_65_0 P) (.node (o_129_0 P) (.node (o_257_0 P) .nil .nil) .nil) (.node (o_193_0 P) .nil .nil)) (.node (o_97_0 P) (.node (o_161_0 P) (.node (o_289_0 P) .nil .nil) .nil) (.node (o_225_0 P) .nil .nil))) (.node (o_49_0 P) (.node (o_81_0 P) (.node (o_145_0 P) (.node (o_273_0 P) .nil .nil) .nil) (.node (o_209_0 P) .nil .nil)) (.node (o_113_0 P) (.node (o_177_0 P) (.node (o_305_0 P) .nil .nil) .nil) (.node (o_241_0 P) .nil .nil)))) (.node (o_25_0 P) (.node (o_41_0 P) (.node (o_73_0 P) (.node (o_137_0 P) (.node (o_265_0 P) .nil .nil) .nil) (.node (o_201_0 P) .nil .nil)) (.node (o_105_0 P) (.node (o_169_0 P) (.node (o_297_0 P) .nil .nil) .nil) (.node (o_233_0 P) .nil .nil))) (.node (o_57_0 P) (.node (o_89_0 P) (.node (o_153_0 P) (.node (o_281_0 P) .nil .nil) .nil) (.node (o_217_0 P) .nil .nil)) (.node (o_121_0 P) (.node (o_185_0 P) (.node (o_313_0 P) .nil .nil) .nil) (.node (o_249_0 P) .nil .nil))))) (.node (o_13_0 P) (.node (o_21_0 P) (.node (o_37_0 P) (.node (o_69_0 P) (.node (o_133_0 P) (.node (o_261_0 P) .nil .nil) .nil) (.node (o_197_0 P) .nil .nil)) (.node (o_101_0 P) (.node (o_165_0 P) (.node (o_293_0 P) .nil .nil) .nil) (.node (o_229_0 P) .nil .nil))) (.node (o_53_0 P) (.node (o_85_0 P) (.node (o_149_0 P) (.node (o_277_0 P) .nil .nil) .nil) (.node (o_213_0 P) .nil .nil)) (.node (o_117_0 P) (.node (o_181_0 P) (.node (o_309_0 P) .nil .nil) .nil) (.node (o_245_0 P) .nil .nil)))) (.node (o_29_0 P) (.node (o_45_0 P) (.node (o_77_0 P) (.node (o_141_0 P) (.node (o_269_0 P) .nil .nil) .nil) (.node (o_205_0 P) .nil .nil)) (.node (o_109_0 P) (.node (o_173_0 P) (.node (o_301_0 P) .nil .nil) .nil) (.node (o_237_0 P) .nil .nil))) (.node (o_61_0 P) (.node (o_93_0 P) (.node (o_157_0 P) (.node (o_285_0 P) .nil .nil) .nil) (.node (o_221_0 P) .nil .nil)) (.node (o_125_0 P) (.node (o_189_0 P) (.node (o_317_0 P) .nil .nil) .nil) (.node (o_253_0 P) .nil .nil))))))) (.node (o_2_1 P) (.node (boot_o_4 P) (.node (boot_o_8 P) (.node (o_16_0 P) (.node (o_32_0 P) (.node (o_64_0 P) (.node (o_128_0 P) (.node (o_256_0 P) .nil .nil) .nil) (.node (o_192_0 P) .nil .nil)) (.node (o_96_0 P) (.node (o_160_0 P) (.node (o_288_0 P) .nil .nil) .nil) (.node (o_224_0 P) .nil .nil))) (.node (o_48_0 P) (.node (o_80_0 P) (.node (o_144_0 P) (.node (o_272_0 P) .nil .nil) .nil) (.node (o_208_0 P) .nil .nil)) (.node (o_112_0 P) (.node (o_176_0 P) (.node (o_304_0 P) .nil .nil) .nil) (.node (o_240_0 P) .nil .nil)))) (.node (o_24_0 P) (.node (o_40_0 P) (.node (o_72_0 P) (.node (o_136_0 P) (.node (o_264_0 P) .nil .nil) .nil) (.node (o_200_0 P) .nil .nil)) (.node (o_104_0 P) (.node (o_168_0 P) (.node (o_296_0 P) .nil .nil) .nil) (.node (o_232_0 P) .nil .nil))) (.node (o_56_0 P) (.node (o_88_0 P) (.node (o_152_0 P) (.node (o_280_0 P) .nil .nil) .nil) (.node (o_216_0 P) .nil .nil)) (.node (o_120_0 P) (.node (o_184_0 P) (.node (o_312_0 P) .nil .nil) .nil) (.node (o_248_0 P) .nil .nil))))) (.node (o_12_9 P) (.node (o_20_0 P) (.node (o_36_0 P) (.node (o_68_0 P) (.node (o_132_0 P) (.node (o_260_0 P) .nil .nil) .nil) (.node (o_196_0 P) .nil .nil)) (.node (o_100_0 P) (.node (o_164_0 P) (.node (o_292_0 P) .nil .nil) .nil) (.node (o_228_0 P) .nil .nil))) (.node (o_52_0 P) (.node (o_84_0 P) (.node (o_148_0 P) (.node (o_276_0 P) .nil .nil) .nil) (.node (o_212_0 P) .nil .nil)) (.node (o_116_0 P) (.node (o_180_0 P) (.node (o_308_0 P) .nil .nil) .nil) (.node (o_244_0 P) .nil .nil)))) (.node (o_28_0 P) (.node (o_44_0 P) (.node (o_76_0 P) (.node (o_140_0 P) (.node (o_268_0 P) .nil .nil) .nil) (.node (o_204_0 P) .nil .nil)) (.node (o_108_0 P) (.node (o_172_0 P) (.node (o_300_0 P) .nil .nil) .nil) (.node (o_236_0 P) .nil .nil))) (.node (o_60_0 P) (.node (o_92_0 P) (.node (o_156_0 P) (.node (o_284_0 P) .nil .nil) .nil) (.node (o_220_0 P) .nil .nil)) (.node (o_124_0 P) (.node (o_188_0 P) (.node (o_316_0 P) .nil .nil) .nil) (.node (o_252_0 P) .nil .nil)))))) (.node (boot_o_6 P) (.node (o_10_0 P) (.node (o_18_0 P) (.node (o_34_0 P) (.node (o_66_0 P) (.node (o_130_0 P) (.node (o_258_0 P) .nil .nil) .nil) (.node (o_194_0 P) .nil .nil)) (.node (o_98_0 P) (.node (o_162_0 P) (.node (o_290_0 P) .nil .nil) .nil) (.node (o_226_0 P) .nil .nil))) (.node (o_50_0 P) (.node (o_82_0 P) (.node (o_146_0 P) (.node (o_274_0 P) .nil .nil) .nil) (.node (o_210_0 P) .nil .nil)) (.node (o_114_0 P) (.node (o_178_0 P) (.node (o_306_0 P) .nil .nil) .nil) (.node (o_242_0 P) .nil .nil)))) (.node (o_26_0 P) (.node (o_42_0 P) (.node (o_74_0 P) (.node (o_138_0 P) (.node (o_266_0 P) .nil .nil) .nil) (.node (o_202_0 P) .nil .nil)) (.node (o_106_0 P) (.node (o_170_0 P) (.node (o_298_0 P) .nil .nil) .nil) (.node (o_234_0 P) .nil .nil))) (.node (o_58_0 P) (.node (o_90_0 P) (.node (o_154_0 P) (.node (o_282_0 P) .nil .nil) .nil) (.node (o_218_0 P) .nil .nil)) (.node (o_122_0 P) (.node (o_186_0 P) (.node (o_314_0 P) .nil .nil) .nil) (.node (o_250_0 P) .nil .nil))))) (.node (o_14_0 P) (.node (o_22_0 P) (.node (o_38_0 P) (.node (o_70_0 P) (.node (o_134_0 P) (.node (o_262_0 P) .nil .nil) .nil) (.node (o_198_0 P) .nil .nil)) (.node (o_102_0 P) (.node (o_166_0 P) (.node (o_294_0 P) .nil .nil) .nil) (.node (o_230_0 P) .nil .nil))) (.node (o_54_0 P) (.node (o_86_0 P) (.node (o_150_0 P) (.node (o_278_0 P) .nil .nil) .nil) (.node (o_214_0 P) .nil .nil)) (.node (o_118_0 P) (.node (o_182_0 P) (.node (o_310_0 P) .nil .nil) .nil) (.node (o_246_0 P) .nil .nil)))) (.node (o_30_0 P) (.node (o_46_0 P) (.node (o_78_0 P) (.node (o_142_0 P) (.node (o_270_0 P) .nil .nil) .nil) (.node (o_206_0 P) .nil .nil)) (.node (o_110_0 P) (.node (o_174_0 P) (.node (o_302_0 P) .nil .nil) .nil) (.node (o_238_0 P) .nil .nil))) (.node (o_62_0 P) (.node (o_94_0 P) (.node (o_158_0 P) (.node (o_286_0 P) .nil .nil) .nil) (.node (o_222_0 P) .nil .nil)) (.node (o_126_0 P) (.node (o_190_0 P) .nil .nil) (.node (o_254_0 P) .nil .nil))))))))
noncomputable abbrev tr_11 (P : Params) : BT := (.node (boot_o_0 P) (.node (boot_o_1 P) (.node (o_3_10 P) (.node (boot_o_7 P) (.node (o_15_0 P) (.node (o_31_1 P) (.node (o_63_0 P) (.node (o_127_0 P) (.node (o_255_0 P) .nil .nil) (.node (o_383_0 P) .nil .nil)) (.node (o_191_0 P) (.node (o_319_0 P) .nil .nil) .nil)) (.node (o_95_0 P) (.node (o_159_0 P) (.node (o_287_0 P) .nil .nil) .nil) (.node (o_223_0 P) (.node (o_351_0 P) .nil .nil) .nil))) (.node (o_47_0 P) (.node (o_79_0 P) (.node (o_143_0 P) (.node (o_271_0 P) .nil .nil) (.node (o_399_0 P) .nil .nil)) (.node (o_207_0 P) (.node (o_335_0 P) .nil .nil) .nil)) (.node (o_111_0 P) (.node (o_175_0 P) (.node (o_303_0 P) .nil .nil) .nil) (.node (o_239_0 P) (.node (o_367_0 P) .nil .nil) .nil)))) (.node (o_23_0 P) (.node (o_39_0 P) (.node (o_71_0 P) (.node (o_135_0 P) (.node (o_263_0 P) .nil .nil) (.node (o_391_0 P) .nil .nil)) (.node (o_199_0 P) (.node (o_327_0 P) .nil .nil) .nil)) (.node (o_103_0 P) (.node (o_167_0 P) (.node (o_295_0 P) .nil .nil) .nil) (.node (o_231_0 P) (.node (o_359_0 P) .nil .nil) .nil))) (.node (o_55_0 P) (.node (o_87_0 P) (.node (o_151_0 P) (.node (o_279_0 P) .nil .nil) (.node (o_407_0 P) .nil .nil)) (.node (o_215_0 P) (.node (o_343_0 P) .nil .nil) .nil)) (.node (o_119_0 P) (.node (o_183_0 P) (.node (o_311_0 P) .nil .nil) .nil) (.node (o_247_0 P) (.node (o_375_0 P) .nil .nil) .nil))))) (.node (o_11_0 P) (.node (o_19_0 P) (.node (o_35_0 P) (.node (o_67_0 P) (.node (o_131_0 P) (.node (o_259_0 P) .nil .nil) (.node (o_387_0 P) .nil .nil)) (.node (o_195_0 P) (.node (o_323_0 P) .nil .nil) .nil)) (.node (o_99_0 P) (.node (o_163_0 P) (.node (o_291_0 P) .nil .nil) .nil) (.node (o_227_0 P) (.node (o_355_0 P) .nil .nil) .nil))) (.node (o_51_0 P) (.node (o_83_0 P) (.node (o_147_5 P) (.node (o_275_0 P) .nil .nil) (.node (o_403_0 P) .nil .nil)) (.node (o_211_0 P) (.node (o_339_0 P) .nil .nil) .nil)) (.node (o_115_0 P) (.node (o_179_0 P) (.node (o_307_0 P) .nil .nil) .nil) (.node (o_243_0 P) (.node (o_371_0 P) .nil .nil) .nil)))) (.node (o_27_0 P) (.node (o_43_0 P) (.node (o_75_0 P) (.node (o_139_0 P) (.node (o_267_0 P) .nil .nil) (.node (o_395_0 P) .nil .nil)) (.node (o_203_0 P) (.node (o_331_0 P) .nil .nil) .nil)) (.node (o_107_0 P) (.node (o_171_0 P) (.node (o_299_0 P) .nil .nil) .nil) (.node (o_235_0 P) (.node (o_363_0 P) .nil .nil) .nil))) (.node (o_59_0 P) (.node (o_91_0 P) (.node (o_155_0 P) (.node (o_283_0 P) .nil .nil) (.node (o_411_0 P) .nil .nil)) (.node (o_219_0 P) (.node (o_347_0 P) .nil .nil) .nil)) (.node (o_123_0 P) (.node (o_187_0 P) (.node (o_315_0 P) .nil .nil) .nil) (.node (o_251_0 P) (.node (o_379_0 P) .nil .nil) .nil)))))) (.node (boot_o_5 P) (.node (boot_o_9 P) (.node (o_17_0 P) (.node (o_33_0 P) (.node (o_65_0 P) (.node (o_129_0 P) (.node (o_257_0 P) .nil .nil) (.node (o_385_0 P) .nil .nil)) (.node (o_193_0 P) (.node (o_321_0 P) .nil .nil) .nil)) (.node (o_97_0 P) (.node (o_161_0 P) (.node (o_289_0 P) .nil .nil) .nil) (.node (o_225_0 P) (.node (o_353_0 P) .nil .nil) .nil))) (.node (o_49_0 P) (.node (o_81_0 P) (.node (o_145_0 P) (.node (o_273_0 P) .nil .nil) (.node (o_401_0 P) .nil .nil)) (.node (o_209_0 P) (.node (o_337_0 P) .nil .nil) .nil)) (.node (o_113_0 P) (.node (o_177_0 P) (.node (o_305_0 P) .nil .nil) .nil) (.node (o_241_0 P) (.node (o_369_0 P) .nil .nil) .nil)))) (.node (o_25_0 P) (.node (o_41_0 P) (.node (o_73_0 P) (.node (o_137_0 P) (.node (o_265_0 P) .nil .nil) (.node (o_393_0 P) .nil .nil)) (.node (o_201_0 P) (.node (o_329_0 P) .nil .nil) .nil)) (.node (o_105_0 P) (.node (o_169_0 P) (.node (o_297_0 P) .nil .nil) .nil) (.node (o_233_0 P) (.node (o_361_0 P) .nil .nil) .nil))) (.node (o_57_0 P) (.node (o_89_0 P) (.node (o_153_0 P) (.node (o_281_0 P) .nil .nil) (.node (o_409_0 P) .nil .nil)) (.node (o_217_0 P) (.node (o_345_0 P) .nil .nil) .nil)) (.node (o_121_0 P) (.node (o_185_0 P) (.node (o_313_0 P) .nil .nil) .nil) (.node (o_249_0 P) (.node (o_377_0 P) .nil .nil) .nil))))) (.node (o_13_0 P) (.node (o_21_0 P) (.node (o_37_0 P) (.node (o_69_0 P) (.node (o_133_0 P) (.node (o_261_0 P) .nil .nil) (.node (o_389_0 P) .nil .nil)) (.node (o_197_0 P) (.node (o_325_0 P) .nil .nil) .nil)) (.node (o_101_0 P) (.node (o_165_0 P) (.node (o_293_0 P) .nil .nil) .nil) (.node (o_229_0 P) (.node (o_357_0 P) .nil .nil) .nil))) (.node (o_53_0 P) (.node (o_85_0 P) (.node (o_149_0 P) (.node (o_277_0 P) .nil .nil) (.node (o_405_0 P) .nil .nil)) (.node (o_213_0 P) (.node (o_341_0 P) .nil .nil) .nil)) (.node (o_117_0 P) (.node (o_181_0 P) (.node (o_309_0 P) .nil .nil) .nil) (.node (o_245_0 P) (.node (o_373_0 P) .nil .nil) .nil)))) (.node (o_29_0 P) (.node (o_45_0 P) (.node (o_77_0 P) (.node (o_141_0 P) (.node (o_269_0 P) .nil .nil) (.node (o_397_0 P) .nil .nil)) (.node (o_205_0 P) (.node (o_333_0 P) .nil .nil) .nil)) (.node (o_109_0 P) (.node (o_173_0 P) (.node (o_301_0 P) .nil .nil) .nil) (.node (o_237_0 P) (.node (o_365_0 P) .nil .nil) .nil))) (.node (o_61_0 P) (.node (o_93_0 P) (.node (o_157_0 P) (.node (o_285_0 P) .nil .nil) (.node (o_413_0 P) .nil .nil)) (.node (o_221_0 P) (.node (o_349_0 P) .nil .nil) .nil)) (.node (o_125_0 P) (.node (o_189_0 P) (.node (o_317_0 P) .nil .nil) .nil) (.node (o_253_0 P) (.node (o_381_0 P) .nil .nil) .nil))))))) (.node (o_2_1 P) (.node (boot_o_4 P) (.node (boot_o_8 P) (.node (o_16_0 P) (.node (o_32_0 P) (.node (o_64_0 P) (.node (o_128_0 P) (.node (o_256_0 P) .nil .nil) (.node (o_384_0 P) .nil .nil)) (.node (o_192_0 P) (.node (o_320_0 P) .nil .nil) .nil)) (.node (o_96_0 P) (.node (o_160_0 P) (.node (o_288_0 P) .nil .nil) .nil) (.node (o_224_0 P) (.node (o_352_0 P) .nil .nil) .nil))) (.node (o_48_0 P) (.node (o_80_0 P) (.node (o_144_0 P) (.node (o_272_0 P) .nil .nil) (.node (o_400_0 P) .nil .nil)) (.node (o_208_0 P) (.node (o_336_0 P) .nil .nil) .nil)) (.node (o_112_0 P) (.node (o_176_0 P) (.node (o_304_0 P) .nil .nil) .nil) (.node (o_240_0 P) (.node (o_368_0 P) .nil .nil) .nil)))) (.node (o_24_0 P) (.node (o_40_0 P) (.node (o_72_0 P) (.node (o_136_0 P) (.node (o_264_0 P) .nil .nil) (.node (o_392_0 P) .nil .nil)) (.node (o_200_0 P) (.node (o_328_0 P) .nil .nil) .nil)) (.node (o_104_0 P) (.node (o_168_0 P) (.node (o_296_0 P) .nil .nil) .nil) (.node (o_232_0 P) (.node (o_360_0 P) .nil .nil) .nil))) (.node (o_56_0 P) (.node (o_88_0 P) (.node (o_152_0 P) (.node (o_280_0 P) .nil .nil) (.node (o_408_0 P) .nil .nil)) (.node (o_216_0 P) (.node (o_344_0 P) .nil .nil) .nil)) (.node (o_120_0 P) (.node (o_184_0 P) (.node (o_312_0 P) .nil .nil) .nil) (.node (o_248_0 P) (.node (o_376_0 P) .nil .nil) .nil))))) (.node (o_12_10 P) (.node (o_20_0 P) (.node (o_36_0 P) (.node (o_68_0 P) (.node (o_132_0 P) (.node (o_260_0 P) .nil .nil) (.node (o_388_0 P) .nil .nil)) (.node (o_196_0 P) (.node (o_324_0 P) .nil .nil) .nil)) (.node (o_100_0 P) (.node (o_164_0 P) (.node (o_292_0 P) .nil .nil) .nil) (.node (o_228_0 P) (.node (o_356_0 P) .nil .nil) .nil))) (.node (o_52_0 P) (.node (o_84_0 P) (.node (o_148_0 P) (.node (o_276_0 P) .nil .nil) (.node (o_404_0 P) .nil .nil)) (.node (o_212_0 P) (.node (o_340_0 P) .nil .nil) .nil)) (.node (o_116_0 P) (.node (o_180_0 P) (.node (o_308_0 P) .nil .nil) .nil) (.node (o_244_0 P) (.node (o_372_0 P) .nil .nil) .nil)))) (.node (o_28_0 P) (.node (o_44_0 P) (.node (o_76_0 P) (.node (o_140_0 P) (.node (o_268_0 P) .nil .nil) (.node (o_396_0 P) .nil .nil)) (.node (o_204_0 P) (.node (o_332_0 P) .nil .nil) .nil)) (.node (o_108_0 P) (.node (o_172_0 P) (.node (o_300_0 P) .nil .nil) .nil) (.node (o_236_0 P) (.node (o_364_0 P) .nil .nil) .nil))) (.node (o_60_0 P) (.node (o_92_0 P) (.node (o_156_0 P) (.node (o_284_0 P) .nil .nil) (.node (o_412_0 P) .nil .nil)) (.node (o_220_0 P) (.node (o_348_0 P) .nil .nil) .nil)) (.node (o_124_0 P) (.node (o_188_0 P) (.node (o_316_0 P) .nil .nil) .nil) (.node (o_252_0 P) (.node (o_380_0 P) .nil .nil) .nil)))))) (.node (boot_o_6 P) (.node (o_10_0 P) (.node (o_18_0 P) (.node (o_34_0 P) (.node (o_66_0 P) (.node (o_130_0 P) (.node (o_258_0 P) .nil .nil) (.node (o_386_0 P) .nil .nil)) (.node (o_194_0 P) (.node (o_322_0 P) .nil .nil) .nil)) (.node (o_98_0 P) (.node (o_162_0 P) (.node (o_290_0 P) .nil .nil) .nil) (.node (o_226_0 P) (.node (o_354_0 P) .nil .nil) .nil))) (.node (o_50_0 P) (.node (o_82_0 P) (.node (o_146_0 P) (.node (o_274_0 P) .nil .nil) (.node (o_402_0 P) .nil .nil)) (.node (o_210_0 P) (.node (o_338_0 P) .nil .nil) .nil)) (.node (o_114_0 P) (.node (o_178_0 P) (.node (o_306_0 P) .nil .nil) .nil) (.node (o_242_0 P) (.node (o_370_0 P) .nil .nil) .nil)))) (.node (o_26_0 P) (.node (o_42_0 P) (.node (o_74_0 P) (.node (o_138_0 P) (.node (o_266_0 P) .nil .nil) (.node (o_394_0 P) .nil .nil)) (.node (o_202_0 P) (.node (o_330_0 P) .nil .nil) .nil)) (.node (o_106_0 P) (.node (o_170_0 P) (.node (o_298_0 P) .nil .nil) .nil) (.node (o_234_0 P) (.node (o_362_0 P) .nil .nil) .nil))) (.node (o_58_0 P) (.node (o_90_0 P) (.node (o_154_0 P) (.node (o_282_0 P) .nil .nil) (.node (o_410_0 P) .nil .nil)) (.node (o_218_0 P) (.node (o_346_0 P) .nil .nil) .nil)) (.node (o_122_0 P) (.node (o_186_0 P) (.node (o_314_0 P) .nil .nil) .nil) (.node (o_250_0 P) (.node (o_378_0 P) .nil .nil) .nil))))) (.node (o_14_0 P) (.node (o_22_0 P) (.node (o_38_0 P) (.node (o_70_0 P) (.node (o_134_0 P) (.node (o_262_0 P) .nil .nil) (.node (o_390_0 P) .nil .nil)) (.node (o_198_0 P) (.node (o_326_0 P) .nil .nil) .nil)) (.node (o_102_0 P) (.node (o_166_0 P) (.node (o_294_0 P) .nil .nil) .nil) (.node (o_230_0 P) (.node (o_358_0 P) .nil .nil) .nil))) (.node (o_54_0 P) (.node (o_86_0 P) (.node (o_150_0 P) (.node (o_278_0 P) .nil .nil) (.node (o_406_0 P) .nil .nil)) (.node (o_214_0 P) (.node (o_342_0 P) .nil .nil) .nil)) (.node (o_118_0 P) (.node (o_182_0 P) (.node (o_310_0 P) .nil .nil) .nil) (.node (o_246_0 P) (.node (o_374_0 P) .nil .nil) .nil)))) (.node (o_30_0 P) (.node (o_46_0 P) (.node (o_78_0 P) (.node (o_142_0 P) (.node (o_270_0 P) .nil .nil) (.node (o_398_0 P) .nil .nil)) (.node (o_206_0 P) (.node (o_334_0 P) .nil .nil) .nil)) (.node (o_110_0 P) (.node (o_174_0 P) (.node (o_302_0 P) .nil .nil) .nil) (.node (o_238_0 P) (.node (o_366_0 P) .nil .nil) .nil))) (.node (o_62_0 P) (.node (o_94_0 P) (.node (o_158_0 P) (.node (o_286_0 P) .nil .nil) .nil) (.node (o_222_0 P) (.node (o_350_0 P) .nil .nil) .nil)) (.node (o_126_0 P) (.node (o_190_0 P) (.node (o_318_0 P) .nil .nil) .nil) (.node (o_254_0 P) (.node (o_382_0 P) .nil .nil) .nil))))))))
noncomputable abbrev tr_12 (P : Params) : BT := (.node (boot_o_0 P) (.node (boot_o_1 P) (.node (o_3_11 P) (.node (boot_o_7 P) (.node (o_15_0 P) (.node (o_31_1 P) (.node (o_63_0 P) (.node (o_127_0 P) (.node (o_255_0 P) .nil .nil) (.node (o_383_0 P) .nil .nil)) (.node (o_191_0 P) (.node (o_319_0 P) .nil .nil) (.node (o_447_0 P) .nil .nil))) (.node (o_95_0 P) (.node (o_159_0 P) (.node (o_287_0 P) .nil .nil) (.node (o_415_0 P) .nil .nil)) (.node (o_223_0 P) (.node (o_351_0 P) .nil .nil) .nil))) (.node (o_47_0 P) (.node (o_79_0 P) (.node (o_143_0 P) (.node (o_271_0 P) .nil .nil) (.node (o_399_0 P) .nil .nil)) (.node (o_207_0 P) (.node (o_335_0 P) .nil .nil) (.node (o_463_0 P) .nil .nil))) (.node (o_111_0 P) (.node (o_175_0 P) (.node (o_303_0 P) .nil .nil) (.node (o_431_0 P) .nil .nil)) (.node (o_239_0 P) (.node (o_367_0 P) .nil .nil) .nil)))) (.node (o_23_0 P) (.node (o_39_0 P) (.node (o_71_0 P) (.node (o_135_0 P) (.node (o_263_0 P) .nil .nil) (.node (o_391_0 P) .nil .nil)) (.node (o_199_0 P) (.node (o_327_0 P) .nil .nil) (.node (o_455_0 P) .nil .nil))) (.node (o_103_0 P) (.node (o_167_0 P) (.node (o_295_0 P) .nil .nil) (.node (o_423_0 P) .nil .nil)) (.node (o_231_0 P) (.node (o_359_0 P) .nil .nil) .nil))) (.node (o_55_0 P) (.node (o_87_0 P) (.node (o_151_0 P) (.node (o_279_0 P) .nil .nil) (.node (o_407_0 P) .nil .nil)) (.node (o_215_0 P) (.node (o_343_0 P) .nil .nil) (.node (o_471_0 P) .nil .nil))) (.node (o_119_0 P) (.node (o_183_0 P) (.node (o_311_0 P) .nil .nil) (.node (o_439_0 P) .nil .nil)) (.node (o_247_0 P) (.node (o_375_0 P) .nil .nil) .nil))))) (.node (o_11_0 P) (.node (o_19_0 P) (.node (o_35_0 P) (.node (o_67_0 P) (.node (o_131_0 P) (.node (o_259_0 P) .nil .nil) (.node (o_387_0 P) .nil .nil)) (.node (o_195_0 P) (.node (o_323_0 P) .nil .nil) (.node (o_451_0 P) .nil .nil))) (.node (o_99_0 P) (.node (o_163_0 P) (.node (o_291_0 P) .nil .nil) (.node (o_419_0 P) .nil .nil)) (.node (o_227_0 P) (.node (o_355_0 P) .nil .nil) .nil))) (.node (o_51_0 P) (.node (o_83_0 P) (.node (o_147_5 P) (.node (o_275_0 P) .nil .nil) (.node (o_403_0 P) .nil .nil)) (.node (o_211_0 P) (.node (o_339_0 P) .nil .nil) (.node (o_467_0 P) .nil .nil))) (.node (o_115_0 P) (.node (o_179_0 P) (.node (o_307_0 P) .nil .nil) (.node (o_435_0 P) .nil .nil)) (.node (o_243_0 P) (.node (o_371_0 P) .nil .nil) .nil)))) (.node (o_27_0 P) (.node (o_43_0 P) (.node (o_75_0 P) (.node (o_139_0 P) (.node (o_267_0 P) .nil .nil) (.node (o_395_0 P) .nil .nil)) (.node (o_203_0 P) (.node (o_331_0 P) .nil .nil) (.node (o_459_0 P) .nil .nil))) (.node (o_107_0 P) (.node (o_171_0 P) (.node (o_299_0 P) .nil .nil) (.node (o_427_0 P) .nil .nil)) (.node (o_235_0 P) (.node (o_363_0 P) .nil .nil) .nil))) (.node (o_59_0 P) (.node (o_91_0 P) (.node (o_155_0 P) (.node (o_283_0 P) .nil .nil) (.node (o_411_0 P) .nil .nil)) (.node (o_219_0 P) (.node (o_347_0 P) .nil .nil) .nil)) (.node (o_123_0 P) (.node (o_187_0 P) (.node (o_315_0 P) .nil .nil) (.node (o_443_0 P) .nil .nil)) (.node (o_251_0 P) (.node (o_379_0 P) .nil .nil) .nil)))))) (.node (boot_o_5 P) (.node (boot_o_9 P) (.node (o_17_0 P) (.node (o_33_0 P) (.node (o_65_0 P) (.node (o_129_0 P) (.node (o_257_0 P) .nil .nil) (.node (o_385_0 P) .nil .nil)) (.node (o_193_0 P) (.node (o_321_0 P) .nil .nil) (.node (o_449_0 P) .nil .nil))) (.node (o_97_0 P) (.node (o_161_0 P) (.node (o_289_0 P) .nil .nil) (.node (o_417_0 P) .nil .nil)) (.node (o_225_0 P) (.node (o_353_0 P) .nil .nil) .nil))) (.node (o_49_0 P) (.node (o_81_0 P) (.node (o_145_0 P) (.node (o_273_0 P) .nil .nil) (.node (o_401_0 P) .nil .nil)) (.node (o_209_0 P) (.node (o_337_0 P) .nil .nil) (.node (o_465_0 P) .nil .nil))) (.node (o_113_0 P) (.node (o_177_0 P) (.node (o_305_0 P) .nil .nil) (.node (o_433_0 P) .nil .nil)) (.node (o_241_0 P) (.node (o_369_0 P) .nil .nil) .nil)))) (.node (o_25_0 P) (.node (o_41_0 P) (.node (o_73_0 P) (.node (o_137_0 P) (.node (o_265_0 P) .nil .nil) (.node (o_393_0 P) .nil .nil)) (.node (o_201_0 P) (.node (o_329_0 P) .nil .nil) (.node (o_457_0 P) .nil .nil))) (.node (o_105_0 P) (.node (o_169_0 P) (.node (o_297_0 P) .nil .nil) (.node (o_425_0 P) .nil .nil)) (.node (o_233_0 P) (.node (o_361_0 P) .nil .nil) .nil))) (.node (o_57_0 P) (.node (o_89_0 P) (.node (o_153_0 P) (.node (o_281_0 P) .nil .nil) (.node (o_409_0 P) .nil .nil)) (.node (o_217_0 P) (.node (o_345_0 P) .nil .nil) .nil)) (.node (o_121_0 P) (.node (o_185_0 P) (.node (o_313_0 P) .nil .nil) (.node (o_441_0 P) .nil .nil)) (.node (o_249_0 P) (.node (o_377_0 P) .nil .nil) .nil))))) (.node (o_13_0 P) (.node (o_21_0 P) (.node (o_37_0 P) (.node (o_69_0 P) (.node (o_133_0 P) (.node (o_261_0 P) .nil .nil) (.node (o_389_0 P) .nil .nil)) (.node (o_197_0 P) (.node (o_325_0 P) .nil .nil) (.node (o_453_0 P) .nil .nil))) (.node (o_101_0 P) (.node (o_165_0 P) (.node (o_293_0 P) .nil .nil) (.node (o_421_0 P) .nil .nil)) (.node (o_229_0 P) (.node (o_357_0 P) .nil .nil) .nil))) (.node (o_53_0 P) (.node (o_85_0 P) (.node (o_149_0 P) (.node (o_277_0 P) .nil .nil) (.node (o_405_0 P) .nil .nil)) (.node (o_213_0 P) (.node (o_341_0 P) .nil .nil) (.node (o_469_0 P) .nil .nil))) (.node (o_117_0 P) (.node (o_181_0 P) (.node (o_309_0 P) .nil .nil) (.node (o_437_0 P) .nil .nil)) (.node (o_245_0 P) (.node (o_373_0 P) .nil .nil) .nil)))) (.node (o_29_0 P) (.node (o_45_0 P) (.node (o_77_0 P) (.node (o_141_0 P) (.node (o_269_0 P) .nil .nil) (.node (o_397_0 P) .nil .nil)) (.node (o_205_0 P) (.node (o_333_0 P) .nil .nil) (.node (o_461_0 P) .nil .nil))) (.node (o_109_0 P) (.node (o_173_0 P) (.node (o_301_0 P) .nil .nil) (.node (o_429_0 P) .nil .nil)) (.node (o_237_0 P) (.node (o_365_0 P) .nil .nil) .nil))) (.node (o_61_0 P) (.node (o_93_0 P) (.node (o_157_0 P) (.node (o_285_0 P) .nil .nil) (.node (o_413_0 P) .nil .nil)) (.node (o_221_0 P) (.node (o_349_0 P) .nil .nil) .nil)) (.node (o_125_0 P) (.node (o_189_0 P) (.node (o_317_0 P) .nil .nil) (.node (o_445_0 P) .nil .nil)) (.node (o_253_0 P) (.node (o_381_0 P) .nil .nil) .nil))))))) (.node (o_2_1 P) (.node (boot_o_4 P) (.node (boot_o_8 P) (.node (o_16_0 P) (.node (o_32_0 P) (.node (o_64_0 P) (.node (o_128_0 P) (.node (o_256_0 P) .nil .nil) (.node (o_384_0 P) .nil .nil)) (.node (o_192_0 P) (.node (o_320_0 P) .nil .nil) (.node (o_448_0 P) .nil .nil))) (.node (o_96_0 P) (.node (o_160_0 P) (.node (o_288_0 P) .nil .nil) (.node (o_416_0 P) .nil .nil)) (.node (o_224_0 P) (.node (o_352_0 P) .nil .nil) .nil))) (.node (o_48_0 P) (.node (o_80_0 P) (.node (o_144_0 P) (.node (o_272_0 P) .nil .nil) (.node (o_400_0 P) .nil .nil)) (.node (o_208_0 P) (.node (o_336_0 P) .nil .nil) (.node (o_464_0 P) .nil .nil))) (.node (o_112_0 P) (.node (o_176_0 P) (.node (o_304_0 P) .nil .nil) (.node (o_432_0 P) .nil .nil)) (.node (o_240_0 P) (.node (o_368_0 P) .nil .nil) .nil)))) (.node (o_24_0 P) (.node (o_40_0 P) (.node (o_72_0 P) (.node (o_136_0 P) (.node (o_264_0 P) .nil .nil) (.node (o_392_0 P) .nil .nil)) (.node (o_200_0 P) (.node (o_328_0 P) .nil .nil) (.node (o_456_0 P) .nil .nil))) (.node (o_104_0 P) (.node (o_168_0 P) (.node (o_296_0 P) .nil .nil) (.node (o_424_0 P) .nil .nil)) (.node (o_232_0 P) (.node (o_360_0 P) .nil .nil) .nil))) (.node (o_56_0 P) (.node (o_88_0 P) (.node (o_152_0 P) (.node (o_280_0 P) .nil .nil) (.node (o_408_0 P) .nil .nil)) (.node (o_216_0 P) (.node (o_344_0 P) .nil .nil) .nil)) (.node (o_120_0 P) (.node (o_184_0 P) (.node (o_312_0 P) .nil .nil) (.node (o_440_0 P) .nil .nil)) (.node (o_248_0 P) (.node (o_376_0 P) .nil .nil) .nil))))) (.node (o_12_11 P) (.node (o_20_0 P) (.node (o_36_0 P) (.node (o_68_0 P) (.node (o_132_0 P) (.node (o_260_0 P) .nil .nil) (.node (o_388_0 P) .nil .nil)) (.node (o_196_0 P) (.node (o_324_0 P) .nil .nil) (.node (o_452_0 P) .nil .nil))) (.node (o_100_0 P) (.node (o_164_0 P) (.node (o_292_0 P) .nil .nil) (.node (o_420_0 P) .nil .nil)) (.node (o_228_0 P) (.node (o_356_0 P) .nil .nil) .nil))) (.node (o_52_0 P) (.node (o_84_0 P) (.node (o_148_0 P) (.node (o_276_0 P) .nil .nil) (.node (o_404_0 P) .nil .nil)) (.node (o_212_0 P) (.node (o_340_0 P) .nil .nil) (.node (o_468_0 P) .nil .nil))) (.node (o_116_0 P) (.node (o_180_0 P) (.node (o_308_0 P) .nil .nil) (.node (o_436_0 P) .nil .nil)) (.node (o_244_0 P) (.node (o_372_0 P) .nil .nil) .nil)))) (.node (o_28_0 P) (.node (o_44_0 P) (.node (o_76_0 P) (.node (o_140_0 P) (.node (o_268_0 P) .nil .nil) (.node (o_396_0 P) .nil .nil)) (.node (o_204_0 P) (.node (o_332_0 P) .nil .nil) (.node (o_460_0 P) .nil .nil))) (.node (o_108_0 P) (.node (o_172_0 P) (.node (o_300_0 P) .nil .nil) (.node (o_428_0 P) .nil .nil)) (.node (o_236_0 P) (.node (o_364_0 P) .nil .nil) .nil))) (.node (o_60_0 P) (.node (o_92_0 P) (.node (o_156_0 P) (.node (o_284_0 P) .nil .nil) (.node (o_412_0 P) .nil .nil)) (.node (o_220_0 P) (.node (o_348_0 P) .nil .nil) .nil)) (.node (o_124_0 P) (.node (o_188_0 P) (.node (o_316_0 P) .nil .nil) (.node (o_444_0 P) .nil .nil)) (.node (o_252_0 P) (.node (o_380_0 P) .nil .nil) .nil)))))) (.node (boot_o_6 P) (.node (o_10_0 P) (.node (o_18_0 P) (.node (o_34_0 P) (.node (o_66_0 P) (.node (o_130_0 P) (.node (o_258_0 P) .nil .nil) (.node (o_386_0 P) .nil .nil)) (.node (o_194_0 P) (.node (o_322_0 P) .nil .nil) (.node (o_450_0 P) .nil .nil))) (.node (o_98_0 P) (.node (o_162_0 P) (.node (o_290_0 P) .nil .nil) (.node (o_418_0 P) .nil .nil)) (.node (o_226_0 P) (.node (o_354_0 P) .nil .nil) .nil))) (.node (o_50_0 P) (.node (o_82_0 P) (.node (o_146_0 P) (.node (o_274_0 P) .nil .nil) (.node (o_402_0 P) .nil .nil)) (.node (o_210_0 P) (.node (o_338_0 P) .nil .nil) (.node (o_466_0 P) .nil .nil))) (.node (o_114_0 P) (.node (o_178_0 P) (.node (o_306_0 P) .nil .nil) (.node (o_434_0 P) .nil .nil)) (.node (o_242_0 P) (.node (o_370_0 P) .nil .nil) .nil)))) (.node (o_26_0 P) (.node (o_42_0 P) (.node (o_74_0 P) (.node (o_138_0 P) (.node (o_266_0 P) .nil .nil) (.node (o_394_0 P) .nil .nil)) (.node (o_202_0 P) (.node (o_330_0 P) .nil .nil) (.node (o_458_0 P) .nil .nil))) (.node (o_106_0 P) (.node (o_170_0 P) (.node (o_298_0 P) .nil .nil) (.node (o_426_0 P) .nil .nil)) (.node (o_234_0 P) (.node (o_362_0 P) .nil .nil) .nil))) (.node (o_58_0 P) (.node (o_90_0 P) (.node (o_154_0 P) (.node (o_282_0 P) .nil .nil) (.node (o_410_0 P) .nil .nil)) (.node (o_218_0 P) (.node (o_346_0 P) .nil .nil) .nil)) (.node (o_122_0 P) (.node (o_186_0 P) (.node (o_314_0 P) .nil .nil) (.node (o_442_0 P) .nil .nil)) (.node (o_250_0 P) (.node (o_378_0 P) .nil .nil) .nil))))) (.node (o_14_0 P) (.node (o_22_0 P) (.node (o_38_0 P) (.node (o_70_0 P) (.node (o_134_0 P) (.node (o_262_0 P) .nil .nil) (.node (o_390_0 P) .nil .nil)) (.node (o_198_0 P) (.node (o_326_0 P) .nil .nil) (.node (o_454_0 P) .nil .nil))) (.node (o_102_0 P) (.node (o_166_0 P) (.node (o_294_0 P) .nil .nil) (.node (o_422_0 P) .nil .nil)) (.node (o_230_0 P) (.node (o_358_0 P) .nil .nil) .nil))) (.node (o_54_0 P) (.node (o_86_0 P) (.node (o_150_0 P) (.node (o_278_0 P) .nil .nil) (.node (o_406_0 P) .nil .nil)) (.node (o_214_0 P) (.node (o_342_0 P) .nil .nil) (.node (o_470_0 P) .nil .nil))) (.node (o_118_0 P) (.node (o_182_0 P) (.node (o_310_0 P) .nil .nil) (.node (o_438_0 P) .nil .nil)) (.node (o_246_0 P) (.node (o_374_0 P) .nil .nil) .nil)))) (.node (o_30_0 P) (.node (o_46_0 P) (.node (o_78_0 P) (.node (o_142_0 P) (.node (o_270_0 P) .nil .nil) (.node (o_398_0 P) .nil .nil)) (.node (o_206_0 P) (.node (o_334_0 P) .nil .nil) (.node (o_462_0 P) .nil .nil))) (.node (o_110_0 P) (.node (o_174_0 P) (.node (o_302_0 P) .nil .nil) (.node (o_430_0 P) .nil .nil)) (.node (o_238_0 P) (.node (o_366_0 P) .nil .nil) .nil))) (.node (o_62_0 P) (.node (o_94_0 P) (.node (o_158_0 P) (.node (o_286_0 P) .nil .nil) (.node (o_414_0 P) .nil .nil)) (.node (o_222_0 P) (.node (o_350_0 P) .nil .nil) .nil)) (.node (o_126_0 P) (.node (o_190_0 P) (.node (o_318_0 P) .nil .nil) (.node (o_446_0 P) .nil .nil)) (.node (o_254_0 P) (.node (o_382_0 P) .nil .nil) .nil))))))))
noncomputable abbrev tr_13 (P : Params) : BT := (.node (boot_o_0 P) (.node (boot_o_1 P) (.node (o_3_12 P) (.node (boot_o_7 P) (.node (o_15_0 P) (.node (o_31_1 P) (.node (o_63_0 P) (.node (o_127_0 P) (.node (o_255_0 P) .nil .nil) (.node (o_383_0 P) .nil .nil)) (.node (o_191_0 P) (.node (o_319_0 P) .nil .nil) (.node (o_447_0 P) .nil .nil))) (.node (o_95_0 P) (.node (o_159_0 P) (.node (o_287_0 P) .nil .nil) (.node (o_415_0 P) .nil .nil)) (.node (o_223_0 P) (.node (o_351_0 P) .nil .nil) (.node (o_479_0 P) .nil .nil)))) (.node (o_47_0 P) (.node (o_79_0 P) (.node (o_143_0 P) (.node (o_271_0 P) .nil .nil) (.node (o_399_0 P) .nil .nil)) (.node (o_207_0 P) (.node (o_335_0 P) .nil .nil) (.node (o_463_0 P) .nil .nil))) (.node (o_111_0 P) (.node (o_175_0 P) (.node (o_303_0 P) .nil .nil) (.node (o_431_0 P) .nil .nil)) (.node (o_239_0 P) (.node (o_367_0 P) .nil .nil) .nil)))) (.node (o_23_0 P) (.node (o_39_0 P) (.node (o_71_0 P) (.node (o_135_0 P) (.node (o_263_0 P) .nil .nil) (.node (o_391_0 P) .nil .nil)) (.node (o_199_0 P) (.node (o_327_0 P) .nil .nil) (.node (o_455_0 P) .nil .nil))) (.node (o_103_0 P) (.node (o_167_0 P) (.node (o_295_0 P) .nil .nil) (.node (o_423_0 P) .nil .nil)) (.node (o_231_0 P) (.node (o_359_0 P) .nil .nil) (.node (o_487_0 P) .nil .nil)))) (.node (o_55_0 P) (.node (o_87_0 P) (.node (o_151_0 P) (.node (o_279_0 P) .nil .nil) (.node (o_407_0 P) .nil .nil)) (.node (o_215_0 P) (.node (o_343_0 P) .nil .nil) (.node (o_471_0 P) .nil .nil))) (.node (o_119_0 P) (.node (o_183_0 P) (.node (o_311_0 P) .nil .nil) (.node (o_439_0 P) .nil .nil)) (.node (o_247_0 P) (.node (o_375_0 P) .nil .nil) .nil))))) (.node (o_11_0 P) (.node (o_19_0 P) (.node (o_35_0 P) (.node (o_67_0 P) (.node (o_131_0 P) (.node (o_259_0 P) .nil .nil) (.node (o_387_0 P) .nil .nil)) (.node (o_195_0 P) (.node (o_323_0 P) .nil .nil) (.node (o_451_0 P) .nil .nil))) (.node (o_99_0 P) (.node (o_163_0 P) (.node (o_291_0 P) .nil .nil) (.node (o_419_0 P) .nil .nil)) (.node (o_227_0 P) (.node (o_355_0 P) .nil .nil) (.node (o_483_0 P) .nil .nil)))) (.node (o_51_0 P) (.node (o_83_0 P) (.node (o_147_5 P) (.node (o_275_0 P) .nil .nil) (.node (o_403_0 P) .nil .nil)) (.node (o_211_0 P) (.node (o_339_0 P) .nil .nil) (.node (o_467_0 P) .nil .nil))) (.node (o_115_0 P) (.node (o_179_0 P) (.node (o_307_0 P) .nil .nil) (.node (o_435_0 P) .nil .nil)) (.node (o_243_0 P) (.node (o_371_0 P) .nil .nil) .nil)))) (.node (o_27_0 P) (.node (o_43_0 P) (.node (o_75_0 P) (.node (o_139_0 P) (.node (o_267_0 P) .nil .nil) (.node (o_395_0 P) .nil .nil)) (.node (o_203_0 P) (.node (o_331_0 P) .nil .nil) (.node (o_459_0 P) .nil .nil))) (.node (o_107_0 P) (.node (o_171_0 P) (.node (o_299_0 P) .nil .nil) (.node (o_427_0 P) .nil .nil)) (.node (o_235_0 P) (.node (o_363_0 P) .nil .nil) .nil))) (.node (o_59_0 P) (.node (o_91_0 P) (.node (o_155_0 P) (.node (o_283_0 P) .nil .nil) (.node (o_411_0 P) .nil .nil)) (.node (o_219_0 P) (.node (o_347_0 P) .nil .nil) (.node (o_475_0 P) .nil .nil))) (.node (o_123_0 P) (.node (o_187_0 P) (.node (o_315_0 P) .nil .nil) (.node (o_443_0 P) .nil .nil)) (.node (o_251_0 P) (.node (o_379_0 P) .nil .nil) .nil)))))) (.node (boot_o_5 P) (.node (boot_o_9 P) (.node (o_17_0 P) (.node (o_33_0 P) (.node (o_65_0 P) (.node (o_129_0 P) (.node (o_257_0 P) .nil .nil) (.node (o_385_0 P) .nil .nil)) (.node (o_193_0 P) (.node (o_321_0 P) .nil .nil) (.node (o_449_0 P) .nil .nil))) (.node (o_97_0 P) (.node (o_161_0 P) (.node (o_289_0 P) .nil .nil) (.node (o_417_0 P) .nil .nil)) (.node (o_225_0 P) (.node (o_353_0 P) .nil .nil) (.node (o_481_0 P) .nil .nil)))) (.node (o_49_0 P) (.node (o_81_0 P) (.node (o_145_0 P) (.node (o_273_0 P) .nil .nil) (.node (o_401_0 P) .nil .nil)) (.node (o_209_0 P) (.node (o_337_0 P) .nil .nil) (.node (o_465_0 P) .nil .nil))) (.node (o_113_0 P) (.node (o_177_0 P) (.node (o_305_0 P) .nil .nil) (.node (o_433_0 P) .nil .nil)) (.node (o_241_0 P) (.node (o_369_0 P) .nil .nil) .nil)))) (.node (o_25_0 P) (.node (o_41_0 P) (.node (o_73_0 P) (.node (o_137_0 P) (.node (o_265_0 P) .nil .nil) (.node (o_393_0 P) .nil .nil)) (.node (o_201_0 P) (.node (o_329_0 P) .nil .nil) (.node (o_457_0 P) .nil .nil))) (.node (o_105_0 P) (.node (o_169_0 P) (.node (o_297_0 P) .nil .nil) (.node (o_425_0 P) .nil .nil)) (.node (o_233_0 P) (.node (o_361_0 P) .nil .nil) (.node (o_489_0 P) .nil .nil)))) (.node (o_57_0 P) (.node (o_89_0 P) (.node (o_153_0 P) (.node (o_281_0 P) .nil .nil) (.node (o_409_0 P) .nil .nil)) (.node (o_217_0 P) (.node (o_345_0 P) .nil .nil) (.node (o_473_0 P) .nil .nil))) (.node (o_121_0 P) (.node (o_185_0 P) (.node (o_313_0 P) .nil .nil) (.node (o_441_0 P) .nil .nil)) (.node (o_249_0 P) (.node (o_377_0 P) .nil .nil) .nil))))) (.node (o_13_0 P) (.node (o_21_0 P) (.node (o_37_0 P) (.node (o_69_0 P) (.node (o_133_0 P) (.node (o_261_0 P) .nil .nil) (.node (o_389_0 P) .nil .nil)) (.node (o_197_0 P) (.node (o_325_0 P) .nil .nil) (.node (o_453_0 P) .nil .nil))) (.node (o_101_0 P) (.node (o_165_0 P) (.node (o_293_0 P) .nil .nil) (.node (o_421_0 P) .nil .nil)) (.node (o_229_0 P) (.node (o_357_0 P) .nil .nil) (.node (o_485_0 P) .nil .nil)))) (.node (o_53_0 P) (.node (o_85_0 P) (.node (o_149_0 P) (.node (o_277_0 P) .nil .nil) (.node (o_405_0 P) .nil .nil)) (.node (o_213_0 P) (.node (o_341_0 P) .nil .nil) (.node (o_469_0 P) .nil .nil))) (.node (o_117_0 P) (.node (o_181_0 P) (.node (o_309_0 P) .nil .nil) (.node (o_437_0 P) .nil .nil)) (.node (o_245_0 P) (.node (o_373_0 P) .nil .nil) .nil)))) (.node (o_29_0 P) (.node (o_45_0 P) (.node (o_77_0 P) (.node (o_141_0 P) (.node (o_269_0 P) .nil .nil) (.node (o_397_0 P) .nil .nil)) (.node (o_205_0 P) (.node (o_333_0 P) .nil .nil) (.node (o_461_0 P) .nil .nil))) (.node (o_109_0 P) (.node (o_173_0 P) (.node (o_301_0 P) .nil .nil) (.node (o_429_0 P) .nil .nil)) (.node (o_237_0 P) (.node (o_365_0 P) .nil .nil) .nil))) (.node (o_61_0 P) (.node (o_93_0 P) (.node (o_157_0 P) (.node (o_285_0 P) .nil .nil) (.node (o_413_0 P) .nil .nil)) (.node (o_221_0 P) (.node (o_349_0 P) .nil .nil) (.node (o_477_0 P) .nil .nil))) (.node (o_125_0 P) (.node (o_189_0 P) (.node (o_317_0 P) .nil .nil) (.node (o_445_0 P) .nil .nil)) (.node (o_253_0 P) (.node (o_381_0 P) .nil .nil) .nil))))))) (.node (o_2_1 P) (.node (boot_o_4 P) (.node (boot_o_8 P) (.node (o_16_0 P) (.node (o_32_0 P) (.node (o_64_0 P) (.node (o_128_0 P) (.node (o_256_0 P) .nil .nil) (.node (o_384_0 P) .nil .nil)) (.node (o_192_0 P) (.node (o_320_0 P) .nil .nil) (.node (o_448_0 P) .nil .nil))) (.node (o_96_0 P) (.node (o_160_0 P) (.node (o_288_0 P) .nil .nil) (.node (o_416_0 P) .nil .nil)) (.node (o_224_0 P) (.node (o_352_0 P) .nil .nil) (.node (o_480_0 P) .nil .nil)))) (.node (o_48_0 P) (.node (o_80_0 P) (.node (o_144_0 P) (.node (o_272_0 P) .nil .nil) (.node (o_400_0 P) .nil .nil)) (.node (o_208_0 P) (.node (o_336_0 P) .nil .nil) (.node (o_464_0 P) .nil .nil))) (.node (o_112_0 P) (.node (o_176_0 P) (.node (o_304_0 P) .nil .nil) (.node (o_432_0 P) .nil .nil)) (.node (o_240_0 P) (.node (o_368_0 P) .nil .nil) .nil)))) (.node (o_24_0 P) (.node (o_40_0 P) (.node (o_72_0 P) (.node (o_136_0 P) (.node (o_264_0 P) .nil .nil) (.node (o_392_0 P) .nil .nil)) (.node (o_200_0 P) (.node (o_328_0 P) .nil .nil) (.node (o_456_0 P) .nil .nil))) (.node (o_104_0 P) (.node (o_168_0 P) (.node (o_296_0 P) .nil .nil) (.node (o_424_0 P) .nil .nil)) (.node (o_232_0 P) (.node (o_360_0 P) .nil .nil) (.node (o_488_0 P) .nil .nil)))) (.node (o_56_0 P) (.node (o_88_0 P) (.node (o_152_0 P) (.node (o_280_0 P) .nil .nil) (.node (o_408_0 P) .nil .nil)) (.node (o_216_0 P) (.node (o_344_0 P) .nil .nil) (.node (o_472_0 P) .nil .nil))) (.node (o_120_0 P) (.node (o_184_0 P) (.node (o_312_0 P) .nil .nil) (.node (o_440_0 P) .nil .nil)) (.node (o_248_0 P) (.node (o_376_0 P) .nil .nil) .nil))))) (.node (o_12_12 P) (.node (o_20_0 P) (.node (o_36_0 P) (.node (o_68_0 P) (.node (o_132_0 P) (.node (o_260_0 P) .nil .nil) (.node (o_388_0 P) .nil .nil)) (.node (o_196_0 P) (.node (o_324_0 P) .nil .nil) (.node (o_452_0 P) .nil .nil))) (.node (o_100_0 P) (.node (o_164_0 P) (.node (o_292_0 P) .nil .nil) (.node (o_420_0 P) .nil .nil)) (.node (o_228_0 P) (.node (o_356_0 P) .nil .nil) (.node (o_484_0 P) .nil .nil)))) (.node (o_52_0 P) (.node (o_84_0 P) (.node (o_148_0 P) (.node (o_276_0 P) .nil .nil) (.node (o_404_0 P) .nil .nil)) (.node (o_212_0 P) (.node (o_340_0 P) .nil .nil) (.node (o_468_0 P) .nil .nil))) (.node (o_116_0 P) (.node (o_180_0 P) (.node (o_308_0 P) .nil .nil) (.node (o_436_0 P) .nil .nil)) (.node (o_244_0 P) (.node (o_372_0 P) .nil .nil) .nil)))) (.node (o_28_0 P) (.node (o_44_0 P) (.node (o_76_0 P) (.node (o_140_0 P) (.node (o_268_0 P) .nil .nil) (.node (o_396_0 P) .nil .nil)) (.node (o_204_0 P) (.node (o_332_0 P) .nil .nil) (.node (o_460_0 P) .nil .nil))) (.node (o_108_0 P) (.node (o_172_0 P) (.node (o_300_0 P) .nil .nil) (.node (o_428_0 P) .nil .nil)) (.node (o_236_0 P) (.node (o_364_0 P) .nil .nil) .nil))) (.node (o_60_0 P) (.node (o_92_0 P) (.node (o_156_0 P) (.node (o_284_0 P) .nil .nil) (.node (o_412_0 P) .nil .nil)) (.node (o_220_0 P) (.node (o_348_0 P) .nil .nil) (.node (o_476_0 P) .nil .nil))) (.node (o_124_0 P) (.node (o_188_0 P) (.node (o_316_0 P) .nil .nil) (.node (o_444_0 P) .nil .nil)) (.node (o_252_0 P) (.node (o_380_0 P) .nil .nil) .nil)))))) (.node (boot_o_6 P) (.node (o_10_0 P) (.node (o_18_0 P) (.node (o_34_0 P) (.node (o_66_0 P) (.node (o_130_0 P) (.node (o_258_0 P) .nil .nil) (.node (o_386_0 P) .nil .nil)) (.node (o_194_0 P) (.node (o_322_0 P) .nil .nil) (.node (o_450_0 P) .nil .nil))) (.node (o_98_0 P) (.node (o_162_0 P) (.node (o_290_0 P) .nil .nil) (.node (o_418_0 P) .nil .nil)) (.node (o_226_0 P) (.node (o_354_0 P) .nil .nil) (.node (o_482_0 P) .nil .nil)))) (.node (o_50_0 P) (.node (o_82_0 P) (.node (o_146_0 P) (.node (o_274_0 P) .nil .nil) (.node (o_402_0 P) .nil .nil)) (.node (o_210_0 P) (.node (o_338_0 P) .nil .nil) (.node (o_466_0 P) .nil .nil))) (.node (o_114_0 P) (.node (o_178_0 P) (.node (o_306_0 P) .nil .nil) (.node (o_434_0 P) .nil .nil)) (.node (o_242_0 P) (.node (o_370_0 P) .nil .nil) .nil)))) (.node (o_26_0 P) (.node (o_42_0 P) (.node (o_74_0 P) (.node (o_138_0 P) (.node (o_266_0 P) .nil .nil) (.node (o_394_0 P) .nil .nil)) (.node (o_202_0 P) (.node (o_330_0 P) .nil .nil) (.node (o_458_0 P) .nil .nil))) (.node (o_106_0 P) (.node (o_170_0 P) (.node (o_298_0 P) .nil .nil) (.node (o_426_0 P) .nil .nil)) (.node (o_234_0 P) (.node (o_362_0 P) .nil .nil) (.node (o_490_0 P) .nil .nil)))) (.node (o_58_0 P) (.node (o_90_0 P) (.node (o_154_0 P) (.node (o_282_0 P) .nil .nil) (.node (o_410_0 P) .nil .nil)) (.node (o_218_0 P) (.node (o_346_0 P) .nil .nil) (.node (o_474_0 P) .nil .nil))) (.node (o_122_0 P) (.node (o_186_0 P) (.node (o_314_0 P) .nil .nil) (.node (o_442_0 P) .nil .nil)) (.node (o_250_0 P) (.node (o_378_0 P) .nil .nil) .nil))))) (.node (o_14_0 P) (.node (o_22_0 P) (.node (o_38_0 P) (.node (o_70_0 P) (.node (o_134_0 P) (.node (o_262_0 P) .nil .nil) (.node (o_390_0 P) .nil .nil)) (.node (o_198_0 P) (.node (o_326_0 P) .nil .nil) (.node (o_454_0 P) .nil .nil))) (.node (o_102_0 P) (.node (o_166_0 P) (.node (o_294_0 P) .nil .nil) (.node (o_422_0 P) .nil .nil)) (.node (o_230_0 P) (.node (o_358_0 P) .nil .nil) (.node (o_486_0 P) .nil .nil)))) (.node (o_54_0 P) (.node (o_86_0 P) (.node (o_150_0 P) (.node (o_278_0 P) .nil .nil) (.node (o_406_0 P) .nil .nil)) (.node (o_214_0 P) (.node (o_342_0 P) .nil .nil) (.node (o_470_0 P) .nil .nil))) (.node (o_118_0 P) (.node (o_182_0 P) (.node (o_310_0 P) .nil .nil) (.node (o_438_0 P) .nil .nil)) (.node (o_246_0 P) (.node (o_374_0 P) .nil .nil) .nil)))) (.node (o_30_0 P) (.node (o_46_0 P) (.node (o_78_0 P) (.node (o_142_0 P) (.node (o_270_0 P) .nil .nil) (.node (o_398_0 P) .nil .nil)) (.node (o_206_0 P) (.node (o_334_0 P) .nil .nil) (.node (o_462_0 P) .nil .nil))) (.node (o_110_0 P) (.node (o_174_0 P) (.node (o_302_0 P) .nil .nil) (.node (o_430_0 P) .nil .nil)) (.node (o_238_0 P) (.node (o_366_0 P) .nil .nil) .nil))) (.node (o_62_0 P) (.node (o_94_0 P) (.node (o_158_0 P) (.node (o_286_0 P) .nil .nil) (.node (o_414_0 P) .nil .nil)) (.node (o_222_0 P) (.node (o_350_0 P) .nil .nil) (.node (o_478_0 P) .nil .nil))) (.node (o_126_0 P) (.node (o_190_0 P) (.node (o_318_0 P) .nil .nil) (.node (o_446_0 P) .nil .nil)) (.node (o_254_0 P) (.node (o_382_0 P) .nil .nil) .nil))))))))
noncomputable abbrev sts_0 : List Stmt := ((behindTheImports PySem.Challenge.pw_sz0088_01).drop 0).take 2
noncomputable abbrev sts_1 : List Stmt := ((behindTheImports PySem.Challenge.pw_sz0088_01).drop 2).take 9
noncomputable abbrev sts_2 : List Stmt := ((behindTheImports PySem.Challenge.pw_sz0088_01).drop 11).take 9
noncomputable abbrev sts_3 : List Stmt := ((behindTheImports PySem.Challenge.pw_sz0088_01).drop 20).take 1
noncomputable abbrev sts_4 : List Stmt := ((behindTheImports PySem.Challenge.pw_sz0088_01).drop 21).take 1
noncomputable abbrev sts_5 : List Stmt := ((behindTheImports PySem.Challenge.pw_sz0088_01).drop 22).take 1
noncomputable abbrev sts_6 : List Stmt := ((behindTheImports PySem.Challenge.pw_sz0088_01).drop 23).take 1
noncomputable abbrev sts_7 : List Stmt := ((behindTheImports PySem.Challenge.pw_sz0088_01).drop 24).take 1
noncomputable abbrev sts_8 : List Stmt := ((behindTheImports PySem.Challenge.pw_sz0088_01).drop 25).take 9
noncomputable abbrev sts_9 : List Stmt := ((behindTheImports PySem.Challenge.pw_sz0088_01).drop 34).take 16
noncomputable abbrev sts_10 : List Stmt := ((behindTheImports PySem.Challenge.pw_sz0088_01).drop 50).take 8
noncomputable abbrev sts_11 : List Stmt := ((behindTheImports PySem.Challenge.pw_sz0088_01).drop 58).take 3
theorem sts_all : behindTheImports PySem.Challenge.pw_sz0088_01 = sts_0 ++ (sts_1 ++ (sts_2 ++ (sts_3 ++ (sts_4 ++ (sts_5 ++ (sts_6 ++ (sts_7 ++ (sts_8 ++ (sts_9 ++ (sts_10 ++ (sts_11 ++ []))))))))))) := by kernel_rfl
theorem pc_pre : ∀ w : World, (fun os : OsState => PySem.W.Fast.tw15667345088766844465 PySem.W.Fast.tw14364793385576792824 PySem.Challenge.pw_sz0088_01 w 11 (some (.ref 6)) 12 (⟨boot_heap w.params, Array.mk [], boot_drawn, boot_toks, os⟩ : Shared) (topStub PySem.Challenge.pw_sz0088_01)) = fun os => some ((⟨absHeap (tr_0 w.params) 15 tLife, Array.mk [], tDrawn, 187, os⟩ : Shared), (⟨PySem.W.Fast.tw11892475500146522536 PySem.W.Fast.tw14364793385576792824 tCode, tCode, ⟨0, 0, 0, 0⟩, tB⟩ : Thread)) := fun w => by kernel_rfl
theorem pc_block : ∀ w : World, (fun os : OsState => PySem.W.Fast.tw10110043849684766642 PySem.W.Fast.tw14364793385576792824 PySem.Challenge.pw_sz0088_01 w 11 (some (.ref 6)) 1 1 (⟨tr_0 w.params, 15, tLife, Array.mk [], tDrawn, 187, os⟩ : SharedT) (⟨(PySem.W.Fast.tw1066825118222455980 (behindTheImports PySem.Challenge.pw_sz0088_01) tEnv).wrap (fun _ => doneF .next) deadEnd id id, tCode, ⟨0, 0, 0, 0⟩, tB⟩ : Thread)) = fun os => some (Flow.next, (⟨tr_0 w.params, 15, tLife, Array.mk [], tDrawn, 187, os⟩ : SharedT), tCode, ⟨0, 0, 0, 0⟩) := fun w => by kernel_rfl
theorem pc_0 : ∀ w : World, (fun os : OsState => PySem.W.Fast.tw10110043849684766642 PySem.W.Fast.tw14364793385576792824 PySem.Challenge.pw_sz0088_01 w 11 (some (.ref 6)) 1 238 (⟨tr_0 w.params, 15, tLife, Array.mk [], tDrawn, 187, os⟩ : SharedT) (⟨(PySem.W.Fast.tw12563942051412417395 sts_0 tEnv).wrap doneF deadEnd id id, tCode, ⟨0, 0, 0, 0⟩, tB⟩ : Thread)) = fun os => some (Flow.next, (⟨tr_2 w.params, 35, tLife, Array.mk [], tDrawn, 218, os⟩ : SharedT), tCode, ⟨2, 0, 6, 24⟩) := fun w => by kernel_rfl
theorem pc_1 : ∀ w : World, (fun os : OsState => PySem.W.Fast.tw10110043849684766642 PySem.W.Fast.tw14364793385576792824 PySem.Challenge.pw_sz0088_01 w 11 (some (.ref 6)) 1 427 (⟨tr_2 w.params, 35, tLife, Array.mk [], tDrawn, 218, os⟩ : SharedT) (⟨(PySem.W.Fast.tw12563942051412417395 sts_1 tEnv).wrap doneF deadEnd id id, tCode, ⟨2, 0, 6, 24⟩, tB⟩ : Thread)) = fun os => some (Flow.next, (⟨tr_3 w.params, 89, tLife, Array.mk [], tDrawn, 293, os⟩ : SharedT), tCode, ⟨26, 0, 30, 12⟩) := fun w => by kernel_rfl
theorem pc_2 : ∀ w : World, (fun os : OsState => PySem.W.Fast.tw10110043849684766642 PySem.W.Fast.tw14364793385576792824 PySem.Challenge.pw_sz0088_01 w 11 (some (.ref 6)) 1 436 (⟨tr_3 w.params, 89, tLife, Array.mk [], tDrawn, 293, os⟩ : SharedT) (⟨(PySem.W.Fast.tw12563942051412417395 sts_2 tEnv).wrap doneF deadEnd id id, tCode, ⟨26, 0, 30, 12⟩, tB⟩ : Thread)) = fun os => some (Flow.next, (⟨tr_4 w.params, 152, tLife, Array.mk [], tDrawn, 389, os⟩ : SharedT), tCode, ⟨83, 0, 91, 29⟩) := fun w => by kernel_rfl
theorem pc_3 : ∀ w : World, (fun os : OsState => PySem.W.Fast.tw10110043849684766642 PySem.W.Fast.tw14364793385576792824 PySem.Challenge.pw_sz0088_01 w 11 (some (.ref 6)) 1 248 (⟨tr_4 w.params, 152, tLife, Array.mk [], tDrawn, 389, os⟩ : SharedT) (⟨(PySem.W.Fast.tw12563942051412417395 sts_3 tEnv).wrap doneF deadEnd id id, tCode, ⟨83, 0, 91, 29⟩, tB⟩ : Thread)) = fun os => some (Flow.next, (⟨tr_5 w.params, 171, tLife, Array.mk [], tDrawn, 416, os⟩ : SharedT), tCode, ⟨92, 0, 97, 25⟩) := fun w => by kernel_rfl
theorem pc_4 : ∀ w : World, (fun os : OsState => PySem.W.Fast.tw10110043849684766642 PySem.W.Fast.tw14364793385576792824 PySem.Challenge.pw_sz0088_01 w 11 (some (.ref 6)) 1 247 (⟨tr_5 w.params, 171, tLife, Array.mk [], tDrawn, 416, os⟩ : SharedT) (⟨(PySem.W.Fast.tw12563942051412417395 sts_4 tEnv).wrap doneF deadEnd id id, tCode, ⟨92, 0, 97, 25⟩, tB⟩ : Thread)) = fun os => some (Flow.next, (⟨tr_6 w.params, 190, tLife, Array.mk [], tDrawn, 442, os⟩ : SharedT), tCode, ⟨98, 0, 103, 24⟩) := fun w => by kernel_rfl
theorem pc_5 : ∀ w : World, (fun os : OsState => PySem.W.Fast.tw10110043849684766642 PySem.W.Fast.tw14364793385576792824 PySem.Challenge.pw_sz0088_01 w 11 (some (.ref 6)) 1 248 (⟨tr_6 w.params, 190, tLife, Array.mk [], tDrawn, 442, os⟩ : SharedT) (⟨(PySem.W.Fast.tw12563942051412417395 sts_5 tEnv).wrap doneF deadEnd id id, tCode, ⟨98, 0, 103, 24⟩, tB⟩ : Thread)) = fun os => some (Flow.next, (⟨tr_7 w.params, 209, tLife, Array.mk [], tDrawn, 469, os⟩ : SharedT), tCode, ⟨104, 0, 110, 24⟩) := fun w => by kernel_rfl
theorem pc_6 : ∀ w : World, (fun os : OsState => PySem.W.Fast.tw10110043849684766642 PySem.W.Fast.tw14364793385576792824 PySem.Challenge.pw_sz0088_01 w 11 (some (.ref 6)) 1 251 (⟨tr_7 w.params, 209, tLife, Array.mk [], tDrawn, 469, os⟩ : SharedT) (⟨(PySem.W.Fast.tw12563942051412417395 sts_6 tEnv).wrap doneF deadEnd id id, tCode, ⟨104, 0, 110, 24⟩, tB⟩ : Thread)) = fun os => some (Flow.next, (⟨tr_8 w.params, 228, tLife, Array.mk [], tDrawn, 499, os⟩ : SharedT), tCode, ⟨111, 0, 118, 29⟩) := fun w => by kernel_rfl
theorem pc_7 : ∀ w : World, (fun os : OsState => PySem.W.Fast.tw10110043849684766642 PySem.W.Fast.tw14364793385576792824 PySem.Challenge.pw_sz0088_01 w 11 (some (.ref 6)) 1 251 (⟨tr_8 w.params, 228, tLife, Array.mk [], tDrawn, 499, os⟩ : SharedT) (⟨(PySem.W.Fast.tw12563942051412417395 sts_7 tEnv).wrap doneF deadEnd id id, tCode, ⟨111, 0, 118, 29⟩, tB⟩ : Thread)) = fun os => some (Flow.next, (⟨tr_9 w.params, 247, tLife, Array.mk [], tDrawn, 529, os⟩ : SharedT), tCode, ⟨119, 0, 127, 24⟩) := fun w => by kernel_rfl
theorem pc_8 : ∀ w : World, (fun os : OsState => PySem.W.Fast.tw10110043849684766642 PySem.W.Fast.tw14364793385576792824 PySem.Challenge.pw_sz0088_01 w 11 (some (.ref 6)) 1 445 (⟨tr_9 w.params, 247, tLife, Array.mk [], tDrawn, 529, os⟩ : SharedT) (⟨(PySem.W.Fast.tw12563942051412417395 sts_8 tEnv).wrap doneF deadEnd id id, tCode, ⟨119, 0, 127, 24⟩, tB⟩ : Thread)) = fun os => some (Flow.next, (⟨tr_10 w.params, 318, tLife, Array.mk [], tDrawn, 618, os⟩ : SharedT), tCode, ⟨179, 0, 184, 28⟩) := fun w => by kernel_rfl
theorem pc_9 : ∀ w : World, (fun os : OsState => PySem.W.Fast.tw10110043849684766642 PySem.W.Fast.tw14364793385576792824 PySem.Challenge.pw_sz0088_01 w 11 (some (.ref 6)) 1 447 (⟨tr_10 w.params, 318, tLife, Array.mk [], tDrawn, 618, os⟩ : SharedT) (⟨(PySem.W.Fast.tw12563942051412417395 sts_9 tEnv).wrap doneF deadEnd id id, tCode, ⟨179, 0, 184, 28⟩, tB⟩ : Thread)) = fun os => some (Flow.next, (⟨tr_11 w.params, 414, tLife, Array.mk [], tDrawn, 744, os⟩ : SharedT), tCode, ⟨243, 0, 243, 8⟩) := fun w => by kernel_rfl
theorem pc_10 : ∀ w : World, (fun os : OsState => PySem.W.Fast.tw10110043849684766642 PySem.W.Fast.tw14364793385576792824 PySem.Challenge.pw_sz0088_01 w 11 (some (.ref 6)) 1 433 (⟨tr_11 w.params, 414, tLife, Array.mk [], tDrawn, 744, os⟩ : SharedT) (⟨(PySem.W.Fast.tw12563942051412417395 sts_10 tEnv).wrap doneF deadEnd id id, tCode, ⟨243, 0, 243, 8⟩, tB⟩ : Thread)) = fun os => some (Flow.next, (⟨tr_12 w.params, 472, tLife, Array.mk [], tDrawn, 844, os⟩ : SharedT), tCode, ⟨264, 0, 265, 76⟩) := fun w => by kernel_rfl
theorem pc_11 : ∀ w : World, (fun os : OsState => PySem.W.Fast.tw10110043849684766642 PySem.W.Fast.tw14364793385576792824 PySem.Challenge.pw_sz0088_01 w 11 (some (.ref 6)) 1 88 (⟨tr_12 w.params, 472, tLife, Array.mk [], tDrawn, 844, os⟩ : SharedT) (⟨(PySem.W.Fast.tw12563942051412417395 sts_11 tEnv).wrap doneF deadEnd id id, tCode, ⟨264, 0, 265, 76⟩, tB⟩ : Thread)) = fun os => some (Flow.next, (⟨tr_13 w.params, 491, tLife, Array.mk [], tDrawn, 867, os⟩ : SharedT), tCode, ⟨271, 0, 285, 49⟩) := fun w => by kernel_rfl
theorem pc_fin : ∀ w : World, (fun os : OsState => PySem.W.Fast.tw14082659384304107361 PySem.W.Fast.tw14364793385576792824 PySem.Challenge.pw_sz0088_01 w 11 (some (.ref 6)) 2 (⟨absHeap (tr_13 w.params) 491 tLife, Array.mk [], tDrawn, 867, os⟩ : Shared) (⟨doneF .next, tCode, ⟨271, 0, 285, 49⟩, tB⟩ : Thread)) = fun os => some (⟨absHeap (tr_13 w.params) 491 tLife, Array.mk [], tDrawn, 867, os⟩ : Shared) := fun w => by kernel_rfl
theorem run_ok (w : World) (os : OsState) : topRun treeTable PySem.Challenge.pw_sz0088_01 w 11 (some (.ref 6)) (12 + (1 + (238 + (427 + (436 + (248 + (247 + (248 + (251 + (251 + (445 + (447 + (433 + (88 + (2))))))))))))))) ⟨boot_heap w.params, Array.mk [], boot_drawn, boot_toks, os⟩ (topStub PySem.Challenge.pw_sz0088_01) = some ⟨absHeap (tr_13 w.params) 491 tLife, Array.mk [], tDrawn, 867, os⟩ := by
  have h := pc_fin w
  rewrite [← PySem.W.Fast.te14082659384304107361, ← PySem.W.Fast.te14364793385576792824] at h
  have k := piece_nil (env := tEnv) (congrFun h os)
  clear h
  have h := pc_11 w
  rewrite [← PySem.W.Fast.te10110043849684766642, ← PySem.W.Fast.te14364793385576792824, ← PySem.W.Fast.te12563942051412417395] at h
  replace k := piece_app (segRun_of (congrFun h os)) k
  clear h
  have h := pc_10 w
  rewrite [← PySem.W.Fast.te10110043849684766642, ← PySem.W.Fast.te14364793385576792824, ← PySem.W.Fast.te12563942051412417395] at h
  replace k := piece_app (segRun_of (congrFun h os)) k
  clear h
  have h := pc_9 w
  rewrite [← PySem.W.Fast.te10110043849684766642, ← PySem.W.Fast.te14364793385576792824, ← PySem.W.Fast.te12563942051412417395] at h
  replace k := piece_app (segRun_of (congrFun h os)) k
  clear h
  have h := pc_8 w
  rewrite [← PySem.W.Fast.te10110043849684766642, ← PySem.W.Fast.te14364793385576792824, ← PySem.W.Fast.te12563942051412417395] at h
  replace k := piece_app (segRun_of (congrFun h os)) k
  clear h
  have h := pc_7 w
  rewrite [← PySem.W.Fast.te10110043849684766642, ← PySem.W.Fast.te14364793385576792824, ← PySem.W.Fast.te12563942051412417395] at h
  replace k := piece_app (segRun_of (congrFun h os)) k
  clear h
  have h := pc_6 w
  rewrite [← PySem.W.Fast.te10110043849684766642, ← PySem.W.Fast.te14364793385576792824, ← PySem.W.Fast.te12563942051412417395] at h
  replace k := piece_app (segRun_of (congrFun h os)) k
  clear h
  have h := pc_5 w
  rewrite [← PySem.W.Fast.te10110043849684766642, ← PySem.W.Fast.te14364793385576792824, ← PySem.W.Fast.te12563942051412417395] at h
  replace k := piece_app (segRun_of (congrFun h os)) k
  clear h
  have h := pc_4 w
  rewrite [← PySem.W.Fast.te10110043849684766642, ← PySem.W.Fast.te14364793385576792824, ← PySem.W.Fast.te12563942051412417395] at h
  replace k := piece_app (segRun_of (congrFun h os)) k
  clear h
  have h := pc_3 w
  rewrite [← PySem.W.Fast.te10110043849684766642, ← PySem.W.Fast.te14364793385576792824, ← PySem.W.Fast.te12563942051412417395] at h
  replace k := piece_app (segRun_of (congrFun h os)) k
  clear h
  have h := pc_2 w
  rewrite [← PySem.W.Fast.te10110043849684766642, ← PySem.W.Fast.te14364793385576792824, ← PySem.W.Fast.te12563942051412417395] at h
  replace k := piece_app (segRun_of (congrFun h os)) k
  clear h
  have h := pc_1 w
  rewrite [← PySem.W.Fast.te10110043849684766642, ← PySem.W.Fast.te14364793385576792824, ← PySem.W.Fast.te12563942051412417395] at h
  replace k := piece_app (segRun_of (congrFun h os)) k
  clear h
  have h := pc_0 w
  rewrite [← PySem.W.Fast.te10110043849684766642, ← PySem.W.Fast.te14364793385576792824, ← PySem.W.Fast.te12563942051412417395] at h
  replace k := piece_app (segRun_of (congrFun h os)) k
  clear h
  rewrite [← sts_all] at k
  have h := pc_block w
  rewrite [← PySem.W.Fast.te10110043849684766642, ← PySem.W.Fast.te14364793385576792824, ← PySem.W.Fast.te1066825118222455980] at h
  replace k := piece_block (segRun_of (congrFun h os)) k
  clear h
  have h := pc_pre w
  rewrite [← PySem.W.Fast.te15667345088766844465, ← PySem.W.Fast.te14364793385576792824, ← PySem.W.Fast.te11892475500146522536] at h
  exact go_top (congrFun h os) k
noncomputable abbrev endHeap (P : Params) : Heap := absHeap (tr_13 P) 491 tLife
/-- what is looked at: the statics; the names, the defs, the classes; the objects -/
theorem look_a : ∀ w : World, (fun os : OsState => (staticsOk (importedModules PySem.Challenge.pw_sz0088_01.main.body) (boot_heap w.params) (endHeap w.params) && namesBound PySem.Challenge.pw_sz0088_01 (endHeap w.params) && gensDone (⟨endHeap w.params, Array.mk [], tDrawn, 867, os⟩ : Shared) && laidKept (boot_heap w.params) (endHeap w.params))) = fun _ => true := fun w => by kernel_rfl
def fstm {α β : Type} : α × β → α := fun x => match x with | (a, _) => a
def sndm {α β : Type} : α × β → β := fun x => match x with | (_, b) => b
theorem pair_eq {α β : Type} {x y : α × β} (h1 : x.1 = fstm y) (h2 : x.2 = sndm y) : x = y := by
  obtain ⟨a, b⟩ := x
  obtain ⟨c, d⟩ := y
  exact Prod.ext h1 h2
theorem look_b0 : ∀ w : World, (fun os : OsState => (PySem.W.Fast.tw4187177175401517315 hd.view_39 [Str.ofString "Limits"] (importedModules PySem.Challenge.pw_sz0088_01.main.body) (fun s => xlAt hd.view_39 [] s && recOk (RowW.records rr) s) true (⟨endHeap w.params, Array.mk [], tDrawn, 867, os⟩ : Shared)).1) = fun _ => fstm (openGood hd.view_39 [Str.ofString "Limits"]) := fun w => by kernel_rfl
theorem look_b1 : ∀ w : World, (fun os : OsState => (PySem.W.Fast.tw4187177175401517315 hd.view_39 [Str.ofString "Limits"] (importedModules PySem.Challenge.pw_sz0088_01.main.body) (fun s => xlAt hd.view_39 [] s && recOk (RowW.records rr) s) true (⟨endHeap w.params, Array.mk [], tDrawn, 867, os⟩ : Shared)).2.1) = fun _ => fstm (sndm (openGood hd.view_39 [Str.ofString "Limits"])) := fun w => by kernel_rfl
theorem look_b2 : ∀ w : World, (fun os : OsState => (PySem.W.Fast.tw4187177175401517315 hd.view_39 [Str.ofString "Limits"] (importedModules PySem.Challenge.pw_sz0088_01.main.body) (fun s => xlAt hd.view_39 [] s && recOk (RowW.records rr) s) true (⟨endHeap w.params, Array.mk [], tDrawn, 867, os⟩ : Shared)).2.2.1) = fun _ => fstm (sndm (sndm (openGood hd.view_39 [Str.ofString "Limits"]))) := fun w => by kernel_rfl
theorem look_b3 : ∀ w : World, (fun os : OsState => (PySem.W.Fast.tw4187177175401517315 hd.view_39 [Str.ofString "Limits"] (importedModules PySem.Challenge.pw_sz0088_01.main.body) (fun s => xlAt hd.view_39 [] s && recOk (RowW.records rr) s) true (⟨endHeap w.params, Array.mk [], tDrawn, 867, os⟩ : Shared)).2.2.2.1) = fun _ => fstm (sndm (sndm (sndm (openGood hd.view_39 [Str.ofString "Limits"])))) := fun w => by kernel_rfl
theorem look_b4 : ∀ w : World, (fun os : OsState => (PySem.W.Fast.tw4187177175401517315 hd.view_39 [Str.ofString "Limits"] (importedModules PySem.Challenge.pw_sz0088_01.main.body) (fun s => xlAt hd.view_39 [] s && recOk (RowW.records rr) s) true (⟨endHeap w.params, Array.mk [], tDrawn, 867, os⟩ : Shared)).2.2.2.2.1) = fun _ => fstm (sndm (sndm (sndm (sndm (openGood hd.view_39 [Str.ofString "Limits"]))))) := fun w => by kernel_rfl
theorem look_b5 : ∀ w : World, (fun os : OsState => (PySem.W.Fast.tw4187177175401517315 hd.view_39 [Str.ofString "Limits"] (importedModules PySem.Challenge.pw_sz0088_01.main.body) (fun s => xlAt hd.view_39 [] s && recOk (RowW.records rr) s) true (⟨endHeap w.params, Array.mk [], tDrawn, 867, os⟩ : Shared)).2.2.2.2.2.1) = fun _ => fstm (sndm (sndm (sndm (sndm (sndm (openGood hd.view_39 [Str.ofString "Limits"])))))) := fun w => by kernel_rfl
theorem look_b6 : ∀ w : World, (fun os : OsState => (PySem.W.Fast.tw4187177175401517315 hd.view_39 [Str.ofString "Limits"] (importedModules PySem.Challenge.pw_sz0088_01.main.body) (fun s => xlAt hd.view_39 [] s && recOk (RowW.records rr) s) true (⟨endHeap w.params, Array.mk [], tDrawn, 867, os⟩ : Shared)).2.2.2.2.2.2.1) = fun _ => fstm (sndm (sndm (sndm (sndm (sndm (sndm (openGood hd.view_39 [Str.ofString "Limits"]))))))) := fun w => by kernel_rfl
theorem look_b7 : ∀ w : World, (fun os : OsState => (PySem.W.Fast.tw4187177175401517315 hd.view_39 [Str.ofString "Limits"] (importedModules PySem.Challenge.pw_sz0088_01.main.body) (fun s => xlAt hd.view_39 [] s && recOk (RowW.records rr) s) true (⟨endHeap w.params, Array.mk [], tDrawn, 867, os⟩ : Shared)).2.2.2.2.2.2.2.1) = fun _ => fstm (sndm (sndm (sndm (sndm (sndm (sndm (sndm (openGood hd.view_39 [Str.ofString "Limits"])))))))) := fun w => by kernel_rfl
theorem look_b8 : ∀ w : World, (fun os : OsState => (PySem.W.Fast.tw4187177175401517315 hd.view_39 [Str.ofString "Limits"] (importedModules PySem.Challenge.pw_sz0088_01.main.body) (fun s => xlAt hd.view_39 [] s && recOk (RowW.records rr) s) true (⟨endHeap w.params, Array.mk [], tDrawn, 867, os⟩ : Shared)).2.2.2.2.2.2.2.2) = fun _ => sndm (sndm (sndm (sndm (sndm (sndm (sndm (sndm (openGood hd.view_39 [Str.ofString "Limits"])))))))) := fun w => by kernel_rfl
theorem look_b : ∀ (w : World) (os : OsState), PySem.W.Fast.tw4187177175401517315 hd.view_39 [Str.ofString "Limits"] (importedModules PySem.Challenge.pw_sz0088_01.main.body) (fun s => xlAt hd.view_39 [] s && recOk (RowW.records rr) s) true (⟨endHeap w.params, Array.mk [], tDrawn, 867, os⟩ : Shared) = openGood hd.view_39 [Str.ofString "Limits"] := fun w os =>
  pair_eq (congrFun (look_b0 w) os) (pair_eq (congrFun (look_b1 w) os) (pair_eq (congrFun (look_b2 w) os) (pair_eq (congrFun (look_b3 w) os) (pair_eq (congrFun (look_b4 w) os) (pair_eq (congrFun (look_b5 w) os) (pair_eq (congrFun (look_b6 w) os) (pair_eq (congrFun (look_b7 w) os) (congrFun (look_b8 w) os))))))))
theorem look_c : ∀ w : World, (fun os : OsState => (Hook.obs (kHook hd.heap_39 kas kas_ok)) (⟨endHeap w.params, Array.mk [], tDrawn, 867, os⟩ : Shared)) = fun _ => (Hook.val (kHook hd.heap_39 kas kas_ok)) w := fun w => by kernel_rfl
theorem size_ok : ∀ w : World, ((boot_heap w.params).isNs mainGlobals && (Array.mk [] : Array GenState).size == 0, (boot_heap w.params).objs.size, (boot_heap w.params).nsMap mainGlobals "__annotations__") = (true, 11, some (.ref 6)) := fun w => by kernel_rfl
theorem left_ok : LeftO PySem.Challenge.pw_sz0088_01 hd.view_39 [Str.ofString "Limits"] (fun s => xlAt hd.view_39 [] s && recOk (RowW.records rr) s) (Hook.obs (kHook hd.heap_39 kas kas_ok)) (Hook.val (kHook hd.heap_39 kas kas_ok)) 7620 := by
  refine LeftO.of_pieces (H₁ := endHeap) (boot_open (by kernel_rfl) (by decide) (fun s => by kernel_rfl)) size_ok run_ok (by decide) fun w => funext fun os => ?_
  refine Prod.ext (congrFun (look_a w) os) (Prod.ext ?_ (congrFun (look_c w) os))
  have h := look_b w os
  rewrite [← PySem.W.Fast.te4187177175401517315] at h
  exact h
/-- what a caller may rely on when it calls the def at f: from the ledger news it comes back with a value and a ledger -/
def Cl (w : World) (mean : ExcName → Option Value) (mg mb : Str → Option Value) (need : Nat) (f : Addr) (args : List Value) (news : List (Addr × Obj)) (Out : Value → List (Addr × Obj) → Prop) : Prop :=
  ∀ (dp un : Nat) (gd : Option (List Code)) (cn : Str) (cs : Scope) (a : Addr) (ccd : Value) (cl : List (Str × Addr)) (outer : List Env) (A₀ : Around) (base h₀ : Heap) (L : Addr) (m : Str → Option Value) (s : Shared) (Q E : Value → Shared → Prop),
    Below A₀ base outer h₀ → Fr h₀ L s.heap m → (hd.heap_39 w.params).In h₀ → News h₀ L s.heap news → Top hd.view_39 (looseW hd.view_39 [Str.ofString "Limits"]) mean mg mb h₀ → cs.kind = .function → dp + need < recursionLimit → un + 8 * need < cLine →
    (∀ r news' h' tk', Fr h₀ L h' m → News h₀ L h' news' → Out r news' → Q r { s with heap := h', toks := tk' }) →
    wpAny (model Challenge.rw_sz0088_01.row.prog w) (ktrTop dp un gd cn cs L a ccd cl outer) (call (.ref f) args) Q E s

section
variable {w : World} {mean : ExcName → Option Value} {mg mb : Str → Option Value} {need : Nat} {f : Addr} {args : List Value} {news : List (Addr × Obj)} {Out : Value → List (Addr × Obj) → Prop}
theorem cl_use {dp un : Nat} {gd : Option (List Code)} {cn : Str} {cs : Scope} {a : Addr} {ccd : Value} {cl : List (Str × Addr)} {outer : List Env} {A₀ : Around} {base h₀ : Heap} {L : Addr} {m : Str → Option Value} {s : Shared} {Q E : Value → Shared → Prop}
    (C : Cl w mean mg mb need f args news Out)
    (B : Below A₀ base outer h₀) (F : Fr h₀ L s.heap m) (X : (hd.heap_39 w.params).In h₀) (N : News h₀ L s.heap news) (T : Top hd.view_39 (looseW hd.view_39 [Str.ofString "Limits"]) mean mg mb h₀) (hk : cs.kind = .function) (hd : dp + need < recursionLimit) (hu : un + 8 * need < cLine)
    (ret : ∀ r news' h' tk', Fr h₀ L h' m → News h₀ L h' news' → Out r news' → Q r { s with heap := h', toks := tk' }) :
    wpAny (model Challenge.rw_sz0088_01.row.prog w) (ktrTop dp un gd cn cs L a ccd cl outer) (call (.ref f) args) Q E s :=
  C _ _ _ _ _ _ _ _ _ _ _ _ _ _ _ _ _ B F X N T hk hd hu ret

/-- an int comes back, the ledger as it was -/
def OutI (x : Int) (news : List (Addr × Obj)) (r : Value) (news' : List (Addr × Obj)) : Prop := news' = news ∧ ∃ tk, r = .int x tk
/-- a bool comes back -/
def OutB (x : Bool) (news : List (Addr × Obj)) (r : Value) (news' : List (Addr × Obj)) : Prop := news' = news ∧ r = .bool x
/-- a text comes back -/
def OutS (x : Str) (news : List (Addr × Obj)) (r : Value) (news' : List (Addr × Obj)) : Prop := news' = news ∧ ∃ tk, r = .str x tk
theorem end_int {h₀ h' : Heap} {L : Addr} {m : Str → Option Value} {s : Shared} {Q : Value → Shared → Prop} {news news' : List (Addr × Obj)} {x y : Int} {t : Tok} {tk' : Nat}
    (hret : ∀ r news' h' tk', Fr h₀ L h' m → News h₀ L h' news' → OutI x news r news' → Q r { s with heap := h', toks := tk' }) (e : y = x) (F : Fr h₀ L h' m) (N : News h₀ L h' news') (hs : ∀ p ∈ news, p ∈ news') : Q (.int y t) { s with heap := h', toks := tk' } := by
  subst e; exact hret _ _ _ _ F (fun p hp => N p (hs p hp)) ⟨rfl, _, rfl⟩
theorem end_str {h₀ h' : Heap} {L : Addr} {m : Str → Option Value} {s : Shared} {Q : Value → Shared → Prop} {news news' : List (Addr × Obj)} {x y : Str} {t : Tok} {tk' : Nat}
    (hret : ∀ r news' h' tk', Fr h₀ L h' m → News h₀ L h' news' → OutS x news r news' → Q r { s with heap := h', toks := tk' }) (e : y = x) (F : Fr h₀ L h' m) (N : News h₀ L h' news') (hs : ∀ p ∈ news, p ∈ news') : Q (.str y t) { s with heap := h', toks := tk' } := by
  subst e; exact hret _ _ _ _ F (fun p hp => N p (hs p hp)) ⟨rfl, _, rfl⟩
theorem end_bool {h₀ h' : Heap} {L : Addr} {m : Str → Option Value} {s : Shared} {Q : Value → Shared → Prop} {news news' : List (Addr × Obj)} {x y : Bool} {tk' : Nat}
    (hret : ∀ r news' h' tk', Fr h₀ L h' m → News h₀ L h' news' → OutB x news r news' → Q r { s with heap := h', toks := tk' }) (e : y = x) (F : Fr h₀ L h' m) (N : News h₀ L h' news') (hs : ∀ p ∈ news, p ∈ news') : Q (.bool y) { s with heap := h', toks := tk' } := by
  subst e; exact hret _ _ _ _ F (fun p hp => N p (hs p hp)) ⟨rfl, rfl⟩
end

-- part SzA
section
local macro_rules | `(tactic| k_room) => `(tactic| ((try simp only [depth_under_make, depth_under_kw, depth_in1, depth_deeper, depth_caller]); (try dsimp only [ktrTop]); omega))
local macro_rules | `(tactic| k_units) => `(tactic| ((try simp only [units_in1, units_deeper, Around.mark_units, units_caller]); (try dsimp only [ktrTop]); (have hcL9 := cLine_is); omega))
local macro_rules | `(tactic| walk_at "mine in") => `(tactic| (intro p9 m9; first | exact m9 | (repeat (first | exact m9 | refine List.Mem.tail _ ?_))))
local macro_rules | `(tactic| walk_at "eval Call") => `(tactic| (k_here; k_dflt (refine Call_ ?_)))
local macro_rules | `(tactic| walk_at "mine dec") => `(tactic| first | with_reducible assumption | decide | ((try simp only [decide_eq_true_eq, decide_eq_false_iff_not, beq_iff_eq, bne_iff_ne, ne_eq, Bool.not_eq_true, Bool.not_eq_false, beq_eq_false_iff_ne, bne_eq_false_iff_eq]); omega))
local macro_rules | `(tactic| walk_at "ite") => `(tactic| (k_here; k_dflt (first | (refine ite_pos (by walk_at "mine dec") ?_) | (refine ite_neg (by walk_at "mine dec") ?_))))
local macro_rules | `(tactic| k_mem) => `(tactic| first | with_reducible assumption | exact List.Mem.head _ | (refine' List.mem_cons_of_mem _ ?_; k_mem))
section
variable (w : World) (mean : ExcName → Option Value) (mg mb : Str → Option Value)
set_option maxHeartbeats 8000000
theorem wrap_ok (n : Int) (t t' : Tok) (news : List (Addr × Obj)) (h0 : 0 ≤ n) (h1 : n < 4611686018427387904) : Cl w mean mg mb 2 60 [.int n t, .int 64 t'] news (OutI n news) := by
  unfold Cl
  k_fill
  intro dp un gd cn cs a ccd cl outer A₀ base h₀ L m s Q E B F X N T hk hd hu hret
  refine wpAny_call ?_
  k_dflt cell_enter
  have e1 : n.fmod (1 * 2 ^ Int.toNat 64) = n := by
    show n.fmod 18446744073709551616 = n
    rw [Int.fmod_eq_emod_of_nonneg _ (by decide)]
    omega
  have e2 : n.fdiv (2 ^ (64 - 1 : Int).toNat) = 0 := by
    show n.fdiv 9223372036854775808 = 0
    rw [Int.fdiv_eq_ediv_of_nonneg _ (by decide)]
    omega
  k_steps
  all_goals (refine end_int hret ?_ (by k_asm) (by k_asm) (by walk_at "mine in"))
  all_goals ((simp only [e1, e2] at *; first | done | (exfalso; simp_all; done) | simp_all))
local macro_rules | `(tactic| walk_at "call ref") => `(tactic| (k_here; k_dflt (refine' cl_use (wrap_ok _ _ _ _ _ _ _ _ ?q1 ?q2) ?k1 ?k2 ?k3 ?k4 ?k5 ?kK ?kd ?ku ?_; (case k1 => k_asm); (case k2 => k_asm); (case k3 => k_asm); (case k4 => k_asm); (case k5 => k_asm); (case kK => first | exact rfl | assumption); (case q1 => first | assumption | omega | decide | (simp <;> omega)); (case q2 => first | assumption | omega | decide | (simp <;> omega)); (case kd => k_room); (case ku => k_units); (try k_sweep); intro r9 n9 h9 tk9 F9 N9 o9; (obtain ⟨e9, t9, q9⟩ := o9; subst e9; subst q9); (try k_sweep); (try dsimp only))))
theorem cut_ok (x y : Int) (t t' : Tok) (news : List (Addr × Obj)) (h0 : 0 ≤ x) (h1 : 0 < y) (h2 : x < 1000) (h3 : y < 1000) : Cl w mean mg mb 2 88 [.int x t, .int y t'] news (OutI (x / y) news) := by
  unfold Cl
  k_fill
  intro dp un gd cn cs a ccd cl outer A₀ base h₀ L m s Q E B F X N T hk hd hu hret
  refine wpAny_call ?_
  k_dflt cell_enter
  have e1 : ¬ x < 0 := by omega
  have e2 : ¬ y < 0 := by omega
  k_steps
  all_goals (refine end_int hret ?_ (by k_asm) (by k_asm) (by walk_at "mine in"))
  all_goals ((simp only [e1, e2, if_false, Int.fdiv_eq_ediv_of_nonneg _ (Int.le_of_lt h1)] at *; first | done | (exfalso; simp_all; done) | simp_all))
local macro_rules | `(tactic| walk_at "call ref") => `(tactic| (k_here; k_dflt (refine' cl_use (cut_ok _ _ _ _ _ _ _ _ _ ?q1 ?q2 ?q3 ?q4) ?k1 ?k2 ?k3 ?k4 ?k5 ?kK ?kd ?ku ?_; (case k1 => k_asm); (case k2 => k_asm); (case k3 => k_asm); (case k4 => k_asm); (case k5 => k_asm); (case kK => first | exact rfl | assumption); (case q1 => first | assumption | omega | decide | (simp <;> omega)); (case q2 => first | assumption | omega | decide | (simp <;> omega)); (case q3 => first | assumption | omega | decide | (simp <;> omega)); (case q4 => first | assumption | omega | decide | (simp <;> omega)); (case kd => k_room); (case ku => k_units); (try k_sweep); intro r9 n9 h9 tk9 F9 N9 o9; (obtain ⟨e9, t9, q9⟩ := o9; subst e9; subst q9); (try k_sweep); (try dsimp only))))
theorem div_ok (x y : Int) (t t' t'' : Tok) (news : List (Addr × Obj)) (h0 : 0 ≤ x) (h1 : 0 < y) (h2 : x < 1000) (h3 : y < 1000) : Cl w mean mg mb 4 95 [.int x t, .int y t', .int 64 t''] news (OutI (x / y) news) := by
  unfold Cl
  k_fill
  intro dp un gd cn cs a ccd cl outer A₀ base h₀ L m s Q E B F X N T hk hd hu hret
  refine wpAny_call ?_
  k_dflt cell_enter
  have e1 : 0 ≤ x / y := Int.ediv_nonneg h0 (Int.le_of_lt h1)
  have e2 : x / y ≤ x := Int.ediv_le_self _ h0
  have e3 : ¬ y = 0 := by omega
  k_steps
  all_goals (refine end_int hret ?_ (by k_asm) (by k_asm) (by walk_at "mine in"))
  all_goals ((first | rfl | (exfalso; simp_all; done) | simp_all))
local macro_rules | `(tactic| walk_at "call ref") => `(tactic| (k_here; k_dflt (refine' cl_use (div_ok _ _ _ _ _ _ _ _ _ _ ?q1 ?q2 ?q3 ?q4) ?k1 ?k2 ?k3 ?k4 ?k5 ?kK ?kd ?ku ?_; (case k1 => k_asm); (case k2 => k_asm); (case k3 => k_asm); (case k4 => k_asm); (case k5 => k_asm); (case kK => first | exact rfl | assumption); (case q1 => first | assumption | omega | decide | (simp <;> omega)); (case q2 => first | assumption | omega | decide | (simp <;> omega)); (case q3 => first | assumption | omega | decide | (simp <;> omega)); (case q4 => first | assumption | omega | decide | (simp <;> omega)); (case kd => k_room); (case ku => k_units); (try k_sweep); intro r9 n9 h9 tk9 F9 N9 o9; (obtain ⟨e9, t9, q9⟩ := o9; subst e9; subst q9); (try k_sweep); (try dsimp only))))
theorem mod_ok (x y : Int) (t t' t'' : Tok) (news : List (Addr × Obj)) (h0 : 0 ≤ x) (h1 : 0 < y) (h2 : x < 1000) (h3 : y < 1000) : Cl w mean mg mb 4 102 [.int x t, .int y t', .int 64 t''] news (OutI (x % y) news) := by
  unfold Cl
  k_fill
  intro dp un gd cn cs a ccd cl outer A₀ base h₀ L m s Q E B F X N T hk hd hu hret
  refine wpAny_call ?_
  k_dflt cell_enter
  have e3 : ¬ y = 0 := by omega
  have e5 : x - y * (x / y) = x % y := (Int.emod_def x y).symm
  have e6 : 0 ≤ x % y := Int.emod_nonneg _ e3
  have e7 : x % y < y := Int.emod_lt_of_pos _ h1
  have e8 : 0 ≤ x - y * (x / y) := by rw [e5]; exact e6
  have e9 : x - y * (x / y) < 1000 := by rw [e5]; omega
  k_steps
  all_goals (refine end_int hret ?_ (by k_asm) (by k_asm) (by walk_at "mine in"))
  all_goals ((first | rfl | exact e5))
local macro_rules | `(tactic| walk_at "call ref") => `(tactic| (k_here; k_dflt (refine' cl_use (mod_ok _ _ _ _ _ _ _ _ _ _ ?q1 ?q2 ?q3 ?q4) ?k1 ?k2 ?k3 ?k4 ?k5 ?kK ?kd ?ku ?_; (case k1 => k_asm); (case k2 => k_asm); (case k3 => k_asm); (case k4 => k_asm); (case k5 => k_asm); (case kK => first | exact rfl | assumption); (case q1 => first | assumption | omega | decide | (simp <;> omega)); (case q2 => first | assumption | omega | decide | (simp <;> omega)); (case q3 => first | assumption | omega | decide | (simp <;> omega)); (case q4 => first | assumption | omega | decide | (simp <;> omega)); (case kd => k_room); (case ku => k_units); (try k_sweep); intro r9 n9 h9 tk9 F9 N9 o9; (obtain ⟨e9, t9, q9⟩ := o9; subst e9; subst q9); (try k_sweep); (try dsimp only))))
theorem tonum_ok (x : Int) (t : Tok) (v : Value) (news : List (Addr × Obj)) : Cl w mean mg mb 2 310 [.int x t, v] news (OutI x news) := by
  unfold Cl
  k_fill
  intro dp un gd cn cs a ccd cl outer A₀ base h₀ L m s Q E B F X N T hk hd hu hret
  refine wpAny_call ?_
  k_dflt cell_enter
  k_steps
  all_goals (refine end_int hret ?_ (by k_asm) (by k_asm) (by walk_at "mine in"))
  all_goals ((first | rfl))
local macro_rules | `(tactic| walk_at "call ref") => `(tactic| (k_here; k_dflt (refine' cl_use (tonum_ok _ _ _ _ _ _ _ _) ?k1 ?k2 ?k3 ?k4 ?k5 ?kK ?kd ?ku ?_; (case k1 => k_asm); (case k2 => k_asm); (case k3 => k_asm); (case k4 => k_asm); (case k5 => k_asm); (case kK => first | exact rfl | assumption); (case kd => k_room); (case ku => k_units); (try k_sweep); intro r9 n9 h9 tk9 F9 N9 o9; (obtain ⟨e9, t9, q9⟩ := o9; subst e9; subst q9); (try k_sweep); (try dsimp only))))
theorem cmpnum_ok (x y : Int) (t t' : Tok) (v : Value) (news : List (Addr × Obj)) : Cl w mean mg mb 4 317 [.int x t, .int y t', v] news (OutI (if x < y then -1 else if x > y then 1 else 0) news) := by
  unfold Cl
  k_fill
  intro dp un gd cn cs a ccd cl outer A₀ base h₀ L m s Q E B F X N T hk hd hu hret
  refine wpAny_call ?_
  k_dflt cell_enter
  k_steps
  all_goals (refine end_int hret ?_ (by k_asm) (by k_asm) (by walk_at "mine in"))
  all_goals ((first | rfl | (simp_all; done) | ((repeat' split) <;> omega)))
local macro_rules | `(tactic| walk_at "call ref") => `(tactic| (k_here; k_dflt (refine' cl_use (cmpnum_ok _ _ _ _ _ _ _ _ _ _) ?k1 ?k2 ?k3 ?k4 ?k5 ?kK ?kd ?ku ?_; (case k1 => k_asm); (case k2 => k_asm); (case k3 => k_asm); (case k4 => k_asm); (case k5 => k_asm); (case kK => first | exact rfl | assumption); (case kd => k_room); (case ku => k_units); (try k_sweep); intro r9 n9 h9 tk9 F9 N9 o9; (obtain ⟨e9, t9, q9⟩ := o9; subst e9; subst q9); (try k_sweep); (try dsimp only))))
theorem figure_ok (n p : Int) (t t' : Tok) (news : List (Addr × Obj)) (h0 : 0 ≤ n) (h1 : n < 1000) (p0 : 0 ≤ p) (p1 : p ≤ 2) (y0 : 0 < (10 : Int) ^ p.toNat) (y1 : (10 : Int) ^ p.toNat < 1000) :
    Cl w mean mg mb 8 450 [.int n t, .int p t'] news (OutI (n / 10 ^ p.toNat % 10) news) := by
  unfold Cl
  k_fill
  intro dp un gd cn cs a ccd cl outer A₀ base h₀ L m s Q E B F X N T hk hd hu hret
  refine wpAny_call ?_
  k_dflt cell_enter
  have d0 : 0 ≤ n / (10 : Int) ^ p.toNat := Int.ediv_nonneg h0 (Int.le_of_lt y0)
  have d1 : n / (10 : Int) ^ p.toNat < 1000 := Int.lt_of_le_of_lt (Int.ediv_le_self _ h0) h1
  k_steps
  all_goals (refine end_int hret ?_ (by k_asm) (by k_asm) (by walk_at "mine in"))
  all_goals ((first | rfl | (simp; done)))
theorem figure0 (n : Int) (t t' : Tok) (news : List (Addr × Obj)) (h0 : 0 ≤ n) (h1 : n < 1000) :
    Cl w mean mg mb 8 450 [.int n t, .int 0 t'] news (OutI (n % 10) news) := by
  have e : n % 10 = n / (10 : Int) ^ (0 : Int).toNat % 10 := by
    show n % 10 = n / 1 % 10
    rw [Int.ediv_one]
  rw [e]
  exact figure_ok w mean mg mb n 0 t t' news h0 h1 (by decide) (by decide) (by decide) (by decide)
theorem figure1 (n : Int) (t t' : Tok) (news : List (Addr × Obj)) (h0 : 0 ≤ n) (h1 : n < 1000) :
    Cl w mean mg mb 8 450 [.int n t, .int 1 t'] news (OutI (n / 10 % 10) news) :=
  figure_ok w mean mg mb n 1 t t' news h0 h1 (by decide) (by decide) (by decide) (by decide)
theorem figure2 (n : Int) (t t' : Tok) (news : List (Addr × Obj)) (h0 : 0 ≤ n) (h1 : n < 1000) :
    Cl w mean mg mb 8 450 [.int n t, .int 2 t'] news (OutI (n / 100 % 10) news) :=
  figure_ok w mean mg mb n 2 t t' news h0 h1 (by decide) (by decide) (by decide) (by decide)
end

end

-- part SzB
section
local macro_rules | `(tactic| k_room) => `(tactic| ((try simp only [depth_under_make, depth_under_kw, depth_in1, depth_deeper, depth_caller]); (try dsimp only [ktrTop]); omega))
local macro_rules | `(tactic| k_units) => `(tactic| ((try simp only [units_in1, units_deeper, Around.mark_units, units_caller]); (try dsimp only [ktrTop]); (have hcL9 := cLine_is); omega))
local macro_rules | `(tactic| walk_at "mine in") => `(tactic| (intro p9 m9; first | exact m9 | (repeat (first | exact m9 | refine List.Mem.tail _ ?_))))
local macro_rules | `(tactic| walk_at "eval Call") => `(tactic| (k_here; k_dflt (refine Call_ ?_)))
local macro_rules | `(tactic| walk_at "mine dec") => `(tactic| first | with_reducible assumption | decide | ((try simp only [decide_eq_true_eq, decide_eq_false_iff_not, beq_iff_eq, bne_iff_ne, ne_eq, Bool.not_eq_true, Bool.not_eq_false, beq_eq_false_iff_ne, bne_eq_false_iff_eq]); omega))
local macro_rules | `(tactic| walk_at "ite") => `(tactic| (k_here; k_dflt (first | (refine ite_pos (by walk_at "mine dec") ?_) | (refine ite_neg (by walk_at "mine dec") ?_))))
local macro_rules | `(tactic| k_mem) => `(tactic| first | with_reducible assumption | exact List.Mem.head _ | (refine' List.mem_cons_of_mem _ ?_; k_mem))
local macro_rules | `(tactic| walk_at "call ref") => `(tactic| (k_here; k_dflt (refine' cl_use (figure0 _ _ _ _ _ _ _ _ ?q1 ?q2) ?k1 ?k2 ?k3 ?k4 ?k5 ?kK ?kd ?ku ?_; (case k1 => k_asm); (case k2 => k_asm); (case k3 => k_asm); (case k4 => k_asm); (case k5 => k_asm); (case kK => first | exact rfl | assumption); (case q1 => first | assumption | omega | decide | (simp <;> omega)); (case q2 => first | assumption | omega | decide | (simp <;> omega)); (case kd => k_room); (case ku => k_units); (try k_sweep); intro r9 n9 h9 tk9 F9 N9 o9; (obtain ⟨e9, t9, q9⟩ := o9; subst e9; subst q9); (try k_sweep); (try dsimp only))))
local macro_rules | `(tactic| walk_at "call ref") => `(tactic| (k_here; k_dflt (refine' cl_use (figure1 _ _ _ _ _ _ _ _ ?q1 ?q2) ?k1 ?k2 ?k3 ?k4 ?k5 ?kK ?kd ?ku ?_; (case k1 => k_asm); (case k2 => k_asm); (case k3 => k_asm); (case k4 => k_asm); (case k5 => k_asm); (case kK => first | exact rfl | assumption); (case q1 => first | assumption | omega | decide | (simp <;> omega)); (case q2 => first | assumption | omega | decide | (simp <;> omega)); (case kd => k_room); (case ku => k_units); (try k_sweep); intro r9 n9 h9 tk9 F9 N9 o9; (obtain ⟨e9, t9, q9⟩ := o9; subst e9; subst q9); (try k_sweep); (try dsimp only))))
local macro_rules | `(tactic| walk_at "call ref") => `(tactic| (k_here; k_dflt (refine' cl_use (figure2 _ _ _ _ _ _ _ _ ?q1 ?q2) ?k1 ?k2 ?k3 ?k4 ?k5 ?kK ?kd ?ku ?_; (case k1 => k_asm); (case k2 => k_asm); (case k3 => k_asm); (case k4 => k_asm); (case k5 => k_asm); (case kK => first | exact rfl | assumption); (case q1 => first | assumption | omega | decide | (simp <;> omega)); (case q2 => first | assumption | omega | decide | (simp <;> omega)); (case kd => k_room); (case ku => k_units); (try k_sweep); intro r9 n9 h9 tk9 F9 N9 o9; (obtain ⟨e9, t9, q9⟩ := o9; subst e9; subst q9); (try k_sweep); (try dsimp only))))
local macro_rules | `(tactic| walk_at "call ref") => `(tactic| (k_here; k_dflt (refine' cl_use (cmpnum_ok _ _ _ _ _ _ _ _ _ _) ?k1 ?k2 ?k3 ?k4 ?k5 ?kK ?kd ?ku ?_; (case k1 => k_asm); (case k2 => k_asm); (case k3 => k_asm); (case k4 => k_asm); (case k5 => k_asm); (case kK => first | exact rfl | assumption); (case kd => k_room); (case ku => k_units); (try k_sweep); intro r9 n9 h9 tk9 F9 N9 o9; (obtain ⟨e9, t9, q9⟩ := o9; subst e9; subst q9); (try k_sweep); (try dsimp only))))

/-- three ways: less, alike, more -/
def cmpI (a b : Int) : Int := if a < b then -1 else if a > b then 1 else 0
/-- v is a member: the ledger bears the tuple (num v, turn v) at it -/
def IsMem (num turn : Value → Int) (news : List (Addr × Obj)) (v : Value) : Prop :=
  ∃ (a : Addr) (t t' : Tok) (k : Nat), v = .ref a ∧ (a, ({ cls := .type "tuple", data := .seq #[.int (num v) t, .int (turn v) t'] k } : Obj)) ∈ news ∧ 0 ≤ num v ∧ num v < 1000
theorem IsMem.mono {num turn : Value → Int} {news news' : List (Addr × Obj)} {v : Value} (h : IsMem num turn news v) (hs : ∀ p ∈ news, p ∈ news') : IsMem num turn news' v := by
  obtain ⟨a, t, t', k, e, hm, h0, h1⟩ := h
  exact ⟨a, t, t', k, e, hs _ hm, h0, h1⟩
set_option maxHeartbeats 8000000
theorem digits_three : ∀ k : Fin 1000, (Nat.toDigits 10 k.val).map Char.toNat = if k.val < 10 then [48 + k.val] else if k.val < 100 then [48 + k.val / 10, 48 + k.val % 10] else [48 + k.val / 100, 48 + k.val / 10 % 10, 48 + k.val % 10] := by decide +kernel
theorem slice_one (x : Nat) : (Txt.slice (Str.mk (Array.mk [48, 48, x])) (some (-3)) none).cps.toList = [48, 48, x] := by kernel_rfl
theorem slice_two (x y : Nat) : (Txt.slice (Str.mk (Array.mk [48, 48, x, y])) (some (-3)) none).cps.toList = [48, x, y] := by kernel_rfl
theorem slice_all (x y z : Nat) : (Txt.slice (Str.mk (Array.mk [48, 48, x, y, z])) (some (-3)) none).cps.toList = [x, y, z] := by kernel_rfl
theorem text_three (k : Fin 1000) : (Txt.slice (Str.ofString "00" ++ Str.ofString (toString (Int.ofNat k.val))) (some (-3)) none).cps.toList = [48 + k.val / 100, 48 + k.val / 10 % 10, 48 + k.val % 10] := by
  have e : Str.ofString (toString (Int.ofNat k.val)) = Str.mk (Array.mk ((Nat.toDigits 10 k.val).map Char.toNat)) := by
    show Str.ofString (String.ofList (Nat.toDigits 10 k.val)) = _
    rw [PySem.W.Fast.ofString_ofList]
  have e0 : Str.ofString "00" = Str.mk (Array.mk [48, 48]) := by decide +kernel
  have e1 : ∀ l : List Nat, Str.mk (Array.mk [48, 48]) ++ Str.mk (Array.mk l) = Str.mk (Array.mk (48 :: 48 :: l)) := fun l => by
    show Str.mk (Array.mk [48, 48] ++ Array.mk l) = _
    simp
  have h := k.isLt
  rw [e, e0, e1, digits_three]
  split
  · rw [slice_one]
    rw [show k.val / 100 = 0 by omega, show k.val / 10 % 10 = 0 by omega, show k.val % 10 = k.val by omega]
  · split
    · rw [slice_two]
      rw [show k.val / 100 = 0 by omega, show k.val / 10 % 10 = k.val / 10 by omega]
    · rw [slice_all]
/-- a number below a thousand, written with noughts ahead and cut to three figures -/
def txt3 (n : Int) : Str := Txt.slice (Str.ofString "00" ++ Str.ofString (toString n)) (some (-3)) none
theorem txt3_lt {n m : Int} (h0 : 0 ≤ n) (h1 : n < 1000) (g0 : 0 ≤ m) (g1 : m < 1000) : ((txt3 n).cps.toList < (txt3 m).cps.toList) ↔ n < m := by
  obtain ⟨k, rfl⟩ := Int.eq_ofNat_of_zero_le h0
  obtain ⟨j, rfl⟩ := Int.eq_ofNat_of_zero_le g0
  have e1 := text_three ⟨k, by omega⟩
  have e2 := text_three ⟨j, by omega⟩
  have f1 : (txt3 (k : Int)).cps.toList = [48 + k / 100, 48 + k / 10 % 10, 48 + k % 10] := e1
  have f2 : (txt3 (j : Int)).cps.toList = [48 + j / 100, 48 + j / 10 % 10, 48 + j % 10] := e2
  rw [f1, f2]
  simp only [List.cons_lt_cons_iff, List.lt_irrefl, and_false, or_false]
  omega
section
variable (w : World) (mean : ExcName → Option Value) (mg mb : Str → Option Value)
set_option maxHeartbeats 8000000
theorem last_ok (num turn : Value → Int) (x y : Value) (news : List (Addr × Obj)) (hx : IsMem num turn news x) (hy : IsMem num turn news y) :
    Cl w mean mg mb 12 457 [x, y] news (OutI (cmpI (num x % 10) (num y % 10)) news) := by
  obtain ⟨a1, t1, t1', k1, e1, m1, l1, u1⟩ := hx
  obtain ⟨a2, t2, t2', k2, e2, m2, l2, u2⟩ := hy
  generalize num x = n1 at *
  generalize num y = n2 at *
  generalize turn x = i1 at *
  generalize turn y = i2 at *
  subst e1 e2
  unfold Cl
  k_fill
  intro dp un gd cn cs a ccd cl outer A₀ base h₀ L m s Q E B F X N T hk hd hu hret
  refine wpAny_call ?_
  k_dflt cell_enter
  k_steps
  all_goals (refine end_int hret ?_ (by k_asm) (by k_asm) (by walk_at "mine in"))
  all_goals ((first | rfl | (simp; done)))
theorem next_ok (num turn : Value → Int) (x y : Value) (news : List (Addr × Obj)) (hx : IsMem num turn news x) (hy : IsMem num turn news y) :
    Cl w mean mg mb 12 464 [x, y] news (OutI (cmpI (num x / 10 % 10) (num y / 10 % 10)) news) := by
  obtain ⟨a1, t1, t1', k1, e1, m1, l1, u1⟩ := hx
  obtain ⟨a2, t2, t2', k2, e2, m2, l2, u2⟩ := hy
  generalize num x = n1 at *
  generalize num y = n2 at *
  generalize turn x = i1 at *
  generalize turn y = i2 at *
  subst e1 e2
  unfold Cl
  k_fill
  intro dp un gd cn cs a ccd cl outer A₀ base h₀ L m s Q E B F X N T hk hd hu hret
  refine wpAny_call ?_
  k_dflt cell_enter
  k_steps
  all_goals (refine end_int hret ?_ (by k_asm) (by k_asm) (by walk_at "mine in"))
  all_goals ((first | rfl | (simp; done)))
theorem first_ok (num turn : Value → Int) (x y : Value) (news : List (Addr × Obj)) (hx : IsMem num turn news x) (hy : IsMem num turn news y) :
    Cl w mean mg mb 12 471 [x, y] news (OutI (cmpI (num x / 100 % 10) (num y / 100 % 10)) news) := by
  obtain ⟨a1, t1, t1', k1, e1, m1, l1, u1⟩ := hx
  obtain ⟨a2, t2, t2', k2, e2, m2, l2, u2⟩ := hy
  generalize num x = n1 at *
  generalize num y = n2 at *
  generalize turn x = i1 at *
  generalize turn y = i2 at *
  subst e1 e2
  unfold Cl
  k_fill
  intro dp un gd cn cs a ccd cl outer A₀ base h₀ L m s Q E B F X N T hk hd hu hret
  refine wpAny_call ?_
  k_dflt cell_enter
  k_steps
  all_goals (refine end_int hret ?_ (by k_asm) (by k_asm) (by walk_at "mine in"))
  all_goals ((first | rfl | (simp; done)))

local macro_rules | `(tactic| walk_at "call ref") => `(tactic| (k_here; k_dflt (refine' cl_use (last_ok _ _ _ _ _ _ _ _ _ ?q1 ?q2) ?k1 ?k2 ?k3 ?k4 ?k5 ?kK ?kd ?ku ?_; (case k1 => k_asm); (case k2 => k_asm); (case k3 => k_asm); (case k4 => k_asm); (case k5 => k_asm); (case kK => first | exact rfl | assumption); (case q1 => first | assumption | omega | decide | (simp <;> omega)); (case q2 => first | assumption | omega | decide | (simp <;> omega)); (case kd => k_room); (case ku => k_units); (try k_sweep); intro r9 n9 h9 tk9 F9 N9 o9; (obtain ⟨e9, t9, q9⟩ := o9; subst e9; subst q9); (try k_sweep); (try dsimp only))))
local macro_rules | `(tactic| walk_at "call ref") => `(tactic| (k_here; k_dflt (refine' cl_use (next_ok _ _ _ _ _ _ _ _ _ ?q1 ?q2) ?k1 ?k2 ?k3 ?k4 ?k5 ?kK ?kd ?ku ?_; (case k1 => k_asm); (case k2 => k_asm); (case k3 => k_asm); (case k4 => k_asm); (case k5 => k_asm); (case kK => first | exact rfl | assumption); (case q1 => first | assumption | omega | decide | (simp <;> omega)); (case q2 => first | assumption | omega | decide | (simp <;> omega)); (case kd => k_room); (case ku => k_units); (try k_sweep); intro r9 n9 h9 tk9 F9 N9 o9; (obtain ⟨e9, t9, q9⟩ := o9; subst e9; subst q9); (try k_sweep); (try dsimp only))))
theorem two_ok (num turn : Value → Int) (x y : Value) (news : List (Addr × Obj)) (hx : IsMem num turn news x) (hy : IsMem num turn news y) :
    Cl w mean mg mb 14 478 [x, y] news (OutI (if cmpI (num x / 10 % 10) (num y / 10 % 10) = 0 then cmpI (num x % 10) (num y % 10) else cmpI (num x / 10 % 10) (num y / 10 % 10)) news) := by
  unfold Cl
  k_fill
  intro dp un gd cn cs a ccd cl outer A₀ base h₀ L m s Q E B F X N T hk hd hu hret
  refine wpAny_call ?_
  k_dflt cell_enter
  k_steps
  all_goals (refine end_int hret ?_ (by k_asm) (by k_asm) (by walk_at "mine in"))
  all_goals ((first | rfl | (simp_all; done)))
theorem texts_ok (num turn : Value → Int) (x y : Value) (news : List (Addr × Obj)) (hx : IsMem num turn news x) (hy : IsMem num turn news y) :
    Cl w mean mg mb 12 485 [x, y] news (OutI (cmpI (num x) (num y)) news) := by
  obtain ⟨a1, t1, t1', k1, e1, m1, l1, u1⟩ := hx
  obtain ⟨a2, t2, t2', k2, e2, m2, l2, u2⟩ := hy
  generalize num x = n1 at *
  generalize num y = n2 at *
  generalize turn x = i1 at *
  generalize turn y = i2 at *
  subst e1 e2
  unfold Cl
  k_fill
  intro dp un gd cn cs a ccd cl outer A₀ base h₀ L m s Q E B F X N T hk hd hu hret
  refine wpAny_call ?_
  k_dflt cell_enter
  have q1 := txt3_lt l1 u1 l2 u2
  have q2 := txt3_lt l2 u2 l1 u1
  unfold txt3 at q1 q2
  k_steps
  all_goals (refine end_int hret ?_ (by k_asm) (by k_asm) (by walk_at "mine in"))
  all_goals ((unfold cmpI; simp only [q1, q2] at *; (repeat' split) <;> first | rfl | omega))
end

end

-- part SzC
section
local macro_rules | `(tactic| k_room) => `(tactic| ((try simp only [depth_under_make, depth_under_kw, depth_in1, depth_deeper, depth_caller]); (try dsimp only [ktrTop]); omega))
local macro_rules | `(tactic| k_units) => `(tactic| ((try simp only [units_in1, units_deeper, Around.mark_units, units_caller]); (try dsimp only [ktrTop]); (have hcL9 := cLine_is); omega))
local macro_rules | `(tactic| walk_at "mine in") => `(tactic| (intro p9 m9; first | exact m9 | (repeat (first | exact m9 | refine List.Mem.tail _ ?_))))
local macro_rules | `(tactic| walk_at "eval Call") => `(tactic| (k_here; k_dflt (refine Call_ ?_)))
local macro_rules | `(tactic| walk_at "mine dec") => `(tactic| first | with_reducible assumption | decide | ((try simp only [decide_eq_true_eq, decide_eq_false_iff_not, beq_iff_eq, bne_iff_ne, ne_eq, Bool.not_eq_true, Bool.not_eq_false, beq_eq_false_iff_ne, bne_eq_false_iff_eq]); omega))
local macro_rules | `(tactic| walk_at "ite") => `(tactic| (k_here; k_dflt (first | (refine ite_pos (by walk_at "mine dec") ?_) | (refine ite_neg (by walk_at "mine dec") ?_))))
local macro_rules | `(tactic| k_mem) => `(tactic| first | with_reducible assumption | exact List.Mem.head _ | (refine' List.mem_cons_of_mem _ ?_; k_mem))
local macro_rules | `(tactic| walk_at "call ref") => `(tactic| (k_here; k_dflt (refine' cl_use (figure0 _ _ _ _ _ _ _ _ ?q1 ?q2) ?k1 ?k2 ?k3 ?k4 ?k5 ?kK ?kd ?ku ?_; (case k1 => k_asm); (case k2 => k_asm); (case k3 => k_asm); (case k4 => k_asm); (case k5 => k_asm); (case kK => first | exact rfl | assumption); (case q1 => first | assumption | omega | decide | (simp <;> omega)); (case q2 => first | assumption | omega | decide | (simp <;> omega)); (case kd => k_room); (case ku => k_units); (try k_sweep); intro r9 n9 h9 tk9 F9 N9 o9; (obtain ⟨e9, t9, q9⟩ := o9; subst e9; subst q9); (try k_sweep); (try dsimp only))))
local macro_rules | `(tactic| walk_at "call ref") => `(tactic| (k_here; k_dflt (refine' cl_use (figure1 _ _ _ _ _ _ _ _ ?q1 ?q2) ?k1 ?k2 ?k3 ?k4 ?k5 ?kK ?kd ?ku ?_; (case k1 => k_asm); (case k2 => k_asm); (case k3 => k_asm); (case k4 => k_asm); (case k5 => k_asm); (case kK => first | exact rfl | assumption); (case q1 => first | assumption | omega | decide | (simp <;> omega)); (case q2 => first | assumption | omega | decide | (simp <;> omega)); (case kd => k_room); (case ku => k_units); (try k_sweep); intro r9 n9 h9 tk9 F9 N9 o9; (obtain ⟨e9, t9, q9⟩ := o9; subst e9; subst q9); (try k_sweep); (try dsimp only))))
local macro_rules | `(tactic| walk_at "call ref") => `(tactic| (k_here; k_dflt (refine' cl_use (figure2 _ _ _ _ _ _ _ _ ?q1 ?q2) ?k1 ?k2 ?k3 ?k4 ?k5 ?kK ?kd ?ku ?_; (case k1 => k_asm); (case k2 => k_asm); (case k3 => k_asm); (case k4 => k_asm); (case k5 => k_asm); (case kK => first | exact rfl | assumption); (case q1 => first | assumption | omega | decide | (simp <;> omega)); (case q2 => first | assumption | omega | decide | (simp <;> omega)); (case kd => k_room); (case ku => k_units); (try k_sweep); intro r9 n9 h9 tk9 F9 N9 o9; (obtain ⟨e9, t9, q9⟩ := o9; subst e9; subst q9); (try k_sweep); (try dsimp only))))
local macro_rules | `(tactic| walk_at "call ref") => `(tactic| (k_here; k_dflt (refine' cl_use (cmpnum_ok _ _ _ _ _ _ _ _ _ _) ?k1 ?k2 ?k3 ?k4 ?k5 ?kK ?kd ?ku ?_; (case k1 => k_asm); (case k2 => k_asm); (case k3 => k_asm); (case k4 => k_asm); (case k5 => k_asm); (case kK => first | exact rfl | assumption); (case kd => k_room); (case ku => k_units); (try k_sweep); intro r9 n9 h9 tk9 F9 N9 o9; (obtain ⟨e9, t9, q9⟩ := o9; subst e9; subst q9); (try k_sweep); (try dsimp only))))


def figT : Str := Str.ofString "0123456789"
/-- the figures of a number of three, as number_text builds them -/
def numT (n : Int) : Str := Txt.item figT ((n.fdiv 10).fdiv 10 |>.fmod 10) ++ (Txt.item figT ((n.fdiv 10).fmod 10) ++ Txt.item figT (n.fmod 10))
set_option maxHeartbeats 8000000
theorem fig_one : ∀ k : Fin 10, Txt.item figT (Int.ofNat k.val) = Str.mk (Array.mk [48 + k.val]) := by decide +kernel
theorem numT_three (k : Fin 1000) : (numT (Int.ofNat k.val)).cps.toList = [48 + k.val / 100, 48 + k.val / 10 % 10, 48 + k.val % 10] := by
  have h := k.isLt
  have f (j : Nat) (hj : j < 10) : Txt.item figT (j : Int) = Str.mk (Array.mk [48 + j]) := fig_one ⟨j, hj⟩
  have a1 : (Int.ofNat k.val).fdiv 10 = ((k.val / 10 : Nat) : Int) := by
    rw [Int.fdiv_eq_ediv_of_nonneg _ (by decide)]; rfl
  have a2 : ((k.val / 10 : Nat) : Int).fdiv 10 = ((k.val / 100 : Nat) : Int) := by
    rw [Int.fdiv_eq_ediv_of_nonneg _ (by decide)]; omega
  have b0 : (Int.ofNat k.val).fmod 10 = ((k.val % 10 : Nat) : Int) := by
    rw [Int.fmod_eq_emod_of_nonneg _ (by decide)]; rfl
  have b1 : ((k.val / 10 : Nat) : Int).fmod 10 = ((k.val / 10 % 10 : Nat) : Int) := by
    rw [Int.fmod_eq_emod_of_nonneg _ (by decide)]; rfl
  have b2 : ((k.val / 100 : Nat) : Int).fmod 10 = ((k.val / 100 : Nat) : Int) := by
    rw [Int.fmod_eq_emod_of_nonneg _ (by decide)]; omega
  unfold numT
  rw [a1, a2, b0, b1, b2, f _ (by omega), f _ (by omega), f _ (by omega)]
  rfl
theorem numT_lt {n m : Int} (h0 : 99 < n) (h1 : n < 1000) (g0 : 99 < m) (g1 : m < 1000) : ((numT n).cps.toList < (numT m).cps.toList) ↔ n < m := by
  obtain ⟨k, rfl⟩ := Int.eq_ofNat_of_zero_le (show 0 ≤ n by omega)
  obtain ⟨j, rfl⟩ := Int.eq_ofNat_of_zero_le (show 0 ≤ m by omega)
  have f1 : (numT (k : Int)).cps.toList = [48 + k / 100, 48 + k / 10 % 10, 48 + k % 10] := numT_three ⟨k, by omega⟩
  have f2 : (numT (j : Int)).cps.toList = [48 + j / 100, 48 + j / 10 % 10, 48 + j % 10] := numT_three ⟨j, by omega⟩
  rw [f1, f2]
  simp only [List.cons_lt_cons_iff, List.lt_irrefl, and_false, or_false]
  omega
section
variable {prog : Program} {w : World} {A : Around} {E : Value → Shared → Prop} {s : Shared} {h₀ : Heap} {L : Addr} {env : Env} {news : List (Addr × Obj)} {mB : Str → Option Value}
def nMap (mB : Str → Option Value) (u : Str) (t1 : Tok) (n : Int) (t2 : Tok) : Str → Option Value := fun y => if y = Str.ofString "text" then some (.str u t1) else if y = Str.ofString "n" then some (.int n t2) else mB y
def NStep (h₀ : Heap) (L : Addr) (s : Shared) (news : List (Addr × Obj)) (mB : Str → Option Value) (u : Str) (n : Int) (f : Flow) (s₃ : Shared) : Prop :=
  f = .next ∧ ∃ h' tk' t1 t2, s₃ = { s with heap := h', toks := tk' } ∧ Fr h₀ L h' (nMap mB u t1 n t2) ∧ News h₀ L h' news
theorem while_num {test : Expr} {body : List Stmt} {pos : Pos} {Q : Flow → Shared → Prop} {n0 n1 n2 : Int} {u0 u1 u2 : Str} {t0 t3 : Tok}
    (F : Fr h₀ L s.heap (fun y => if y = Str.ofString "text" then some (.str u0 t0) else mB y)) (N : News h₀ L s.heap news) (hn : mB (Str.ofString "n") = some (.int n0 t3))
    (turn0 : ∀ t1 t2 h tk, Fr h₀ L h (fun y => if y = Str.ofString "text" then some (.str u0 t1) else if y = Str.ofString "n" then some (.int n0 t2) else mB y) → News h₀ L h news →
      wpAny (model prog w) A (isTrue test env (eval test env)) (fun b s₂ => if b = true then wpAny (model prog w) A (execs body env) (NStep h₀ L s news mB u1 n1) E s₂ else Q .next s₂) E { s with heap := h, toks := tk })
    (turn1 : ∀ t1 t2 h tk, Fr h₀ L h (fun y => if y = Str.ofString "text" then some (.str u1 t1) else if y = Str.ofString "n" then some (.int n1 t2) else mB y) → News h₀ L h news →
      wpAny (model prog w) A (isTrue test env (eval test env)) (fun b s₂ => if b = true then wpAny (model prog w) A (execs body env) (NStep h₀ L s news mB u2 n2) E s₂ else Q .next s₂) E { s with heap := h, toks := tk })
    (turn2 : ∀ t1 t2 h tk, Fr h₀ L h (fun y => if y = Str.ofString "text" then some (.str u2 t1) else if y = Str.ofString "n" then some (.int n2 t2) else mB y) → News h₀ L h news →
      wpAny (model prog w) A (isTrue test env (eval test env)) (fun b s₂ => if b = true then wpAny (model prog w) A (execs body env) (fun _ _ => False) E s₂ else Q .next s₂) E { s with heap := h, toks := tk })
    (hE : PassesOwn (model prog w) A env E := by passes_own) :
    wpAny (model prog w) A (exec (.While test body [] pos) env) Q E s := by
  have e0 : (fun y => if y = Str.ofString "text" then some (Value.str u0 t0) else mB y) = nMap mB u0 t0 n0 t3 := by
    funext y
    unfold nMap
    by_cases h1 : y = Str.ofString "text"
    · rw [if_pos h1, if_pos h1]
    · by_cases h2 : y = Str.ofString "n"
      · rw [if_neg h1, if_neg h1, if_pos h2, h2, hn]
      · rw [if_neg h1, if_neg h1, if_neg h2]
  rw [e0] at F
  refine While_inv2 (fun k m led => led = news ∧ ∃ t1 t2, (k = 2 ∧ m = nMap mB u0 t1 n0 t2) ∨ (k = 1 ∧ m = nMap mB u1 t1 n1 t2) ∨ (k = 0 ∧ m = nMap mB u2 t1 n2 t2)) (n₀ := 2) F N ⟨rfl, _, _, .inl ⟨rfl, rfl⟩⟩ ?_ hE
  rintro k m₁ led h tk F₁ N₁ ⟨rfl, t1, t2, hk⟩
  have fin : ∀ {k' : Nat} {u : Str} {n : Int} {f : Flow} {s₃ : Shared}, k' < k → (∀ t1 t2, (k' = 2 ∧ nMap mB u t1 n t2 = nMap mB u0 t1 n0 t2) ∨ (k' = 1 ∧ nMap mB u t1 n t2 = nMap mB u1 t1 n1 t2) ∨ (k' = 0 ∧ nMap mB u t1 n t2 = nMap mB u2 t1 n2 t2)) → NStep h₀ L s led mB u n f s₃ →
      WhileStep2 h₀ L s (fun k m led' => led' = led ∧ ∃ t1 t2, (k = 2 ∧ m = nMap mB u0 t1 n0 t2) ∨ (k = 1 ∧ m = nMap mB u1 t1 n1 t2) ∨ (k = 0 ∧ m = nMap mB u2 t1 n2 t2)) Q k f s₃ := by
    rintro k' u n f s₃ hlt hm ⟨rfl, h', tk', t1', t2', rfl, F', N'⟩
    exact ⟨h', tk', _, led, k', rfl, F', N', hlt, rfl, t1', t2', hm t1' t2'⟩
  rcases hk with ⟨rfl, rfl⟩ | ⟨rfl, rfl⟩ | ⟨rfl, rfl⟩
  · refine wpAny_mono (turn0 t1 t2 h tk F₁ N₁) (fun b s₂ hb => ?_) fun _ _ x => x
    cases b with
    | false => simpa using hb
    | true =>
      simp only [if_true] at hb ⊢
      exact wpAny_mono hb (fun f s₃ hf => fin (k' := 1) (by decide) (fun _ _ => .inr (.inl ⟨rfl, rfl⟩)) hf) fun _ _ x => x
  · refine wpAny_mono (turn1 t1 t2 h tk F₁ N₁) (fun b s₂ hb => ?_) fun _ _ x => x
    cases b with
    | false => simpa using hb
    | true =>
      simp only [if_true] at hb ⊢
      exact wpAny_mono hb (fun f s₃ hf => fin (k' := 0) (by decide) (fun _ _ => .inr (.inr ⟨rfl, rfl⟩)) hf) fun _ _ x => x
  · refine wpAny_mono (turn2 t1 t2 h tk F₁ N₁) (fun b s₂ hb => ?_) fun _ _ x => x
    cases b with
    | false => simpa using hb
    | true =>
      simp only [if_true] at hb ⊢
      exact wpAny_mono hb (fun f s₃ hf => hf.elim) fun _ _ x => x
theorem nstep {u u' : Str} {n n' : Int} {t t' t1 t2 : Tok} {h' : Heap} {tk' : Nat} (F : Fr h₀ L h' (fun y => if y = Str.ofString "text" then some (.str u' t) else if y = Str.ofString "n" then some (.int n' t') else if y = Str.ofString "text" then some (.str u t1) else if y = Str.ofString "n" then some (.int n t2) else mB y)) (N : News h₀ L h' news) :
    NStep h₀ L s news mB u' n' .next { s with heap := h', toks := tk' } := by
  refine ⟨rfl, h', tk', t, t', rfl, ?_, N⟩
  have e : (fun y => if y = Str.ofString "text" then some (Value.str u' t) else if y = Str.ofString "n" then some (.int n' t') else if y = Str.ofString "text" then some (.str u t1) else if y = Str.ofString "n" then some (.int n t2) else mB y) = nMap mB u' t n' t' := by
    funext y
    unfold nMap
    by_cases h1 : y = Str.ofString "text"
    · rw [if_pos h1, if_pos h1]
    · by_cases h2 : y = Str.ofString "n"
      · simp only [if_neg h1, if_pos h2]
      · simp only [if_neg h1, if_neg h2]
  rw [← e]; exact F
end
local macro_rules | `(tactic| walk_at "mine stop") => `(tactic| first | (with_reducible show wpAny _ _ (exec (PySem.Stmt.While _ _ _ _) _) _ _ _) | (with_reducible show NStep _ _ _ _ _ _ _ _ _))
local macro_rules | `(tactic| walk_at "mine till") => `(tactic| repeat' ((fail_if_success (walk_at "mine stop")); first | (k_unfold; (try dsimp only)) | walk1 | (dsimp only; walk1)))
section
variable (w : World) (mean : ExcName → Option Value) (mg mb : Str → Option Value)
set_option maxHeartbeats 8000000
theorem numtext_ok (n : Int) (t : Tok) (news : List (Addr × Obj)) (h0 : 99 < n) (h1 : n < 1000) :
    Cl w mean mg mb 6 130 [.int n t] news (OutS (numT n) news) := by
  unfold Cl
  k_fill
  intro dp un gd cn cs a ccd cl outer A₀ base h₀ L m s Q E B F X N T hk hd hu hret
  refine wpAny_call ?_
  k_dflt cell_enter
  have a1 : n.fdiv 10 = n / 10 := Int.fdiv_eq_ediv_of_nonneg _ (by decide)
  have a2 : (n.fdiv 10).fdiv 10 = n / 10 / 10 := by rw [a1]; exact Int.fdiv_eq_ediv_of_nonneg _ (by decide)
  have b1 : 9 < n.fdiv 10 := by omega
  have b2 : ¬ 9 < (n.fdiv 10).fdiv 10 := by omega
  have b3 : 9 < n := by omega
  have b4 : ¬ n < 0 := by omega
  clear a1 a2
  walk_at "mine till"
  rename Fr _ _ _ _ => Ff
  rename News _ _ _ _ => Nf
  refine while_num (n0 := n) (n1 := n.fdiv 10) (n2 := (n.fdiv 10).fdiv 10) (u1 := Txt.item figT ((n.fdiv 10).fmod 10) ++ Txt.item figT (n.fmod 10)) (u2 := numT n) Ff Nf rfl ?_ ?_ ?_ (by passes_own)
  · clear Ff Nf
    intro t1 t2 h9 tk9 F9 N9
    (try k_fold)
    walk_at "mine till"
    exact nstep (by k_asm) (by k_asm)
  · clear Ff Nf
    intro t1 t2 h9 tk9 F9 N9
    (try k_fold)
    walk_at "mine till"
    exact nstep (by k_asm) (by k_asm)
  · clear Ff Nf
    intro t1 t2 h9 tk9 F9 N9
    (try k_fold)
    walk_at "mine till"
    exact end_str hret rfl (by k_asm) (by k_asm) (by walk_at "mine in")
local macro_rules | `(tactic| walk_at "call ref") => `(tactic| (k_here; k_dflt (refine' cl_use (numtext_ok _ _ _ _ _ _ _ ?q1 ?q2) ?k1 ?k2 ?k3 ?k4 ?k5 ?kK ?kd ?ku ?_; (case k1 => k_asm); (case k2 => k_asm); (case k3 => k_asm); (case k4 => k_asm); (case k5 => k_asm); (case kK => first | exact rfl | assumption); (case q1 => first | assumption | omega | decide | (simp <;> omega)); (case q2 => first | assumption | omega | decide | (simp <;> omega)); (case kd => k_room); (case ku => k_units); (try k_sweep); intro r9 n9 h9 tk9 F9 N9 o9; (obtain ⟨e9, t9, q9⟩ := o9; subst e9; subst q9); (try k_sweep); (try dsimp only))))
theorem bytext_ok (n m : Int) (t t' : Tok) (news : List (Addr × Obj)) (h0 : 99 < n) (h1 : n < 1000) (g0 : 99 < m) (g1 : m < 1000) :
    Cl w mean mg mb 14 399 [.int n t, .int m t'] news (OutI (cmpI n m) news) := by
  unfold Cl
  k_fill
  intro dp un gd cn cs a ccd cl outer A₀ base h₀ L m s Q E B F X N T hk hd hu hret
  refine wpAny_call ?_
  k_dflt cell_enter
  have q1 := numT_lt h0 h1 g0 g1
  have q2 := numT_lt g0 g1 h0 h1
  k_steps
  all_goals (refine end_int hret ?_ (by k_asm) (by k_asm) (by walk_at "mine in"))
  all_goals ((unfold cmpI; simp only [q1, q2] at *; (repeat' split) <;> first | rfl | omega))
end
/-- the number that a value is -/
def intOf : Value → Int
  | .int n _ => n
  | _ => 0
/-- a number of three figures -/
def IsThree (_ : List (Addr × Obj)) (v : Value) : Prop := ∃ n t, v = .int n t ∧ 99 < n ∧ n < 1000

end

-- part SzD
section
local macro_rules | `(tactic| k_room) => `(tactic| ((try simp only [depth_under_make, depth_under_kw, depth_in1, depth_deeper, depth_caller]); (try dsimp only [ktrTop]); omega))
local macro_rules | `(tactic| k_units) => `(tactic| ((try simp only [units_in1, units_deeper, Around.mark_units, units_caller]); (try dsimp only [ktrTop]); (have hcL9 := cLine_is); omega))
local macro_rules | `(tactic| walk_at "mine in") => `(tactic| (intro p9 m9; first | exact m9 | (repeat (first | exact m9 | refine List.Mem.tail _ ?_))))
local macro_rules | `(tactic| walk_at "eval Call") => `(tactic| (k_here; k_dflt (refine Call_ ?_)))
local macro_rules | `(tactic| walk_at "mine dec") => `(tactic| first | with_reducible assumption | decide | ((try simp only [decide_eq_true_eq, decide_eq_false_iff_not, beq_iff_eq, bne_iff_ne, ne_eq, Bool.not_eq_true, Bool.not_eq_false, beq_eq_false_iff_ne, bne_eq_false_iff_eq]); omega))
local macro_rules | `(tactic| walk_at "ite") => `(tactic| (k_here; k_dflt (first | (refine ite_pos (by walk_at "mine dec") ?_) | (refine ite_neg (by walk_at "mine dec") ?_))))
local macro_rules | `(tactic| k_mem) => `(tactic| first | with_reducible assumption | exact List.Mem.head _ | (refine' List.mem_cons_of_mem _ ?_; k_mem))
section
variable {prog : Program} {w : World} {A : Around} {E : Value → Shared → Prop} {s : Shared} {h₀ : Heap} {L D l b : Addr} {m : Str → Option Value} {news : List (Addr × Obj)}
/-- an item of a list of the ledger -/
theorem item_L {value slice : PySem.Expr} {vs : List Value} {n i : Nat} {u : Tok} {v : Value} {Q : Value → Shared → Prop} (N : News h₀ L s.heap news) (hm : (l, listOf vs.toArray n) ∈ news) (hx : vs[i]? = some v) (hz : vs.length ≤ 1000) (h : Q v s)
    (hs : subscripted slice false (.ref l) (.int (i : Int) u) = operate [.ref l, .int (i : Int) u] (getItem (.ref l) (.int (i : Int) u))) :
    wpAny (model prog w) A (subscriptTail value slice (.ref l) (.int (i : Int) u)) Q E s :=
  tail_any (N.isList hm).typeIs slot_list_getitem.lookup (wpAny_getItem_list (N.isList hm) (Int.natCast_nonneg i) (by
    obtain ⟨hi, _⟩ := List.getElem?_eq_some_iff.mp hx
    have : (i : Int) < 1000 := by omega
    omega) (by simpa using hx) h) hs
theorem len_L {vs : List Value} {n : Nat} {Q : Value → Shared → Prop} (N : News h₀ L s.heap news) (hm : (l, listOf vs.toArray n) ∈ news) (hz : vs.length ≤ 1000) (h : Q (.int (vs.length : Int) (s.toks + 1)) { s with toks := s.toks + 1 + 1 }) :
    wpAny (model prog w) A (call (.builtin "len") [.ref l]) Q E s :=
  kun_lenL (N.isList hm) (by rw [List.size_toArray]) (by omega) h
theorem pick_from (vs : List Value) (i : Nat) : slicePick vs.toArray (some (i : Int)) none none = (vs.drop i).toArray := by
  have e : sliceBounds (some (i : Int)) none none vs.toArray.size = (((min i vs.toArray.size : Nat) : Int), ((vs.toArray.size : Nat) : Int), 1) := by
    simp only [sliceBounds, Option.getD_none, show (1 : Int) > 0 by decide, if_true, if_neg (show ¬ ((i : Int) < 0) by omega)]
    congr 1
    omega
  rw [kmk_pick_nat _ e]
  show ((vs.drop (min i vs.toArray.size)).take (vs.toArray.size - min i vs.toArray.size)).toArray = _
  rw [List.size_toArray, kmk_drop_min, List.take_of_length_le (by rw [List.length_drop]; omega)]
theorem slice_from {value slice : PySem.Expr} {vl vu : Value} {vs : List Value} {n i : Nat} {Q : Value → Shared → Prop} (F : Fr h₀ L s.heap m) (N : News h₀ L s.heap news) (hm : (l, listOf vs.toArray n) ∈ news) (pl : IsPart vl (some (i : Int))) (pu : IsPart vu none) (hz : vs.length ≤ 1000)
    (h : ∀ D h', Fr h₀ L h' m → News h₀ L h' ((D, listOf (vs.drop i).toArray 0) :: news) → (∀ p ∈ news, p.1 < D) → Q (.ref D) { s with heap := h' })
    (hs : subscripted slice false (.ref l) (.ref s.heap.objs.size) = operate [.ref s.heap.objs.size, .ref l] (getItem (.ref l) (.ref s.heap.objs.size))) (ht : ∀ r, letTemporaryGo value (.ref l) r = pure ()) :
    wpAny (model prog w) A (subscriptTail value slice (.ref l) (.ref s.heap.objs.size)) Q E { s with heap := s.heap.push { cls := .type "slice", data := .fields #[vl, vu, .none] } } := by
  refine kmk_slice F N (N.isList hm) pl pu (fun D h' F' N' => h D h' F' ?_) hs ht (by rw [List.size_toArray, sizeLine_eq]; omega)
  rw [pick_from] at N'
  exact N'
theorem extend_L {g : Obj → List (Addr × Obj)} {xs ys : List Value} {n n2 : Nat} {Q : Value → Shared → Prop} (F : Fr h₀ L s.heap m) (N : News h₀ L s.heap news) (hb : (b, listOf ys.toArray n2) ∈ news)
    (U : UpdF D (listOf xs.toArray n) news g) (hz : xs.length + ys.length ≤ 1000)
    (h : ∀ h' c, Fr h₀ L h' m → News h₀ L h' (g (listOf (xs ++ ys).toArray c)) → Q .none { s with heap := h' }) : wpAny (model prog w) A (call (.builtin "list.extend") [.ref D, .ref b]) Q E s := by
  obtain ⟨pre, post, rfl, hg, a, c⟩ := U.split
  have z := N (D, listOf xs.toArray n) (List.mem_append.mpr (.inr (.head _)))
  have hd : ¬(!xs.toArray.isEmpty && Builtin.List.listTooLong (xs.toArray.size + ys.toArray.size)) = true := by
    rw [List.size_toArray, List.size_toArray]
    have q : Builtin.List.listTooLong (xs.length + ys.length) = false := by
      have q2 := sizeLine_eq
      unfold Builtin.List.listTooLong
      first | (rw [decide_eq_false_iff_not]; omega) | (simp; omega)
    rw [q]; simp
  obtain ⟨c2, hc2⟩ : ∃ c2, (s.heap.update D (Obj.mapSeq fun x => x ++ ys.toArray)).get? D = some (seqObj "list" (xs.toArray ++ ys.toArray) c2) := ⟨_, get?_update_seq z.1 fun x => x ++ ys.toArray⟩
  refine call_meets PySem.F.slot_list_extend ⟨_, z.1, rfl⟩ PySem.F.entry_list_extend (PySem.F.args_list_extend_2 _ _) (PySem.AutoSeq1.list_extend_list_list_0 D xs.toArray n b ys.toArray n2 hd (by rw [List.size_toArray, sizeLine_eq]; omega) (by rw [List.size_toArray, List.size_toArray, sizeLine_eq]; omega)) ⟨z.1, (N _ hb).1, h _ c2 (F.change (Heap.SameBut.update ..) z.2.1 z.2.2) ?_⟩
  rw [hg]
  have e : listOf (xs ++ ys).toArray c2 = seqObj "list" (xs.toArray ++ ys.toArray) c2 := by simp [W.listOf, seqObj]
  rw [e]
  exact news_set N a c (Heap.SameBut.update ..) hc2
theorem append_L {g : Obj → List (Addr × Obj)} {xs : List Value} {y : Value} {n : Nat} {Q : Value → Shared → Prop} (F : Fr h₀ L s.heap m) (N : News h₀ L s.heap news)
    (U : UpdF D (listOf xs.toArray n) news g) (hz : xs.length ≤ 1000)
    (h : ∀ h' c, Fr h₀ L h' m → News h₀ L h' (g (listOf (xs ++ [y]).toArray c)) → Q .none { s with heap := h' }) : wpAny (model prog w) A (call (.builtin "list.append") [.ref D, y]) Q E s := by
  obtain ⟨pre, post, rfl, hg, a, c⟩ := U.split
  have z := N (D, listOf xs.toArray n) (List.mem_append.mpr (.inr (.head _)))
  refine append_at (hsz := by rw [List.size_toArray, sizeLine_eq]; omega) z.1 fun h' hs ho' => h h' (n + 1) (F.change hs z.2.1 z.2.2) ?_
  rw [hg]
  refine news_set N a c hs ?_
  rw [ho', List.push_toArray]
/-- no entry stands at D -/
def OffTail (D : Addr) (l : List (Addr × Obj)) : Prop := ∀ p ∈ l, p.1 ≠ D
theorem OffTail.of {D : Addr} {l : List (Addr × Obj)} (h : ∀ p ∈ l, p.1 < D) : OffTail D l := fun p hp => Nat.ne_of_lt (h p hp)
theorem OffTail.put {D : Addr} {l : List (Addr × Obj)} (h : ∀ p ∈ l, p.1 ≠ D) : OffTail D l := h
theorem OffTail.cons {D : Addr} {a : Addr × Obj} {l : List (Addr × Obj)} (h : OffTail D (a :: l)) : OffTail D l := fun p hp => h p (.tail _ hp)
theorem OffTail.use {D : Addr} {l : List (Addr × Obj)} (h : OffTail D l) : ∀ p ∈ l, p.1 ≠ D := h
/-- every entry stands below D -/
def LtTail (D : Addr) (l : List (Addr × Obj)) : Prop := ∀ p ∈ l, p.1 < D
theorem LtTail.of {D : Addr} {l : List (Addr × Obj)} (h : ∀ p ∈ l, p.1 < D) : LtTail D l := h
theorem LtTail.cons {D : Addr} {a : Addr × Obj} {l : List (Addr × Obj)} (h : LtTail D (a :: l)) : LtTail D l := fun p hp => h p (.tail _ hp)
theorem LtTail.use {D : Addr} {l : List (Addr × Obj)} (h : LtTail D l) : ∀ p ∈ l, p.1 < D := h
theorem allLt_ne {D : Addr} : ∀ {l : List (Addr × Obj)}, (∀ p ∈ l, p.1 < D) → ∀ p ∈ l, p.1 ≠ D := fun h p hp => Nat.ne_of_lt (h p hp)
end

/-- an order: a def that answers by cmp on what P tells -/
def OrderOK (w : World) (mean : ExcName → Option Value) (mg mb : Str → Option Value) (need : Nat) (fo : Addr) (P : List (Addr × Obj) → Value → Prop) (cmp : Value → Value → Int) : Prop :=
  keepIn (hd.heap_39 w.params) (.ref fo) = true ∧ ∀ news x y, P news x → P news y → Cl w mean mg mb need fo [x, y] news (OutI (cmp x y) news)
theorem OrderOK.keep {w : World} {mean : ExcName → Option Value} {mg mb : Str → Option Value} {need : Nat} {fo : Addr} {P : List (Addr × Obj) → Value → Prop} {cmp : Value → Value → Int} (h : OrderOK w mean mg mb need fo P cmp) : keepIn (hd.heap_39 w.params) (.ref fo) = true := h.1
theorem OrderOK.use {w : World} {mean : ExcName → Option Value} {mg mb : Str → Option Value} {need : Nat} {fo : Addr} {P : List (Addr × Obj) → Value → Prop} {cmp : Value → Value → Int} (h : OrderOK w mean mg mb need fo P cmp) {news : List (Addr × Obj)} {x y : Value} (hx : P news x) (hy : P news y) :
    Cl w mean mg mb need fo [x, y] news (OutI (cmp x y) news) := h.2 _ _ _ hx hy
/-- the items are what P tells, in every ledger that keeps this one -/
def ItemsOK (P : List (Addr × Obj) → Value → Prop) (news : List (Addr × Obj)) (vs : List Value) : Prop := ∀ v ∈ vs, ∀ news', (∀ p ∈ news, p ∈ news') → P news' v
theorem ItemsOK.use {P : List (Addr × Obj) → Value → Prop} {news news' : List (Addr × Obj)} {vs : List Value} {v : Value} (h : ItemsOK P news vs) (hv : v ∈ vs) (hs : ∀ p ∈ news, p ∈ news') : P news' v := h v hv _ hs
theorem ItemsOK.mrgs {P : List (Addr × Obj) → Value → Prop} {news : List (Addr × Obj)} {vs ws : List Value} {le : Value → Value → Bool} (h1 : ItemsOK P news vs) (h2 : ItemsOK P news ws) : ItemsOK P news (List.merge vs ws le) := fun v hv => by
  rcases List.mem_merge.mp hv with h | h
  · exact h1 v h
  · exact h2 v h
theorem ItemsOK.one {P : List (Addr × Obj) → Value → Prop} {news news' : List (Addr × Obj)} {vs : List Value} {v : Value} (h : ItemsOK P news vs) (hv : v ∈ vs) (hs : ∀ p ∈ news, p ∈ news') : ItemsOK P news' [v] := fun u hu news'' hs' => by
  rw [List.mem_singleton.mp hu]
  exact h v hv _ fun p hp => hs' p (hs p hp)
theorem ItemsOK.up {P : List (Addr × Obj) → Value → Prop} {news news' : List (Addr × Obj)} {vs : List Value} (h : ItemsOK P news vs) (hs : ∀ p ∈ news, p ∈ news') : ItemsOK P news' vs := fun u hu _ hs' => h u hu _ fun p hp => hs' p (hs p hp)
/-- a list comes back, newly made -/
def OutL (ys : List Value) (news : List (Addr × Obj)) (r : Value) (news' : List (Addr × Obj)) : Prop := ∃ D c, r = .ref D ∧ news' = (D, listOf ys.toArray c) :: news ∧ ∀ p ∈ news, p.1 < D
/-- the merge: the left one first where they are alike -/
def mrg (cmp : Value → Value → Int) (vs ws : List Value) : List Value := List.merge vs ws (fun a b => decide (cmp a b ≤ 0))

section
variable {prog : Program} {w : World} {A : Around} {E : Value → Shared → Prop} {s : Shared} {h₀ : Heap} {L D : Addr} {env : Env} {news : List (Addr × Obj)} {cmp : Value → Value → Int} {vs ws : List Value} {mB : Str → Option Value}
def mMap (mB : Str → Option Value) (i j : Nat) (t1 t2 : Tok) : Str → Option Value := fun y => if y = Str.ofString "two" then some (.int (j : Int) t2) else if y = Str.ofString "one" then some (.int (i : Int) t1) else mB y
def MStep (h₀ : Heap) (L D : Addr) (s : Shared) (news : List (Addr × Obj)) (cmp : Value → Value → Int) (vs ws : List Value) (mB : Str → Option Value) (i j : Nat) (f : Flow) (s₃ : Shared) : Prop :=
  f = .next ∧ ∃ h' tk' i' j' acc' c' t1' t2', s₃ = { s with heap := h', toks := tk' } ∧ Fr h₀ L h' (mMap mB i' j' t1' t2') ∧ News h₀ L h' ((D, listOf (List.toArray acc') c') :: news) ∧ i' ≤ vs.length ∧ j' ≤ ws.length ∧ i' + j' = i + j + 1 ∧
    acc' ++ mrg cmp (vs.drop i') (ws.drop j') = mrg cmp vs ws
theorem while_merge {test : Expr} {body : List Stmt} {pos : Pos} {Q : Flow → Shared → Prop} {c₀ : Nat} {t1 t2 : Tok}
    (F : Fr h₀ L s.heap (fun y => if y = Str.ofString "two" then some (.int 0 t2) else if y = Str.ofString "one" then some (.int 0 t1) else mB y)) (N : News h₀ L s.heap ((D, listOf (List.toArray []) c₀) :: news))
    (turn : ∀ i j acc c t1 t2 h tk, i ≤ vs.length → j ≤ ws.length → acc ++ mrg cmp (vs.drop i) (ws.drop j) = mrg cmp vs ws →
      Fr h₀ L h (fun y => if y = Str.ofString "two" then some (.int (j : Int) t2) else if y = Str.ofString "one" then some (.int (i : Int) t1) else mB y) → News h₀ L h ((D, listOf (List.toArray acc) c) :: news) →
      wpAny (model prog w) A (isTrue test env (eval test env)) (fun b s₂ =>
        if b = true then wpAny (model prog w) A (execs body env) (MStep h₀ L D s news cmp vs ws mB i j) E s₂ else Q .next s₂) E { s with heap := h, toks := tk })
    (hE : PassesOwn (model prog w) A env E := by passes_own) :
    wpAny (model prog w) A (exec (.While test body [] pos) env) Q E s := by
  refine While_inv2 (fun n m led => ∃ i j acc c t1 t2, n = (vs.length - i) + (ws.length - j) ∧ i ≤ vs.length ∧ j ≤ ws.length ∧ acc ++ mrg cmp (vs.drop i) (ws.drop j) = mrg cmp vs ws ∧ m = mMap mB i j t1 t2 ∧ led = (D, listOf (List.toArray acc) c) :: news)
    (n₀ := vs.length + ws.length) F N ⟨0, 0, [], c₀, t1, t2, by simp, Nat.zero_le _, Nat.zero_le _, by simp, rfl, rfl⟩ ?_ hE
  rintro n m₁ led h tk F₁ N₁ ⟨i, j, acc, c, t1, t2, rfl, hi, hj, hacc, rfl, rfl⟩
  refine wpAny_mono (turn i j acc c t1 t2 h tk hi hj hacc F₁ N₁) (fun b s₂ hb => ?_) fun _ _ x => x
  cases b with
  | false => simpa using hb
  | true =>
    simp only [if_true] at hb ⊢
    refine wpAny_mono hb (fun f s₃ hf => ?_) fun _ _ x => x
    obtain ⟨rfl, h', tk', i', j', acc', c', t1', t2', rfl, F', N', hi', hj', hij, hacc'⟩ := hf
    exact ⟨h', tk', _, _, (vs.length - i') + (ws.length - j'), rfl, F', N', by omega, i', j', acc', c', t1', t2', rfl, hi', hj', hacc', rfl, rfl⟩
theorem mrg_left {i j : Nat} (hi : i < vs.length) (hj : j < ws.length) (hc : cmp vs[i] ws[j] ≤ 0) : mrg cmp (vs.drop i) (ws.drop j) = vs[i] :: mrg cmp (vs.drop (i + 1)) (ws.drop j) := by
  rw [List.drop_eq_getElem_cons hi, List.drop_eq_getElem_cons hj]
  unfold mrg
  rw [List.cons_merge_cons, if_pos (by simpa using hc)]
theorem mrg_right {i j : Nat} (hi : i < vs.length) (hj : j < ws.length) (hc : ¬ cmp vs[i] ws[j] ≤ 0) : mrg cmp (vs.drop i) (ws.drop j) = ws[j] :: mrg cmp (vs.drop i) (ws.drop (j + 1)) := by
  rw [List.drop_eq_getElem_cons hi, List.drop_eq_getElem_cons hj]
  unfold mrg
  rw [List.cons_merge_cons, if_neg (by simpa using hc)]
theorem mrg_stop {i j : Nat} (h : ¬ i < vs.length ∨ ¬ j < ws.length) : mrg cmp (vs.drop i) (ws.drop j) = vs.drop i ++ ws.drop j := by
  rcases h with h | h
  · rw [List.drop_of_length_le (Nat.le_of_not_lt h)]
    simp [mrg]
  · rw [List.drop_of_length_le (Nat.le_of_not_lt h)]
    simp [mrg]
theorem mstep_left {i j c : Nat} {acc : List Value} {h' : Heap} {tk' : Nat} {t t1 t2 : Tok} (hi : i < vs.length) (hj : j < ws.length) (hc : cmp vs[i] ws[j] ≤ 0) (hacc : acc ++ mrg cmp (vs.drop i) (ws.drop j) = mrg cmp vs ws)
    (F : Fr h₀ L h' (fun y => if y = Str.ofString "one" then some (.int ((i : Int) + 1) t) else if y = Str.ofString "two" then some (.int (j : Int) t2) else if y = Str.ofString "one" then some (.int (i : Int) t1) else mB y))
    (N : News h₀ L h' ((D, listOf (List.toArray (acc ++ [vs[i]])) c) :: news)) : MStep h₀ L D s news cmp vs ws mB i j .next { s with heap := h', toks := tk' } := by
  refine ⟨rfl, h', tk', i + 1, j, acc ++ [vs[i]], c, t, t2, rfl, ?_, N, hi, Nat.le_of_lt hj, by omega, ?_⟩
  · have e : (fun y => if y = Str.ofString "one" then some (Value.int ((i : Int) + 1) t) else if y = Str.ofString "two" then some (.int (j : Int) t2) else if y = Str.ofString "one" then some (.int (i : Int) t1) else mB y) = mMap mB (i + 1) j t t2 := by
      funext y
      unfold mMap
      by_cases h1 : y = Str.ofString "one"
      · subst h1
        rw [if_pos rfl, if_neg (by decide), if_pos rfl]
        rfl
      · simp only [if_neg h1]
    rw [← e]; exact F
  · rw [List.append_assoc, List.singleton_append, ← mrg_left hi hj hc]; exact hacc
theorem mstep_right {i j c : Nat} {acc : List Value} {h' : Heap} {tk' : Nat} {t t1 t2 : Tok} (hi : i < vs.length) (hj : j < ws.length) (hc : ¬ cmp vs[i] ws[j] ≤ 0) (hacc : acc ++ mrg cmp (vs.drop i) (ws.drop j) = mrg cmp vs ws)
    (F : Fr h₀ L h' (fun y => if y = Str.ofString "two" then some (.int ((j : Int) + 1) t) else if y = Str.ofString "two" then some (.int (j : Int) t2) else if y = Str.ofString "one" then some (.int (i : Int) t1) else mB y))
    (N : News h₀ L h' ((D, listOf (List.toArray (acc ++ [ws[j]])) c) :: news)) : MStep h₀ L D s news cmp vs ws mB i j .next { s with heap := h', toks := tk' } := by
  refine ⟨rfl, h', tk', i, j + 1, acc ++ [ws[j]], c, t1, t, rfl, ?_, N, Nat.le_of_lt hi, hj, by omega, ?_⟩
  · have e : (fun y => if y = Str.ofString "two" then some (Value.int ((j : Int) + 1) t) else if y = Str.ofString "two" then some (.int (j : Int) t2) else if y = Str.ofString "one" then some (.int (i : Int) t1) else mB y) = mMap mB i (j + 1) t1 t := by
      funext y
      unfold mMap
      by_cases h1 : y = Str.ofString "two"
      · subst h1
        rw [if_pos rfl, if_pos rfl]
        rfl
      · simp only [if_neg h1]
    rw [← e]; exact F
  · rw [List.append_assoc, List.singleton_append, ← mrg_right hi hj hc]; exact hacc
end
local macro_rules | `(tactic| k_all) => `(tactic| assumption)
local macro_rules | `(tactic| k_is) => `(tactic| exact OrderOK.keep (by with_reducible assumption))
local macro_rules | `(tactic| walk_at "mine len") => `(tactic| (have hsz9 := sizeLine_eq; simp only [List.size_toArray, List.length_append, List.length_cons, List.length_nil, List.length_drop, List.length_take] at *; omega))
local macro_rules | `(tactic| walk_at "call builtin:len") => `(tactic| (k_here; k_dflt (refine' len_L ?N ?m ?z ?_; (case N => k_asm); (case m => k_mem); (case z => first | assumption | omega | walk_at "mine len"); k_whole)))
local macro_rules | `(tactic| walk_at "mine at") => `(tactic| first | assumption | exact List.getElem?_eq_getElem (by omega))
local macro_rules | `(tactic| walk_at "subscriptTail Name Name ref int") => `(tactic| (k_here; k_dflt (refine' item_L ?N ?m ?x ?z ?_ ?s; (case N => k_asm); (case m => k_mem); (case x => walk_at "mine at"); (case z => first | omega | walk_at "mine len"); (case s => with_unfolding_all rfl); k_whole)))
local macro_rules | `(tactic| walk_at "mine item") => `(tactic| exact ItemsOK.use (by with_reducible assumption) (List.getElem_mem _) (by walk_at "mine in"))
local macro_rules | `(tactic| walk_at "call ref") => `(tactic| (k_here; k_dflt ((with_reducible rename OrderOK _ _ _ _ _ _ _ _ => hO9); refine' cl_use (OrderOK.use hO9 ?q1 ?q2) ?k1 ?k2 ?k3 ?k4 ?k5 ?kK ?kd ?ku ?_; (case k1 => k_asm); (case k2 => k_asm); (case k3 => k_asm); (case k4 => k_asm); (case k5 => k_asm); (case kK => first | exact rfl | assumption); (case kd => k_room); (case ku => k_units); (case q1 => walk_at "mine item"); (case q2 => walk_at "mine item"); (try k_sweep); intro r9 n9 h9 tk9 F9 N9 o9; (obtain ⟨e9, t9, q9⟩ := o9; subst e9; subst q9); (try k_sweep); (try dsimp only))))
local macro_rules | `(tactic| walk_at "call builtin:list.append") => `(tactic| (k_here; k_dflt (refine' append_L ?F ?N ?U ?z ?_; (case F => k_asm); (case N => k_asm); (case U => k_updF); (case z => walk_at "mine len"); k_whole); intro h' c' F' N'; (try dsimp only at N'); (try k_sweep)))
local macro_rules | `(tactic| walk_at "call builtin:list.extend") => `(tactic| (k_here; k_dflt (refine' extend_L ?F ?N ?b ?U ?z ?_; (case F => k_asm); (case N => k_asm); (case b => k_mem); (case U => k_updF); (case z => walk_at "mine len"); k_whole); intro h' c' F' N'; (try dsimp only at N'); (try k_sweep)))
local macro_rules | `(tactic| walk_at "subscriptTail Name Slice ref ref") => `(tactic| (k_here; (with_reducible show wpAny _ _ (subscriptTail _ (PySem.Expr.Slice (some _) none none _) (Value.ref _) (Value.ref _)) _ _ _); k_dflt (refine' slice_from ?F ?N ?m ?p ?q ?z ?_ ?s ?t; (case F => k_asm); (case N => k_asm); (case m => k_mem); (case p => exact IsPart.int _ _); (case q => exact IsPart.none); (case z => walk_at "mine len"); (case s => with_unfolding_all rfl); (case t => kmk_pure); k_whole); intro D' h' F' N' l1; (try k_lt l1); (try k_sweep)))
section
variable (w : World) (mean : ExcName → Option Value) (mg mb : Str → Option Value)
set_option maxHeartbeats 8000000
local macro_rules | `(tactic| walk_at "mine till") => `(tactic| repeat' ((fail_if_success (with_reducible show wpAny _ _ (exec (PySem.Stmt.While _ _ _ _) _) _ _ _)); first | (k_unfold; (try dsimp only)) | walk1 | (dsimp only; walk1)))
theorem merged_ok (need fo : Nat) (P : List (Addr × Obj) → Value → Prop) (cmp : Value → Value → Int) (hO : OrderOK w mean mg mb need fo P cmp) (l r : Addr) (vs ws : List Value) (cl cr : Nat) (news : List (Addr × Obj))
    (hl : (l, listOf vs.toArray cl) ∈ news) (hr : (r, listOf ws.toArray cr) ∈ news) (hv : ItemsOK P news vs) (hw : ItemsOK P news ws) (hz : vs.length + ws.length ≤ 500) :
    Cl w mean mg mb (need + 4) 387 [.ref l, .ref r, .ref fo] news (OutL (mrg cmp vs ws) news) := by
  unfold Cl
  k_fill
  intro dp un gd cn cs a ccd cl outer A₀ base h₀ L m s Q E B F X N T hk hd hu hret
  refine wpAny_call ?_
  k_dflt cell_enter
  walk_at "mine till"
  rename Fr _ _ _ _ => Fw
  rename News _ _ _ _ => Nw
  rename ∀ p ∈ news, p.1 < _ => lw
  have hne := allLt_ne lw
  refine while_merge (cmp := cmp) (vs := vs) (ws := ws) Fw Nw ?_ (by passes_own)
  clear Fw Nw
  intro i j acc c t1 t2 hh tkk hi hj hacc F1 N1
  have hlen : acc.length ≤ 500 := by
    have q := congrArg List.length hacc
    simp only [mrg, List.length_append, List.length_merge] at q
    omega
  (try k_fold)
  k_steps
  · exact mstep_left (by omega) (by omega) (by assumption) hacc (by assumption) (by assumption)
  · exact mstep_right (by omega) (by omega) (by assumption) hacc (by assumption) (by assumption)
  all_goals
    have e9 : acc ++ List.drop i vs ++ List.drop j ws = mrg cmp vs ws := by
      rw [List.append_assoc, ← mrg_stop (cmp := cmp) (by omega)]; exact hacc
    rename News _ _ (Shared.heap _) _ => kN9
    rw [e9] at kN9
    exact hret _ _ _ _ (by assumption) (fun p hp => kN9 p (.tail _ (.tail _ hp))) ⟨_, _, rfl, rfl, lw⟩
end

end

-- part SzE
section
local macro_rules | `(tactic| k_room) => `(tactic| ((try simp only [depth_under_make, depth_under_kw, depth_in1, depth_deeper, depth_caller]); (try dsimp only [ktrTop]); omega))
local macro_rules | `(tactic| k_units) => `(tactic| ((try simp only [units_in1, units_deeper, Around.mark_units, units_caller]); (try dsimp only [ktrTop]); (have hcL9 := cLine_is); omega))
local macro_rules | `(tactic| walk_at "mine in") => `(tactic| (intro p9 m9; first | exact m9 | (repeat (first | exact m9 | refine List.Mem.tail _ ?_))))
local macro_rules | `(tactic| walk_at "eval Call") => `(tactic| (k_here; k_dflt (refine Call_ ?_)))
local macro_rules | `(tactic| walk_at "mine dec") => `(tactic| first | with_reducible assumption | decide | ((try simp only [decide_eq_true_eq, decide_eq_false_iff_not, beq_iff_eq, bne_iff_ne, ne_eq, Bool.not_eq_true, Bool.not_eq_false, beq_eq_false_iff_ne, bne_eq_false_iff_eq]); omega))
local macro_rules | `(tactic| walk_at "ite") => `(tactic| (k_here; k_dflt (first | (refine ite_pos (by walk_at "mine dec") ?_) | (refine ite_neg (by walk_at "mine dec") ?_))))
local macro_rules | `(tactic| k_mem) => `(tactic| first | with_reducible assumption | exact List.Mem.head _ | (refine' List.mem_cons_of_mem _ ?_; k_mem))
local macro_rules | `(tactic| k_all) => `(tactic| first | assumption | exact OffTail.use (by assumption))
local macro_rules | `(tactic| k_lt $h:ident) => `(tactic| ((have hne9 := OffTail.of $h); (have hlt9 := LtTail.of $h); (repeat (replace hne9 := OffTail.cons hne9)); (repeat (replace hlt9 := LtTail.cons hlt9)); replace $h := allLt_of $h; (try simp only [AllLt, and_true] at $h:ident)))
local macro_rules | `(tactic| k_is) => `(tactic| exact OrderOK.keep (by with_reducible assumption))
local macro_rules | `(tactic| walk_at "mine len") => `(tactic| (have hsz9 := sizeLine_eq; simp only [List.size_toArray, List.length_append, List.length_cons, List.length_nil, List.length_drop, List.length_take] at *; omega))

/-- one pass: the runs merged two by two -/
noncomputable def passRuns (cmp : Value → Value → Int) : List (List Value) → List (List Value)
  | a :: b :: r => mrg cmp a b :: passRuns cmp r
  | r => r
noncomputable def passes (cmp : Value → Value → Int) (xss : List (List Value)) : Nat → List (List Value)
  | 0 => xss
  | k + 1 => passRuns cmp (passes cmp xss k)
/-- ys is what the merges make of vs -/
def IsMsort (cmp : Value → Value → Int) (vs ys : List Value) : Prop := (vs = [] ∧ ys = []) ∨ ∃ k, passes cmp (vs.map fun v => [v]) k = [ys]
theorem mrg_length (cmp : Value → Value → Int) (a b : List Value) : (mrg cmp a b).length = a.length + b.length := by
  unfold mrg; exact List.length_merge ..
/-- the refs rs stand for the lists xss -/
inductive RunsAre (led : List (Addr × Obj)) : List Value → List (List Value) → Prop
  | nil : RunsAre led [] []
  | cons {a : Addr} {c : Nat} {xs : List Value} {rs : List Value} {xss : List (List Value)} : (a, listOf (List.toArray xs) c) ∈ led → RunsAre led rs xss → RunsAre led (.ref a :: rs) (xs :: xss)
theorem RunsAre.mono {led led' : List (Addr × Obj)} {rs : List Value} {xss : List (List Value)} (h : RunsAre led rs xss) (hs : ∀ p ∈ led, p ∈ led') : RunsAre led' rs xss := by
  induction h with
  | nil => exact .nil
  | cons hm _ ih => exact .cons (hs _ hm) ih
theorem RunsAre.length {led : List (Addr × Obj)} {rs : List Value} {xss : List (List Value)} (h : RunsAre led rs xss) : rs.length = xss.length := by
  induction h with
  | nil => rfl
  | cons _ _ ih => simp [ih]
theorem RunsAre.snoc {led : List (Addr × Obj)} {rs : List Value} {xss : List (List Value)} {a : Addr} {c : Nat} {xs : List Value} (h : RunsAre led rs xss) (hm : (a, listOf (List.toArray xs) c) ∈ led) : RunsAre led (rs ++ [.ref a]) (xss ++ [xs]) := by
  induction h with
  | nil => exact .cons hm .nil
  | cons hm' _ ih => exact .cons hm' ih
theorem RunsAre.get {led : List (Addr × Obj)} {rs : List Value} {xss : List (List Value)} (h : RunsAre led rs xss) : ∀ {i : Nat} (hi : i < xss.length), ∃ a c, rs[i]? = some (.ref a) ∧ (a, listOf (List.toArray xss[i]) c) ∈ led := by
  induction h with
  | nil => intro i hi; exact absurd hi (Nat.not_lt_zero _)
  | cons hm _ ih =>
    intro i hi
    cases i with
    | zero => exact ⟨_, _, rfl, hm⟩
    | succ i =>
      obtain ⟨a, c, h1, h2⟩ := ih (i := i) (by simpa using hi)
      exact ⟨a, c, by simpa using h1, by simpa using h2⟩
section
variable {prog : Program} {w : World} {A : Around} {E : Value → Shared → Prop} {s : Shared} {env : Env} {h₀ : Heap} {L : Addr} {x : Str} {body : List Stmt} {Q : Flow → Shared → Prop}
theorem UnrEnd.mono {s₁ s₂ : Shared} {I : Addr} {it : Obj} {R R' : (Str → Option Value) → List (Addr × Obj) → Prop} (h : UnrEnd h₀ L s₁ I it R s₂) (hr : ∀ m led, (∀ p ∈ led, p.1 ≠ I) → R m led → R' m led) : UnrEnd h₀ L s₁ I it R' s₂ := by
  obtain ⟨h', tk, m', news', e, F, N, o, r⟩ := h
  exact ⟨h', tk, m', news', e, F, N, o, hr _ _ o r⟩
/-- a loop over a range, by what holds between its turns -/
theorem range_inv {r : Addr} {a₀ b₀ c : Int} {t₀ u₀ v₀ : Tok} {n : Nat} {m₀ : Str → Option Value} {news : List (Addr × Obj)} (Inv : Nat → (Str → Option Value) → List (Addr × Obj) → Prop)
    (hh : A.handled = none) (hr : IsRange s.heap r a₀ b₀ c t₀ u₀ v₀) (hsmall : Builtin.Range.small a₀ b₀ c = true) (hn : Builtin.Range.rangeSize a₀ b₀ c = (n : Int)) (F : Fr h₀ env.locals s.heap m₀) (N : News h₀ env.locals s.heap news) (h0 : Inv 0 m₀ news)
    (turn : ∀ i I m led t h tk, i < n → Inv i m led → (∀ p ∈ led, p.1 ≠ I) → Fr h₀ env.locals h (fun y => if y = x then some (.int (a₀ + (i : Int) * c) t) else m y) →
      News h₀ env.locals h ((I, krsIt (a₀ + ((i + 1 : Nat) : Int) * c) ((n : Int) - ((i + 1 : Nat) : Int)) c) :: led) →
      wpAny (model prog w) A (execs body env) (UnrPost h₀ env.locals { s with heap := h, toks := tk } I (krsIt (a₀ + ((i + 1 : Nat) : Int) * c) ((n : Int) - ((i + 1 : Nat) : Int)) c) (Inv (i + 1)) Q) E { s with heap := h, toks := tk })
    (done : ∀ m led h tk, Inv n m led → Fr h₀ env.locals h m → News h₀ env.locals h led → Q .next { s with heap := h, toks := tk }) :
    wpAny (model prog w) A (pyIter (.ref r)) (fun it s₂ => LoopAtV prog w A h₀ env x body Q E it s₂) E s := by
  refine krs_iter hh hr hsmall hn F N fun I hI => ?_
  have all : ∀ k i m led, i + k = n → Inv i m led → (∀ p ∈ led, p.1 ≠ I) → KrsRest prog w A E h₀ env x body Q s I a₀ c n k i m led := by
    intro k
    induction k with
    | zero =>
      intro i m led hi hv _
      refine KrsRest.zero fun h tk F' N' => ?_
      have e : i = n := by omega
      subst e
      exact done m led h tk hv F' N'
    | succ k ih =>
      intro i m led hi hv ho
      refine KrsRest.succ rfl fun t h tk F' N' => ?_
      refine wpAny_mono (turn i I m led t h tk (by omega) hv ho F' N') (fun f s₂ hf => ?_) fun _ _ e => e
      cases f with
      | ret v => exact hf
      | brk => exact hf
      | next => exact UnrEnd.mono hf fun m' led' ho' hv' => ih (i + 1) m' led' (by omega) hv' ho'
      | cont => exact UnrEnd.mono hf fun m' led' ho' hv' => ih (i + 1) m' led' (by omega) hv' ho'
  exact all n 0 m₀ news (by omega) h0 fun p hp => Nat.ne_of_lt (hI p hp)
theorem CompEnd.mono {m : Str → Option Value} {s₁ s₂ : Shared} {I C D : Addr} {oI oC oD : Obj} {S : List (Addr × Obj) → Prop} {R R' : Value → List (Addr × Obj) → Prop} {y : Value} (h : LCg.CompEnd h₀ L m s₁ I oI C oC D oD S R y s₂) (hr : ∀ led, R y led → R' y led) :
    LCg.CompEnd h₀ L m s₁ I oI C oC D oD S R' y s₂ := by
  obtain ⟨h', tk, news', e, F, N, o, hS, r⟩ := h
  exact ⟨h', tk, news', e, F, N, o, hS, hr _ r⟩
/-- a comprehension's turn that has made one object -/
theorem compEnd1 {m : Str → Option Value} {s₁ : Shared} {I C D : Addr} {oI oC oD : Obj} {S : List (Addr × Obj) → Prop} {rest : Value → List (Addr × Obj) → Prop} {y : Value} {h' : Heap} {tk : Nat} {x : Addr × Obj} {led : List (Addr × Obj)} (F : Fr h₀ L h' m) (N : News h₀ L h' (x :: (I, oI) :: (C, oC) :: (D, oD) :: led)) (hx : x.1 ≠ I ∧ x.1 ≠ C ∧ x.1 ≠ D) (off : LCg.Off3 I C D led) (hS : S (x :: led)) (r : rest y (x :: led)) :
    LCg.CompEnd h₀ L m s₁ I oI C oC D oD S rest y { s₁ with heap := h', toks := tk } := by
  refine LCg.CompEnd.intro F N (x :: led) (fun p hp => ?_) ⟨hx, off⟩ hS r
  simp only [List.mem_cons] at hp ⊢
  rcases hp with h | h | h | h | h
  · exact .inr (.inl h)
  · exact .inr (.inr (.inl h))
  · exact .inr (.inr (.inr (.inl h)))
  · exact .inl h
  · exact .inr (.inr (.inr (.inr h)))
/-- a comprehension by what holds between its turns -/
theorem compRest_inv {m : Str → Option Value} {elt : Expr} {scope : Scope} {cl : List (Str × Addr)} {S : List (Addr × Obj) → Prop} {P : Nat → Value → Prop} {Fin : List Value → List (Addr × Obj) → Prop} {n : Nat} (Inv : Nat → List Value → List (Addr × Obj) → Prop)
    (turn : ∀ i ys led v I oI C oC D m₂ h tk (E' : Value → Shared → Prop), i < n → Inv i ys led → P i v → LCg.NsObj oC m₂ → m₂ x = some v → Fr h₀ L h m → News h₀ L h ((I, oI) :: (C, oC) :: (D, LCg.lst ys) :: led) → LCg.Off3 I C D led → ((@Ne Nat I C) ∧ (@Ne Nat I D) ∧ (@Ne Nat C D)) →
      wpAny (model prog w) A (eval elt (compEnvC scope cl C env)) (LCg.CompEnd h₀ L m { s with heap := h, toks := tk } I oI C oC D (LCg.lst ys) S (fun y led' => Inv (i + 1) (ys ++ [y]) led')) E' { s with heap := h, toks := tk })
    (fin : ∀ ys led, Inv n ys led → Fin ys led) : ∀ k i ys led, i + k = n → Inv i ys led → LCg.CompRest prog w A h₀ L m env elt x scope cl s S P Fin k i ys led := by
  intro k
  induction k with
  | zero =>
    intro i ys led hi hv
    have e : i = n := by omega
    subst e
    exact LCg.CompRest.zero (fin ys led hv)
  | succ k ih =>
    intro i ys led hi hv
    refine LCg.CompRest.succ fun v I oI C oC D m₂ h tk E' hP hC hx F N ho hne => ?_
    exact wpAny_mono (turn i ys led v I oI C oC D m₂ h tk E' (by omega) hv hP hC hx F N ho hne) (fun y s₂ hy => CompEnd.mono hy fun led' hv' => ih (i + 1) _ led' (by omega) hv') fun _ _ e => e
theorem eq_lens {L a b : Addr} {news : List (Addr × Obj)} {xs ys : Array Value} {n k : Nat} {Q : Value → Shared → Prop} (N : News h₀ L s.heap news) (ha : (a, listOf xs n) ∈ news) (hb : (b, listOf ys k) ∈ news) (hc : (xs.size != ys.size) = true) (hu : A.units < cLine) (h : Q (.bool false) s) :
    wpAny (model prog w) A (compareOp .Eq (.ref a) (.ref b)) Q E s :=
  cmp_ofEq (richCompare_meets_room (N.isList ha).typeIs (N.isList hb).typeIs PySem.F.slot_list_eq PySem.F.entry_list_eq (PySem.F.args_list_eq_2 _ _) (PySem.SeqAt.list_eq_lengthsAt a b xs ys n k none none #[] #[] hc) ⟨N.get ha, N.get hb, by exact ⟨(fun e => nomatch e), h⟩⟩ hu)
theorem eq_nils {L a b : Addr} {news : List (Addr × Obj)} {n k : Nat} {Q : Value → Shared → Prop} (N : News h₀ L s.heap news) (ha : (a, listOf #[] n) ∈ news) (hb : (b, listOf #[] k) ∈ news) (hu : A.units + 64 < cLine) (h : Q (.bool true) s) :
    wpAny (model prog w) A (compareOp .Eq (.ref a) (.ref b)) Q E s :=
  eq_intsK (vs := []) (us := []) (ns := []) (ms := []) (N.isList ha) .nil (N.isList hb) .nil hu (by simpa using h)
end
theorem range_two (k : Nat) (hk : k ≤ 500) : Builtin.Range.small 0 ((k : Int) - 1) 2 = true ∧ Builtin.Range.rangeSize 0 ((k : Int) - 1) 2 = ((k / 2 : Nat) : Int) := by
  have e : Builtin.Range.rangeSize 0 ((k : Int) - 1) 2 = ((k / 2 : Nat) : Int) := by
    unfold Builtin.Range.rangeSize
    simp only [show (2 : Int) > 0 by decide, if_true]
    split <;> omega
  refine ⟨?_, e⟩
  unfold Builtin.Range.small
  rw [e]
  unfold Builtin.Range.rangeFitsLong
  simp only [Bool.and_eq_true, Bool.or_eq_true, decide_eq_true_eq, beq_iff_eq, show (2 : Int) > 0 by decide, if_true]
  omega
theorem range_one (k : Nat) (hk : k ≤ 500) : Builtin.Range.small 1 (k : Int) 1 = true ∧ Builtin.Range.rangeSize 1 (k : Int) 1 = ((k - 1 : Nat) : Int) := by
  have e : Builtin.Range.rangeSize 1 (k : Int) 1 = ((k - 1 : Nat) : Int) := by
    unfold Builtin.Range.rangeSize
    simp only [show (1 : Int) > 0 by decide, if_true]
    split <;> omega
  refine ⟨?_, e⟩
  unfold Builtin.Range.small
  rw [e]
  unfold Builtin.Range.rangeFitsLong
  simp only [Bool.and_eq_true, Bool.or_eq_true, decide_eq_true_eq, beq_iff_eq, show (1 : Int) > 0 by decide, if_true]
  omega
theorem range_zero (k : Nat) (hk : k ≤ 500) : Builtin.Range.small 0 (k : Int) 1 = true ∧ Builtin.Range.rangeSize 0 (k : Int) 1 = (k : Int) := by
  have e : Builtin.Range.rangeSize 0 (k : Int) 1 = (k : Int) := by
    unfold Builtin.Range.rangeSize
    simp only [show (1 : Int) > 0 by decide, if_true]
    split <;> omega
  refine ⟨?_, e⟩
  unfold Builtin.Range.small
  rw [e]
  unfold Builtin.Range.rangeFitsLong
  simp only [Bool.and_eq_true, Bool.or_eq_true, decide_eq_true_eq, beq_iff_eq, show (1 : Int) > 0 by decide, if_true]
  omega

end

-- part SzF
section
local macro_rules | `(tactic| k_room) => `(tactic| ((try simp only [depth_under_make, depth_under_kw, depth_in1, depth_deeper, depth_caller]); (try dsimp only [ktrTop]); omega))
local macro_rules | `(tactic| k_units) => `(tactic| ((try simp only [units_in1, units_deeper, Around.mark_units, units_caller]); (try dsimp only [ktrTop]); (have hcL9 := cLine_is); omega))
local macro_rules | `(tactic| walk_at "mine in") => `(tactic| (intro p9 m9; first | exact m9 | (repeat (first | exact m9 | refine List.Mem.tail _ ?_))))
local macro_rules | `(tactic| walk_at "eval Call") => `(tactic| (k_here; k_dflt (refine Call_ ?_)))
local macro_rules | `(tactic| walk_at "mine dec") => `(tactic| first | with_reducible assumption | decide | ((try simp only [decide_eq_true_eq, decide_eq_false_iff_not, beq_iff_eq, bne_iff_ne, ne_eq, Bool.not_eq_true, Bool.not_eq_false, beq_eq_false_iff_ne, bne_eq_false_iff_eq]); omega))
local macro_rules | `(tactic| walk_at "ite") => `(tactic| (k_here; k_dflt (first | (refine ite_pos (by walk_at "mine dec") ?_) | (refine ite_neg (by walk_at "mine dec") ?_))))
local macro_rules | `(tactic| k_mem) => `(tactic| first | with_reducible assumption | exact List.Mem.head _ | (refine' List.mem_cons_of_mem _ ?_; k_mem))
local macro_rules | `(tactic| k_all) => `(tactic| first | assumption | exact OffTail.use (by assumption))
local macro_rules | `(tactic| k_lt $h:ident) => `(tactic| ((have hne9 := OffTail.of $h); (have hlt9 := LtTail.of $h); (repeat (replace hne9 := OffTail.cons hne9)); (repeat (replace hlt9 := LtTail.cons hlt9)); replace $h := allLt_of $h; (try simp only [AllLt, and_true] at $h:ident)))
local macro_rules | `(tactic| k_is) => `(tactic| exact OrderOK.keep (by with_reducible assumption))
local macro_rules | `(tactic| walk_at "mine len") => `(tactic| (have hsz9 := sizeLine_eq; simp only [List.size_toArray, List.length_append, List.length_cons, List.length_nil, List.length_drop, List.length_take] at *; omega))

local macro_rules | `(tactic| walk_at "call type:range") => `(tactic| ((rename Fr _ _ _ _ => F'); (rename News _ _ _ _ => N'); with_unfolding_all first
  | (refine range1_rows F' N' ?_; intro _ _ _ _ _ _ _ _ _)
  | (refine range2_rows F' N' ?_; intro _ _ _ _ _ _ _ _ _)
  | (refine range3_rows F' N' (by decide) ?_; intro _ _ _ _ _ _ _ _ _)))
local macro_rules | `(tactic| walk_at "CompSrc") => `(tactic| (k_here; k_dflt (refine LCg.CompSrc.ledger (by rfl) (by k_asm) (by k_asm) (by k_mem) (by walk_at "mine len") ?_; intro g')))
local macro_rules | `(tactic| walk_at "mine stop") => `(tactic| first | (with_reducible show wpAny _ _ (exec (PySem.Stmt.While _ _ _ _) _) _ _ _) | (with_reducible show wpAny _ _ (pyIter _) _ _ _) | (with_reducible show LCg.CompRest _ _ _ _ _ _ _ _ _ _ _ _ _ _ _ _ _ _ _) | (with_reducible show LCg.CompEnd _ _ _ _ _ _ _ _ _ _ _ _ _ _) | (with_reducible show UnrPost _ _ _ _ _ _ _ _ _) | (with_reducible show UnrEnd _ _ _ _ _ _ _))
local macro_rules | `(tactic| walk_at "mine till") => `(tactic| repeat' ((fail_if_success (walk_at "mine stop")); first | (k_unfold; (try dsimp only)) | walk1 | (dsimp only; walk1)))

theorem passRuns_length (cmp : Value → Value → Int) : ∀ xss : List (List Value), (passRuns cmp xss).length = (xss.length + 1) / 2
  | [] => rfl
  | [_] => by simp [passRuns]
  | a :: b :: r => by
    have ih := passRuns_length cmp r
    simp only [passRuns, List.length_cons, ih]
    omega
theorem passRuns_get (cmp : Value → Value → Int) : ∀ (xss : List (List Value)) (i : Nat) (h : 2 * i + 1 < xss.length), (passRuns cmp xss)[i]? = some (mrg cmp xss[2 * i] xss[2 * i + 1])
  | [], i, h => absurd h (Nat.not_lt_zero _)
  | [_], i, h => by simp at h
  | a :: b :: r, 0, _ => by simp [passRuns]
  | a :: b :: r, i + 1, h => by
    have ih := passRuns_get cmp r i (by simp only [List.length_cons] at h; omega)
    simp only [passRuns, List.getElem?_cons_succ, ih]
    rfl
theorem passRuns_last (cmp : Value → Value → Int) : ∀ (xss : List (List Value)) (_ : xss.length % 2 = 1), passRuns cmp xss = (passRuns cmp xss).take (xss.length / 2) ++ [xss.getD (xss.length - 1) []]
  | [], h => by simp at h
  | [x], _ => by simp [passRuns]
  | a :: b :: r, h => by
    have h' : r.length % 2 = 1 := by simp only [List.length_cons] at h; omega
    have ih := passRuns_last cmp r h'
    have e1 : (a :: b :: r).length / 2 = r.length / 2 + 1 := by simp only [List.length_cons]; omega
    have e2 : (a :: b :: r).length - 1 = (r.length - 1) + 1 + 1 := by simp only [List.length_cons]; omega
    rw [e1, e2]
    simp only [passRuns, List.take_succ_cons, List.cons_append, List.getD_cons_succ]
    rw [← ih]
theorem passes_mem (cmp : Value → Value → Int) {xss : List (List Value)} {P : Value → Prop} (h : ∀ xs ∈ xss, ∀ v ∈ xs, P v) : ∀ xs ∈ passRuns cmp xss, ∀ v ∈ xs, P v := by
  have go : ∀ n (xss : List (List Value)), xss.length ≤ n → (∀ xs ∈ xss, ∀ v ∈ xs, P v) → ∀ xs ∈ passRuns cmp xss, ∀ v ∈ xs, P v := by
    intro n
    induction n with
    | zero => intro xss hn h; have e : xss = [] := List.eq_nil_of_length_eq_zero (by omega); subst e; exact h
    | succ n ih =>
      intro xss hn h
      match xss, h with
      | [], h => exact h
      | [x], h => exact h
      | a :: b :: r, h =>
        intro xs hx v hv
        rcases List.mem_cons.mp hx with rfl | hx
        · rcases List.mem_merge.mp hv with hv | hv
          · exact h a (.head _) v hv
          · exact h b (.tail _ (.head _)) v hv
        · exact ih r (by simp only [List.length_cons] at hn; omega) (fun ys hy => h ys (.tail _ (.tail _ hy))) xs hx v hv
  exact go _ xss (Nat.le_refl _) h
theorem passRuns_sum (cmp : Value → Value → Int) : ∀ xss : List (List Value), ((passRuns cmp xss).map List.length).sum = (xss.map List.length).sum
  | [] => rfl
  | [_] => rfl
  | a :: b :: r => by
    have ih := passRuns_sum cmp r
    simp only [passRuns, List.map_cons, List.sum_cons, ih, mrg_length]
    omega
/-- what holds of the runs: their items are vs's, their sizes sum up -/
def RunsOK (vs : List Value) (xss : List (List Value)) : Prop := (∀ xs ∈ xss, ∀ v ∈ xs, v ∈ vs) ∧ (xss.map List.length).sum = vs.length ∧ xss.length ≤ vs.length
theorem RunsOK.pass {cmp : Value → Value → Int} {vs : List Value} {xss : List (List Value)} (h : RunsOK vs xss) : RunsOK vs (passRuns cmp xss) := ⟨passes_mem cmp h.1, (passRuns_sum cmp xss).trans h.2.1, by have := h.2.2; rw [passRuns_length]; omega⟩
theorem RunsOK.one (vs : List Value) : RunsOK vs (vs.map fun v => [v]) := by
  refine ⟨fun xs hx v hv => ?_, ?_, by simp⟩
  · obtain ⟨u, hu, rfl⟩ := List.mem_map.mp hx
    rw [List.mem_singleton.mp hv]; exact hu
  · induction vs with
    | nil => rfl
    | cons v r ih => simp only [List.map_cons, List.sum_cons, ih, List.length_cons, List.length_nil]; omega
theorem len_le_sum : ∀ (xss : List (List Value)) {i j : Nat} (hij : i < j) (hj : j < xss.length), (xss[i]'(by omega)).length + xss[j].length ≤ (xss.map List.length).sum := by
  have one : ∀ (xss : List (List Value)) (j : Nat) (hj : j < xss.length), xss[j].length ≤ (xss.map List.length).sum := by
    intro xss
    induction xss with
    | nil => intro j hj; exact absurd hj (Nat.not_lt_zero _)
    | cons x r ih =>
      intro j hj
      cases j with
      | zero => simp only [List.getElem_cons_zero, List.map_cons, List.sum_cons]; omega
      | succ j =>
        have := ih j (by simpa using hj)
        simp only [List.getElem_cons_succ, List.map_cons, List.sum_cons]; omega
  intro xss
  induction xss with
  | nil => intro i j _ hj; exact absurd hj (Nat.not_lt_zero _)
  | cons x r ih =>
    intro i j hij hj
    cases j with
    | zero => omega
    | succ j =>
      cases i with
      | zero =>
        have := one r j (by simpa using hj)
        simp only [List.getElem_cons_zero, List.getElem_cons_succ, List.map_cons, List.sum_cons]
        omega
      | succ i =>
        have := ih (i := i) (j := j) (by omega) (by simpa using hj)
        simp only [List.getElem_cons_succ, List.map_cons, List.sum_cons]
        omega
/-- the item at an index, said with the index as it is reckoned -/
def ItemAt (rs : List Value) (k : Int) (v : Value) : Prop := ∃ j : Nat, k = (j : Int) ∧ rs[j]? = some v
section
variable {prog : Program} {w : World} {A : Around} {E : Value → Shared → Prop} {s : Shared} {h₀ : Heap} {L l D R₀ : Addr} {env : Env} {m mB : Str → Option Value} {news : List (Addr × Obj)} {cmp : Value → Value → Int} {vs : List Value}
theorem item_K {value slice : PySem.Expr} {rs : List Value} {n : Nat} {k : Int} {u : Tok} {v : Value} {Q : Value → Shared → Prop} (N : News h₀ L s.heap news) (hm : (l, listOf rs.toArray n) ∈ news) (hx : ItemAt rs k v) (hz : rs.length ≤ 1000) (h : Q v s)
    (hs : subscripted slice false (.ref l) (.int k u) = operate [.ref l, .int k u] (getItem (.ref l) (.int k u))) :
    wpAny (model prog w) A (subscriptTail value slice (.ref l) (.int k u)) Q E s := by
  obtain ⟨j, rfl, hx⟩ := hx
  exact item_L N hm hx hz h hs
def rMap (mB : Str → Option Value) (R : Addr) (u1 u2 : Option Value) : Str → Option Value := fun y => if y = Str.ofString "runs" then some (.ref R) else if y = Str.ofString "later" then u1 else if y = Str.ofString "at" then u2 else mB y
def RStep (h₀ : Heap) (L : Addr) (s : Shared) (news : List (Addr × Obj)) (cmp : Value → Value → Int) (mB : Str → Option Value) (xss : List (List Value)) (f : Flow) (s₃ : Shared) : Prop :=
  f = .next ∧ ∃ h' tk' R' rs' c' u1' u2' led', s₃ = { s with heap := h', toks := tk' } ∧ Fr h₀ L h' (rMap mB R' u1' u2') ∧ News h₀ L h' led' ∧ (R', listOf (List.toArray rs') c') ∈ led' ∧ RunsAre led' rs' (passRuns cmp xss) ∧ (∀ p ∈ news, p ∈ led') ∧ 1 < xss.length
theorem while_runs {test : Expr} {body : List Stmt} {pos : Pos} {Q : Flow → Shared → Prop} {c₀ : Nat} {rs₀ : List Value} {led₀ : List (Addr × Obj)}
    (F : Fr h₀ L s.heap (fun y => if y = Str.ofString "runs" then some (.ref R₀) else mB y)) (N : News h₀ L s.heap led₀) (hm : (R₀, listOf (List.toArray rs₀) c₀) ∈ led₀) (hR : RunsAre led₀ rs₀ (vs.map fun v => [v])) (hsub : ∀ p ∈ news, p ∈ led₀)
    (turn : ∀ R rs c xss k u1 u2 led h tk, xss = passes cmp (vs.map fun v => [v]) k → RunsOK vs xss → (R, listOf (List.toArray rs) c) ∈ led → RunsAre led rs xss → (∀ p ∈ news, p ∈ led) →
      Fr h₀ L h (fun y => if y = Str.ofString "runs" then some (.ref R) else if y = Str.ofString "later" then u1 else if y = Str.ofString "at" then u2 else mB y) → News h₀ L h led →
      wpAny (model prog w) A (isTrue test env (eval test env)) (fun b s₂ =>
        if b = true then wpAny (model prog w) A (execs body env) (RStep h₀ L s news cmp mB xss) E s₂ else Q .next s₂) E { s with heap := h, toks := tk })
    (hE : PassesOwn (model prog w) A env E := by passes_own) :
    wpAny (model prog w) A (exec (.While test body [] pos) env) Q E s := by
  have e0 : (fun y => if y = Str.ofString "runs" then some (Value.ref R₀) else mB y) = rMap mB R₀ (mB (Str.ofString "later")) (mB (Str.ofString "at")) := by
    funext y
    unfold rMap
    by_cases h1 : y = Str.ofString "runs"
    · rw [if_pos h1, if_pos h1]
    · by_cases h2 : y = Str.ofString "later"
      · rw [if_neg h1, if_neg h1, if_pos h2, h2]
      · by_cases h3 : y = Str.ofString "at"
        · rw [if_neg h1, if_neg h1, if_neg h2, if_pos h3, h3]
        · rw [if_neg h1, if_neg h1, if_neg h2, if_neg h3]
  rw [e0] at F
  refine While_inv2 (fun n m led => ∃ R rs c xss k u1 u2, n = xss.length ∧ xss = passes cmp (vs.map fun v => [v]) k ∧ RunsOK vs xss ∧ (R, listOf (List.toArray rs) c) ∈ led ∧ RunsAre led rs xss ∧ (∀ p ∈ news, p ∈ led) ∧ m = rMap mB R u1 u2)
    (n₀ := (vs.map fun v => [v]).length) F N ⟨R₀, rs₀, c₀, _, 0, _, _, rfl, rfl, RunsOK.one vs, hm, hR, hsub, rfl⟩ ?_ hE
  rintro n m₁ led h tk F₁ N₁ ⟨R, rs, c, xss, k, u1, u2, rfl, hk, hok, hm', hR', hsub', rfl⟩
  refine wpAny_mono (turn R rs c xss k u1 u2 led h tk hk hok hm' hR' hsub' F₁ N₁) (fun b s₂ hb => ?_) fun _ _ x => x
  cases b with
  | false => simpa using hb
  | true =>
    simp only [if_true] at hb ⊢
    refine wpAny_mono hb (fun f s₃ hf => ?_) fun _ _ x => x
    obtain ⟨rfl, h', tk', R', rs', c', u1', u2', led', rfl, F', N', hm9, hR9, hsub9, hlt⟩ := hf
    exact ⟨h', tk', _, led', (passRuns cmp xss).length, rfl, F', N', by rw [passRuns_length]; omega, R', rs', c', passRuns cmp xss, k + 1, u1', u2', rfl, by rw [hk]; rfl, hok.pass, hm9, hR9, hsub9, rfl⟩
def atMap (mC : Str → Option Value) (La : Addr) (u : Option Value) : Str → Option Value := fun y => if y = Str.ofString "at" then u else if y = Str.ofString "later" then some (.ref La) else mC y
def PInv (La : Addr) (led1 : List (Addr × Obj)) (mC : Str → Option Value) (cmp : Value → Value → Int) (xss : List (List Value)) (i : Nat) (m : Str → Option Value) (ld : List (Addr × Obj)) : Prop :=
  ∃ u ys c ld9, ld = (La, listOf (List.toArray ys) c) :: ld9 ∧ OffTail La ld9 ∧ RunsAre ld9 ys ((passRuns cmp xss).take i) ∧ (∀ p ∈ led1, p ∈ ld9) ∧ m = atMap mC La u
theorem for_pairs {r La : Addr} {b : Int} {t₀ u₀ v₀ : Tok} {c9 : Nat} {led1 : List (Addr × Obj)} {mC : Str → Option Value} {body : List Stmt} {xss : List (List Value)} {Q : Flow → Shared → Prop}
    (hh : A.handled = none) (hr : IsRange s.heap r 0 b 2 t₀ u₀ v₀) (hsmall : Builtin.Range.small 0 b 2 = true) (hn : Builtin.Range.rangeSize 0 b 2 = ((xss.length / 2 : Nat) : Int))
    (F : Fr h₀ env.locals s.heap (fun y => if y = Str.ofString "later" then some (.ref La) else mC y)) (N : News h₀ env.locals s.heap ((La, listOf (List.toArray []) c9) :: led1)) (hLa : ∀ p ∈ led1, p.1 < La)
    (turn : ∀ i I ys c ld t h tk, 2 * i + 1 < xss.length → OffTail La ld → La ≠ I → OffTail I ld → RunsAre ld ys ((passRuns cmp xss).take i) → (∀ p ∈ led1, p ∈ ld) →
      Fr h₀ env.locals h (fun y => if y = Str.ofString "at" then some (.int (0 + (i : Int) * 2) t) else if y = Str.ofString "later" then some (.ref La) else mC y) →
      News h₀ env.locals h ((I, krsIt (0 + ((i + 1 : Nat) : Int) * 2) (((xss.length / 2 : Nat) : Int) - ((i + 1 : Nat) : Int)) 2) :: (La, listOf (List.toArray ys) c) :: ld) →
      wpAny (model prog w) A (execs body env) (UnrPost h₀ env.locals { s with heap := h, toks := tk } I (krsIt (0 + ((i + 1 : Nat) : Int) * 2) (((xss.length / 2 : Nat) : Int) - ((i + 1 : Nat) : Int)) 2) (PInv La led1 mC cmp xss (i + 1)) Q) E { s with heap := h, toks := tk })
    (done : ∀ u ys c ld h tk, OffTail La ld → RunsAre ld ys ((passRuns cmp xss).take (xss.length / 2)) → (∀ p ∈ led1, p ∈ ld) →
      Fr h₀ env.locals h (fun y => if y = Str.ofString "at" then u else if y = Str.ofString "later" then some (.ref La) else mC y) → News h₀ env.locals h ((La, listOf (List.toArray ys) c) :: ld) → Q .next { s with heap := h, toks := tk }) :
    wpAny (model prog w) A (pyIter (.ref r)) (fun it s₂ => LoopAtV prog w A h₀ env (Str.ofString "at") body Q E it s₂) E s := by
  have e0 : (fun y => if y = Str.ofString "later" then some (Value.ref La) else mC y) = atMap mC La (mC (Str.ofString "at")) := by
    funext y
    unfold atMap
    by_cases h3 : y = Str.ofString "at"
    · rw [if_pos h3, h3, if_neg (by decide)]
    · rw [if_neg h3]
  rw [e0] at F
  refine range_inv (PInv La led1 mC cmp xss) hh hr hsmall hn F N ⟨_, [], c9, led1, rfl, OffTail.of hLa, by simpa using RunsAre.nil, fun p hp => hp, rfl⟩ ?_ ?_
  · rintro i I m ld t h tk hi ⟨u, ys, c, ld9, rfl, hoff, hR, hsub, rfl⟩ hI F1 N1
    have e1 : (fun y => if y = Str.ofString "at" then some (Value.int (0 + (i : Int) * 2) t) else atMap mC La u y) = fun y => if y = Str.ofString "at" then some (Value.int (0 + (i : Int) * 2) t) else if y = Str.ofString "later" then some (.ref La) else mC y := by
      funext y
      unfold atMap
      by_cases h3 : y = Str.ofString "at"
      · rw [if_pos h3, if_pos h3]
      · rw [if_neg h3, if_neg h3, if_neg h3]
    rw [e1] at F1
    exact turn i I ys c ld9 t h tk (by omega) hoff (hI _ (.head _)) (fun p hp => hI p (.tail _ hp)) hR hsub F1 N1
  · rintro m ld h tk ⟨u, ys, c, ld9, rfl, hoff, hR, hsub, rfl⟩ F1 N1
    exact done u ys c ld9 h tk hoff hR hsub F1 N1
theorem pair_end {La I D9 : Addr} {it : Obj} {led1 ld : List (Addr × Obj)} {mC : Str → Option Value} {xss : List (List Value)} {ys xs : List Value} {i c c9 : Nat} {h' : Heap} {tk : Nat} {v : Value}
    (hi : (passRuns cmp xss)[i]? = some xs) (hoff : OffTail La ld) (hoI : OffTail I ld) (hR : RunsAre ld ys ((passRuns cmp xss).take i)) (hsub : ∀ p ∈ led1, p ∈ ld) (h1 : D9 ≠ La) (h2 : D9 ≠ I) (h3 : La ≠ I)
    (F : Fr h₀ L h' (fun y => if y = Str.ofString "at" then some v else if y = Str.ofString "later" then some (.ref La) else mC y))
    (N : News h₀ L h' ((D9, listOf (List.toArray xs) c9) :: (I, it) :: (La, listOf (List.toArray (ys ++ [.ref D9])) c) :: ld)) : UnrEnd h₀ L s I it (PInv La led1 mC cmp xss (i + 1)) { s with heap := h', toks := tk } := by
  refine ⟨h', tk, _, (La, listOf (List.toArray (ys ++ [.ref D9])) c) :: (D9, listOf (List.toArray xs) c9) :: ld, rfl, F, fun p hp => N p ?_, fun p hp => ?_, some v, ys ++ [.ref D9], c, (D9, listOf (List.toArray xs) c9) :: ld, rfl, fun p hp => ?_, ?_, fun p hp => .tail _ (hsub p hp), rfl⟩
  · simp only [List.mem_cons] at hp ⊢
    rcases hp with h | h | h | h
    · exact .inr (.inl h)
    · exact .inr (.inr (.inl h))
    · exact .inl h
    · exact .inr (.inr (.inr h))
  · rcases List.mem_cons.mp hp with rfl | hp
    · exact h3
    · rcases List.mem_cons.mp hp with rfl | hp
      · exact h2
      · exact hoI p hp
  · rcases List.mem_cons.mp hp with rfl | hp
    · exact h1
    · exact hoff p hp
  · rw [List.take_add_one, hi]
    exact (hR.mono fun p hp => .tail _ hp).snoc (.head _)
end

end

-- part SzG
section
local macro_rules | `(tactic| k_room) => `(tactic| ((try simp only [depth_under_make, depth_under_kw, depth_in1, depth_deeper, depth_caller]); (try dsimp only [ktrTop]); omega))
local macro_rules | `(tactic| k_units) => `(tactic| ((try simp only [units_in1, units_deeper, Around.mark_units, units_caller]); (try dsimp only [ktrTop]); (have hcL9 := cLine_is); omega))
local macro_rules | `(tactic| walk_at "mine in") => `(tactic| (intro p9 m9; first | exact m9 | (repeat (first | exact m9 | refine List.Mem.tail _ ?_))))
local macro_rules | `(tactic| walk_at "eval Call") => `(tactic| (k_here; k_dflt (refine Call_ ?_)))
local macro_rules | `(tactic| walk_at "mine dec") => `(tactic| first | with_reducible assumption | decide | ((try simp only [decide_eq_true_eq, decide_eq_false_iff_not, beq_iff_eq, bne_iff_ne, ne_eq, Bool.not_eq_true, Bool.not_eq_false, beq_eq_false_iff_ne, bne_eq_false_iff_eq]); omega))
local macro_rules | `(tactic| walk_at "ite") => `(tactic| (k_here; k_dflt (first | (refine ite_pos (by walk_at "mine dec") ?_) | (refine ite_neg (by walk_at "mine dec") ?_))))
local macro_rules | `(tactic| k_mem) => `(tactic| first | with_reducible assumption | exact List.Mem.head _ | (refine' List.mem_cons_of_mem _ ?_; k_mem))
local macro_rules | `(tactic| k_all) => `(tactic| first | assumption | exact OffTail.use (by assumption))
local macro_rules | `(tactic| k_lt $h:ident) => `(tactic| ((have hne9 := OffTail.of $h); (have hlt9 := LtTail.of $h); (repeat (replace hne9 := OffTail.cons hne9)); (repeat (replace hlt9 := LtTail.cons hlt9)); replace $h := allLt_of $h; (try simp only [AllLt, and_true] at $h:ident)))
local macro_rules | `(tactic| k_is) => `(tactic| exact OrderOK.keep (by with_reducible assumption))
local macro_rules | `(tactic| walk_at "mine len") => `(tactic| (have hsz9 := sizeLine_eq; simp only [List.size_toArray, List.length_append, List.length_cons, List.length_nil, List.length_drop, List.length_take] at *; omega))

local macro_rules | `(tactic| walk_at "call type:range") => `(tactic| ((rename Fr _ _ _ _ => F'); (rename News _ _ _ _ => N'); with_unfolding_all first
  | (refine range1_rows F' N' ?_; intro _ _ _ _ _ _ _ _ _)
  | (refine range2_rows F' N' ?_; intro _ _ _ _ _ _ _ _ _)
  | (refine range3_rows F' N' (by decide) ?_; intro _ _ _ _ _ _ _ _ _)))
local macro_rules | `(tactic| walk_at "CompSrc") => `(tactic| (k_here; k_dflt (refine LCg.CompSrc.ledger (by rfl) (by k_asm) (by k_asm) (by k_mem) (by walk_at "mine len") ?_; intro g')))
local macro_rules | `(tactic| walk_at "mine stop") => `(tactic| first | (with_reducible show wpAny _ _ (exec (PySem.Stmt.While _ _ _ _) _) _ _ _) | (with_reducible show wpAny _ _ (pyIter _) _ _ _) | (with_reducible show LCg.CompRest _ _ _ _ _ _ _ _ _ _ _ _ _ _ _ _ _ _ _) | (with_reducible show LCg.CompEnd _ _ _ _ _ _ _ _ _ _ _ _ _ _) | (with_reducible show UnrPost _ _ _ _ _ _ _ _ _) | (with_reducible show UnrEnd _ _ _ _ _ _ _))
local macro_rules | `(tactic| walk_at "mine till") => `(tactic| repeat' ((fail_if_success (walk_at "mine stop")); first | (k_unfold; (try dsimp only)) | walk1 | (dsimp only; walk1)))

local macro_rules | `(tactic| walk_at "call builtin:len") => `(tactic| (k_here; k_dflt (refine' len_L ?N ?m ?z ?_; (case N => k_asm); (case m => k_mem); (case z => first | assumption | omega | walk_at "mine len"); k_whole)))
local macro_rules | `(tactic| walk_at "subscriptTail Name") => `(tactic| (k_here; k_dflt (refine' item_K ?N ?m ?x ?z ?_ ?s; (case N => k_asm); (case m => k_mem); (case x => assumption); (case z => first | omega | walk_at "mine len"); (case s => with_unfolding_all rfl); k_whole)))
local macro_rules | `(tactic| walk_at "call builtin:list.append") => `(tactic| (k_here; k_dflt (refine' append_L ?F ?N ?U ?z ?_; (case F => k_asm); (case N => k_asm); (case U => k_updF); (case z => first | omega | walk_at "mine len"); k_whole); intro h' c' F' N'; (try dsimp only at N'); (try k_sweep)))
local macro_rules | `(tactic| walk_at "compareOp Eq ref ref") => `(tactic| (k_here; k_dflt (first | (refine' eq_lens ?N ?a ?b ?c ?u ?_; (case N => k_asm); (case a => k_mem); (case b => k_mem); (case c => rfl); (case u => k_units); k_whole) | (refine' eq_nils ?N ?a ?b ?u ?_; (case N => k_asm); (case a => k_mem); (case b => k_mem); (case u => k_units); k_whole))))
local macro_rules | `(tactic| walk_at "call ref") => `(tactic| (k_here; k_dflt (refine' cl_use (merged_ok _ _ _ _ _ _ _ _ ?qO _ _ _ _ _ _ _ ?qA ?qB ?qF ?qG ?qH) ?k1 ?k2 ?k3 ?k4 ?k5 ?kK ?kd ?ku ?_; (case k1 => k_asm); (case k2 => k_asm); (case k3 => k_asm); (case k4 => k_asm); (case k5 => k_asm); (case kK => first | exact rfl | assumption); (case qO => assumption); (case qA => k_mem); (case qB => k_mem); (case qF => exact ItemsOK.up (by assumption) (by walk_at "mine in")); (case qG => exact ItemsOK.up (by assumption) (by walk_at "mine in")); (case qH => first | assumption | omega); (case kd => k_room); (case ku => k_units); (try k_sweep); intro r9 n9 h9 tk9 F9 N9 o9; (obtain ⟨D9, c9, q9, e9, l9⟩ := o9; subst e9; subst q9; (try k_lt l9)); (try k_sweep); (try dsimp only))))
/-- the last item -/
def ItemLast (rs : List Value) (v : Value) : Prop := rs[rs.length - 1]? = some v
section
variable {prog : Program} {w : World} {A : Around} {E : Value → Shared → Prop} {s : Shared} {h₀ : Heap} {L l La R : Addr} {mB : Str → Option Value} {news ld : List (Addr × Obj)} {cmp : Value → Value → Int}
theorem item_last {value slice : PySem.Expr} {rs : List Value} {n : Nat} {u : Tok} {v : Value} {Q : Value → Shared → Prop} (N : News h₀ L s.heap news) (hm : (l, listOf rs.toArray n) ∈ news) (hx : ItemLast rs v) (hz : rs.length ≤ 1000) (h : Q v s)
    (hs : subscripted slice false (.ref l) (.int (-1) u) = operate [.ref l, .int (-1) u] (getItem (.ref l) (.int (-1) u))) :
    wpAny (model prog w) A (subscriptTail value slice (.ref l) (.int (-1) u)) Q E s := by
  obtain ⟨hi, _⟩ := List.getElem?_eq_some_iff.mp hx
  have hx' : rs[rs.length - 1]? = some v := hx
  have e : ((-1 : Int) + ((rs.toArray.size : Nat) : Int)).toNat = rs.length - 1 := by rw [List.size_toArray]; omega
  exact tail_any (N.isList hm).typeIs slot_list_getitem.lookup (wpAny_getItem_list_neg (N.isList hm) (by decide) (by rw [List.size_toArray]; omega) (by decide) (by rw [e]; simpa using hx') h) hs
theorem runs_end {xss : List (List Value)} {ys : List Value} {c : Nat} {h' : Heap} {tk' : Nat} {u u1 u2 : Option Value} (hR : RunsAre ld ys (passRuns cmp xss))
    (F : Fr h₀ L h' (fun y => if y = Str.ofString "runs" then some (.ref La) else if y = Str.ofString "at" then u else if y = Str.ofString "later" then some (.ref La) else if y = Str.ofString "runs" then some (.ref R) else if y = Str.ofString "later" then u1 else if y = Str.ofString "at" then u2 else mB y))
    (N : News h₀ L h' ((La, listOf (List.toArray ys) c) :: ld)) (hsub : ∀ p ∈ news, p ∈ ld) (hgt : 1 < xss.length) : RStep h₀ L s news cmp mB xss .next { s with heap := h', toks := tk' } := by
  refine ⟨rfl, h', tk', La, ys, c, some (.ref La), u, (La, listOf (List.toArray ys) c) :: ld, rfl, ?_, N, .head _, hR.mono fun p hp => .tail _ hp, fun p hp => .tail _ (hsub p hp), hgt⟩
  have e : (fun y => if y = Str.ofString "runs" then some (Value.ref La) else if y = Str.ofString "at" then u else if y = Str.ofString "later" then some (.ref La) else if y = Str.ofString "runs" then some (.ref R) else if y = Str.ofString "later" then u1 else if y = Str.ofString "at" then u2 else mB y) = rMap mB La (some (.ref La)) u := by
    funext y
    unfold rMap
    by_cases h1 : y = Str.ofString "runs"
    · rw [if_pos h1, if_pos h1]
    · by_cases h2 : y = Str.ofString "later"
      · have h3 : ¬ y = Str.ofString "at" := by rw [h2]; decide
        rw [if_neg h1, if_neg h3, if_pos h2, if_neg h1, if_pos h2]
      · by_cases h3 : y = Str.ofString "at"
        · rw [if_neg h1, if_pos h3, if_neg h1, if_neg h2, if_pos h3]
        · rw [if_neg h1, if_neg h3, if_neg h2, if_neg h1, if_neg h2, if_neg h3, if_neg h1, if_neg h2, if_neg h3]
  rw [← e]; exact F
end
local macro_rules | `(tactic| walk_at "subscriptTail Name UnaryOp ref int") => `(tactic| (k_here; k_dflt (refine' item_last ?N ?m ?x ?z ?_ ?s; (case N => k_asm); (case m => k_mem); (case x => assumption); (case z => first | omega | walk_at "mine len"); (case s => with_unfolding_all rfl); k_whole)))
/-- the members sorted by merges, in a list of their own -/
def OutM (cmp : Value → Value → Int) (vs : List Value) (news : List (Addr × Obj)) (r : Value) (news' : List (Addr × Obj)) : Prop := ∃ ys D c, IsMsort cmp vs ys ∧ r = .ref D ∧ news' = (D, listOf (List.toArray ys) c) :: news
theorem end_M {h₀ h' : Heap} {L D : Addr} {m : Str → Option Value} {s : Shared} {Q : Value → Shared → Prop} {news led : List (Addr × Obj)} {cmp : Value → Value → Int} {vs ys : List Value} {c tk' : Nat}
    (hret : ∀ r news' h' tk', Fr h₀ L h' m → News h₀ L h' news' → OutM cmp vs news r news' → Q r { s with heap := h', toks := tk' }) (hM : IsMsort cmp vs ys) (F : Fr h₀ L h' m) (N : News h₀ L h' led) (hD : (D, listOf (List.toArray ys) c) ∈ led) (hs : ∀ p ∈ news, p ∈ led) : Q (.ref D) { s with heap := h', toks := tk' } :=
  hret _ ((D, listOf (List.toArray ys) c) :: news) _ _ F (fun p hp => by
    rcases List.mem_cons.mp hp with rfl | hp
    · exact N _ hD
    · exact N _ (hs p hp)) ⟨ys, D, c, hM, rfl, rfl⟩
section
variable (w : World) (mean : ExcName → Option Value) (mg mb : Str → Option Value)
set_option maxHeartbeats 8000000
theorem sorted_ok (need fo : Nat) (P : List (Addr × Obj) → Value → Prop) (cmp : Value → Value → Int) (hO : OrderOK w mean mg mb need fo P cmp) (l : Addr) (vs : List Value) (c0 : Nat) (news : List (Addr × Obj))
    (hl : (l, listOf (List.toArray vs) c0) ∈ news) (hv : ItemsOK P news vs) (hz : vs.length ≤ 63) :
    Cl w mean mg mb (need + 16) 392 [.ref l, .ref fo] news (OutM cmp vs news) := by
  unfold Cl
  k_fill
  intro dp un gd cn cs a ccd cl outer A₀ base h₀ L m s Q E B F X N T hk hd hu hret
  refine wpAny_call ?_
  k_dflt cell_enter
  walk_at "mine till"
  refine compRest_inv (Inv := fun i ys led => RunsAre led ys ((vs.take i).map fun v => [v]) ∧ (∀ p ∈ news, p ∈ led)) ?_ ?_ _ 0 [] news (Nat.zero_add _) ⟨.nil, fun p hp => hp⟩
  · intro i ys led v I oI C oC D m₂ h tk E' hi ⟨hR, hsub⟩ hP hC hx F9 N9 ho hne
    have hPi : vs[i]? = some v := by simpa using hP
    walk_at "mine till"
    refine compEnd1 (by k_asm) (by k_asm) ⟨by k_ne, by k_ne, by k_ne⟩ ho (Or.inr ⟨_, .tail _ (hsub _ hl), rfl, _, rfl⟩) ⟨?_, fun p hp => .tail _ (hsub p hp)⟩
    rw [List.take_add_one, hPi]
    simp only [Option.toList_some, List.map_append, List.map_cons, List.map_nil]
    exact (hR.mono fun p hp => .tail _ hp).snoc (.head _)
  · intro ys led ⟨hR, hsub⟩
    rw [List.take_of_length_le (by simp)] at hR
    walk_at "mine till"
    rename Fr _ _ _ _ => Fw
    rename News _ _ _ _ => Nw
    refine while_runs (vs := vs) (cmp := cmp) (news := news) Fw Nw (.head _) (hR.mono fun p hp => .tail _ hp) (fun p hp => .tail _ (hsub p hp)) ?_ (by passes_own)
    clear Fw Nw
    intro R rs c xss k u1 u2 led1 hh tkk hxk hok hmR hRA hsub1 F1 N1
    have hlen := hRA.length
    have hle := hok.2.2
    by_cases hgt : 1 < xss.length
    · (try k_fold)
      walk_at "mine till"
      rename IsRange _ _ _ _ _ _ _ _ => hRg
      rename Fr _ _ _ _ => Ff
      rename News _ _ _ _ => Nf
      rename LtTail _ _ => hLa
      have hr2 := range_two rs.length (by omega)
      refine for_pairs (xss := xss) (cmp := cmp) (by rfl) hRg hr2.1 (by rw [← hlen]; exact hr2.2) Ff Nf hLa ?_ ?_
      · clear Ff Nf hRg
        intro i I ys9 c9 ld t h9 tk9 hi hoff hne3 hoI hRi hsub9 F9 N9
        obtain ⟨a1, k1, g1, m1⟩ := (hRA.mono hsub9).get (i := 2 * i) (by omega)
        obtain ⟨a2, k2, g2, m2⟩ := (hRA.mono hsub9).get (i := 2 * i + 1) hi
        have hA1 : ItemAt rs (0 + (i : Int) * 2) (.ref a1) := ⟨2 * i, by omega, g1⟩
        have hA2 : ItemAt rs (0 + (i : Int) * 2 + 1) (.ref a2) := ⟨2 * i + 1, by omega, g2⟩
        have hmR9 := hsub9 _ hmR
        have hI1 : ItemsOK P ld xss[2 * i] := fun v hv' news' hs => hv v (hok.1 _ (List.getElem_mem _) v hv') news' (fun p hp => hs p (hsub9 p (hsub1 p hp)))
        have hI2 : ItemsOK P ld xss[2 * i + 1] := fun v hv' news' hs => hv v (hok.1 _ (List.getElem_mem _) v hv') news' (fun p hp => hs p (hsub9 p (hsub1 p hp)))
        have hsz : xss[2 * i].length + xss[2 * i + 1].length ≤ 500 := by
          have q := len_le_sum xss (i := 2 * i) (j := 2 * i + 1) (by omega) hi
          rw [hok.2.1] at q
          omega
        have hys := hRi.length
        rw [List.length_take] at hys
        have hpr := passRuns_get cmp xss i hi
        replace hne3 := neN hne3
        (try k_fold)
        walk_at "mine till"

        (try dsimp only [UnrPost])
        refine' pair_end hpr hoff hoI hRi hsub9 ?p11 ?p21 hne3 ?F91 ?N91
        (case F91 => k_asm)
        (case N91 => k_asm)
        (case p11 => k_ne)
        (case p21 => k_ne)
      · clear Ff Nf hRg
        intro u ys9 c9 ld h9 tk9 hoff hRd hsub9 F9 N9
        have hmR9 := hsub9 _ hmR
        have hys := hRd.length
        rw [List.length_take] at hys
        by_cases hodd : xss.length % 2 = 1
        · obtain ⟨a1, k1, g1, m1⟩ := (hRA.mono hsub9).get (i := xss.length - 1) (by omega)
          have hA1 : ItemLast rs (.ref a1) := by rw [← hlen] at g1; exact g1
          have hfm : (rs.length : Int).fmod 2 = 1 := by rw [Int.fmod_eq_emod_of_nonneg _ (by decide)]; omega
          have hpl := passRuns_last cmp xss hodd
          have hgl : xss.getD (xss.length - 1) [] = xss[xss.length - 1]'(by omega) := by simp [List.getD, List.getElem?_eq_getElem (show xss.length - 1 < xss.length by omega)]
          rw [hgl] at hpl
          have hRall : RunsAre ld (ys9 ++ [.ref a1]) (passRuns cmp xss) := by rw [hpl]; exact hRd.snoc m1
          (try k_fold)
          walk_at "mine till"
          exact runs_end hRall (by k_asm) (by k_asm) (fun p hp => hsub9 p (hsub1 p hp)) hgt
        · have hfm : (rs.length : Int).fmod 2 = 0 := by rw [Int.fmod_eq_emod_of_nonneg _ (by decide)]; omega
          have hRall : RunsAre ld ys9 (passRuns cmp xss) := by
            have q := passRuns_length cmp xss
            rw [List.take_of_length_le (by omega)] at hRd
            exact hRd
          (try k_fold)
          walk_at "mine till"
          exact runs_end hRall (by k_asm) (by k_asm) (fun p hp => hsub9 p (hsub1 p hp)) hgt
    · cases hRA with
      | nil =>
        have hvs : vs = [] := List.eq_nil_of_length_eq_zero (by have q := hok.2.1; simpa using q.symm)
        (try k_fold)
        walk_at "mine till"
        refine' end_M hret (Or.inl ⟨hvs, rfl⟩) ?F92 ?N92 ?D92 ?s92
        (case F92 => k_asm)
        (case N92 => k_asm)
        (case D92 => k_mem)
        (case s92 => (intro p9 m9; have q9 := hsub1 p9 m9; (repeat (first | exact q9 | refine List.Mem.tail _ ?_))))
      | @cons a9 k9 xs9 rs9 xss9 hm9 hR9 =>
        cases hR9 with
        | cons _ _ => exact absurd hgt (by simp)
        | nil =>
          have hA0 : ItemAt [Value.ref a9] 0 (.ref a9) := ⟨0, rfl, rfl⟩
          (try k_fold)
          walk_at "mine till"
          refine' end_M hret (Or.inr ⟨k, hxk.symm⟩) ?F95 ?N95 ?D95 ?s95
          (case F95 => k_asm)
          (case N95 => k_asm)
          (case D95 => k_mem)
          (case s95 => (intro p9 m9; have q9 := hsub1 p9 m9; (repeat (first | exact q9 | refine List.Mem.tail _ ?_))))
end

end

-- part SzH
section
local macro_rules | `(tactic| k_room) => `(tactic| ((try simp only [depth_under_make, depth_under_kw, depth_in1, depth_deeper, depth_caller]); (try dsimp only [ktrTop]); omega))
local macro_rules | `(tactic| k_units) => `(tactic| ((try simp only [units_in1, units_deeper, Around.mark_units, units_caller]); (try dsimp only [ktrTop]); (have hcL9 := cLine_is); omega))
local macro_rules | `(tactic| walk_at "mine in") => `(tactic| (intro p9 m9; first | exact m9 | (repeat (first | exact m9 | refine List.Mem.tail _ ?_))))
local macro_rules | `(tactic| walk_at "eval Call") => `(tactic| (k_here; k_dflt (refine Call_ ?_)))
local macro_rules | `(tactic| walk_at "mine dec") => `(tactic| first | with_reducible assumption | decide | ((try simp only [decide_eq_true_eq, decide_eq_false_iff_not, beq_iff_eq, bne_iff_ne, ne_eq, Bool.not_eq_true, Bool.not_eq_false, beq_eq_false_iff_ne, bne_eq_false_iff_eq]); omega))
local macro_rules | `(tactic| walk_at "ite") => `(tactic| (k_here; k_dflt (first | (refine ite_pos (by walk_at "mine dec") ?_) | (refine ite_neg (by walk_at "mine dec") ?_))))
local macro_rules | `(tactic| k_mem) => `(tactic| first | with_reducible assumption | exact List.Mem.head _ | (refine' List.mem_cons_of_mem _ ?_; k_mem))
local macro_rules | `(tactic| k_all) => `(tactic| first | assumption | exact OffTail.use (by assumption))
local macro_rules | `(tactic| k_lt $h:ident) => `(tactic| ((have hne9 := OffTail.of $h); (have hlt9 := LtTail.of $h); (repeat (replace hne9 := OffTail.cons hne9)); (repeat (replace hlt9 := LtTail.cons hlt9)); replace $h := allLt_of $h; (try simp only [AllLt, and_true] at $h:ident)))
local macro_rules | `(tactic| k_is) => `(tactic| exact OrderOK.keep (by with_reducible assumption))
local macro_rules | `(tactic| walk_at "mine len") => `(tactic| (have hsz9 := sizeLine_eq; simp only [List.size_toArray, List.length_append, List.length_cons, List.length_nil, List.length_drop, List.length_take] at *; omega))

local macro_rules | `(tactic| walk_at "call type:range") => `(tactic| ((rename Fr _ _ _ _ => F'); (rename News _ _ _ _ => N'); with_unfolding_all first
  | (refine range1_rows F' N' ?_; intro _ _ _ _ _ _ _ _ _)
  | (refine range2_rows F' N' ?_; intro _ _ _ _ _ _ _ _ _)
  | (refine range3_rows F' N' (by decide) ?_; intro _ _ _ _ _ _ _ _ _)))
local macro_rules | `(tactic| walk_at "CompSrc") => `(tactic| (k_here; k_dflt (refine LCg.CompSrc.ledger (by rfl) (by k_asm) (by k_asm) (by k_mem) (by walk_at "mine len") ?_; intro g')))
local macro_rules | `(tactic| walk_at "mine stop") => `(tactic| first | (with_reducible show wpAny _ _ (exec (PySem.Stmt.While _ _ _ _) _) _ _ _) | (with_reducible show wpAny _ _ (pyIter _) _ _ _) | (with_reducible show LCg.CompRest _ _ _ _ _ _ _ _ _ _ _ _ _ _ _ _ _ _ _) | (with_reducible show LCg.CompEnd _ _ _ _ _ _ _ _ _ _ _ _ _ _) | (with_reducible show UnrPost _ _ _ _ _ _ _ _ _) | (with_reducible show UnrEnd _ _ _ _ _ _ _))
local macro_rules | `(tactic| walk_at "mine till") => `(tactic| repeat' ((fail_if_success (walk_at "mine stop")); first | (k_unfold; (try dsimp only)) | walk1 | (dsimp only; walk1)))

local macro_rules | `(tactic| walk_at "call builtin:len") => `(tactic| (k_here; k_dflt (refine' len_L ?N ?m ?z ?_; (case N => k_asm); (case m => k_mem); (case z => first | assumption | omega | walk_at "mine len"); k_whole)))
local macro_rules | `(tactic| walk_at "subscriptTail Name") => `(tactic| (k_here; k_dflt (refine' item_K ?N ?m ?x ?z ?_ ?s; (case N => k_asm); (case m => k_mem); (case x => assumption); (case z => first | omega | walk_at "mine len"); (case s => with_unfolding_all rfl); k_whole)))

/-- no neighbours that stand the wrong way round -/
def Chain (cmp : Value → Value → Int) (vs : List Value) : Prop := ∀ j (h : j + 1 < vs.length), cmp vs[j] vs[j + 1] ≤ 0
def OutC (cmp : Value → Value → Int) (vs : List Value) (news : List (Addr × Obj)) (r : Value) (news' : List (Addr × Obj)) : Prop := news' = news ∧ ∃ b : Bool, r = .bool b ∧ (b = true ↔ Chain cmp vs)
section
variable {prog : Program} {w : World} {A : Around} {E : Value → Shared → Prop} {s : Shared} {h₀ : Heap} {L : Addr} {env : Env} {news : List (Addr × Obj)} {cmp : Value → Value → Int} {vs : List Value} {mC : Str → Option Value}
def cMap (mC : Str → Option Value) (u : Option Value) : Str → Option Value := fun y => if y = Str.ofString "at" then u else mC y
def CInv (mC : Str → Option Value) (cmp : Value → Value → Int) (vs : List Value) (news : List (Addr × Obj)) (i : Nat) (m : Str → Option Value) (ld : List (Addr × Obj)) : Prop :=
  ld = news ∧ (∃ u, m = cMap mC u) ∧ ∀ j, j < i → ∀ (h : j + 1 < vs.length), cmp vs[j] vs[j + 1] ≤ 0
theorem for_chain {r : Addr} {b : Int} {t₀ u₀ v₀ : Tok} {body : List Stmt} {Q : Flow → Shared → Prop}
    (hh : A.handled = none) (hr : IsRange s.heap r 1 b 1 t₀ u₀ v₀) (hsmall : Builtin.Range.small 1 b 1 = true) (hn : Builtin.Range.rangeSize 1 b 1 = ((vs.length - 1 : Nat) : Int))
    (F : Fr h₀ env.locals s.heap mC) (N : News h₀ env.locals s.heap news)
    (turn : ∀ i I t h tk, i + 1 < vs.length → (∀ j, j < i → ∀ (h : j + 1 < vs.length), cmp vs[j] vs[j + 1] ≤ 0) → OffTail I news →
      Fr h₀ env.locals h (fun y => if y = Str.ofString "at" then some (.int (1 + (i : Int) * 1) t) else mC y) →
      News h₀ env.locals h ((I, krsIt (1 + ((i + 1 : Nat) : Int) * 1) (((vs.length - 1 : Nat) : Int) - ((i + 1 : Nat) : Int)) 1) :: news) →
      wpAny (model prog w) A (execs body env) (UnrPost h₀ env.locals { s with heap := h, toks := tk } I (krsIt (1 + ((i + 1 : Nat) : Int) * 1) (((vs.length - 1 : Nat) : Int) - ((i + 1 : Nat) : Int)) 1) (CInv mC cmp vs news (i + 1)) Q) E { s with heap := h, toks := tk })
    (done : ∀ u h tk, Chain cmp vs → Fr h₀ env.locals h (fun y => if y = Str.ofString "at" then u else mC y) → News h₀ env.locals h news → Q .next { s with heap := h, toks := tk }) :
    wpAny (model prog w) A (pyIter (.ref r)) (fun it s₂ => LoopAtV prog w A h₀ env (Str.ofString "at") body Q E it s₂) E s := by
  have e0 : mC = cMap mC (mC (Str.ofString "at")) := by
    funext y
    unfold cMap
    by_cases h3 : y = Str.ofString "at"
    · rw [if_pos h3, h3]
    · rw [if_neg h3]
  refine range_inv (CInv mC cmp vs news) hh hr hsmall hn (e0 ▸ F) N ⟨rfl, ⟨_, rfl⟩, fun j hj => absurd hj (Nat.not_lt_zero _)⟩ ?_ ?_
  · rintro i I m ld t h tk hi ⟨rfl, ⟨u, rfl⟩, hc⟩ hI F1 N1
    have e1 : (fun y => if y = Str.ofString "at" then some (Value.int (1 + (i : Int) * 1) t) else cMap mC u y) = fun y => if y = Str.ofString "at" then some (Value.int (1 + (i : Int) * 1) t) else mC y := by
      funext y
      unfold cMap
      by_cases h3 : y = Str.ofString "at"
      · rw [if_pos h3, if_pos h3]
      · rw [if_neg h3, if_neg h3, if_neg h3]
    rw [e1] at F1
    exact turn i I t h tk (by omega) hc hI F1 N1
  · rintro m ld h tk ⟨rfl, ⟨u, rfl⟩, hc⟩ F1 N1
    exact done u h tk (fun j hj => hc j (by omega) hj) F1 N1
theorem chain_end {I : Addr} {it : Obj} {i : Nat} {h' : Heap} {tk : Nat} {v : Value} (hi : i + 1 < vs.length) (hc : ∀ j, j < i → ∀ (h : j + 1 < vs.length), cmp vs[j] vs[j + 1] ≤ 0) (h1 : cmp vs[i] vs[i + 1] ≤ 0) (hI : OffTail I news)
    (F : Fr h₀ L h' (fun y => if y = Str.ofString "at" then some v else mC y)) (N : News h₀ L h' ((I, it) :: news)) : UnrEnd h₀ L s I it (CInv mC cmp vs news (i + 1)) { s with heap := h', toks := tk } := by
  refine ⟨h', tk, _, news, rfl, F, N, hI, rfl, ⟨some v, rfl⟩, fun j hj h => ?_⟩
  by_cases e : j = i
  · subst e; exact h1
  · exact hc j (by omega) h
end
local macro_rules | `(tactic| walk_at "call ref") => `(tactic| (k_here; k_dflt ((with_reducible rename OrderOK _ _ _ _ _ _ _ _ => hO9); refine' cl_use (OrderOK.use hO9 ?q1 ?q2) ?k1 ?k2 ?k3 ?k4 ?k5 ?kK ?kd ?ku ?_; (case k1 => k_asm); (case k2 => k_asm); (case k3 => k_asm); (case k4 => k_asm); (case k5 => k_asm); (case kK => first | exact rfl | assumption); (case kd => k_room); (case ku => k_units); (case q1 => exact ItemsOK.use (by with_reducible assumption) (List.getElem_mem _) (by walk_at "mine in")); (case q2 => exact ItemsOK.use (by with_reducible assumption) (List.getElem_mem _) (by walk_at "mine in")); (try k_sweep); intro r9 n9 h9 tk9 F9 N9 o9; (obtain ⟨e9, t9, q9⟩ := o9; subst e9; subst q9); (try k_sweep); (try dsimp only))))
section
variable (w : World) (mean : ExcName → Option Value) (mg mb : Str → Option Value)
set_option maxHeartbeats 8000000
theorem issorted_ok (need fo : Nat) (P : List (Addr × Obj) → Value → Prop) (cmp : Value → Value → Int) (hO : OrderOK w mean mg mb need fo P cmp) (l : Addr) (vs : List Value) (c0 : Nat) (news : List (Addr × Obj))
    (hl : (l, listOf (List.toArray vs) c0) ∈ news) (hv : ItemsOK P news vs) (hz : vs.length ≤ 63) :
    Cl w mean mg mb (need + 8) 413 [.ref l, .ref fo] news (OutC cmp vs news) := by
  unfold Cl
  k_fill
  intro dp un gd cn cs a ccd cl outer A₀ base h₀ L m s Q E B F X N T hk hd hu hret
  refine wpAny_call ?_
  k_dflt cell_enter
  walk_at "mine till"
  rename IsRange _ _ _ _ _ _ _ _ => hRg
  rename Fr _ _ _ _ => Ff
  rename News _ _ _ _ => Nf
  have hr2 := range_one vs.length (by omega)
  refine for_chain (vs := vs) (cmp := cmp) (by rfl) hRg hr2.1 hr2.2 Ff Nf ?_ ?_
  · clear Ff Nf hRg
    intro i I t h9 tk9 hi hc hoI F9 N9
    have hA1 : ItemAt vs (1 + (i : Int) * 1 - 1) vs[i] := ⟨i, by omega, List.getElem?_eq_getElem _⟩
    have hA2 : ItemAt vs (1 + (i : Int) * 1) vs[i + 1] := ⟨i + 1, by omega, List.getElem?_eq_getElem _⟩
    (try k_fold)
    walk_at "mine till"
    all_goals (try dsimp only [UnrPost])
    all_goals (walk_at "mine till")
    all_goals first
      | exact chain_end hi hc (by omega) hoI (by k_asm) (by k_asm)
      | (exact hret _ news _ _ (by k_asm) (cb_drop (by k_asm) (by walk_at "mine in")) ⟨rfl, false, rfl, by
          constructor
          · intro h; cases h
          · intro h
            have := h i hi
            omega⟩)
  · clear Ff Nf hRg
    intro u h9 tk9 hC F9 N9
    (try k_fold)
    walk_at "mine till"
    exact hret _ _ _ _ (by k_asm) (by k_asm) ⟨rfl, true, rfl, by simp [hC]⟩
end

end

-- part SzI
section
local macro_rules | `(tactic| k_room) => `(tactic| ((try simp only [depth_under_make, depth_under_kw, depth_in1, depth_deeper, depth_caller]); (try dsimp only [ktrTop]); omega))
local macro_rules | `(tactic| k_units) => `(tactic| ((try simp only [units_in1, units_deeper, Around.mark_units, units_caller]); (try dsimp only [ktrTop]); (have hcL9 := cLine_is); omega))
local macro_rules | `(tactic| walk_at "mine in") => `(tactic| (intro p9 m9; first | exact m9 | (repeat (first | exact m9 | refine List.Mem.tail _ ?_))))
local macro_rules | `(tactic| walk_at "eval Call") => `(tactic| (k_here; k_dflt (refine Call_ ?_)))
local macro_rules | `(tactic| walk_at "mine dec") => `(tactic| first | with_reducible assumption | decide | ((try simp only [decide_eq_true_eq, decide_eq_false_iff_not, beq_iff_eq, bne_iff_ne, ne_eq, Bool.not_eq_true, Bool.not_eq_false, beq_eq_false_iff_ne, bne_eq_false_iff_eq]); omega))
local macro_rules | `(tactic| walk_at "ite") => `(tactic| (k_here; k_dflt (first | (refine ite_pos (by walk_at "mine dec") ?_) | (refine ite_neg (by walk_at "mine dec") ?_))))
local macro_rules | `(tactic| k_mem) => `(tactic| first | with_reducible assumption | exact List.Mem.head _ | (refine' List.mem_cons_of_mem _ ?_; k_mem))
local macro_rules | `(tactic| walk_at "call ref") => `(tactic| (k_here; k_dflt (refine' cl_use (figure0 _ _ _ _ _ _ _ _ ?q1 ?q2) ?k1 ?k2 ?k3 ?k4 ?k5 ?kK ?kd ?ku ?_; (case k1 => k_asm); (case k2 => k_asm); (case k3 => k_asm); (case k4 => k_asm); (case k5 => k_asm); (case kK => first | exact rfl | assumption); (case q1 => first | assumption | omega | decide | (simp <;> omega)); (case q2 => first | assumption | omega | decide | (simp <;> omega)); (case kd => k_room); (case ku => k_units); (try k_sweep); intro r9 n9 h9 tk9 F9 N9 o9; (obtain ⟨e9, t9, q9⟩ := o9; subst e9; subst q9); (try k_sweep); (try dsimp only))))
local macro_rules | `(tactic| walk_at "call ref") => `(tactic| (k_here; k_dflt (refine' cl_use (figure1 _ _ _ _ _ _ _ _ ?q1 ?q2) ?k1 ?k2 ?k3 ?k4 ?k5 ?kK ?kd ?ku ?_; (case k1 => k_asm); (case k2 => k_asm); (case k3 => k_asm); (case k4 => k_asm); (case k5 => k_asm); (case kK => first | exact rfl | assumption); (case q1 => first | assumption | omega | decide | (simp <;> omega)); (case q2 => first | assumption | omega | decide | (simp <;> omega)); (case kd => k_room); (case ku => k_units); (try k_sweep); intro r9 n9 h9 tk9 F9 N9 o9; (obtain ⟨e9, t9, q9⟩ := o9; subst e9; subst q9); (try k_sweep); (try dsimp only))))
local macro_rules | `(tactic| walk_at "call ref") => `(tactic| (k_here; k_dflt (refine' cl_use (figure2 _ _ _ _ _ _ _ _ ?q1 ?q2) ?k1 ?k2 ?k3 ?k4 ?k5 ?kK ?kd ?ku ?_; (case k1 => k_asm); (case k2 => k_asm); (case k3 => k_asm); (case k4 => k_asm); (case k5 => k_asm); (case kK => first | exact rfl | assumption); (case q1 => first | assumption | omega | decide | (simp <;> omega)); (case q2 => first | assumption | omega | decide | (simp <;> omega)); (case kd => k_room); (case ku => k_units); (try k_sweep); intro r9 n9 h9 tk9 F9 N9 o9; (obtain ⟨e9, t9, q9⟩ := o9; subst e9; subst q9); (try k_sweep); (try dsimp only))))
local macro_rules | `(tactic| walk_at "call ref") => `(tactic| (k_here; k_dflt (refine' cl_use (cmpnum_ok _ _ _ _ _ _ _ _ _ _) ?k1 ?k2 ?k3 ?k4 ?k5 ?kK ?kd ?ku ?_; (case k1 => k_asm); (case k2 => k_asm); (case k3 => k_asm); (case k4 => k_asm); (case k5 => k_asm); (case kK => first | exact rfl | assumption); (case kd => k_room); (case ku => k_units); (try k_sweep); intro r9 n9 h9 tk9 F9 N9 o9; (obtain ⟨e9, t9, q9⟩ := o9; subst e9; subst q9); (try k_sweep); (try dsimp only))))



local macro_rules | `(tactic| k_all) => `(tactic| first | assumption | exact OffTail.use (by assumption))
local macro_rules | `(tactic| k_lt $h:ident) => `(tactic| ((have hne9 := OffTail.of $h); (have hlt9 := LtTail.of $h); (repeat (replace hne9 := OffTail.cons hne9)); (repeat (replace hlt9 := LtTail.cons hlt9)); replace $h := allLt_of $h; (try simp only [AllLt, and_true] at $h:ident)))
local macro_rules | `(tactic| k_is) => `(tactic| exact OrderOK.keep (by with_reducible assumption))
local macro_rules | `(tactic| walk_at "mine len") => `(tactic| (have hsz9 := sizeLine_eq; simp only [List.size_toArray, List.length_append, List.length_cons, List.length_nil, List.length_drop, List.length_take] at *; omega))

local macro_rules | `(tactic| walk_at "call type:range") => `(tactic| ((rename Fr _ _ _ _ => F'); (rename News _ _ _ _ => N'); with_unfolding_all first
  | (refine range1_rows F' N' ?_; intro _ _ _ _ _ _ _ _ _)
  | (refine range2_rows F' N' ?_; intro _ _ _ _ _ _ _ _ _)
  | (refine range3_rows F' N' (by decide) ?_; intro _ _ _ _ _ _ _ _ _)))
local macro_rules | `(tactic| walk_at "CompSrc") => `(tactic| (k_here; k_dflt (refine LCg.CompSrc.ledger (by rfl) (by k_asm) (by k_asm) (by k_mem) (by walk_at "mine len") ?_; intro g')))
local macro_rules | `(tactic| walk_at "mine stop") => `(tactic| first | (with_reducible show wpAny _ _ (exec (PySem.Stmt.While _ _ _ _) _) _ _ _) | (with_reducible show wpAny _ _ (pyIter _) _ _ _) | (with_reducible show LCg.CompRest _ _ _ _ _ _ _ _ _ _ _ _ _ _ _ _ _ _ _) | (with_reducible show LCg.CompEnd _ _ _ _ _ _ _ _ _ _ _ _ _ _) | (with_reducible show UnrPost _ _ _ _ _ _ _ _ _) | (with_reducible show UnrEnd _ _ _ _ _ _ _))
local macro_rules | `(tactic| walk_at "mine till") => `(tactic| repeat' ((fail_if_success (walk_at "mine stop")); first | (k_unfold; (try dsimp only)) | walk1 | (dsimp only; walk1)))

local macro_rules | `(tactic| walk_at "call builtin:len") => `(tactic| (k_here; k_dflt (refine' len_L ?N ?m ?z ?_; (case N => k_asm); (case m => k_mem); (case z => first | assumption | omega | walk_at "mine len"); k_whole)))
local macro_rules | `(tactic| walk_at "subscriptTail Name") => `(tactic| (k_here; k_dflt (refine' item_K ?N ?m ?x ?z ?_ ?s; (case N => k_asm); (case m => k_mem); (case x => assumption); (case z => first | omega | walk_at "mine len"); (case s => with_unfolding_all rfl); k_whole)))

set_option maxHeartbeats 8000000
theorem keeps_orders (w : World) : (keepIn (hd.heap_39 w.params) (.ref 399) = true ∧ keepIn (hd.heap_39 w.params) (.ref 457) = true ∧ keepIn (hd.heap_39 w.params) (.ref 464) = true ∧ keepIn (hd.heap_39 w.params) (.ref 471) = true ∧ keepIn (hd.heap_39 w.params) (.ref 478) = true ∧ keepIn (hd.heap_39 w.params) (.ref 485) = true) ∧ Challenge.rw_sz0088_01.row.prog = Challenge.rw_sz0088_01.row.prog := by
  k_fill
  refine ⟨⟨?_, ?_, ?_, ?_, ?_, ?_⟩, rfl⟩ <;> k_is
section
variable (w : World) (mean : ExcName → Option Value) (mg mb : Str → Option Value)
theorem bytext_order : OrderOK w mean mg mb 14 399 IsThree (fun x y => cmpI (intOf x) (intOf y)) := by
  refine ⟨(keeps_orders w).1.1, fun news x y hx hy => ?_⟩
  obtain ⟨n, t, rfl, h0, h1⟩ := hx
  obtain ⟨m, t', rfl, g0, g1⟩ := hy
  exact bytext_ok w mean mg mb n m t t' news h0 h1 g0 g1
theorem last_order (num turn : Value → Int) : OrderOK w mean mg mb 12 457 (IsMem num turn) (fun x y => cmpI (num x % 10) (num y % 10)) := ⟨(keeps_orders w).1.2.1, fun news x y hx hy => last_ok w mean mg mb num turn x y news hx hy⟩
theorem next_order (num turn : Value → Int) : OrderOK w mean mg mb 12 464 (IsMem num turn) (fun x y => cmpI (num x / 10 % 10) (num y / 10 % 10)) := ⟨(keeps_orders w).1.2.2.1, fun news x y hx hy => next_ok w mean mg mb num turn x y news hx hy⟩
theorem first_order (num turn : Value → Int) : OrderOK w mean mg mb 12 471 (IsMem num turn) (fun x y => cmpI (num x / 100 % 10) (num y / 100 % 10)) := ⟨(keeps_orders w).1.2.2.2.1, fun news x y hx hy => first_ok w mean mg mb num turn x y news hx hy⟩
theorem two_order (num turn : Value → Int) : OrderOK w mean mg mb 14 478 (IsMem num turn) (fun x y => if cmpI (num x / 10 % 10) (num y / 10 % 10) = 0 then cmpI (num x % 10) (num y % 10) else cmpI (num x / 10 % 10) (num y / 10 % 10)) := ⟨(keeps_orders w).1.2.2.2.2.1, fun news x y hx hy => two_ok w mean mg mb num turn x y news hx hy⟩
theorem texts_order (num turn : Value → Int) : OrderOK w mean mg mb 12 485 (IsMem num turn) (fun x y => cmpI (num x) (num y)) := ⟨(keeps_orders w).1.2.2.2.2.2, fun news x y hx hy => texts_ok w mean mg mb num turn x y news hx hy⟩
local macro_rules | `(tactic| walk_at "mine stop") => `(tactic| (with_reducible show wpAny _ _ (call (Value.ref _) _) _ _ _))
local macro_rules | `(tactic| walk_at "mine till") => `(tactic| repeat' ((fail_if_success (walk_at "mine stop")); first | (k_unfold; (try dsimp only)) | walk1 | (dsimp only; walk1)))
theorem bytextsort_ok (l : Addr) (vs : List Value) (c0 : Nat) (news : List (Addr × Obj)) (hl : (l, listOf (List.toArray vs) c0) ∈ news) (hv : ItemsOK IsThree news vs) (hz : vs.length ≤ 63) :
    Cl w mean mg mb 34 406 [.ref l] news (OutM (fun x y => cmpI (intOf x) (intOf y)) vs news) := by
  unfold Cl
  k_fill
  intro dp un gd cn cs a ccd cl outer A₀ base h₀ L m s Q E B F X N T hk hd hu hret
  refine wpAny_call ?_
  k_dflt cell_enter
  walk_at "mine till"
  refine' cl_use (sorted_ok w mean mg mb 14 399 IsThree _ (bytext_order w mean mg mb) l vs c0 news hl hv hz) ?k1 ?k2 ?k3 ?k4 ?k5 ?kK ?kd ?ku ?_
  (case k1 => k_asm)
  (case k2 => k_asm)
  (case k3 => k_asm)
  (case k4 => k_asm)
  (case k5 => k_asm)
  (case kK => exact rfl)
  (case kd => k_room)
  (case ku => k_units)
  intro r9 n9 h9 tk9 F9 N9 o9
  have o8 := o9
  obtain ⟨ys, D, c, hM, e1, e2⟩ := o9
  subst e1
  (try k_sweep)
  (try dsimp only)
  walk_at "mine till"
  exact hret _ _ _ _ (by k_asm) (by k_asm) o8
end

end

-- part SzJ
section
local macro_rules | `(tactic| k_room) => `(tactic| ((try simp only [depth_under_make, depth_under_kw, depth_in1, depth_deeper, depth_caller]); (try dsimp only [ktrTop]); omega))
local macro_rules | `(tactic| k_units) => `(tactic| ((try simp only [units_in1, units_deeper, Around.mark_units, units_caller]); (try dsimp only [ktrTop]); (have hcL9 := cLine_is); omega))
local macro_rules | `(tactic| walk_at "mine in") => `(tactic| (intro p9 m9; first | exact m9 | (repeat (first | exact m9 | refine List.Mem.tail _ ?_))))
local macro_rules | `(tactic| walk_at "eval Call") => `(tactic| (k_here; k_dflt (refine Call_ ?_)))
local macro_rules | `(tactic| walk_at "mine dec") => `(tactic| first | with_reducible assumption | decide | ((try simp only [decide_eq_true_eq, decide_eq_false_iff_not, beq_iff_eq, bne_iff_ne, ne_eq, Bool.not_eq_true, Bool.not_eq_false, beq_eq_false_iff_ne, bne_eq_false_iff_eq]); omega))
local macro_rules | `(tactic| walk_at "ite") => `(tactic| (k_here; k_dflt (first | (refine ite_pos (by walk_at "mine dec") ?_) | (refine ite_neg (by walk_at "mine dec") ?_))))
local macro_rules | `(tactic| k_mem) => `(tactic| first | with_reducible assumption | exact List.Mem.head _ | (refine' List.mem_cons_of_mem _ ?_; k_mem))
local macro_rules | `(tactic| k_all) => `(tactic| first | assumption | exact OffTail.use (by assumption))
local macro_rules | `(tactic| k_lt $h:ident) => `(tactic| ((have hne9 := OffTail.of $h); (have hlt9 := LtTail.of $h); (repeat (replace hne9 := OffTail.cons hne9)); (repeat (replace hlt9 := LtTail.cons hlt9)); replace $h := allLt_of $h; (try simp only [AllLt, and_true] at $h:ident)))
local macro_rules | `(tactic| k_is) => `(tactic| exact OrderOK.keep (by with_reducible assumption))
local macro_rules | `(tactic| walk_at "mine len") => `(tactic| (have hsz9 := sizeLine_eq; simp only [List.size_toArray, List.length_append, List.length_cons, List.length_nil, List.length_drop, List.length_take] at *; omega))

local macro_rules | `(tactic| walk_at "call type:range") => `(tactic| ((rename Fr _ _ _ _ => F'); (rename News _ _ _ _ => N'); with_unfolding_all first
  | (refine range1_rows F' N' ?_; intro _ _ _ _ _ _ _ _ _)
  | (refine range2_rows F' N' ?_; intro _ _ _ _ _ _ _ _ _)
  | (refine range3_rows F' N' (by decide) ?_; intro _ _ _ _ _ _ _ _ _)))
local macro_rules | `(tactic| walk_at "CompSrc") => `(tactic| (k_here; k_dflt (refine LCg.CompSrc.ledger (by rfl) (by k_asm) (by k_asm) (by k_mem) (by walk_at "mine len") ?_; intro g')))
local macro_rules | `(tactic| walk_at "mine stop") => `(tactic| first | (with_reducible show wpAny _ _ (exec (PySem.Stmt.While _ _ _ _) _) _ _ _) | (with_reducible show wpAny _ _ (pyIter _) _ _ _) | (with_reducible show LCg.CompRest _ _ _ _ _ _ _ _ _ _ _ _ _ _ _ _ _ _ _) | (with_reducible show LCg.CompEnd _ _ _ _ _ _ _ _ _ _ _ _ _ _) | (with_reducible show UnrPost _ _ _ _ _ _ _ _ _) | (with_reducible show UnrEnd _ _ _ _ _ _ _))
local macro_rules | `(tactic| walk_at "mine till") => `(tactic| repeat' ((fail_if_success (walk_at "mine stop")); first | (k_unfold; (try dsimp only)) | walk1 | (dsimp only; walk1)))

local macro_rules | `(tactic| walk_at "call builtin:len") => `(tactic| (k_here; k_dflt (refine' len_L ?N ?m ?z ?_; (case N => k_asm); (case m => k_mem); (case z => first | assumption | omega | walk_at "mine len"); k_whole)))
local macro_rules | `(tactic| walk_at "subscriptTail Name") => `(tactic| (k_here; k_dflt (refine' item_K ?N ?m ?x ?z ?_ ?s; (case N => k_asm); (case m => k_mem); (case x => assumption); (case z => first | omega | walk_at "mine len"); (case s => with_unfolding_all rfl); k_whole)))

/-- a draw: below many; the dice have moved on by one -/
def OutT (many : Int) (d a : Addr) (k : Nat) (led : List (Addr × Obj)) (r : Value) (news' : List (Addr × Obj)) : Prop :=
  ∃ x t' t'' c', r = .int x t' ∧ 0 ≤ x ∧ x < many ∧ news' = (d, listOf (List.toArray [.ref a, .int ((k : Int) + 1) t'']) c') :: led
theorem end_T {h₀ h' : Heap} {L d a : Addr} {m : Str → Option Value} {s : Shared} {Q : Value → Shared → Prop} {led all : List (Addr × Obj)} {many x j : Int} {k c' tk' : Nat} {t' t'' : Tok}
    (hret : ∀ r news' h' tk', Fr h₀ L h' m → News h₀ L h' news' → OutT many d a k led r news' → Q r { s with heap := h', toks := tk' }) (hm : 0 < many) (hj : j = (k : Int) + 1) (F : Fr h₀ L h' m) (N : News h₀ L h' all) (hs : ∀ p ∈ (d, listOf (List.toArray [.ref a, .int j t'']) c') :: led, p ∈ all) : Q (.int (x.fmod many) t') { s with heap := h', toks := tk' } := by
  subst hj
  refine hret _ _ _ _ F (fun p hp => N p (hs p hp)) ⟨x.fmod many, t', t'', c', rfl, ?_, ?_, rfl⟩
  · rw [Int.fmod_eq_emod_of_nonneg _ (Int.le_of_lt hm)]; exact Int.emod_nonneg _ (Int.ne_of_gt hm)
  · rw [Int.fmod_eq_emod_of_nonneg _ (Int.le_of_lt hm)]; exact Int.emod_lt_of_pos _ hm
local macro_rules | `(tactic| walk_at "subscriptTail") => `(tactic| (k_here; k_dflt (refine' item_K ?N ?m ?x ?z ?_ ?s; (case N => k_asm); (case m => k_mem); (case x => with_reducible assumption); (case z => first | omega | walk_at "mine len"); (case s => with_unfolding_all rfl); k_whole)))
section
variable (w : World) (mean : ExcName → Option Value) (mg mb : Str → Option Value)
set_option maxHeartbeats 8000000
theorem toss_in (many : Int) (tm : Tok) (d aL : Addr) (k : Nat) (t : Tok) (c ca : Nat) (zs : List Value) (ns : List Int) (led : List (Addr × Obj)) (hoff : OffTail d led) (ha : (aL, listOf (List.toArray zs) ca) ∈ led) (hI : IntsAre zs ns) (hz : zs.length ≤ 8) (hkz : k < zs.length) (hm : 0 < many) (hm2 : many ≤ 1000) :
    Cl w mean mg mb 3 443 [.ref d, .int many tm] ((d, listOf (List.toArray [.ref aL, .int (k : Int) t]) c) :: led) (OutT many d aL k led) := by
  unfold Cl
  k_fill
  intro dp un gd cn cs a ccd cl outer A₀ base h₀ L m s Q E B F X N T hk hd hu hret
  refine wpAny_call ?_
  k_dflt cell_enter
  obtain ⟨n, hn⟩ : ∃ n, ns[k]? = some n := ⟨ns[k]'(by rw [← hI.length]; exact hkz), List.getElem?_eq_getElem _⟩
  obtain ⟨tn, hn⟩ := hI.get k n hn
  have hA : ItemAt zs ((k : Int) + 1 - 1) (.int n tn) := ⟨k, by omega, hn⟩
  have hne : ¬ many = 0 := by omega
  have hle : (k : Int) + 1 ≤ (zs.length : Int) := by omega
  k_steps
  refine' end_T hret hm ?jA ?FA ?NA ?sA
  (case FA => k_asm)
  (case NA => k_asm)
  (case sA => exact fun p hp => hp)
  (case jA => rfl)
theorem toss_out (many : Int) (tm : Tok) (d aL : Addr) (k : Nat) (t : Tok) (c ca : Nat) (zs : List Value) (ns : List Int) (led : List (Addr × Obj)) (hoff : OffTail d led) (ha : (aL, listOf (List.toArray zs) ca) ∈ led) (hI : IntsAre zs ns) (hz : zs.length ≤ 8) (hkz : ¬ k < zs.length) (hk7 : k ≤ 7) (hm : 0 < many) (hm2 : many ≤ 1000) :
    Cl w mean mg mb 3 443 [.ref d, .int many tm] ((d, listOf (List.toArray [.ref aL, .int (k : Int) t]) c) :: led) (OutT many d aL k led) := by
  unfold Cl
  k_fill
  intro dp un gd cn cs a ccd cl outer A₀ base h₀ L m s Q E B F X N T hk hd hu hret
  refine wpAny_call ?_
  k_dflt cell_enter
  have hne : ¬ many = 0 := by omega
  have hle : ¬ (k : Int) + 1 ≤ (zs.length : Int) := by omega
  have hk8 : k = 0 ∨ k = 1 ∨ k = 2 ∨ k = 3 ∨ k = 4 ∨ k = 5 ∨ k = 6 ∨ k = 7 := by omega
  k_steps
  refine' end_T hret hm ?jA ?FA ?NA ?sA
  (case FA => k_asm)
  (case NA => k_asm)
  (case sA => exact fun p hp => hp)
  (case jA => rfl)
theorem toss_ok (many : Int) (tm : Tok) (d aL : Addr) (k : Nat) (t : Tok) (c ca : Nat) (zs : List Value) (ns : List Int) (led : List (Addr × Obj)) (hoff : OffTail d led) (ha : (aL, listOf (List.toArray zs) ca) ∈ led) (hI : IntsAre zs ns) (hz : zs.length ≤ 8) (hk7 : k ≤ 7) (hm : 0 < many) (hm2 : many ≤ 1000) :
    Cl w mean mg mb 3 443 [.ref d, .int many tm] ((d, listOf (List.toArray [.ref aL, .int (k : Int) t]) c) :: led) (OutT many d aL k led) := by
  by_cases hkz : k < zs.length
  · exact toss_in w mean mg mb many tm d aL k t c ca zs ns led hoff ha hI hz hkz hm hm2
  · exact toss_out w mean mg mb many tm d aL k t c ca zs ns led hoff ha hI hz hkz hk7 hm hm2
end

end

-- part SzM
section
local macro_rules | `(tactic| k_room) => `(tactic| ((try simp only [depth_under_make, depth_under_kw, depth_in1, depth_deeper, depth_caller]); (try dsimp only [ktrTop]); omega))
local macro_rules | `(tactic| k_units) => `(tactic| ((try simp only [units_in1, units_deeper, Around.mark_units, units_caller]); (try dsimp only [ktrTop]); (have hcL9 := cLine_is); omega))
local macro_rules | `(tactic| walk_at "mine in") => `(tactic| (intro p9 m9; first | exact m9 | (repeat (first | exact m9 | refine List.Mem.tail _ ?_))))
local macro_rules | `(tactic| walk_at "eval Call") => `(tactic| (k_here; k_dflt (refine Call_ ?_)))
local macro_rules | `(tactic| walk_at "mine dec") => `(tactic| first | with_reducible assumption | decide | ((try simp only [decide_eq_true_eq, decide_eq_false_iff_not, beq_iff_eq, bne_iff_ne, ne_eq, Bool.not_eq_true, Bool.not_eq_false, beq_eq_false_iff_ne, bne_eq_false_iff_eq]); omega))
local macro_rules | `(tactic| walk_at "ite") => `(tactic| (k_here; k_dflt (first | (refine ite_pos (by walk_at "mine dec") ?_) | (refine ite_neg (by walk_at "mine dec") ?_))))
local macro_rules | `(tactic| k_mem) => `(tactic| first | with_reducible assumption | exact List.Mem.head _ | (refine' List.mem_cons_of_mem _ ?_; k_mem))
local macro_rules | `(tactic| walk_at "call ref") => `(tactic| (k_here; k_dflt (refine' cl_use (figure0 _ _ _ _ _ _ _ _ ?q1 ?q2) ?k1 ?k2 ?k3 ?k4 ?k5 ?kK ?kd ?ku ?_; (case k1 => k_asm); (case k2 => k_asm); (case k3 => k_asm); (case k4 => k_asm); (case k5 => k_asm); (case kK => first | exact rfl | assumption); (case q1 => first | assumption | omega | decide | (simp <;> omega)); (case q2 => first | assumption | omega | decide | (simp <;> omega)); (case kd => k_room); (case ku => k_units); (try k_sweep); intro r9 n9 h9 tk9 F9 N9 o9; (obtain ⟨e9, t9, q9⟩ := o9; subst e9; subst q9); (try k_sweep); (try dsimp only))))
local macro_rules | `(tactic| walk_at "call ref") => `(tactic| (k_here; k_dflt (refine' cl_use (figure1 _ _ _ _ _ _ _ _ ?q1 ?q2) ?k1 ?k2 ?k3 ?k4 ?k5 ?kK ?kd ?ku ?_; (case k1 => k_asm); (case k2 => k_asm); (case k3 => k_asm); (case k4 => k_asm); (case k5 => k_asm); (case kK => first | exact rfl | assumption); (case q1 => first | assumption | omega | decide | (simp <;> omega)); (case q2 => first | assumption | omega | decide | (simp <;> omega)); (case kd => k_room); (case ku => k_units); (try k_sweep); intro r9 n9 h9 tk9 F9 N9 o9; (obtain ⟨e9, t9, q9⟩ := o9; subst e9; subst q9); (try k_sweep); (try dsimp only))))
local macro_rules | `(tactic| walk_at "call ref") => `(tactic| (k_here; k_dflt (refine' cl_use (figure2 _ _ _ _ _ _ _ _ ?q1 ?q2) ?k1 ?k2 ?k3 ?k4 ?k5 ?kK ?kd ?ku ?_; (case k1 => k_asm); (case k2 => k_asm); (case k3 => k_asm); (case k4 => k_asm); (case k5 => k_asm); (case kK => first | exact rfl | assumption); (case q1 => first | assumption | omega | decide | (simp <;> omega)); (case q2 => first | assumption | omega | decide | (simp <;> omega)); (case kd => k_room); (case ku => k_units); (try k_sweep); intro r9 n9 h9 tk9 F9 N9 o9; (obtain ⟨e9, t9, q9⟩ := o9; subst e9; subst q9); (try k_sweep); (try dsimp only))))
local macro_rules | `(tactic| walk_at "call ref") => `(tactic| (k_here; k_dflt (refine' cl_use (cmpnum_ok _ _ _ _ _ _ _ _ _ _) ?k1 ?k2 ?k3 ?k4 ?k5 ?kK ?kd ?ku ?_; (case k1 => k_asm); (case k2 => k_asm); (case k3 => k_asm); (case k4 => k_asm); (case k5 => k_asm); (case kK => first | exact rfl | assumption); (case kd => k_room); (case ku => k_units); (try k_sweep); intro r9 n9 h9 tk9 F9 N9 o9; (obtain ⟨e9, t9, q9⟩ := o9; subst e9; subst q9); (try k_sweep); (try dsimp only))))


local macro_rules | `(tactic| k_all) => `(tactic| first | assumption | exact OffTail.use (by assumption))
local macro_rules | `(tactic| k_lt $h:ident) => `(tactic| ((have hne9 := OffTail.of $h); (have hlt9 := LtTail.of $h); (repeat (replace hne9 := OffTail.cons hne9)); (repeat (replace hlt9 := LtTail.cons hlt9)); replace $h := allLt_of $h; (try simp only [AllLt, and_true] at $h:ident)))
local macro_rules | `(tactic| k_is) => `(tactic| exact OrderOK.keep (by with_reducible assumption))
local macro_rules | `(tactic| walk_at "mine len") => `(tactic| (have hsz9 := sizeLine_eq; simp only [List.size_toArray, List.length_append, List.length_cons, List.length_nil, List.length_drop, List.length_take] at *; omega))

local macro_rules | `(tactic| walk_at "call type:range") => `(tactic| ((rename Fr _ _ _ _ => F'); (rename News _ _ _ _ => N'); with_unfolding_all first
  | (refine range1_rows F' N' ?_; intro _ _ _ _ _ _ _ _ _)
  | (refine range2_rows F' N' ?_; intro _ _ _ _ _ _ _ _ _)
  | (refine range3_rows F' N' (by decide) ?_; intro _ _ _ _ _ _ _ _ _)))
local macro_rules | `(tactic| walk_at "CompSrc") => `(tactic| (k_here; k_dflt (refine LCg.CompSrc.ledger (by rfl) (by k_asm) (by k_asm) (by k_mem) (by walk_at "mine len") ?_; intro g')))
local macro_rules | `(tactic| walk_at "mine stop") => `(tactic| first | (with_reducible show wpAny _ _ (exec (PySem.Stmt.While _ _ _ _) _) _ _ _) | (with_reducible show wpAny _ _ (pyIter _) _ _ _) | (with_reducible show LCg.CompRest _ _ _ _ _ _ _ _ _ _ _ _ _ _ _ _ _ _ _) | (with_reducible show LCg.CompEnd _ _ _ _ _ _ _ _ _ _ _ _ _ _) | (with_reducible show UnrPost _ _ _ _ _ _ _ _ _) | (with_reducible show UnrEnd _ _ _ _ _ _ _))
local macro_rules | `(tactic| walk_at "mine till") => `(tactic| repeat' ((fail_if_success (walk_at "mine stop")); first | (k_unfold; (try dsimp only)) | walk1 | (dsimp only; walk1)))

local macro_rules | `(tactic| walk_at "call builtin:len") => `(tactic| (k_here; k_dflt (refine' len_L ?N ?m ?z ?_; (case N => k_asm); (case m => k_mem); (case z => first | assumption | omega | walk_at "mine len"); k_whole)))
local macro_rules | `(tactic| walk_at "subscriptTail Name") => `(tactic| (k_here; k_dflt (refine' item_K ?N ?m ?x ?z ?_ ?s; (case N => k_asm); (case m => k_mem); (case x => assumption); (case z => first | omega | walk_at "mine len"); (case s => with_unfolding_all rfl); k_whole)))

/-- before, by the key f, and among alike ones by r -/
def Bef (f : Value → Int) (r : Value → Value → Prop) (a b : Value) : Prop := f a < f b ∨ (f a = f b ∧ r a b)
theorem cmpI_le {a b : Int} : cmpI a b ≤ 0 ↔ a ≤ b := by
  unfold cmpI
  split
  · omega
  · split <;> omega
theorem mrg_bef (f : Value → Int) (r : Value → Value → Prop) : ∀ (n : Nat) (xs ys : List Value), xs.length + ys.length ≤ n → xs.Pairwise (Bef f r) → ys.Pairwise (Bef f r) → (∀ x ∈ xs, ∀ y ∈ ys, r x y) → (mrg (fun x y => cmpI (f x) (f y)) xs ys).Pairwise (Bef f r)
  | _, [], ys, _, _, hy, _ => by simpa [mrg] using hy
  | _, x :: xs, [], _, hx, _, _ => by simpa [mrg] using hx
  | 0, x :: xs, y :: ys, hn, _, _, _ => by simp at hn
  | n + 1, x :: xs, y :: ys, hn, hx, hy, hr => by
    have hx' := List.pairwise_cons.mp hx
    have hy' := List.pairwise_cons.mp hy
    simp only [List.length_cons] at hn
    by_cases hc : f x ≤ f y
    · have e : mrg (fun x y => cmpI (f x) (f y)) (x :: xs) (y :: ys) = x :: mrg (fun x y => cmpI (f x) (f y)) xs (y :: ys) := by
        unfold mrg
        rw [List.cons_merge_cons, if_pos (by simpa using cmpI_le.mpr hc)]
      rw [e]
      refine List.pairwise_cons.mpr ⟨fun z hz => ?_, mrg_bef f r n xs (y :: ys) (by simp only [List.length_cons]; omega) hx'.2 hy fun u hu v hv => hr u (.tail _ hu) v hv⟩
      rcases List.mem_merge.mp hz with hz | hz
      · exact hx'.1 z hz
      · have hxz : r x z := hr x (.head _) z hz
        have hle : f y ≤ f z := by
          rcases List.mem_cons.mp hz with rfl | hz
          · exact Int.le_refl _
          · rcases hy'.1 z hz with h | h
            · omega
            · omega
        by_cases hlt : f x < f z
        · exact .inl hlt
        · exact .inr ⟨by omega, hxz⟩
    · have e : mrg (fun x y => cmpI (f x) (f y)) (x :: xs) (y :: ys) = y :: mrg (fun x y => cmpI (f x) (f y)) (x :: xs) ys := by
        unfold mrg
        rw [List.cons_merge_cons, if_neg (by simpa using fun h => hc (cmpI_le.mp h))]
      rw [e]
      refine List.pairwise_cons.mpr ⟨fun z hz => ?_, mrg_bef f r n (x :: xs) ys (by simp only [List.length_cons]; omega) hx hy'.2 fun u hu v hv => hr u hu v (.tail _ hv)⟩
      rcases List.mem_merge.mp hz with hz | hz
      · left
        rcases List.mem_cons.mp hz with rfl | hz
        · omega
        · rcases hx'.1 z hz with h | h
          · omega
          · omega
      · exact hy'.1 z hz
theorem passRuns_bef (f : Value → Int) (r : Value → Value → Prop) : ∀ (n : Nat) (xss : List (List Value)), xss.length ≤ n → (∀ xs ∈ xss, xs.Pairwise (Bef f r)) → xss.Pairwise (fun a b => ∀ x ∈ a, ∀ y ∈ b, r x y) →
    (∀ xs ∈ passRuns (fun x y => cmpI (f x) (f y)) xss, xs.Pairwise (Bef f r)) ∧ (passRuns (fun x y => cmpI (f x) (f y)) xss).Pairwise (fun a b => ∀ x ∈ a, ∀ y ∈ b, r x y)
  | _, [], _, h1, h2 => ⟨h1, h2⟩
  | _, [_], _, h1, h2 => ⟨h1, h2⟩
  | 0, _ :: _ :: _, hn, _, _ => by simp at hn
  | n + 1, a :: b :: l, hn, h1, h2 => by
    have p1 := List.pairwise_cons.mp h2
    have p2 := List.pairwise_cons.mp p1.2
    have ih := passRuns_bef f r n l (by simp only [List.length_cons] at hn; omega) (fun xs hx => h1 xs (.tail _ (.tail _ hx))) p2.2
    constructor
    · intro xs hx
      rcases List.mem_cons.mp hx with rfl | hx
      · exact mrg_bef f r _ a b (Nat.le_refl _) (h1 a (.head _)) (h1 b (.tail _ (.head _))) (p1.1 b (.head _))
      · exact ih.1 xs hx
    · refine List.pairwise_cons.mpr ⟨fun xs hx u hu v hv => ?_, ih.2⟩
      have hmem : ∀ ys ∈ passRuns (fun x y => cmpI (f x) (f y)) l, ∀ v ∈ ys, ∃ zs ∈ l, v ∈ zs := passes_mem (P := fun v => ∃ zs ∈ l, v ∈ zs) _ fun zs hz v hv => ⟨zs, hz, hv⟩
      obtain ⟨zs, hz, hv'⟩ := hmem xs hx v hv
      rcases List.mem_merge.mp hu with hu | hu
      · exact p1.1 zs (.tail _ hz) u hu v hv'
      · exact p2.1 zs hz u hu v hv'
theorem passRuns_perm (cmp : Value → Value → Int) : ∀ xss : List (List Value), (passRuns cmp xss).flatten.Perm xss.flatten
  | [] => .refl _
  | [_] => .refl _
  | a :: b :: l => by
    have ih := passRuns_perm cmp l
    simp only [passRuns, List.flatten_cons]
    rw [← List.append_assoc]
    exact List.Perm.append (List.merge_perm_append ..) ih
theorem passes_perm (cmp : Value → Value → Int) (xss : List (List Value)) : ∀ k, (passes cmp xss k).flatten.Perm xss.flatten
  | 0 => .refl _
  | k + 1 => (passRuns_perm cmp _).trans (passes_perm cmp xss k)
theorem flatten_ones : ∀ vs : List Value, (vs.map fun v => [v]).flatten = vs
  | [] => rfl
  | v :: r => by simp [flatten_ones r]
theorem IsMsort.perm {cmp : Value → Value → Int} {vs ys : List Value} (h : IsMsort cmp vs ys) : ys.Perm vs := by
  rcases h with ⟨rfl, rfl⟩ | ⟨k, hk⟩
  · exact .refl _
  · have p := passes_perm cmp (vs.map fun v => [v]) k
    rw [hk, flatten_ones] at p
    simpa using p
theorem IsMsort.bef {f : Value → Int} {r : Value → Value → Prop} {vs ys : List Value} (h : IsMsort (fun x y => cmpI (f x) (f y)) vs ys) (hr : vs.Pairwise r) : ys.Pairwise (Bef f r) := by
  rcases h with ⟨rfl, rfl⟩ | ⟨k, hk⟩
  · exact .nil
  · have all : ∀ k, (∀ xs ∈ passes (fun x y => cmpI (f x) (f y)) (vs.map fun v => [v]) k, xs.Pairwise (Bef f r)) ∧ (passes (fun x y => cmpI (f x) (f y)) (vs.map fun v => [v]) k).Pairwise (fun a b => ∀ x ∈ a, ∀ y ∈ b, r x y) := by
      intro k
      induction k with
      | zero =>
        refine ⟨fun xs hx => ?_, ?_⟩
        · obtain ⟨v, _, rfl⟩ := List.mem_map.mp hx
          exact List.pairwise_singleton _ _
        · refine List.pairwise_map.mpr (hr.imp fun {a b} hab x hx y hy => ?_)
          rw [List.mem_singleton.mp hx, List.mem_singleton.mp hy]
          exact hab
      | succ k ih => exact passRuns_bef f r _ _ (Nat.le_refl _) ih.1 ih.2
    have := (all k).1 ys (by rw [hk]; exact .head _)
    exact this
/-- two lists in one strict order, of the same items, are one list -/
theorem bef_unique {r : Value → Value → Prop} (hr : ∀ a b, r a b → r b a → False) : ∀ {xs ys : List Value}, xs.Pairwise r → ys.Pairwise r → xs.Perm ys → xs = ys
  | [], ys, _, _, hp => (List.Perm.nil_eq hp)
  | x :: xs, ys, hx, hy, hp => by
    cases ys with
    | nil => exact absurd hp.length_eq (by simp)
    | cons y ys =>
      have p1 := List.pairwise_cons.mp hx
      have p2 := List.pairwise_cons.mp hy
      have e : x = y := by
        have m1 : x ∈ y :: ys := hp.mem_iff.mp (.head _)
        have m2 : y ∈ x :: xs := hp.mem_iff.mpr (.head _)
        rcases List.mem_cons.mp m1 with h | h
        · exact h
        · rcases List.mem_cons.mp m2 with h' | h'
          · exact h'.symm
          · exact (hr _ _ (p1.1 y h') (p2.1 x h)).elim
      subst e
      rw [bef_unique hr p1.2 p2.2 (List.perm_cons x |>.mp hp)]

end

-- part SzK
section
local macro_rules | `(tactic| k_room) => `(tactic| ((try simp only [depth_under_make, depth_under_kw, depth_in1, depth_deeper, depth_caller]); (try dsimp only [ktrTop]); omega))
local macro_rules | `(tactic| k_units) => `(tactic| ((try simp only [units_in1, units_deeper, Around.mark_units, units_caller]); (try dsimp only [ktrTop]); (have hcL9 := cLine_is); omega))
local macro_rules | `(tactic| walk_at "mine in") => `(tactic| (intro p9 m9; first | exact m9 | (repeat (first | exact m9 | refine List.Mem.tail _ ?_))))
local macro_rules | `(tactic| walk_at "eval Call") => `(tactic| (k_here; k_dflt (refine Call_ ?_)))
local macro_rules | `(tactic| walk_at "mine dec") => `(tactic| first | with_reducible assumption | decide | ((try simp only [decide_eq_true_eq, decide_eq_false_iff_not, beq_iff_eq, bne_iff_ne, ne_eq, Bool.not_eq_true, Bool.not_eq_false, beq_eq_false_iff_ne, bne_eq_false_iff_eq]); omega))
local macro_rules | `(tactic| walk_at "ite") => `(tactic| (k_here; k_dflt (first | (refine ite_pos (by walk_at "mine dec") ?_) | (refine ite_neg (by walk_at "mine dec") ?_))))
local macro_rules | `(tactic| k_mem) => `(tactic| first | with_reducible assumption | exact List.Mem.head _ | (refine' List.mem_cons_of_mem _ ?_; k_mem))
/-- a tree of questions, asked of keys: what holds of its answer; every question stays below n -/
noncomputable def kp {α : Type} (key : Nat → Int) (n : Nat) (Q : α → Prop) : KasT α → Prop
  | .ret a => Q a
  | .ask i j k => i < n ∧ j < n ∧ kp key n Q (k (decide (key i < key j)))
theorem kp_bind {α β : Type} {key : Nat → Int} {n : Nat} {Q : β → Prop} {f : α → KasT β} : ∀ (t : KasT α), kp key n (fun a => kp key n Q (f a)) t → kp key n Q (t.bind f)
  | .ret _, h => h
  | .ask _ _ k, h => ⟨h.1, h.2.1, kp_bind (k _) h.2.2⟩
theorem kp_mono {α : Type} {key : Nat → Int} {n : Nat} {Q Q' : α → Prop} (hq : ∀ a, Q a → Q' a) : ∀ (t : KasT α), kp key n Q t → kp key n Q' t
  | .ret a, h => hq a h
  | .ask _ _ k, h => ⟨h.1, h.2.1, kp_mono hq (k _) h.2.2⟩
/-- p is an order of 0 .. n - 1 -/
def IsOrd (n : Nat) (p : Array Nat) : Prop := p.toList.Perm (List.range n)
theorem IsOrd.size {n : Nat} {p : Array Nat} (h : IsOrd n p) : p.size = n := by have := h.length_eq; simpa using this
theorem IsOrd.get {n i : Nat} {p : Array Nat} (h : IsOrd n p) (hi : i < n) : p.getD i 0 < n := by
  have hs := h.size
  have hm : p.getD i 0 ∈ p.toList := by
    have : p.getD i 0 = p[i]'(by omega) := by simp [Array.getD, show i < p.size by omega]
    rw [this]
    exact Array.getElem_mem_toList _
  exact List.mem_range.mp (h.mem_iff.mp hm)
theorem IsOrd.perm {n : Nat} {p q : Array Nat} (h : IsOrd n p) (hq : q.Perm p) : IsOrd n q := (Array.perm_iff_toList_perm.mp hq).trans h
def kk (key : Nat → Int) (p : Array Nat) (i : Nat) : Int := key (p.getD i 0)
theorem kk_congr {key : Nat → Int} {p q : Array Nat} {i j : Nat} (h : p[i]? = q[j]?) : kk key p i = kk key q j := by
  unfold kk
  simp only [Array.getD_eq_getD_getElem?, h]
def Srt (key : Nat → Int) (p : Array Nat) (k : Nat) : Prop := ∀ i j, i ≤ j → j < k → kk key p i ≤ kk key p j
def Dsc (key : Nat → Int) (p : Array Nat) (k : Nat) : Prop := ∀ i j, i ≤ j → j < k → kk key p j ≤ kk key p i
theorem kk_bubble {key : Nat → Int} {xs : Array Nat} {src d : Nat} (hs : src < xs.size) (hd : d ≤ src) (k : Nat) :
    kk key (bubble xs src d) k = if k = src - d then kk key xs src else if src - d < k ∧ k ≤ src then kk key xs (k - 1) else kk key xs k := by
  have e := getElem?_bubble hs d hd k
  by_cases h1 : k = src - d
  · rw [if_pos h1] at e ⊢; exact kk_congr e
  · rw [if_neg h1] at e ⊢
    by_cases h2 : src - d < k ∧ k ≤ src
    · rw [if_pos h2] at e ⊢; exact kk_congr e
    · rw [if_neg h2] at e ⊢; exact kk_congr e
theorem kk_rev {key : Nat → Int} {xs : Array Nat} {i j : Nat} (hj : j ≤ xs.size) (k : Nat) : kk key (kas_rev xs i j) k = if i ≤ k ∧ k < j then kk key xs (i + j - 1 - k) else kk key xs k := by
  have e := getElem?_mirror_all (i := i) hj k
  unfold kas_rev
  by_cases h1 : i ≤ k ∧ k < j
  · rw [if_pos h1] at e ⊢; exact kk_congr e
  · rw [if_neg h1] at e ⊢; exact kk_congr e
theorem kk_rev_equal {key : Nat → Int} {xs : Array Nat} {i j : Nat} (hj : j ≤ xs.size) (heq : ∀ k, i ≤ k → k < j → kk key xs k = kk key xs (j - 1)) (k : Nat) : kk key (kas_rev xs i j) k = kk key xs k := by
  rw [kk_rev hj]
  split
  · rw [heq _ (by omega) (by omega), heq k (by omega) (by omega)]
  · rfl
section
variable {key : Nat → Int} {N : Nat}
theorem kp_ask {α : Type} {p : Array Nat} {a b : Nat} {Q : α → Prop} {k : Bool → KasT α} (hp : IsOrd N p) (ha : a < N) (hb : b < N) (h1 : kk key p a < kk key p b → kp key N Q (k true)) (h2 : ¬ kk key p a < kk key p b → kp key N Q (k false)) :
    kp key N Q (.ask (p.getD a 0) (p.getD b 0) k) := by
  refine ⟨hp.get ha, hp.get hb, ?_⟩
  by_cases h : kk key p a < kk key p b
  · rw [show decide (key (p.getD a 0) < key (p.getD b 0)) = true from decide_eq_true h]; exact h1 h
  · rw [show decide (key (p.getD a 0) < key (p.getD b 0)) = false from decide_eq_false h]; exact h2 h
theorem kp_asc {p : Array Nat} (hp : IsOrd N p) : ∀ (f n : Nat) {Q : Nat → Prop}, 1 ≤ n → n + f ≤ N → Srt key p n → (∀ m, n ≤ m → m ≤ n + f → Srt key p m → (m = n + f ∨ kk key p m < kk key p (m - 1)) → Q m) → kp key N Q (kas_asc p f n)
  | 0, n, Q, _, _, hs, h => h n (Nat.le_refl _) (Nat.le_refl _) hs (.inl rfl)
  | f + 1, n, Q, h1, hn, hs, h => by
    unfold kas_asc
    refine kp_ask hp (by omega) (by omega) (fun hlt => ?_) fun hge => ?_
    · rw [if_pos rfl]
      exact h n (Nat.le_refl _) (by omega) hs (.inr hlt)
    · rw [if_neg (by simp)]
      refine kp_asc hp f (n + 1) (by omega) (by omega) (fun i j hij hj => ?_) fun m hm1 hm2 hsm ho => h m (by omega) (by omega) hsm (by omega)
      by_cases hjx : j < n
      · exact hs i j hij hjx
      · have hj' : j = n := by omega
        subst hj'
        by_cases hi' : i = j
        · subst hi'; exact Int.le_refl _
        · have := hs i (j - 1) (by omega) (by omega)
          omega
theorem IsOrd.rev {p : Array Nat} (hp : IsOrd N p) (i j : Nat) : IsOrd N (kas_rev p i j) := hp.perm (mirror_perm _ _ _ _)
theorem kp_tail3 {p : Array Nat} {n : Nat} {Q : Nat × Array Nat → Prop} (hp : IsOrd N p) (h1 : 1 ≤ n) (hn : n ≤ N) (hs : Dsc key p n) (h : ∀ m p', IsOrd N p' → 1 ≤ m → m ≤ N → Srt key p' m → Q (m, p')) : kp key N Q (kas_tail3 n N p) := by
  unfold kas_tail3
  have hsz : n ≤ p.size := by rw [hp.size]; exact hn
  refine kp_bind _ (kp_asc (hp.rev 0 n) _ _ h1 (by omega) (fun i j hij hj => ?_) fun m hm1 hm2 hsm _ => h m _ (hp.rev 0 n) (by omega) (by omega) hsm)
  rw [kk_rev hsz, kk_rev hsz, if_pos (by omega), if_pos (by omega)]
  exact hs _ _ (by omega) (by omega)
theorem kp_desc : ∀ (f : Nat) (p : Array Nat) (n q : Nat) {Q : Array Nat × Nat × Nat → Prop}, IsOrd N p → 1 ≤ n → n + f ≤ N → Dsc key p n → q + 1 ≤ n → (∀ i, n - (q + 1) ≤ i → i < n → kk key p i = kk key p (n - 1)) →
    (∀ p' m q', IsOrd N p' → n ≤ m → m ≤ n + f → Dsc key p' m → q' + 1 ≤ m → (∀ i, m - (q' + 1) ≤ i → i < m → kk key p' i = kk key p' (m - 1)) → Q (p', m, q')) → kp key N Q (kas_desc f p n q)
  | 0, p, n, q, Q, hp, _, _, hs, hq, he, h => h p n q hp (Nat.le_refl _) (Nat.le_refl _) hs hq he
  | f + 1, p, n, q, Q, hp, h1, hn, hs, hq, he, h => by
    unfold kas_desc
    have hsz : n ≤ p.size := by rw [hp.size]; omega
    refine kp_ask hp (by omega) (by omega) (fun hlt => ?_) fun hge => ?_
    · rw [if_pos rfl]
      have step1 : ∀ xs : Array Nat, (∀ k, kk key xs k = kk key p k) → Dsc key xs (n + 1) := by
        intro xs hk i j hij hj
        rw [hk, hk]
        by_cases hjx : j < n
        · exact hs i j hij hjx
        · have hj' : j = n := by omega
          subst hj'
          by_cases hi' : i = j
          · subst hi'; exact Int.le_refl _
          · have := hs i (j - 1) (by omega) (by omega)
            omega
      by_cases hq0 : q > 0
      · rw [if_pos hq0]
        exact kp_desc f _ (n + 1) 0 (hp.rev _ _) (by omega) (by omega) (step1 _ (kk_rev_equal hsz he)) (by omega) (fun i h1 h2 => by congr 1; omega) fun p' m q' a1 a2 a3 a4 a5 a6 => h p' m q' a1 (by omega) (by omega) a4 a5 a6
      · rw [if_neg hq0]
        exact kp_desc f _ (n + 1) 0 hp (by omega) (by omega) (step1 _ fun _ => rfl) (by omega) (fun i h1 h2 => by congr 1; omega) fun p' m q' a1 a2 a3 a4 a5 a6 => h p' m q' a1 (by omega) (by omega) a4 a5 a6
    · rw [if_neg (by simp)]
      refine kp_ask hp (by omega) (by omega) (fun hlt => ?_) fun hge' => ?_
      · rw [if_pos rfl]
        exact h p n q hp (Nat.le_refl _) (by omega) hs hq he
      · rw [if_neg (by simp)]
        have heq : kk key p n = kk key p (n - 1) := by omega
        refine kp_desc f p (n + 1) (q + 1) hp (by omega) (by omega) (fun i j hij hj => ?_) (by omega) (fun i h1 h2 => ?_) fun p' m q' a1 a2 a3 a4 a5 a6 => h p' m q' a1 (by omega) (by omega) a4 a5 a6
        · by_cases hjx : j < n
          · exact hs i j hij hjx
          · have hj' : j = n := by omega
            subst hj'
            by_cases hi' : i = j
            · subst hi'; exact Int.le_refl _
            · rw [heq]; exact hs i (j - 1) (by omega) (by omega)
        · rw [show n + 1 - 1 = n by omega]
          by_cases hix : i = n
          · subst hix; rfl
          · rw [heq]; exact he i (by omega) (by omega)
theorem kp_descPart {p : Array Nat} {n : Nat} {Q : Nat × Array Nat → Prop} (hp : IsOrd N p) (hn : n + 1 ≤ N) (hs : Dsc key p (n + 1)) (h : ∀ m p', IsOrd N p' → 1 ≤ m → m ≤ N → Srt key p' m → Q (m, p')) : kp key N Q (kas_descPart n N p) := by
  unfold kas_descPart
  refine kp_bind _ (kp_desc _ p (n + 1) 0 hp (by omega) (by omega) hs (by omega) (fun i h1 h2 => by congr 1; omega) fun p' m q' hp' hm1 hm2 hs' hq' he' => ?_)
  have hsz : m ≤ p'.size := by rw [hp'.size]; omega
  dsimp only
  by_cases hq0 : q' > 0
  · rw [if_pos hq0]
    refine kp_tail3 (hp'.rev _ _) (by omega) (by omega) (fun i j hij hj => ?_) h
    rw [kk_rev_equal hsz he', kk_rev_equal hsz he']
    exact hs' i j hij hj
  · rw [if_neg hq0]
    exact kp_tail3 hp' (by omega) (by omega) hs' h
theorem kp_count {p : Array Nat} {Q : Nat × Array Nat → Prop} (hp : IsOrd N p) (h1 : 1 ≤ N) (h : ∀ m p', IsOrd N p' → 1 ≤ m → m ≤ N → Srt key p' m → Q (m, p')) : kp key N Q (kas_count N p) := by
  unfold kas_count
  refine kp_bind _ (kp_asc hp _ 1 (Nat.le_refl _) (by omega) (fun i j hij hj => by have : i = j := (by omega); subst this; exact Int.le_refl _) fun n hn1 hn2 hsn hor => ?_)
  by_cases hnn : n = N
  · rw [if_pos (by simpa using hnn)]
    exact h n p hp hn1 (by omega) hsn
  · rw [if_neg (by simpa using hnn)]
    have hlt : kk key p n < kk key p (n - 1) := by omega
    by_cases hgt : n > 1
    · rw [if_pos hgt]
      refine kp_ask hp (by omega) (by omega) (fun _ => ?_) fun hrose => ?_
      · rw [if_pos rfl]
        exact h n p hp hn1 (by omega) hsn
      · rw [if_neg (by simp)]
        have hsz : n ≤ p.size := by rw [hp.size]; omega
        have hall : ∀ k, 0 ≤ k → k < n → kk key p k = kk key p (n - 1) := by
          intro k _ hk
          have a1 := hsn 0 k (by omega) hk
          have a2 := hsn k (n - 1) (by omega) (by omega)
          omega
        refine kp_descPart (hp.rev _ _) (by omega) (fun i j hij hj => ?_) h
        rw [kk_rev_equal hsz hall, kk_rev_equal hsz hall]
        by_cases hjn : j < n
        · rw [hall i (by omega) (by omega), hall j (by omega) hjn]; exact Int.le_refl _
        · have hj' : j = n := by omega
          subst hj'
          by_cases hi' : i = j
          · subst hi'; exact Int.le_refl _
          · rw [hall i (by omega) (by omega)]; omega
    · rw [if_neg hgt]
      have hn1' : n = 1 := by omega
      subst hn1'
      refine kp_descPart hp (by omega) (fun i j hij hj => ?_) h
      by_cases hi' : i = j
      · subst hi'; exact Int.le_refl _
      · have hi0 : i = 0 := by omega
        have hj1 : j = 1 := by omega
        subst hi0; subst hj1
        exact Int.le_of_lt hlt
theorem kp_place {p : Array Nat} (hp : IsOrd N p) {k : Nat} (hk : k < N) (hs : Srt key p k) : ∀ (f l r : Nat) {Q : Nat → Prop}, l ≤ r → r ≤ k → r - l ≤ f → (∀ i, i < l → kk key p i ≤ kk key p k) → (∀ i, r ≤ i → i < k → kk key p k < kk key p i) →
    (∀ l, l ≤ k → (∀ i, i < l → kk key p i ≤ kk key p k) → (∀ i, l ≤ i → i < k → kk key p k < kk key p i) → Q l) → kp key N Q (kas_place p k f l r)
  | 0, l, r, Q, hlr, hrk, hf, hlo, hhi, h => by
    have e : l = r := by omega
    subst e
    exact h l hrk hlo hhi
  | f + 1, l, r, Q, hlr, hrk, hf, hlo, hhi, h => by
    unfold kas_place
    by_cases hge : l ≥ r
    · rw [if_pos hge]
      have e : l = r := by omega
      subst e
      exact h l hrk hlo hhi
    · rw [if_neg hge]
      refine kp_ask hp hk (by omega) (fun hlt => ?_) fun hnlt => ?_
      · rw [if_pos rfl]
        refine kp_place hp hk hs f l ((l + r) / 2) (by omega) (by omega) (by omega) hlo (fun i h1 h2 => ?_) h
        have := hs ((l + r) / 2) i h1 h2
        omega
      · rw [if_neg (by simp)]
        refine kp_place hp hk hs f ((l + r) / 2 + 1) r (by omega) hrk (by omega) (fun i h1 => ?_) hhi h
        have := hs i ((l + r) / 2) (by omega) (by omega)
        omega
theorem kp_bin : ∀ (f : Nat) (p : Array Nat) (k : Nat) {Q : Array Nat → Prop}, IsOrd N p → k + f ≤ N → Srt key p k → (∀ p', IsOrd N p' → Srt key p' (k + f) → Q p') → kp key N Q (kas_bin f p k)
  | 0, p, k, Q, hp, _, hs, h => h p hp hs
  | f + 1, p, k, Q, hp, hk, hs, h => by
    unfold kas_bin
    have hks : k < p.size := by rw [hp.size]; omega
    refine kp_bind _ (kp_place hp (by omega) hs k 0 k (Nat.zero_le _) (Nat.le_refl _) (by omega) (fun i hi => absurd hi (Nat.not_lt_zero _)) (fun i h1 h2 => by omega) fun l hlk hlo hhi => ?_)
    refine kp_bin f _ (k + 1) (hp.perm (bubble_perm _ _ _)) (by omega) (fun i j hij hj => ?_) fun p' hp' hs' => h p' hp' (by rw [show k + (f + 1) = k + 1 + f by omega]; exact hs')
    rw [kk_bubble hks (by omega), kk_bubble hks (by omega), show k - (k - l) = l by omega]
    repeat' split
    all_goals first
      | (exfalso; omega)
      | exact Int.le_refl _
      | exact hlo _ (by omega)
      | exact Int.le_of_lt (hhi _ (by omega) (by omega))
      | exact hs _ _ (by omega) (by omega)
theorem kp_sort (h1 : 1 ≤ N) {Q : Array Nat → Prop} (h : ∀ p, IsOrd N p → Srt key p N → Q p) : kp key N Q (kas_sort N) := by
  unfold kas_sort
  have h0 : IsOrd N (List.toArray (List.range N)) := .refl _
  refine kp_bind _ (kp_count h0 h1 fun m p hp hm1 hm2 hs => ?_)
  dsimp only
  by_cases hlt : m < N
  · rw [if_pos hlt, Nat.max_eq_left hm1]
    exact kp_bin _ p m hp (by omega) hs fun p' hp' hs' => h p' hp' (by rw [show m + (N - m) = N by omega] at hs'; exact hs')
  · rw [if_neg hlt]
    have e : m = N := by omega
    subst e
    exact h p hp hs
end
section
variable {prog : Program} {w : World} {A : Around} {E : Value → Shared → Prop} {s : Shared}
theorem kasWp_of_kp {α : Type} {key : Nat → Int} {n : Nat} {P : α → Prop} {κ : SortKind} {vs : List Value} {Q : α → Shared → Prop}
    (hask : ∀ i j (C : Bool → Shared → Prop), i < n → j < n → C (decide (key i < key j)) s → kas_ask prog w A κ vs i j C s) (hq : ∀ a, P a → Q a s) : ∀ t : KasT α, kp key n P t → t.kasWp (kas_ask prog w A κ vs) Q s
  | .ret a, h => hq a h
  | .ask i j k, h => hask i j _ h.1 h.2.1 (kasWp_of_kp hask hq (k _) h.2.2)
theorem lt_pair {x y : Addr} {n1 i1 n2 i2 : Int} {t1 t2 u1 u2 : Tok} {c1 c2 : Nat} {Q : Bool → Shared → Prop} (hx : s.heap.get? x = some { cls := .type "tuple", data := .seq #[.int n1 t1, .int i1 u1] c1 }) (hy : s.heap.get? y = some { cls := .type "tuple", data := .seq #[.int n2 t2, .int i2 u2] c2 })
    (h : Q (decide (n1 < n2 ∨ (n1 = n2 ∧ i1 < i2))) s) : wpAny (model prog w) A (keyLt' (tuples' true) (.ref x) (.ref y)) Q E s := by
  refine kat_lt hx rfl hy rfl ?_
  show KatLex prog w A true (decide ((2 : Nat) < 2)) Q [(.int n1 t1, .int n2 t2), (.int i1 u1, .int i2 u2)] 0 s
  refine kat_cons (wpAny_eqBool_int ?_)
  by_cases h1 : n1 = n2
  · rw [show (n1 == n2) = true by simpa using h1]
    refine kat_yes (kat_cons (wpAny_eqBool_int ?_))
    by_cases h2 : i1 = i2
    · rw [show (i1 == i2) = true by simpa using h2]
      refine kat_yes (kat_nil ?_)
      rw [show decide (n1 < n2 ∨ (n1 = n2 ∧ i1 < i2)) = false from decide_eq_false (by omega)] at h
      exact h
    · rw [show (i1 == i2) = false by simpa using h2]
      refine kat_no ?_
      show wpAny (model prog w) A (oneLt' false (.int i1 u1) (.int i2 u2)) Q _ s
      refine kat_one _ _ (lt_int ?_)
      rw [show decide (n1 < n2 ∨ (n1 = n2 ∧ i1 < i2)) = decide (i1 < i2) from decide_eq_decide.mpr (by omega)] at h
      exact h
  · rw [show (n1 == n2) = false by simpa using h1]
    refine kat_no ?_
    show wpAny (model prog w) A (oneLt' true (.int n1 t1) (.int n2 t2)) Q _ s
    refine oneLt_int ?_
    rw [show decide (n1 < n2 ∨ (n1 = n2 ∧ i1 < i2)) = decide (n1 < n2) from decide_eq_decide.mpr (by omega)] at h
    exact h
end

end

-- part SzN
section
local macro_rules | `(tactic| k_room) => `(tactic| ((try simp only [depth_under_make, depth_under_kw, depth_in1, depth_deeper, depth_caller]); (try dsimp only [ktrTop]); omega))
local macro_rules | `(tactic| k_units) => `(tactic| ((try simp only [units_in1, units_deeper, Around.mark_units, units_caller]); (try dsimp only [ktrTop]); (have hcL9 := cLine_is); omega))
local macro_rules | `(tactic| walk_at "mine in") => `(tactic| (intro p9 m9; first | exact m9 | (repeat (first | exact m9 | refine List.Mem.tail _ ?_))))
local macro_rules | `(tactic| walk_at "eval Call") => `(tactic| (k_here; k_dflt (refine Call_ ?_)))
local macro_rules | `(tactic| walk_at "mine dec") => `(tactic| first | with_reducible assumption | decide | ((try simp only [decide_eq_true_eq, decide_eq_false_iff_not, beq_iff_eq, bne_iff_ne, ne_eq, Bool.not_eq_true, Bool.not_eq_false, beq_eq_false_iff_ne, bne_eq_false_iff_eq]); omega))
local macro_rules | `(tactic| walk_at "ite") => `(tactic| (k_here; k_dflt (first | (refine ite_pos (by walk_at "mine dec") ?_) | (refine ite_neg (by walk_at "mine dec") ?_))))
local macro_rules | `(tactic| k_mem) => `(tactic| first | with_reducible assumption | exact List.Mem.head _ | (refine' List.mem_cons_of_mem _ ?_; k_mem))
local macro_rules | `(tactic| walk_at "call ref") => `(tactic| (k_here; k_dflt (refine' cl_use (figure0 _ _ _ _ _ _ _ _ ?q1 ?q2) ?k1 ?k2 ?k3 ?k4 ?k5 ?kK ?kd ?ku ?_; (case k1 => k_asm); (case k2 => k_asm); (case k3 => k_asm); (case k4 => k_asm); (case k5 => k_asm); (case kK => first | exact rfl | assumption); (case q1 => first | assumption | omega | decide | (simp <;> omega)); (case q2 => first | assumption | omega | decide | (simp <;> omega)); (case kd => k_room); (case ku => k_units); (try k_sweep); intro r9 n9 h9 tk9 F9 N9 o9; (obtain ⟨e9, t9, q9⟩ := o9; subst e9; subst q9); (try k_sweep); (try dsimp only))))
local macro_rules | `(tactic| walk_at "call ref") => `(tactic| (k_here; k_dflt (refine' cl_use (figure1 _ _ _ _ _ _ _ _ ?q1 ?q2) ?k1 ?k2 ?k3 ?k4 ?k5 ?kK ?kd ?ku ?_; (case k1 => k_asm); (case k2 => k_asm); (case k3 => k_asm); (case k4 => k_asm); (case k5 => k_asm); (case kK => first | exact rfl | assumption); (case q1 => first | assumption | omega | decide | (simp <;> omega)); (case q2 => first | assumption | omega | decide | (simp <;> omega)); (case kd => k_room); (case ku => k_units); (try k_sweep); intro r9 n9 h9 tk9 F9 N9 o9; (obtain ⟨e9, t9, q9⟩ := o9; subst e9; subst q9); (try k_sweep); (try dsimp only))))
local macro_rules | `(tactic| walk_at "call ref") => `(tactic| (k_here; k_dflt (refine' cl_use (figure2 _ _ _ _ _ _ _ _ ?q1 ?q2) ?k1 ?k2 ?k3 ?k4 ?k5 ?kK ?kd ?ku ?_; (case k1 => k_asm); (case k2 => k_asm); (case k3 => k_asm); (case k4 => k_asm); (case k5 => k_asm); (case kK => first | exact rfl | assumption); (case q1 => first | assumption | omega | decide | (simp <;> omega)); (case q2 => first | assumption | omega | decide | (simp <;> omega)); (case kd => k_room); (case ku => k_units); (try k_sweep); intro r9 n9 h9 tk9 F9 N9 o9; (obtain ⟨e9, t9, q9⟩ := o9; subst e9; subst q9); (try k_sweep); (try dsimp only))))
local macro_rules | `(tactic| walk_at "call ref") => `(tactic| (k_here; k_dflt (refine' cl_use (cmpnum_ok _ _ _ _ _ _ _ _ _ _) ?k1 ?k2 ?k3 ?k4 ?k5 ?kK ?kd ?ku ?_; (case k1 => k_asm); (case k2 => k_asm); (case k3 => k_asm); (case k4 => k_asm); (case k5 => k_asm); (case kK => first | exact rfl | assumption); (case kd => k_room); (case ku => k_units); (try k_sweep); intro r9 n9 h9 tk9 F9 N9 o9; (obtain ⟨e9, t9, q9⟩ := o9; subst e9; subst q9); (try k_sweep); (try dsimp only))))


section
variable {prog : Program} {w : World} {A : Around} {E : Value → Shared → Prop} {s : Shared} {h₀ : Heap} {L l : Addr} {m : Str → Option Value} {news : List (Addr × Obj)} {num turn : Value → Int}
theorem tups_of {h : Heap} (N : News h₀ L h news) : ∀ vs : List Value, (∀ v ∈ vs, IsMem num turn news v) → ∃ fs, KatTups h vs fs ∧ fs.length = vs.length ∧ ∀ f ∈ fs, ∃ n t, f = .int n t
  | [], _ => ⟨[], KatTups.nil, rfl, fun _ h => nomatch h⟩
  | v :: r, hm => by
    obtain ⟨fs, h1, h2, h3⟩ := tups_of N r fun u hu => hm u (.tail _ hu)
    obtain ⟨a, t, t', k, rfl, hmem, _, _⟩ := hm v (.head _)
    refine ⟨.int (num (.ref a)) t :: fs, KatTups.cons (N _ hmem).1 rfl rfl rfl h1, by simp [h2], fun f hf => ?_⟩
    rcases List.mem_cons.mp hf with rfl | hf
    · exact ⟨_, _, rfl⟩
    · exact h3 f hf
/-- the key of a pair -/
def pkey (num turn : Value → Int) (v : Value) : Int := num v * 100 + turn v
theorem map_getD {n : Nat} {vs : List Value} (hn : vs.length = n) {p : Array Nat} (hp : IsOrd n p) : (p.toList.map fun i => vs.getD i Value.none).Perm vs := by
  have e : vs = (List.range n).map fun i => vs.getD i Value.none := by
    apply List.ext_getElem
    · simp [hn]
    · intro i h1 h2
      simp [h1]
  have := hp.map fun i => vs.getD i Value.none
  rw [← e] at this
  exact this
theorem due_two {c : Nat} {vs : List Value} {Q : Value → Shared → Prop} (F : Fr h₀ L s.heap m) (N : News h₀ L s.heap news) (hl : (l, listOf (List.toArray vs) c) ∈ news) (hm : ∀ v ∈ vs, IsMem num turn news v) (ht : ∀ v ∈ vs, 0 ≤ turn v ∧ turn v < 100) (h2 : 2 ≤ vs.length) (h64 : vs.length < 64)
    (h : ∀ D ys c h', Fr h₀ L h' m → News h₀ L h' ((D, listOf (List.toArray ys) c) :: news) → ys.Perm vs → ys.Pairwise (fun a b => pkey num turn a ≤ pkey num turn b) → Q (.ref D) { s with heap := h' }) :
    wpAny (model prog w) A (call (.builtin "sorted") [.ref l]) Q E s := by
  refine kat_sorted F N (N.isList hl) h2 h64 fun D e1 h' F' N' hD => ?_
  have N₀ : News h₀ L h' news := fun p hp => N' p (.tail _ hp)
  obtain ⟨fs, hT, hlen, hfs⟩ := tups_of N₀ vs hm
  refine kat_kind (T := .type "int") hT (by omega) (fun v hv => ?_) rfl ?_
  · obtain ⟨n, t, rfl⟩ := hfs v hv
    exact Looks.of_pure rfl
  · show (kas_sort vs.length).kasWp (kas_ask prog w A.in1.in1 (tuples' true) vs) _ { s with heap := h' }
    refine kasWp_of_kp (key := fun i => pkey num turn (vs.getD i Value.none)) (n := vs.length) (P := fun p => IsOrd vs.length p ∧ Srt (fun i => pkey num turn (vs.getD i Value.none)) p vs.length) ?_ ?_ _ (kp_sort (by omega) fun p h1 h2 => ⟨h1, h2⟩)
    · intro i j C hi hj hC
      have ei : vs.getD i Value.none = vs[i] := by simp [hi]
      have ej : vs.getD j Value.none = vs[j] := by simp [hj]
      obtain ⟨a, t, t', k, e, hmem, l1, u1⟩ := hm vs[i] (List.getElem_mem _)
      obtain ⟨b, u, u', k', e', hmem', l2, u2⟩ := hm vs[j] (List.getElem_mem _)
      have q1 := ht vs[i] (List.getElem_mem _)
      have q2 := ht vs[j] (List.getElem_mem _)
      have hC' : C (decide (pkey num turn (vs.getD i Value.none) < pkey num turn (vs.getD j Value.none))) { s with heap := h' } := hC
      rw [ei, ej] at hC'
      unfold kas_ask
      rw [ei, ej]
      rw [e, e']
      refine lt_pair (N₀ _ hmem).1 (N₀ _ hmem').1 ?_
      have z : decide (num vs[i] < num vs[j] ∨ (num vs[i] = num vs[j] ∧ turn vs[i] < turn vs[j])) = decide (pkey num turn vs[i] < pkey num turn vs[j]) := decide_eq_decide.mpr (by unfold pkey; omega)
      rw [z]
      exact hC'
    · rintro p ⟨hp, hs⟩
      refine KasFin.intro F' N' (UpdF.head fun q hq => Nat.ne_of_lt (hD q hq)) fun h'' c'' F'' N'' => ?_
      refine h D _ c'' h'' F'' N'' (map_getD rfl hp) ?_
      rw [List.pairwise_map, List.pairwise_iff_getElem]
      intro i j hi hj hij
      have hsz := hp.size
      rw [Array.length_toList] at hi hj
      have q := hs i j (Nat.le_of_lt hij) (by omega)
      have ei : p.getD i 0 = p.toList[i] := by simp [Array.getD, hi]
      have ej : p.getD j 0 = p.toList[j] := by simp [Array.getD, hj]
      unfold kk at q
      rw [ei, ej] at q
      exact q
end
section
variable {prog : Program} {w : World} {A : Around} {E : Value → Shared → Prop} {s : Shared} {h₀ : Heap} {L a l : Addr} {m : Str → Option Value} {news : List (Addr × Obj)} {vs : List Value}
theorem short_list_sort {n : Nat} {P : PySem.Fin → Shared → Prop} (F : Fr h₀ L s.heap m) (N : News h₀ L s.heap news) (ho : s.heap.get? a = some (seqObj "list" vs.toArray n)) (haL : a ≠ L) (ha0 : h₀.get? a = none) (hna : ∀ p ∈ news, p.1 ≠ a)
    (h2 : vs.length < 2)
    (h : ∀ c h', Fr h₀ L h' m → News h₀ L h' ((a, listOf (List.toArray vs) c) :: news) → P (.done (.ret .none)) { s with heap := h' }) :
    wpAny (model prog w) A (Builtin.«list.sort» ⟨[.ref a], []⟩) P E s := by
  have ha : a < s.heap.objs.size := Heap.lt_size ho
  have s1 := Heap.SameBut.update s.heap a (Obj.mapSeq fun _ => (#[] : Array Value))
  obtain ⟨e1, ho1⟩ : ∃ e1, (s.heap.update a (Obj.mapSeq fun _ => (#[] : Array Value))).get? a = some (seqObj "list" #[] e1) := ⟨_, get?_update_seq ho fun _ => #[]⟩
  have F3 : Fr h₀ L (((s.heap.update a (Obj.mapSeq fun _ => (#[] : Array Value))).push (seqObj "tuple" vs.toArray 0)).push (seqObj "list" #[] 0)) m := ((kas_fr F s1 haL ha0).push _).push _
  have N2 : News h₀ L (((s.heap.update a (Obj.mapSeq fun _ => (#[] : Array Value))).push (seqObj "tuple" vs.toArray 0)).push (seqObj "list" #[] 0)) news :=
    (kas_news N s1 hna).grown fun b x e => Heap.get?_push_of_some _ (Heap.get?_push_of_some _ e)
  have na : (((s.heap.update a (Obj.mapSeq fun _ => (#[] : Array Value))).push (seqObj "tuple" vs.toArray 0)).push (seqObj "list" #[] 0)).get? a = some (seqObj "list" #[] e1) := Heap.get?_push_of_some _ (Heap.get?_push_of_some _ ho1)
  have s2 := Heap.SameBut.update (((s.heap.update a (Obj.mapSeq fun _ => (#[] : Array Value))).push (seqObj "tuple" vs.toArray 0)).push (seqObj "list" #[] 0)) a (Obj.mapSeq fun _ => vs.toArray)
  obtain ⟨c2, hc2⟩ : ∃ c2, ((((s.heap.update a (Obj.mapSeq fun _ => (#[] : Array Value))).push (seqObj "tuple" vs.toArray 0)).push (seqObj "list" #[] 0)).update a (Obj.mapSeq fun _ => vs.toArray)).get? a = some (seqObj "list" vs.toArray c2) := ⟨_, get?_update_seq na fun _ => vs.toArray⟩
  rw [list_sort_plain]
  refine wpAny_bind (listItems_at ho rfl ?_)
  refine wpAny_bind (listUpdate_at ho rfl ?_ (by rw [List.size_toArray, sizeLine_eq]; omega) (Nat.zero_le _))
  refine wpAny_bind (seqEpoch_at ho1 rfl ?_)
  refine wpAny_bind (wpAny_newTuple ?_ (by show vs.length ≤ _; rw [sizeLine_eq]; omega))
  refine wpAny_bind (wpAny_newList ?_ (Nat.zero_le _))
  refine wpAny_holding ?_
  show wpAny (model prog w) A _ P E { s with heap := ((s.heap.update a (Obj.mapSeq fun _ => (#[] : Array Value))).push (seqObj "tuple" vs.toArray 0)).push (seqObj "list" #[] 0) }
  dsimp only
  have hn2 : vs.toArray.size < 2 := by rw [List.size_toArray]; omega
  rw [if_pos hn2, if_pos hn2]
  refine wpAny_bind (wpAny_pure ?_)
  rw [StateT.run_pure]
  refine wpAny_bind (wpAny_pure ?_)
  dsimp only
  have hout : (arrOf (SortSt.mk' general' (vs.toArray.zip vs.toArray) #[] 7 none)).map (·.2) = vs.toArray := by
    show (vs.toArray.zip vs.toArray).map (·.2) = vs.toArray
    apply Array.toList_inj.mp
    simp [List.map_snd_zip]
  rw [hout]
  refine wpAny_bind (seqEpoch_at na rfl ?_)
  refine wpAny_bind (listUpdate_at na rfl ?_ (Nat.zero_le _) (by rw [List.size_toArray, sizeLine_eq]; omega))
  show wpAny (model prog w) A _ P E _
  simp only [bne_self_eq_false, Bool.false_eq_true, if_false]
  refine wpAny_pure (h c2 _ (kas_fr F3 s2 haL ha0) fun p hp => ?_)
  rcases List.mem_cons.mp hp with rfl | hp
  · exact ⟨hc2, haL, ha0⟩
  · exact kas_news N2 s2 hna p hp
theorem short_sorted {Q : Value → Shared → Prop} (F : Fr h₀ L s.heap m) (N : News h₀ L s.heap news) (hl : s.heap.IsList l vs.toArray) (h2 : vs.length < 2)
    (h : ∀ D c h', Fr h₀ L h' m → News h₀ L h' ((D, listOf (List.toArray vs) c) :: news) → Q (.ref D) { s with heap := h' }) :
    wpAny (model prog w) A (call (.builtin "sorted") [.ref l]) Q E s := by
  refine Calls.call_function_entry kind_sorted plain_sorted entry_sorted (args_sorted1 _) ?_
  unfold Builtin.«sorted»
  refine wpAny_bind (m := checkCount "sorted" 1 1 _) (wpAny_pure ?_)
  refine wpAny_bind (collect_list hl ?_ (by rw [sizeLine_eq]; omega))
  refine wpAny_bind (wpAny_newList ?_ (by rw [sizeLine_eq]; omega))
  have hsz : ((s.heap.push (seqObj "list" #[] 0)).update s.heap.objs.size (Obj.mapSeq (· ++ vs.toArray))).objs.size = s.heap.objs.size + 1 := by
    rw [Heap.size_update, size_push']
  have hoL : (((s.heap.push (seqObj "list" #[] 0)).update s.heap.objs.size (Obj.mapSeq (· ++ vs.toArray))).push (seqObj "list" vs.toArray 0)).get? (s.heap.objs.size + 1) = some (seqObj "list" vs.toArray 0) := by
    rw [← hsz]; exact Heap.get?_push_size _ rfl
  have keep : ∀ b o, s.heap.get? b = some o → (((s.heap.push (seqObj "list" #[] 0)).update s.heap.objs.size (Obj.mapSeq (· ++ vs.toArray))).push (seqObj "list" vs.toArray 0)).get? b = some o := fun b o q => by
    have hlt : b < s.heap.objs.size := Heap.lt_size q
    rw [Heap.get?_push_ne _ _ _ (by rw [hsz]; exact Nat.ne_of_lt (Nat.lt_succ_of_lt hlt)), Heap.get?_update_ne _ _ _ _ (Nat.ne_of_lt hlt), Heap.get?_push_ne _ _ _ (Nat.ne_of_lt hlt)]
    exact q
  have hL : L < s.heap.objs.size := F.ns.lt
  show wpAny _ _ _ _ _ { s with heap := ((s.heap.push (seqObj "list" #[] 0)).update s.heap.objs.size (Obj.mapSeq (· ++ vs.toArray))).push (seqObj "list" vs.toArray 0) }
  rw [hsz]
  refine wpAny_bind (wpAny_holding (wpAny_call_entry slot_list_sort ⟨_, hoL, rfl⟩ entry_list_sort ?body (args_list_sort _)))
  case body =>
    refine short_list_sort (s := { s with heap := ((s.heap.push (seqObj "list" #[] 0)).update s.heap.objs.size (Obj.mapSeq (· ++ vs.toArray))).push (seqObj "list" vs.toArray 0) })
      (F.kept keep) (N.grown keep) hoL (Nat.ne_of_gt (Nat.lt_succ_of_lt hL)) (Heap.get?_none_of_le (Nat.le_trans F.above (Nat.le_succ_of_le (Nat.le_of_lt hL))))
      (fun p hp => Nat.ne_of_lt (Nat.lt_succ_of_lt (Heap.lt_size (N p hp).1))) h2 fun c h' F' N' => ?_
    exact ⟨_, rfl, wpAny_pure ⟨_, rfl, h _ c h' F' N'⟩⟩
theorem due_ok {num turn : Value → Int} {c : Nat} {Q : Value → Shared → Prop} (F : Fr h₀ L s.heap m) (N : News h₀ L s.heap news) (hl : (l, listOf (List.toArray vs) c) ∈ news) (hm : ∀ v ∈ vs, IsMem num turn news v) (ht : ∀ v ∈ vs, 0 ≤ turn v ∧ turn v < 100) (h64 : vs.length < 64)
    (h : ∀ D ys c h', Fr h₀ L h' m → News h₀ L h' ((D, listOf (List.toArray ys) c) :: news) → ys.Perm vs → ys.Pairwise (fun a b => pkey num turn a ≤ pkey num turn b) → Q (.ref D) { s with heap := h' }) :
    wpAny (model prog w) A (call (.builtin "sorted") [.ref l]) Q E s := by
  by_cases h2 : 2 ≤ vs.length
  · exact due_two F N hl hm ht h2 h64 h
  · refine short_sorted F N (N.isList hl) (by omega) fun D c' h' F' N' => h D vs c' h' F' N' (.refl _) ?_
    match vs, h2 with
    | [], _ => exact .nil
    | [v], _ => exact List.pairwise_singleton _ _
    | _ :: _ :: _, h2 => exact absurd (by simp) h2
end

end

-- part SzO
section
local macro_rules | `(tactic| k_room) => `(tactic| ((try simp only [depth_under_make, depth_under_kw, depth_in1, depth_deeper, depth_caller]); (try dsimp only [ktrTop]); omega))
local macro_rules | `(tactic| k_units) => `(tactic| ((try simp only [units_in1, units_deeper, Around.mark_units, units_caller]); (try dsimp only [ktrTop]); (have hcL9 := cLine_is); omega))
local macro_rules | `(tactic| walk_at "mine in") => `(tactic| (intro p9 m9; first | exact m9 | (repeat (first | exact m9 | refine List.Mem.tail _ ?_))))
local macro_rules | `(tactic| walk_at "eval Call") => `(tactic| (k_here; k_dflt (refine Call_ ?_)))
local macro_rules | `(tactic| walk_at "mine dec") => `(tactic| first | with_reducible assumption | decide | ((try simp only [decide_eq_true_eq, decide_eq_false_iff_not, beq_iff_eq, bne_iff_ne, ne_eq, Bool.not_eq_true, Bool.not_eq_false, beq_eq_false_iff_ne, bne_eq_false_iff_eq]); omega))
local macro_rules | `(tactic| walk_at "ite") => `(tactic| (k_here; k_dflt (first | (refine ite_pos (by walk_at "mine dec") ?_) | (refine ite_neg (by walk_at "mine dec") ?_))))
local macro_rules | `(tactic| k_mem) => `(tactic| first | with_reducible assumption | exact List.Mem.head _ | (refine' List.mem_cons_of_mem _ ?_; k_mem))
local macro_rules | `(tactic| walk_at "call ref") => `(tactic| (k_here; k_dflt (refine' cl_use (figure0 _ _ _ _ _ _ _ _ ?q1 ?q2) ?k1 ?k2 ?k3 ?k4 ?k5 ?kK ?kd ?ku ?_; (case k1 => k_asm); (case k2 => k_asm); (case k3 => k_asm); (case k4 => k_asm); (case k5 => k_asm); (case kK => first | exact rfl | assumption); (case q1 => first | assumption | omega | decide | (simp <;> omega)); (case q2 => first | assumption | omega | decide | (simp <;> omega)); (case kd => k_room); (case ku => k_units); (try k_sweep); intro r9 n9 h9 tk9 F9 N9 o9; (obtain ⟨e9, t9, q9⟩ := o9; subst e9; subst q9); (try k_sweep); (try dsimp only))))
local macro_rules | `(tactic| walk_at "call ref") => `(tactic| (k_here; k_dflt (refine' cl_use (figure1 _ _ _ _ _ _ _ _ ?q1 ?q2) ?k1 ?k2 ?k3 ?k4 ?k5 ?kK ?kd ?ku ?_; (case k1 => k_asm); (case k2 => k_asm); (case k3 => k_asm); (case k4 => k_asm); (case k5 => k_asm); (case kK => first | exact rfl | assumption); (case q1 => first | assumption | omega | decide | (simp <;> omega)); (case q2 => first | assumption | omega | decide | (simp <;> omega)); (case kd => k_room); (case ku => k_units); (try k_sweep); intro r9 n9 h9 tk9 F9 N9 o9; (obtain ⟨e9, t9, q9⟩ := o9; subst e9; subst q9); (try k_sweep); (try dsimp only))))
local macro_rules | `(tactic| walk_at "call ref") => `(tactic| (k_here; k_dflt (refine' cl_use (figure2 _ _ _ _ _ _ _ _ ?q1 ?q2) ?k1 ?k2 ?k3 ?k4 ?k5 ?kK ?kd ?ku ?_; (case k1 => k_asm); (case k2 => k_asm); (case k3 => k_asm); (case k4 => k_asm); (case k5 => k_asm); (case kK => first | exact rfl | assumption); (case q1 => first | assumption | omega | decide | (simp <;> omega)); (case q2 => first | assumption | omega | decide | (simp <;> omega)); (case kd => k_room); (case ku => k_units); (try k_sweep); intro r9 n9 h9 tk9 F9 N9 o9; (obtain ⟨e9, t9, q9⟩ := o9; subst e9; subst q9); (try k_sweep); (try dsimp only))))
local macro_rules | `(tactic| walk_at "call ref") => `(tactic| (k_here; k_dflt (refine' cl_use (cmpnum_ok _ _ _ _ _ _ _ _ _ _) ?k1 ?k2 ?k3 ?k4 ?k5 ?kK ?kd ?ku ?_; (case k1 => k_asm); (case k2 => k_asm); (case k3 => k_asm); (case k4 => k_asm); (case k5 => k_asm); (case kK => first | exact rfl | assumption); (case kd => k_room); (case ku => k_units); (try k_sweep); intro r9 n9 h9 tk9 F9 N9 o9; (obtain ⟨e9, t9, q9⟩ := o9; subst e9; subst q9); (try k_sweep); (try dsimp only))))


local macro_rules | `(tactic| k_all) => `(tactic| first | assumption | exact OffTail.use (by assumption))
local macro_rules | `(tactic| k_lt $h:ident) => `(tactic| ((have hne9 := OffTail.of $h); (have hlt9 := LtTail.of $h); (repeat (replace hne9 := OffTail.cons hne9)); (repeat (replace hlt9 := LtTail.cons hlt9)); replace $h := allLt_of $h; (try simp only [AllLt, and_true] at $h:ident)))
local macro_rules | `(tactic| k_is) => `(tactic| exact OrderOK.keep (by with_reducible assumption))
local macro_rules | `(tactic| walk_at "mine len") => `(tactic| (have hsz9 := sizeLine_eq; simp only [List.size_toArray, List.length_append, List.length_cons, List.length_nil, List.length_drop, List.length_take] at *; omega))

local macro_rules | `(tactic| walk_at "call type:range") => `(tactic| ((rename Fr _ _ _ _ => F'); (rename News _ _ _ _ => N'); with_unfolding_all first
  | (refine range1_rows F' N' ?_; intro _ _ _ _ _ _ _ _ _)
  | (refine range2_rows F' N' ?_; intro _ _ _ _ _ _ _ _ _)
  | (refine range3_rows F' N' (by decide) ?_; intro _ _ _ _ _ _ _ _ _)))
local macro_rules | `(tactic| walk_at "CompSrc") => `(tactic| (k_here; k_dflt (refine LCg.CompSrc.ledger (by rfl) (by k_asm) (by k_asm) (by k_mem) (by walk_at "mine len") ?_; intro g')))
local macro_rules | `(tactic| walk_at "mine stop") => `(tactic| first | (with_reducible show wpAny _ _ (exec (PySem.Stmt.While _ _ _ _) _) _ _ _) | (with_reducible show wpAny _ _ (pyIter _) _ _ _) | (with_reducible show LCg.CompRest _ _ _ _ _ _ _ _ _ _ _ _ _ _ _ _ _ _ _) | (with_reducible show LCg.CompEnd _ _ _ _ _ _ _ _ _ _ _ _ _ _) | (with_reducible show UnrPost _ _ _ _ _ _ _ _ _) | (with_reducible show UnrEnd _ _ _ _ _ _ _))
local macro_rules | `(tactic| walk_at "mine till") => `(tactic| repeat' ((fail_if_success (walk_at "mine stop")); first | (k_unfold; (try dsimp only)) | walk1 | (dsimp only; walk1)))

local macro_rules | `(tactic| walk_at "call builtin:len") => `(tactic| (k_here; k_dflt (refine' len_L ?N ?m ?z ?_; (case N => k_asm); (case m => k_mem); (case z => first | assumption | omega | walk_at "mine len"); k_whole)))
local macro_rules | `(tactic| walk_at "subscriptTail Name") => `(tactic| (k_here; k_dflt (refine' item_K ?N ?m ?x ?z ?_ ?s; (case N => k_asm); (case m => k_mem); (case x => assumption); (case z => first | omega | walk_at "mine len"); (case s => with_unfolding_all rfl); k_whole)))

local macro_rules | `(tactic| walk_at "call ref") => `(tactic| (k_here; k_dflt (refine' cl_use (toss_ok _ _ _ _ _ _ _ _ _ _ _ _ _ _ _ ?qT ?qU ?qI ?q1 ?q2 ?q3 ?q4) ?k1 ?k2 ?k3 ?k4 ?k5 ?kK ?kd ?ku ?_; (case k1 => k_asm); (case k2 => k_asm); (case k3 => k_asm); (case k4 => k_asm); (case k5 => k_asm); (case kK => first | exact rfl | assumption); (case qT => first | assumption | exact OffTail.use (by assumption) | k_all); (case qU => k_mem); (case qI => assumption); (case q1 => first | assumption | omega | decide | (simp <;> omega)); (case q2 => first | assumption | omega | decide | (simp <;> omega)); (case q3 => first | assumption | omega | decide | (simp <;> omega)); (case q4 => first | assumption | omega | decide | (simp <;> omega)); (case kd => k_room); (case ku => k_units); (try k_sweep); intro r9 n9 h9 tk9 F9 N9 o9; (obtain ⟨x9, t9, s9, c9, q9, xl9, xu9, e9⟩ := o9; subst e9; subst q9); (try k_sweep); (try dsimp only))))

/-- the members made so far: i of them, their turns rising; the dice stand at i + 1 -/
def MInv (d aL cc : Addr) (o' : Obj) (ws : List Value) (ca : Nat) (i : Nat) (ys : List Value) (led : List (Addr × Obj)) : Prop :=
  ∃ (num turn : Value → Int) (t : Tok) (c : Nat) (rest : List (Addr × Obj)), led = (d, listOf (List.toArray [.ref aL, .int ((i : Int) + 1) t]) c) :: rest ∧ OffTail d rest ∧ (aL, listOf (List.toArray ws) ca) ∈ rest ∧ (cc, o') ∈ rest ∧
    (∀ u ∈ ys, IsMem num turn rest u) ∧ ys.Pairwise (fun u v => turn u < turn v) ∧ (∀ u ∈ ys, 0 ≤ turn u ∧ turn u < (i : Int)) ∧ ys.length = i
section
variable {prog : Program} {w : World} {A : Around} {E : Value → Shared → Prop} {s : Shared} {env : Env} {h₀ : Heap} {L d aL cc : Addr} {x : Str} {o' : Obj} {ws : List Value} {ca : Nat} {m : Str → Option Value} {elt : Expr} {scope : Scope} {cl : List (Str × Addr)} {Fin : List Value → List (Addr × Obj) → Prop} {cnt : Nat}
open Classical in
theorem members_rest {t : Tok} {c : Nat} (h1 : d ≠ aL) (h2 : d ≠ cc)
    (turn : ∀ i ys t c rest tv I oI C oC D m₂ h tk (E' : Value → Shared → Prop), i < cnt → OffTail d rest → (aL, listOf (List.toArray ws) ca) ∈ rest → (cc, o') ∈ rest → LCg.NsObj oC m₂ → m₂ x = some (.int (0 + (i : Int)) tv) → Fr h₀ L h m →
      News h₀ L h ((d, listOf (List.toArray [.ref aL, .int (((i + 1 : Nat) : Nat) : Int) t]) c) :: (I, oI) :: (C, oC) :: (D, LCg.lst ys) :: rest) → OffTail d ((I, oI) :: (C, oC) :: (D, LCg.lst ys) :: rest) → LCg.Off3 I C D rest → ((@Ne Nat I C) ∧ (@Ne Nat I D) ∧ (@Ne Nat C D)) →
      wpAny (model prog w) A (eval elt (compEnvC scope cl C env)) (fun y s₂ => ∃ T n t1 t2 t' c' k h' tk', y = .ref T ∧ s₂ = { s with heap := h', toks := tk' } ∧ 0 ≤ n ∧ n < 1000 ∧ Fr h₀ L h' m ∧ (∀ p ∈ (I, oI) :: (C, oC) :: (D, LCg.lst ys) :: rest, p.1 < T) ∧ d < T ∧
        News h₀ L h' ((T, ({ cls := .type "tuple", data := .seq #[.int n t1, .int (0 + (i : Int)) t2] k } : Obj)) :: (d, listOf (List.toArray [.ref aL, .int ((((i + 1 : Nat) : Nat) : Int) + 1) t']) c') :: (I, oI) :: (C, oC) :: (D, LCg.lst ys) :: rest)) E' { s with heap := h, toks := tk })
    (fin : ∀ ys led, MInv d aL cc o' ws ca cnt ys led → Fin ys led) :
    LCg.CompRest prog w A h₀ L m env elt x scope cl s (fun _ => True) (fun i v => ∃ t, v = .int (0 + (i : Int)) t) Fin cnt 0 [] [(d, listOf (List.toArray [.ref aL, .int (((0 : Nat) : Int) + 1) t]) c), (aL, listOf (List.toArray ws) ca), (cc, o')] := by
  refine compRest_inv (n := cnt) (MInv d aL cc o' ws ca) ?_ fin _ 0 [] _ (Nat.zero_add _) ⟨fun _ => 0, fun _ => 0, t, c, [(aL, listOf (List.toArray ws) ca), (cc, o')], rfl, ?_, .head _, .tail _ (.head _), (fun _ h => nomatch h), .nil, (fun _ h => nomatch h), rfl⟩
  · rintro i ys led v I oI C oC D m₂ h tk E' hi ⟨num, trn, t, c, rest, rfl, hoff, hm1, hm2, hM, hP, hT, hl⟩ ⟨tv, rfl⟩ hC hx F N ho hne
    have hod := ho.1
    have hor := ho.2
    refine wpAny_mono (turn i ys t c rest tv I oI C oC D m₂ h tk E' hi hoff hm1 hm2 hC hx F (fun p hp => N p ?_) ?_ hor hne) ?_ fun _ _ e => e
    · simp only [List.mem_cons] at hp ⊢
      rcases hp with h | h | h | h | h
      · exact .inr (.inr (.inr (.inl (by rw [h]; rfl))))
      · exact .inl h
      · exact .inr (.inl h)
      · exact .inr (.inr (.inl h))
      · exact .inr (.inr (.inr (.inr h)))
    · intro p hp
      simp only [List.mem_cons] at hp
      rcases hp with rfl | rfl | rfl | h
      · exact Ne.symm hod.1
      · exact Ne.symm hod.2.1
      · exact Ne.symm hod.2.2
      · exact hoff p h
    · rintro y s₂ ⟨T, n, t1, t2, t', c', k, h', tk', rfl, rfl, l0, l1, F', hTb, hdT, N'⟩
      have hold : ∀ u ∈ ys, u ≠ .ref T := by
        intro u hu e
        obtain ⟨a, _, _, _, e', hm, _, _⟩ := hM u hu
        rw [e] at e'
        cases e'
        exact absurd (hTb _ (.tail _ (.tail _ (.tail _ hm)))) (Nat.lt_irrefl _)
      refine LCg.CompEnd.intro F' N' ((d, listOf (List.toArray [.ref aL, .int ((((i + 1 : Nat) : Nat) : Int) + 1) t']) c') :: (T, ({ cls := .type "tuple", data := .seq #[.int n t1, .int (0 + (i : Int)) t2] k } : Obj)) :: rest) (fun p hp => ?_)
        ⟨hod, ⟨Nat.ne_of_gt (hTb _ (.head _)), Nat.ne_of_gt (hTb _ (.tail _ (.head _))), Nat.ne_of_gt (hTb _ (.tail _ (.tail _ (.head _))))⟩, hor⟩ trivial
        ⟨fun u => if u = .ref T then n else num u, fun u => if u = .ref T then (i : Int) else trn u, t', c', _, rfl, ?_, .tail _ hm1, .tail _ hm2, ?_, ?_, ?_, by simp [hl]⟩
      · simp only [List.mem_cons] at hp ⊢
        rcases hp with h | h | h | h | h | h
        · exact .inr (.inr (.inl h))
        · exact .inr (.inr (.inr (.inl h)))
        · exact .inr (.inr (.inr (.inr (.inl h))))
        · exact .inr (.inl h)
        · exact .inl h
        · exact .inr (.inr (.inr (.inr (.inr h))))
      · intro p hp
        rcases List.mem_cons.mp hp with rfl | hp
        · exact Nat.ne_of_gt hdT
        · exact hoff p hp
      · intro u hu
        rcases List.mem_append.mp hu with hu | hu
        · obtain ⟨a, ta, tb, ka, e, hm, g0, g1⟩ := hM u hu
          refine ⟨a, ta, tb, ka, e, .tail _ ?_, ?_, ?_⟩
          · simp only [if_neg (hold u hu)]; exact hm
          · simp only [if_neg (hold u hu)]; exact g0
          · simp only [if_neg (hold u hu)]; exact g1
        · rw [List.mem_singleton.mp hu]
          refine ⟨T, t1, t2, k, rfl, ?_, ?_, ?_⟩
          · simp only [if_true]
            rw [Int.zero_add]
            exact .head _
          · simp only [if_true]; exact l0
          · simp only [if_true]; exact l1
      · refine List.pairwise_append.mpr ⟨?_, List.pairwise_singleton _ _, fun u hu v hv => ?_⟩
        · refine hP.imp_of_mem fun {u v} hu hv h => ?_
          simp only [if_neg (hold u hu), if_neg (hold v hv)]
          exact h
        · rw [List.mem_singleton.mp hv]
          simp only [if_neg (hold u hu), if_true]
          exact (hT u hu).2
      · intro u hu
        rcases List.mem_append.mp hu with hu | hu
        · simp only [if_neg (hold u hu)]
          have := hT u hu
          omega
        · rw [List.mem_singleton.mp hu]
          simp only [if_true]
          omega
  · intro p hp
    rcases List.mem_cons.mp hp with rfl | hp
    · exact Ne.symm h1
    · rw [List.mem_singleton.mp hp]; exact Ne.symm h2
end

end

-- part SzP
section
local macro_rules | `(tactic| k_room) => `(tactic| ((try simp only [depth_under_make, depth_under_kw, depth_in1, depth_deeper, depth_caller]); (try dsimp only [ktrTop]); omega))
local macro_rules | `(tactic| k_units) => `(tactic| ((try simp only [units_in1, units_deeper, Around.mark_units, units_caller]); (try dsimp only [ktrTop]); (have hcL9 := cLine_is); omega))
local macro_rules | `(tactic| walk_at "mine in") => `(tactic| (intro p9 m9; first | exact m9 | (repeat (first | exact m9 | refine List.Mem.tail _ ?_))))
local macro_rules | `(tactic| walk_at "eval Call") => `(tactic| (k_here; k_dflt (refine Call_ ?_)))
local macro_rules | `(tactic| walk_at "mine dec") => `(tactic| first | with_reducible assumption | decide | ((try simp only [decide_eq_true_eq, decide_eq_false_iff_not, beq_iff_eq, bne_iff_ne, ne_eq, Bool.not_eq_true, Bool.not_eq_false, beq_eq_false_iff_ne, bne_eq_false_iff_eq]); omega))
local macro_rules | `(tactic| walk_at "ite") => `(tactic| (k_here; k_dflt (first | (refine ite_pos (by walk_at "mine dec") ?_) | (refine ite_neg (by walk_at "mine dec") ?_))))
local macro_rules | `(tactic| k_mem) => `(tactic| first | with_reducible assumption | exact List.Mem.head _ | (refine' List.mem_cons_of_mem _ ?_; k_mem))
local macro_rules | `(tactic| walk_at "call ref") => `(tactic| (k_here; k_dflt (refine' cl_use (figure0 _ _ _ _ _ _ _ _ ?q1 ?q2) ?k1 ?k2 ?k3 ?k4 ?k5 ?kK ?kd ?ku ?_; (case k1 => k_asm); (case k2 => k_asm); (case k3 => k_asm); (case k4 => k_asm); (case k5 => k_asm); (case kK => first | exact rfl | assumption); (case q1 => first | assumption | omega | decide | (simp <;> omega)); (case q2 => first | assumption | omega | decide | (simp <;> omega)); (case kd => k_room); (case ku => k_units); (try k_sweep); intro r9 n9 h9 tk9 F9 N9 o9; (obtain ⟨e9, t9, q9⟩ := o9; subst e9; subst q9); (try k_sweep); (try dsimp only))))
local macro_rules | `(tactic| walk_at "call ref") => `(tactic| (k_here; k_dflt (refine' cl_use (figure1 _ _ _ _ _ _ _ _ ?q1 ?q2) ?k1 ?k2 ?k3 ?k4 ?k5 ?kK ?kd ?ku ?_; (case k1 => k_asm); (case k2 => k_asm); (case k3 => k_asm); (case k4 => k_asm); (case k5 => k_asm); (case kK => first | exact rfl | assumption); (case q1 => first | assumption | omega | decide | (simp <;> omega)); (case q2 => first | assumption | omega | decide | (simp <;> omega)); (case kd => k_room); (case ku => k_units); (try k_sweep); intro r9 n9 h9 tk9 F9 N9 o9; (obtain ⟨e9, t9, q9⟩ := o9; subst e9; subst q9); (try k_sweep); (try dsimp only))))
local macro_rules | `(tactic| walk_at "call ref") => `(tactic| (k_here; k_dflt (refine' cl_use (figure2 _ _ _ _ _ _ _ _ ?q1 ?q2) ?k1 ?k2 ?k3 ?k4 ?k5 ?kK ?kd ?ku ?_; (case k1 => k_asm); (case k2 => k_asm); (case k3 => k_asm); (case k4 => k_asm); (case k5 => k_asm); (case kK => first | exact rfl | assumption); (case q1 => first | assumption | omega | decide | (simp <;> omega)); (case q2 => first | assumption | omega | decide | (simp <;> omega)); (case kd => k_room); (case ku => k_units); (try k_sweep); intro r9 n9 h9 tk9 F9 N9 o9; (obtain ⟨e9, t9, q9⟩ := o9; subst e9; subst q9); (try k_sweep); (try dsimp only))))
local macro_rules | `(tactic| walk_at "call ref") => `(tactic| (k_here; k_dflt (refine' cl_use (cmpnum_ok _ _ _ _ _ _ _ _ _ _) ?k1 ?k2 ?k3 ?k4 ?k5 ?kK ?kd ?ku ?_; (case k1 => k_asm); (case k2 => k_asm); (case k3 => k_asm); (case k4 => k_asm); (case k5 => k_asm); (case kK => first | exact rfl | assumption); (case kd => k_room); (case ku => k_units); (try k_sweep); intro r9 n9 h9 tk9 F9 N9 o9; (obtain ⟨e9, t9, q9⟩ := o9; subst e9; subst q9); (try k_sweep); (try dsimp only))))



local macro_rules | `(tactic| k_all) => `(tactic| first | assumption | exact OffTail.use (by assumption))
local macro_rules | `(tactic| k_lt $h:ident) => `(tactic| ((have hne9 := OffTail.of $h); (have hlt9 := LtTail.of $h); (repeat (replace hne9 := OffTail.cons hne9)); (repeat (replace hlt9 := LtTail.cons hlt9)); replace $h := allLt_of $h; (try simp only [AllLt, and_true] at $h:ident)))
local macro_rules | `(tactic| k_is) => `(tactic| exact OrderOK.keep (by with_reducible assumption))
local macro_rules | `(tactic| walk_at "mine len") => `(tactic| (have hsz9 := sizeLine_eq; simp only [List.size_toArray, List.length_append, List.length_cons, List.length_nil, List.length_drop, List.length_take] at *; omega))

local macro_rules | `(tactic| walk_at "call type:range") => `(tactic| ((rename Fr _ _ _ _ => F'); (rename News _ _ _ _ => N'); with_unfolding_all first
  | (refine range1_rows F' N' ?_; intro _ _ _ _ _ _ _ _ _)
  | (refine range2_rows F' N' ?_; intro _ _ _ _ _ _ _ _ _)
  | (refine range3_rows F' N' (by decide) ?_; intro _ _ _ _ _ _ _ _ _)))
local macro_rules | `(tactic| walk_at "CompSrc") => `(tactic| (k_here; k_dflt (refine LCg.CompSrc.ledger (by rfl) (by k_asm) (by k_asm) (by k_mem) (by walk_at "mine len") ?_; intro g')))
local macro_rules | `(tactic| walk_at "mine stop") => `(tactic| first | (with_reducible show wpAny _ _ (exec (PySem.Stmt.While _ _ _ _) _) _ _ _) | (with_reducible show wpAny _ _ (pyIter _) _ _ _) | (with_reducible show LCg.CompRest _ _ _ _ _ _ _ _ _ _ _ _ _ _ _ _ _ _ _) | (with_reducible show LCg.CompEnd _ _ _ _ _ _ _ _ _ _ _ _ _ _) | (with_reducible show UnrPost _ _ _ _ _ _ _ _ _) | (with_reducible show UnrEnd _ _ _ _ _ _ _))
local macro_rules | `(tactic| walk_at "mine till") => `(tactic| repeat' ((fail_if_success (walk_at "mine stop")); first | (k_unfold; (try dsimp only)) | walk1 | (dsimp only; walk1)))

local macro_rules | `(tactic| walk_at "call builtin:len") => `(tactic| (k_here; k_dflt (refine' len_L ?N ?m ?z ?_; (case N => k_asm); (case m => k_mem); (case z => first | assumption | omega | walk_at "mine len"); k_whole)))
local macro_rules | `(tactic| walk_at "subscriptTail Name") => `(tactic| (k_here; k_dflt (refine' item_K ?N ?m ?x ?z ?_ ?s; (case N => k_asm); (case m => k_mem); (case x => assumption); (case z => first | omega | walk_at "mine len"); (case s => with_unfolding_all rfl); k_whole)))

/-- two lists in one rising order of keys, of the same items, are one list, where alike keys are alike items -/
theorem uniq_le {α : Type} {k : α → Int} : ∀ {xs ys : List α}, xs.Pairwise (fun a b => k a ≤ k b) → ys.Pairwise (fun a b => k a ≤ k b) → xs.Perm ys → (∀ u ∈ xs, ∀ v ∈ xs, k u = k v → u = v) → xs = ys
  | [], ys, _, _, hp, _ => (List.Perm.nil_eq hp)
  | x :: xs, ys, hx, hy, hp, hi => by
    cases ys with
    | nil => exact absurd hp.length_eq (by simp)
    | cons y ys =>
      have p1 := List.pairwise_cons.mp hx
      have p2 := List.pairwise_cons.mp hy
      have m1 : x ∈ y :: ys := hp.mem_iff.mp (.head _)
      have m2 : y ∈ x :: xs := hp.mem_iff.mpr (.head _)
      have l1 : k y ≤ k x := by
        rcases List.mem_cons.mp m1 with h | h
        · rw [h]; exact Int.le_refl _
        · exact p2.1 x h
      have l2 : k x ≤ k y := by
        rcases List.mem_cons.mp m2 with h | h
        · rw [h]; exact Int.le_refl _
        · exact p1.1 y h
      have e : x = y := hi x (.head _) y m2 (Int.le_antisymm l2 l1)
      subst e
      rw [uniq_le p1.2 p2.2 (List.perm_cons x |>.mp hp) fun u hu v hv => hi u (.tail _ hu) v (.tail _ hv)]
theorem uniq_ints {xs ys : List Int} (h1 : xs.Pairwise (· ≤ ·)) (h2 : ys.Pairwise (· ≤ ·)) (hp : xs.Perm ys) : xs = ys :=
  uniq_le (k := fun n => n) h1 h2 hp fun _ _ _ _ e => e
/-- the members of the law: their numbers and turns -/
structure Mems (num turn : Value → Int) (ms : List Value) : Prop where
  nums : ∀ u ∈ ms, 0 ≤ num u ∧ num u < 1000
  turns : ∀ u ∈ ms, 0 ≤ turn u ∧ turn u < 100
  rise : ms.Pairwise (fun u v => turn u < turn v)
theorem rise_inj {turn : Value → Int} : ∀ {ms : List Value}, ms.Pairwise (fun u v => turn u < turn v) → ∀ u ∈ ms, ∀ v ∈ ms, turn u = turn v → u = v
  | [], _, _, hu, _, _, _ => nomatch hu
  | x :: xs, h, u, hu, v, hv, e => by
    have p := List.pairwise_cons.mp h
    rcases List.mem_cons.mp hu with h1 | h1
    · rcases List.mem_cons.mp hv with h2 | h2
      · rw [h1, h2]
      · have q := p.1 v h2
        rw [h1] at e; omega
    · rcases List.mem_cons.mp hv with h2 | h2
      · have q := p.1 u h1
        rw [h2] at e; omega
      · exact rise_inj p.2 u h1 v h2 e
section
variable {num turn : Value → Int} {ms : List Value}
theorem Mems.of_perm {ys : List Value} (h : Mems num turn ms) (hp : ys.Perm ms) : (∀ u ∈ ys, 0 ≤ num u ∧ num u < 1000) ∧ (∀ u ∈ ys, 0 ≤ turn u ∧ turn u < 100) ∧ (∀ u ∈ ys, ∀ v ∈ ys, turn u = turn v → u = v) :=
  ⟨fun u hu => h.nums u (hp.mem_iff.mp hu), fun u hu => h.turns u (hp.mem_iff.mp hu), fun u hu v hv e => rise_inj h.rise u (hp.mem_iff.mp hu) v (hp.mem_iff.mp hv) e⟩
/-- one order of keys for two sorts of the members -/
theorem Mems.same (f : Value → Int) {xs ys : List Value} (h : Mems num turn ms) (p1 : xs.Perm ms) (p2 : ys.Perm ms) (h1 : xs.Pairwise (fun a b => f a * 100 + turn a ≤ f b * 100 + turn b)) (h2 : ys.Pairwise (fun a b => f a * 100 + turn a ≤ f b * 100 + turn b)) : xs = ys := by
  have q := h.of_perm p1
  refine uniq_le (k := fun a => f a * 100 + turn a) h1 h2 (p1.trans p2.symm) fun u hu v hv e => q.2.2 u hu v hv ?_
  have a1 := q.2.1 u hu
  have a2 := q.2.1 v hv
  have e' : f u * 100 + turn u = f v * 100 + turn v := e
  omega
theorem IsMsort.once {cmp : Value → Value → Int} {ys : List Value} (h : Mems num turn ms) (hs : IsMsort cmp ms ys) (f : Value → Int) (hc : cmp = fun x y => cmpI (f x) (f y)) : ys.Perm ms ∧ ys.Pairwise (Bef f (fun u v => turn u < turn v)) := by
  subst hc
  exact ⟨hs.perm, hs.bef h.rise⟩
theorem Mems.bef1 {ys : List Value} (f : Value → Int) (h : Mems num turn ms) (hp : ys.Perm ms) (hb : ys.Pairwise (Bef f (fun u v => turn u < turn v))) : ys.Pairwise (fun a b => f a * 100 + turn a ≤ f b * 100 + turn b) := by
  have q := h.of_perm hp
  refine hb.imp_of_mem fun {a b} ha hb' hab => ?_
  have a1 := q.2.1 a ha
  have a2 := q.2.1 b hb'
  rcases hab with hab | ⟨hab, hab'⟩
  · omega
  · omega
theorem cmp_two : (fun x y : Value => if cmpI (num x / 10 % 10) (num y / 10 % 10) = 0 then cmpI (num x % 10) (num y % 10) else cmpI (num x / 10 % 10) (num y / 10 % 10)) = fun x y => cmpI (num x % 100) (num y % 100) := by
  funext x y
  generalize num x = a
  generalize num y = b
  unfold cmpI
  (repeat' split) <;> omega
/-- by the last figure, then by the next: as by two at once -/
theorem law_two {once twice two : List Value} (h : Mems num turn ms) (s1 : IsMsort (fun x y => cmpI (num x % 10) (num y % 10)) ms once) (s2 : IsMsort (fun x y => cmpI (num x / 10 % 10) (num y / 10 % 10)) once twice)
    (s3 : IsMsort (fun x y : Value => if cmpI (num x / 10 % 10) (num y / 10 % 10) = 0 then cmpI (num x % 10) (num y % 10) else cmpI (num x / 10 % 10) (num y / 10 % 10)) ms two) : twice = two := by
  rw [cmp_two] at s3
  have p1 := s1.perm
  have b1 := s1.bef h.rise
  have p2 := s2.perm.trans p1
  have b2 := s2.bef b1
  refine h.same (fun v => num v % 100) p2 s3.perm ?_ (h.bef1 _ s3.perm (s3.bef h.rise))
  have q := h.of_perm p2
  refine b2.imp_of_mem fun {a b} ha hb' hab => ?_
  have a1 := q.2.1 a ha
  have a2 := q.2.1 b hb'
  rcases hab with hab | ⟨hab, hab' | ⟨hab', hab''⟩⟩ <;> (try dsimp only at *) <;> omega
/-- by last, next and first: the order of numbers -/
theorem law_three {once twice thrice due : List Value} (h : Mems num turn ms) (s1 : IsMsort (fun x y => cmpI (num x % 10) (num y % 10)) ms once) (s2 : IsMsort (fun x y => cmpI (num x / 10 % 10) (num y / 10 % 10)) once twice)
    (s3 : IsMsort (fun x y => cmpI (num x / 100 % 10) (num y / 100 % 10)) twice thrice) (pd : due.Perm ms) (hd : due.Pairwise (fun a b => pkey num turn a ≤ pkey num turn b)) : thrice = due := by
  have p1 := s1.perm
  have b1 := s1.bef h.rise
  have p2 := s2.perm.trans p1
  have b2 := s2.bef b1
  have p3 := s3.perm.trans p2
  have b3 := s3.bef b2
  refine h.same num p3 pd ?_ hd
  have q := h.of_perm p3
  refine b3.imp_of_mem fun {a b} ha hb' hab => ?_
  have a1 := q.2.1 a ha
  have a2 := q.2.1 b hb'
  have a3 := q.1 a ha
  have a4 := q.1 b hb'
  rcases hab with hab | ⟨hab, hab' | ⟨hab', hab'' | ⟨hab'', hab3⟩⟩⟩ <;> (try dsimp only at *) <;> omega
theorem law_texts {ys due : List Value} (h : Mems num turn ms) (s1 : IsMsort (fun x y => cmpI (num x) (num y)) ms ys) (pd : due.Perm ms) (hd : due.Pairwise (fun a b => pkey num turn a ≤ pkey num turn b)) : ys = due :=
  h.same num s1.perm pd (h.bef1 _ s1.perm (s1.bef h.rise)) hd
theorem law_once {once : List Value} (h : Mems num turn ms) (s1 : IsMsort (fun x y => cmpI (num x % 10) (num y % 10)) ms once) {ns : List Int} (pn : ns.Perm (ms.map fun v => num v % 10)) (hn : ns.Pairwise (· ≤ ·)) : (once.map fun v => num v % 10) = ns := by
  refine uniq_ints ?_ hn ((s1.perm.map _).trans pn.symm)
  refine List.pairwise_map.mpr ((s1.bef h.rise).imp fun {a b} hab => ?_)
  rcases hab with hab | ⟨hab, _⟩ <;> (try dsimp only at *) <;> omega
theorem due_le {due : List Value} (h : Mems num turn ms) (pd : due.Perm ms) (hd : due.Pairwise (fun a b => pkey num turn a ≤ pkey num turn b)) : due.Pairwise (fun a b => num a ≤ num b) := by
  have q := h.of_perm pd
  refine hd.imp_of_mem fun {a b} ha hb' hab => ?_
  have a1 := q.2.1 a ha
  have a2 := q.2.1 b hb'
  unfold pkey at hab
  omega
theorem due_chain {due : List Value} (hd : due.Pairwise (fun a b => num a ≤ num b)) : Chain (fun x y => cmpI (num x) (num y)) due := fun j hj =>
  cmpI_le.mpr (List.pairwise_iff_getElem.mp hd j (j + 1) (by omega) hj (by omega))
theorem chain_up {vs : List Value} (h : Chain (fun x y => cmpI (num x) (num y)) vs) : ∀ (j : Nat) (hj : j < vs.length), num (vs[0]'(by omega)) ≤ num vs[j]
  | 0, _ => Int.le_refl _
  | j + 1, hj => Int.le_trans (chain_up h j (by omega)) (cmpI_le.mp (h j hj))
theorem rev_chain {due : List Value} (hd : due.Pairwise (fun a b => num a ≤ num b)) (h2 : 0 < due.length) : Chain (fun x y => cmpI (num x) (num y)) due.reverse ↔ num (due[0]'h2) = num (due[due.length - 1]'(by omega)) := by
  have g : ∀ i j (hi : i < due.length) (hj : j < due.length), i ≤ j → num due[i] ≤ num due[j] := by
    intro i j hi hj hij
    by_cases e : i = j
    · subst e; exact Int.le_refl _
    · exact List.pairwise_iff_getElem.mp hd i j hi hj (by omega)
  constructor
  · intro h
    have q := chain_up h (due.length - 1) (by rw [List.length_reverse]; omega)
    rw [List.getElem_reverse, List.getElem_reverse] at q
    have q2 := g 0 (due.length - 1) h2 (by omega) (by omega)
    have e : due.length - 1 - (due.length - 1) = 0 := by omega
    have e0 : due.length - 1 - 0 = due.length - 1 := by omega
    simp only [e, e0] at q
    omega
  · intro h j hj
    rw [List.length_reverse] at hj
    refine cmpI_le.mpr ?_
    rw [List.getElem_reverse, List.getElem_reverse]
    have q1 := g 0 (due.length - 1 - (j + 1)) h2 (by omega) (by omega)
    have q2 := g (due.length - 1 - j) (due.length - 1) (by omega) (by omega) (by omega)
    omega
theorem rev_short {due : List Value} (h2 : due.length < 2) : Chain (fun x y => cmpI (num x) (num y)) due.reverse := fun j hj => by
  rw [List.length_reverse] at hj; omega
end
theorem ints_map {g : Value → Int} : ∀ {vs : List Value}, (∀ v ∈ vs, ∃ n t, v = .int n t ∧ g v = n) → IntsAre vs (vs.map g)
  | [], _ => .nil
  | v :: vs, h => by
    obtain ⟨n, t, rfl, e⟩ := h v (.head _)
    rw [List.map_cons, e]
    exact .cons n t (ints_map fun u hu => h u (.tail _ hu))
theorem ints_intOf : ∀ {vs : List Value} {ns : List Int}, IntsAre vs ns → vs.map intOf = ns
  | _, _, .nil => rfl
  | _, _, .cons n t h => by rw [List.map_cons, ints_intOf h]; rfl
/-- texts of one length order as the numbers -/
theorem law_alike {vs ys : List Value} {ns ms : List Int} (hi : IntsAre vs ns) (hs : IsMsort (fun x y => cmpI (intOf x) (intOf y)) vs ys) (hp : ms.Perm ns) (hm : ms.Pairwise (· ≤ ·)) : IntsAre ys (ys.map intOf) ∧ ys.map intOf = ms := by
  constructor
  · refine ints_map fun v hv => ?_
    have hv' := hs.perm.mem_iff.mp hv
    obtain ⟨n, t, e⟩ := hi.all v hv'
    exact ⟨n, t, e, by rw [e]; rfl⟩
  · refine uniq_ints ?_ hm ?_
    · refine List.pairwise_map.mpr ((hs.bef (r := fun _ _ => True) (List.pairwise_of_forall fun _ _ => trivial)).imp fun {a b} hab => ?_)
      rcases hab with hab | ⟨hab, _⟩ <;> (try dsimp only at *) <;> omega
    · rw [← ints_intOf hi] at hp
      exact (hs.perm.map _).trans hp.symm
theorem ints_snoc {vs : List Value} {ns : List Int} (h : IntsAre vs ns) (n : Int) (t : Tok) : IntsAre (vs ++ [.int n t]) (ns ++ [n]) := h.append (.cons n t .nil)
/-- the members as data -/
def mdat (num turn : Value → Int) (vs : List Value) : List Dat := vs.map fun v => Dat.tuple [.int (num v), .int (turn v)]
section
variable {num turn : Value → Int} {news : List (Addr × Obj)}
theorem mdat_all : ∀ {vs : List Value}, (∀ v ∈ vs, IsMem num turn news v) → DatAll news vs (mdat num turn vs)
  | [], _ => .nil
  | v :: vs, h => by
    obtain ⟨a, t, t', k, e, hm, _, _⟩ := h v (.head _)
    refine .cons ?_ (mdat_all fun u hu => h u (.tail _ hu))
    show DatIn news v (.tuple [.int (num v), .int (turn v)])
    generalize num v = n at hm ⊢
    generalize turn v = i at hm ⊢
    subst e
    exact DatIn.tuple (vs := [.int n t, .int i t']) hm (.cons (.int _ _) (.cons (.int _ _) .nil))
theorem mdat_ok {vs : List Value} : ∀ d ∈ mdat num turn vs, kqdOk 8 d = true := by
  intro d hd
  obtain ⟨v, _, rfl⟩ := List.mem_map.mp hd
  rfl
variable {prog : Program} {w : World} {A : Around} {E : Value → Shared → Prop} {s : Shared} {h₀ : Heap} {L a b : Addr} {Q : Value → Shared → Prop} {k k' : Nat} {xs ys : List Value}
theorem ne_same (N : News h₀ L s.heap news) (ha : (a, listOf (List.toArray xs) k) ∈ news) (hb : (b, listOf (List.toArray ys) k') ∈ news) (hm : ∀ v ∈ xs, IsMem num turn news v) (e : xs = ys) (hu : A.units + 64 < cLine) (h : Q (.bool false) s) :
    wpAny (model prog w) A (compareOp .NotEq (.ref a) (.ref b)) Q E s := by
  subst e
  refine kqd_ne N ha rfl rfl (mdat_all hm) (fun _ h => h) hb rfl rfl (mdat_all hm) (fun _ h => h) mdat_ok mdat_ok hu ?_
  simpa using h
end

end

-- part SzQ
section
local macro_rules | `(tactic| k_room) => `(tactic| ((try simp only [depth_under_make, depth_under_kw, depth_in1, depth_deeper, depth_caller]); (try dsimp only [ktrTop]); omega))
local macro_rules | `(tactic| k_units) => `(tactic| ((try simp only [units_in1, units_deeper, Around.mark_units, units_caller]); (try dsimp only [ktrTop]); (have hcL9 := cLine_is); omega))
local macro_rules | `(tactic| walk_at "mine in") => `(tactic| (intro p9 m9; first | exact m9 | (repeat (first | exact m9 | refine List.Mem.tail _ ?_))))
local macro_rules | `(tactic| walk_at "eval Call") => `(tactic| (k_here; k_dflt (refine Call_ ?_)))
local macro_rules | `(tactic| walk_at "mine dec") => `(tactic| first | with_reducible assumption | decide | ((try simp only [decide_eq_true_eq, decide_eq_false_iff_not, beq_iff_eq, bne_iff_ne, ne_eq, Bool.not_eq_true, Bool.not_eq_false, beq_eq_false_iff_ne, bne_eq_false_iff_eq]); omega))
local macro_rules | `(tactic| walk_at "ite") => `(tactic| (k_here; k_dflt (first | (refine ite_pos (by walk_at "mine dec") ?_) | (refine ite_neg (by walk_at "mine dec") ?_))))
local macro_rules | `(tactic| k_mem) => `(tactic| first | with_reducible assumption | exact List.Mem.head _ | (refine' List.mem_cons_of_mem _ ?_; k_mem))
local macro_rules | `(tactic| walk_at "call ref") => `(tactic| (k_here; k_dflt (refine' cl_use (figure0 _ _ _ _ _ _ _ _ ?q1 ?q2) ?k1 ?k2 ?k3 ?k4 ?k5 ?kK ?kd ?ku ?_; (case k1 => k_asm); (case k2 => k_asm); (case k3 => k_asm); (case k4 => k_asm); (case k5 => k_asm); (case kK => first | exact rfl | assumption); (case q1 => first | assumption | omega | decide | (simp <;> omega)); (case q2 => first | assumption | omega | decide | (simp <;> omega)); (case kd => k_room); (case ku => k_units); (try k_sweep); intro r9 n9 h9 tk9 F9 N9 o9; (obtain ⟨e9, t9, q9⟩ := o9; subst e9; subst q9); (try k_sweep); (try dsimp only))))
local macro_rules | `(tactic| walk_at "call ref") => `(tactic| (k_here; k_dflt (refine' cl_use (figure1 _ _ _ _ _ _ _ _ ?q1 ?q2) ?k1 ?k2 ?k3 ?k4 ?k5 ?kK ?kd ?ku ?_; (case k1 => k_asm); (case k2 => k_asm); (case k3 => k_asm); (case k4 => k_asm); (case k5 => k_asm); (case kK => first | exact rfl | assumption); (case q1 => first | assumption | omega | decide | (simp <;> omega)); (case q2 => first | assumption | omega | decide | (simp <;> omega)); (case kd => k_room); (case ku => k_units); (try k_sweep); intro r9 n9 h9 tk9 F9 N9 o9; (obtain ⟨e9, t9, q9⟩ := o9; subst e9; subst q9); (try k_sweep); (try dsimp only))))
local macro_rules | `(tactic| walk_at "call ref") => `(tactic| (k_here; k_dflt (refine' cl_use (figure2 _ _ _ _ _ _ _ _ ?q1 ?q2) ?k1 ?k2 ?k3 ?k4 ?k5 ?kK ?kd ?ku ?_; (case k1 => k_asm); (case k2 => k_asm); (case k3 => k_asm); (case k4 => k_asm); (case k5 => k_asm); (case kK => first | exact rfl | assumption); (case q1 => first | assumption | omega | decide | (simp <;> omega)); (case q2 => first | assumption | omega | decide | (simp <;> omega)); (case kd => k_room); (case ku => k_units); (try k_sweep); intro r9 n9 h9 tk9 F9 N9 o9; (obtain ⟨e9, t9, q9⟩ := o9; subst e9; subst q9); (try k_sweep); (try dsimp only))))
local macro_rules | `(tactic| walk_at "call ref") => `(tactic| (k_here; k_dflt (refine' cl_use (cmpnum_ok _ _ _ _ _ _ _ _ _ _) ?k1 ?k2 ?k3 ?k4 ?k5 ?kK ?kd ?ku ?_; (case k1 => k_asm); (case k2 => k_asm); (case k3 => k_asm); (case k4 => k_asm); (case k5 => k_asm); (case kK => first | exact rfl | assumption); (case kd => k_room); (case ku => k_units); (try k_sweep); intro r9 n9 h9 tk9 F9 N9 o9; (obtain ⟨e9, t9, q9⟩ := o9; subst e9; subst q9); (try k_sweep); (try dsimp only))))



local macro_rules | `(tactic| k_all) => `(tactic| first | assumption | exact OffTail.use (by assumption))
local macro_rules | `(tactic| k_lt $h:ident) => `(tactic| ((have hne9 := OffTail.of $h); (have hlt9 := LtTail.of $h); (repeat (replace hne9 := OffTail.cons hne9)); (repeat (replace hlt9 := LtTail.cons hlt9)); replace $h := allLt_of $h; (try simp only [AllLt, and_true] at $h:ident)))
local macro_rules | `(tactic| k_is) => `(tactic| exact OrderOK.keep (by with_reducible assumption))
local macro_rules | `(tactic| walk_at "mine len") => `(tactic| (have hsz9 := sizeLine_eq; simp only [List.size_toArray, List.length_append, List.length_cons, List.length_nil, List.length_drop, List.length_take] at *; omega))

local macro_rules | `(tactic| walk_at "call type:range") => `(tactic| ((rename Fr _ _ _ _ => F'); (rename News _ _ _ _ => N'); with_unfolding_all first
  | (refine range1_rows F' N' ?_; intro _ _ _ _ _ _ _ _ _)
  | (refine range2_rows F' N' ?_; intro _ _ _ _ _ _ _ _ _)
  | (refine range3_rows F' N' (by decide) ?_; intro _ _ _ _ _ _ _ _ _)))
local macro_rules | `(tactic| walk_at "CompSrc") => `(tactic| (k_here; k_dflt (refine LCg.CompSrc.ledger (by rfl) (by k_asm) (by k_asm) (by k_mem) (by walk_at "mine len") ?_; intro g')))
local macro_rules | `(tactic| walk_at "mine stop") => `(tactic| first | (with_reducible show wpAny _ _ (exec (PySem.Stmt.While _ _ _ _) _) _ _ _) | (with_reducible show wpAny _ _ (pyIter _) _ _ _) | (with_reducible show LCg.CompRest _ _ _ _ _ _ _ _ _ _ _ _ _ _ _ _ _ _ _) | (with_reducible show LCg.CompEnd _ _ _ _ _ _ _ _ _ _ _ _ _ _) | (with_reducible show UnrPost _ _ _ _ _ _ _ _ _) | (with_reducible show UnrEnd _ _ _ _ _ _ _))
local macro_rules | `(tactic| walk_at "mine till") => `(tactic| repeat' ((fail_if_success (walk_at "mine stop")); first | (k_unfold; (try dsimp only)) | walk1 | (dsimp only; walk1)))

local macro_rules | `(tactic| walk_at "call builtin:len") => `(tactic| (k_here; k_dflt (refine' len_L ?N ?m ?z ?_; (case N => k_asm); (case m => k_mem); (case z => first | assumption | omega | walk_at "mine len"); k_whole)))
local macro_rules | `(tactic| walk_at "subscriptTail Name") => `(tactic| (k_here; k_dflt (refine' item_K ?N ?m ?x ?z ?_ ?s; (case N => k_asm); (case m => k_mem); (case x => assumption); (case z => first | omega | walk_at "mine len"); (case s => with_unfolding_all rfl); k_whole)))

section
variable {prog : Program} {w : World} {A : Around} {E : Value → Shared → Prop} {s : Shared} {env : Env} {h₀ : Heap} {L : Addr} {x x₂ : Str} {m : Str → Option Value} {ct elt : PySem.Expr} {scope : Scope} {cl : List (Str × Addr)} {S : List (Addr × Obj) → Prop} {Fin : List Value → List (Addr × Obj) → Prop} {num turn : Value → Int} {vs : List Value} {news : List (Addr × Obj)}
/-- the end of an element's walk -/
def EltEnd {α : Type} (h₀ : Heap) (L : Addr) (m : Str → Option Value) (s : Shared) (led : List (Addr × Obj)) (P : α → Prop) (y : α) (s₂ : Shared) : Prop := P y ∧ ∃ h' tk', s₂ = { s with heap := h', toks := tk' } ∧ Fr h₀ L h' m ∧ News h₀ L h' led
theorem EltEnd.intro {α : Type} {h₀ : Heap} {L : Addr} {m : Str → Option Value} {s : Shared} {led : List (Addr × Obj)} {P : α → Prop} {y : α} {h' : Heap} {tk' : Nat} (p : P y) (F : Fr h₀ L h' m) (N : News h₀ L h' led) : EltEnd h₀ L m s led P y { s with heap := h', toks := tk' } := ⟨p, h', tk', rfl, F, N⟩
/-- what the element of a comprehension over the members computes -/
def EltOK {α : Type} (prog : Program) (w : World) (A : Around) (env : Env) (h₀ : Heap) (L : Addr) (x x₂ : Str) (m : Str → Option Value) (scope : Scope) (cl : List (Str × Addr)) (num turn : Value → Int) (vs : List Value) (news : List (Addr × Obj)) (s : Shared) (code : Env → Sem α) (Out : Value → α → Prop) : Prop :=
  ∀ v t t' ys I oI C oC D m₂ h tk (E' : Value → Shared → Prop), v ∈ vs → LCg.NsObj oC m₂ → m₂ x = some (.int (num v) t) → m₂ x₂ = some (.int (turn v) t') → Fr h₀ L h m → News h₀ L h ((I, oI) :: (C, oC) :: (D, LCg.lst ys) :: news) →
    wpAny (model prog w) A (code (compEnvC scope cl C env)) (EltEnd h₀ L m s ((I, oI) :: (C, oC) :: (D, LCg.lst ys) :: news) (Out v)) E' { s with heap := h, toks := tk }
theorem EltOK.use {α : Type} {code : Env → Sem α} {Out : Value → α → Prop} (H : EltOK prog w A env h₀ L x x₂ m scope cl num turn vs news s code Out) {v t t' ys I oI C oC D m₂ h tk} {E' : Value → Shared → Prop} {Q : α → Shared → Prop} (hv : v ∈ vs) (hC : LCg.NsObj oC m₂) (hx : m₂ x = some (.int (num v) t)) (hy : m₂ x₂ = some (.int (turn v) t')) (F : Fr h₀ L h m) (N : News h₀ L h ((I, oI) :: (C, oC) :: (D, LCg.lst ys) :: news))
    (k : ∀ y h' tk', Out v y → Fr h₀ L h' m → News h₀ L h' ((I, oI) :: (C, oC) :: (D, LCg.lst ys) :: news) → Q y { s with heap := h', toks := tk' }) : wpAny (model prog w) A (code (compEnvC scope cl C env)) Q E' { s with heap := h, toks := tk } :=
  wpAny_mono (H v t t' ys I oI C oC D m₂ h tk E' hv hC hx hy F N) (fun y s₂ z => by obtain ⟨o, h', tk', e, F', N'⟩ := z; subst e; exact k y h' tk' o F' N') fun _ _ e => e
theorem pairs_rest (f : Value → Int) (hv : ∀ v ∈ vs, IsMem num turn news v) (hS : S news)
    (H : EltOK prog w A env h₀ L x x₂ m scope cl num turn vs news s (fun e => eval elt e) (fun v y => ∃ t, y = .int (f v) t)) (fin : ∀ ys, IntsAre ys (vs.map f) → Fin ys news) :
    LCp.CompRestP prog w A h₀ L m env elt x x₂ scope cl s S (fun i v => (List.toArray vs)[i]? = some v) Fin (List.toArray vs).size 0 [] news := by
  have all : ∀ k i ys, i + k = vs.length → IntsAre ys ((vs.take i).map f) → LCp.CompRestP prog w A h₀ L m env elt x x₂ scope cl s S (fun i v => (List.toArray vs)[i]? = some v) Fin k i ys news := by
    intro k
    induction k with
    | zero =>
      intro i ys hi hI
      have e : i = vs.length := by omega
      subst e
      rw [List.take_length] at hI
      exact LCp.CompRestP.zero (fin ys hI)
    | succ k ih =>
      intro i ys hi hI
      refine LCp.CompRestP.succ fun v hP => ?_
      have hlt : i < vs.length := by omega
      have ev : v = vs[i] := by
        rw [List.getElem?_toArray, List.getElem?_eq_getElem hlt] at hP
        exact (Option.some.inj hP).symm
      have hmem : v ∈ vs := by rw [ev]; exact List.getElem_mem _
      obtain ⟨a, t, t', kk, e, hm, _, _⟩ := hv v hmem
      refine ⟨a, _, .int (num v) t, .int (turn v) t', kk, e, hm, rfl, rfl, ?_⟩
      intro I oI C oC D m₂ h tk E' hC hx hy F N ho hne
      refine H.use hmem hC hx hy F N ?_
      rintro y h' tk' ⟨ty, rfl⟩ F' N'
      refine LCg.CompEnd.intro F' N' news (fun p hp => hp) ho hS (ih (i + 1) _ (by omega) ?_)
      rw [List.take_succ_eq_append_getElem hlt, List.map_append, ← ev]
      exact ints_snoc hI _ _
  rw [List.size_toArray]
  exact all vs.length 0 [] (Nat.zero_add _) .nil
/-- the loop of a comprehension over the members with a test -/
theorem pt_block {iter : PySem.Expr} {px px₂ tp : Pos} {kk : Nat} {pos : Pos} {I ax : Addr} {kx : Nat} (p : Value → Bool) (f : Value → Int) {RR : Value → Addr → Result → Shared → Prop}
    (hh : A.handled = none) (hne : ax ≠ I) (hsz : vs.length ≤ 63) (hax : (ax, listOf (List.toArray vs) kx) ∈ news) (hv : ∀ v ∈ vs, IsMem num turn news v)
    (hcell : ∀ y ∈ scope.names, y.2 ≠ .cell) (hkind : scope.kind = .function) (hx : scope.names.lookup x = some .local) (hx₂ : scope.names.lookup x₂ = some .local) (hxx : ¬ x = x₂)
    (hit : s.heap.IsListIter I ax 0) (F : Fr h₀ L s.heap m) (N : News h₀ L s.heap news) (hIL : L ≠ I) (hI₀ : h₀.get? I = none) (off : ∀ q ∈ news, q.1 ≠ I)
    (T : EltOK prog w A env h₀ L x x₂ m scope cl num turn vs news s (fun e => isTrue ct e (eval ct e)) (fun v y => y = p v))
    (H : EltOK prog w A env h₀ L x x₂ m scope cl num turn vs news s (fun e => eval elt e) (fun v y => ∃ t, y = .int (f v) t))
    (hRR : ∀ D C h tk m' ys, Fr h₀ L h m → News h₀ L h ((D, LCg.lst ys) :: news) → LCg.Off1 D news → h.Ns C m' → h₀.get? C = none → h₀.get? D = none → C ≠ L → D ≠ L → C ≠ D → (∀ q ∈ news, q.1 ≠ C) → IntsAre ys ((vs.filter p).map f) → RR (.ref D) C (.ok .next) { s with heap := h, toks := tk }) :
    wpAny (model prog w) A (newList []) (fun acc s₃ => wpAny (model prog w) A (newFunctionEnv scope env.globals cl [] env.qual none .none (some env)) (fun cenv s₄ =>
      codeAny (model prog w) A (.compStart (.ListComp elt [⟨.Tuple [.Name x px, .Name x₂ px₂] kk tp, iter, [ct], 0⟩] scope pos) 0 (.ref I) acc { cenv with scope := relabel scope env }) (RR acc cenv.locals) s₄) E s₃) E s := by
  refine wpAny_newObj_type (wpAny_newFunctionEnv hcell (by intro y hy; simp at hy) (fun h₁ hns₁ hsb₁ => ?_) hkind)
  dsimp only at hns₁ hsb₁ ⊢
  generalize hH2 : s.heap.push { cls := .type "list", dict := none, data := .seq ([] : List Value).toArray } = H2 at hns₁ hsb₁ ⊢
  have hC : H2.objs.size = s.heap.objs.size + 1 := by rw [← hH2, Heap.size_push]
  have hDC : s.heap.objs.size ≠ H2.objs.size := by rw [hC]; exact Nat.ne_of_lt (Nat.lt_succ_self _)
  have below : ∀ b, b < s.heap.objs.size → b ≠ H2.objs.size ∧ b ≠ s.heap.objs.size := fun b hb => ⟨by rw [hC]; exact Nat.ne_of_lt (Nat.lt_succ_of_lt hb), Nat.ne_of_lt hb⟩
  have hIlt : I < s.heap.objs.size := by obtain ⟨o, e, _⟩ := hit; exact Heap.lt_size e
  have old : ∀ b o, s.heap.get? b = some o → h₁.get? b = some o := fun b o e => hsb₁.extBut b o (below b (Heap.lt_size e)).1 (Heap.get?_push_of_some _ (hH2 ▸ Heap.get?_push_of_some _ e))
  have hacc : h₁.get? s.heap.objs.size = some (LCg.lst []) := hsb₁.extBut _ _ hDC (Heap.get?_push_of_some _ (hH2 ▸ Heap.get?_push_size _ rfl))
  have hit₁ : h₁.IsListIter I ax 0 := hit.at fun o e => old I o e
  have fresh₀ : ∀ a, s.heap.objs.size ≤ a → h₀.get? a = none := fun a ha => by
    cases e : h₀.get? a with
    | none => rfl
    | some o' => exact absurd (Heap.lt_size (F.keep a o' e)) (Nat.not_lt.mpr ha)
  have hD₀ : h₀.get? s.heap.objs.size = none := fresh₀ _ (Nat.le_refl _)
  have hC₀ : h₀.get? H2.objs.size = none := fresh₀ _ (by rw [hC]; exact Nat.le_succ _)
  have hLlt : L < s.heap.objs.size := F.ns.lt
  have hDL : s.heap.objs.size ≠ L := Ne.symm (below L hLlt).2
  have hCL : H2.objs.size ≠ L := Ne.symm (below L hLlt).1
  have hCI : I ≠ H2.objs.size := (below I hIlt).1
  have hDI : I ≠ s.heap.objs.size := (below I hIlt).2
  have offN : ∀ q ∈ news, q.1 ≠ I ∧ q.1 ≠ H2.objs.size ∧ q.1 ≠ s.heap.objs.size := fun q hq => ⟨off q hq, (below _ (Heap.lt_size (N q hq).1)).1, (below _ (Heap.lt_size (N q hq).1)).2⟩
  have W := Walks.list (prog := prog) (w := w) hh I ax hne (List.toArray vs)
  have hsize : (List.toArray vs).size = vs.length := List.size_toArray ..
  generalize hD : s.heap.objs.size = D at *
  generalize hCC : H2.objs.size = C at *
  have loop : ∀ s₃ : Shared, s₃ = { s with heap := h₁, toks := s.toks + ([] : List (Str × Value)).length } →
      codeAny (model prog w) A (.compLoop (.ListComp elt [⟨.Tuple [.Name x px, .Name x₂ px₂] kk tp, iter, [ct], 0⟩] scope pos) 0 (.ref I) (.ref D) (compEnvC scope cl C env)) (RR (.ref D) C) s₃ := by
    rintro s₃ rfl
    refine kct_loop
      (fun k s' => ∃ h' tk i ys m', s' = { s with heap := h', toks := tk } ∧ i ≤ vs.length ∧ k = vs.length + 1 - i ∧ ys.length ≤ i ∧ h'.IsListIter I ax i ∧ Fr h₀ L h' m ∧ h'.Ns C m' ∧ News h₀ L h' ((D, LCg.lst ys) :: news) ∧ IntsAre ys (((vs.take i).filter p).map f)) ?_ (vs.length + 1)
      ⟨h₁, _, 0, [], _, rfl, Nat.zero_le _, rfl, Nat.le_refl _, hit₁, F.keeps old, hns₁, fun q hq => ?_, .nil⟩
    · rintro k s' ⟨h', tk, i, ys, m', rfl, hi, rfl, hyl, hit', F', hn', N', hI⟩
      have hl' : h'.IsList ax (List.toArray vs) := N'.isList (.tail _ hax)
      by_cases hlt : i < vs.length
      · refine W.item i _ _ _ (by rw [hsize]; exact hlt) ⟨hit', hl'⟩ fun v h₂ tk₂ hPv hst₂ hk₂ => ?_
        have ev : v = vs[i] := by
          rw [List.getElem?_toArray, List.getElem?_eq_getElem hlt] at hPv
          exact (Option.some.inj hPv).symm
        have hmem : v ∈ vs := by rw [ev]; exact List.getElem_mem _
        obtain ⟨a, t, t', kt, e, hm, _, _⟩ := hv v hmem
        have N₂ : News h₀ L h₂ ((D, LCg.lst ys) :: news) := LCg.news_but N' hk₂ fun q hq => by
          rcases List.mem_cons.mp hq with rfl | hq
          · exact Ne.symm hDI
          · exact (offN q hq).1
        have ht : IsTup h₂ a #[.int (num v) t, .int (turn v) t'] := ⟨_, (N₂ _ (List.mem_cons_of_mem _ hm)).1, rfl, kt, rfl⟩
        dsimp only
        have es : (⟨.Tuple [.Name x px, .Name x₂ px₂] kk tp, iter, [ct], 0⟩ : Comprehension) = ⟨.Tuple [.Name x px, .Name x₂ px₂] kk tp, iter, [ct], 0⟩ := rfl
        have hgo : wpAny (model prog w) A (assign (.Tuple [.Name x px, .Name x₂ px₂] kk tp) (compEnvC scope cl C env) v) (fun _ s₂ => ∃ h₃ tk₃ m₂, s₂ = { s with heap := h₃, toks := tk₃ } ∧ h₃.Ns C m₂ ∧ m₂ x = some (.int (num v) t) ∧ m₂ x₂ = some (.int (turn v) t') ∧ (∀ b o, b ≠ C → h₂.get? b = some o → h₃.get? b = some o)) (notedBy (model prog w) A (compEnvC scope cl C env) fun e s' => RR (.ref D) C (.error e) s') { s with heap := h₂, toks := tk₂ } := by
          rw [e]
          refine assign_Tuple_tuple hh ht rfl rfl fun h₅ he => ?_
          have he' : ∀ b o, h₂.get? b = some o → h₅.get? b = some o := fun b o e => he b o (Nat.ne_of_lt (Heap.lt_size e)) e
          refine assignInOrder_cons (wpAny_assign_Name (wpAny_storeName_local (lookup_relabel_local hx) ((hn'.at' fun o e => hk₂ _ o (by simpa using Ne.symm hCI) e).at' fun o e => he' _ o e) (fun h₆ hn₆ hs₆ => ?_) (by simp [compEnvC, relabel, hkind])))
          refine assignInOrder_cons (wpAny_assign_Name (wpAny_storeName_local (lookup_relabel_local hx₂) hn₆ (fun h₃ hn₃ hs₃ => ?_) (by simp [compEnvC, relabel, hkind])))
          refine assignInOrder_nil ?_
          exact ⟨h₃, _, _, rfl, hn₃, by simp [hxx, e], by simp [e], fun b o hb e => hs₃.extBut b o hb (hs₆.extBut b o hb (he' b o e))⟩
        have hlet : ∀ Q : Unit → Shared → Prop, Q () { s with heap := h₂, toks := tk₂ } → wpAny (model prog w) A (letOwnedTupleGo (.Tuple [.Name x px, .Name x₂ px₂] kk tp) (.ref I) v) Q (notedBy (model prog w) A (compEnvC scope cl C env) fun e s' => RR (.ref D) C (.error e) s') { s with heap := h₂, toks := tk₂ } := fun Q hQ => by
          rw [e]; exact wpAny_letOwnedTupleGo_listiter hst₂.1 hQ
        refine hlet _ ?_
        refine wpAny_mono hgo ?_ fun _ _ e => e
        rintro _ _ ⟨h₃, tk₃, m₂, rfl, hn₃, hmx, hmy, old3⟩
        have hit₃ : h₃.IsListIter I ax (i + 1) := hst₂.1.at fun o e => old3 I o hCI e
        obtain ⟨oC, heC, hoC⟩ := LCg.ns_obj hn₃
        obtain ⟨oI, heI, hcI⟩ := hit₃
        have F₂ : Fr h₀ L h₂ m := LCg.fr_but F' hk₂ hIL hI₀
        have F₃ : Fr h₀ L h₃ m := ⟨F₂.ns.at' fun o e => old3 _ o (Ne.symm hCL) e, fun c o e => old3 c o (fun q => by rw [q, hC₀] at e; cases e) (F₂.keep c o e), F₂.above⟩
        have N₃ : News h₀ L h₃ ((I, oI) :: (C, oC) :: (D, LCg.lst ys) :: news) := fun q hq => by
          rcases List.mem_cons.mp hq with rfl | hq
          · exact ⟨heI, Ne.symm hIL, hI₀⟩
          · rcases List.mem_cons.mp hq with rfl | hq
            · exact ⟨heC, hCL, hC₀⟩
            · have z := N₂ q hq
              refine ⟨old3 _ _ ?_ z.1, z.2⟩
              rcases List.mem_cons.mp hq with rfl | hq
              · exact hDC
              · exact (offN q hq).2.1
        have fin : ∀ (ys' : List Value) (h₅ : Heap) (tk₅ : Nat), ys'.length ≤ i + 1 → Fr h₀ L h₅ m → News h₀ L h₅ ((I, oI) :: (C, oC) :: (D, LCg.lst ys') :: news) → IntsAre ys' (((vs.take (i + 1)).filter p).map f) →
            ∃ q', q' < vs.length + 1 - i ∧ (∃ h' tk i ys m', ({ s with heap := h₅, toks := tk₅ } : Shared) = { s with heap := h', toks := tk } ∧ i ≤ vs.length ∧ q' = vs.length + 1 - i ∧ ys.length ≤ i ∧ h'.IsListIter I ax i ∧ Fr h₀ L h' m ∧ h'.Ns C m' ∧ News h₀ L h' ((D, LCg.lst ys) :: news) ∧ IntsAre ys (((vs.take i).filter p).map f)) := by
          intro ys' h₅ tk₅ hl F₅ N₅ hI₅
          have zI := (N₅ (I, oI) List.mem_cons_self).1
          have zC := (N₅ (C, oC) (List.mem_cons_of_mem _ List.mem_cons_self)).1
          exact ⟨vs.length + 1 - (i + 1), by omega, h₅, tk₅, i + 1, ys', _, rfl, hlt, rfl, hl, ⟨oI, zI, hcI⟩, F₅, hoC.ns zC, fun q hq => N₅ q (List.mem_cons_of_mem _ (List.mem_cons_of_mem _ hq)), hI₅⟩
        refine T.use hmem hoC hmx hmy F₃ N₃ ?_
        rintro y h₄ tk₄ rfl F₄ N₄
        have etake : (vs.take (i + 1)).filter p = (vs.take i).filter p ++ (if p v then [v] else []) := by
          rw [List.take_succ_eq_append_getElem hlt, List.filter_append, ← ev]
          cases hp : p v <;> simp [hp]
        cases hp : p v with
        | false =>
          rw [if_neg (by decide)]
          refine fin ys h₄ tk₄ (Nat.le_succ_of_le hyl) F₄ N₄ ?_
          rw [etake, hp]
          simpa using hI
        | true =>
          rw [if_pos rfl]
          refine H.use hmem hoC hmx hmy F₄ N₄ ?_
          rintro y h₅ tk₅ ⟨ty, rfl⟩ F₅ N₅
          have zI := (N₅ (I, oI) List.mem_cons_self).1
          have zC := (N₅ (C, oC) (List.mem_cons_of_mem _ List.mem_cons_self)).1
          have zD := (N₅ (D, LCg.lst ys) (List.mem_cons_of_mem _ (List.mem_cons_of_mem _ List.mem_cons_self))).1
          refine append_at (hsz := by show ys.toArray.size ≤ sizeLine; rw [List.size_toArray, sizeLine_eq]; omega) zD fun h₆ hs₆ hD₆ => ?_
          refine fin (ys ++ [.int (f v) ty]) h₆ _ (by rw [List.length_append, List.length_singleton]; exact Nat.succ_le_succ hyl) (F₅.change hs₆ hDL hD₀) (fun q hq => ?_) ?_
          · rcases List.mem_cons.mp hq with rfl | hq
            · exact ⟨hs₆.extBut I oI hDI zI, Ne.symm hIL, hI₀⟩
            rcases List.mem_cons.mp hq with rfl | hq
            · exact ⟨hs₆.extBut _ oC (Ne.symm hDC) zC, hCL, hC₀⟩
            rcases List.mem_cons.mp hq with rfl | hq
            · exact ⟨hD₆.trans (congrArg some (LCg.lst_snoc ys _)), hDL, hD₀⟩
            · exact ⟨hs₆.extBut _ _ (offN q hq).2.2 (N₅ q (List.mem_cons_of_mem _ (List.mem_cons_of_mem _ (List.mem_cons_of_mem _ hq)))).1, (N q hq).2⟩
          · rw [etake, hp, if_pos rfl, List.map_append]
            exact ints_snoc hI _ _
      · have hin : i = vs.length := Nat.le_antisymm hi (Nat.not_lt.mp hlt)
        subst hin
        rw [List.take_length] at hI
        refine W.done _ _ _ (by rw [hsize]; exact ⟨hit', hl'⟩) fun h₂ tk₂ hk₂ => ?_
        exact hRR D C h₂ tk₂ _ ys (LCg.fr_but F' hk₂ hIL hI₀) (LCg.news_but N' hk₂ fun q hq => by
          rcases List.mem_cons.mp hq with rfl | hq
          · exact Ne.symm hDI
          · exact (offN q hq).1) (LCg.Off3.one (LCg.Off3.of offN)) (hn'.at' fun o e => hk₂ _ o (by simpa using Ne.symm hCI) e) hC₀ hD₀ hCL hDL (Ne.symm hDC) (fun q hq => (offN q hq).2.1) hI
    · rcases List.mem_cons.mp hq with rfl | hq
      · exact ⟨hacc, hDL, hD₀⟩
      · exact ⟨old _ _ (N q hq).1, (N q hq).2⟩
  exact codeAny_compStart_list (loop _ rfl) (W.self 0 _ _ _ ⟨hit₁, (N.grown old).isList hax⟩ (loop _ rfl))
theorem pt_assign {iter : PySem.Expr} {y : Str} {px px₂ tp py : Pos} {kk : Nat} {pos spos : Pos} {ax : Addr} {kx : Nat} {Q : Flow → Shared → Prop} (p : Value → Bool) (f : Value → Int) (F : Fr h₀ L s.heap m) (N : News h₀ L s.heap news) (hLe : env.locals = L)
    (hsw : swapsWith (.ListComp elt [⟨.Tuple [.Name x px, .Name x₂ px₂] kk tp, iter, [ct], 0⟩] scope pos) (some (.Name y py)) spos.line env = pure true)
    (hclos : closureFor scope env = pure cl) (hcell : ∀ z ∈ scope.names, z.2 ≠ .cell) (hkind : scope.kind = .function)
    (hnames : ∀ z ∈ scope.names, z.2 = .local → scope.names.lookup z.1 = some .local) (hx : scope.names.lookup x = some .local) (hx₂ : scope.names.lookup x₂ = some .local) (hxx : ¬ x = x₂)
    (hy : env.kindOf y = some .local) (hp : (env.scope.kind == .class || (env.scope.kind == .module && env.locals != env.globals)) = false)
    (hh : A.handled = none) (hsz : vs.length ≤ 63) (hax : (ax, listOf (List.toArray vs) kx) ∈ news) (hv : ∀ v ∈ vs, IsMem num turn news v)
    (hiter : ∀ (Q' : Value → Shared → Prop), Q' (.ref ax) s → wpAny (model prog w) A (eval iter env) Q' E s)
    (T : ∀ g, EltOK prog w A env h₀ L x x₂ m scope cl num turn vs news { s with heap := g } (fun e => isTrue ct e (eval ct e)) (fun v y => y = p v))
    (H : ∀ g, EltOK prog w A env h₀ L x x₂ m scope cl num turn vs news { s with heap := g } (fun e => eval elt e) (fun v y => ∃ t, y = .int (f v) t))
    (fin : ∀ D ys h tk, Fr h₀ L h (fun z => if z = y then some (.ref D) else m z) → News h₀ L h ((D, LCg.lst ys) :: news) → LCg.Off1 D news → IntsAre ys ((vs.filter p).map f) → Q .next { s with heap := h, toks := tk })
    (hs : ∀ x, foldedSetIterable iter env x = pure x := by intro _; rfl) :
    wpAny (model prog w) A (exec (.Assign [.Name y py] (.ListComp elt [⟨.Tuple [.Name x px, .Name x₂ px₂] kk tp, iter, [ct], 0⟩] scope pos) spos) env) Q E s := by
  subst hLe
  rw [exec_Assign_Name_used _ _ _ _ hsw]
  refine wpAny_bind (wpAny_standAt (wpAny_bind ?_))
  show wpAny _ A (do let _ ← comprehension (.ListComp elt [⟨.Tuple [.Name x px, .Name x₂ px₂] kk tp, iter, [ct], 0⟩] scope pos) scope env _ (newList []) false (eval iter env) (some (assign (.Name y py) env))) _ _ s
  refine wpAny_bind (wpAny_mono (wpAny_comprehension_free (use := some (assign (.Name y py) env)) (Q := fun _ s' => Q .next s') rfl hs hclos hkind hnames (hiter _ ?_)) (fun _ s' hq => wpAny_pure (wpAny_pure hq)) fun _ _ e => e)
  have hl := N.isList hax
  have hlt : ax < s.heap.objs.size := by obtain ⟨_, e, _⟩ := hl; exact Heap.lt_size e
  refine wpAny_pyIter_list hl ?_
  have up : ∀ b o, s.heap.get? b = some o → (s.heap.push { cls := .type "list_iterator", data := .fields #[.ref ax, .int 0 0] }).get? b = some o := fun b o e => Heap.get?_push_of_some _ e
  refine pt_block p f hh (Nat.ne_of_lt hlt) hsz hax hv hcell hkind hx hx₂ hxx ⟨_, Heap.get?_push_size _ rfl, rfl, rfl⟩ (F.keeps up) (N.grown up) (Nat.ne_of_lt F.ns.lt) (next_is_new F) (fun q hq => Nat.ne_of_lt (Heap.lt_size (N q hq).1)) (T _) (H _) ?_
  intro D C h' tk m' ys F' N' o1 hn hC₀ hD₀ hCL hDL hCD offC hI
  show wpAny _ A (assign (.Name y py) env (.ref D)) _ _ _
  refine wpAny_assign_Name (wpAny_storeName_local hy F'.ns (fun h₂ hn₂ hs₂ => ?_) hp)
  have hL₀ : h₀.get? env.locals = none := Heap.get?_none_of_le F'.above
  have F₂ : Fr h₀ env.locals h₂ (fun z => if z = y then some (.ref D) else m z) := ⟨hn₂, fun b o e => hs₂.extBut b o (fun q => by rw [q, hL₀] at e; cases e) (F'.keep b o e), F'.above⟩
  refine ⟨m', hn.sameBut hs₂ hCL, fun h'' hs'' => fin D ys h'' _ (F₂.change hs'' hCL hC₀) (fun q hq => ?_) o1 hI⟩
  have z : h₂.get? q.1 = some q.2 := hs₂.extBut _ _ (N' q hq).2.1 (N' q hq).1
  refine ⟨hs''.extBut _ _ ?_ z, (N' q hq).2⟩
  rcases List.mem_cons.mp hq with rfl | hq
  · exact Ne.symm hCD
  · exact offC q hq
end
section
variable {prog : Program} {w : World} {A : Around} {E : Value → Shared → Prop} {s : Shared} {h₀ : Heap} {L a b : Addr} {news : List (Addr × Obj)} {Q : Value → Shared → Prop} {k k' : Nat} {xs ys : List Value} {ns ks : List Int}
theorem ne_ints_same (N : News h₀ L s.heap news) (ha : (a, listOf (List.toArray xs) k) ∈ news) (hb : (b, listOf (List.toArray ys) k') ∈ news) (hi : IntsAre xs ns) (hj : IntsAre ys ks) (e : ns = ks) (hu : A.units + 64 < cLine) (h : Q (.bool false) s) :
    wpAny (model prog w) A (compareOp .NotEq (.ref a) (.ref b)) Q E s := by
  subst e
  refine ne_intsK (N.isList ha) hi (N.isList hb) hj hu ?_
  simpa using h
theorem eq_ints_same (N : News h₀ L s.heap news) (ha : (a, listOf (List.toArray xs) k) ∈ news) (hb : (b, listOf (List.toArray ys) k') ∈ news) (hi : IntsAre xs ns) (hj : IntsAre ys ks) (e : ns = ks) (hu : A.units + 64 < cLine) (h : Q (.bool true) s) :
    wpAny (model prog w) A (compareOp .Eq (.ref a) (.ref b)) Q E s := by
  subst e
  refine eq_intsK (N.isList ha) hi (N.isList hb) hj hu ?_
  simpa using h
theorem sort_ints {l : Addr} {m : Str → Option Value} (F : Fr h₀ L s.heap m) (N : News h₀ L s.heap news) (hl : (l, listOf (List.toArray xs) k) ∈ news) (hi : IntsAre xs ns) (hz : ns.length ≤ 63)
    (h : ∀ D zs ks c h', Fr h₀ L h' m → News h₀ L h' ((D, listOf (List.toArray zs) c) :: news) → IntsAre zs ks → ks.Perm ns → ks.Pairwise (· ≤ ·) → Q (.ref D) { s with heap := h' }) : wpAny (model prog w) A (call (.builtin "sorted") [.ref l]) Q E s :=
  kso_sorted F N (N.isList hl) hi (by omega) fun D zs ks c h' F' N' _ i' _ p' o' _ => h D zs ks c h' F' N' i' p' o'
end
section
variable {prog : Program} {w : World} {A : Around} {E : Value → Shared → Prop} {s : Shared} {h₀ : Heap} {L : Addr}
theorem tup_first {value slice : PySem.Expr} {a : Addr} {x y : Value} {k : Nat} {u : Tok} {news : List (Addr × Obj)} {Q : Value → Shared → Prop} (N : News h₀ L s.heap news) (hm : (a, ({ cls := .type "tuple", data := .seq #[x, y] k } : Obj)) ∈ news) (h : Q x s)
    (hs : subscripted slice false (.ref a) (.int 0 u) = operate [.ref a, .int 0 u] (getItem (.ref a) (.int 0 u))) : wpAny (model prog w) A (subscriptTail value slice (.ref a) (.int 0 u)) Q E s :=
  item_tupleT (l := [x, y]) (j := 0) ⟨_, (N _ hm).1, rfl, k, rfl⟩ (by decide) (by decide) rfl rfl h hs
end
theorem dec_of {b : Bool} {P : Prop} [Decidable P] (h : b = true ↔ P) : decide P = b := by
  by_cases hp : P
  · rw [decide_eq_true hp]; exact (h.mpr hp).symm
  · rw [decide_eq_false hp]
    cases b with
    | false => rfl
    | true => exact absurd (h.mp rfl) hp

end

-- part SzL
section
local macro_rules | `(tactic| k_room) => `(tactic| ((try simp only [depth_under_make, depth_under_kw, depth_in1, depth_deeper, depth_caller]); (try dsimp only [ktrTop]); omega))
local macro_rules | `(tactic| k_units) => `(tactic| ((try simp only [units_in1, units_deeper, Around.mark_units, units_caller]); (try dsimp only [ktrTop]); (have hcL9 := cLine_is); omega))
local macro_rules | `(tactic| walk_at "mine in") => `(tactic| (intro p9 m9; first | exact m9 | (repeat (first | exact m9 | refine List.Mem.tail _ ?_))))
local macro_rules | `(tactic| walk_at "eval Call") => `(tactic| (k_here; k_dflt (refine Call_ ?_)))
local macro_rules | `(tactic| walk_at "mine dec") => `(tactic| first | with_reducible assumption | decide | ((try simp only [decide_eq_true_eq, decide_eq_false_iff_not, beq_iff_eq, bne_iff_ne, ne_eq, Bool.not_eq_true, Bool.not_eq_false, beq_eq_false_iff_ne, bne_eq_false_iff_eq]); omega))
local macro_rules | `(tactic| walk_at "ite") => `(tactic| (k_here; k_dflt (first | (refine ite_pos (by walk_at "mine dec") ?_) | (refine ite_neg (by walk_at "mine dec") ?_))))
local macro_rules | `(tactic| k_mem) => `(tactic| first | with_reducible assumption | exact List.Mem.head _ | (refine' List.mem_cons_of_mem _ ?_; k_mem))
local macro_rules | `(tactic| walk_at "call ref") => `(tactic| (k_here; k_dflt (refine' cl_use (figure0 _ _ _ _ _ _ _ _ ?q1 ?q2) ?k1 ?k2 ?k3 ?k4 ?k5 ?kK ?kd ?ku ?_; (case k1 => k_asm); (case k2 => k_asm); (case k3 => k_asm); (case k4 => k_asm); (case k5 => k_asm); (case kK => first | exact rfl | assumption); (case q1 => first | assumption | omega | decide | (simp <;> omega)); (case q2 => first | assumption | omega | decide | (simp <;> omega)); (case kd => k_room); (case ku => k_units); (try k_sweep); intro r9 n9 h9 tk9 F9 N9 o9; (obtain ⟨e9, t9, q9⟩ := o9; subst e9; subst q9); (try k_sweep); (try dsimp only))))
local macro_rules | `(tactic| walk_at "call ref") => `(tactic| (k_here; k_dflt (refine' cl_use (figure1 _ _ _ _ _ _ _ _ ?q1 ?q2) ?k1 ?k2 ?k3 ?k4 ?k5 ?kK ?kd ?ku ?_; (case k1 => k_asm); (case k2 => k_asm); (case k3 => k_asm); (case k4 => k_asm); (case k5 => k_asm); (case kK => first | exact rfl | assumption); (case q1 => first | assumption | omega | decide | (simp <;> omega)); (case q2 => first | assumption | omega | decide | (simp <;> omega)); (case kd => k_room); (case ku => k_units); (try k_sweep); intro r9 n9 h9 tk9 F9 N9 o9; (obtain ⟨e9, t9, q9⟩ := o9; subst e9; subst q9); (try k_sweep); (try dsimp only))))
local macro_rules | `(tactic| walk_at "call ref") => `(tactic| (k_here; k_dflt (refine' cl_use (figure2 _ _ _ _ _ _ _ _ ?q1 ?q2) ?k1 ?k2 ?k3 ?k4 ?k5 ?kK ?kd ?ku ?_; (case k1 => k_asm); (case k2 => k_asm); (case k3 => k_asm); (case k4 => k_asm); (case k5 => k_asm); (case kK => first | exact rfl | assumption); (case q1 => first | assumption | omega | decide | (simp <;> omega)); (case q2 => first | assumption | omega | decide | (simp <;> omega)); (case kd => k_room); (case ku => k_units); (try k_sweep); intro r9 n9 h9 tk9 F9 N9 o9; (obtain ⟨e9, t9, q9⟩ := o9; subst e9; subst q9); (try k_sweep); (try dsimp only))))
local macro_rules | `(tactic| walk_at "call ref") => `(tactic| (k_here; k_dflt (refine' cl_use (cmpnum_ok _ _ _ _ _ _ _ _ _ _) ?k1 ?k2 ?k3 ?k4 ?k5 ?kK ?kd ?ku ?_; (case k1 => k_asm); (case k2 => k_asm); (case k3 => k_asm); (case k4 => k_asm); (case k5 => k_asm); (case kK => first | exact rfl | assumption); (case kd => k_room); (case ku => k_units); (try k_sweep); intro r9 n9 h9 tk9 F9 N9 o9; (obtain ⟨e9, t9, q9⟩ := o9; subst e9; subst q9); (try k_sweep); (try dsimp only))))



local macro_rules | `(tactic| k_all) => `(tactic| first | assumption | exact OffTail.use (by assumption))
local macro_rules | `(tactic| k_lt $h:ident) => `(tactic| ((have hne9 := OffTail.of $h); (have hlt9 := LtTail.of $h); (repeat (replace hne9 := OffTail.cons hne9)); (repeat (replace hlt9 := LtTail.cons hlt9)); replace $h := allLt_of $h; (try simp only [AllLt, and_true] at $h:ident)))
local macro_rules | `(tactic| k_is) => `(tactic| exact OrderOK.keep (by with_reducible assumption))
local macro_rules | `(tactic| walk_at "mine len") => `(tactic| (have hsz9 := sizeLine_eq; simp only [List.size_toArray, List.length_append, List.length_cons, List.length_nil, List.length_drop, List.length_take] at *; omega))

local macro_rules | `(tactic| walk_at "call type:range") => `(tactic| ((rename Fr _ _ _ _ => F'); (rename News _ _ _ _ => N'); with_unfolding_all first
  | (refine range1_rows F' N' ?_; intro _ _ _ _ _ _ _ _ _)
  | (refine range2_rows F' N' ?_; intro _ _ _ _ _ _ _ _ _)
  | (refine range3_rows F' N' (by decide) ?_; intro _ _ _ _ _ _ _ _ _)))
local macro_rules | `(tactic| walk_at "CompSrc") => `(tactic| (k_here; k_dflt (refine LCg.CompSrc.ledger (by rfl) (by k_asm) (by k_asm) (by k_mem) (by walk_at "mine len") ?_; intro g')))
local macro_rules | `(tactic| walk_at "mine stop") => `(tactic| first | (with_reducible show wpAny _ _ (exec (PySem.Stmt.While _ _ _ _) _) _ _ _) | (with_reducible show wpAny _ _ (pyIter _) _ _ _) | (with_reducible show LCg.CompRest _ _ _ _ _ _ _ _ _ _ _ _ _ _ _ _ _ _ _) | (with_reducible show LCg.CompEnd _ _ _ _ _ _ _ _ _ _ _ _ _ _) | (with_reducible show UnrPost _ _ _ _ _ _ _ _ _) | (with_reducible show UnrEnd _ _ _ _ _ _ _))
local macro_rules | `(tactic| walk_at "mine till") => `(tactic| repeat' ((fail_if_success (walk_at "mine stop")); first | (k_unfold; (try dsimp only)) | walk1 | (dsimp only; walk1)))

local macro_rules | `(tactic| walk_at "call builtin:len") => `(tactic| (k_here; k_dflt (refine' len_L ?N ?m ?z ?_; (case N => k_asm); (case m => k_mem); (case z => first | assumption | omega | walk_at "mine len"); k_whole)))
local macro_rules | `(tactic| walk_at "subscriptTail Name") => `(tactic| (k_here; k_dflt (refine' item_K ?N ?m ?x ?z ?_ ?s; (case N => k_asm); (case m => k_mem); (case x => assumption); (case z => first | omega | walk_at "mine len"); (case s => with_unfolding_all rfl); k_whole)))

local macro_rules | `(tactic| walk_at "call ref") => `(tactic| (k_here; k_dflt (refine' cl_use (toss_ok _ _ _ _ _ _ _ _ _ _ _ _ _ _ _ ?qT ?qU ?qI ?q1 ?q2 ?q3 ?q4) ?k1 ?k2 ?k3 ?k4 ?k5 ?kK ?kd ?ku ?_; (case k1 => k_asm); (case k2 => k_asm); (case k3 => k_asm); (case k4 => k_asm); (case k5 => k_asm); (case kK => first | exact rfl | assumption); (case qT => first | assumption | exact OffTail.use (by assumption) | k_all); (case qU => k_mem); (case qI => assumption); (case q1 => first | assumption | omega | decide | (simp <;> omega)); (case q2 => first | assumption | omega | decide | (simp <;> omega)); (case q3 => first | assumption | omega | decide | (simp <;> omega)); (case q4 => first | assumption | omega | decide | (simp <;> omega)); (case kd => k_room); (case ku => k_units); (try k_sweep); intro r9 n9 h9 tk9 F9 N9 o9; (obtain ⟨x9, t9, s9, c9, q9, xl9, xu9, e9⟩ := o9; subst e9; subst q9); (try k_sweep); (try dsimp only))))

set_option maxHeartbeats 8000000
local macro_rules | `(tactic| k_room) => `(tactic| decide)
local macro_rules | `(tactic| k_units) => `(tactic| exact Nat.le_of_ble_eq_true rfl)
local macro_rules | `(tactic| walk_at "mine stop") => `(tactic| first | (with_reducible show wpAny _ _ (call (Value.ref _) _) _ _ _) | (with_reducible show wpAny _ _ (exec (PySem.Stmt.Assign _ (PySem.Expr.ListComp _ _ _ _) _) _) _ _ _))
local macro_rules | `(tactic| walk_at "mine till") => `(tactic| repeat' ((fail_if_success (walk_at "mine stop")); first | (k_unfold; (try dsimp only)) | walk1 | (dsimp only; walk1)))
local macro_rules | `(tactic| walk_at "CompSrc") => `(tactic| (k_here; k_dflt (refine LCg.CompSrc.range (by rfl) (by k_asm) (by k_asm) (by assumption) (range_zero _ (by omega)).1 (range_zero _ (by omega)).2 (by walk_at "mine len") ?_; intro g')))
local macro_rules | `(tactic| walk_at "mine stop2") => `(tactic| (with_reducible show LCg.CompRest _ _ _ _ _ _ _ _ _ _ _ _ _ _ _ _ _ _ _))
local macro_rules | `(tactic| walk_at "mine till2") => `(tactic| repeat' ((fail_if_success (walk_at "mine stop2")); first | (k_unfold; (try dsimp only)) | walk1 | (dsimp only; walk1)))
local macro_rules | `(tactic| walk_at "mine stop3") => `(tactic| (with_reducible show @Exists Addr _))
local macro_rules | `(tactic| walk_at "mine till3") => `(tactic| repeat' ((fail_if_success (walk_at "mine stop3")); first | (k_unfold; (try dsimp only)) | walk1 | (dsimp only; walk1)))
local macro_rules | `(tactic| walk_at "mine stop4") => `(tactic| first | (with_reducible show wpAny _ _ (call (Value.ref _) _) _ _ _) | (with_reducible show wpAny _ _ (exec (PySem.Stmt.Assign _ (PySem.Expr.ListComp _ _ _ _) _) _) _ _ _) | (with_reducible show wpAny _ _ (eval (PySem.Expr.ListComp _ _ _ _) _) _ _ _) | (with_reducible show wpAny _ _ (call (Value.builtin "sorted") _) _ _ _) | (with_reducible show wpAny _ _ (compareOp _ (Value.ref _) (Value.ref _)) _ _ _) | (with_reducible show wpAny _ _ (subscriptTail _ _ _ _) _ _ _))
local macro_rules | `(tactic| walk_at "mine till4") => `(tactic| repeat' ((fail_if_success (walk_at "mine stop4")); first | (k_unfold; (try dsimp only)) | walk1 | (dsimp only; walk1)))
local macro_rules | `(tactic| walk_at "mine stop5") => `(tactic| (with_reducible show EltEnd _ _ _ _ _ _ _ _))
local macro_rules | `(tactic| walk_at "mine till5") => `(tactic| repeat' ((fail_if_success (walk_at "mine stop5")); first | (k_unfold; (try dsimp only)) | walk1 | (dsimp only; walk1)))
local macro_rules | `(tactic| walk_at "mine size") => `(tactic| (rw [List.size_toArray, sizeLine_eq]; omega))
local macro_rules | `(tactic| walk_at "mine stop6") => `(tactic| (with_reducible show LCp.SrcLP _ _ _ _ _ _ _ _ _ _ _ _ _ _ _))
local macro_rules | `(tactic| walk_at "mine till6") => `(tactic| repeat' ((fail_if_success (walk_at "mine stop6")); first | (k_unfold; (try dsimp only)) | walk1 | (dsimp only; walk1)))
local macro_rules | `(tactic| walk_at "mine stop7") => `(tactic| first | (walk_at "mine stop4") | (with_reducible show wpAny _ _ (eval (PySem.Expr.BoolOp _ _ _) _) _ _ _) | (with_reducible show JoinB _ _ _ _))
local macro_rules | `(tactic| walk_at "mine till7") => `(tactic| repeat' ((fail_if_success (walk_at "mine stop7")); first | (k_unfold; (try dsimp only)) | walk1 | (dsimp only; walk1)))
/-- a bool is reckoned, nothing else is changed -/
def JoinB (b : Bool) (s : Shared) (v : Value) (s' : Shared) : Prop := v = .bool b ∧ ∃ tk, s' = { s with toks := tk }
theorem JoinB.at {b : Bool} {s : Shared} {c : Bool} {tk : Nat} (e : c = b) : JoinB b s (.bool c) { s with toks := tk } := ⟨by rw [e], tk, rfl⟩
theorem join_bool {prog : Program} {w : World} {A : Around} {E : Value → Shared → Prop} {s : Shared} {c : Sem Value} {Q : Value → Shared → Prop} (b : Bool) (h : wpAny (model prog w) A c (JoinB b s) E s) (k : ∀ tk, Q (.bool b) { s with toks := tk }) : wpAny (model prog w) A c Q E s :=
  wpAny_mono h (fun v s' z => by obtain ⟨e1, tk, e2⟩ := z; subst e1; subst e2; exact k tk) fun _ _ e => e
theorem ne_self_b (b : Bool) : ¬ ((b != b) = true) := by cases b <;> decide
local macro_rules | `(tactic| walk_at "mine dec") => `(tactic| exact ne_self_b _)
local macro_rules | `(tactic| walk_at "mine stop8") => `(tactic| first | (walk_at "mine stop4") | (with_reducible show JoinB _ _ _ _))
local macro_rules | `(tactic| walk_at "mine till8") => `(tactic| repeat' ((fail_if_success (walk_at "mine stop8")); first | (k_unfold; (try dsimp only)) | walk1 | (dsimp only; walk1)))
theorem ints_mem : ∀ {vs : List Value} {ns : List Int}, IntsAre vs ns → ∀ v ∈ vs, ∃ n t, v = .int n t ∧ n ∈ ns
  | _, _, .cons n t h, v, hv => by
    rcases List.mem_cons.mp hv with rfl | hv
    · exact ⟨n, t, rfl, .head _⟩
    · obtain ⟨n', t', e, hm⟩ := ints_mem h v hv
      exact ⟨n', t', e, .tail _ hm⟩
theorem MInv.facts {d aL cc : Addr} {o' : Obj} {ws : List Value} {ca cnt : Nat} {ys : List Value} {led : List (Addr × Obj)} (h : MInv d aL cc o' ws ca cnt ys led) (hc : (cnt : Int) < 8) :
    ∃ num turn : Value → Int, Mems num turn ys ∧ (∀ vs : List Value, vs.Perm ys → ItemsOK (IsMem num turn) led vs) ∧ ys.length ≤ 7 := by
  obtain ⟨num, turn, t, c, rest, rfl, _, _, _, hM, hP, hT, hl⟩ := h
  refine ⟨num, turn, ⟨fun u hu => ?_, fun u hu => ?_, hP⟩, fun vs hp u hu n' hs => (hM u (hp.mem_iff.mp hu)).mono fun p hp => hs p (.tail _ hp), by omega⟩
  · obtain ⟨_, _, _, _, _, _, h0, h1⟩ := hM u hu
    exact ⟨h0, h1⟩
  · have := hT u hu
    omega
theorem ItemsOK.at {P : List (Addr × Obj) → Value → Prop} {news : List (Addr × Obj)} {vs : List Value} (h : ItemsOK P news vs) : ∀ v ∈ vs, P news v := fun v hv => h v hv _ fun _ h => h
/-- the law's end: True comes back -/
theorem law_end {cl : PySem.Str → Option Addr} {mean : ExcName → Option Value} {ns : List Int} {s₁ s' : Shared} {L : Addr} {m : Str → Option Value} (F : Fr s₁.heap L s'.heap m) (hg : s'.gens = #[]) (hos : s'.os = s₁.os) :
    GoodW Challenge.rw_sz0088_01.row.claim cl mean [ofPy (PyData.list (List.map PyData.int ns))] s₁ (.ok (.ret (.bool true))) s' := by
  refine goodW_bool F hg (raisesW_false ?_) ?_ hos
  · wrow_none_raised
  · wrow_post
theorem law_try : PySem.Challenge.rw_sz0088_01.Holds := by
  w_on
  o_law
  refine holds_open (q := hd.view_39) (loose := [Str.ofString "Limits"]) (Xt := fun s => xlAt hd.view_39 [] s && recOk (RowW.records rr) s) (XP := XL hd.view_39 []) (Yf := Hook.obs (kHook hd.heap_39 kas kas_ok)) (Ya := Hook.val (kHook hd.heap_39 kas kas_ok)) (YP := Hook.says (kHook hd.heap_39 kas kas_ok)) (N := 7620) left_ok
    (Hook.of (kHook hd.heap_39 kas kas_ok)) (Hook.keeps (kHook hd.heap_39 kas kas_ok)) (fun s e => xl_of s (Bool.and_eq_true_iff.mp e).1) XL.keeps (by rfl) (by rfl) (by rfl) (fun s e => recFacts_of (Bool.and_eq_true_iff.mp e).2) (by rfl) (by first | assumption | decide +kernel) (by decide +kernel) ⟨rfl, rfl, rfl, rfl, rfl, by decide +kernel⟩ ?hw ?hc
  (case hw => w_witness2)
  rename_i said
  clear said
  k_go0
  all_goals (try k_fold)
  all_goals (walk_at "mine till")
  have hlen8 : (List.take 8 (‹List Int› : List Int)).length ≤ 8 := by rw [List.length_take]; omega
  k_dflt (refine' cl_use (toss_ok _ _ _ _ 8 _ _ _ 0 _ _ _ _ _ _ ?qT ?qU ?qI ?q1 ?q2 ?q3 ?q4) ?k1 ?k2 ?k3 ?k4 ?k5 ?kK ?kd ?ku ?_)
  (case k1 => k_asm)
  (case k2 => k_asm)
  (case k3 => k_asm)
  (case k4 => k_asm)
  (case k5 => k_asm)
  (case kK => exact rfl)
  (case kd => k_room)
  (case ku => k_units)
  (case qT => (refine OffTail.put ?_; refine List.forall_mem_cons.mpr ⟨?_, List.forall_mem_cons.mpr ⟨?_, List.forall_mem_nil _⟩⟩; (· k_ne); (· k_ne)))
  (case qU => k_mem)
  (case qI => assumption)
  (case q1 => (rename IntsAre _ (List.take 8 _) => hI8; have q := hI8.length; rw [List.length_take] at q; omega))
  (case q2 => decide)
  (case q3 => decide)
  (case q4 => decide)
  (try k_sweep)
  intro r9 n9 h9 tk9 F9 N9 o9
  obtain ⟨x9, t9, s9, c9, q9, xl9, xu9, e9⟩ := o9
  subst e9
  subst q9
  obtain ⟨cnt, rfl⟩ := Int.eq_ofNat_of_zero_le xl9
  (try k_sweep)
  (try dsimp only)
  walk_at "mine till"
  walk_at "mine till2"
  refine members_rest (by k_ne) (by k_ne) ?_ ?_
  · intro i ys t1 c1 rest tv I oI C oC D m₂ h8 tk8 E' hi hoff hm1 hm2 hC hx F8 N8 hoff2 ho hne
    walk_at "mine till"
    (rename IntsAre _ (List.take 8 _) => hI8)
    have hz8 := hI8.length
    rw [List.length_take] at hz8
    refine' cl_use (toss_ok _ _ _ _ 1000 _ _ _ (i + 1) _ _ _ _ _ _ hoff2 (List.mem_cons_of_mem _ (List.mem_cons_of_mem _ (List.mem_cons_of_mem _ hm1))) hI8 ?qm ?q5 ?q6 ?q7) ?k1 ?k2 ?k3 ?k4 ?k5 ?kK ?kd ?ku ?_
    (case k1 => k_asm)
    (case k2 => k_asm)
    (case k3 => k_asm)
    (case k4 => k_asm)
    (case k5 => k_asm)
    (case kK => exact rfl)
    (case kd => k_room)
    (case ku => k_units)
    (case qm => omega)
    (case q5 => omega)
    (case q6 => decide)
    (case q7 => decide)
    intro r9 n9 h9 tk9 F9 N9 o9
    obtain ⟨x9, t9, s9, c9, q9, xl9, xu9, e9⟩ := o9
    subst e9
    subst q9
    (try k_sweep)
    (try dsimp only)
    walk_at "mine till3"
    rename_i l1
    obtain ⟨a1, a2, a3, a4, a5⟩ := l1
    (rename LtTail _ rest => hlt)
    refine ⟨_, _, _, _, _, _, _, _, _, rfl, rfl, xl9, xu9, by k_asm, ?_, a1, by k_asm⟩
    exact List.forall_mem_cons.mpr ⟨a2, List.forall_mem_cons.mpr ⟨a3, List.forall_mem_cons.mpr ⟨a4, hlt⟩⟩⟩
  · intro ms led hMI
    obtain ⟨num, turn, hMs, hIt, hl7⟩ := hMI.facts xu9
    clear hMI
    intro D h tk F N o1
    have hms := hIt ms (.refl _)
    walk_at "mine till4"
    refine' due_ok F N ?dA ?dB hMs.turns ?dC ?_
    (case dA => k_mem)
    (case dB => exact (hms.up (by walk_at "mine in")).at)
    (case dC => omega)
    intro Dd due cd h' F N pd hd
    walk_at "mine till4"
    refine' cl_use (sorted_ok _ _ _ _ 12 457 (IsMem num turn) _ (last_order _ _ _ _ num turn) _ _ _ _ ?qA1 ?qB1 ?qC1) ?c1a ?c1b ?c1c ?c1d ?c1e ?c1K ?c1x ?c1y ?_
    (case c1a => k_asm)
    (case c1b => k_asm)
    (case c1c => k_asm)
    (case c1d => k_asm)
    (case c1e => k_asm)
    (case c1K => exact rfl)
    (case c1x => k_room)
    (case c1y => k_units)
    (case qA1 => k_mem)
    (case qB1 => exact hms.up (by walk_at "mine in"))
    (case qC1 => omega)
    intro r9 n9 h9 tk9 F9 N9 o9
    obtain ⟨once, Do, co, so, e1, e2⟩ := o9
    subst e1
    subst e2
    have po := so.perm
    have lo := po.length_eq
    walk_at "mine till4"
    refine' cl_use (sorted_ok _ _ _ _ 12 464 (IsMem num turn) _ (next_order _ _ _ _ num turn) _ _ _ _ ?qA2 ?qB2 ?qC2) ?c2a ?c2b ?c2c ?c2d ?c2e ?c2K ?c2x ?c2y ?_
    (case c2a => k_asm)
    (case c2b => k_asm)
    (case c2c => k_asm)
    (case c2d => k_asm)
    (case c2e => k_asm)
    (case c2K => exact rfl)
    (case c2x => k_room)
    (case c2y => k_units)
    (case qA2 => k_mem)
    (case qB2 => exact (hIt once po).up (by walk_at "mine in"))
    (case qC2 => omega)
    intro r9 n9 h9 tk9 F9 N9 o9
    obtain ⟨twice, Dt, ct, st, e1, e2⟩ := o9
    subst e1
    subst e2
    have pt := st.perm.trans po
    have lt := pt.length_eq
    walk_at "mine till4"
    lcg_calm
    refine LCp.ListComp_P (F₀ := by k_asm) (by with_unfolding_all rfl) (by decide) (by rfl) (by decide) (by rfl) (by rfl) (by decide) ?_
    walk_at "mine till6"
    refine LCp.SrcLP.ledger (by rfl) (by k_asm) (by k_asm) (by k_mem) (by walk_at "mine size") ?_
    intro g1
    refine pairs_rest (num := num) (turn := turn) (fun v => num v % 10) ?pvA ?psA ?peA ?pfA
    (case pvA => exact ((hIt once po).up (by walk_at "mine in")).at)
    (case psA => exact .inr ⟨_, by k_mem, rfl, _, rfl⟩)
    (case peA =>
      intro v t t' ys I oI C oC D m₂ h tk E' hv hC hx hy F N
      walk_at "mine till5"
      exact EltEnd.intro ⟨_, congrArg (fun n => Value.int n _) (Int.fmod_eq_emod_of_nonneg _ (by decide))⟩ (by k_asm) (by k_asm))
    intro os hos D1 h1 tk1 F1 N1 o1
    walk_at "mine till4"
    lcg_calm
    refine LCp.ListComp_P (F₀ := by k_asm) (by with_unfolding_all rfl) (by decide) (by rfl) (by decide) (by rfl) (by rfl) (by decide) ?_
    walk_at "mine till6"
    refine LCp.SrcLP.ledger (by rfl) (by k_asm) (by k_asm) (by k_mem) (by walk_at "mine size") ?_
    intro g2
    refine pairs_rest (num := num) (turn := turn) (fun v => num v % 10) ?pvB ?psB ?peB ?pfB
    (case pvB => exact (hms.up (by walk_at "mine in")).at)
    (case psB => exact .inr ⟨_, by k_mem, rfl, _, rfl⟩)
    (case peB =>
      intro v t t' ys I oI C oC D m₂ h tk E' hv hC hx hy F N
      walk_at "mine till5"
      exact EltEnd.intro ⟨_, congrArg (fun n => Value.int n _) (Int.fmod_eq_emod_of_nonneg _ (by decide))⟩ (by k_asm) (by k_asm))
    intro bs hbs D2 h2 tk2 F2 N2 o2
    walk_at "mine till4"
    refine' sort_ints F2 N2 ?sA hbs ?sB ?_
    (case sA => k_mem)
    (case sB => rw [List.length_map]; omega)
    intro D3 zs ks c3 h3 F3 N3 hzs pz oz
    walk_at "mine till4"
    refine' ne_ints_same ?nN ?nA ?nB hos hzs (law_once hMs so pz oz) ?nU ?_
    (case nN => k_asm)
    (case nA => k_mem)
    (case nB => k_mem)
    (case nU => k_units)
    walk_at "mine till4"
    refine' cl_use (sorted_ok _ _ _ _ 14 478 (IsMem num turn) _ (two_order _ _ _ _ num turn) _ _ _ _ ?qA3 ?qB3 ?qC3) ?c3a ?c3b ?c3c ?c3d ?c3e ?c3K ?c3x ?c3y ?_
    (case c3a => k_asm)
    (case c3b => k_asm)
    (case c3c => k_asm)
    (case c3d => k_asm)
    (case c3e => k_asm)
    (case c3K => exact rfl)
    (case c3x => k_room)
    (case c3y => k_units)
    (case qA3 => k_mem)
    (case qB3 => exact hms.up (by walk_at "mine in"))
    (case qC3 => omega)
    intro r9 n9 h9 tk9 F9 N9 o9
    obtain ⟨two, Dw, cw, sw, e1, e2⟩ := o9
    subst e1
    subst e2
    walk_at "mine till4"
    refine' ne_same (num := num) (turn := turn) ?mN ?mA ?mB ?mM (law_two hMs so st sw) ?mU ?_
    (case mN => k_asm)
    (case mA => k_mem)
    (case mB => k_mem)
    (case mM => exact ((hIt twice pt).up (by walk_at "mine in")).at)
    (case mU => k_units)
    walk_at "mine till4"
    refine' cl_use (sorted_ok _ _ _ _ 12 471 (IsMem num turn) _ (first_order _ _ _ _ num turn) _ _ _ _ ?qA4 ?qB4 ?qC4) ?c4a ?c4b ?c4c ?c4d ?c4e ?c4K ?c4x ?c4y ?_
    (case c4a => k_asm)
    (case c4b => k_asm)
    (case c4c => k_asm)
    (case c4d => k_asm)
    (case c4e => k_asm)
    (case c4K => exact rfl)
    (case c4x => k_room)
    (case c4y => k_units)
    (case qA4 => k_mem)
    (case qB4 => exact (hIt twice pt).up (by walk_at "mine in"))
    (case qC4 => omega)
    intro r9 n9 h9 tk9 F9 N9 o9
    obtain ⟨thrice, Dh, ch, sh, e1, e2⟩ := o9
    subst e1
    subst e2
    walk_at "mine till4"
    refine' ne_same (num := num) (turn := turn) ?lN ?lA ?lB ?lM (law_three hMs so st sh pd hd) ?lU ?_
    (case lN => k_asm)
    (case lA => k_mem)
    (case lB => k_mem)
    (case lM => exact ((hIt thrice (sh.perm.trans pt)).up (by walk_at "mine in")).at)
    (case lU => k_units)
    walk_at "mine till4"
    refine' cl_use (sorted_ok _ _ _ _ 12 485 (IsMem num turn) _ (texts_order _ _ _ _ num turn) _ _ _ _ ?qA5 ?qB5 ?qC5) ?c5a ?c5b ?c5c ?c5d ?c5e ?c5K ?c5x ?c5y ?_
    (case c5a => k_asm)
    (case c5b => k_asm)
    (case c5c => k_asm)
    (case c5d => k_asm)
    (case c5e => k_asm)
    (case c5K => exact rfl)
    (case c5x => k_room)
    (case c5y => k_units)
    (case qA5 => k_mem)
    (case qB5 => exact hms.up (by walk_at "mine in"))
    (case qC5 => omega)
    intro r9 n9 h9 tk9 F9 N9 o9
    obtain ⟨texts, Dx, cx, sx, e1, e2⟩ := o9
    subst e1
    subst e2
    walk_at "mine till4"
    refine' ne_same (num := num) (turn := turn) ?tN ?tA ?tB ?tM (law_texts hMs sx pd hd) ?tU ?_
    (case tN => k_asm)
    (case tA => k_mem)
    (case tB => k_mem)
    (case tM => exact ((hIt texts sx.perm).up (by walk_at "mine in")).at)
    (case tU => k_units)
    walk_at "mine till4"
    have ld := pd.length_eq
    have hle := due_le hMs pd hd
    refine' cl_use (issorted_ok _ _ _ _ 12 485 (IsMem num turn) _ (texts_order _ _ _ _ num turn) _ _ _ _ ?qA6 ?qB6 ?qC6) ?c6a ?c6b ?c6c ?c6d ?c6e ?c6K ?c6x ?c6y ?_
    (case c6a => k_asm)
    (case c6b => k_asm)
    (case c6c => k_asm)
    (case c6d => k_asm)
    (case c6e => k_asm)
    (case c6K => exact rfl)
    (case c6x => k_room)
    (case c6y => k_units)
    (case qA6 => k_mem)
    (case qB6 => exact (hIt due pd).up (by walk_at "mine in"))
    (case qC6 => omega)
    intro r9 n9 h9 tk9 F9 N9 o9
    obtain ⟨e1, b, e2, hb⟩ := o9
    have hbt := hb.mpr (due_chain hle)
    subst hbt
    subst e1
    subst e2
    walk_at "mine till4"
    refine' krv_lit (zs := due.reverse) ?rF ?rN ?rl ?rk rfl ?_ ?rs ?rt ?rz
    (case rF => k_asm)
    (case rN => k_asm)
    (case rl => exact News.isList (by k_asm) (by k_mem))
    (case rk => exact IsPart.int _ _)
    (case rs => with_unfolding_all rfl)
    (case rt => kmk_pure)
    (case rz => walk_at "mine size")
    intro Dr hr Fr9 Nr9 lr9
    clear lr9
    walk_at "mine till4"
    refine' cl_use (issorted_ok _ _ _ _ 12 485 (IsMem num turn) _ (texts_order _ _ _ _ num turn) _ _ _ _ ?qA7 ?qB7 ?qC7) ?c7a ?c7b ?c7c ?c7d ?c7e ?c7K ?c7x ?c7y ?_
    (case c7a => k_asm)
    (case c7b => k_asm)
    (case c7c => k_asm)
    (case c7d => k_asm)
    (case c7e => k_asm)
    (case c7K => exact rfl)
    (case c7x => k_room)
    (case c7y => k_units)
    (case qA7 => k_mem)
    (case qB7 => exact (hIt due.reverse ((List.reverse_perm due).trans pd)).up (by walk_at "mine in"))
    (case qC7 => rw [List.length_reverse]; omega)
    intro r9 n9 h9 tk9 F9 N9 o9
    obtain ⟨e1, b2, e2, hb2⟩ := o9
    subst e1
    subst e2
    walk_at "mine till7"
    refine join_bool b2 ?_ ?_
    · by_cases h2 : due.length < 2
      · have hbt := hb2.mpr (rev_short h2)
        subst hbt
        have h2' : (due.length : Int) < 2 := by omega
        walk_at "mine till8"
        exact JoinB.at (decide_eq_true h2')
      · have h2' : ¬ (due.length : Int) < 2 := by omega
        have hpos : 0 < due.length := by omega
        have hrv := hb2.trans (rev_chain hle hpos)
        obtain ⟨a0, u0, u0', k0, e0, m0, _, _⟩ := (hIt due pd).at (due[0]'hpos) (List.getElem_mem _)
        obtain ⟨al, ul, ul', kl, el, ml, _, _⟩ := (hIt due pd).at (due[due.length - 1]'(by omega)) (List.getElem_mem _)
        have hA0 : ItemAt due 0 (.ref a0) := ⟨0, rfl, by rw [← e0]; exact List.getElem?_eq_getElem _⟩
        have hAl : ItemLast due (.ref al) := by
          show due[due.length - 1]? = _
          rw [← el]
          exact List.getElem?_eq_getElem _
        generalize num (due[0]'hpos) = n0 at hrv m0
        generalize num (due[due.length - 1]'(by omega)) = nl at hrv ml
        walk_at "mine till8"
        refine' item_K ?iN ?im hA0 ?iz ?_ ?is
        (case iN => k_asm)
        (case im => k_mem)
        (case iz => omega)
        (case is => with_unfolding_all rfl)
        walk_at "mine till8"
        refine' tup_first ?jN ?jm ?_ ?js
        (case jN => k_asm)
        (case jm => k_mem)
        (case js => with_unfolding_all rfl)
        walk_at "mine till8"
        refine' item_last ?xN ?xm hAl ?xz ?_ ?xs
        (case xN => k_asm)
        (case xm => k_mem)
        (case xz => omega)
        (case xs => with_unfolding_all rfl)
        walk_at "mine till8"
        refine' tup_first ?yN ?ym ?_ ?ys
        (case yN => k_asm)
        (case ym => k_mem)
        (case ys => with_unfolding_all rfl)
        walk_at "mine till8"
        exact JoinB.at (dec_of hrv)
    · intro tk
      walk_at "mine till4"
      refine pt_assign (num := num) (turn := turn) (vs := ms) (ax := D) (fun v => decide (99 < num v)) num (by k_asm) (by k_asm) (by rfl) (by with_unfolding_all rfl) (by with_unfolding_all rfl) (by decide) (by rfl) (by decide) (by rfl) (by rfl) (by decide) (by rfl) (by with_unfolding_all rfl) (by with_unfolding_all rfl) (by omega) (by k_mem) ?_ ?_ ?_ ?_ ?_
      · exact (hms.up (by walk_at "mine in")).at
      · intro Q' hq
        walk1
        exact hq
      · intro g v t t' ys I oI C oC D m₂ h tk E' hv hC hx hy F N
        walk_at "mine till5"
        exact EltEnd.intro rfl (by k_asm) (by k_asm)
      · intro g v t t' ys I oI C oC D m₂ h tk E' hv hC hx hy F N
        walk_at "mine till5"
        exact EltEnd.intro ⟨_, rfl⟩ (by k_asm) (by k_asm)
      · intro Da as ha tka Fa Na oa hIa
        have hlen : ((ms.filter fun v => decide (99 < num v)).map num).length ≤ 63 := by
          rw [List.length_map]
          have := List.length_filter_le (fun v => decide (99 < num v)) ms
          omega
        have hla := hIa.length
        have hthree : ∀ n', ItemsOK IsThree n' as := fun _ v hv _ _ => by
          obtain ⟨n, t, e, hn⟩ := ints_mem hIa v hv
          obtain ⟨u, hu, rfl⟩ := List.mem_map.mp hn
          have hu' := List.mem_filter.mp hu
          exact ⟨_, t, e, by simpa using hu'.2, (hMs.nums u hu'.1).2⟩
        walk_at "mine till4"
        refine' cl_use (bytextsort_ok _ _ _ _ _ as _ _ ?qA8 ?qB8 ?qC8) ?c8a ?c8b ?c8c ?c8d ?c8e ?c8K ?c8x ?c8y ?_
        (case c8a => k_asm)
        (case c8b => k_asm)
        (case c8c => k_asm)
        (case c8d => k_asm)
        (case c8e => k_asm)
        (case c8K => exact rfl)
        (case c8x => k_room)
        (case c8y => k_units)
        (case qA8 => k_mem)
        (case qB8 => exact hthree _)
        (case qC8 => omega)
        intro r9 n9 h9 tk9 F9 N9 o9
        obtain ⟨bt, Db, cb, sb, e1, e2⟩ := o9
        subst e1
        subst e2
        walk_at "mine till4"
        refine' sort_ints (by k_asm) (by k_asm) ?vA hIa hlen ?_
        (case vA => k_mem)
        intro D4 ws4 ks4 c4 h4 F4 N4 hws pw ow
        have hal := law_alike hIa sb pw ow
        walk_at "mine till4"
        refine' eq_ints_same ?zN ?zA ?zB hal.1 hws hal.2 ?zU ?_
        (case zN => k_asm)
        (case zA => k_mem)
        (case zB => k_mem)
        (case zU => k_units)
        walk_at "mine till4"
        exact law_end (by k_asm) (by with_reducible assumption) rfl

end
end Mine
theorem PySem.Challenge.cw_sz0088_01_holds : PySem.Challenge.rw_sz0088_01.Holds := by
  exact Mine.law_try
