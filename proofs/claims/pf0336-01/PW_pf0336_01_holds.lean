import PyProof.Rows.All
import Wide.All
import OpenK.AllK
import Wide.FinOn
import Lean
import PySem.Challenge.RW_pf0336_01
open PySem PySem.W PyProof.Rows PySem.Calls PySem.Spec
set_option Elab.async false
set_option linter.unusedVariables false
namespace Mine
set_option compiler.extract_closed false
set_option maxRecDepth 100000
set_option maxHeartbeats 8000000
section
variable {w : World} {mean : ExcName → Option Value} {mg mb : Str → Option Value} {dp un : Nat} {gd : Option (List Code)} {cn : Str} {cs : Scope} {a : Addr} {ccd : Value} {cl : List (Str × Addr)} {outer : List Env} {A₀ : Around} {base h₀ : Heap} {L : Addr} {m : Str → Option Value} {news : List (Addr × Obj)} {s : Shared}
    {Q E : Value → Shared → Prop}
noncomputable def cellAt (i : Nat) : Option Stmt := PySem.Challenge.pw_pf0336_01.main.body[i]?
noncomputable def methAt (i j : Nat) : Option Stmt := match PySem.Challenge.pw_pf0336_01.main.body[i]? with
  | some (.ClassDef (body := b) ..) => b[j]?
  | _ => none
noncomputable def hd.heap_39 : Params → Frag := by
  refine (?f : ∀ (n0 : Str) (p0 : Arguments) (b0 : (List Stmt)) (d0 : (List PySem.Expr)) (r0 : (Option PySem.Expr)) (t0 : (List TypeParam)) (s0 : Scope) (u0 : (Option Scope)) (v0 : Str) (q0 : Pos) (_ : some (Stmt.FunctionDef n0 p0 b0 d0 r0 t0 s0 u0 v0 q0) = methAt 1 0)
    (n1 : Str) (p1 : Arguments) (b1 : (List Stmt)) (d1 : (List PySem.Expr)) (r1 : (Option PySem.Expr)) (t1 : (List TypeParam)) (s1 : Scope) (u1 : (Option Scope)) (v1 : Str) (q1 : Pos) (_ : some (Stmt.FunctionDef n1 p1 b1 d1 r1 t1 s1 u1 v1 q1) = methAt 3 0)
    (n2 : Str) (p2 : Arguments) (b2 : (List Stmt)) (d2 : (List PySem.Expr)) (r2 : (Option PySem.Expr)) (t2 : (List TypeParam)) (s2 : Scope) (u2 : (Option Scope)) (v2 : Str) (q2 : Pos) (_ : some (Stmt.FunctionDef n2 p2 b2 d2 r2 t2 s2 u2 v2 q2) = cellAt 4)
    (n3 : Str) (p3 : Arguments) (b3 : (List Stmt)) (d3 : (List PySem.Expr)) (r3 : (Option PySem.Expr)) (t3 : (List TypeParam)) (s3 : Scope) (u3 : (Option Scope)) (v3 : Str) (q3 : Pos) (_ : some (Stmt.FunctionDef n3 p3 b3 d3 r3 t3 s3 u3 v3 q3) = cellAt 5)
    (n4 : Str) (p4 : Arguments) (b4 : (List Stmt)) (d4 : (List PySem.Expr)) (r4 : (Option PySem.Expr)) (t4 : (List TypeParam)) (s4 : Scope) (u4 : (Option Scope)) (v4 : Str) (q4 : Pos) (_ : some (Stmt.FunctionDef n4 p4 b4 d4 r4 t4 s4 u4 v4 q4) = methAt 7 0)
    (n5 : Str) (p5 : Arguments) (b5 : (List Stmt)) (d5 : (List PySem.Expr)) (r5 : (Option PySem.Expr)) (t5 : (List TypeParam)) (s5 : Scope) (u5 : (Option Scope)) (v5 : Str) (q5 : Pos) (_ : some (Stmt.FunctionDef n5 p5 b5 d5 r5 t5 s5 u5 v5 q5) = cellAt 8)
    (n6 : Str) (p6 : Arguments) (b6 : (List Stmt)) (d6 : (List PySem.Expr)) (r6 : (Option PySem.Expr)) (t6 : (List TypeParam)) (s6 : Scope) (u6 : (Option Scope)) (v6 : Str) (q6 : Pos) (_ : some (Stmt.FunctionDef n6 p6 b6 d6 r6 t6 s6 u6 v6 q6) = cellAt 9)
    (n7 : Str) (p7 : Arguments) (b7 : (List Stmt)) (d7 : (List PySem.Expr)) (r7 : (Option PySem.Expr)) (t7 : (List TypeParam)) (s7 : Scope) (u7 : (Option Scope)) (v7 : Str) (q7 : Pos) (_ : some (Stmt.FunctionDef n7 p7 b7 d7 r7 t7 s7 u7 v7 q7) = cellAt 10)
    (n8 : Str) (p8 : Arguments) (b8 : (List Stmt)) (d8 : (List PySem.Expr)) (r8 : (Option PySem.Expr)) (t8 : (List TypeParam)) (s8 : Scope) (u8 : (Option Scope)) (v8 : Str) (q8 : Pos) (_ : some (Stmt.FunctionDef n8 p8 b8 d8 r8 t8 s8 u8 v8 q8) = methAt 11 0)
    (n9 : Str) (p9 : Arguments) (b9 : (List Stmt)) (d9 : (List PySem.Expr)) (r9 : (Option PySem.Expr)) (t9 : (List TypeParam)) (s9 : Scope) (u9 : (Option Scope)) (v9 : Str) (q9 : Pos) (_ : some (Stmt.FunctionDef n9 p9 b9 d9 r9 t9 s9 u9 v9 q9) = methAt 11 1)
    (n10 : Str) (p10 : Arguments) (b10 : (List Stmt)) (d10 : (List PySem.Expr)) (r10 : (Option PySem.Expr)) (t10 : (List TypeParam)) (s10 : Scope) (u10 : (Option Scope)) (v10 : Str) (q10 : Pos) (_ : some (Stmt.FunctionDef n10 p10 b10 d10 r10 t10 s10 u10 v10 q10) = methAt 11 2)
    (n11 : Str) (p11 : Arguments) (b11 : (List Stmt)) (d11 : (List PySem.Expr)) (r11 : (Option PySem.Expr)) (t11 : (List TypeParam)) (s11 : Scope) (u11 : (Option Scope)) (v11 : Str) (q11 : Pos) (_ : some (Stmt.FunctionDef n11 p11 b11 d11 r11 t11 s11 u11 v11 q11) = methAt 11 3)
    (n12 : Str) (p12 : Arguments) (b12 : (List Stmt)) (d12 : (List PySem.Expr)) (r12 : (Option PySem.Expr)) (t12 : (List TypeParam)) (s12 : Scope) (u12 : (Option Scope)) (v12 : Str) (q12 : Pos) (_ : some (Stmt.FunctionDef n12 p12 b12 d12 r12 t12 s12 u12 v12 q12) = methAt 11 4)
    (n13 : Str) (p13 : Arguments) (b13 : (List Stmt)) (d13 : (List PySem.Expr)) (r13 : (Option PySem.Expr)) (t13 : (List TypeParam)) (s13 : Scope) (u13 : (Option Scope)) (v13 : Str) (q13 : Pos) (_ : some (Stmt.FunctionDef n13 p13 b13 d13 r13 t13 s13 u13 v13 q13) = methAt 11 5)
    (n14 : Str) (p14 : Arguments) (b14 : (List Stmt)) (d14 : (List PySem.Expr)) (r14 : (Option PySem.Expr)) (t14 : (List TypeParam)) (s14 : Scope) (u14 : (Option Scope)) (v14 : Str) (q14 : Pos) (_ : some (Stmt.FunctionDef n14 p14 b14 d14 r14 t14 s14 u14 v14 q14) = methAt 11 6)
    (n15 : Str) (p15 : Arguments) (b15 : (List Stmt)) (d15 : (List PySem.Expr)) (r15 : (Option PySem.Expr)) (t15 : (List TypeParam)) (s15 : Scope) (u15 : (Option Scope)) (v15 : Str) (q15 : Pos) (_ : some (Stmt.FunctionDef n15 p15 b15 d15 r15 t15 s15 u15 v15 q15) = methAt 11 7)
    (n16 : Str) (p16 : Arguments) (b16 : (List Stmt)) (d16 : (List PySem.Expr)) (r16 : (Option PySem.Expr)) (t16 : (List TypeParam)) (s16 : Scope) (u16 : (Option Scope)) (v16 : Str) (q16 : Pos) (_ : some (Stmt.FunctionDef n16 p16 b16 d16 r16 t16 s16 u16 v16 q16) = cellAt 12)
    (n17 : Str) (p17 : Arguments) (b17 : (List Stmt)) (d17 : (List PySem.Expr)) (r17 : (Option PySem.Expr)) (t17 : (List TypeParam)) (s17 : Scope) (u17 : (Option Scope)) (v17 : Str) (q17 : Pos) (_ : some (Stmt.FunctionDef n17 p17 b17 d17 r17 t17 s17 u17 v17 q17) = cellAt 14)
    (n18 : Str) (p18 : Arguments) (b18 : (List Stmt)) (d18 : (List PySem.Expr)) (r18 : (Option PySem.Expr)) (t18 : (List TypeParam)) (s18 : Scope) (u18 : (Option Scope)) (v18 : Str) (q18 : Pos) (_ : some (Stmt.FunctionDef n18 p18 b18 d18 r18 t18 s18 u18 v18 q18) = cellAt 15)
    (n19 : Str) (p19 : Arguments) (b19 : (List Stmt)) (d19 : (List PySem.Expr)) (r19 : (Option PySem.Expr)) (t19 : (List TypeParam)) (s19 : Scope) (u19 : (Option Scope)) (v19 : Str) (q19 : Pos) (_ : some (Stmt.FunctionDef n19 p19 b19 d19 r19 t19 s19 u19 v19 q19) = cellAt 16)
    (n20 : Str) (p20 : Arguments) (b20 : (List Stmt)) (d20 : (List PySem.Expr)) (r20 : (Option PySem.Expr)) (t20 : (List TypeParam)) (s20 : Scope) (u20 : (Option Scope)) (v20 : Str) (q20 : Pos) (_ : some (Stmt.FunctionDef n20 p20 b20 d20 r20 t20 s20 u20 v20 q20) = cellAt 17)
    (n21 : Str) (p21 : Arguments) (b21 : (List Stmt)) (d21 : (List PySem.Expr)) (r21 : (Option PySem.Expr)) (t21 : (List TypeParam)) (s21 : Scope) (u21 : (Option Scope)) (v21 : Str) (q21 : Pos) (_ : some (Stmt.FunctionDef n21 p21 b21 d21 r21 t21 s21 u21 v21 q21) = cellAt 18)
    (n22 : Str) (p22 : Arguments) (b22 : (List Stmt)) (d22 : (List PySem.Expr)) (r22 : (Option PySem.Expr)) (t22 : (List TypeParam)) (s22 : Scope) (u22 : (Option Scope)) (v22 : Str) (q22 : Pos) (_ : some (Stmt.FunctionDef n22 p22 b22 d22 r22 t22 s22 u22 v22 q22) = cellAt 19)
    (n23 : Str) (p23 : Arguments) (b23 : (List Stmt)) (d23 : (List PySem.Expr)) (r23 : (Option PySem.Expr)) (t23 : (List TypeParam)) (s23 : Scope) (u23 : (Option Scope)) (v23 : Str) (q23 : Pos) (_ : some (Stmt.FunctionDef n23 p23 b23 d23 r23 t23 s23 u23 v23 q23) = cellAt 20)
    (n24 : Str) (p24 : Arguments) (b24 : (List Stmt)) (d24 : (List PySem.Expr)) (r24 : (Option PySem.Expr)) (t24 : (List TypeParam)) (s24 : Scope) (u24 : (Option Scope)) (v24 : Str) (q24 : Pos) (_ : some (Stmt.FunctionDef n24 p24 b24 d24 r24 t24 s24 u24 v24 q24) = cellAt 21)
    (n25 : Str) (p25 : Arguments) (b25 : (List Stmt)) (d25 : (List PySem.Expr)) (r25 : (Option PySem.Expr)) (t25 : (List TypeParam)) (s25 : Scope) (u25 : (Option Scope)) (v25 : Str) (q25 : Pos) (_ : some (Stmt.FunctionDef n25 p25 b25 d25 r25 t25 s25 u25 v25 q25) = cellAt 22)
    (n26 : Str) (p26 : Arguments) (b26 : (List Stmt)) (d26 : (List PySem.Expr)) (r26 : (Option PySem.Expr)) (t26 : (List TypeParam)) (s26 : Scope) (u26 : (Option Scope)) (v26 : Str) (q26 : Pos) (_ : some (Stmt.FunctionDef n26 p26 b26 d26 r26 t26 s26 u26 v26 q26) = cellAt 23)
    (n27 : Str) (p27 : Arguments) (b27 : (List Stmt)) (d27 : (List PySem.Expr)) (r27 : (Option PySem.Expr)) (t27 : (List TypeParam)) (s27 : Scope) (u27 : (Option Scope)) (v27 : Str) (q27 : Pos) (_ : some (Stmt.FunctionDef n27 p27 b27 d27 r27 t27 s27 u27 v27 q27) = cellAt 24), Params → Frag)
    _ _ _ _ _ _ _ _ _ _ rfl _ _ _ _ _ _ _ _ _ _ rfl _ _ _ _ _ _ _ _ _ _ rfl _ _ _ _ _ _ _ _ _ _ rfl _ _ _ _ _ _ _ _ _ _ rfl _ _ _ _ _ _ _ _ _ _ rfl _ _ _ _ _ _ _ _ _ _ rfl _ _ _ _ _ _ _ _ _ _ rfl _ _ _ _ _ _ _ _ _ _ rfl _ _ _ _ _ _ _ _ _ _ rfl _ _ _ _ _ _ _ _ _ _ rfl _ _ _ _ _ _ _ _ _ _ rfl _ _ _ _ _ _ _ _ _ _ rfl _ _ _ _ _ _ _ _ _ _ rfl _ _ _ _ _ _ _ _ _ _ rfl _ _ _ _ _ _ _ _ _ _ rfl _ _ _ _ _ _ _ _ _ _ rfl _ _ _ _ _ _ _ _ _ _ rfl _ _ _ _ _ _ _ _ _ _ rfl _ _ _ _ _ _ _ _ _ _ rfl _ _ _ _ _ _ _ _ _ _ rfl _ _ _ _ _ _ _ _ _ _ rfl _ _ _ _ _ _ _ _ _ _ rfl _ _ _ _ _ _ _ _ _ _ rfl _ _ _ _ _ _ _ _ _ _ rfl _ _ _ _ _ _ _ _ _ _ rfl _ _ _ _ _ _ _ _ _ _ rfl _ _ _ _ _ _ _ _ _ _ rfl
  exact fun n0 p0 b0 d0 r0 t0 s0 u0 v0 q0 _ n1 p1 b1 d1 r1 t1 s1 u1 v1 q1 _ n2 p2 b2 d2 r2 t2 s2 u2 v2 q2 _ n3 p3 b3 d3 r3 t3 s3 u3 v3 q3 _ n4 p4 b4 d4 r4 t4 s4 u4 v4 q4 _ n5 p5 b5 d5 r5 t5 s5 u5 v5 q5 _ n6 p6 b6 d6 r6 t6 s6 u6 v6 q6 _ n7 p7 b7 d7 r7 t7 s7 u7 v7 q7 _ n8 p8 b8 d8 r8 t8 s8 u8 v8 q8 _ n9 p9 b9 d9 r9 t9 s9 u9 v9 q9 _ n10 p10 b10 d10 r10 t10 s10 u10 v10 q10 _ n11 p11 b11 d11 r11 t11 s11 u11 v11 q11 _ n12 p12 b12 d12 r12 t12 s12 u12 v12 q12 _ n13 p13 b13 d13 r13 t13 s13 u13 v13 q13 _ n14 p14 b14 d14 r14 t14 s14 u14 v14 q14 _ n15 p15 b15 d15 r15 t15 s15 u15 v15 q15 _ n16 p16 b16 d16 r16 t16 s16 u16 v16 q16 _ n17 p17 b17 d17 r17 t17 s17 u17 v17 q17 _ n18 p18 b18 d18 r18 t18 s18 u18 v18 q18 _ n19 p19 b19 d19 r19 t19 s19 u19 v19 q19 _ n20 p20 b20 d20 r20 t20 s20 u20 v20 q20 _ n21 p21 b21 d21 r21 t21 s21 u21 v21 q21 _ n22 p22 b22 d22 r22 t22 s22 u22 v22 q22 _ n23 p23 b23 d23 r23 t23 s23 u23 v23 q23 _ n24 p24 b24 d24 r24 t24 s24 u24 v24 q24 _ n25 p25 b25 d25 r25 t25 s25 u25 v25 q25 _ n26 p26 b26 d26 r26 t26 s26 u26 v26 q26 _ n27 p27 b27 d27 r27 t27 s27 u27 v27 q27 _ => fun P =>
    @List.cons (Nat × Obj) (@Prod.mk Nat Obj (nat_lit 2) { cls := PySem.Value.none, dict := @Option.none Nat, data := PySem.Data.dict #[{ hash := PySem.PyData.keyHash P (PySem.Str.ofString "type.__subclasses__.Exception.0"), key := PySem.Value.str (PySem.Str.ofString "type.__subclasses__.Exception.0") (215 : Nat), val := PySem.Value.int 31 (0 : Nat) }, { hash := PySem.PyData.keyHash P (PySem.Str.ofString "type.__subclasses__.Exception.n"), key := PySem.Value.str (PySem.Str.ofString "type.__subclasses__.Exception.n") (216 : Nat), val := PySem.Value.int 1 (0 : Nat) }] (2 : Nat) }) <|
    @List.cons (Nat × Obj) (@Prod.mk Nat Obj (nat_lit 3) { cls := PySem.Value.type "dict", dict := @Option.none Nat, data := PySem.Data.dict #[{ hash := PySem.PyData.keyHash P (PySem.Str.ofString "__name__"), key := PySem.Value.str (PySem.Str.ofString "__name__") (165 : Nat), val := PySem.Value.str (PySem.Str.ofString "law_pf0336_01") (447 : Nat) }, { hash := PySem.PyData.keyHash P (PySem.Str.ofString "__doc__"), key := PySem.Value.str (PySem.Str.ofString "__doc__") (166 : Nat), val := PySem.Value.none }, { hash := PySem.PyData.keyHash P (PySem.Str.ofString "__package__"), key := PySem.Value.str (PySem.Str.ofString "__package__") (167 : Nat), val := PySem.Value.none }, { hash := PySem.PyData.keyHash P (PySem.Str.ofString "__loader__"), key := PySem.Value.str (PySem.Str.ofString "__loader__") (168 : Nat), val := PySem.Value.builtin "__main__.__loader__#opaque" }, { hash := PySem.PyData.keyHash P (PySem.Str.ofString "__spec__"), key := PySem.Value.str (PySem.Str.ofString "__spec__") (169 : Nat), val := PySem.Value.none }, { hash := PySem.PyData.keyHash P (PySem.Str.ofString "__annotations__"), key := PySem.Value.str (PySem.Str.ofString "__annotations__") (170 : Nat), val := PySem.Value.ref (6 : Nat) }, { hash := PySem.PyData.keyHash P (PySem.Str.ofString "__builtins__"), key := PySem.Value.str (PySem.Str.ofString "__builtins__") (171 : Nat), val := PySem.Value.ref (4 : Nat) }, { hash := PySem.PyData.keyHash P (PySem.Str.ofString "__file__"), key := PySem.Value.str (PySem.Str.ofString "__file__") (173 : Nat), val := PySem.Value.str (PySem.Str.ofString "/claim/cut.py") (172 : Nat) }, { hash := PySem.PyData.keyHash P (PySem.Str.ofString "__cached__"), key := PySem.Value.str (PySem.Str.ofString "__cached__") (174 : Nat), val := PySem.Value.none }, { hash := PySem.PyData.keyHash P (PySem.Str.ofString "WallFault"), key := PySem.Value.str (PySem.Str.ofString "WallFault") (218 : Nat), val := PySem.Value.ref (31 : Nat) }, { hash := PySem.PyData.keyHash P (PySem.Str.ofString "Misused"), key := PySem.Value.str (PySem.Str.ofString "Misused") (234 : Nat), val := PySem.Value.ref (44 : Nat) }, { hash := PySem.PyData.keyHash P (PySem.Str.ofString "Refused"), key := PySem.Value.str (PySem.Str.ofString "Refused") (260 : Nat), val := PySem.Value.ref (63 : Nat) }, { hash := PySem.PyData.keyHash P (PySem.Str.ofString "words_of"), key := PySem.Value.str (PySem.Str.ofString "words_of") (268 : Nat), val := PySem.Value.ref (72 : Nat) }, { hash := PySem.PyData.keyHash P (PySem.Str.ofString "refused"), key := PySem.Value.str (PySem.Str.ofString "refused") (275 : Nat), val := PySem.Value.ref (79 : Nat) }, { hash := PySem.PyData.keyHash P (PySem.Str.ofString "Element"), key := PySem.Value.str (PySem.Str.ofString "Element") (314 : Nat), val := PySem.Value.ref (97 : Nat) }, { hash := PySem.PyData.keyHash P (PySem.Str.ofString "is_live"), key := PySem.Value.str (PySem.Str.ofString "is_live") (322 : Nat), val := PySem.Value.ref (108 : Nat) }, { hash := PySem.PyData.keyHash P (PySem.Str.ofString "place_in"), key := PySem.Value.str (PySem.Str.ofString "place_in") (333 : Nat), val := PySem.Value.ref (115 : Nat) }, { hash := PySem.PyData.keyHash P (PySem.Str.ofString "place_of_box"), key := PySem.Value.str (PySem.Str.ofString "place_of_box") (342 : Nat), val := PySem.Value.ref (122 : Nat) }, { hash := PySem.PyData.keyHash P (PySem.Str.ofString "SpanStore"), key := PySem.Value.str (PySem.Str.ofString "SpanStore") (434 : Nat), val := PySem.Value.ref (188 : Nat) }, { hash := PySem.PyData.keyHash P (PySem.Str.ofString "meeting"), key := PySem.Value.str (PySem.Str.ofString "meeting") (446 : Nat), val := PySem.Value.ref (199 : Nat) }, { hash := PySem.PyData.keyHash P (PySem.Str.ofString "_law_digit"), key := PySem.Value.str (PySem.Str.ofString "_law_digit") (456 : Nat), val := PySem.Value.ref (206 : Nat) }, { hash := PySem.PyData.keyHash P (PySem.Str.ofString "_law_lives"), key := PySem.Value.str (PySem.Str.ofString "_law_lives") (464 : Nat), val := PySem.Value.ref (213 : Nat) }, { hash := PySem.PyData.keyHash P (PySem.Str.ofString "_law_near"), key := PySem.Value.str (PySem.Str.ofString "_law_near") (472 : Nat), val := PySem.Value.ref (220 : Nat) }, { hash := PySem.PyData.keyHash P (PySem.Str.ofString "_law_put"), key := PySem.Value.str (PySem.Str.ofString "_law_put") (478 : Nat), val := PySem.Value.ref (225 : Nat) }, { hash := PySem.PyData.keyHash P (PySem.Str.ofString "_law_drop"), key := PySem.Value.str (PySem.Str.ofString "_law_drop") (484 : Nat), val := PySem.Value.ref (230 : Nat) }, { hash := PySem.PyData.keyHash P (PySem.Str.ofString "_law_shown"), key := PySem.Value.str (PySem.Str.ofString "_law_shown") (491 : Nat), val := PySem.Value.ref (237 : Nat) }, { hash := PySem.PyData.keyHash P (PySem.Str.ofString "_law_told"), key := PySem.Value.str (PySem.Str.ofString "_law_told") (502 : Nat), val := PySem.Value.ref (244 : Nat) }, { hash := PySem.PyData.keyHash P (PySem.Str.ofString "_law_first"), key := PySem.Value.str (PySem.Str.ofString "_law_first") (509 : Nat), val := PySem.Value.ref (251 : Nat) }, { hash := PySem.PyData.keyHash P (PySem.Str.ofString "_law_agrees"), key := PySem.Value.str (PySem.Str.ofString "_law_agrees") (515 : Nat), val := PySem.Value.ref (256 : Nat) }, { hash := PySem.PyData.keyHash P (PySem.Str.ofString "_law_found"), key := PySem.Value.str (PySem.Str.ofString "_law_found") (521 : Nat), val := PySem.Value.ref (261 : Nat) }, { hash := PySem.PyData.keyHash P (PySem.Str.ofString "law"), key := PySem.Value.str (PySem.Str.ofString "law") (527 : Nat), val := PySem.Value.ref (266 : Nat) }] (31 : Nat) }) <|
    @List.cons (Nat × Obj) (@Prod.mk Nat Obj (nat_lit 15) { cls := PySem.Value.type "tuple", dict := @Option.none Nat, data := PySem.Data.seq #[PySem.Value.type "Exception"] }) <|
    @List.cons (Nat × Obj) (@Prod.mk Nat Obj (nat_lit 22) { cls := PySem.Value.type "tuple", dict := @Option.none Nat, data := PySem.Data.seq #[] }) <|
    @List.cons (Nat × Obj) (@Prod.mk Nat Obj (nat_lit 24) { cls := PySem.Value.type "tuple", dict := @Option.none Nat, data := PySem.Data.seq #[PySem.Value.str (PySem.Str.ofString "self") (204 : Nat), PySem.Value.str (PySem.Str.ofString "why") (205 : Nat)] }) <|
    @List.cons (Nat × Obj) (@Prod.mk Nat Obj (nat_lit 25) { cls := PySem.Value.type "tuple", dict := @Option.none Nat, data := PySem.Data.seq #[] }) <|
    @List.cons (Nat × Obj) (@Prod.mk Nat Obj (nat_lit 27) { cls := PySem.Value.type "code", dict := @Option.none Nat, data := PySem.Data.fields #[PySem.Value.str (PySem.Str.ofString "__init__") (201 : Nat), PySem.Value.str (PySem.Str.ofString "WallFault.__init__") (202 : Nat), PySem.Value.str (PySem.Str.ofString "/claim/cut.py") (203 : Nat), PySem.Value.int 4 (0 : Nat), PySem.Value.int 2 (0 : Nat), PySem.Value.int 0 (0 : Nat), PySem.Value.int 0 (0 : Nat), PySem.Value.int 3 (0 : Nat), PySem.Value.ref (22 : Nat), PySem.Value.bool true, PySem.Value.int 181 (0 : Nat), PySem.Value.ref (23 : Nat), PySem.Value.none, PySem.Value.ref (24 : Nat), PySem.Value.ref (25 : Nat), PySem.Value.ref (26 : Nat), PySem.Value.int 206 (0 : Nat), PySem.Value.int 4 (0 : Nat), PySem.Value.str (PySem.Str.ofString "/claim/cut.py") (207 : Nat)] }) <|
    @List.cons (Nat × Obj) (@Prod.mk Nat Obj (nat_lit 28) { cls := PySem.Value.type "function", dict := @Option.none Nat, data := PySem.Data.func { name := PySem.Str.ofString "__init__", qualname := PySem.Str.ofString "WallFault.__init__", params := p0, body := PySem.FuncBody.stmts b0, scope := s0, globals := (3 : Nat), closure := [], defaults := PySem.Value.none, kwdefaults := PySem.Value.none, pyModule := PySem.Value.str (PySem.Str.ofString "siftwall.faults") (187 : Nat), code := PySem.Value.ref (27 : Nat) } }) <|
    @List.cons (Nat × Obj) (@Prod.mk Nat Obj (nat_lit 29) { cls := PySem.Value.type "tuple", dict := @Option.none Nat, data := PySem.Data.seq #[PySem.Value.str (PySem.Str.ofString "at") (209 : Nat), PySem.Value.str (PySem.Str.ofString "why") (210 : Nat)] }) <|
    @List.cons (Nat × Obj) (@Prod.mk Nat Obj (nat_lit 30) { cls := PySem.Value.type "dict", dict := @Option.none Nat, data := PySem.Data.dict #[{ hash := PySem.PyData.keyHash P (PySem.Str.ofString "__module__"), key := PySem.Value.str (PySem.Str.ofString "__module__") (196 : Nat), val := PySem.Value.str (PySem.Str.ofString "siftwall.faults") (187 : Nat) }, { hash := PySem.PyData.keyHash P (PySem.Str.ofString "__firstlineno__"), key := PySem.Value.str (PySem.Str.ofString "__firstlineno__") (200 : Nat), val := PySem.Value.int 2 (199 : Nat) }, { hash := PySem.PyData.keyHash P (PySem.Str.ofString "__init__"), key := PySem.Value.str (PySem.Str.ofString "__init__") (208 : Nat), val := PySem.Value.ref (28 : Nat) }, { hash := PySem.PyData.keyHash P (PySem.Str.ofString "__static_attributes__"), key := PySem.Value.str (PySem.Str.ofString "__static_attributes__") (211 : Nat), val := PySem.Value.ref (29 : Nat) }, { hash := PySem.PyData.keyHash P (PySem.Str.ofString "__weakref__"), key := PySem.Value.str (PySem.Str.ofString "__weakref__") (213 : Nat), val := PySem.Value.ref (32 : Nat) }, { hash := PySem.PyData.keyHash P (PySem.Str.ofString "__doc__"), key := PySem.Value.str (PySem.Str.ofString "__doc__") (214 : Nat), val := PySem.Value.none }] (3 : Nat) }) <|
    @List.cons (Nat × Obj) (@Prod.mk Nat Obj (nat_lit 31) { cls := PySem.Value.type "type", dict := @Option.none Nat, data := PySem.Data.cls { name := PySem.Str.ofString "WallFault", bases := [PySem.Value.type "Exception"], mro := [PySem.Value.ref (31 : Nat), PySem.Value.type "Exception", PySem.Value.type "BaseException", PySem.Value.type "object"], ns := (30 : Nat), qualname := PySem.Str.ofString "WallFault", subclasses := [PySem.Value.ref (44 : Nat), PySem.Value.ref (63 : Nat)] }, slots := #[some (PySem.Value.ref (15 : Nat)), none, some (PySem.Value.str (PySem.Str.ofString "WallFault") (189 : Nat)), some (PySem.Value.str (PySem.Str.ofString "WallFault") (197 : Nat)), some (PySem.Value.builtin "Exception.__new__"), some (PySem.Value.bool true)] }) <|
    @List.cons (Nat × Obj) (@Prod.mk Nat Obj (nat_lit 32) { cls := PySem.Value.type "getset_descriptor", dict := @Option.none Nat, data := PySem.Data.fields #[PySem.Value.str (PySem.Str.ofString "__weakref__") (212 : Nat), PySem.Value.ref (31 : Nat), PySem.Value.builtin "ExceptionGroup.__weakref__", PySem.Value.none] }) <|
    @List.cons (Nat × Obj) (@Prod.mk Nat Obj (nat_lit 35) { cls := PySem.Value.type "tuple", dict := @Option.none Nat, data := PySem.Data.seq #[PySem.Value.ref (31 : Nat)] }) <|
    @List.cons (Nat × Obj) (@Prod.mk Nat Obj (nat_lit 42) { cls := PySem.Value.type "tuple", dict := @Option.none Nat, data := PySem.Data.seq #[] }) <|
    @List.cons (Nat × Obj) (@Prod.mk Nat Obj (nat_lit 43) { cls := PySem.Value.type "dict", dict := @Option.none Nat, data := PySem.Data.dict #[{ hash := PySem.PyData.keyHash P (PySem.Str.ofString "__module__"), key := PySem.Value.str (PySem.Str.ofString "__module__") (226 : Nat), val := PySem.Value.str (PySem.Str.ofString "siftwall.faults") (187 : Nat) }, { hash := PySem.PyData.keyHash P (PySem.Str.ofString "__firstlineno__"), key := PySem.Value.str (PySem.Str.ofString "__firstlineno__") (230 : Nat), val := PySem.Value.int 8 (229 : Nat) }, { hash := PySem.PyData.keyHash P (PySem.Str.ofString "__static_attributes__"), key := PySem.Value.str (PySem.Str.ofString "__static_attributes__") (231 : Nat), val := PySem.Value.ref (42 : Nat) }, { hash := PySem.PyData.keyHash P (PySem.Str.ofString "__doc__"), key := PySem.Value.str (PySem.Str.ofString "__doc__") (232 : Nat), val := PySem.Value.none }] (2 : Nat) }) <|
    @List.cons (Nat × Obj) (@Prod.mk Nat Obj (nat_lit 44) { cls := PySem.Value.type "type", dict := @Option.none Nat, data := PySem.Data.cls { name := PySem.Str.ofString "Misused", bases := [PySem.Value.ref (31 : Nat)], mro := [PySem.Value.ref (44 : Nat), PySem.Value.ref (31 : Nat), PySem.Value.type "Exception", PySem.Value.type "BaseException", PySem.Value.type "object"], ns := (43 : Nat), qualname := PySem.Str.ofString "Misused" }, slots := #[some (PySem.Value.ref (35 : Nat)), none, some (PySem.Value.str (PySem.Str.ofString "Misused") (219 : Nat)), some (PySem.Value.str (PySem.Str.ofString "Misused") (227 : Nat)), some (PySem.Value.builtin "Exception.__new__"), some (PySem.Value.bool true)] }) <|
    @List.cons (Nat × Obj) (@Prod.mk Nat Obj (nat_lit 47) { cls := PySem.Value.type "tuple", dict := @Option.none Nat, data := PySem.Data.seq #[PySem.Value.ref (31 : Nat)] }) <|
    @List.cons (Nat × Obj) (@Prod.mk Nat Obj (nat_lit 54) { cls := PySem.Value.type "tuple", dict := @Option.none Nat, data := PySem.Data.seq #[] }) <|
    @List.cons (Nat × Obj) (@Prod.mk Nat Obj (nat_lit 56) { cls := PySem.Value.type "tuple", dict := @Option.none Nat, data := PySem.Data.seq #[PySem.Value.str (PySem.Str.ofString "self") (250 : Nat), PySem.Value.str (PySem.Str.ofString "code") (251 : Nat), PySem.Value.str (PySem.Str.ofString "why") (252 : Nat)] }) <|
    @List.cons (Nat × Obj) (@Prod.mk Nat Obj (nat_lit 57) { cls := PySem.Value.type "tuple", dict := @Option.none Nat, data := PySem.Data.seq #[] }) <|
    @List.cons (Nat × Obj) (@Prod.mk Nat Obj (nat_lit 59) { cls := PySem.Value.type "code", dict := @Option.none Nat, data := PySem.Data.fields #[PySem.Value.str (PySem.Str.ofString "__init__") (247 : Nat), PySem.Value.str (PySem.Str.ofString "Refused.__init__") (248 : Nat), PySem.Value.str (PySem.Str.ofString "/claim/cut.py") (249 : Nat), PySem.Value.int 12 (0 : Nat), PySem.Value.int 3 (0 : Nat), PySem.Value.int 0 (0 : Nat), PySem.Value.int 0 (0 : Nat), PySem.Value.int 3 (0 : Nat), PySem.Value.ref (54 : Nat), PySem.Value.bool true, PySem.Value.int 181 (0 : Nat), PySem.Value.ref (55 : Nat), PySem.Value.none, PySem.Value.ref (56 : Nat), PySem.Value.ref (57 : Nat), PySem.Value.ref (58 : Nat), PySem.Value.int 253 (0 : Nat), PySem.Value.int 12 (0 : Nat), PySem.Value.str (PySem.Str.ofString "/claim/cut.py") (254 : Nat)] }) <|
    @List.cons (Nat × Obj) (@Prod.mk Nat Obj (nat_lit 60) { cls := PySem.Value.type "function", dict := @Option.none Nat, data := PySem.Data.func { name := PySem.Str.ofString "__init__", qualname := PySem.Str.ofString "Refused.__init__", params := p1, body := PySem.FuncBody.stmts b1, scope := s1, globals := (3 : Nat), closure := [], defaults := PySem.Value.none, kwdefaults := PySem.Value.none, pyModule := PySem.Value.str (PySem.Str.ofString "siftwall.faults") (187 : Nat), code := PySem.Value.ref (59 : Nat) } }) <|
    @List.cons (Nat × Obj) (@Prod.mk Nat Obj (nat_lit 61) { cls := PySem.Value.type "tuple", dict := @Option.none Nat, data := PySem.Data.seq #[PySem.Value.str (PySem.Str.ofString "code") (256 : Nat)] }) <|
    @List.cons (Nat × Obj) (@Prod.mk Nat Obj (nat_lit 62) { cls := PySem.Value.type "dict", dict := @Option.none Nat, data := PySem.Data.dict #[{ hash := PySem.PyData.keyHash P (PySem.Str.ofString "__module__"), key := PySem.Value.str (PySem.Str.ofString "__module__") (242 : Nat), val := PySem.Value.str (PySem.Str.ofString "siftwall.faults") (187 : Nat) }, { hash := PySem.PyData.keyHash P (PySem.Str.ofString "__firstlineno__"), key := PySem.Value.str (PySem.Str.ofString "__firstlineno__") (246 : Nat), val := PySem.Value.int 10 (245 : Nat) }, { hash := PySem.PyData.keyHash P (PySem.Str.ofString "__init__"), key := PySem.Value.str (PySem.Str.ofString "__init__") (255 : Nat), val := PySem.Value.ref (60 : Nat) }, { hash := PySem.PyData.keyHash P (PySem.Str.ofString "__static_attributes__"), key := PySem.Value.str (PySem.Str.ofString "__static_attributes__") (257 : Nat), val := PySem.Value.ref (61 : Nat) }, { hash := PySem.PyData.keyHash P (PySem.Str.ofString "__doc__"), key := PySem.Value.str (PySem.Str.ofString "__doc__") (258 : Nat), val := PySem.Value.none }] (2 : Nat) }) <|
    @List.cons (Nat × Obj) (@Prod.mk Nat Obj (nat_lit 63) { cls := PySem.Value.type "type", dict := @Option.none Nat, data := PySem.Data.cls { name := PySem.Str.ofString "Refused", bases := [PySem.Value.ref (31 : Nat)], mro := [PySem.Value.ref (63 : Nat), PySem.Value.ref (31 : Nat), PySem.Value.type "Exception", PySem.Value.type "BaseException", PySem.Value.type "object"], ns := (62 : Nat), qualname := PySem.Str.ofString "Refused" }, slots := #[some (PySem.Value.ref (47 : Nat)), none, some (PySem.Value.str (PySem.Str.ofString "Refused") (235 : Nat)), some (PySem.Value.str (PySem.Str.ofString "Refused") (243 : Nat)), some (PySem.Value.builtin "Exception.__new__"), some (PySem.Value.bool true)] }) <|
    @List.cons (Nat × Obj) (@Prod.mk Nat Obj (nat_lit 66) { cls := PySem.Value.type "tuple", dict := @Option.none Nat, data := PySem.Data.seq #[] }) <|
    @List.cons (Nat × Obj) (@Prod.mk Nat Obj (nat_lit 68) { cls := PySem.Value.type "tuple", dict := @Option.none Nat, data := PySem.Data.seq #[PySem.Value.str (PySem.Str.ofString "code") (264 : Nat), PySem.Value.str (PySem.Str.ofString "words") (265 : Nat)] }) <|
    @List.cons (Nat × Obj) (@Prod.mk Nat Obj (nat_lit 69) { cls := PySem.Value.type "tuple", dict := @Option.none Nat, data := PySem.Data.seq #[] }) <|
    @List.cons (Nat × Obj) (@Prod.mk Nat Obj (nat_lit 71) { cls := PySem.Value.type "code", dict := @Option.none Nat, data := PySem.Data.fields #[PySem.Value.str (PySem.Str.ofString "words_of") (261 : Nat), PySem.Value.str (PySem.Str.ofString "words_of") (262 : Nat), PySem.Value.str (PySem.Str.ofString "/claim/cut.py") (263 : Nat), PySem.Value.int 15 (0 : Nat), PySem.Value.int 1 (0 : Nat), PySem.Value.int 0 (0 : Nat), PySem.Value.int 0 (0 : Nat), PySem.Value.int 3 (0 : Nat), PySem.Value.ref (66 : Nat), PySem.Value.bool true, PySem.Value.int 181 (0 : Nat), PySem.Value.ref (67 : Nat), PySem.Value.none, PySem.Value.ref (68 : Nat), PySem.Value.ref (69 : Nat), PySem.Value.ref (70 : Nat), PySem.Value.int 266 (0 : Nat), PySem.Value.int 15 (0 : Nat), PySem.Value.str (PySem.Str.ofString "/claim/cut.py") (267 : Nat)] }) <|
    @List.cons (Nat × Obj) (@Prod.mk Nat Obj (nat_lit 72) { cls := PySem.Value.type "function", dict := @Option.none Nat, data := PySem.Data.func { name := PySem.Str.ofString "words_of", qualname := PySem.Str.ofString "words_of", params := p2, body := PySem.FuncBody.stmts b2, scope := s2, globals := (3 : Nat), closure := [], defaults := PySem.Value.none, kwdefaults := PySem.Value.none, pyModule := PySem.Value.str (PySem.Str.ofString "siftwall.faults") (187 : Nat), code := PySem.Value.ref (71 : Nat) } }) <|
    @List.cons (Nat × Obj) (@Prod.mk Nat Obj (nat_lit 73) { cls := PySem.Value.type "tuple", dict := @Option.none Nat, data := PySem.Data.seq #[] }) <|
    @List.cons (Nat × Obj) (@Prod.mk Nat Obj (nat_lit 75) { cls := PySem.Value.type "tuple", dict := @Option.none Nat, data := PySem.Data.seq #[PySem.Value.str (PySem.Str.ofString "code") (272 : Nat)] }) <|
    @List.cons (Nat × Obj) (@Prod.mk Nat Obj (nat_lit 76) { cls := PySem.Value.type "tuple", dict := @Option.none Nat, data := PySem.Data.seq #[] }) <|
    @List.cons (Nat × Obj) (@Prod.mk Nat Obj (nat_lit 78) { cls := PySem.Value.type "code", dict := @Option.none Nat, data := PySem.Data.fields #[PySem.Value.str (PySem.Str.ofString "refused") (269 : Nat), PySem.Value.str (PySem.Str.ofString "refused") (270 : Nat), PySem.Value.str (PySem.Str.ofString "/claim/cut.py") (271 : Nat), PySem.Value.int 20 (0 : Nat), PySem.Value.int 1 (0 : Nat), PySem.Value.int 0 (0 : Nat), PySem.Value.int 0 (0 : Nat), PySem.Value.int 3 (0 : Nat), PySem.Value.ref (73 : Nat), PySem.Value.bool true, PySem.Value.int 181 (0 : Nat), PySem.Value.ref (74 : Nat), PySem.Value.none, PySem.Value.ref (75 : Nat), PySem.Value.ref (76 : Nat), PySem.Value.ref (77 : Nat), PySem.Value.int 273 (0 : Nat), PySem.Value.int 20 (0 : Nat), PySem.Value.str (PySem.Str.ofString "/claim/cut.py") (274 : Nat)] }) <|
    @List.cons (Nat × Obj) (@Prod.mk Nat Obj (nat_lit 79) { cls := PySem.Value.type "function", dict := @Option.none Nat, data := PySem.Data.func { name := PySem.Str.ofString "refused", qualname := PySem.Str.ofString "refused", params := p3, body := PySem.FuncBody.stmts b3, scope := s3, globals := (3 : Nat), closure := [], defaults := PySem.Value.none, kwdefaults := PySem.Value.none, pyModule := PySem.Value.str (PySem.Str.ofString "siftwall.faults") (187 : Nat), code := PySem.Value.ref (78 : Nat) } }) <|
    @List.cons (Nat × Obj) (@Prod.mk Nat Obj (nat_lit 87) { cls := PySem.Value.type "tuple", dict := @Option.none Nat, data := PySem.Data.seq #[PySem.Value.int 0 (290 : Nat)] }) <|
    @List.cons (Nat × Obj) (@Prod.mk Nat Obj (nat_lit 88) { cls := PySem.Value.type "tuple", dict := @Option.none Nat, data := PySem.Data.seq #[] }) <|
    @List.cons (Nat × Obj) (@Prod.mk Nat Obj (nat_lit 90) { cls := PySem.Value.type "tuple", dict := @Option.none Nat, data := PySem.Data.seq #[PySem.Value.str (PySem.Str.ofString "self") (294 : Nat), PySem.Value.str (PySem.Str.ofString "box") (295 : Nat), PySem.Value.str (PySem.Str.ofString "data") (296 : Nat), PySem.Value.str (PySem.Str.ofString "until") (297 : Nat)] }) <|
    @List.cons (Nat × Obj) (@Prod.mk Nat Obj (nat_lit 91) { cls := PySem.Value.type "tuple", dict := @Option.none Nat, data := PySem.Data.seq #[] }) <|
    @List.cons (Nat × Obj) (@Prod.mk Nat Obj (nat_lit 93) { cls := PySem.Value.type "code", dict := @Option.none Nat, data := PySem.Data.fields #[PySem.Value.str (PySem.Str.ofString "__init__") (291 : Nat), PySem.Value.str (PySem.Str.ofString "Element.__init__") (292 : Nat), PySem.Value.str (PySem.Str.ofString "/claim/cut.py") (293 : Nat), PySem.Value.int 25 (0 : Nat), PySem.Value.int 4 (0 : Nat), PySem.Value.int 0 (0 : Nat), PySem.Value.int 0 (0 : Nat), PySem.Value.int 3 (0 : Nat), PySem.Value.ref (88 : Nat), PySem.Value.bool true, PySem.Value.int 181 (0 : Nat), PySem.Value.ref (89 : Nat), PySem.Value.none, PySem.Value.ref (90 : Nat), PySem.Value.ref (91 : Nat), PySem.Value.ref (92 : Nat), PySem.Value.int 298 (0 : Nat), PySem.Value.int 25 (0 : Nat), PySem.Value.str (PySem.Str.ofString "/claim/cut.py") (299 : Nat)] }) <|
    @List.cons (Nat × Obj) (@Prod.mk Nat Obj (nat_lit 94) { cls := PySem.Value.type "function", dict := @Option.none Nat, data := PySem.Data.func { name := PySem.Str.ofString "__init__", qualname := PySem.Str.ofString "Element.__init__", params := p4, body := PySem.FuncBody.stmts b4, scope := s4, globals := (3 : Nat), closure := [], defaults := PySem.Value.ref (87 : Nat), kwdefaults := PySem.Value.none, pyModule := PySem.Value.str (PySem.Str.ofString "siftwall.stores") (276 : Nat), code := PySem.Value.ref (93 : Nat) } }) <|
    @List.cons (Nat × Obj) (@Prod.mk Nat Obj (nat_lit 95) { cls := PySem.Value.type "tuple", dict := @Option.none Nat, data := PySem.Data.seq #[PySem.Value.str (PySem.Str.ofString "box") (301 : Nat), PySem.Value.str (PySem.Str.ofString "cells") (302 : Nat), PySem.Value.str (PySem.Str.ofString "comment") (303 : Nat), PySem.Value.str (PySem.Str.ofString "data") (304 : Nat), PySem.Value.str (PySem.Str.ofString "timeout") (305 : Nat), PySem.Value.str (PySem.Str.ofString "until") (306 : Nat)] }) <|
    @List.cons (Nat × Obj) (@Prod.mk Nat Obj (nat_lit 96) { cls := PySem.Value.type "dict", dict := @Option.none Nat, data := PySem.Data.dict #[{ hash := PySem.PyData.keyHash P (PySem.Str.ofString "__module__"), key := PySem.Value.str (PySem.Str.ofString "__module__") (285 : Nat), val := PySem.Value.str (PySem.Str.ofString "siftwall.stores") (276 : Nat) }, { hash := PySem.PyData.keyHash P (PySem.Str.ofString "__firstlineno__"), key := PySem.Value.str (PySem.Str.ofString "__firstlineno__") (289 : Nat), val := PySem.Value.int 23 (288 : Nat) }, { hash := PySem.PyData.keyHash P (PySem.Str.ofString "__init__"), key := PySem.Value.str (PySem.Str.ofString "__init__") (300 : Nat), val := PySem.Value.ref (94 : Nat) }, { hash := PySem.PyData.keyHash P (PySem.Str.ofString "__static_attributes__"), key := PySem.Value.str (PySem.Str.ofString "__static_attributes__") (307 : Nat), val := PySem.Value.ref (95 : Nat) }, { hash := PySem.PyData.keyHash P (PySem.Str.ofString "__dict__"), key := PySem.Value.str (PySem.Str.ofString "__dict__") (309 : Nat), val := PySem.Value.ref (98 : Nat) }, { hash := PySem.PyData.keyHash P (PySem.Str.ofString "__weakref__"), key := PySem.Value.str (PySem.Str.ofString "__weakref__") (311 : Nat), val := PySem.Value.ref (99 : Nat) }, { hash := PySem.PyData.keyHash P (PySem.Str.ofString "__doc__"), key := PySem.Value.str (PySem.Str.ofString "__doc__") (312 : Nat), val := PySem.Value.none }] (4 : Nat) }) <|
    @List.cons (Nat × Obj) (@Prod.mk Nat Obj (nat_lit 97) { cls := PySem.Value.type "type", dict := @Option.none Nat, data := PySem.Data.cls { name := PySem.Str.ofString "Element", bases := [PySem.Value.type "object"], mro := [PySem.Value.ref (97 : Nat), PySem.Value.type "object"], ns := (96 : Nat), qualname := PySem.Str.ofString "Element" }, slots := #[none, none, some (PySem.Value.str (PySem.Str.ofString "Element") (278 : Nat)), some (PySem.Value.str (PySem.Str.ofString "Element") (286 : Nat)), some (PySem.Value.builtin "object.__new__"), some (PySem.Value.bool true)] }) <|
    @List.cons (Nat × Obj) (@Prod.mk Nat Obj (nat_lit 98) { cls := PySem.Value.type "getset_descriptor", dict := @Option.none Nat, data := PySem.Data.fields #[PySem.Value.str (PySem.Str.ofString "__dict__") (308 : Nat), PySem.Value.ref (97 : Nat), PySem.Value.builtin "function.__dict__", PySem.Value.builtin "function.__dict__#set"] }) <|
    @List.cons (Nat × Obj) (@Prod.mk Nat Obj (nat_lit 99) { cls := PySem.Value.type "getset_descriptor", dict := @Option.none Nat, data := PySem.Data.fields #[PySem.Value.str (PySem.Str.ofString "__weakref__") (310 : Nat), PySem.Value.ref (97 : Nat), PySem.Value.builtin "ExceptionGroup.__weakref__", PySem.Value.none] }) <|
    @List.cons (Nat × Obj) (@Prod.mk Nat Obj (nat_lit 102) { cls := PySem.Value.type "tuple", dict := @Option.none Nat, data := PySem.Data.seq #[] }) <|
    @List.cons (Nat × Obj) (@Prod.mk Nat Obj (nat_lit 104) { cls := PySem.Value.type "tuple", dict := @Option.none Nat, data := PySem.Data.seq #[PySem.Value.str (PySem.Str.ofString "element") (318 : Nat), PySem.Value.str (PySem.Str.ofString "now") (319 : Nat)] }) <|
    @List.cons (Nat × Obj) (@Prod.mk Nat Obj (nat_lit 105) { cls := PySem.Value.type "tuple", dict := @Option.none Nat, data := PySem.Data.seq #[] }) <|
    @List.cons (Nat × Obj) (@Prod.mk Nat Obj (nat_lit 107) { cls := PySem.Value.type "code", dict := @Option.none Nat, data := PySem.Data.fields #[PySem.Value.str (PySem.Str.ofString "is_live") (315 : Nat), PySem.Value.str (PySem.Str.ofString "is_live") (316 : Nat), PySem.Value.str (PySem.Str.ofString "/claim/cut.py") (317 : Nat), PySem.Value.int 32 (0 : Nat), PySem.Value.int 2 (0 : Nat), PySem.Value.int 0 (0 : Nat), PySem.Value.int 0 (0 : Nat), PySem.Value.int 3 (0 : Nat), PySem.Value.ref (102 : Nat), PySem.Value.bool true, PySem.Value.int 181 (0 : Nat), PySem.Value.ref (103 : Nat), PySem.Value.none, PySem.Value.ref (104 : Nat), PySem.Value.ref (105 : Nat), PySem.Value.ref (106 : Nat), PySem.Value.int 320 (0 : Nat), PySem.Value.int 32 (0 : Nat), PySem.Value.str (PySem.Str.ofString "/claim/cut.py") (321 : Nat)] }) <|
    @List.cons (Nat × Obj) (@Prod.mk Nat Obj (nat_lit 108) { cls := PySem.Value.type "function", dict := @Option.none Nat, data := PySem.Data.func { name := PySem.Str.ofString "is_live", qualname := PySem.Str.ofString "is_live", params := p5, body := PySem.FuncBody.stmts b5, scope := s5, globals := (3 : Nat), closure := [], defaults := PySem.Value.none, kwdefaults := PySem.Value.none, pyModule := PySem.Value.str (PySem.Str.ofString "siftwall.stores") (276 : Nat), code := PySem.Value.ref (107 : Nat) } }) <|
    @List.cons (Nat × Obj) (@Prod.mk Nat Obj (nat_lit 109) { cls := PySem.Value.type "tuple", dict := @Option.none Nat, data := PySem.Data.seq #[] }) <|
    @List.cons (Nat × Obj) (@Prod.mk Nat Obj (nat_lit 111) { cls := PySem.Value.type "tuple", dict := @Option.none Nat, data := PySem.Data.seq #[PySem.Value.str (PySem.Str.ofString "items") (326 : Nat), PySem.Value.str (PySem.Str.ofString "n") (327 : Nat), PySem.Value.str (PySem.Str.ofString "low") (328 : Nat), PySem.Value.str (PySem.Str.ofString "high") (329 : Nat), PySem.Value.str (PySem.Str.ofString "middle") (330 : Nat)] }) <|
    @List.cons (Nat × Obj) (@Prod.mk Nat Obj (nat_lit 112) { cls := PySem.Value.type "tuple", dict := @Option.none Nat, data := PySem.Data.seq #[] }) <|
    @List.cons (Nat × Obj) (@Prod.mk Nat Obj (nat_lit 114) { cls := PySem.Value.type "code", dict := @Option.none Nat, data := PySem.Data.fields #[PySem.Value.str (PySem.Str.ofString "place_in") (323 : Nat), PySem.Value.str (PySem.Str.ofString "place_in") (324 : Nat), PySem.Value.str (PySem.Str.ofString "/claim/cut.py") (325 : Nat), PySem.Value.int 34 (0 : Nat), PySem.Value.int 2 (0 : Nat), PySem.Value.int 0 (0 : Nat), PySem.Value.int 0 (0 : Nat), PySem.Value.int 3 (0 : Nat), PySem.Value.ref (109 : Nat), PySem.Value.bool true, PySem.Value.int 181 (0 : Nat), PySem.Value.ref (110 : Nat), PySem.Value.none, PySem.Value.ref (111 : Nat), PySem.Value.ref (112 : Nat), PySem.Value.ref (113 : Nat), PySem.Value.int 331 (0 : Nat), PySem.Value.int 34 (0 : Nat), PySem.Value.str (PySem.Str.ofString "/claim/cut.py") (332 : Nat)] }) <|
    @List.cons (Nat × Obj) (@Prod.mk Nat Obj (nat_lit 115) { cls := PySem.Value.type "function", dict := @Option.none Nat, data := PySem.Data.func { name := PySem.Str.ofString "place_in", qualname := PySem.Str.ofString "place_in", params := p6, body := PySem.FuncBody.stmts b6, scope := s6, globals := (3 : Nat), closure := [], defaults := PySem.Value.none, kwdefaults := PySem.Value.none, pyModule := PySem.Value.str (PySem.Str.ofString "siftwall.stores") (276 : Nat), code := PySem.Value.ref (114 : Nat) } }) <|
    @List.cons (Nat × Obj) (@Prod.mk Nat Obj (nat_lit 116) { cls := PySem.Value.type "tuple", dict := @Option.none Nat, data := PySem.Data.seq #[] }) <|
    @List.cons (Nat × Obj) (@Prod.mk Nat Obj (nat_lit 118) { cls := PySem.Value.type "tuple", dict := @Option.none Nat, data := PySem.Data.seq #[PySem.Value.str (PySem.Str.ofString "items") (337 : Nat), PySem.Value.str (PySem.Str.ofString "box") (338 : Nat), PySem.Value.str (PySem.Str.ofString "place") (339 : Nat)] }) <|
    @List.cons (Nat × Obj) (@Prod.mk Nat Obj (nat_lit 119) { cls := PySem.Value.type "tuple", dict := @Option.none Nat, data := PySem.Data.seq #[] }) <|
    @List.cons (Nat × Obj) (@Prod.mk Nat Obj (nat_lit 121) { cls := PySem.Value.type "code", dict := @Option.none Nat, data := PySem.Data.fields #[PySem.Value.str (PySem.Str.ofString "place_of_box") (334 : Nat), PySem.Value.str (PySem.Str.ofString "place_of_box") (335 : Nat), PySem.Value.str (PySem.Str.ofString "/claim/cut.py") (336 : Nat), PySem.Value.int 44 (0 : Nat), PySem.Value.int 2 (0 : Nat), PySem.Value.int 0 (0 : Nat), PySem.Value.int 0 (0 : Nat), PySem.Value.int 3 (0 : Nat), PySem.Value.ref (116 : Nat), PySem.Value.bool true, PySem.Value.int 181 (0 : Nat), PySem.Value.ref (117 : Nat), PySem.Value.none, PySem.Value.ref (118 : Nat), PySem.Value.ref (119 : Nat), PySem.Value.ref (120 : Nat), PySem.Value.int 340 (0 : Nat), PySem.Value.int 44 (0 : Nat), PySem.Value.str (PySem.Str.ofString "/claim/cut.py") (341 : Nat)] }) <|
    @List.cons (Nat × Obj) (@Prod.mk Nat Obj (nat_lit 122) { cls := PySem.Value.type "function", dict := @Option.none Nat, data := PySem.Data.func { name := PySem.Str.ofString "place_of_box", qualname := PySem.Str.ofString "place_of_box", params := p7, body := PySem.FuncBody.stmts b7, scope := s7, globals := (3 : Nat), closure := [], defaults := PySem.Value.none, kwdefaults := PySem.Value.none, pyModule := PySem.Value.str (PySem.Str.ofString "siftwall.stores") (276 : Nat), code := PySem.Value.ref (121 : Nat) } }) <|
    @List.cons (Nat × Obj) (@Prod.mk Nat Obj (nat_lit 130) { cls := PySem.Value.type "tuple", dict := @Option.none Nat, data := PySem.Data.seq #[] }) <|
    @List.cons (Nat × Obj) (@Prod.mk Nat Obj (nat_lit 132) { cls := PySem.Value.type "tuple", dict := @Option.none Nat, data := PySem.Data.seq #[PySem.Value.str (PySem.Str.ofString "self") (358 : Nat)] }) <|
    @List.cons (Nat × Obj) (@Prod.mk Nat Obj (nat_lit 133) { cls := PySem.Value.type "tuple", dict := @Option.none Nat, data := PySem.Data.seq #[] }) <|
    @List.cons (Nat × Obj) (@Prod.mk Nat Obj (nat_lit 135) { cls := PySem.Value.type "code", dict := @Option.none Nat, data := PySem.Data.fields #[PySem.Value.str (PySem.Str.ofString "__init__") (355 : Nat), PySem.Value.str (PySem.Str.ofString "SpanStore.__init__") (356 : Nat), PySem.Value.str (PySem.Str.ofString "/claim/cut.py") (357 : Nat), PySem.Value.int 51 (0 : Nat), PySem.Value.int 1 (0 : Nat), PySem.Value.int 0 (0 : Nat), PySem.Value.int 0 (0 : Nat), PySem.Value.int 3 (0 : Nat), PySem.Value.ref (130 : Nat), PySem.Value.bool true, PySem.Value.int 181 (0 : Nat), PySem.Value.ref (131 : Nat), PySem.Value.none, PySem.Value.ref (132 : Nat), PySem.Value.ref (133 : Nat), PySem.Value.ref (134 : Nat), PySem.Value.int 359 (0 : Nat), PySem.Value.int 51 (0 : Nat), PySem.Value.str (PySem.Str.ofString "/claim/cut.py") (360 : Nat)] }) <|
    @List.cons (Nat × Obj) (@Prod.mk Nat Obj (nat_lit 136) { cls := PySem.Value.type "function", dict := @Option.none Nat, data := PySem.Data.func { name := PySem.Str.ofString "__init__", qualname := PySem.Str.ofString "SpanStore.__init__", params := p8, body := PySem.FuncBody.stmts b8, scope := s8, globals := (3 : Nat), closure := [], defaults := PySem.Value.none, kwdefaults := PySem.Value.none, pyModule := PySem.Value.str (PySem.Str.ofString "siftwall.stores") (276 : Nat), code := PySem.Value.ref (135 : Nat) } }) <|
    @List.cons (Nat × Obj) (@Prod.mk Nat Obj (nat_lit 137) { cls := PySem.Value.type "tuple", dict := @Option.none Nat, data := PySem.Data.seq #[] }) <|
    @List.cons (Nat × Obj) (@Prod.mk Nat Obj (nat_lit 139) { cls := PySem.Value.type "tuple", dict := @Option.none Nat, data := PySem.Data.seq #[PySem.Value.str (PySem.Str.ofString "self") (365 : Nat), PySem.Value.str (PySem.Str.ofString "element") (366 : Nat), PySem.Value.str (PySem.Str.ofString "now") (367 : Nat), PySem.Value.str (PySem.Str.ofString "low") (368 : Nat), PySem.Value.str (PySem.Str.ofString "high") (369 : Nat), PySem.Value.str (PySem.Str.ofString "begin") (370 : Nat), PySem.Value.str (PySem.Str.ofString "place") (371 : Nat)] }) <|
    @List.cons (Nat × Obj) (@Prod.mk Nat Obj (nat_lit 140) { cls := PySem.Value.type "tuple", dict := @Option.none Nat, data := PySem.Data.seq #[] }) <|
    @List.cons (Nat × Obj) (@Prod.mk Nat Obj (nat_lit 142) { cls := PySem.Value.type "code", dict := @Option.none Nat, data := PySem.Data.fields #[PySem.Value.str (PySem.Str.ofString "put") (362 : Nat), PySem.Value.str (PySem.Str.ofString "SpanStore.put") (363 : Nat), PySem.Value.str (PySem.Str.ofString "/claim/cut.py") (364 : Nat), PySem.Value.int 54 (0 : Nat), PySem.Value.int 3 (0 : Nat), PySem.Value.int 0 (0 : Nat), PySem.Value.int 0 (0 : Nat), PySem.Value.int 3 (0 : Nat), PySem.Value.ref (137 : Nat), PySem.Value.bool true, PySem.Value.int 181 (0 : Nat), PySem.Value.ref (138 : Nat), PySem.Value.none, PySem.Value.ref (139 : Nat), PySem.Value.ref (140 : Nat), PySem.Value.ref (141 : Nat), PySem.Value.int 372 (0 : Nat), PySem.Value.int 54 (0 : Nat), PySem.Value.str (PySem.Str.ofString "/claim/cut.py") (373 : Nat)] }) <|
    @List.cons (Nat × Obj) (@Prod.mk Nat Obj (nat_lit 143) { cls := PySem.Value.type "function", dict := @Option.none Nat, data := PySem.Data.func { name := PySem.Str.ofString "put", qualname := PySem.Str.ofString "SpanStore.put", params := p9, body := PySem.FuncBody.stmts b9, scope := s9, globals := (3 : Nat), closure := [], defaults := PySem.Value.none, kwdefaults := PySem.Value.none, pyModule := PySem.Value.str (PySem.Str.ofString "siftwall.stores") (276 : Nat), code := PySem.Value.ref (142 : Nat) } }) <|
    @List.cons (Nat × Obj) (@Prod.mk Nat Obj (nat_lit 144) { cls := PySem.Value.type "tuple", dict := @Option.none Nat, data := PySem.Data.seq #[] }) <|
    @List.cons (Nat × Obj) (@Prod.mk Nat Obj (nat_lit 146) { cls := PySem.Value.type "tuple", dict := @Option.none Nat, data := PySem.Data.seq #[PySem.Value.str (PySem.Str.ofString "self") (378 : Nat), PySem.Value.str (PySem.Str.ofString "box") (379 : Nat), PySem.Value.str (PySem.Str.ofString "now") (380 : Nat), PySem.Value.str (PySem.Str.ofString "place") (381 : Nat)] }) <|
    @List.cons (Nat × Obj) (@Prod.mk Nat Obj (nat_lit 147) { cls := PySem.Value.type "tuple", dict := @Option.none Nat, data := PySem.Data.seq #[] }) <|
    @List.cons (Nat × Obj) (@Prod.mk Nat Obj (nat_lit 149) { cls := PySem.Value.type "code", dict := @Option.none Nat, data := PySem.Data.fields #[PySem.Value.str (PySem.Str.ofString "at") (375 : Nat), PySem.Value.str (PySem.Str.ofString "SpanStore.at") (376 : Nat), PySem.Value.str (PySem.Str.ofString "/claim/cut.py") (377 : Nat), PySem.Value.int 69 (0 : Nat), PySem.Value.int 3 (0 : Nat), PySem.Value.int 0 (0 : Nat), PySem.Value.int 0 (0 : Nat), PySem.Value.int 3 (0 : Nat), PySem.Value.ref (144 : Nat), PySem.Value.bool true, PySem.Value.int 181 (0 : Nat), PySem.Value.ref (145 : Nat), PySem.Value.none, PySem.Value.ref (146 : Nat), PySem.Value.ref (147 : Nat), PySem.Value.ref (148 : Nat), PySem.Value.int 382 (0 : Nat), PySem.Value.int 69 (0 : Nat), PySem.Value.str (PySem.Str.ofString "/claim/cut.py") (383 : Nat)] }) <|
    @List.cons (Nat × Obj) (@Prod.mk Nat Obj (nat_lit 150) { cls := PySem.Value.type "function", dict := @Option.none Nat, data := PySem.Data.func { name := PySem.Str.ofString "at", qualname := PySem.Str.ofString "SpanStore.at", params := p10, body := PySem.FuncBody.stmts b10, scope := s10, globals := (3 : Nat), closure := [], defaults := PySem.Value.none, kwdefaults := PySem.Value.none, pyModule := PySem.Value.str (PySem.Str.ofString "siftwall.stores") (276 : Nat), code := PySem.Value.ref (149 : Nat) } }) <|
    @List.cons (Nat × Obj) (@Prod.mk Nat Obj (nat_lit 151) { cls := PySem.Value.type "tuple", dict := @Option.none Nat, data := PySem.Data.seq #[] }) <|
    @List.cons (Nat × Obj) (@Prod.mk Nat Obj (nat_lit 153) { cls := PySem.Value.type "tuple", dict := @Option.none Nat, data := PySem.Data.seq #[PySem.Value.str (PySem.Str.ofString "self") (388 : Nat), PySem.Value.str (PySem.Str.ofString "key") (389 : Nat), PySem.Value.str (PySem.Str.ofString "now") (390 : Nat), PySem.Value.str (PySem.Str.ofString "place") (391 : Nat), PySem.Value.str (PySem.Str.ofString "element") (392 : Nat)] }) <|
    @List.cons (Nat × Obj) (@Prod.mk Nat Obj (nat_lit 154) { cls := PySem.Value.type "tuple", dict := @Option.none Nat, data := PySem.Data.seq #[] }) <|
    @List.cons (Nat × Obj) (@Prod.mk Nat Obj (nat_lit 156) { cls := PySem.Value.type "code", dict := @Option.none Nat, data := PySem.Data.fields #[PySem.Value.str (PySem.Str.ofString "find") (385 : Nat), PySem.Value.str (PySem.Str.ofString "SpanStore.find") (386 : Nat), PySem.Value.str (PySem.Str.ofString "/claim/cut.py") (387 : Nat), PySem.Value.int 75 (0 : Nat), PySem.Value.int 3 (0 : Nat), PySem.Value.int 0 (0 : Nat), PySem.Value.int 0 (0 : Nat), PySem.Value.int 3 (0 : Nat), PySem.Value.ref (151 : Nat), PySem.Value.bool true, PySem.Value.int 181 (0 : Nat), PySem.Value.ref (152 : Nat), PySem.Value.none, PySem.Value.ref (153 : Nat), PySem.Value.ref (154 : Nat), PySem.Value.ref (155 : Nat), PySem.Value.int 393 (0 : Nat), PySem.Value.int 75 (0 : Nat), PySem.Value.str (PySem.Str.ofString "/claim/cut.py") (394 : Nat)] }) <|
    @List.cons (Nat × Obj) (@Prod.mk Nat Obj (nat_lit 157) { cls := PySem.Value.type "function", dict := @Option.none Nat, data := PySem.Data.func { name := PySem.Str.ofString "find", qualname := PySem.Str.ofString "SpanStore.find", params := p11, body := PySem.FuncBody.stmts b11, scope := s11, globals := (3 : Nat), closure := [], defaults := PySem.Value.none, kwdefaults := PySem.Value.none, pyModule := PySem.Value.str (PySem.Str.ofString "siftwall.stores") (276 : Nat), code := PySem.Value.ref (156 : Nat) } }) <|
    @List.cons (Nat × Obj) (@Prod.mk Nat Obj (nat_lit 158) { cls := PySem.Value.type "tuple", dict := @Option.none Nat, data := PySem.Data.seq #[] }) <|
    @List.cons (Nat × Obj) (@Prod.mk Nat Obj (nat_lit 160) { cls := PySem.Value.type "tuple", dict := @Option.none Nat, data := PySem.Data.seq #[PySem.Value.str (PySem.Str.ofString "self") (399 : Nat), PySem.Value.str (PySem.Str.ofString "box") (400 : Nat), PySem.Value.str (PySem.Str.ofString "place") (401 : Nat)] }) <|
    @List.cons (Nat × Obj) (@Prod.mk Nat Obj (nat_lit 161) { cls := PySem.Value.type "tuple", dict := @Option.none Nat, data := PySem.Data.seq #[] }) <|
    @List.cons (Nat × Obj) (@Prod.mk Nat Obj (nat_lit 163) { cls := PySem.Value.type "code", dict := @Option.none Nat, data := PySem.Data.fields #[PySem.Value.str (PySem.Str.ofString "drop") (396 : Nat), PySem.Value.str (PySem.Str.ofString "SpanStore.drop") (397 : Nat), PySem.Value.str (PySem.Str.ofString "/claim/cut.py") (398 : Nat), PySem.Value.int 84 (0 : Nat), PySem.Value.int 2 (0 : Nat), PySem.Value.int 0 (0 : Nat), PySem.Value.int 0 (0 : Nat), PySem.Value.int 3 (0 : Nat), PySem.Value.ref (158 : Nat), PySem.Value.bool true, PySem.Value.int 181 (0 : Nat), PySem.Value.ref (159 : Nat), PySem.Value.none, PySem.Value.ref (160 : Nat), PySem.Value.ref (161 : Nat), PySem.Value.ref (162 : Nat), PySem.Value.int 402 (0 : Nat), PySem.Value.int 84 (0 : Nat), PySem.Value.str (PySem.Str.ofString "/claim/cut.py") (403 : Nat)] }) <|
    @List.cons (Nat × Obj) (@Prod.mk Nat Obj (nat_lit 164) { cls := PySem.Value.type "function", dict := @Option.none Nat, data := PySem.Data.func { name := PySem.Str.ofString "drop", qualname := PySem.Str.ofString "SpanStore.drop", params := p12, body := PySem.FuncBody.stmts b12, scope := s12, globals := (3 : Nat), closure := [], defaults := PySem.Value.none, kwdefaults := PySem.Value.none, pyModule := PySem.Value.str (PySem.Str.ofString "siftwall.stores") (276 : Nat), code := PySem.Value.ref (163 : Nat) } }) <|
    @List.cons (Nat × Obj) (@Prod.mk Nat Obj (nat_lit 165) { cls := PySem.Value.type "tuple", dict := @Option.none Nat, data := PySem.Data.seq #[] }) <|
    @List.cons (Nat × Obj) (@Prod.mk Nat Obj (nat_lit 167) { cls := PySem.Value.type "tuple", dict := @Option.none Nat, data := PySem.Data.seq #[PySem.Value.str (PySem.Str.ofString "self") (408 : Nat)] }) <|
    @List.cons (Nat × Obj) (@Prod.mk Nat Obj (nat_lit 168) { cls := PySem.Value.type "tuple", dict := @Option.none Nat, data := PySem.Data.seq #[] }) <|
    @List.cons (Nat × Obj) (@Prod.mk Nat Obj (nat_lit 170) { cls := PySem.Value.type "code", dict := @Option.none Nat, data := PySem.Data.fields #[PySem.Value.str (PySem.Str.ofString "elements") (405 : Nat), PySem.Value.str (PySem.Str.ofString "SpanStore.elements") (406 : Nat), PySem.Value.str (PySem.Str.ofString "/claim/cut.py") (407 : Nat), PySem.Value.int 90 (0 : Nat), PySem.Value.int 1 (0 : Nat), PySem.Value.int 0 (0 : Nat), PySem.Value.int 0 (0 : Nat), PySem.Value.int 3 (0 : Nat), PySem.Value.ref (165 : Nat), PySem.Value.bool true, PySem.Value.int 181 (0 : Nat), PySem.Value.ref (166 : Nat), PySem.Value.none, PySem.Value.ref (167 : Nat), PySem.Value.ref (168 : Nat), PySem.Value.ref (169 : Nat), PySem.Value.int 409 (0 : Nat), PySem.Value.int 90 (0 : Nat), PySem.Value.str (PySem.Str.ofString "/claim/cut.py") (410 : Nat)] }) <|
    @List.cons (Nat × Obj) (@Prod.mk Nat Obj (nat_lit 171) { cls := PySem.Value.type "function", dict := @Option.none Nat, data := PySem.Data.func { name := PySem.Str.ofString "elements", qualname := PySem.Str.ofString "SpanStore.elements", params := p13, body := PySem.FuncBody.stmts b13, scope := s13, globals := (3 : Nat), closure := [], defaults := PySem.Value.none, kwdefaults := PySem.Value.none, pyModule := PySem.Value.str (PySem.Str.ofString "siftwall.stores") (276 : Nat), code := PySem.Value.ref (170 : Nat) } }) <|
    @List.cons (Nat × Obj) (@Prod.mk Nat Obj (nat_lit 172) { cls := PySem.Value.type "tuple", dict := @Option.none Nat, data := PySem.Data.seq #[] }) <|
    @List.cons (Nat × Obj) (@Prod.mk Nat Obj (nat_lit 174) { cls := PySem.Value.type "tuple", dict := @Option.none Nat, data := PySem.Data.seq #[PySem.Value.str (PySem.Str.ofString "self") (415 : Nat)] }) <|
    @List.cons (Nat × Obj) (@Prod.mk Nat Obj (nat_lit 175) { cls := PySem.Value.type "tuple", dict := @Option.none Nat, data := PySem.Data.seq #[] }) <|
    @List.cons (Nat × Obj) (@Prod.mk Nat Obj (nat_lit 177) { cls := PySem.Value.type "code", dict := @Option.none Nat, data := PySem.Data.fields #[PySem.Value.str (PySem.Str.ofString "many") (412 : Nat), PySem.Value.str (PySem.Str.ofString "SpanStore.many") (413 : Nat), PySem.Value.str (PySem.Str.ofString "/claim/cut.py") (414 : Nat), PySem.Value.int 93 (0 : Nat), PySem.Value.int 1 (0 : Nat), PySem.Value.int 0 (0 : Nat), PySem.Value.int 0 (0 : Nat), PySem.Value.int 3 (0 : Nat), PySem.Value.ref (172 : Nat), PySem.Value.bool true, PySem.Value.int 181 (0 : Nat), PySem.Value.ref (173 : Nat), PySem.Value.none, PySem.Value.ref (174 : Nat), PySem.Value.ref (175 : Nat), PySem.Value.ref (176 : Nat), PySem.Value.int 416 (0 : Nat), PySem.Value.int 93 (0 : Nat), PySem.Value.str (PySem.Str.ofString "/claim/cut.py") (417 : Nat)] }) <|
    @List.cons (Nat × Obj) (@Prod.mk Nat Obj (nat_lit 178) { cls := PySem.Value.type "function", dict := @Option.none Nat, data := PySem.Data.func { name := PySem.Str.ofString "many", qualname := PySem.Str.ofString "SpanStore.many", params := p14, body := PySem.FuncBody.stmts b14, scope := s14, globals := (3 : Nat), closure := [], defaults := PySem.Value.none, kwdefaults := PySem.Value.none, pyModule := PySem.Value.str (PySem.Str.ofString "siftwall.stores") (276 : Nat), code := PySem.Value.ref (177 : Nat) } }) <|
    @List.cons (Nat × Obj) (@Prod.mk Nat Obj (nat_lit 179) { cls := PySem.Value.type "tuple", dict := @Option.none Nat, data := PySem.Data.seq #[] }) <|
    @List.cons (Nat × Obj) (@Prod.mk Nat Obj (nat_lit 181) { cls := PySem.Value.type "tuple", dict := @Option.none Nat, data := PySem.Data.seq #[PySem.Value.str (PySem.Str.ofString "self") (422 : Nat)] }) <|
    @List.cons (Nat × Obj) (@Prod.mk Nat Obj (nat_lit 182) { cls := PySem.Value.type "tuple", dict := @Option.none Nat, data := PySem.Data.seq #[] }) <|
    @List.cons (Nat × Obj) (@Prod.mk Nat Obj (nat_lit 184) { cls := PySem.Value.type "code", dict := @Option.none Nat, data := PySem.Data.fields #[PySem.Value.str (PySem.Str.ofString "clear") (419 : Nat), PySem.Value.str (PySem.Str.ofString "SpanStore.clear") (420 : Nat), PySem.Value.str (PySem.Str.ofString "/claim/cut.py") (421 : Nat), PySem.Value.int 96 (0 : Nat), PySem.Value.int 1 (0 : Nat), PySem.Value.int 0 (0 : Nat), PySem.Value.int 0 (0 : Nat), PySem.Value.int 3 (0 : Nat), PySem.Value.ref (179 : Nat), PySem.Value.bool true, PySem.Value.int 181 (0 : Nat), PySem.Value.ref (180 : Nat), PySem.Value.none, PySem.Value.ref (181 : Nat), PySem.Value.ref (182 : Nat), PySem.Value.ref (183 : Nat), PySem.Value.int 423 (0 : Nat), PySem.Value.int 96 (0 : Nat), PySem.Value.str (PySem.Str.ofString "/claim/cut.py") (424 : Nat)] }) <|
    @List.cons (Nat × Obj) (@Prod.mk Nat Obj (nat_lit 185) { cls := PySem.Value.type "function", dict := @Option.none Nat, data := PySem.Data.func { name := PySem.Str.ofString "clear", qualname := PySem.Str.ofString "SpanStore.clear", params := p15, body := PySem.FuncBody.stmts b15, scope := s15, globals := (3 : Nat), closure := [], defaults := PySem.Value.none, kwdefaults := PySem.Value.none, pyModule := PySem.Value.str (PySem.Str.ofString "siftwall.stores") (276 : Nat), code := PySem.Value.ref (184 : Nat) } }) <|
    @List.cons (Nat × Obj) (@Prod.mk Nat Obj (nat_lit 186) { cls := PySem.Value.type "tuple", dict := @Option.none Nat, data := PySem.Data.seq #[PySem.Value.str (PySem.Str.ofString "items") (426 : Nat)] }) <|
    @List.cons (Nat × Obj) (@Prod.mk Nat Obj (nat_lit 187) { cls := PySem.Value.type "dict", dict := @Option.none Nat, data := PySem.Data.dict #[{ hash := PySem.PyData.keyHash P (PySem.Str.ofString "__module__"), key := PySem.Value.str (PySem.Str.ofString "__module__") (350 : Nat), val := PySem.Value.str (PySem.Str.ofString "siftwall.stores") (276 : Nat) }, { hash := PySem.PyData.keyHash P (PySem.Str.ofString "__firstlineno__"), key := PySem.Value.str (PySem.Str.ofString "__firstlineno__") (354 : Nat), val := PySem.Value.int 49 (353 : Nat) }, { hash := PySem.PyData.keyHash P (PySem.Str.ofString "__init__"), key := PySem.Value.str (PySem.Str.ofString "__init__") (361 : Nat), val := PySem.Value.ref (136 : Nat) }, { hash := PySem.PyData.keyHash P (PySem.Str.ofString "put"), key := PySem.Value.str (PySem.Str.ofString "put") (374 : Nat), val := PySem.Value.ref (143 : Nat) }, { hash := PySem.PyData.keyHash P (PySem.Str.ofString "at"), key := PySem.Value.str (PySem.Str.ofString "at") (384 : Nat), val := PySem.Value.ref (150 : Nat) }, { hash := PySem.PyData.keyHash P (PySem.Str.ofString "find"), key := PySem.Value.str (PySem.Str.ofString "find") (395 : Nat), val := PySem.Value.ref (157 : Nat) }, { hash := PySem.PyData.keyHash P (PySem.Str.ofString "drop"), key := PySem.Value.str (PySem.Str.ofString "drop") (404 : Nat), val := PySem.Value.ref (164 : Nat) }, { hash := PySem.PyData.keyHash P (PySem.Str.ofString "elements"), key := PySem.Value.str (PySem.Str.ofString "elements") (411 : Nat), val := PySem.Value.ref (171 : Nat) }, { hash := PySem.PyData.keyHash P (PySem.Str.ofString "many"), key := PySem.Value.str (PySem.Str.ofString "many") (418 : Nat), val := PySem.Value.ref (178 : Nat) }, { hash := PySem.PyData.keyHash P (PySem.Str.ofString "clear"), key := PySem.Value.str (PySem.Str.ofString "clear") (425 : Nat), val := PySem.Value.ref (185 : Nat) }, { hash := PySem.PyData.keyHash P (PySem.Str.ofString "__static_attributes__"), key := PySem.Value.str (PySem.Str.ofString "__static_attributes__") (427 : Nat), val := PySem.Value.ref (186 : Nat) }, { hash := PySem.PyData.keyHash P (PySem.Str.ofString "__dict__"), key := PySem.Value.str (PySem.Str.ofString "__dict__") (429 : Nat), val := PySem.Value.ref (189 : Nat) }, { hash := PySem.PyData.keyHash P (PySem.Str.ofString "__weakref__"), key := PySem.Value.str (PySem.Str.ofString "__weakref__") (431 : Nat), val := PySem.Value.ref (190 : Nat) }, { hash := PySem.PyData.keyHash P (PySem.Str.ofString "__doc__"), key := PySem.Value.str (PySem.Str.ofString "__doc__") (432 : Nat), val := PySem.Value.none }] (4 : Nat) }) <|
    @List.cons (Nat × Obj) (@Prod.mk Nat Obj (nat_lit 188) { cls := PySem.Value.type "type", dict := @Option.none Nat, data := PySem.Data.cls { name := PySem.Str.ofString "SpanStore", bases := [PySem.Value.type "object"], mro := [PySem.Value.ref (188 : Nat), PySem.Value.type "object"], ns := (187 : Nat), qualname := PySem.Str.ofString "SpanStore" }, slots := #[none, none, some (PySem.Value.str (PySem.Str.ofString "SpanStore") (343 : Nat)), some (PySem.Value.str (PySem.Str.ofString "SpanStore") (351 : Nat)), some (PySem.Value.builtin "object.__new__"), some (PySem.Value.bool true)] }) <|
    @List.cons (Nat × Obj) (@Prod.mk Nat Obj (nat_lit 189) { cls := PySem.Value.type "getset_descriptor", dict := @Option.none Nat, data := PySem.Data.fields #[PySem.Value.str (PySem.Str.ofString "__dict__") (428 : Nat), PySem.Value.ref (188 : Nat), PySem.Value.builtin "function.__dict__", PySem.Value.builtin "function.__dict__#set"] }) <|
    @List.cons (Nat × Obj) (@Prod.mk Nat Obj (nat_lit 190) { cls := PySem.Value.type "getset_descriptor", dict := @Option.none Nat, data := PySem.Data.fields #[PySem.Value.str (PySem.Str.ofString "__weakref__") (430 : Nat), PySem.Value.ref (188 : Nat), PySem.Value.builtin "ExceptionGroup.__weakref__", PySem.Value.none] }) <|
    @List.cons (Nat × Obj) (@Prod.mk Nat Obj (nat_lit 193) { cls := PySem.Value.type "tuple", dict := @Option.none Nat, data := PySem.Data.seq #[] }) <|
    @List.cons (Nat × Obj) (@Prod.mk Nat Obj (nat_lit 195) { cls := PySem.Value.type "tuple", dict := @Option.none Nat, data := PySem.Data.seq #[PySem.Value.str (PySem.Str.ofString "store") (438 : Nat), PySem.Value.str (PySem.Str.ofString "low") (439 : Nat), PySem.Value.str (PySem.Str.ofString "high") (440 : Nat), PySem.Value.str (PySem.Str.ofString "now") (441 : Nat), PySem.Value.str (PySem.Str.ofString "found") (442 : Nat), PySem.Value.str (PySem.Str.ofString "place") (443 : Nat)] }) <|
    @List.cons (Nat × Obj) (@Prod.mk Nat Obj (nat_lit 196) { cls := PySem.Value.type "tuple", dict := @Option.none Nat, data := PySem.Data.seq #[] }) <|
    @List.cons (Nat × Obj) (@Prod.mk Nat Obj (nat_lit 198) { cls := PySem.Value.type "code", dict := @Option.none Nat, data := PySem.Data.fields #[PySem.Value.str (PySem.Str.ofString "meeting") (435 : Nat), PySem.Value.str (PySem.Str.ofString "meeting") (436 : Nat), PySem.Value.str (PySem.Str.ofString "/claim/cut.py") (437 : Nat), PySem.Value.int 98 (0 : Nat), PySem.Value.int 4 (0 : Nat), PySem.Value.int 0 (0 : Nat), PySem.Value.int 0 (0 : Nat), PySem.Value.int 3 (0 : Nat), PySem.Value.ref (193 : Nat), PySem.Value.bool true, PySem.Value.int 181 (0 : Nat), PySem.Value.ref (194 : Nat), PySem.Value.none, PySem.Value.ref (195 : Nat), PySem.Value.ref (196 : Nat), PySem.Value.ref (197 : Nat), PySem.Value.int 444 (0 : Nat), PySem.Value.int 98 (0 : Nat), PySem.Value.str (PySem.Str.ofString "/claim/cut.py") (445 : Nat)] }) <|
    @List.cons (Nat × Obj) (@Prod.mk Nat Obj (nat_lit 199) { cls := PySem.Value.type "function", dict := @Option.none Nat, data := PySem.Data.func { name := PySem.Str.ofString "meeting", qualname := PySem.Str.ofString "meeting", params := p16, body := PySem.FuncBody.stmts b16, scope := s16, globals := (3 : Nat), closure := [], defaults := PySem.Value.none, kwdefaults := PySem.Value.none, pyModule := PySem.Value.str (PySem.Str.ofString "siftwall.stores") (276 : Nat), code := PySem.Value.ref (198 : Nat) } }) <|
    @List.cons (Nat × Obj) (@Prod.mk Nat Obj (nat_lit 200) { cls := PySem.Value.type "tuple", dict := @Option.none Nat, data := PySem.Data.seq #[] }) <|
    @List.cons (Nat × Obj) (@Prod.mk Nat Obj (nat_lit 202) { cls := PySem.Value.type "tuple", dict := @Option.none Nat, data := PySem.Data.seq #[PySem.Value.str (PySem.Str.ofString "script") (452 : Nat), PySem.Value.str (PySem.Str.ofString "place") (453 : Nat)] }) <|
    @List.cons (Nat × Obj) (@Prod.mk Nat Obj (nat_lit 203) { cls := PySem.Value.type "tuple", dict := @Option.none Nat, data := PySem.Data.seq #[] }) <|
    @List.cons (Nat × Obj) (@Prod.mk Nat Obj (nat_lit 205) { cls := PySem.Value.type "code", dict := @Option.none Nat, data := PySem.Data.fields #[PySem.Value.str (PySem.Str.ofString "_law_digit") (449 : Nat), PySem.Value.str (PySem.Str.ofString "_law_digit") (450 : Nat), PySem.Value.str (PySem.Str.ofString "/claim/cut.py") (451 : Nat), PySem.Value.int 107 (0 : Nat), PySem.Value.int 2 (0 : Nat), PySem.Value.int 0 (0 : Nat), PySem.Value.int 0 (0 : Nat), PySem.Value.int 3 (0 : Nat), PySem.Value.ref (200 : Nat), PySem.Value.bool true, PySem.Value.int 181 (0 : Nat), PySem.Value.ref (201 : Nat), PySem.Value.none, PySem.Value.ref (202 : Nat), PySem.Value.ref (203 : Nat), PySem.Value.ref (204 : Nat), PySem.Value.int 454 (0 : Nat), PySem.Value.int 107 (0 : Nat), PySem.Value.str (PySem.Str.ofString "/claim/cut.py") (455 : Nat)] }) <|
    @List.cons (Nat × Obj) (@Prod.mk Nat Obj (nat_lit 206) { cls := PySem.Value.type "function", dict := @Option.none Nat, data := PySem.Data.func { name := PySem.Str.ofString "_law_digit", qualname := PySem.Str.ofString "_law_digit", params := p17, body := PySem.FuncBody.stmts b17, scope := s17, globals := (3 : Nat), closure := [], defaults := PySem.Value.none, kwdefaults := PySem.Value.none, pyModule := PySem.Value.str (PySem.Str.ofString "law_pf0336_01") (447 : Nat), code := PySem.Value.ref (205 : Nat) } }) <|
    @List.cons (Nat × Obj) (@Prod.mk Nat Obj (nat_lit 207) { cls := PySem.Value.type "tuple", dict := @Option.none Nat, data := PySem.Data.seq #[] }) <|
    @List.cons (Nat × Obj) (@Prod.mk Nat Obj (nat_lit 209) { cls := PySem.Value.type "tuple", dict := @Option.none Nat, data := PySem.Data.seq #[PySem.Value.str (PySem.Str.ofString "row") (460 : Nat), PySem.Value.str (PySem.Str.ofString "now") (461 : Nat)] }) <|
    @List.cons (Nat × Obj) (@Prod.mk Nat Obj (nat_lit 210) { cls := PySem.Value.type "tuple", dict := @Option.none Nat, data := PySem.Data.seq #[] }) <|
    @List.cons (Nat × Obj) (@Prod.mk Nat Obj (nat_lit 212) { cls := PySem.Value.type "code", dict := @Option.none Nat, data := PySem.Data.fields #[PySem.Value.str (PySem.Str.ofString "_law_lives") (457 : Nat), PySem.Value.str (PySem.Str.ofString "_law_lives") (458 : Nat), PySem.Value.str (PySem.Str.ofString "/claim/cut.py") (459 : Nat), PySem.Value.int 109 (0 : Nat), PySem.Value.int 2 (0 : Nat), PySem.Value.int 0 (0 : Nat), PySem.Value.int 0 (0 : Nat), PySem.Value.int 3 (0 : Nat), PySem.Value.ref (207 : Nat), PySem.Value.bool true, PySem.Value.int 181 (0 : Nat), PySem.Value.ref (208 : Nat), PySem.Value.none, PySem.Value.ref (209 : Nat), PySem.Value.ref (210 : Nat), PySem.Value.ref (211 : Nat), PySem.Value.int 462 (0 : Nat), PySem.Value.int 109 (0 : Nat), PySem.Value.str (PySem.Str.ofString "/claim/cut.py") (463 : Nat)] }) <|
    @List.cons (Nat × Obj) (@Prod.mk Nat Obj (nat_lit 213) { cls := PySem.Value.type "function", dict := @Option.none Nat, data := PySem.Data.func { name := PySem.Str.ofString "_law_lives", qualname := PySem.Str.ofString "_law_lives", params := p18, body := PySem.FuncBody.stmts b18, scope := s18, globals := (3 : Nat), closure := [], defaults := PySem.Value.none, kwdefaults := PySem.Value.none, pyModule := PySem.Value.str (PySem.Str.ofString "law_pf0336_01") (447 : Nat), code := PySem.Value.ref (212 : Nat) } }) <|
    @List.cons (Nat × Obj) (@Prod.mk Nat Obj (nat_lit 214) { cls := PySem.Value.type "tuple", dict := @Option.none Nat, data := PySem.Data.seq #[] }) <|
    @List.cons (Nat × Obj) (@Prod.mk Nat Obj (nat_lit 216) { cls := PySem.Value.type "tuple", dict := @Option.none Nat, data := PySem.Data.seq #[PySem.Value.str (PySem.Str.ofString "one") (468 : Nat), PySem.Value.str (PySem.Str.ofString "two") (469 : Nat)] }) <|
    @List.cons (Nat × Obj) (@Prod.mk Nat Obj (nat_lit 217) { cls := PySem.Value.type "tuple", dict := @Option.none Nat, data := PySem.Data.seq #[] }) <|
    @List.cons (Nat × Obj) (@Prod.mk Nat Obj (nat_lit 219) { cls := PySem.Value.type "code", dict := @Option.none Nat, data := PySem.Data.fields #[PySem.Value.str (PySem.Str.ofString "_law_near") (465 : Nat), PySem.Value.str (PySem.Str.ofString "_law_near") (466 : Nat), PySem.Value.str (PySem.Str.ofString "/claim/cut.py") (467 : Nat), PySem.Value.int 111 (0 : Nat), PySem.Value.int 2 (0 : Nat), PySem.Value.int 0 (0 : Nat), PySem.Value.int 0 (0 : Nat), PySem.Value.int 3 (0 : Nat), PySem.Value.ref (214 : Nat), PySem.Value.bool true, PySem.Value.int 181 (0 : Nat), PySem.Value.ref (215 : Nat), PySem.Value.none, PySem.Value.ref (216 : Nat), PySem.Value.ref (217 : Nat), PySem.Value.ref (218 : Nat), PySem.Value.int 470 (0 : Nat), PySem.Value.int 111 (0 : Nat), PySem.Value.str (PySem.Str.ofString "/claim/cut.py") (471 : Nat)] }) <|
    @List.cons (Nat × Obj) (@Prod.mk Nat Obj (nat_lit 220) { cls := PySem.Value.type "function", dict := @Option.none Nat, data := PySem.Data.func { name := PySem.Str.ofString "_law_near", qualname := PySem.Str.ofString "_law_near", params := p19, body := PySem.FuncBody.stmts b19, scope := s19, globals := (3 : Nat), closure := [], defaults := PySem.Value.none, kwdefaults := PySem.Value.none, pyModule := PySem.Value.str (PySem.Str.ofString "law_pf0336_01") (447 : Nat), code := PySem.Value.ref (219 : Nat) } }) <|
    @List.cons (Nat × Obj) (@Prod.mk Nat Obj (nat_lit 221) { cls := PySem.Value.type "tuple", dict := @Option.none Nat, data := PySem.Data.seq #[] }) <|
    @List.cons (Nat × Obj) (@Prod.mk Nat Obj (nat_lit 224) { cls := PySem.Value.type "code", dict := @Option.none Nat, data := PySem.Data.fields #[PySem.Value.str (PySem.Str.ofString "_law_put") (473 : Nat), PySem.Value.str (PySem.Str.ofString "_law_put") (474 : Nat), PySem.Value.str (PySem.Str.ofString "/claim/cut.py") (475 : Nat), PySem.Value.int 113 (0 : Nat), PySem.Value.int 3 (0 : Nat), PySem.Value.int 0 (0 : Nat), PySem.Value.int 0 (0 : Nat), PySem.Value.int 3 (0 : Nat), PySem.Value.ref (221 : Nat), PySem.Value.bool true, PySem.Value.int 181 (0 : Nat), PySem.Value.ref (222 : Nat), PySem.Value.none, PySem.Value.none, PySem.Value.none, PySem.Value.ref (223 : Nat), PySem.Value.int 476 (0 : Nat), PySem.Value.int 113 (0 : Nat), PySem.Value.str (PySem.Str.ofString "/claim/cut.py") (477 : Nat)] }) <|
    @List.cons (Nat × Obj) (@Prod.mk Nat Obj (nat_lit 225) { cls := PySem.Value.type "function", dict := @Option.none Nat, data := PySem.Data.func { name := PySem.Str.ofString "_law_put", qualname := PySem.Str.ofString "_law_put", params := p20, body := PySem.FuncBody.stmts b20, scope := s20, globals := (3 : Nat), closure := [], defaults := PySem.Value.none, kwdefaults := PySem.Value.none, pyModule := PySem.Value.str (PySem.Str.ofString "law_pf0336_01") (447 : Nat), code := PySem.Value.ref (224 : Nat) } }) <|
    @List.cons (Nat × Obj) (@Prod.mk Nat Obj (nat_lit 226) { cls := PySem.Value.type "tuple", dict := @Option.none Nat, data := PySem.Data.seq #[] }) <|
    @List.cons (Nat × Obj) (@Prod.mk Nat Obj (nat_lit 229) { cls := PySem.Value.type "code", dict := @Option.none Nat, data := PySem.Data.fields #[PySem.Value.str (PySem.Str.ofString "_law_drop") (479 : Nat), PySem.Value.str (PySem.Str.ofString "_law_drop") (480 : Nat), PySem.Value.str (PySem.Str.ofString "/claim/cut.py") (481 : Nat), PySem.Value.int 121 (0 : Nat), PySem.Value.int 2 (0 : Nat), PySem.Value.int 0 (0 : Nat), PySem.Value.int 0 (0 : Nat), PySem.Value.int 3 (0 : Nat), PySem.Value.ref (226 : Nat), PySem.Value.bool true, PySem.Value.int 181 (0 : Nat), PySem.Value.ref (227 : Nat), PySem.Value.none, PySem.Value.none, PySem.Value.none, PySem.Value.ref (228 : Nat), PySem.Value.int 482 (0 : Nat), PySem.Value.int 121 (0 : Nat), PySem.Value.str (PySem.Str.ofString "/claim/cut.py") (483 : Nat)] }) <|
    @List.cons (Nat × Obj) (@Prod.mk Nat Obj (nat_lit 230) { cls := PySem.Value.type "function", dict := @Option.none Nat, data := PySem.Data.func { name := PySem.Str.ofString "_law_drop", qualname := PySem.Str.ofString "_law_drop", params := p21, body := PySem.FuncBody.stmts b21, scope := s21, globals := (3 : Nat), closure := [], defaults := PySem.Value.none, kwdefaults := PySem.Value.none, pyModule := PySem.Value.str (PySem.Str.ofString "law_pf0336_01") (447 : Nat), code := PySem.Value.ref (229 : Nat) } }) <|
    @List.cons (Nat × Obj) (@Prod.mk Nat Obj (nat_lit 231) { cls := PySem.Value.type "tuple", dict := @Option.none Nat, data := PySem.Data.seq #[] }) <|
    @List.cons (Nat × Obj) (@Prod.mk Nat Obj (nat_lit 233) { cls := PySem.Value.type "tuple", dict := @Option.none Nat, data := PySem.Data.seq #[PySem.Value.str (PySem.Str.ofString "element") (488 : Nat)] }) <|
    @List.cons (Nat × Obj) (@Prod.mk Nat Obj (nat_lit 234) { cls := PySem.Value.type "tuple", dict := @Option.none Nat, data := PySem.Data.seq #[] }) <|
    @List.cons (Nat × Obj) (@Prod.mk Nat Obj (nat_lit 236) { cls := PySem.Value.type "code", dict := @Option.none Nat, data := PySem.Data.fields #[PySem.Value.str (PySem.Str.ofString "_law_shown") (485 : Nat), PySem.Value.str (PySem.Str.ofString "_law_shown") (486 : Nat), PySem.Value.str (PySem.Str.ofString "/claim/cut.py") (487 : Nat), PySem.Value.int 126 (0 : Nat), PySem.Value.int 1 (0 : Nat), PySem.Value.int 0 (0 : Nat), PySem.Value.int 0 (0 : Nat), PySem.Value.int 3 (0 : Nat), PySem.Value.ref (231 : Nat), PySem.Value.bool true, PySem.Value.int 181 (0 : Nat), PySem.Value.ref (232 : Nat), PySem.Value.none, PySem.Value.ref (233 : Nat), PySem.Value.ref (234 : Nat), PySem.Value.ref (235 : Nat), PySem.Value.int 489 (0 : Nat), PySem.Value.int 126 (0 : Nat), PySem.Value.str (PySem.Str.ofString "/claim/cut.py") (490 : Nat)] }) <|
    @List.cons (Nat × Obj) (@Prod.mk Nat Obj (nat_lit 237) { cls := PySem.Value.type "function", dict := @Option.none Nat, data := PySem.Data.func { name := PySem.Str.ofString "_law_shown", qualname := PySem.Str.ofString "_law_shown", params := p22, body := PySem.FuncBody.stmts b22, scope := s22, globals := (3 : Nat), closure := [], defaults := PySem.Value.none, kwdefaults := PySem.Value.none, pyModule := PySem.Value.str (PySem.Str.ofString "law_pf0336_01") (447 : Nat), code := PySem.Value.ref (236 : Nat) } }) <|
    @List.cons (Nat × Obj) (@Prod.mk Nat Obj (nat_lit 238) { cls := PySem.Value.type "tuple", dict := @Option.none Nat, data := PySem.Data.seq #[] }) <|
    @List.cons (Nat × Obj) (@Prod.mk Nat Obj (nat_lit 240) { cls := PySem.Value.type "tuple", dict := @Option.none Nat, data := PySem.Data.seq #[PySem.Value.str (PySem.Str.ofString "store") (495 : Nat), PySem.Value.str (PySem.Str.ofString "is_put") (496 : Nat), PySem.Value.str (PySem.Str.ofString "row") (497 : Nat), PySem.Value.str (PySem.Str.ofString "now") (498 : Nat), PySem.Value.str (PySem.Str.ofString "fault") (499 : Nat)] }) <|
    @List.cons (Nat × Obj) (@Prod.mk Nat Obj (nat_lit 241) { cls := PySem.Value.type "tuple", dict := @Option.none Nat, data := PySem.Data.seq #[] }) <|
    @List.cons (Nat × Obj) (@Prod.mk Nat Obj (nat_lit 243) { cls := PySem.Value.type "code", dict := @Option.none Nat, data := PySem.Data.fields #[PySem.Value.str (PySem.Str.ofString "_law_told") (492 : Nat), PySem.Value.str (PySem.Str.ofString "_law_told") (493 : Nat), PySem.Value.str (PySem.Str.ofString "/claim/cut.py") (494 : Nat), PySem.Value.int 128 (0 : Nat), PySem.Value.int 4 (0 : Nat), PySem.Value.int 0 (0 : Nat), PySem.Value.int 0 (0 : Nat), PySem.Value.int 3 (0 : Nat), PySem.Value.ref (238 : Nat), PySem.Value.bool true, PySem.Value.int 181 (0 : Nat), PySem.Value.ref (239 : Nat), PySem.Value.none, PySem.Value.ref (240 : Nat), PySem.Value.ref (241 : Nat), PySem.Value.ref (242 : Nat), PySem.Value.int 500 (0 : Nat), PySem.Value.int 128 (0 : Nat), PySem.Value.str (PySem.Str.ofString "/claim/cut.py") (501 : Nat)] }) <|
    @List.cons (Nat × Obj) (@Prod.mk Nat Obj (nat_lit 244) { cls := PySem.Value.type "function", dict := @Option.none Nat, data := PySem.Data.func { name := PySem.Str.ofString "_law_told", qualname := PySem.Str.ofString "_law_told", params := p23, body := PySem.FuncBody.stmts b23, scope := s23, globals := (3 : Nat), closure := [], defaults := PySem.Value.none, kwdefaults := PySem.Value.none, pyModule := PySem.Value.str (PySem.Str.ofString "law_pf0336_01") (447 : Nat), code := PySem.Value.ref (243 : Nat) } }) <|
    @List.cons (Nat × Obj) (@Prod.mk Nat Obj (nat_lit 245) { cls := PySem.Value.type "tuple", dict := @Option.none Nat, data := PySem.Data.seq #[] }) <|
    @List.cons (Nat × Obj) (@Prod.mk Nat Obj (nat_lit 247) { cls := PySem.Value.type "tuple", dict := @Option.none Nat, data := PySem.Data.seq #[PySem.Value.str (PySem.Str.ofString "rows") (506 : Nat)] }) <|
    @List.cons (Nat × Obj) (@Prod.mk Nat Obj (nat_lit 248) { cls := PySem.Value.type "tuple", dict := @Option.none Nat, data := PySem.Data.seq #[] }) <|
    @List.cons (Nat × Obj) (@Prod.mk Nat Obj (nat_lit 250) { cls := PySem.Value.type "code", dict := @Option.none Nat, data := PySem.Data.fields #[PySem.Value.str (PySem.Str.ofString "_law_first") (503 : Nat), PySem.Value.str (PySem.Str.ofString "_law_first") (504 : Nat), PySem.Value.str (PySem.Str.ofString "/claim/cut.py") (505 : Nat), PySem.Value.int 135 (0 : Nat), PySem.Value.int 1 (0 : Nat), PySem.Value.int 0 (0 : Nat), PySem.Value.int 0 (0 : Nat), PySem.Value.int 3 (0 : Nat), PySem.Value.ref (245 : Nat), PySem.Value.bool true, PySem.Value.int 181 (0 : Nat), PySem.Value.ref (246 : Nat), PySem.Value.none, PySem.Value.ref (247 : Nat), PySem.Value.ref (248 : Nat), PySem.Value.ref (249 : Nat), PySem.Value.int 507 (0 : Nat), PySem.Value.int 135 (0 : Nat), PySem.Value.str (PySem.Str.ofString "/claim/cut.py") (508 : Nat)] }) <|
    @List.cons (Nat × Obj) (@Prod.mk Nat Obj (nat_lit 251) { cls := PySem.Value.type "function", dict := @Option.none Nat, data := PySem.Data.func { name := PySem.Str.ofString "_law_first", qualname := PySem.Str.ofString "_law_first", params := p24, body := PySem.FuncBody.stmts b24, scope := s24, globals := (3 : Nat), closure := [], defaults := PySem.Value.none, kwdefaults := PySem.Value.none, pyModule := PySem.Value.str (PySem.Str.ofString "law_pf0336_01") (447 : Nat), code := PySem.Value.ref (250 : Nat) } }) <|
    @List.cons (Nat × Obj) (@Prod.mk Nat Obj (nat_lit 252) { cls := PySem.Value.type "tuple", dict := @Option.none Nat, data := PySem.Data.seq #[] }) <|
    @List.cons (Nat × Obj) (@Prod.mk Nat Obj (nat_lit 255) { cls := PySem.Value.type "code", dict := @Option.none Nat, data := PySem.Data.fields #[PySem.Value.str (PySem.Str.ofString "_law_agrees") (510 : Nat), PySem.Value.str (PySem.Str.ofString "_law_agrees") (511 : Nat), PySem.Value.str (PySem.Str.ofString "/claim/cut.py") (512 : Nat), PySem.Value.int 137 (0 : Nat), PySem.Value.int 4 (0 : Nat), PySem.Value.int 0 (0 : Nat), PySem.Value.int 0 (0 : Nat), PySem.Value.int 3 (0 : Nat), PySem.Value.ref (252 : Nat), PySem.Value.bool true, PySem.Value.int 181 (0 : Nat), PySem.Value.ref (253 : Nat), PySem.Value.none, PySem.Value.none, PySem.Value.none, PySem.Value.ref (254 : Nat), PySem.Value.int 513 (0 : Nat), PySem.Value.int 137 (0 : Nat), PySem.Value.str (PySem.Str.ofString "/claim/cut.py") (514 : Nat)] }) <|
    @List.cons (Nat × Obj) (@Prod.mk Nat Obj (nat_lit 256) { cls := PySem.Value.type "function", dict := @Option.none Nat, data := PySem.Data.func { name := PySem.Str.ofString "_law_agrees", qualname := PySem.Str.ofString "_law_agrees", params := p25, body := PySem.FuncBody.stmts b25, scope := s25, globals := (3 : Nat), closure := [], defaults := PySem.Value.none, kwdefaults := PySem.Value.none, pyModule := PySem.Value.str (PySem.Str.ofString "law_pf0336_01") (447 : Nat), code := PySem.Value.ref (255 : Nat) } }) <|
    @List.cons (Nat × Obj) (@Prod.mk Nat Obj (nat_lit 257) { cls := PySem.Value.type "tuple", dict := @Option.none Nat, data := PySem.Data.seq #[] }) <|
    @List.cons (Nat × Obj) (@Prod.mk Nat Obj (nat_lit 260) { cls := PySem.Value.type "code", dict := @Option.none Nat, data := PySem.Data.fields #[PySem.Value.str (PySem.Str.ofString "_law_found") (516 : Nat), PySem.Value.str (PySem.Str.ofString "_law_found") (517 : Nat), PySem.Value.str (PySem.Str.ofString "/claim/cut.py") (518 : Nat), PySem.Value.int 144 (0 : Nat), PySem.Value.int 3 (0 : Nat), PySem.Value.int 0 (0 : Nat), PySem.Value.int 0 (0 : Nat), PySem.Value.int 3 (0 : Nat), PySem.Value.ref (257 : Nat), PySem.Value.bool true, PySem.Value.int 181 (0 : Nat), PySem.Value.ref (258 : Nat), PySem.Value.none, PySem.Value.none, PySem.Value.none, PySem.Value.ref (259 : Nat), PySem.Value.int 519 (0 : Nat), PySem.Value.int 144 (0 : Nat), PySem.Value.str (PySem.Str.ofString "/claim/cut.py") (520 : Nat)] }) <|
    @List.cons (Nat × Obj) (@Prod.mk Nat Obj (nat_lit 261) { cls := PySem.Value.type "function", dict := @Option.none Nat, data := PySem.Data.func { name := PySem.Str.ofString "_law_found", qualname := PySem.Str.ofString "_law_found", params := p26, body := PySem.FuncBody.stmts b26, scope := s26, globals := (3 : Nat), closure := [], defaults := PySem.Value.none, kwdefaults := PySem.Value.none, pyModule := PySem.Value.str (PySem.Str.ofString "law_pf0336_01") (447 : Nat), code := PySem.Value.ref (260 : Nat) } }) <|
    @List.cons (Nat × Obj) (@Prod.mk Nat Obj (nat_lit 262) { cls := PySem.Value.type "tuple", dict := @Option.none Nat, data := PySem.Data.seq #[] }) <|
    @List.cons (Nat × Obj) (@Prod.mk Nat Obj (nat_lit 265) { cls := PySem.Value.type "code", dict := @Option.none Nat, data := PySem.Data.fields #[PySem.Value.str (PySem.Str.ofString "law") (522 : Nat), PySem.Value.str (PySem.Str.ofString "law") (523 : Nat), PySem.Value.str (PySem.Str.ofString "/claim/cut.py") (524 : Nat), PySem.Value.int 151 (0 : Nat), PySem.Value.int 1 (0 : Nat), PySem.Value.int 0 (0 : Nat), PySem.Value.int 0 (0 : Nat), PySem.Value.int 3 (0 : Nat), PySem.Value.ref (262 : Nat), PySem.Value.bool true, PySem.Value.int 181 (0 : Nat), PySem.Value.ref (263 : Nat), PySem.Value.none, PySem.Value.none, PySem.Value.none, PySem.Value.ref (264 : Nat), PySem.Value.int 525 (0 : Nat), PySem.Value.int 151 (0 : Nat), PySem.Value.str (PySem.Str.ofString "/claim/cut.py") (526 : Nat)] }) <|
    @List.cons (Nat × Obj) (@Prod.mk Nat Obj (nat_lit 266) { cls := PySem.Value.type "function", dict := @Option.none Nat, data := PySem.Data.func { name := PySem.Str.ofString "law", qualname := PySem.Str.ofString "law", params := p27, body := PySem.FuncBody.stmts b27, scope := s27, globals := (3 : Nat), closure := [], defaults := PySem.Value.none, kwdefaults := PySem.Value.none, pyModule := PySem.Value.str (PySem.Str.ofString "law_pf0336_01") (447 : Nat), code := PySem.Value.ref (265 : Nat) } }) <| @List.nil (Nat × Obj)
noncomputable def hd.view_39 : Program := by
  refine (?f : ∀ (c0 c1 c2 c3 c4 c5 c6 c7 c8 c9 c10 c11 c12 c13 c14 c15 c16 c17 c18 c19 c20 c21 c22 c23 c24 : Stmt) (sc : Scope) (fa : Bool) (fi : Str) (mo : List (Str × Const)) (md : List (Str × Bool × Module)) (pa : List Parse) (ab : List Str) (ha : List Parse) (gi : Given) (_ : Program.mk (Module.mk [c0, c1, c2, c3, c4, c5, c6, c7, c8, c9, c10, c11, c12, c13, c14, c15, c16, c17, c18, c19, c20, c21, c22, c23, c24] sc fa fi mo) md pa ab ha gi = PySem.Challenge.pw_pf0336_01), Program) _ _ _ _ _ _ _ _ _ _ _ _ _ _ _ _ _ _ _ _ _ _ _ _ _ _ _ _ _ _ _ _ _ _ rfl
  exact fun c0 c1 c2 c3 c4 c5 c6 c7 c8 c9 c10 c11 c12 c13 c14 c15 c16 c17 c18 c19 c20 c21 c22 c23 c24 sc fa fi mo md pa ab ha gi _ => Program.mk (Module.mk [c1, c2, c3, c4, c5, c7, c8, c9, c10, c11, c12, c14, c15, c16, c17, c18, c19, c20, c21, c22, c23, c24] ((fun (_ : (Str.ofString "a").cps.size = 1) => sc) (by decide)) fa fi mo) md pa ab ha gi
noncomputable def keysL : List Addr := [2, 3, 15, 22, 24, 25, 27, 28, 29, 30, 31, 32, 35, 42, 43, 44, 47, 54, 56, 57, 59, 60, 61, 62, 63, 66, 68, 69, 71, 72, 73, 75, 76, 78, 79, 87, 88, 90, 91, 93, 94, 95, 96, 97, 98, 99, 102, 104, 105, 107, 108, 109, 111, 112, 114, 115, 116, 118, 119, 121, 122, 130, 132, 133, 135, 136, 137, 139, 140, 142, 143, 144, 146, 147, 149, 150, 151, 153, 154, 156, 157, 158, 160, 161, 163, 164, 165, 167, 168, 170, 171, 172, 174, 175, 177, 178, 179, 181, 182, 184, 185, 186, 187, 188, 189, 190, 193, 195, 196, 198, 199, 200, 202, 203, 205, 206, 207, 209, 210, 212, 213, 214, 216, 217, 219, 220, 221, 224, 225, 226, 229, 230, 231, 233, 234, 236, 237, 238, 240, 241, 243, 244, 245, 247, 248, 250, 251, 252, 255, 256, 257, 260, 261, 262, 265, 266]
theorem keysL_eq : ∀ P, keysL = (hd.heap_39 P).map (·.1) := fun _ => by kernel_rfl
theorem left_top : LeftO PySem.Challenge.pw_pf0336_01 hd.view_39 [] (fun s => xlAt hd.view_39 [] s && recOk (RowW.records (OpenRow.toRowW (OpenLaw.row PySem.Challenge.rw_pf0336_01))) s) (Hook.obs (kHook hd.heap_39 keysL keysL_eq)) (Hook.val (kHook hd.heap_39 keysL keysL_eq)) 3920 := by
  intro w
  unfold openEnds topFrom fencedOpening
  rw [PySem.W.Fast.te14364793385576792824, PySem.W.Fast.te14082659384304107361, PySem.W.Fast.te10274390034422433532, PySem.W.Fast.te4187177175401517315]
  kernel_rfl
theorem said_law : PySem.Challenge.rw_pf0336_01.wellSaid = true := by kernel_rfl
theorem glob1 : namesOk hd.view_39 (looseW hd.view_39 []) (namesW hd.view_39 []) = true := by kernel_rfl
theorem glob2 : importsNone hd.view_39 = true := by kernel_rfl

theorem clr_00 : True := by
  w_top off
  k_with_none
  trivial
local macro_rules | `(tactic| walk_at "kcs9") => `(tactic| ((case B => k_asm); (case F => k_asm); (case X => k_asm); (case N => k_asm); (case T => k_asm); (case k => first | exact rfl | assumption)))
local macro_rules | `(tactic| walk_at "krm9") => `(tactic| ((case d => ktr_room); (case u => first | ktr_units | ((try simp only [units_make, units_in1, units_deeper, Around.mark_units] at *); (try dsimp only [ktrTop] at *); (have hcL9 := cLine_is); omega))))
local macro_rules | `(tactic| walk_at "sw9") => `(tactic| ((try dsimp only); (try k_sweep)))
local macro_rules | `(tactic| walk_at "fin9") => `(tactic| (intros; (try dsimp only); (try k_sweep)))
local macro_rules | `(tactic| walk_at "ssub9") => `(tactic| (with_reducible show wpAny _ _ (subscriptTail _ _ (Value.ref _) (Value.int _ _)) _ _ _))

theorem clr_00b : True := by
  w_top off
  k_with_none
  trivial
noncomputable abbrev tupO (vs : List Value) (n : Nat) : Obj := { cls := .type "tuple", data := .seq vs.toArray n }

/-- a row: span lo..hi, mark k, runs out at u -/
structure Rw where
  lo : Int
  hi : Int
  k : Int
  u : Int
deriving DecidableEq

/-- an element at v bears the row r -/
noncomputable def ElIn (P : Params) (news : List (Addr × Obj)) (v : Value) (r : Rw) : Prop :=
  ∃ e de b c d n1 n2 n3 tlo thi tk tu x1 x2 x3 x4 x5 x6 t0 t1 tc cc,
    v = .ref e ∧ (e, instObj 97 de) ∈ news ∧
    (de, dictOf [⟨PyData.keyHash P "box", .str "box" x1, .ref b⟩, ⟨PyData.keyHash P "data", .str "data" x2, .ref d⟩,
      ⟨PyData.keyHash P "until", .str "until" x3, .int r.u tu⟩, ⟨PyData.keyHash P "timeout", .str "timeout" x4, .int 0 t0⟩,
      ⟨PyData.keyHash P "comment", .str "comment" x5, .str "" tc⟩, ⟨PyData.keyHash P "cells", .str "cells" x6, .ref cc⟩] t1) ∈ news ∧
    (b, tupO [.ref c] n1) ∈ news ∧ (c, tupO [.int r.lo tlo, .int r.hi thi] n2) ∈ news ∧ (d, tupO [.int r.k tk] n3) ∈ news


theorem units_make (A : Around) (C : Addr) (pos : List Value) (kw : List (Str × Value)) : (A.under (.builtin "type.__call__" ⟨.ref C :: pos, kw⟩)).units = A.units + 1 := rfl

local macro_rules | `(tactic| k_mem) => `(tactic| ((repeat (refine List.mem_cons_of_mem _ ?_)); ktr_member))
theorem is_live_c {v : Value} {r : Rw} {now : Int} {t : Tok} (B : Below A₀ base outer h₀) (F : Fr h₀ L s.heap m) (X : (hd.heap_39 w.params).In h₀) (N : News h₀ L s.heap news) (T : Top hd.view_39 (looseW hd.view_39 []) mean mg mb h₀) (hk : cs.kind = .function)
    (hd : dp + 2 < recursionLimit) (hu : un + 20 < cLine) (he : ElIn w.params news v r)
    (ret : ∀ b h' tk', b = (r.u == 0 || decide (now < r.u)) → Fr h₀ L h' m → News h₀ L h' news → Q (.bool b) { s with heap := h', toks := tk' }) :
    wpAny (model PySem.Challenge.rw_pf0336_01.row.prog w) (ktrTop dp un gd cn cs L a ccd cl outer) (call (.ref 108) [v, .int now t]) Q E s := by
  revert X; k_fill; intro X
  obtain ⟨e, de, b, c, d, n1, n2, n3, tlo, thi, tk, tu, x1, x2, x3, x4, x5, x6, t0, t1, tc, cc, rfl, h1, h2, h3, h4, h5⟩ := he
  refine wpAny_call ?_
  k_dflt ktr_enter
  k_steps
  all_goals (refine ret _ _ _ ?_ (by k_asm) (by k_asm); simp_all)

/-- the place: how many rows end ahead of n -/
noncomputable def pIn (R : List Rw) (n : Int) : Nat := (R.takeWhile fun r => decide (r.hi < n)).length
theorem pIn_le (R : List Rw) (n : Int) : pIn R n ≤ R.length := by
  unfold pIn
  induction R with
  | nil => simp
  | cons r R ih => rw [List.takeWhile_cons]; split <;> simp_all
theorem pIn_lt : ∀ (R : List Rw) (n : Int) (i : Nat) (r : Rw), R[i]? = some r → i < pIn R n → r.hi < n := by
  intro R n
  induction R with
  | nil => intro i r h _; simp at h
  | cons x R ih =>
    intro i r h hi
    unfold pIn at hi
    rw [List.takeWhile_cons] at hi
    split at hi
    · cases i with
      | zero => simp at h; subst h; simp_all
      | succ i => exact ih i r (by simpa using h) (by unfold pIn; simpa using hi)
    · simp at hi
theorem pIn_ge : ∀ (R : List Rw) (n : Int), R.Pairwise (fun a b => a.hi ≤ b.hi) → ∀ (i : Nat) (r : Rw), R[i]? = some r → pIn R n ≤ i → n ≤ r.hi := by
  intro R n
  induction R with
  | nil => intro _ i r h _; simp at h
  | cons x R ih =>
    intro hp i r h hi
    rw [List.pairwise_cons] at hp
    unfold pIn at hi
    rw [List.takeWhile_cons] at hi
    split at hi
    · cases i with
      | zero => simp at hi
      | succ i => exact ih hp.2 i r (by simpa using h) (by unfold pIn; simpa using hi)
    · rename_i hx
      have hx' : n ≤ x.hi := by simpa using hx
      cases i with
      | zero => simp at h; subst h; exact hx'
      | succ i =>
        have := hp.1 r (List.mem_of_getElem? (by simpa using h))
        omega

theorem clr_01 : True := by
  w_top off
  k_with_none
  trivial
inductive All2 (R : Value → Rw → Prop) : List Value → List Rw → Prop
  | nil : All2 R [] []
  | cons {v r vs rs} : R v r → All2 R vs rs → All2 R (v :: vs) (r :: rs)
theorem All2.length {R vs rs} (h : All2 R vs rs) : vs.length = rs.length := by
  induction h with
  | nil => rfl
  | cons _ _ ih => simp [ih]
theorem All2.get {R vs rs} (h : All2 R vs rs) : ∀ {i : Nat}, i < rs.length → ∃ v r, vs[i]? = some v ∧ rs[i]? = some r ∧ R v r := by
  induction h with
  | nil => intro i hi; simp at hi
  | cons h _ ih =>
    intro i hi
    cases i with
    | zero => exact ⟨_, _, rfl, rfl, h⟩
    | succ i => exact ih (by simpa using hi)
theorem All2.mono {R R' : Value → Rw → Prop} (hm : ∀ v r, R v r → R' v r) {vs rs} (h : All2 R vs rs) : All2 R' vs rs := by
  induction h with
  | nil => exact .nil
  | cons h _ ih => exact .cons (hm _ _ h) ih

theorem fdiv2 (x : Int) : Int.fdiv x 2 = x / 2 := Int.fdiv_eq_ediv_of_nonneg x (by omega)
theorem map4 {m₁ : Str → Option Value} {x1 x2 x3 x4 : Str} {v1 v2 v3 v4 : Value} (h1 : m₁ x1 = some v1) (h2 : m₁ x2 = some v2) (h3 : m₁ x3 = some v3) (h4 : m₁ x4 = some v4) :
    m₁ = fun k => if k = x1 then some v1 else if k = x2 then some v2 else if k = x3 then some v3 else if k = x4 then some v4 else m₁ k := by
  funext k
  by_cases a1 : k = x1
  · simp [a1, h1]
  · by_cases a2 : k = x2
    · subst a2; simp [a1, h2]
    · by_cases a3 : k = x3
      · subst a3; simp [a1, a2, h3]
      · by_cases a4 : k = x4
        · subst a4; simp [a1, a2, a3, h4]
        · simp [a1, a2, a3, a4]

theorem item_el {prog : Program} {A : Around} {P : Params} {value slice : PySem.Expr} {l : Addr} {vs : List Value} {rs : List Rw} {nn : Nat} {k : Int} {u : Tok} {Q : Value → Shared → Prop} (N : News h₀ L s.heap news) (hm : (l, listOf vs.toArray nn) ∈ news)
    (he : All2 (ElIn P news) vs rs) (h0 : 0 ≤ k) (h1 : k < (rs.length : Int)) (h8 : rs.length < 64)
    (h : ∀ v r, rs[k.toNat]? = some r → ElIn P news v r → Q v s)
    (hs : subscripted slice false (.ref l) (.int k u) = operate [.ref l, .int k u] (getItem (.ref l) (.int k u)) := by with_unfolding_all rfl) :
    wpAny (model prog w) A (subscriptTail value slice (.ref l) (.int k u)) Q E s := by
  obtain ⟨v, r, hv, hr, hR⟩ := he.get (i := k.toNat) (by omega)
  exact item_litK ⟨_, (N _ hm).1, rfl, nn, rfl⟩ h0 (by omega) hv (h v r hr hR) hs
theorem item_elE {prog : Program} {A : Around} {P : Params} {value slice : PySem.Expr} {l : Addr} {vs : List Value} {rs : List Rw} {nn : Nat} {k : Int} {u : Tok} {Q : Value → Shared → Prop} (N : News h₀ L s.heap news) (hm : (l, listOf vs.toArray nn) ∈ news)
    (he : All2 (ElIn P news) vs rs) (h0 : 0 ≤ k) (h1 : k < (rs.length : Int)) (h8 : rs.length < 64)
    (h : ∀ r, rs[k.toNat]? = some r → ∀ e de b c d n1 n2 n3 tlo thi tk tu x1 x2 x3 x4 x5 x6 t0 t1 tc cc, (e, instObj 97 de) ∈ news → (de, dictOf [⟨PyData.keyHash P "box", .str "box" x1, .ref b⟩, ⟨PyData.keyHash P "data", .str "data" x2, .ref d⟩, ⟨PyData.keyHash P "until", .str "until" x3, .int r.u tu⟩, ⟨PyData.keyHash P "timeout", .str "timeout" x4, .int 0 t0⟩, ⟨PyData.keyHash P "comment", .str "comment" x5, .str "" tc⟩, ⟨PyData.keyHash P "cells", .str "cells" x6, .ref cc⟩] t1) ∈ news → (b, tupO [.ref c] n1) ∈ news → (c, tupO [.int r.lo tlo, .int r.hi thi] n2) ∈ news → (d, tupO [.int r.k tk] n3) ∈ news → ElIn P news (.ref e) r → Q (.ref e) s)
    (hs : subscripted slice false (.ref l) (.int k u) = operate [.ref l, .int k u] (getItem (.ref l) (.int k u)) := by with_unfolding_all rfl) :
    wpAny (model prog w) A (subscriptTail value slice (.ref l) (.int k u)) Q E s :=
  item_el N hm he h0 h1 h8 (fun v r hr hR => by
    have hR' := hR
    obtain ⟨e, de, b, c, d, n1, n2, n3, tlo, thi, tk, tu, x1, x2, x3, x4, x5, x6, t0, t1, tc, cc, rfl, g1, g2, g3, g4, g5⟩ := hR
    exact h r hr e de b c d n1 n2 n3 tlo thi tk tu x1 x2 x3 x4 x5 x6 t0 t1 tc cc g1 g2 g3 g4 g5 hR') hs
theorem item_el2E {prog : Program} {A : Around} {P : Params} {value slice : PySem.Expr} {l : Addr} {vs : List Value} {rs : List Rw} {nn : Nat} {k : Int} {u : Tok} {r : Rw} {Q : Value → Shared → Prop} (N : News h₀ L s.heap news) (hm : (l, listOf vs.toArray nn) ∈ news)
    (he : All2 (ElIn P news) vs rs) (hold : rs[k.toNat]? = some r) (h0 : 0 ≤ k) (h1 : k < (rs.length : Int)) (h8 : rs.length < 64)
    (h : ∀ e de b c d n1 n2 n3 tlo thi tk tu x1 x2 x3 x4 x5 x6 t0 t1 tc cc, (e, instObj 97 de) ∈ news → (de, dictOf [⟨PyData.keyHash P "box", .str "box" x1, .ref b⟩, ⟨PyData.keyHash P "data", .str "data" x2, .ref d⟩, ⟨PyData.keyHash P "until", .str "until" x3, .int r.u tu⟩, ⟨PyData.keyHash P "timeout", .str "timeout" x4, .int 0 t0⟩, ⟨PyData.keyHash P "comment", .str "comment" x5, .str "" tc⟩, ⟨PyData.keyHash P "cells", .str "cells" x6, .ref cc⟩] t1) ∈ news → (b, tupO [.ref c] n1) ∈ news → (c, tupO [.int r.lo tlo, .int r.hi thi] n2) ∈ news → (d, tupO [.int r.k tk] n3) ∈ news → ElIn P news (.ref e) r → Q (.ref e) s)
    (hs : subscripted slice false (.ref l) (.int k u) = operate [.ref l, .int k u] (getItem (.ref l) (.int k u)) := by with_unfolding_all rfl) :
    wpAny (model prog w) A (subscriptTail value slice (.ref l) (.int k u)) Q E s :=
  item_elE N hm he h0 h1 h8 (fun r' hr => by rw [hold] at hr; cases hr; exact h) hs
theorem len_all {prog : Program} {A : Around} {R' : Value → Rw → Prop} {l : Addr} {vs : List Value} {rs : List Rw} {nn : Nat} {Q : Value → Shared → Prop} (N : News h₀ L s.heap news) (hm : (l, listOf vs.toArray nn) ∈ news)
    (he : All2 R' vs rs) (h8 : rs.length < 64) (h : Q (.int rs.length (s.toks + 1)) { s with toks := s.toks + 1 + 1 }) :
    wpAny (model prog w) A (call (.builtin "len") [.ref l]) Q E s := by
  have hl : vs.toArray.size = rs.length := by simp [he.length]
  refine len_list ⟨_, (N _ hm).1, rfl, nn, rfl⟩ (by rw [hl]; omega) ?_
  rw [hl]; exact h

theorem ws2 {h₀ h' : Heap} {L : Addr} {s : Shared} {J : Nat → (Str → Option Value) → List (Addr × Obj) → Prop} {Q : Flow → Shared → Prop} {n : Nat} {m₂ : Str → Option Value} {news₂ : List (Addr × Obj)} {tk : Nat} (n' : Nat)
    (F : Fr h₀ L h' m₂) (N : News h₀ L h' news₂) (hn : n' < n) (hJ : J n' m₂ news₂) : WhileStep2 h₀ L s J Q n .next { s with heap := h', toks := tk } := ⟨_, _, _, _, _, rfl, F, N, hn, hJ⟩
theorem pin1 {R : List Rw} {n k : Int} {r : Rw} (hs : R.Pairwise fun a b => a.hi ≤ b.hi) (hr : R[k.toNat]? = some r) (h : r.hi < n) (h0 : 0 ≤ k) : k + 1 ≤ (pIn R n : Int) := by
  rcases Nat.lt_or_ge k.toNat (pIn R n) with g | g
  · omega
  · have := pIn_ge R n hs _ _ hr g; omega
theorem pin2 {R : List Rw} {n k : Int} {r : Rw} (hr : R[k.toNat]? = some r) (h : ¬ r.hi < n) (h0 : 0 ≤ k) : (pIn R n : Int) ≤ k := by
  rcases Nat.lt_or_ge k.toNat (pIn R n) with g | g
  · exact absurd (pIn_lt R n _ _ hr g) h
  · omega

local macro_rules | `(tactic| walk_at "subscriptTail") => `(tactic| (k_here; walk_at "ssub9"; k_dflt (refine' item_tupleT ?t ?a ?b ?c ?d ?_; (case t => exact News.isTup (by k_asm) (by k_mem)); (case a => decide); (case b => decide); (case c => rfl); (case d => rfl); k_whole)))
local macro_rules | `(tactic| walk_at "call builtin:len") => `(tactic| (k_here; (with_reducible show wpAny _ _ (call (Value.builtin _) [Value.ref _]) _ _ _); k_dflt (refine' len_all ?N ?m ?e ?u ?_; (case N => k_asm); (case m => k_mem); (case e => with_reducible assumption); (case u => with_reducible assumption); k_whole)))
local macro_rules | `(tactic| walk_at "elE9") => `(tactic| (k_here; walk_at "ssub9"; k_dflt (refine' item_elE ?N ?m ?e ?a ?b ?u ?_; (case N => k_asm); (case m => k_mem); (case e => with_reducible assumption); (case u => with_reducible assumption); (case a => first | omega | (simp only [fdiv2]; omega)); (case b => first | omega | (simp only [fdiv2]; omega))); intros))
local macro_rules | `(tactic| walk_at "subscriptTail Name Name ref int") => `(tactic| walk_at "elE9")
local macro_rules | `(tactic| walk_at "subscriptTail Attribute Name ref int") => `(tactic| walk_at "elE9")
local macro_rules | `(tactic| walk_at "subscriptTail Attribute Name Name ref int") => `(tactic| walk_at "elE9")
local macro_rules | `(tactic| walk_at "el2E9") => `(tactic| (k_here; walk_at "ssub9"; k_dflt (refine' item_el2E ?N ?m ?e ?o ?a ?b ?u ?_; (case N => k_asm); (case m => k_mem); (case e => with_reducible assumption); (case o => with_reducible assumption); (case u => with_reducible assumption); (case a => omega); (case b => omega)); intros))
local macro_rules | `(tactic| walk_at "subscriptTail Name Name ref int") => `(tactic| walk_at "el2E9")
local macro_rules | `(tactic| walk_at "subscriptTail Attribute Name ref int") => `(tactic| walk_at "el2E9")
local macro_rules | `(tactic| walk_at "subscriptTail Attribute Name Name ref int") => `(tactic| walk_at "el2E9")
local macro_rules | `(tactic| walk_at "exec While Compare cons nil") => `(tactic| k_extra "while1")

theorem place_in_c {li : Addr} {vs : List Value} {R : List Rw} {nn : Nat} {n : Int} {t : Tok} (B : Below A₀ base outer h₀) (F : Fr h₀ L s.heap m) (X : (hd.heap_39 w.params).In h₀) (N : News h₀ L s.heap news) (T : Top hd.view_39 (looseW hd.view_39 []) mean mg mb h₀) (hk : cs.kind = .function)
    (hd : dp + 2 < recursionLimit) (hu : un + 20 < cLine) (hm : (li, listOf vs.toArray nn) ∈ news) (he : All2 (ElIn w.params news) vs R) (h8 : R.length < 64) (hs : R.Pairwise fun a b => a.hi ≤ b.hi)
    (ret : ∀ h' tk' t', Fr h₀ L h' m → News h₀ L h' news → Q (.int (pIn R n) t') { s with heap := h', toks := tk' }) :
    wpAny (model PySem.Challenge.rw_pf0336_01.row.prog w) (ktrTop dp un gd cn cs L a ccd cl outer) (call (.ref 115) [.ref li, .int n t]) Q E s := by
  revert X; k_fill; intro X
  k_with "while1" => (
    (refine' While_inv2 (n₀ := R.length) (fun k m₁ news₁ => news = news₁ ∧ ∃ (lo hi : Int) (tl th : Tok), m₁ (Str.ofString "low") = some (.int lo tl) ∧ m₁ (Str.ofString "high") = some (.int hi th) ∧ m₁ (Str.ofString "items") = some (.ref li) ∧ m₁ (Str.ofString "n") = some (.int n t) ∧ 0 ≤ lo ∧ lo ≤ (pIn R n : Int) ∧ (pIn R n : Int) ≤ hi ∧ hi ≤ (R.length : Int) ∧ (k : Int) = hi - lo) ?wF ?wN ?wJ ?wT)
    (case wF => k_asm)
    (case wN => k_asm)
    (case wJ => exact ⟨rfl, 0, R.length, _, _, rfl, rfl, rfl, rfl, by omega, by omega, by (have := pIn_le R n); omega, by omega, by omega⟩)
    (rintro k1 m1 news1 h1 tk1 F1 N1 ⟨rfl, lo, hi, tl, th, e1, e2, e3, e4, b1, b2, b3, b4, b5⟩)
    (rw [map4 e1 e2 e3 e4] at F1)
    (clear e1 e2 e3 e4)
    (try k_fold))
  refine wpAny_call ?_
  k_dflt ktr_enter
  k_steps
  all_goals first
    | ((have z := pin1 hs (by assumption) (by assumption) (by simp only [fdiv2]; omega)); simp only [fdiv2] at z; refine ws2 (hi - ((lo + hi) / 2 + 1)).toNat (by k_asm) (by k_asm) (by omega) ⟨rfl, _, _, _, _, rfl, rfl, rfl, rfl, ?_⟩; simp only [fdiv2]; exact ⟨by omega, by omega, by omega, by omega, Int.toNat_of_nonneg (by omega)⟩)
    | ((have z := pin2 (by assumption) (by assumption) (by simp only [fdiv2]; omega)); simp only [fdiv2] at z; refine ws2 ((lo + hi) / 2 - lo).toNat (by k_asm) (by k_asm) (by omega) ⟨rfl, _, _, _, _, rfl, rfl, rfl, rfl, ?_⟩; simp only [fdiv2]; exact ⟨by omega, by omega, by omega, by omega, Int.toNat_of_nonneg (by omega)⟩)
    | ((have z : lo = pIn R n := by omega); subst z; exact ret _ _ _ (by k_asm) (by k_asm))

theorem clr_02 : True := by
  w_top off
  k_with_none
  trivial
theorem ElIn.sub {P : Params} {n1 n2 : List (Addr × Obj)} {v : Value} {r : Rw} (h : ElIn P n1 v r) (hs : ∀ p ∈ n1, p ∈ n2) : ElIn P n2 v r := by
  obtain ⟨e, de, b, c, d, k1, k2, k3, tlo, thi, tk, tu, x1, x2, x3, x4, x5, x6, t0, t1, tc, cc, rfl, h1, h2, h3, h4, h5⟩ := h
  exact ⟨e, de, b, c, d, k1, k2, k3, tlo, thi, tk, tu, x1, x2, x3, x4, x5, x6, t0, t1, tc, cc, rfl, hs _ h1, hs _ h2, hs _ h3, hs _ h4, hs _ h5⟩
theorem All2.sub {P : Params} {n1 n2 : List (Addr × Obj)} {vs : List Value} {R : List Rw} (h : All2 (ElIn P n1) vs R) (hs : ∀ p ∈ n1, p ∈ n2) : All2 (ElIn P n2) vs R := h.mono fun _ _ x => x.sub hs

/-- a box at v: the span lo..hi -/
noncomputable def BoxIn (news : List (Addr × Obj)) (v : Value) (lo hi : Int) : Prop :=
  ∃ b c n1 n2 tlo thi, v = .ref b ∧ (b, tupO [.ref c] n1) ∈ news ∧ (c, tupO [.int lo tlo, .int hi thi] n2) ∈ news
theorem BoxIn.sub {n1 n2 : List (Addr × Obj)} {v : Value} {lo hi : Int} (h : BoxIn n1 v lo hi) (hs : ∀ p ∈ n1, p ∈ n2) : BoxIn n2 v lo hi := by
  obtain ⟨b, c, k1, k2, tlo, thi, rfl, h1, h2⟩ := h
  exact ⟨b, c, k1, k2, tlo, thi, rfl, hs _ h1, hs _ h2⟩

noncomputable def boxAt (R : List Rw) (lo hi : Int) : Int := match R[pIn R lo]? with
  | some r => if r.lo = lo ∧ r.hi = hi then (pIn R lo : Int) else -1
  | none => -1

theorem boxAt_lt (R : List Rw) (lo hi : Int) : boxAt R lo hi < (R.length : Int) := by
  unfold boxAt
  cases h : R[pIn R lo]? with
  | none => simp; omega
  | some r =>
    have := (List.getElem?_eq_some_iff.mp h).1
    by_cases g : r.lo = lo ∧ r.hi = hi
    · simp [g]; omega
    · simp [if_neg g]; omega


local macro_rules | `(tactic| walk_at "call builtin:len") => `(tactic| (k_here; (with_reducible show wpAny _ _ (call (Value.builtin _) [Value.ref _]) _ _ _); k_dflt (refine' len_all ?N ?m ?e ?u ?_; (case N => k_asm); (case m => k_mem); (case e => with_reducible assumption); (case u => with_reducible assumption); k_whole)))
local macro_rules | `(tactic| walk_at "call ref") => `(tactic| (k_here; (with_reducible show wpAny _ _ (call (Value.ref 115) [Value.ref _, Value.int _ _]) _ _ _); k_dflt (refine' place_in_c ?B ?F ?X ?N ?T ?k ?d ?u ?m ?e ?z ?s ?_; (case B => k_asm); (case F => k_asm); (case X => k_asm); (case N => k_asm); (case T => k_asm); (case k => first | exact rfl | assumption); (case m => k_mem); (case e => with_reducible assumption); (case z => with_reducible assumption); (case s => with_reducible assumption); (case d => ktr_room); (case u => ktr_units)); walk_at "fin9"))

theorem place_of_box_c {li : Addr} {vs : List Value} {R : List Rw} {nn : Nat} {bv : Value} {lo hi : Int} (B : Below A₀ base outer h₀) (F : Fr h₀ L s.heap m) (X : (hd.heap_39 w.params).In h₀) (N : News h₀ L s.heap news) (T : Top hd.view_39 (looseW hd.view_39 []) mean mg mb h₀) (hk : cs.kind = .function)
    (hd : dp + 5 < recursionLimit) (hu : un + 200 < cLine) (hm : (li, listOf vs.toArray nn) ∈ news) (he : All2 (ElIn w.params news) vs R) (h8 : R.length < 64) (hs : R.Pairwise fun a b => a.hi ≤ b.hi) (hb : BoxIn news bv lo hi)
    (ret : ∀ h' tk' t' k, k = boxAt R lo hi → k < (R.length : Int) → Fr h₀ L h' m → News h₀ L h' news → Q (.int k t') { s with heap := h', toks := tk' }) :
    wpAny (model PySem.Challenge.rw_pf0336_01.row.prog w) (ktrTop dp un gd cn cs L a ccd cl outer) (call (.ref 122) [.ref li, bv]) Q E s := by
  revert X; k_fill; intro X
  obtain ⟨b, c, k1, k2, tlo, thi, rfl, h1, h2⟩ := hb
  have hple := pIn_le R lo
  refine wpAny_call ?_
  k_dflt ktr_enter
  k_steps
  all_goals (
    refine (fun z => ret _ _ _ _ z (z ▸ boxAt_lt R lo hi) (by k_asm) (by k_asm)) ?_
    unfold boxAt
    simp_all)

theorem clr_03 : True := by
  w_top off
  k_with_none
  trivial
/-- a row lives at now -/
noncomputable def live (r : Rw) (now : Int) : Bool := r.u == 0 || decide (now < r.u)
noncomputable def rAt (R : List Rw) (lo hi now : Int) : Option Rw := match R[pIn R lo]? with
  | some r => if r.lo = lo ∧ r.hi = hi ∧ live r now = true then some r else none
  | none => none
noncomputable def rFind (R : List Rw) (n now : Int) : Option Rw := match R[pIn R n]? with
  | some r => if r.lo ≤ n ∧ live r now = true then some r else none
  | none => none
noncomputable def OptEl (P : Params) (news : List (Addr × Obj)) (v : Value) (o : Option Rw) : Prop := match o with
  | none => v = .none
  | some r => ElIn P news v r


local macro_rules | `(tactic| walk_at "call builtin:len") => `(tactic| (k_here; (with_reducible show wpAny _ _ (call (Value.builtin _) [Value.ref _]) _ _ _); k_dflt (refine' len_all ?N ?m ?e ?u ?_; (case N => k_asm); (case m => k_mem); (case e => with_reducible assumption); (case u => with_reducible assumption); k_whole)))
local macro_rules | `(tactic| walk_at "call ref") => `(tactic| (k_here; (with_reducible show wpAny _ _ (call (Value.ref 115) [Value.ref _, Value.int _ _]) _ _ _); k_dflt (refine' place_in_c ?B ?F ?X ?N ?T ?k ?d ?u ?m ?e ?z ?s ?_; (case B => k_asm); (case F => k_asm); (case X => k_asm); (case N => k_asm); (case T => k_asm); (case k => first | exact rfl | assumption); (case m => k_mem); (case e => with_reducible assumption); (case z => with_reducible assumption); (case s => with_reducible assumption); (case d => ktr_room); (case u => ktr_units)); walk_at "fin9"))

local macro_rules | `(tactic| walk_at "call ref") => `(tactic| (k_here; (with_reducible show wpAny _ _ (call (Value.ref 108) [Value.ref _, Value.int _ _]) _ _ _); k_dflt (refine' is_live_c ?B ?F ?X ?N ?T ?k ?d ?u ?e ?_; (case B => k_asm); (case F => k_asm); (case X => k_asm); (case N => k_asm); (case T => k_asm); (case k => first | exact rfl | assumption); (case e => with_reducible assumption); (case d => ktr_room); (case u => ktr_units)); walk_at "fin9"))
local macro_rules | `(tactic| walk_at "call ref") => `(tactic| (k_here; (with_reducible show wpAny _ _ (call (Value.ref 122) [Value.ref _, Value.ref _]) _ _ _); k_dflt (refine' place_of_box_c ?B ?F ?X ?N ?T ?k ?d ?u ?m ?e ?z ?s ?b ?_; (case B => k_asm); (case F => k_asm); (case X => k_asm); (case N => k_asm); (case T => k_asm); (case k => first | exact rfl | assumption); (case m => k_mem); (case e => with_reducible assumption); (case z => with_reducible assumption); (case s => with_reducible assumption); (case b => with_reducible assumption); (case d => ktr_room); (case u => ktr_units)); walk_at "fin9"))

theorem boxAt_cases (R : List Rw) (lo hi : Int) : boxAt R lo hi < 0 ∧ (∀ r, R[pIn R lo]? = some r → ¬ (r.lo = lo ∧ r.hi = hi)) ∨ ∃ r, boxAt R lo hi = (pIn R lo : Int) ∧ R[pIn R lo]? = some r ∧ r.lo = lo ∧ r.hi = hi ∧ pIn R lo < R.length := by
  unfold boxAt
  cases h : R[pIn R lo]? with
  | none => left; simp
  | some r =>
    by_cases g : r.lo = lo ∧ r.hi = hi
    · right; exact ⟨r, by simp [g], rfl, g.1, g.2, (List.getElem?_eq_some_iff.mp h).1⟩
    · left; simp only [if_neg g]; exact ⟨by omega, fun r' e => by cases e; exact g⟩

theorem at_none1 {R : List Rw} {lo hi now k : Int} (hk : k = boxAt R lo hi) (h : k < 0) : rAt R lo hi now = none := by
  unfold rAt
  rcases boxAt_cases R lo hi with ⟨z1, z2⟩ | ⟨r, z1, z2, z3, z4, z5⟩
  · cases g : R[pIn R lo]? with
    | none => rfl
    | some r => have := z2 r g; simp only []; rw [if_neg fun q => this ⟨q.1, q.2.1⟩]
  · omega
theorem at_none2 {R : List Rw} {lo hi now k : Int} {r : Rw} {b : Bool} (hk : k = boxAt R lo hi) (h0 : 0 ≤ k) (hb : b = (r.u == 0 || decide (now < r.u))) (h : b = false) (hr : R[k.toNat]? = some r) : rAt R lo hi now = none := by
  unfold rAt
  rcases boxAt_cases R lo hi with ⟨z1, z2⟩ | ⟨r', z1, z2, z3, z4, z5⟩
  · omega
  · have e : k.toNat = pIn R lo := by omega
    rw [e, z2] at hr; cases hr
    rw [z2]; simp only []; rw [if_neg fun q => by have g := q.2.2; unfold live at g; rw [← hb, h] at g; exact Bool.false_ne_true g]
theorem at_some {R : List Rw} {lo hi now k : Int} {r r2 : Rw} {b : Bool} (hk : k = boxAt R lo hi) (h0 : 0 ≤ k) (hr : R[k.toNat]? = some r) (hr2 : R[k.toNat]? = some r2) (hb : b = (r.u == 0 || decide (now < r.u))) (h : b = true) : rAt R lo hi now = some r2 := by
  unfold rAt
  rw [hr] at hr2; cases hr2
  rcases boxAt_cases R lo hi with ⟨z1, z2⟩ | ⟨r', z1, z2, z3, z4, z5⟩
  · omega
  · have e : k.toNat = pIn R lo := by omega
    rw [e, z2] at hr; cases hr
    rw [z2]; simp only []; rw [if_pos ⟨z3, z4, by unfold live; rw [← hb]; exact h⟩]

theorem at_someE {P : Params} {n1 : List (Addr × Obj)} {v : Value} {R : List Rw} {lo hi now k : Int} {r r2 : Rw} {b : Bool} (he : ElIn P n1 v r2) (hk : k = boxAt R lo hi) (h0 : 0 ≤ k) (hb : b = (r.u == 0 || decide (now < r.u))) (h : b = true) (hr : R[k.toNat]? = some r) (hr2 : R[k.toNat]? = some r2) : OptEl P n1 v (rAt R lo hi now) := by
  rw [at_some hk h0 hr hr2 hb h]; exact he
theorem at_c {st dd li : Addr} {vs : List Value} {R : List Rw} {nn : Nat} {bv : Value} {lo hi now : Int} {x t : Tok} (B : Below A₀ base outer h₀) (F : Fr h₀ L s.heap m) (X : (hd.heap_39 w.params).In h₀) (N : News h₀ L s.heap news) (T : Top hd.view_39 (looseW hd.view_39 []) mean mg mb h₀) (hk : cs.kind = .function)
    (hd : dp + 8 < recursionLimit) (hu : un + 300 < cLine) (hst : (st, instObj 188 dd) ∈ news) (hdd : (dd, dictOf [⟨PyData.keyHash w.params "items", .str "items" x, .ref li⟩] 1) ∈ news) (hm : (li, listOf vs.toArray nn) ∈ news) (he : All2 (ElIn w.params news) vs R) (h8 : R.length < 64) (hs : R.Pairwise fun a b => a.hi ≤ b.hi) (hb : BoxIn news bv lo hi)
    (ret : ∀ h' tk' v, OptEl w.params news v (rAt R lo hi now) → Fr h₀ L h' m → News h₀ L h' news → Q v { s with heap := h', toks := tk' }) :
    wpAny (model PySem.Challenge.rw_pf0336_01.row.prog w) (ktrTop dp un gd cn cs L a ccd cl outer) (call (.ref 150) [.ref st, bv, .int now t]) Q E s := by
  revert X; k_fill; intro X
  have hb' := hb
  obtain ⟨b, c, k1, k2, tlo, thi, rfl, h1, h2⟩ := hb'
  refine wpAny_call ?_
  k_dflt ktr_enter
  k_steps
  all_goals (refine ret _ _ _ ?_ (by k_asm) (by k_asm); first
    | (rw [at_none1 (by assumption) (by assumption)]; exact rfl)
    | (rw [at_none2 (by assumption) (by omega) (by assumption) (by first | assumption | simp_all) (by assumption)]; exact rfl)
    | exact at_someE (by assumption) (by assumption) (by omega) (by assumption) (by first | assumption | simp_all) (by assumption) (by assumption))

theorem clr_04 : True := by
  w_top off
  k_with_none
  trivial
/-- a row's value at v -/
noncomputable def RowIn (news : List (Addr × Obj)) (v : Value) (r : Rw) : Prop :=
  ∃ q b c d n0 n1 n2 n3 tlo thi tk tu, v = .ref q ∧ (q, tupO [.ref b, .ref d, .int r.u tu] n0) ∈ news ∧ (b, tupO [.ref c] n1) ∈ news ∧ (c, tupO [.int r.lo tlo, .int r.hi thi] n2) ∈ news ∧ (d, tupO [.int r.k tk] n3) ∈ news
theorem RowIn.sub {n1 n2 : List (Addr × Obj)} {v : Value} {r : Rw} (h : RowIn n1 v r) (hs : ∀ p ∈ n1, p ∈ n2) : RowIn n2 v r := by
  obtain ⟨q, b, c, d, k0, k1, k2, k3, tlo, thi, tk, tu, rfl, h0, h1, h2, h3⟩ := h
  exact ⟨q, b, c, d, k0, k1, k2, k3, tlo, thi, tk, tu, rfl, hs _ h0, hs _ h1, hs _ h2, hs _ h3⟩

theorem lives_c {v : Value} {r : Rw} {now : Int} {t : Tok} (B : Below A₀ base outer h₀) (F : Fr h₀ L s.heap m) (X : (hd.heap_39 w.params).In h₀) (N : News h₀ L s.heap news) (T : Top hd.view_39 (looseW hd.view_39 []) mean mg mb h₀) (hk : cs.kind = .function)
    (hd : dp + 2 < recursionLimit) (hu : un + 20 < cLine) (he : RowIn news v r)
    (ret : ∀ b h' tk', b = live r now → Fr h₀ L h' m → News h₀ L h' news → Q (.bool b) { s with heap := h', toks := tk' }) :
    wpAny (model PySem.Challenge.rw_pf0336_01.row.prog w) (ktrTop dp un gd cn cs L a ccd cl outer) (call (.ref 213) [v, .int now t]) Q E s := by
  revert X; k_fill; intro X
  obtain ⟨q, b, c, d, k0, k1, k2, k3, tlo, thi, tk, tu, rfl, h0, h1, h2, h3⟩ := he
  refine wpAny_call ?_
  k_dflt ktr_enter
  k_steps
  all_goals (refine ret _ _ _ ?_ (by k_asm) (by k_asm); unfold live; simp_all)

/-- two spans meet -/
noncomputable def near (lo hi lo' hi' : Int) : Bool := decide (lo ≤ hi ∧ lo ≤ hi' ∧ lo' ≤ hi ∧ lo' ≤ hi')
theorem near_eq (lo hi lo' hi' : Int) : decide ((if lo' > lo then lo' else lo) ≤ if hi' < hi then hi' else hi) = near lo hi lo' hi' := by
  unfold near
  refine decide_eq_decide.mpr ?_
  by_cases a : lo' > lo
  · by_cases b : hi' < hi
    · rw [if_pos a, if_pos b]; omega
    · rw [if_pos a, if_neg b]; omega
  · by_cases b : hi' < hi
    · rw [if_neg a, if_pos b]; omega
    · rw [if_neg a, if_neg b]; omega

theorem near_c {v v' : Value} {lo hi lo' hi' : Int} (B : Below A₀ base outer h₀) (F : Fr h₀ L s.heap m) (X : (hd.heap_39 w.params).In h₀) (N : News h₀ L s.heap news) (T : Top hd.view_39 (looseW hd.view_39 []) mean mg mb h₀) (hk : cs.kind = .function)
    (hd : dp + 2 < recursionLimit) (hu : un + 20 < cLine) (h1 : BoxIn news v lo hi) (h2 : BoxIn news v' lo' hi')
    (ret : ∀ b h' tk', b = near lo hi lo' hi' → Fr h₀ L h' m → News h₀ L h' news → Q (.bool b) { s with heap := h', toks := tk' }) :
    wpAny (model PySem.Challenge.rw_pf0336_01.row.prog w) (ktrTop dp un gd cn cs L a ccd cl outer) (call (.ref 220) [v, v']) Q E s := by
  revert X; k_fill; intro X
  obtain ⟨b, c, k1, k2, tlo, thi, rfl, g1, g2⟩ := h1
  obtain ⟨b', c', k1', k2', tlo', thi', rfl, g1', g2'⟩ := h2
  refine wpAny_call ?_
  k_dflt ktr_enter
  k_steps
  exact ret _ _ _ (near_eq lo hi lo' hi') (by k_asm) (by k_asm)

theorem shown_none_c (B : Below A₀ base outer h₀) (F : Fr h₀ L s.heap m) (X : (hd.heap_39 w.params).In h₀) (N : News h₀ L s.heap news) (T : Top hd.view_39 (looseW hd.view_39 []) mean mg mb h₀) (hk : cs.kind = .function)
    (hd : dp + 2 < recursionLimit) (hu : un + 20 < cLine)
    (ret : ∀ h' tk', Fr h₀ L h' m → News h₀ L h' news → Q .none { s with heap := h', toks := tk' }) :
    wpAny (model PySem.Challenge.rw_pf0336_01.row.prog w) (ktrTop dp un gd cn cs L a ccd cl outer) (call (.ref 237) [.none]) Q E s := by
  revert X; k_fill; intro X
  refine wpAny_call ?_
  k_dflt ktr_enter
  k_steps
  all_goals exact ret _ _ (by k_asm) (by k_asm)

theorem shown_c {v : Value} {r : Rw} (B : Below A₀ base outer h₀) (F : Fr h₀ L s.heap m) (X : (hd.heap_39 w.params).In h₀) (N : News h₀ L s.heap news) (T : Top hd.view_39 (looseW hd.view_39 []) mean mg mb h₀) (hk : cs.kind = .function)
    (hd : dp + 2 < recursionLimit) (hu : un + 20 < cLine) (he : ElIn w.params news v r)
    (ret : ∀ h' tk' q b d tu, Fr h₀ L h' m → News h₀ L h' ((q, tupO [.ref b, .ref d, .int r.u tu] 0) :: news) → (∀ p ∈ news, p.1 < q) → RowIn ((q, tupO [.ref b, .ref d, .int r.u tu] 0) :: news) (.ref q) r → Q (.ref q) { s with heap := h', toks := tk' }) :
    wpAny (model PySem.Challenge.rw_pf0336_01.row.prog w) (ktrTop dp un gd cn cs L a ccd cl outer) (call (.ref 237) [v]) Q E s := by
  revert X; k_fill; intro X
  obtain ⟨e, de, b, c, d, k1, k2, k3, tlo, thi, tk, tu, x1, x2, x3, x4, x5, x6, t0, t1, tc, cc, rfl, h1, h2, h3, h4, h5⟩ := he
  refine wpAny_call ?_
  k_dflt ktr_enter
  k_steps
  exact ret _ _ _ _ _ _ (by k_asm) (by k_asm) (by assumption) ⟨_, b, c, d, _, k1, k2, k3, tlo, thi, _, _, rfl, .head _, .tail _ h3, .tail _ h4, .tail _ h5⟩

theorem find_none1 {R : List Rw} {n now : Int} (h : (pIn R n : Int) = R.length) : rFind R n now = none := by
  unfold rFind
  rw [List.getElem?_eq_none (by omega)]
theorem find_none2 {R : List Rw} {n now k : Int} {r : Rw} (hk : k = (pIn R n : Int)) (hg : n < r.lo) (hr : R[k.toNat]? = some r) : rFind R n now = none := by
  unfold rFind
  have e : k.toNat = pIn R n := by omega
  rw [e] at hr; rw [hr]; simp only []; rw [if_neg fun q => by have := q.1; omega]
theorem find_none3 {R : List Rw} {n now k : Int} {r : Rw} {b : Bool} (hk : k = (pIn R n : Int)) (hb : b = (r.u == 0 || decide (now < r.u))) (h : b = false) (hr : R[k.toNat]? = some r) : rFind R n now = none := by
  unfold rFind
  have e : k.toNat = pIn R n := by omega
  rw [e] at hr; rw [hr]; simp only []; rw [if_neg fun q => by have g := q.2; unfold live at g; rw [← hb, h] at g; exact Bool.false_ne_true g]
theorem find_some {P : Params} {n1 : List (Addr × Obj)} {v : Value} {R : List Rw} {n now k : Int} {r : Rw} {b : Bool} (he : ElIn P n1 v r) (hk : k = (pIn R n : Int)) (hg : ¬ n < r.lo) (hb : b = (r.u == 0 || decide (now < r.u))) (h : b = true) (hr : R[k.toNat]? = some r) : OptEl P n1 v (rFind R n now) := by
  unfold rFind
  have e : k.toNat = pIn R n := by omega
  rw [e] at hr; rw [hr]; simp only []; rw [if_pos ⟨by omega, by unfold live; rw [← hb]; exact h⟩]; exact he

theorem find_c {st dd li kk : Addr} {vs : List Value} {R : List Rw} {nn k9 : Nat} {n now : Int} {x t tn : Tok} (B : Below A₀ base outer h₀) (F : Fr h₀ L s.heap m) (X : (hd.heap_39 w.params).In h₀) (N : News h₀ L s.heap news) (T : Top hd.view_39 (looseW hd.view_39 []) mean mg mb h₀) (hk : cs.kind = .function)
    (hd : dp + 8 < recursionLimit) (hu : un + 300 < cLine) (hst : (st, instObj 188 dd) ∈ news) (hdd : (dd, dictOf [⟨PyData.keyHash w.params "items", .str "items" x, .ref li⟩] 1) ∈ news) (hm : (li, listOf vs.toArray nn) ∈ news) (he : All2 (ElIn w.params news) vs R) (h8 : R.length < 64) (hs : R.Pairwise fun a b => a.hi ≤ b.hi) (hb : (kk, tupO [.int n tn] k9) ∈ news)
    (ret : ∀ h' tk' v, OptEl w.params news v (rFind R n now) → Fr h₀ L h' m → News h₀ L h' news → Q v { s with heap := h', toks := tk' }) :
    wpAny (model PySem.Challenge.rw_pf0336_01.row.prog w) (ktrTop dp un gd cn cs L a ccd cl outer) (call (.ref 157) [.ref st, .ref kk, .int now t]) Q E s := by
  revert X; k_fill; intro X
  have hple := pIn_le R n
  refine wpAny_call ?_
  k_dflt ktr_enter
  k_steps
  all_goals (refine ret _ _ _ ?_ (by k_asm) (by k_asm); first
    | (rw [find_none1 (by assumption)]; exact rfl)
    | (rw [find_none2 rfl (by first | assumption | omega) (by assumption)]; exact rfl)
    | (rw [find_none3 rfl (by assumption) (by first | assumption | simp_all) (by assumption)]; exact rfl)
    | exact find_some (by assumption) rfl (by first | assumption | omega) (by assumption) (by first | assumption | simp_all) (by assumption))

theorem many_c {st dd li : Addr} {vs : List Value} {R : List Rw} {nn : Nat} {x : Tok} (B : Below A₀ base outer h₀) (F : Fr h₀ L s.heap m) (X : (hd.heap_39 w.params).In h₀) (N : News h₀ L s.heap news) (T : Top hd.view_39 (looseW hd.view_39 []) mean mg mb h₀) (hk : cs.kind = .function)
    (hd : dp + 8 < recursionLimit) (hu : un + 300 < cLine) (hst : (st, instObj 188 dd) ∈ news) (hdd : (dd, dictOf [⟨PyData.keyHash w.params "items", .str "items" x, .ref li⟩] 1) ∈ news) (hm : (li, listOf vs.toArray nn) ∈ news) (he : All2 (ElIn w.params news) vs R) (h8 : R.length < 64)
    (ret : ∀ h' tk' t, Fr h₀ L h' m → News h₀ L h' news → Q (.int R.length t) { s with heap := h', toks := tk' }) :
    wpAny (model PySem.Challenge.rw_pf0336_01.row.prog w) (ktrTop dp un gd cn cs L a ccd cl outer) (call (.ref 178) [.ref st]) Q E s := by
  revert X; k_fill; intro X
  refine wpAny_call ?_
  k_dflt ktr_enter
  k_steps
  all_goals exact ret _ _ _ (by k_asm) (by k_asm)

theorem small_size {n : Nat} (h : n < 64) : n ≤ sizeLine := by rw [sizeLine_eq]; omega
local macro_rules | `(tactic| walk_at "call type:list") => `(tactic| (k_here; (with_reducible show wpAny _ _ (call (Value.type _) [Value.ref _]) _ _ _); (with_unfolding_all refine' list_copyK ?k1 ?k2 ?k3 ?_ ?z; (case k1 => k_asm); (case k2 => k_asm); (case k3 => exact ⟨_, (News.get (by k_asm) (by k_mem)), rfl, _, rfl⟩); (case z => simp only [List.size_toArray]; exact small_size (by assumption)); k_whole); intro D' c' h' F' N' l1; (try k_sweep)))
theorem elements_c {st dd li : Addr} {vs : List Value} {nn : Nat} {x : Tok} (B : Below A₀ base outer h₀) (F : Fr h₀ L s.heap m) (X : (hd.heap_39 w.params).In h₀) (N : News h₀ L s.heap news) (T : Top hd.view_39 (looseW hd.view_39 []) mean mg mb h₀) (hk : cs.kind = .function)
    (hd : dp + 8 < recursionLimit) (hu : un + 300 < cLine) (hst : (st, instObj 188 dd) ∈ news) (hdd : (dd, dictOf [⟨PyData.keyHash w.params "items", .str "items" x, .ref li⟩] 1) ∈ news) (hm : (li, listOf vs.toArray nn) ∈ news) (h8 : vs.length < 64)
    (ret : ∀ h' tk' q k, Fr h₀ L h' m → News h₀ L h' ((q, listOf vs.toArray k) :: news) → (∀ p ∈ news, p.1 < q) → Q (.ref q) { s with heap := h', toks := tk' }) :
    wpAny (model PySem.Challenge.rw_pf0336_01.row.prog w) (ktrTop dp un gd cn cs L a ccd cl outer) (call (.ref 171) [.ref st]) Q E s := by
  revert X; k_fill; intro X
  refine wpAny_call ?_
  k_dflt ktr_enter
  k_steps
  all_goals exact ret _ _ _ _ (by k_asm) (by k_asm) (by assumption)

theorem clr_05 : True := by
  w_top off
  k_with_none
  trivial
theorem kl_cut_at : ∀ (vs : List Value) (k : Nat) (y : Value), vs[k]? = some y → kl_cut vs k = some (vs.take k, y, vs.drop (k + 1))
  | [], k, y, h => by simp at h
  | x :: r, 0, y, h => by simp at h; subst h; rfl
  | x :: r, k + 1, y, h => by
    have ih := kl_cut_at r k y (by simpa using h)
    show (match kl_cut r k with | some (p, y, q) => some (x :: p, y, q) | none => none) = _
    rw [ih]; simp
theorem seqIndex_at {k : Int} {n : Nat} (h0 : 0 ≤ k) (h1 : k < (n : Int)) : seqIndex? k n = some k.toNat := by
  unfold seqIndex?
  have a : ¬ k < 0 := by omega
  simp [a, h0, h1]
theorem fits_at {k : Int} (h0 : 0 ≤ k) (h1 : k < 64) : Builtin.List.listFitsIndex k = true := by
  unfold Builtin.List.listFitsIndex
  simp; omega
theorem All2.erase {R' : Value → Rw → Prop} {vs rs} (h : All2 R' vs rs) : ∀ k : Nat, All2 R' (vs.take k ++ vs.drop (k + 1)) (rs.take k ++ rs.drop (k + 1)) := by
  induction h with
  | nil => intro k; simp; exact .nil
  | cons h r ih =>
    intro k
    cases k with
    | zero => simpa using r
    | succ k => simpa using All2.cons h (ih k)
theorem All2.insert {R' : Value → Rw → Prop} {vs rs} {v : Value} {r : Rw} (h : All2 R' vs rs) (hv : R' v r) : ∀ k : Nat, All2 R' (vs.take k ++ v :: vs.drop k) (rs.take k ++ r :: rs.drop k) := by
  induction h with
  | nil => intro k; simp; exact .cons hv .nil
  | cons h r ih =>
    intro k
    cases k with
    | zero => simpa using All2.cons hv (.cons h r)
    | succ k => simpa using All2.cons h (ih k)

theorem pop_rows {prog : Program} {A : Around} {R' : Value → Rw → Prop} {li : Addr} {vs : List Value} {R : List Rw} {nn : Nat} {rest : List (Addr × Obj)} {k : Int} {u : Tok} {Q : Value → Shared → Prop} (F : Fr h₀ L s.heap m) (N : News h₀ L s.heap ((li, listOf vs.toArray nn) :: rest)) (hoff : ∀ p ∈ rest, p.1 ≠ li) (he : All2 R' vs R)
    (h0 : 0 ≤ k) (h1 : k < (R.length : Int)) (h8 : R.length < 64)
    (h : ∀ h' v r vs', vs' = vs.take k.toNat ++ vs.drop (k.toNat + 1) → R[k.toNat]? = some r → R' v r → All2 R' vs' (R.take k.toNat ++ R.drop (k.toNat + 1)) → Fr h₀ L h' m → News h₀ L h' ((li, listOf vs'.toArray (nn + 1)) :: rest) → Q v { s with heap := h' }) :
    wpAny (model prog w) A (call (.builtin "list.pop") [.ref li, .int k u]) Q E s := by
  obtain ⟨v, r, hv, hr, hR⟩ := he.get (i := k.toNat) (by omega)
  have hlen : vs.length = R.length := he.length
  refine kl_popAt F N (fits_at h0 (by omega)) (k := k.toNat) (seqIndex_at h0 (by simp only [List.size_toArray]; omega)) (by simpa using kl_cut_at vs k.toNat v hv) (.head hoff) (by simp only [List.toList_toArray]; exact small_size (by omega)) fun h' F' N' => ?_
  exact h h' v r _ rfl hr hR (he.erase _) F' N'
theorem insert_rows {prog : Program} {A : Around} {R' : Value → Rw → Prop} {li : Addr} {vs : List Value} {R : List Rw} {nn : Nat} {rest : List (Addr × Obj)} {k : Int} {u : Tok} {v : Value} {r : Rw} {Q : Value → Shared → Prop} (F : Fr h₀ L s.heap m) (N : News h₀ L s.heap ((li, listOf vs.toArray nn) :: rest)) (hoff : ∀ p ∈ rest, p.1 ≠ li) (he : All2 R' vs R)
    (h0 : 0 ≤ k) (h1 : k ≤ (R.length : Int)) (h8 : R.length < 64) (hv : R' v r)
    (h : ∀ h' vs', All2 R' vs' (R.take k.toNat ++ r :: R.drop k.toNat) → Fr h₀ L h' m → News h₀ L h' ((li, listOf vs'.toArray (nn + 1)) :: rest) → Q .none { s with heap := h' }) :
    wpAny (model prog w) A (call (.builtin "list.insert") [.ref li, .int k u, v]) Q E s := by
  have hlen : vs.length = R.length := he.length
  have e : kl_ins vs.toArray.toList k v = vs.take k.toNat ++ v :: vs.drop k.toNat := by
    unfold kl_ins
    have a : ¬ k < 0 := by omega
    have b : min k.toNat vs.length = k.toNat := by omega
    simp only [List.toList_toArray, if_neg a, b]
  refine kl_insert F N (fits_at h0 (by omega)) e (.head hoff) (by simp only [List.toList_toArray]; exact small_size (by omega)) fun h' F' N' => ?_
  exact h h' _ (he.insert hv _) F' N'

theorem clr_06 : True := by
  w_top off
  k_with_none
  trivial
theorem news_cut {h₀ h : Heap} {L : Addr} {q : Addr × Obj} {news : List (Addr × Obj)} (N : News h₀ L h (q :: news)) : News h₀ L h news := fun p hp => N p (.tail _ hp)
theorem words_c1 {t : Tok} (B : Below A₀ base outer h₀) (F : Fr h₀ L s.heap m) (X : (hd.heap_39 w.params).In h₀) (N : News h₀ L s.heap news) (T : Top hd.view_39 (looseW hd.view_39 []) mean mg mb h₀) (hk : cs.kind = .function)
    (hd : dp + 2 < recursionLimit) (hu : un + 20 < cLine)
    (ret : ∀ h' tk' t', Fr h₀ L h' m → News h₀ L h' news → Q (.str "File exists" t') { s with heap := h', toks := tk' }) :
    wpAny (model PySem.Challenge.rw_pf0336_01.row.prog w) (ktrTop dp un gd cn cs L a ccd cl outer) (call (.ref 72) [.str "EEXIST" t]) Q E s := by
  revert X; k_fill; intro X
  refine wpAny_call ?_
  k_dflt ktr_enter
  k_steps
  all_goals first
    | exact ret _ _ _ (by k_asm) (news_cut (by k_asm))
    | (exfalso; rename (Option.isSome _ = false) => hq; exact Bool.noConfusion (show true = false from hq))
    | (exfalso; rename (¬ Option.isSome _ = true) => hq; exact hq rfl)
    | (exfalso; rename (Spec.lookup _ _ = none) => hq; exact Option.noConfusion (show some _ = none from hq))
theorem words_c2 {t : Tok} (B : Below A₀ base outer h₀) (F : Fr h₀ L s.heap m) (X : (hd.heap_39 w.params).In h₀) (N : News h₀ L s.heap news) (T : Top hd.view_39 (looseW hd.view_39 []) mean mg mb h₀) (hk : cs.kind = .function)
    (hd : dp + 2 < recursionLimit) (hu : un + 20 < cLine)
    (ret : ∀ h' tk' t', Fr h₀ L h' m → News h₀ L h' news → Q (.str "Directory not empty" t') { s with heap := h', toks := tk' }) :
    wpAny (model PySem.Challenge.rw_pf0336_01.row.prog w) (ktrTop dp un gd cn cs L a ccd cl outer) (call (.ref 72) [.str "ENOTEMPTY" t]) Q E s := by
  revert X; k_fill; intro X
  refine wpAny_call ?_
  k_dflt ktr_enter
  k_steps
  all_goals first
    | exact ret _ _ _ (by k_asm) (news_cut (by k_asm))
    | (exfalso; rename (Option.isSome _ = false) => hq; exact Bool.noConfusion (show true = false from hq))
    | (exfalso; rename (¬ Option.isSome _ = true) => hq; exact hq rfl)
    | (exfalso; rename (Spec.lookup _ _ = none) => hq; exact Option.noConfusion (show some _ = none from hq))
theorem words_c3 {t : Tok} (B : Below A₀ base outer h₀) (F : Fr h₀ L s.heap m) (X : (hd.heap_39 w.params).In h₀) (N : News h₀ L s.heap news) (T : Top hd.view_39 (looseW hd.view_39 []) mean mg mb h₀) (hk : cs.kind = .function)
    (hd : dp + 2 < recursionLimit) (hu : un + 20 < cLine)
    (ret : ∀ h' tk' t', Fr h₀ L h' m → News h₀ L h' news → Q (.str "No such file or directory" t') { s with heap := h', toks := tk' }) :
    wpAny (model PySem.Challenge.rw_pf0336_01.row.prog w) (ktrTop dp un gd cn cs L a ccd cl outer) (call (.ref 72) [.str "ENOENT" t]) Q E s := by
  revert X; k_fill; intro X
  refine wpAny_call ?_
  k_dflt ktr_enter
  k_steps
  all_goals first
    | exact ret _ _ _ (by k_asm) (news_cut (by k_asm))
    | (exfalso; rename (Option.isSome _ = false) => hq; exact Bool.noConfusion (show true = false from hq))
    | (exfalso; rename (¬ Option.isSome _ = true) => hq; exact hq rfl)
    | (exfalso; rename (Spec.lookup _ _ = none) => hq; exact Option.noConfusion (show some _ = none from hq))
local macro_rules | `(tactic| walk_at "call ref") => `(tactic| (k_here; (with_reducible show wpAny _ _ (call (Value.ref 72) [Value.str "EEXIST" _]) _ _ _); k_dflt (refine' words_c1 ?B ?F ?X ?N ?T ?k ?d ?u ?_; walk_at "kcs9"; walk_at "krm9"); walk_at "fin9"))
local macro_rules | `(tactic| walk_at "call ref") => `(tactic| (k_here; (with_reducible show wpAny _ _ (call (Value.ref 72) [Value.str "ENOTEMPTY" _]) _ _ _); k_dflt (refine' words_c2 ?B ?F ?X ?N ?T ?k ?d ?u ?_; walk_at "kcs9"; walk_at "krm9"); walk_at "fin9"))
local macro_rules | `(tactic| walk_at "call ref") => `(tactic| (k_here; (with_reducible show wpAny _ _ (call (Value.ref 72) [Value.str "ENOENT" _]) _ _ _); k_dflt (refine' words_c3 ?B ?F ?X ?N ?T ?k ?d ?u ?_; walk_at "kcs9"; walk_at "krm9"); walk_at "fin9"))

theorem clr_07 : True := by
  w_top off
  k_with_none
  trivial
noncomputable abbrev refBm : List Value := [.ref 31, .type "Exception", .type "BaseException", .type "object"]
noncomputable abbrev refCls (sn : List Str) (sub : List Value) (ab : Bool) (col : Option Bool) (dd : Option Addr) (k0 k1 k2 k3 k5 : Option Value) : Obj := excClassObj (Str.ofString "Refused") (Str.ofString "Refused") 63 62 [.ref 31] refBm true sn sub ab col dd k0 k1 k2 k3 k5 "Exception.__new__"
/-- a fresh exception of the class C with the arguments at t -/
noncomputable abbrev excO (C t : Addr) : Obj := { cls := .ref C, data := .fields #[.ref t, .none, .none, .none, .bool false, .none] }
noncomputable abbrev excOd (C t : Addr) (dx : Option Addr) : Obj := { cls := .ref C, dict := dx, data := .fields #[.ref t, .none, .none, .none, .bool false, .none] }

theorem check_new63 {M : Model} {A : Around} {E : Value → Shared → Prop} {h : Heap} {g : Array GenState} {d : Drawn} {t : Nat} {os : OsState} {C N : Addr} {nm q : Str} {bs bm : List Value} {hdct : Bool} {sn : List Str} {sub : List Value} {ab : Bool} {col : Option Bool} {dd : Option Addr} {k0 k1 k2 k3 k5 : Option Value} {B newId initId : String} {bmB : List Value}
    (F : ExcBaseFacts B newId initId bmB) (hB : (Value.ref C :: bm).contains (.type B) = true) {rest : List Value} {Q : Unit → Shared → Prop} (hC : h.get? C = some (excClassObj nm q C N bs bm hdct sn sub ab col dd k0 k1 k2 k3 k5 newId))
    (hq : Q () ⟨h, g, d, t, os⟩) : wpAny M A (checkBuiltinCall newId ⟨.ref C :: rest, []⟩) Q E ⟨h, g, d, t, os⟩ := by
  have hstar := F.noStar
  simp only [checkBuiltinCall, F.newKind, F.newSplit, F.newRow]
  repeat (first | refine wpAny_loadPart_at hC ?_ | (refine wpAny_isSubtype_exc hC ?_; rw [hB]) | refine wpAny_staticBase_exc hC ?_ | refine wpAny_madeBy_exc hC ?_ | simp only [bne_self_eq_false, Bool.false_eq_true, if_false] | wp_step)
  exact hq
theorem new63 {prog : Program} {w : World} {A : Around} {R : Result → Shared → Prop} {h : Heap} {g : Array GenState} {d : Drawn} {t : Nat} {os : OsState} {C N : Addr} {nm q : Str} {bs bm : List Value} {hdct : Bool} {sn : List Str} {sub : List Value} {ab : Bool} {col : Option Bool} {dd : Option Addr} {k0 k1 k2 k3 k5 : Option Value} {B newId initId : String} {bmB : List Value}
    (F : ExcBaseFacts B newId initId bmB) (hB : (Value.ref C :: bm).contains (.type B) = true) (hcA : (Value.ref C :: bm).contains (.type "AttributeError") = false) (hcN : (Value.ref C :: bm).contains (.type "NameError") = false) {rest : List Value} (hC : h.get? C = some (excClassObj nm q C N bs bm hdct sn sub ab col dd k0 k1 k2 k3 k5 newId))
    (hq : R (.ok (.ret (.ref (h.objs.size + 1)))) ⟨(h.push { cls := .type "tuple", data := .seq rest.toArray }).push (excO C h.objs.size), g, d, t, os⟩) (hrest : rest.length ≤ sizeLine) :
    codeAny (model prog w) A (.builtin newId ⟨.ref C :: rest, []⟩) R ⟨h, g, d, t, os⟩ := by
  have hends := F.ends
  refine codeAny_builtinAt F.entry ?_
  unfold Builtin.«BaseException.__new__»
  refine PySem.wpAt_bind ?_
  show PySem.wpAt _ _ _ (stack >>= _) _ _ _
  refine PySem.wpAt_bind (PySem.wpAt_stack fun p below => PySem.wpAt_of_wpAny ?_)
  wp_walk
  refine PySem.wpAt_of_wpAny ?_
  rw [F.owner]
  repeat (first | with_reducible refine wpAny_madeHere_exc F.canon hC ?_ | with_reducible refine wpAny_loadPart_at hC ?_ | (with_reducible refine wpAny_isSubtype_exc hC ?_; first | rw [hB] | rw [hcA] | rw [hcN]) | wp_step)
  show R _ _
  rw [Heap.size_push]
  exact hq
theorem type_call63 {prog : Program} {w : World} {A : Around} {E : Value → Shared → Prop} {K : Frag} {fI : Addr} {h : Heap} {g : Array GenState} {d : Drawn} {t : Nat} {os : OsState} {C N : Addr} {nm q : Str} {bs bm : List Value} {hdct : Bool} {sn : List Str} {sub : List Value} {ab : Bool} {col : Option Bool} {dd : Option Addr} {k0 k1 k2 k3 k5 : Option Value} {B newId initId : String} {bmB : List Value}
    (F : ExcBaseFacts B newId initId bmB) (X : K.In h) (hi : findIn K (.ref C) "__init__" = some (some (.ref fI))) (hf : typeIn K (.ref fI) = some (.type "function")) (hB : (Value.ref C :: bm).contains (.type B) = true) (hcA : (Value.ref C :: bm).contains (.type "AttributeError") = false) (hcN : (Value.ref C :: bm).contains (.type "NameError") = false) {rest : List Value} {Q : PySem.Fin → Shared → Prop}
    (hC : h.get? C = some (excClassObj nm q C N bs bm hdct sn sub ab col dd k0 k1 k2 k3 k5 newId))
    (hq : codeAny (model prog w) A (.call (.ref fI) ⟨.ref (h.objs.size + 1) :: rest, []⟩) (fun r s' => match r with | .ok (.ret v) => v = .none ∧ Q (.done (.ret (.ref (h.objs.size + 1)))) s' | .ok _ => False | .error e => E e s') ⟨(h.push { cls := .type "tuple", data := .seq rest.toArray }).push (excO C h.objs.size), g, d, t, os⟩)
    (hrest : rest.length ≤ sizeLine) :
    wpAny (model prog w) A (Builtin.«type.__call__» ⟨.ref C :: rest, []⟩) Q E ⟨h, g, d, t, os⟩ := by
  repeat (first | with_reducible refine wpAny_loadPart_at hC ?_ | with_reducible refine wpAny_madeBy_exc hC ?_ | wp_step)
  refine codeAny_call_builtin_code (Code.quiet_builtin _ F.quiet) (check_new63 F hB hC ?_)
  refine new63 F hB hcA hcN hC ?_ hrest
  show wpAny _ _ _ _ _ _
  have k : ∀ b o, h.get? b = some o → ((h.push { cls := .type "tuple", data := .seq rest.toArray }).push (excO C h.objs.size)).get? b = some o := fun b o e => Heap.get?_push_of_some _ (Heap.get?_push_of_some _ e)
  have hC₁ := k _ _ hC
  have X₁ : K.In ((h.push { cls := .type "tuple", data := .seq rest.toArray }).push (excO C h.objs.size)) := fun b o e => k _ _ (X b o e)
  have hget : ((h.push { cls := .type "tuple", data := .seq rest.toArray }).push (excO C h.objs.size)).get? (h.objs.size + 1) = some (excO C h.objs.size) := by heap_get
  have hcC : (Value.ref C :: bm).contains (.ref C) = true := by simp
  unfold isInstance
  repeat (first | with_reducible refine wpAny_loadPart_at hget ?_ | (with_reducible refine wpAny_isSubtype_exc hC₁ ?_; rw [hcC]) | wp_step)
  show wpAny _ _ (typeLookup (.ref C) _) _ _ _
  refine (looks_findIn (M := model prog w) X₁ hi).at ?_
  refine wpAny_holding (wpAny_bind ((bind_fn (M := model prog w) X₁ (.ref (h.objs.size + 1)) hf).at ?_))
  refine wpAny_bind (wpAny_call ?_)
  refine codeAny_mono hq fun r s' z => ?_
  rcases r with e | (v | _ | _ | _) <;> first | exact z | exact z.elim | skip
  obtain ⟨rfl, z⟩ := z
  wp_walk
  exact z
theorem make_E {prog : Program} {w : World} {A : Around} {K : Frag} {fI : Addr} {s : Shared} {h₀ : Heap} {L : Addr} {m : Str → Option Value} {news : List (Addr × Obj)} {R : Result → Shared → Prop} {C N : Addr} {nm q : Str} {bs bm : List Value} {hdct : Bool} {sn : List Str} {sub : List Value} {ab : Bool} {col : Option Bool} {dd : Option Addr} {k0 k1 k2 k3 k5 : Option Value} {B newId initId : String} {bmB : List Value}
    (F₁ : ExcBaseFacts B newId initId bmB) (F : Fr h₀ L s.heap m) (Nw : News h₀ L s.heap news) (X : K.In s.heap) (hC : K.lookup C = some (excClassObj nm q C N bs bm hdct sn sub ab col dd k0 k1 k2 k3 k5 newId)) (hi : findIn K (.ref C) "__init__" = some (some (.ref fI))) (hf : typeIn K (.ref fI) = some (.type "function"))
    (hB : (Value.ref C :: bm).contains (.type B) = true) (hcA : (Value.ref C :: bm).contains (.type "AttributeError") = false) (hcN : (Value.ref C :: bm).contains (.type "NameError") = false) {rest : List Value} (hrest : rest.length ≤ sizeLine)
    (h : ∀ e t h', Fr h₀ L h' m → News h₀ L h' ((e, excO C t) :: news) → (∀ p ∈ news, p.1 ≠ e) →
      codeAny (model prog w) (A.under (.builtin "type.__call__" ⟨.ref C :: rest, []⟩)) (.call (.ref fI) ⟨.ref e :: rest, []⟩) (InitBack e R) { s with heap := h' }) :
    codeAny (model prog w) A (.call (.ref C) ⟨rest, []⟩) R s := by
  obtain ⟨hh, g, d, t, os⟩ := s
  have hC' : hh.get? C = some _ := X _ _ hC
  have f1 := tc_lookup
  have f2 := tc_bind (.ref C)
  have hT : (⟨hh, g, d, t, os⟩ : Shared).TypeIs (.ref C) "type" := ⟨_, hC', rfl⟩
  refine codeAny_of_tree ?_
  show wpAny _ _ (callAny (.ref C) _) _ _ _
  repeat (any_goals (first | assumption | with_reducible refine wpAny_loadPart_at hC' ?_ | wp_step))
  refine ⟨rfl, ?_⟩
  refine codeAny_call_builtin_at (Code.quiet_builtin _ (by decide +kernel)) entry_typeCall (wpAny_check_type_call_sub hC' (type_call63 F₁ X hi hf hB hcA hcN hC' ?_ hrest))
  have N2 := (Nw.push F { cls := .type "tuple", data := .seq rest.toArray }).push (F.push _) (excO C hh.objs.size)
  rw [Heap.size_push] at N2
  have z := h _ hh.objs.size _ ((F.push _).push _) (fun p hp => N2 p (by rcases List.mem_cons.mp hp with rfl | hp; exact .head _; exact .tail _ (.tail _ hp))) (fun p hp => Nat.ne_of_lt (Nat.lt_succ_of_lt (Heap.lt_size (Nw p hp).1)))
  refine codeAny_mono z fun r s' y => ?_
  rcases r with e | (v | _ | _ | _) <;> exact y

theorem clr_08 : True := by
  w_top off
  k_with_none
  trivial
theorem check_init63 {M : Model} {A : Around} {E : Value → Shared → Prop} {h : Heap} {g : Array GenState} {d : Drawn} {t : Nat} {os : OsState} {C N : Addr} {nm q : Str} {bs bm : List Value} {hdct : Bool} {sn : List Str} {sub : List Value} {ab : Bool} {col : Option Bool} {dd : Option Addr} {k0 k1 k2 k3 k5 : Option Value} {B newId initId nid : String} {bmB : List Value}
    (F : ExcBaseFacts B newId initId bmB) (hB : (Value.ref C :: bm).contains (.type B) = true) {e : Addr} {oe : Obj} {rest : List Value} {Q : Unit → Shared → Prop}
    (hC : h.get? C = some (excClassObj nm q C N bs bm hdct sn sub ab col dd k0 k1 k2 k3 k5 nid)) (he : h.get? e = some oe) (hcls : oe.cls = .ref C) (hq : Q () ⟨h, g, d, t, os⟩) :
    wpAny M A (checkBuiltinCall initId ⟨.ref e :: rest, []⟩) Q E ⟨h, g, d, t, os⟩ := by
  have hshort := F.noStar
  simp only [checkBuiltinCall, F.initKind, F.initSplit, F.initRow]
  repeat (first | (with_reducible refine wpAny_loadPart_at he ?_; rw [hcls]) | with_reducible refine wpAny_loadPart_at hC ?_ | (with_reducible refine wpAny_isSubtype_exc hC ?_; rw [hB]) | wp_step)
  refine wpAny_onRaise ?_
  rw [show ∀ (a b : String) (n : Nat), Bind.check ⟨.positional, "*", B, .self, [⟨"args", .varPos, false⟩]⟩ a b n (List.map (fun x => x.fst) ({ pos := Value.ref e :: rest } : Args).kw) = pure () from
    fun a b n => check_star_args _ _ _ _ _ _]
  exact wpAny_pure hq

theorem exc_init_K {prog : Program} {A : Around} {K : Frag} {C N : Addr} {nm q : Str} {bs bm : List Value} {hdct : Bool} {sn : List Str} {sub : List Value} {ab : Bool} {col : Option Bool} {dd : Option Addr} {k0 k1 k2 k3 k5 : Option Value} {B newId initId nid : String} {bmB : List Value} {e t : Addr} {args : List Value} {rest : List (Addr × Obj)} {Q : Value → Shared → Prop}
    (F₁ : ExcBaseFacts B newId initId bmB) (hB : (Value.ref C :: bm).contains (.type B) = true) (F : Fr h₀ L s.heap m) (X : K.In h₀) (hl : K.lookup C = some (excClassObj nm q C N bs bm hdct sn sub ab col dd k0 k1 k2 k3 k5 nid))
    (Nw : News h₀ L s.heap ((e, excO C t) :: rest)) (hoff : ∀ p ∈ rest, p.1 ≠ e) (hz : args.length ≤ sizeLine)
    (h : ∀ t2 h', Fr h₀ L h' m → News h₀ L h' ((e, excO C t2) :: rest) → Q .none { s with heap := h' }) :
    wpAny (model prog w) A (call (.builtin initId) (.ref e :: args)) Q E s := by
  have hC : s.heap.get? C = some _ := F.keep _ _ (X _ _ hl)
  have z := Nw _ (.head _)
  have he : s.heap.get? e = some (excO C t) := z.1
  obtain ⟨hh, g, d, tk, os⟩ := s
  refine wpAny_call (codeAny_call_builtin F₁.init.plain F₁.initEntry (check_init63 F₁ hB hC he rfl ?_))
  unfold Builtin.«BaseException.__init__»
  dsimp only
  try rw [if_neg (by simp)]
  unfold newTuple Builtin.BaseException.bexcPut
  have he₁ := Heap.get?_push_of_some (h := hh) { cls := .type "tuple", data := .seq args.toArray } he
  refine wpAny_bind (wpAny_newObj_type (wpAny_bind (wpAny_bind (wpAny_field he₁ rfl rfl (wpAny_bind (wpAny_setField he₁ rfl (by simp) ?_))))) (by show args.toArray.size ≤ _; rw [List.size_toArray]; exact hz))
  have hs := Heap.SameBut.update (hh.push { cls := .type "tuple", data := .seq args.toArray }) e (Obj.mapFields (·.setIfInBounds 0 (.ref hh.objs.size)))
  have hlt := Heap.lt_size he
  refine wpAny_letGo (wpAny_pure (h hh.objs.size _ ((F.push _).change hs z.2.1 z.2.2) (fun p hp => ?_)))
  have N2 := Nw.push F { cls := .type "tuple", data := .seq args.toArray }
  rcases List.mem_cons.mp hp with rfl | hp
  · refine ⟨?_, z.2⟩
    rw [Heap.get?_update_self _ he₁ rfl]
    rfl
  · exact ⟨(hs.2 _ (hoff p hp)).trans (N2 _ (.tail _ (.tail _ hp))).1, (N2 _ (.tail _ (.tail _ hp))).2⟩

theorem clr_08b : True := by
  w_top off
  k_with_none
  trivial
theorem refuse63 (self : Value) : refuseLoop self "__setattr__" [.ref 63, .ref 31, .type "Exception", .type "BaseException", .type "object"] = pure () := by
  rw [refuseLoop_ref, refuseLoop_ref]
  kernel_rfl
theorem osaE_open {prog : Program} {A : Around} {K : Frag} {x C : Addr} {R : Result → Shared → Prop} {ox : Obj} {od : Option Obj} {name : Str} {tk : Tok} {v : Value} {r : Option Value} {cd : ClassData} (X : K.In s.heap) (I : InstAt s.heap x ox C od) (hc : clsIn K C = some cd) (hobj : mroIn K C (.type "object") = some true) (hp : refuseLoop (.ref x) "__setattr__" cd.mro = pure ()) (ht : takerIn K C name = some r)
    (h : ∀ b, wpAny (model prog w) A.in1 (match r with | some a => PySem.Builtin.ObjectAttr.setByDescriptor a (.ref x) v | none => PySem.Builtin.ObjectAttr.storeInOwnDict (.ref x) (.ref C) (.str name tk) name v b)
      (fun fin s' => match fin with | .done f => R (.ok f) s' | .again c' => c'.quiet = true ∧ codeAny (model prog w) A c' R s') (fun e s' => R (.error e) s') s) :
    codeAny (model prog w) A (.call (.builtin "object.__setattr__") ⟨[.ref x, .str name tk, v], []⟩) R s := by
  have SF := PySem.F.store_object
  have sub : Looks (model prog w) s.heap (isInstance (.ref x) (.type "object")) true := I.type.andThen (looks_mroIn X hobj)
  refine codeAny_call_builtin SF.slot.plain SF.entry (@check_slot (model prog w) _ _ s "object.__setattr__" "object" "__setattr__" (.ref x) [.str name tk, v] [] _ SF.kind SF.split sub (SF.args (.ref x) (.str name tk) v) ?_)
  obtain ⟨attr, ha, hr⟩ := Option.bind_eq_some_iff.mp ht
  have hm : Looks (model prog w) s.heap (mroOf (.ref C)) cd.mro := (looks_clsIn X hc).andThen .now
  have L3 : Looks (model prog w) s.heap (PySem.Builtin.ObjectAttr.storeTaker? attr) r := by
    cases attr with
    | none => cases hr; exact .now
    | some a =>
      obtain ⟨b, hb, rfl⟩ := Option.map_eq_some_iff.mp hr
      refine (looks_takesIn X hb).andThen ?_
      cases b <;> exact .now
  rw [osa_eq, refuse_eq]
  refine wpAny_bind (wpAny_bind (I.type.here (wpAny_bind (hm.here ?_))))
  rw [hp]
  refine wpAny_pure (wpAny_bind (I.type.here (wpAny_bind ((looks_findIn X ha).here (wpAny_bind (L3.here ?_))))))
  exact h _

theorem clr_08c : True := by
  w_top off
  k_with_none
  trivial
theorem storeE_new {prog : Program} {A : Around} {K : Frag} {x C : Addr} {R : Result → Shared → Prop} {vs : Array Value} {name : Str} {tk : Tok} {v : Value} {cd : ClassData} {rest : List (Addr × Obj)} (F : Fr h₀ L s.heap m) (N : News h₀ L s.heap ((x, { cls := .ref C, data := .fields vs }) :: rest)) (hoff : ∀ p ∈ rest, p.1 ≠ x) (X : K.In s.heap)
    (hc : clsIn K C = some cd) (hcd : cd.hasDict = true) (hobj : mroIn K C (.type "object") = some true) (hp : refuseLoop (.ref x) "__setattr__" cd.mro = pure ()) (ht : takerIn K C name = some none)
    (h : ∀ dx h', Fr h₀ L h' m → News h₀ L h' ((x, { cls := .ref C, dict := some dx, data := .fields vs }) :: (dx, dictOf [⟨PyData.keyHash w.params name, .str name s.toks, v⟩] 1) :: rest) → (∀ p ∈ rest, p.1 < dx) → x < dx → R (.ok (.ret .none)) { s with heap := h', toks := s.toks + 1 }) :
    codeAny (model prog w) A (.call (.builtin "object.__setattr__") ⟨[.ref x, .str name tk, v], []⟩) R s := by
  have z := N _ (.head _)
  have hx : s.heap.get? x = some { cls := .ref C, data := .fields vs } := z.1
  have I : InstAt s.heap x { cls := .ref C, data := .fields vs } C none := ⟨hx, rfl, rfl, trivial⟩
  refine osaE_open X I hc hobj hp ht fun b => ?_
  obtain ⟨hh, g, d, t, os⟩ := s
  have hlt := Heap.lt_size hx
  refine wpAny_bind (wpAny_pure (wpAny_bind (wpAny_bind (wpAny_loadPart hx (wpAny_bind ((looks_clsIn X hc).here ?_))))))
  rw [hcd]
  have hx1 := Heap.get?_push_of_some (h := hh) emptyDict hx
  have F1 := F.push emptyDict
  have N1 := N.push F emptyDict
  have hoffd : ∀ p ∈ [((hh.objs.size : Addr), emptyDict)], p.1 ≠ x := fun p hp => by
    rw [List.mem_singleton.mp hp]; exact Nat.ne_of_gt hlt
  obtain ⟨F2, N2⟩ := news_upd (pre := [(hh.objs.size, emptyDict)]) (post := rest) (o' := { cls := .ref C, dict := some hh.objs.size, data := .fields vs }) (f := fun o => { o with dict := some hh.objs.size }) F1 N1 hoffd hoff rfl rfl
  have hrest : ∀ p ∈ rest, p.1 < hh.objs.size := fun p hp => Heap.lt_size (N p (.tail _ hp)).1
  have hpost : ∀ p ∈ ((x, ({ cls := .ref C, dict := some hh.objs.size, data := .fields vs } : Obj)) :: rest), p.1 ≠ hh.objs.size := fun p hp => by
    rcases List.mem_cons.mp hp with rfl | hp
    · exact Nat.ne_of_lt hlt
    · exact Nat.ne_of_lt (hrest p hp)
  obtain ⟨F3, N3⟩ := news_upd (pre := []) (post := (x, ({ cls := .ref C, dict := some hh.objs.size, data := .fields vs } : Obj)) :: rest) (f := Obj.putName name (PyData.keyHash w.params name) (.str name t) v) (o' := dictOf [⟨PyData.keyHash w.params name, .str name t, v⟩] 1) F2 N2 (fun _ hp => (nomatch hp)) hpost (by exact putName_dict name _ _ v [] 0) rfl
  have D := (N2 _ (.head _)).1
  have D' := (N3 _ (.head _)).1
  refine wpAny_bind (wpAny_alloc (wpAny_bind (wpAny_update hx1 (wpAny_pure ?_))))
  refine wpAny_bind (wpAny_pure (wpAny_bind ?_))
  unfold nsSet
  refine wpAny_bind (wpAny_bind (wpAny_askSetting (wpAny_pure (wpAny_bind (wpAny_mkText (wpAny_bind (wpAny_loadPart D ?_)))))))
  dsimp only
  rw [aRefKeyMayBeTheName_at, if_neg (by simp)]
  refine wpAny_updatePart D ?_
  refine wpAny_bind (wpAny_lookBehind D' (pastItsLine_dict (by rw [List.size_toArray, sizeLine_eq]; simp)) ?_)
  refine wpAny_pure (h _ _ F3 (fun p hp => ?_) hrest hlt)
  rcases List.mem_cons.mp hp with rfl | hp
  · exact N3 _ (.tail _ (.head _))
  · rcases List.mem_cons.mp hp with rfl | hp
    · exact N3 _ (.head _)
    · exact N3 _ (.tail _ (.tail _ hp))
theorem storeE_more {prog : Program} {A : Around} {K : Frag} {x dx C : Addr} {R : Result → Shared → Prop} {vs : Array Value} {name : Str} {tk : Tok} {v : Value} {cd : ClassData} {es es' : List DictEntry} {n n' : Nat} {rest : List (Addr × Obj)} (F : Fr h₀ L s.heap m) (N : News h₀ L s.heap ((x, { cls := .ref C, dict := some dx, data := .fields vs }) :: (dx, dictOf es n) :: rest)) (hoff : ∀ p ∈ rest, p.1 ≠ dx) (hxd : x ≠ dx) (X : K.In s.heap)
    (hc : clsIn K C = some cd) (hcd : cd.hasDict = true) (hobj : mroIn K C (.type "object") = some true) (hp : refuseLoop (.ref x) "__setattr__" cd.mro = pure ()) (ht : takerIn K C name = some none)
    (hl : (getL name es).isSome = true) (e : (putL name (PyData.keyHash w.params name) (.str name s.toks) v es, putN name es n) = (es', n')) (hz : es'.length ≤ 1000)
    (h : ∀ h', Fr h₀ L h' m → News h₀ L h' ((x, { cls := .ref C, dict := some dx, data := .fields vs }) :: (dx, dictOf es' n') :: rest) → R (.ok (.ret .none)) { s with heap := h', toks := s.toks + 1 }) :
    codeAny (model prog w) A (.call (.builtin "object.__setattr__") ⟨[.ref x, .str name tk, v], []⟩) R s := by
  have z := N _ (.head _)
  have hx : s.heap.get? x = some { cls := .ref C, dict := some dx, data := .fields vs } := z.1
  have D : s.heap.get? dx = some (dictOf es n) := (N _ (.tail _ (.head _))).1
  have I : InstAt s.heap x { cls := .ref C, dict := some dx, data := .fields vs } C (some (dictOf es n)) := ⟨hx, rfl, rfl, D⟩
  obtain ⟨e1, e2⟩ := Prod.mk.inj e
  refine osaE_open X I hc hobj hp ht fun b => ?_
  have hpre : ∀ p ∈ [(x, ({ cls := .ref C, dict := some dx, data := .fields vs } : Obj))], p.1 ≠ dx := fun p hp => by
    rw [List.mem_singleton.mp hp]; exact hxd
  obtain ⟨F3, N3⟩ := news_upd (pre := [(x, ({ cls := .ref C, dict := some dx, data := .fields vs } : Obj))]) (post := rest) (f := Obj.putName name (PyData.keyHash w.params name) (.str name s.toks) v) (o' := dictOf es' n') F N hpre hoff (by rw [putName_dict, e1, e2]) rfl
  have D' := (N3 _ (.tail _ (.head _))).1
  refine wpAny_bind (wpAny_pure (wpAny_bind (wpAny_bind (wpAny_loadPart hx (wpAny_bind ((looks_clsIn X hc).here ?_))))))
  rw [hcd]
  refine wpAny_pure (a := some dx) (wpAny_bind (wpAny_pure (wpAny_bind ?_)))
  unfold nsSet
  refine wpAny_bind (wpAny_bind (wpAny_askSetting (wpAny_pure (wpAny_bind (wpAny_mkText (wpAny_bind (wpAny_loadPart D ?_)))))))
  dsimp only [dictOf]
  have c : (!es.toArray.any (·.key.isStr name) && es.toArray.any (·.refKey)) = false := by
    rw [← Array.any_toList, ← Array.any_toList]
    unfold getL at hl
    split at hl
    · rename_i en he
      rw [List.any_eq_true.mpr ⟨en, List.mem_of_find?_eq_some he, List.find?_some he⟩]; rfl
    · split at hl
      · cases hl
      · rename_i z; rw [Bool.not_eq_true] at z; rw [z, Bool.and_false]
  rw [aRefKeyMayBeTheName_at, c]
  refine wpAny_updatePart D ?_
  refine wpAny_bind (wpAny_lookBehind D' (pastItsLine_dict (by rw [List.size_toArray, sizeLine_eq]; omega)) ?_)
  exact wpAny_pure (h _ F3 N3)

theorem set_first {prog : Program} {A : Around} {E : Value → Shared → Prop} {K : Frag} {x C : Addr} {vs : Array Value} {name : Str} {v : Value} {cd : ClassData} {rest : List (Addr × Obj)} {Q : Unit → Shared → Prop} (F : Fr h₀ L s.heap m) (N : News h₀ L s.heap ((x, { cls := .ref C, data := .fields vs }) :: rest)) (hoff : ∀ p ∈ rest, p.1 ≠ x) (X : K.In h₀)
    (hs : findIn K (.ref C) "__setattr__" = some (some (.builtin "object.__setattr__"))) (hc : clsIn K C = some cd) (hcd : cd.hasDict = true) (hobj : mroIn K C (.type "object") = some true) (hp : refuseLoop (.ref x) "__setattr__" cd.mro = pure ()) (ht : takerIn K C name = some none)
    (h : ∀ dx h', Fr h₀ L h' m → News h₀ L h' ((x, { cls := .ref C, dict := some dx, data := .fields vs }) :: (dx, dictOf [⟨PyData.keyHash w.params name, .str name (s.toks + 1), v⟩] 1) :: rest) → (∀ p ∈ rest, p.1 ≠ dx) → x ≠ dx → Q () { s with heap := h', toks := s.toks + 2 }) :
    wpAny (model prog w) A (setAttr (.ref x) name v) Q E s := by
  have X' := X.keeps F.keep
  have hx : s.heap.get? x = some { cls := .ref C, data := .fields vs } := (N _ (.head _)).1
  exact set_plain X' (⟨hx, rfl, rfl, trivial⟩ : InstAt s.heap x { cls := .ref C, data := .fields vs } C none) hs (storeE_new (s := { s with toks := s.toks + 1 }) F N hoff X' hc hcd hobj hp ht fun dx h' F' N' l1 l2 => h dx h' F' N' (fun p hp => Nat.ne_of_lt (l1 p hp)) (Nat.ne_of_lt l2))
theorem set_next {prog : Program} {A : Around} {E : Value → Shared → Prop} {K : Frag} {x dx C : Addr} {vs : Array Value} {name : Str} {v : Value} {cd : ClassData} {es es' : List DictEntry} {n n' : Nat} {rest : List (Addr × Obj)} {Q : Unit → Shared → Prop} (F : Fr h₀ L s.heap m) (N : News h₀ L s.heap ((x, { cls := .ref C, dict := some dx, data := .fields vs }) :: (dx, dictOf es n) :: rest)) (hoff : ∀ p ∈ rest, p.1 ≠ dx) (hxd : x ≠ dx) (X : K.In h₀)
    (hs : findIn K (.ref C) "__setattr__" = some (some (.builtin "object.__setattr__"))) (hc : clsIn K C = some cd) (hcd : cd.hasDict = true) (hobj : mroIn K C (.type "object") = some true) (hp : refuseLoop (.ref x) "__setattr__" cd.mro = pure ()) (ht : takerIn K C name = some none)
    (hl : (getL name es).isSome = true) (e : (putL name (PyData.keyHash w.params name) (.str name (s.toks + 1)) v es, putN name es n) = (es', n')) (hz : es'.length ≤ 1000)
    (h : ∀ h', Fr h₀ L h' m → News h₀ L h' ((x, { cls := .ref C, dict := some dx, data := .fields vs }) :: (dx, dictOf es' n') :: rest) → Q () { s with heap := h', toks := s.toks + 2 }) :
    wpAny (model prog w) A (setAttr (.ref x) name v) Q E s := by
  have X' := X.keeps F.keep
  have hx : s.heap.get? x = some { cls := .ref C, dict := some dx, data := .fields vs } := (N _ (.head _)).1
  have D : s.heap.get? dx = some (dictOf es n) := (N _ (.tail _ (.head _))).1
  exact set_plain X' (⟨hx, rfl, rfl, D⟩ : InstAt s.heap x { cls := .ref C, dict := some dx, data := .fields vs } C (some (dictOf es n))) hs (storeE_more (s := { s with toks := s.toks + 1 }) F N hoff hxd X' hc hcd hobj hp ht hl e hz fun h' F' N' => h h' F' N')

theorem clr_08d : True := by
  w_top off
  k_with_none
  trivial
theorem meta_exception : typeOf (.type "Exception") = pure (.type "type") := by kernel_rfl
local macro_rules | `(tactic| walk_at "getMethod type:Exception") => `(tactic| (k_here; (refine' method_type ?F ?X ?m (by decide +kernel) ?e ?h ?_; (case F => k_asm); (case X => k_asm); (case m => exact meta_exception); (case e => k_dflt k_is); (case h => k_handed))))
local macro_rules | `(tactic| walk_at "call builtin:Exception.__init__") => `(tactic| (k_here; k_dflt (refine' exc_init_K PySem.F.excBase_Exception ?b ?F ?X ?l ?N ?o ?z ?_; (case F => k_asm); (case X => k_asm); (case N => k_asm); (case l => k_is); (case b => rfl); (case o => with_reducible assumption); (case z => exact Nat.le_of_ble_eq_true rfl)); intro t2 h' F' N'; (try k_sweep)))
local macro_rules | `(tactic| walk_at "setAttr ref") => `(tactic| (k_here; (with_reducible show wpAny _ _ (setAttr (Value.ref _) _ _) _ _ _); k_dflt (refine' set_first ?F ?N ?o ?X ?s ?c ?d ?b ?p ?t ?_; (case F => k_asm); (case N => with_reducible assumption); (case o => with_reducible assumption); (case X => k_asm); (case s => k_is); (case c => k_is); (case d => rfl); (case b => k_is); (case p => exact refuse63 _); (case t => k_is)); intro dx' h' F' N' l1 l2; (try k_sweep)))
local macro_rules | `(tactic| walk_at "setAttr ref") => `(tactic| (k_here; (with_reducible show wpAny _ _ (setAttr (Value.ref _) _ _) _ _ _); k_dflt (refine' set_next ?F ?N ?o ?y ?X ?s ?c ?d ?b ?p ?t ?l ?e ?z ?_; (case F => k_asm); (case N => with_reducible assumption); (case o => with_reducible assumption); (case y => with_reducible assumption); (case X => k_asm); (case s => k_is); (case c => k_is); (case d => rfl); (case b => k_is); (case p => exact refuse63 _); (case t => k_is); (case l => k_get); (case e => k_put); (case z => exact Nat.le_of_ble_eq_true rfl)); intro h' F' N'; (try k_sweep)))
theorem wfinit_c {e t0 : Addr} {why : Str} {t : Tok} {rest : List (Addr × Obj)} (B : Below A₀ base outer h₀) (F : Fr h₀ L s.heap m) (X : (hd.heap_39 w.params).In h₀) (N : News h₀ L s.heap ((e, excO 63 t0) :: rest)) (hoff : ∀ p ∈ rest, p.1 ≠ e) (T : Top hd.view_39 (looseW hd.view_39 []) mean mg mb h₀) (hk : cs.kind = .function)
    (hd : dp + 3 < recursionLimit) (hu : un + 40 < cLine)
    (ret : ∀ h' tk' t2 dx x1 x2 x3, Fr h₀ L h' m → News h₀ L h' ((e, excOd 63 t2 (some dx)) :: (dx, dictOf [⟨PyData.keyHash w.params "why", .str "why" x1, .str why t⟩, ⟨PyData.keyHash w.params "at", .str "at" x2, .int (-1) x3⟩] 2) :: rest) → (∀ p ∈ rest, p.1 ≠ dx) → e ≠ dx → Q .none { s with heap := h', toks := tk' }) :
    wpAny (model PySem.Challenge.rw_pf0336_01.row.prog w) (ktrTop dp un gd cn cs L a ccd cl outer) (call (.ref 28) [.ref e, .str why t]) Q E s := by
  revert X; k_fill; intro X
  refine wpAny_call ?_
  k_dflt ktr_enter
  k_steps
  exact ret _ _ _ _ _ _ _ (by k_asm) (by k_asm) (by assumption) (by assumption)
local macro_rules | `(tactic| walk_at "call ref") => `(tactic| (k_here; (with_reducible show wpAny _ _ (call (Value.ref 28) [Value.ref _, Value.str _ _]) _ _ _); k_dflt (refine' wfinit_c ?B ?F ?X ?N ?o ?T ?k ?d ?u ?_; (case B => k_asm); (case F => k_asm); (case X => k_asm); (case N => k_asm); (case T => k_asm); (case k => first | exact rfl | assumption); (case o => with_reducible assumption); (case d => ktr_room); (case u => first | ktr_units | ((try simp only [units_make, units_in1, units_deeper, Around.mark_units] at *); (try dsimp only [ktrTop] at *); (have hcL9 := cLine_is); omega))); intro h' tk' t2 dx' x1 x2 x3 F' N' l1 l2; (try dsimp only); (try k_sweep)))
local macro_rules | `(tactic| walk_at "call ref") => `(tactic| (k_here; (with_reducible show wpAny _ _ (call (Value.ref 63) [_, _]) _ _ _); refine wpAny_call ?_; (k_dflt (refine' make_E PySem.F.excBase_Exception ?F ?N ?X ?c ?i ?f ?b1 ?b2 ?b3 ?z ?_; (case F => k_asm); (case N => k_asm); (case X => k_in); (case c => k_is); (case i => k_is); (case f => k_is); (case b1 => rfl); (case b2 => rfl); (case b3 => rfl); (case z => exact Nat.le_of_ble_eq_true rfl))); (intro e9 t9 h' F' N' l1); (k_dflt (refine' code_def ?k1 ?k2 ?k3 ?k4 ?k5 ?kA ?kF ?kK ?k6 ?k7 ?k8 ?k9 ?kB ?_ ?c2 ?c3 ?c4 ?c5; (case kA => exact rfl); (case kF => exact rfl); (case kK => first | exact rfl | assumption); (case k1 => k_asm); (case k2 => k_asm); (case k3 => k_asm); (case k4 => k_asm); (case k5 => k_asm); (case k6 => k_is); (case k7 => k_is); (case k8 => ktr_room); (case k9 => first | exact BindsTo.of_eq rfl | exact binds_K (by k_in) rfl (by k_is) rfl rfl rfl); (case c5 => decide); (case kB => exact locs rfl); (case c2 => exact rfl); (case c3 => exact rfl); (case c4 => exact rfl); k_whole; intro g' L' h' FG' F' N' B' X' T'; (try dsimp only); (try k_fold)))))
/-- the entries of a refusal's dict -/
noncomputable abbrev refDict (P : Params) (code why : Str) (x1 x2 x3 x4 y1 y2 : Tok) : Obj := dictOf [⟨PyData.keyHash P "why", .str "why" x1, .str why y1⟩, ⟨PyData.keyHash P "at", .str "at" x2, .int (-1) x3⟩, ⟨PyData.keyHash P "code", .str "code" x4, .str code y2⟩] 3
theorem refused_c1 {t : Tok} (B : Below A₀ base outer h₀) (F : Fr h₀ L s.heap m) (X : (hd.heap_39 w.params).In h₀) (N : News h₀ L s.heap news) (T : Top hd.view_39 (looseW hd.view_39 []) mean mg mb h₀) (hk : cs.kind = .function)
    (hd : dp + 6 < recursionLimit) (hu : un + 100 < cLine)
    (ret : ∀ h' tk' e t2 dx x1 x2 x3 x4 y1 y2, Fr h₀ L h' m → News h₀ L h' ((e, excOd 63 t2 (some dx)) :: (dx, refDict w.params "EEXIST" "File exists" x1 x2 x3 x4 y1 y2) :: news) → (∀ p ∈ ((dx, refDict w.params "EEXIST" "File exists" x1 x2 x3 x4 y1 y2) :: news), p.1 ≠ e) → Q (.ref e) { s with heap := h', toks := tk' }) :
    wpAny (model PySem.Challenge.rw_pf0336_01.row.prog w) (ktrTop dp un gd cn cs L a ccd cl outer) (call (.ref 79) [.str "EEXIST" t]) Q E s := by
  revert X; k_fill; intro X
  refine wpAny_call ?_
  k_dflt ktr_enter
  k_steps
  skip
  all_goals exact ret _ _ _ _ _ _ _ _ _ _ _ (by k_asm) (by k_asm) (List.forall_mem_cons.mpr ⟨Ne.symm (by assumption), by assumption⟩)
theorem refused_c2 {t : Tok} (B : Below A₀ base outer h₀) (F : Fr h₀ L s.heap m) (X : (hd.heap_39 w.params).In h₀) (N : News h₀ L s.heap news) (T : Top hd.view_39 (looseW hd.view_39 []) mean mg mb h₀) (hk : cs.kind = .function)
    (hd : dp + 6 < recursionLimit) (hu : un + 100 < cLine)
    (ret : ∀ h' tk' e t2 dx x1 x2 x3 x4 y1 y2, Fr h₀ L h' m → News h₀ L h' ((e, excOd 63 t2 (some dx)) :: (dx, refDict w.params "ENOTEMPTY" "Directory not empty" x1 x2 x3 x4 y1 y2) :: news) → (∀ p ∈ ((dx, refDict w.params "ENOTEMPTY" "Directory not empty" x1 x2 x3 x4 y1 y2) :: news), p.1 ≠ e) → Q (.ref e) { s with heap := h', toks := tk' }) :
    wpAny (model PySem.Challenge.rw_pf0336_01.row.prog w) (ktrTop dp un gd cn cs L a ccd cl outer) (call (.ref 79) [.str "ENOTEMPTY" t]) Q E s := by
  revert X; k_fill; intro X
  refine wpAny_call ?_
  k_dflt ktr_enter
  k_steps
  skip
  all_goals exact ret _ _ _ _ _ _ _ _ _ _ _ (by k_asm) (by k_asm) (List.forall_mem_cons.mpr ⟨Ne.symm (by assumption), by assumption⟩)
theorem refused_c3 {t : Tok} (B : Below A₀ base outer h₀) (F : Fr h₀ L s.heap m) (X : (hd.heap_39 w.params).In h₀) (N : News h₀ L s.heap news) (T : Top hd.view_39 (looseW hd.view_39 []) mean mg mb h₀) (hk : cs.kind = .function)
    (hd : dp + 6 < recursionLimit) (hu : un + 100 < cLine)
    (ret : ∀ h' tk' e t2 dx x1 x2 x3 x4 y1 y2, Fr h₀ L h' m → News h₀ L h' ((e, excOd 63 t2 (some dx)) :: (dx, refDict w.params "ENOENT" "No such file or directory" x1 x2 x3 x4 y1 y2) :: news) → (∀ p ∈ ((dx, refDict w.params "ENOENT" "No such file or directory" x1 x2 x3 x4 y1 y2) :: news), p.1 ≠ e) → Q (.ref e) { s with heap := h', toks := tk' }) :
    wpAny (model PySem.Challenge.rw_pf0336_01.row.prog w) (ktrTop dp un gd cn cs L a ccd cl outer) (call (.ref 79) [.str "ENOENT" t]) Q E s := by
  revert X; k_fill; intro X
  refine wpAny_call ?_
  k_dflt ktr_enter
  k_steps
  skip
  all_goals exact ret _ _ _ _ _ _ _ _ _ _ _ (by k_asm) (by k_asm) (List.forall_mem_cons.mpr ⟨Ne.symm (by assumption), by assumption⟩)

theorem clr_09 : True := by
  w_top off
  k_with_none
  trivial
/-- the exception at e, of the class cls, its dict dx, bears a traceback entry whose fourth field is fl -/
noncomputable def TracedD (h base : Heap) (e : Addr) (cls : Value) (dx : Option Addr) (fl : Value) : Prop :=
  ∃ oe vs T oT ts, h.get? e = some oe ∧ (oe.cls = cls ∧ oe.dict = dx) ∧ oe.data = .fields vs ∧ vs[1]? = some (.ref T) ∧ base.get? T = none ∧ T ≠ e ∧ h.get? T = some oT ∧ oT.data = .fields ts ∧ ts[3]? = some fl
theorem dict_mapFields (o : Obj) (f : Array Value → Array Value) : (o.mapFields f).dict = o.dict := by
  obtain ⟨c, d, x, sl⟩ := o
  cases x <;> rfl
noncomputable def NotedD (base : Heap) (l : List Env) (e : Addr) (cls : Value) (dx : Option Addr) (fl : Value) (h h' : Heap) : Prop :=
  base.StaysIn h' ∧ h'.FunFrames base l ∧ TracedD h' base e cls dx fl ∧ h.UpToSlots h'

theorem entryD {M : Model} {A : Around} {base : Heap} {env : Env} {outer : List Env} {L e : Addr} {oe : Obj} {vs : Array Value} {head : Value} {hadNext : Bool} {Q : Unit → Shared → Prop} {E : Value → Shared → Prop}
    (hfr : A.frames = some (env :: outer)) (hl : s.heap.FunFrames base (env :: outer)) (hf : env.frame = some L)
    (he : s.heap.get? e = some oe) (hkb : base.StaysIn s.heap) (hen : base.get? e = none) (hd : oe.data = .fields vs) (hsz : 1 < vs.size)
    (h : ∀ h', NotedD base (env :: outer) e oe.cls oe.dict (rawInt L) s.heap h' → Q () { s with heap := h' }) :
    wpAny M A (do let a ← frameOf env; let pl ← entryPlaceOf L hadNext; let b ← EntryCells.newEntry head a .none (rawInt L) .none pl; setField (.ref e) 1 b) Q E s := by
  have hne : e ∉ (env :: outer).filterMap (·.frame) := fun hm => by
    obtain ⟨_, o, ho, hnf⟩ := hl.mem hm
    rw [he] at ho; injection ho with ho; subst ho; exact hnf vs hd
  refine wpAny_bind (wpAny_frameOf_fun hfr hl hf fun h₁ hs₁ => wpAny_bind (wpAny_entryPlaceOf fun pl hpl => ?_))
  unfold EntryCells.newEntry newFields
  refine wpAny_bind (wpAny_newObj_type ?_ (hpl.sizeOk5 _ _ _ _ _))
  have he₁ : h₁.get? e = some oe := (hs₁.2.1 e hne).trans he
  have kb₁ : base.StaysIn h₁ := fun b o hbo => (hs₁.2.1 b fun hm => by rw [(hl.mem hm).1] at hbo; cases hbo).trans (hkb b o hbo)
  generalize hob : ({ cls := .type "traceback", dict := none, data := .fields ([head, .ref L, .none, rawInt L, .none] ++ (if pl.isEmpty then List.replicate 6 Value.none else pl)).toArray } : Obj) = tb
  have hfreed : tb.isFreed = false := by rw [← hob]; rfl
  have he₂ := Heap.get?_push_of_some (h := h₁) tb he₁
  refine wpAny_setField he₂ hd hsz (h _ ?_)
  have hTe : h₁.objs.size ≠ e := Nat.ne_of_gt (Heap.lt_size he₁)
  have hd₃ := Obj.data_mapFields hd (·.setIfInBounds 1 (Value.ref h₁.objs.size))
  have hs₃ := Heap.SameBut.update (h₁.push tb) e (Obj.mapFields (·.setIfInBounds 1 (Value.ref h₁.objs.size)))
  have hT₃ := (hs₃.2 _ hTe).trans (Heap.get?_push_size h₁ hfreed)
  have keep : ∀ b o, b ≠ e → h₁.get? b = some o → ((h₁.push tb).update e (Obj.mapFields (·.setIfInBounds 1 (Value.ref h₁.objs.size)))).get? b = some o :=
    fun b o hbe hb => (hs₃.2 b hbe).trans (Heap.get?_push_of_some _ hb)
  have other : ∀ b o, s.heap.get? b = some o → (∀ vs, o.data ≠ .fields vs) → b ≠ e := fun b o hb hnf q => by
    rw [q, he] at hb; injection hb with hb; subst hb; exact hnf vs hd
  refine ⟨fun b o hbo => keep b o (fun q => by rw [q, hen] at hbo; cases hbo) (kb₁ b o hbo), hl.of_keeps fun b o hb hnf => ?_, ?_, fun b o hb hnf => ?_⟩
  · obtain ⟨sl, hs⟩ := hs₁.2.2 b o hb
    exact ⟨_, keep b _ (other b o hb hnf) hs, rfl⟩
  · refine ⟨_, _, h₁.objs.size, _, _, Heap.get?_update_self _ he₂ (Obj.isFreed_of_fields hd₃), ⟨Obj.cls_mapFields _ _, dict_mapFields _ _⟩, hd₃, by simp [hsz], kb₁.fresh, hTe, hT₃, by rw [← hob], ?_⟩
    first
      | (simp; done)
      | (rcases hpl with rfl | ⟨_, _, _, _, _, _, _, rfl⟩ <;> simp)
  · obtain ⟨sl, hs⟩ := hs₁.2.2 b o hb
    exact ⟨sl, keep b _ (other b o hb hnf) hs⟩
theorem landsD {M : Model} {A : Around} {base : Heap} {l : List Env} {e : Addr} {cls fl : Value} {dx : Option Addr} {Q : Unit → Shared → Prop} {E : Value → Shared → Prop}
    (hkb : base.StaysIn s.heap) (hl : s.heap.FunFrames base l) (ht : TracedD s.heap base e cls dx fl)
    (h : ∀ h', NotedD base l e cls dx .none s.heap h' → Q () { s with heap := h' }) :
    wpAny M A (setFlight (.ref e) none) Q E s := by
  obtain ⟨oe, vs, T, oT, ts, he, hcls, hd, h1, hnT, hTe, hT, hdT, h3⟩ := ht
  have hsz3 : 3 < ts.size := (Array.getElem?_eq_some_iff.mp h3).1
  have hs := Heap.SameBut.update s.heap T (Obj.mapFields (·.setIfInBounds 3 ((none : Option Addr).elim Value.none fun f => rawInt f)))
  have ne : ∀ b o, s.heap.get? b = some o → (∀ vs, o.data ≠ .fields vs) → b ≠ T := fun b o hb hnf q => by
    rw [q, hT] at hb; injection hb with hb; subst hb; exact hnf ts hdT
  unfold setFlight
  refine wpAny_bind (wpAny_field he hd h1 ?_)
  rw [if_pos (show (Value.ref T != Value.none) = true from by simp)]
  refine wpAny_setField hT hdT hsz3 (h _ ⟨fun b o hbo => (hs.2 b fun q => by rw [q, hnT] at hbo; cases hbo).trans (hkb b o hbo),
    hl.of_keeps fun b o hb hnf => ⟨o, (hs.2 b (ne b o hb hnf)).trans hb, rfl⟩, ?_, fun b o hb hnf => ⟨o.slots, (hs.2 b (ne b o hb hnf)).trans hb⟩⟩)
  exact ⟨oe, vs, T, _, _, (hs.2 e (Ne.symm hTe)).trans he, hcls, hd, h1, hnT, hTe, Heap.get?_update_self _ hT (Obj.isFreed_of_fields (Obj.data_mapFields hdT _)), Obj.data_mapFields hdT _, by simp [hsz3]⟩
theorem note_firstD {M : Model} {A : Around} {base : Heap} {env : Env} {outer : List Env} {L e : Addr} {oe : Obj} {vs : Array Value} {Q : Unit → Shared → Prop} {E : Value → Shared → Prop}
    (hfr : A.frames = some (env :: outer)) (hl : s.heap.FunFrames base (env :: outer)) (hf : env.frame = some L)
    (he : s.heap.get? e = some oe) (hkb : base.StaysIn s.heap) (hen : base.get? e = none) (hd : oe.data = .fields vs) (h1 : vs[1]? = some .none)
    (h : ∀ h', NotedD base (env :: outer) e oe.cls oe.dict (rawInt L) s.heap h' → Q () { s with heap := h' }) : wpAny M A (noteFrame (.ref e) env) Q E s := by
  unfold noteFrame
  simp only [hf]
  refine wpAny_bind (wpAny_field he hd h1 ?_)
  rw [if_neg (by decide)]
  exact entryD hfr hl hf he hkb hen hd (Array.getElem?_eq_some_iff.mp h1).1 h
theorem note_onD {M : Model} {A : Around} {base : Heap} {env : Env} {outer : List Env} {L e : Addr} {cls : Value} {dx : Option Addr} {Q : Unit → Shared → Prop} {E : Value → Shared → Prop}
    (hfr : A.frames = some (env :: outer)) (hl : s.heap.FunFrames base (env :: outer)) (hf : env.frame = some L) (ht : TracedD s.heap base e cls dx .none) (hkb : base.StaysIn s.heap) (hen : base.get? e = none)
    (h : ∀ h', NotedD base (env :: outer) e cls dx (rawInt L) s.heap h' → Q () { s with heap := h' }) : wpAny M A (noteFrame (.ref e) env) Q E s := by
  obtain ⟨oe, vs, T, oT, ts, he, ⟨hcls, hdx⟩, hd, h1, hnT, hTe, hT, hdT, h3⟩ := ht
  subst hcls hdx
  unfold noteFrame
  simp only [hf]
  refine wpAny_bind (wpAny_field he hd h1 ?_)
  rw [if_pos (show (Value.ref T != Value.none) = true from by simp)]
  refine wpAny_bind (wpAny_field hT hdT h3 ?_)
  rw [if_neg (show ¬ ((Value.none == rawInt L) = true) from by simp [rawInt])]
  refine wpAny_bind (wpAny_setField hT hdT (Array.getElem?_eq_some_iff.mp h3).1 ?_)
  have hs := Heap.SameBut.update s.heap T (Obj.mapFields (·.setIfInBounds 3 Value.none))
  have ne : ∀ b o, s.heap.get? b = some o → (∀ vs, o.data ≠ .fields vs) → b ≠ T := fun b o hb hnf q => by
    rw [q, hT] at hb; injection hb with hb; subst hb; exact hnf ts hdT
  exact entryD hfr (hl.of_keeps fun b o hb hnf => ⟨o, (hs.2 b (ne b o hb hnf)).trans hb, rfl⟩) hf ((hs.2 e (Ne.symm hTe)).trans he)
    (fun b o hbo => (hs.2 b fun q => by rw [q, hnT] at hbo; cases hbo).trans (hkb b o hbo)) hen hd (Array.getElem?_eq_some_iff.mp h1).1
    fun h' ⟨x1, x2, x3, x4⟩ => h h' ⟨x1, x2, x3, fun b o hb hnf => x4 b o ((hs.2 b (ne b o hb hnf)).trans hb) hnf⟩
theorem note_againD {M : Model} {A : Around} {base : Heap} {env : Env} {L e : Addr} {cls : Value} {dx : Option Addr} {Q : Unit → Shared → Prop} {E : Value → Shared → Prop} (hf : env.frame = some L) (ht : TracedD s.heap base e cls dx (rawInt L)) (h : Q () s) :
    wpAny M A (noteFrame (.ref e) env) Q E s := by
  obtain ⟨oe, vs, T, oT, ts, he, hcls, hd, h1, hnT, hTe, hT, hdT, h3⟩ := ht
  unfold noteFrame
  simp only [hf]
  refine wpAny_bind (wpAny_field he hd h1 ?_)
  rw [if_pos (show (Value.ref T != Value.none) = true from by simp)]
  refine wpAny_bind (wpAny_field hT hdT h3 ?_)
  rw [if_pos (show (rawInt L == rawInt L) = true from by simp)]
  exact wpAny_pure h
theorem leaving_firstD {M : Model} {A : Around} {base : Heap} {env : Env} {outer : List Env} {L e : Addr} {oe : Obj} {vs : Array Value} {Q : Unit → Shared → Prop} {E : Value → Shared → Prop}
    (hfr : A.frames = some (env :: outer)) (hl : s.heap.FunFrames base (env :: outer)) (hf : env.frame = some L)
    (he : s.heap.get? e = some oe) (hkb : base.StaysIn s.heap) (hen : base.get? e = none) (hd : oe.data = .fields vs) (h1 : vs[1]? = some .none)
    (h : ∀ h', NotedD base (env :: outer) e oe.cls oe.dict .none s.heap h' → Q () { s with heap := h' }) : wpAny M A (leaving env (.ref e)) Q E s := by
  unfold leaving
  refine wpAny_bind (note_firstD hfr hl hf he hkb hen hd h1 fun h₁ ⟨a1, a2, a3, a4⟩ => ?_)
  exact landsD a1 a2 a3 fun h₂ ⟨b1, b2, b3, b4⟩ => h h₂ ⟨b1, b2, b3, a4.trans b4⟩
/-- an exception on its way: what stands at the heap h while e flies over the frames l -/
noncomputable def RaisedD (base G : Heap) (l : List Env) (e : Addr) (cls : Value) (dx : Option Addr) (news : List (Addr × Obj)) (h : Heap) : Prop :=
  ∃ B, base.StaysIn B ∧ (∀ b o, G.get? b = some o → b ∉ l.filterMap (·.frame) → B.get? b = some o) ∧ (∀ q ∈ news, B.get? q.1 = some q.2 ∧ G.get? q.1 = none ∧ base.get? q.1 = none) ∧
    B.StaysIn h ∧ B.get? e = none ∧ h.FunFrames B l ∧ TracedD h B e cls dx .none
theorem leave_raiseD {M : Model} {A : Around} {base g : Heap} {outer : List Env} {L a e : Addr} {m : Str → Option Value} {name : Str} {scope : Scope} {cd : Value} {Q : Unit → Shared → Prop} {E : Value → Shared → Prop} {news : List (Addr × Obj)} {oe : Obj} {vs : Array Value}
    (K : Below A base outer g) (F : Fr g L s.heap m) (N : News g L s.heap ((e, oe) :: news)) (hoff : ∀ p ∈ news, p.1 ≠ e) (hd : oe.data = .fields vs) (h1 : vs[1]? = some .none)
    (hQ : ∀ h', RaisedD base g outer e oe.cls oe.dict news h' → g.UpToSlots h' → Q () { s with heap := h' }) (hk : scope.kind = .function) :
    wpAny M (A.deeper (envOf name scope L a cd)) (leaving (envOf name scope L a cd) (.ref e)) Q E s := by
  have K' := K.push (name := name) (a := a) (cd := cd) F hk
  have ne := N _ (.head _)
  have he0 : base.get? e = none := fresh_of_stays K.stays ne.2.2
  have hin : ∀ env ∈ (envOf name scope L a cd :: outer), ∀ b, env.frame = some b → b ∈ e :: (envOf name scope L a cd :: outer).filterMap (·.frame) := fun env he b hb => .tail _ (List.mem_filterMap.mpr ⟨env, he, hb⟩)
  have notIn : ∀ b o, s.heap.get? b = some o → b ≠ e → b ∉ (envOf name scope L a cd :: outer).filterMap (·.frame) → (hideAll s.heap (e :: (envOf name scope L a cd :: outer).filterMap (·.frame))).get? b = some o := fun b o q n1 n2 => hideAll_get _ q fun hm => by
    rcases List.mem_cons.mp hm with z | z
    · exact n1 z
    · exact n2 z
  have st : base.StaysIn (hideAll s.heap (e :: (envOf name scope L a cd :: outer).filterMap (·.frame))) := fun b o q => notIn b o (K'.stays b o q) (fun z => by rw [z, he0] at q; cases q) fun hm => by
    rw [(K'.frames.mem hm).1] at q; cases q
  have sg : ∀ b o, g.get? b = some o → b ∉ outer.filterMap (·.frame) → (hideAll s.heap (e :: (envOf name scope L a cd :: outer).filterMap (·.frame))).get? b = some o := fun b o q nm => notIn b o (F.keep b o q) (fun z => by rw [z, ne.2.2] at q; cases q) fun hm => by
    rcases kts_mem hm with z | z
    · rw [z, kts_self F] at q
      cases q
    · exact nm z
  have hl : ∀ q ∈ news, (hideAll s.heap (e :: (envOf name scope L a cd :: outer).filterMap (·.frame))).get? q.1 = some q.2 ∧ g.get? q.1 = none ∧ base.get? q.1 = none := fun q hq => by
    have z := N q (.tail _ hq)
    refine ⟨notIn _ _ z.1 (hoff q hq) fun hm => ?_, z.2.2, fresh_of_stays K.stays z.2.2⟩
    obtain ⟨env, he, hf⟩ := List.mem_filterMap.mp hm
    rcases List.mem_cons.mp he with rfl | he
    · exact z.2.1 (Option.some.inj hf).symm
    · obtain ⟨o, ho, _⟩ := (K.frames.mem (List.mem_filterMap.mpr ⟨env, he, hf⟩)).2
      rw [z.2.2] at ho; cases ho
  refine leaving_firstD K'.stack (funFrames_hide K'.frames hin) rfl ne.1 (fun b o q => of_hideAll _ q) (hideAll_none _ (.head _)) hd h1 fun h' ⟨k1, k2, k3, k4⟩ => ?_
  exact hQ h' ⟨_, st, sg, hl, k1, hideAll_none _ (.head _), k2.2.2, k3⟩ ((Heap.UpToSlots.of_keeps F.keep).trans k4)

theorem clr_10 : True := by
  w_top off
  k_with_none
  trivial
theorem caughtD {prog : Program} {A₀ : Around} {E : Value → Shared → Prop} {s' : Shared} {base g g₀ G : Heap} {outer : List Env} {L a e C : Addr} {dx : Option Addr} {m : Str → Option Value} {name : Str} {scope : Scope} {cd : Value}
    {n : Str} {b₀ : Stmt} {suite : List Stmt} {pos np : Pos} {rest : List ExceptHandler} {Q : Flow → Shared → Prop} {news : List (Addr × Obj)} {K : Frag} {p : Program} {loose : List Str} {mean : ExcName → Option Value} {mg mb : Str → Option Value} {x : Str}
    (R : RaisedD base G (envOf name scope L a cd :: outer) e (.ref C) dx news s'.heap) (F : Fr g L G m) (Kb : Below A₀ base outer g) (hsm : G.UpToSlots s'.heap) (XB : K.In base) (TB : Top p loose mean mg mb base)
    (D : KtsDicts (outer.filterMap (·.frame)) g) (T0 : KtsTurn (outer.filterMap (·.frame)) g₀ g) (hoffD : ∀ q ∈ news, q.1 ≠ e)
    (ex : nsIn K mainGlobals x = some (some (.ref C))) (q : ktsIn K C "BaseException" = true)
    (k : ∀ h' g' tk oe vs, KtsTurn (outer.filterMap (·.frame)) g₀ g' → Fr g' L h' (fun y => if y = n then some (.ref e) else m y) → News g' L h' ((e, oe) :: news) → oe.cls = .ref C → oe.dict = dx → oe.data = .fields vs → Below A₀ base outer g' → K.In g' → Top p loose mean mg mb g' → KtsDicts (outer.filterMap (·.frame)) g' →
      wpAny (model prog w) ((A₀.deeper (envOf name scope L a cd)).mark (some (.ref e))) (execs (b₀ :: suite) (envOf name scope L a cd))
        (fun f s₄ => wpAny (model prog w) (A₀.deeper (envOf name scope L a cd)) (do bindName (envOf name scope L a cd) n .none; unbindBehindTheSuite (envOf name scope L a cd) n pos) (fun _ s₅ => Q f s₅) E s₄)
        (AsSuiteRaised (model prog w) ((A₀.deeper (envOf name scope L a cd)).mark (some (.ref e))) (envOf name scope L a cd) n pos (notedBy (model prog w) ((A₀.deeper (envOf name scope L a cd)).mark (some (.ref e))) (envOf name scope L a cd) (cameBackBy (model prog w) (A₀.deeper (envOf name scope L a cd)) (envOf name scope L a cd) E)))
        { s' with heap := h', toks := tk })
    (hk : scope.kind = .function) (hlo : (envOf name scope L a cd).kindOf n = some .local) (hx : (envOf name scope L a cd).kindOf x = some .globalImplicit) (hd : (x == ("__debug__" : Str)) = false) :
    wpAny (model prog w) (A₀.deeper (envOf name scope L a cd)) (noteFrame (.ref e) (envOf name scope L a cd))
      (fun _ s₂ => wpAny (model prog w) (A₀.deeper (envOf name scope L a cd)) (setFlight (.ref e) none) (fun _ s₃ =>
        wpAny (model prog w) (A₀.deeper (envOf name scope L a cd)) (handleBy (.ref e) (envOf name scope L a cd) (.ExceptHandler (some (.Name x np)) (some n) (b₀ :: suite) pos :: rest)) Q E s₃) E s₂) E s' := by
  obtain ⟨B, hB, hBG, hl, st, heB, hfr, htr⟩ := R
  have hL : B.get? L = none := by
    obtain ⟨_, ⟨L', _, hf, hn', _⟩, _⟩ := hfr
    obtain rfl : L = L' := Option.some.inj hf
    exact hn'
  refine note_onD (Around.frames_deeper Kb.stack) hfr rfl htr st heB fun h₄ ⟨a1, a2, a3, a4⟩ => ?_
  refine landsD (s := { s' with heap := h₄ }) a1 a2 a3 fun h₅ ⟨b1, b2, b3, b4⟩ => ?_
  have hsm₅ : s'.heap.UpToSlots h₅ := a4.trans b4
  obtain ⟨g₅, T₅, F₅, K₅⟩ := kts_ground Kb F hBG b1 (hsm.trans hsm₅)
  have X₅ : K.In g₅ := XB.keeps K₅.stays
  have P₅ : TopRead p loose mg mb g₅ := topRead_of (TB.keeps K₅.stays)
  obtain ⟨nm, q', N, bs, bm, hdct, sn, sub, ab, col, dd, k0, k1, k2, k3, k5, newId, hC, hbase, hbT⟩ := kts_cls X₅ q
  have hC₅ := F₅.keep _ _ hC
  obtain ⟨oe5, vs5, T5, oT5, ts5, he5, ⟨hc5, hdx5⟩, hd5, r5⟩ := id b3
  refine wpAny_handleBy_cons (codeAny_handlers_test (name_K F₅ X₅ P₅ ex ?_ hk hx hd)) (by intro q; cases q)
  refine wpAny_excMatches_sub_self hC₅ he5 hc5 hbase (codeAny_handlers_suite_as ?_)
  refine landsD (s := { s' with heap := h₅ }) b1 b2 b3 fun h₆ ⟨c1, c2, c3, c4⟩ => ?_
  obtain ⟨g₆, T₆, F₆, K₆⟩ := kts_ground Kb F hBG c1 ((hsm.trans hsm₅).trans c4)
  obtain ⟨oe, vs, T6, oT6, ts6, he6, ⟨hc6, hdx6⟩, hd6, r6⟩ := c3
  have ne₆ : g₆.get? e = none := T₆.none_ _ (kts_fresh F hBG heB fun o ho m => by
    obtain ⟨_, o', ho', hdd⟩ := Kb.frames.mem m
    rw [ho] at ho'
    cases ho'
    obtain ⟨sl, hs⟩ := ((hsm.trans hsm₅).trans c4) _ _ (F.keep _ _ ho) hdd
    rw [he6] at hs
    cases hs
    exact hdd _ hd6)
  have Nl : News g₆ L h₆ news := fun q hq => ⟨c1 _ _ (hl q hq).1, (fun z => by have := (hl q hq).1; rw [z, hL] at this; cases this), T₆.none_ _ (kts_none F.keep (hl q hq).2.1)⟩
  have Ne := News.more F₆ Nl he6 (fun es n q => by rw [hd6] at q; cases q) ne₆
  have X₆ : K.In g₆ := XB.keeps K₆.stays
  have P₆ : Top p loose mean mg mb g₆ := TB.keeps K₆.stays
  have D₆ : KtsDicts (outer.filterMap (·.frame)) g₆ := D.turn T₆
  refine stN F₆ Ne (fun h₇ F₇ N₇ => ?_) hk hlo
  exact k h₇ g₆ _ _ _ (T0.trans T₆) F₇ N₇ hc6 hdx6 hd6 K₆ X₆ P₆ D₆
theorem push_env {A₀ A : Around} {base h₀ h : Heap} {outer : List Env} {env : Env} {L : Addr} {m : Str → Option Value} (K : Below A₀ base outer h₀) (F : Fr h₀ L h m) (hA : A.frames = some (env :: outer)) (hf : env.frame = some L) (hke : env.scope.kind = .function) : Below A base (env :: outer) h := by
  have hnew : base.get? L = none := by
    cases hq : base.get? L with
    | none => rfl
    | some o => exact absurd (Nat.lt_of_lt_of_le (Heap.lt_size (K.stays L o hq)) F.above) (Nat.lt_irrefl _)
  refine ⟨hA, fun b o e => F.keep b o (K.stays b o e), ?_⟩
  exact .cons (by rw [hke]; decide) hf F.ns hnew (K.frames.of_keeps fun b o e _ => ⟨o, F.keep b o e, rfl⟩)
theorem enterT {prog : Program} {A₀ A : Around} {base h₀ : Heap} {L : Addr} {m : Str → Option Value} {env : Env} {news : List (Addr × Obj)} {K : Frag} {p : Program} {loose : List Str} {mean : ExcName → Option Value} {mg mb : Str → Option Value}
    {R : Result → Shared → Prop} {name qual : Str} {params : Arguments} {body : List Stmt} {scope : Scope} {dV kV doc pm cdv ct oc : Value} {an od : Option Addr} {osl : Array (Option Value)} {f : Addr} {args : Args} {binds : List (Str × Value)}
    (B : Below A₀ base [] h₀) (F : Fr h₀ L s.heap m) (X₀ : K.In h₀) (N : News h₀ L s.heap news) (T : Top p loose mean mg mb h₀) (hA : A.frames = some [env]) (hf : env.frame = some L) (hke : env.scope.kind = .function)
    (ho : K.lookup f = some ⟨oc, od, .func (fnOf name qual params body scope dV kV doc pm an cdv ct), osl⟩) (hcd : codeIn K cdv qual = true) (hroom : A.depth < recursionLimit)
    (hbind : BindsTo s (fnOf name qual params body scope dV kV doc pm an cdv ct) args binds) (hloc : ∀ y ∈ binds, scope.names.lookup y.1 = some .local)
    (h : ∀ g L' h₁, Fr h₀ L g m → Fr g L' h₁ (fun y => binds.reverse.lookup y) → News g L' h₁ news → Below A base [env] g → K.In g → Top p loose mean mg mb g → KtsDicts ([env].filterMap (·.frame)) g →
      wpAny (model prog w) (A.deeper (envOf qual scope L' f cdv)) (execs body (envOf qual scope L' f cdv))
        (fun fl s' => LeaveS0 ([env].filterMap (·.frame)) h₀ L m g R (match fl with | .ret v => v | _ => .none) s')
        (fun e s' => wpAny (model prog w) (A.deeper (envOf qual scope L' f cdv)) (leaving (envOf qual scope L' f cdv) e) (fun _ s'' => R (.error e) s'') (fun e' s'' => R (.error e') s'') s')
        { s with heap := h₁, toks := s.toks + binds.length })
    (hco : scope.isCoroutine = false) (hgen : scope.isGenerator = false) (hk : scope.kind = .function)
    (hcell : ∀ x ∈ scope.names, x.2 ≠ .cell) : codeAny (model prog w) A (.call (.ref f) args) R s := by
  have X := X₀.keeps F.keep
  refine codeAny_call_def (fd := fnOf name qual params body scope dV kV doc pm an cdv ct) (body := body) (binds := binds) hroom (X _ _ ho) rfl (T.nolimit.keeps F.keep) (codeRec_of X hcd) rfl hbind hcell hloc (fun h₁ hns hk₁ => ?_) hco hgen hk
  have nm : ∀ b o, h₀.get? b = some o → b ∉ news.map (·.1) := fun b o e q => by
    obtain ⟨p, hp, rfl⟩ := List.mem_map.mp q
    rw [(N p hp).2.2] at e; cases e
  have st : h₀.StaysIn (hideAll s.heap (news.map (·.1))) := fun b o e => hideAll_get _ (F.keep b o e) (nm b o e)
  obtain ⟨oL, es, ep, hL, hLd, hLk, hLf⟩ := F.ns
  have nL : L ∉ news.map (·.1) := fun q => by
    obtain ⟨p, hp, e⟩ := List.mem_map.mp q
    exact (N p hp).2.1 e
  have hLg := hideAll_get (news.map (·.1)) hL nL
  have Fg : Fr h₀ L (hideAll s.heap (news.map (·.1))) m := ⟨⟨oL, es, ep, hLg, hLd, hLk, hLf⟩, st, F.above⟩
  have B₂ : Below A base [env] (hideAll s.heap (news.map (·.1))) := push_env B Fg hA hf hke
  have fm : [env].filterMap (·.frame) = [L] := by simp [hf]
  refine wpAny_mono (h _ s.heap.objs.size h₁ Fg ⟨hns, fun b o e => hk₁ b o (of_hideAll _ e), Nat.le_of_eq (hideAll_size _ _)⟩
    (fun p hp => ⟨hk₁ _ _ (N p hp).1, Nat.ne_of_lt (Heap.lt_size (N p hp).1), hideAll_none _ (List.mem_map_of_mem hp)⟩) B₂ (X₀.keeps st) (T.keeps st) (fun b hb => by
      rw [fm] at hb
      rw [List.mem_singleton.mp hb]
      exact ⟨oL, es, ep, hLg, hLd⟩)) (fun fl s' hl => ?_) fun _ _ y => y
  rw [fm] at hl
  obtain ⟨g', L', m', news', T', F', N', k⟩ := hl
  have nL₀ : h₀.get? L = none := kts_self F
  obtain ⟨sl, hs⟩ := T'.up hLg
  refine k ⟨⟨_, es, ep, F'.keep _ _ hs, hLd, hLk, hLf⟩, fun b o e => F'.keep b o (T'.other b o (st b o e) (fun q => by
    rw [List.mem_singleton.mp q, nL₀] at e
    cases e)), F.above⟩ fun p hp => ⟨(N' p hp).1, fun q => ?_, ?_⟩
  · have := (N' p hp).2.2; rw [q, hs] at this; cases this
  · cases q : h₀.get? p.1 with
    | none => rfl
    | some o =>
      obtain ⟨sl', hs'⟩ := T'.up (st _ _ q)
      have := (N' p hp).2.2
      rw [hs'] at this
      cases this

theorem clr_11 : True := by
  w_top off
  k_with_none
  trivial
/-- the run of rows that begin at hi or ahead of it: those that live, and what stands behind -/
noncomputable def keep (hi now : Int) : List Rw → List Rw × List Rw
  | [] => ([], [])
  | x :: t => if x.lo ≤ hi then (if live x now = true then (x :: (keep hi now t).1, (keep hi now t).2) else keep hi now t) else ([], x :: t)
noncomputable def putS (R : List Rw) (r : Rw) (now : Int) : List Rw × Option (Str × Str) :=
  match (keep r.hi now (R.drop (pIn R r.lo))).1 with
  | [] => (R.take (pIn R r.lo) ++ r :: (keep r.hi now (R.drop (pIn R r.lo))).2, none)
  | x :: kept => (R.take (pIn R r.lo) ++ (x :: kept) ++ (keep r.hi now (R.drop (pIn R r.lo))).2, some (if x.lo = r.lo ∧ x.hi = r.hi then (Str.ofString "EEXIST", Str.ofString "File exists") else (Str.ofString "ENOTEMPTY", Str.ofString "Directory not empty")))

theorem map7 {m₁ : Str → Option Value} {x1 x2 x3 x4 x5 x6 x7 : Str} {v1 v2 v3 v4 v5 v6 v7 : Value} (h1 : m₁ x1 = some v1) (h2 : m₁ x2 = some v2) (h3 : m₁ x3 = some v3) (h4 : m₁ x4 = some v4) (h5 : m₁ x5 = some v5) (h6 : m₁ x6 = some v6) (h7 : m₁ x7 = some v7) :
    m₁ = fun k => if k = x1 then some v1 else if k = x2 then some v2 else if k = x3 then some v3 else if k = x4 then some v4 else if k = x5 then some v5 else if k = x6 then some v6 else if k = x7 then some v7 else m₁ k := by
  funext k
  by_cases a1 : k = x1
  · simp [a1, h1]
  by_cases a2 : k = x2
  · subst a2; simp [a1, h2]
  by_cases a3 : k = x3
  · subst a3; simp [a1, a2, h3]
  by_cases a4 : k = x4
  · subst a4; simp [a1, a2, a3, h4]
  by_cases a5 : k = x5
  · subst a5; simp [a1, a2, a3, a4, h5]
  by_cases a6 : k = x6
  · subst a6; simp [a1, a2, a3, a4, a5, h6]
  by_cases a7 : k = x7
  · subst a7; simp [a1, a2, a3, a4, a5, a6, h7]
  simp [a1, a2, a3, a4, a5, a6, a7]

/-- raise X where X is a made exception: what must stand -/
noncomputable def RaiseNow (C : Addr) (E : Value → Shared → Prop) (v : Value) (s₁ : Shared) : Prop :=
  ∃ e t dx nm q N bs bm hdct sn sub ab col dd k0 k1 k2 k3 k5 newId, v = .ref e ∧ s₁.heap.get? C = some (excClassObj nm q C N bs bm hdct sn sub ab col dd k0 k1 k2 k3 k5 newId) ∧ bm.contains (.type "BaseException") = true ∧
    s₁.heap.get? e = some (excOd C t dx) ∧ E (.ref e) s₁
theorem exec_raiseE {M : Model} {A : Around} {env : Env} {ex : Expr} {pos : Pos} {Q : Flow → Shared → Prop} {E : Value → Shared → Prop} (C : Addr) (hh : A.handled = none)
    (h : wpAny M A (eval ex env) (RaiseNow C E) E s) : wpAny M A (exec (.Raise (some ex) none pos) env) Q E s := by
  rw [arm_exec_Raise]
  simp only [evalOpt, Option.map]
  refine wpAny_bind (wpAny_standAt ?_)
  unfold raiseStmt
  refine wpAny_bind (wpAny_mono (Q := RaiseNow C E) ?_ (fun v s₁ h₁ => ?_) fun _ _ x => x)
  · first
      | exact h
      | exact wpAny_bind (wpAny_mono h (fun v s₁ h₁ => wpAny_bind (wpAny_standAt (wpAny_pure h₁))) fun _ _ x => x)
  obtain ⟨e, t, dx, nm, q, N, bs, bm, hdct, sn, sub, ab, col, dd, k0, k1, k2, k3, k5, newId, rfl, hC, hbase, he, hE⟩ := h₁
  have hcB : (Value.ref C :: bm).contains (.type "BaseException") = true := by rw [List.contains_cons, hbase, Bool.or_true]
  obtain ⟨hp, g, d, tk, os⟩ := s₁
  repeat (first | with_reducible refine wpAny_loadPart_at he ?_ | with_reducible refine wpAny_loadPart_at hC ?_ | (with_reducible refine wpAny_isSubtype_exc hC ?_; rw [hcB]) | wp_step)
  exact wpAny_raiseNew_none hh hE
theorem RaiseNow.intro {K : Frag} {h₀ : Heap} {L : Addr} {m : Str → Option Value} {C e t : Addr} {dx : Option Addr} {news : List (Addr × Obj)} {E : Value → Shared → Prop} {nm q : Str} {N' : Addr} {bs bm : List Value} {hdct : Bool} {sn : List Str} {sub : List Value} {ab : Bool} {col : Option Bool} {dd : Option Addr} {k0 k1 k2 k3 k5 : Option Value} {newId : String}
    (F : Fr h₀ L s.heap m) (N : News h₀ L s.heap ((e, excOd C t dx) :: news)) (X : K.In h₀) (hl : K.lookup C = some (excClassObj nm q C N' bs bm hdct sn sub ab col dd k0 k1 k2 k3 k5 newId)) (hb : bm.contains (.type "BaseException") = true) (h : E (.ref e) s) : RaiseNow C E (.ref e) s :=
  ⟨e, t, dx, nm, q, N', bs, bm, hdct, sn, sub, ab, col, dd, k0, k1, k2, k3, k5, newId, rfl, F.keep _ _ (X _ _ hl), hb, (N _ (.head _)).1, h⟩
local macro_rules | `(tactic| walk_at "exec Raise some none") => `(tactic| (k_here; k_dflt (refine exec_raiseE 63 rfl ?_)))
local macro_rules | `(tactic| walk_at "RaiseNow") => `(tactic| (k_here; k_dflt (refine' RaiseNow.intro ?F ?N ?X ?l ?b ?_; (case F => k_asm); (case N => with_reducible assumption); (case X => k_asm); (case l => k_is); (case b => rfl))))
local macro_rules | `(tactic| walk_at "leaving ref") => `(tactic| (k_here; (k_dflt (refine' leave_raiseD ?K ?F ?N ?o ?d1 ?d2 ?_ ?d3; (case K => k_asm); (case F => k_asm); (case N => with_reducible assumption); (case o => with_reducible assumption); (case d1 => exact rfl); (case d2 => exact rfl); (case d3 => exact rfl))); intro h' R' hsm'))
local macro_rules | `(tactic| walk_at "call ref") => `(tactic| (k_here; (with_reducible show wpAny _ _ (call (Value.ref 79) [Value.str "EEXIST" _]) _ _ _); k_dflt (refine' refused_c1 ?B ?F ?X ?N ?T ?k ?d ?u ?_; walk_at "kcs9"; walk_at "krm9"); walk_at "fin9"))
local macro_rules | `(tactic| walk_at "call ref") => `(tactic| (k_here; (with_reducible show wpAny _ _ (call (Value.ref 79) [Value.str "ENOTEMPTY" _]) _ _ _); k_dflt (refine' refused_c2 ?B ?F ?X ?N ?T ?k ?d ?u ?_; walk_at "kcs9"; walk_at "krm9"); walk_at "fin9"))
local macro_rules | `(tactic| walk_at "call ref") => `(tactic| (k_here; (with_reducible show wpAny _ _ (call (Value.ref 79) [Value.str "ENOENT" _]) _ _ _); k_dflt (refine' refused_c3 ?B ?F ?X ?N ?T ?k ?d ?u ?_; walk_at "kcs9"; walk_at "krm9"); walk_at "fin9"))
local macro_rules | `(tactic| walk_at "call builtin:list.pop") => `(tactic| (k_here; (with_reducible show wpAny _ _ (call (Value.builtin _) [Value.ref _, Value.int _ _]) _ _ _); k_dflt (refine' pop_rows ?F ?N ?o ?e ?a ?b ?z ?_; (case F => k_asm); (case N => with_reducible assumption); (case o => with_reducible assumption); (case e => with_reducible assumption); (case a => omega); (case b => first | omega | (simp only [List.length_append, List.length_cons]; omega)); (case z => first | assumption | omega | (simp only [List.length_append, List.length_cons]; omega))); intro h' v9 r9 vs9 e9 hr9 he9 ha9 F' N'; (try k_sweep)))
local macro_rules | `(tactic| walk_at "call builtin:list.insert") => `(tactic| (k_here; (with_reducible show wpAny _ _ (call (Value.builtin _) [Value.ref _, Value.int _ _, _]) _ _ _); k_dflt (refine' insert_rows ?F ?N ?o ?e ?a ?b ?z ?v ?_; (case F => k_asm); (case N => with_reducible assumption); (case o => with_reducible assumption); (case e => with_reducible assumption); (case v => with_reducible assumption); (case a => omega); (case b => first | omega | (simp only [List.length_append, List.length_cons]; omega)); (case z => first | assumption | omega | (simp only [List.length_append, List.length_cons]; omega))); intro h' vs9 ha9 F' N'; (try k_sweep)))

theorem drop_c {st dd li : Addr} {vs : List Value} {R : List Rw} {nn : Nat} {bv : Value} {lo hi : Int} {x : Tok} {rest : List (Addr × Obj)} (B : Below A₀ base outer h₀) (F : Fr h₀ L s.heap m) (X : (hd.heap_39 w.params).In h₀) (N : News h₀ L s.heap ((li, listOf vs.toArray nn) :: rest)) (hoff : ∀ p ∈ rest, p.1 ≠ li) (T : Top hd.view_39 (looseW hd.view_39 []) mean mg mb h₀) (hk : cs.kind = .function)
    (hd : dp + 8 < recursionLimit) (hu : un + 300 < cLine) (hst : (st, instObj 188 dd) ∈ rest) (hdd : (dd, dictOf [⟨PyData.keyHash w.params "items", .str "items" x, .ref li⟩] 1) ∈ rest) (he : All2 (ElIn w.params rest) vs R) (h8 : R.length < 64) (hs : R.Pairwise fun a b => a.hi ≤ b.hi) (hb : BoxIn rest bv lo hi)
    (ret : ∀ h' tk' v r vs' nn', 0 ≤ boxAt R lo hi → R[(boxAt R lo hi).toNat]? = some r → ElIn w.params rest v r → All2 (ElIn w.params rest) vs' (R.take (boxAt R lo hi).toNat ++ R.drop ((boxAt R lo hi).toNat + 1)) → Fr h₀ L h' m → News h₀ L h' ((li, listOf vs'.toArray nn') :: rest) → Q v { s with heap := h', toks := tk' })
    (rai : ∀ g h' tk' e dx x1 x2 x3 x4 y1 y2, boxAt R lo hi < 0 → Fr h₀ L g m → RaisedD base g (envX cn cs L a ccd cl :: outer) e (.ref 63) (some dx) ((dx, refDict w.params "ENOENT" "No such file or directory" x1 x2 x3 x4 y1 y2) :: (li, listOf vs.toArray nn) :: rest) h' → (∀ p ∈ ((dx, refDict w.params "ENOENT" "No such file or directory" x1 x2 x3 x4 y1 y2) :: (li, listOf vs.toArray nn) :: rest), p.1 ≠ e) → g.UpToSlots h' → E (.ref e) { s with heap := h', toks := tk' }) :
    wpAny (model PySem.Challenge.rw_pf0336_01.row.prog w) (ktrTop dp un gd cn cs L a ccd cl outer) (call (.ref 164) [.ref st, bv]) Q E s := by
  revert X; k_fill; intro X
  have hb' := hb.sub (fun p hp => List.mem_cons_of_mem (li, listOf vs.toArray nn) hp)
  have he' := he.sub (fun p hp => List.mem_cons_of_mem (li, listOf vs.toArray nn) hp)
  have he2 := he
  obtain ⟨b, c, k1, k2, tlo, thi, rfl, h1, h2⟩ := hb
  refine wpAny_call ?_
  k_dflt ktr_enter
  k_steps
  all_goals (rename (_ = boxAt _ _ _) => hk9; subst hk9)
  all_goals first
    | exact rai _ _ _ _ _ _ _ _ _ _ _ (by omega) (by assumption) (by assumption) (by assumption) (by assumption)
    | exact ret _ _ _ _ _ _ (by omega) (by assumption) (by assumption) (by assumption) (by k_asm) (by k_asm)

theorem clr_12 : True := by
  w_top off
  k_with_none
  trivial
theorem pop_rows2 {prog : Program} {A : Around} {R' : Value → Rw → Prop} {li : Addr} {vs : List Value} {R : List Rw} {nn : Nat} {rest : List (Addr × Obj)} {k : Int} {u : Tok} {r0 : Rw} {Q : Value → Shared → Prop} (F : Fr h₀ L s.heap m) (N : News h₀ L s.heap ((li, listOf vs.toArray nn) :: rest)) (hoff : ∀ p ∈ rest, p.1 ≠ li) (he : All2 R' vs R) (hold : R[k.toNat]? = some r0)
    (h0 : 0 ≤ k) (h1 : k < (R.length : Int)) (h8 : R.length < 64)
    (h : ∀ h' v vs', All2 R' vs' (R.take k.toNat ++ R.drop (k.toNat + 1)) → Fr h₀ L h' m → News h₀ L h' ((li, listOf vs'.toArray (nn + 1)) :: rest) → Q v { s with heap := h' }) :
    wpAny (model prog w) A (call (.builtin "list.pop") [.ref li, .int k u]) Q E s :=
  pop_rows F N hoff he h0 h1 h8 fun h' v r vs' _ _ _ ha F' N' => h h' v vs' ha F' N'
local macro_rules | `(tactic| walk_at "call builtin:list.pop") => `(tactic| (k_here; (with_reducible show wpAny _ _ (call (Value.builtin _) [Value.ref _, Value.int _ _]) _ _ _); k_dflt (refine' pop_rows2 ?F ?N ?o ?e ?old ?a ?b ?z ?_; (case F => k_asm); (case N => with_reducible assumption); (case o => with_reducible assumption); (case e => with_reducible assumption); (case old => with_reducible assumption); (case a => omega); (case b => first | omega | (simp only [List.length_append, List.length_cons]; omega)); (case z => first | assumption | omega | (simp only [List.length_append, List.length_cons]; omega))); intro h' v9 vs9 ha9 F' N'; (try k_sweep)))
local macro_rules | `(tactic| walk_at "exec While BoolOp cons nil") => `(tactic| k_extra "while2")
local macro_rules | `(tactic| walk_at "WhileStep2") => `(tactic| k_extra "ws2")
theorem run_head {P td : List Rw} {pl : Int} {r9 : Rw} (hpl : pl = (P.length : Int)) (hr : (P ++ td)[pl.toNat]? = some r9) : ∃ td', td = r9 :: td' := by
  have e : pl.toNat = P.length := by omega
  rw [e] at hr
  cases td with
  | nil => simp at hr
  | cons x t => simp at hr; exact ⟨t, by rw [hr]⟩
theorem keepA {hi now : Int} {dn td' : List Rw} {r9 : Rw} {K : List Rw × List Rw} {b : Bool} (h1 : r9.lo ≤ hi) (hb : b = (r9.u == 0 || decide (now < r9.u))) (h2 : b = true) (hK : K = (dn ++ (keep hi now (r9 :: td')).1, (keep hi now (r9 :: td')).2)) : K = ((dn ++ [r9]) ++ (keep hi now td').1, (keep hi now td').2) := by
  have l : live r9 now = true := by unfold live; rw [← hb]; exact h2
  rw [hK]; simp only [keep, if_pos h1, if_pos l, List.append_assoc, List.cons_append, List.nil_append]
theorem keepB {hi now : Int} {dn td' : List Rw} {r9 : Rw} {K : List Rw × List Rw} {b : Bool} (h1 : r9.lo ≤ hi) (hb : b = (r9.u == 0 || decide (now < r9.u))) (h2 : b = false) (hK : K = (dn ++ (keep hi now (r9 :: td')).1, (keep hi now (r9 :: td')).2)) : K = (dn ++ (keep hi now td').1, (keep hi now td').2) := by
  have l : ¬ live r9 now = true := by unfold live; rw [← hb, h2]; exact Bool.false_ne_true
  rw [hK]; simp only [keep, if_pos h1, if_neg l]
theorem keepEnd {hi now : Int} {td : List Rw} {P : List Rw} {pl : Int} (hpl : pl = (P.length : Int)) (h : (∀ r9, (P ++ td)[pl.toNat]? = some r9 → ¬ r9.lo ≤ hi)) : keep hi now td = ([], td) := by
  cases td with
  | nil => rfl
  | cons x t =>
    have := h x (by rw [show pl.toNat = P.length by omega]; simp)
    simp only [keep, if_neg this]
theorem popped {P td' : List Rw} {r9 : Rw} {pl : Int} (hpl : pl = (P.length : Int)) : (P ++ r9 :: td').take pl.toNat ++ (P ++ r9 :: td').drop (pl.toNat + 1) = P ++ td' := by
  rw [show pl.toNat = P.length by omega]
  simp
theorem hendA {P td : List Rw} {pl hi : Int} (h0 : pl = (P.length : Int)) (h : ¬ pl < ((P ++ td).length : Int)) : ∀ r9, (P ++ td)[pl.toNat]? = some r9 → ¬ r9.lo ≤ hi := by
  intro r9 h9
  obtain ⟨h1, _⟩ := List.getElem?_eq_some_iff.mp h9
  omega
theorem hendB {P td : List Rw} {pl hi : Int} {r8 : Rw} (h : (P ++ td)[pl.toNat]? = some r8) (h' : ¬ r8.lo ≤ hi) : ∀ r9, (P ++ td)[pl.toNat]? = some r9 → ¬ r9.lo ≤ hi := by
  intro r9 h9
  rw [h] at h9
  cases h9
  exact h'
theorem put_ret {R P td : List Rw} {r : Rw} {now pl : Int} (hpl : pl = (P.length : Int)) (hple : pIn R r.lo ≤ R.length) (hdn : ∃ dn, P = R.take (pIn R r.lo) ++ dn ∧ keep r.hi now (R.drop (pIn R r.lo)) = (dn ++ (keep r.hi now td).1, (keep r.hi now td).2))
    (hend : ∀ r9, (P ++ td)[pl.toNat]? = some r9 → ¬ r9.lo ≤ r.hi) (hnot : ¬ (pIn R r.lo : Int) < pl) : putS R r now = ((P ++ td).take (pIn R r.lo : Int).toNat ++ r :: (P ++ td).drop (pIn R r.lo : Int).toNat, none) := by
  obtain ⟨dn, hP, hK⟩ := hdn
  rw [keepEnd hpl hend] at hK
  have hl : P.length = pIn R r.lo + dn.length := by rw [hP, List.length_append, List.length_take]; omega
  have : dn = [] := List.length_eq_zero_iff.mp (by omega)
  subst this
  have e1 : (pIn R r.lo : Int).toNat = P.length := by simp at hl ⊢; omega
  rw [e1, List.take_left', List.drop_left'] <;> try rfl
  unfold putS
  rw [hK]
  simp [hP]
theorem put_rai {R P td : List Rw} {r r8 : Rw} {now pl : Int} (hpl : pl = (P.length : Int)) (hple : pIn R r.lo ≤ R.length) (hdn : ∃ dn, P = R.take (pIn R r.lo) ++ dn ∧ keep r.hi now (R.drop (pIn R r.lo)) = (dn ++ (keep r.hi now td).1, (keep r.hi now td).2))
    (hend : ∀ r9, (P ++ td)[pl.toNat]? = some r9 → ¬ r9.lo ≤ r.hi) (hlt : (pIn R r.lo : Int) < pl) (h8 : (P ++ td)[(pIn R r.lo : Int).toNat]? = some r8) :
    putS R r now = (P ++ td, some (if r8.lo = r.lo ∧ r8.hi = r.hi then (Str.ofString "EEXIST", Str.ofString "File exists") else (Str.ofString "ENOTEMPTY", Str.ofString "Directory not empty"))) := by
  obtain ⟨dn, hP, hK⟩ := hdn
  rw [keepEnd hpl hend] at hK
  have hl : P.length = pIn R r.lo + dn.length := by rw [hP, List.length_append, List.length_take]; omega
  cases dn with
  | nil => simp at hl; omega
  | cons d dn =>
    have e8 : d = r8 := by
      rw [hP, Int.toNat_natCast, List.append_assoc, List.getElem?_append_right (by rw [List.length_take]; omega), List.length_take, show pIn R r.lo - min (pIn R r.lo) R.length = 0 by omega] at h8
      simpa using h8
    subst e8
    unfold putS
    rw [hK]
    simp [hP]
theorem put_rai1 {R P td : List Rw} {r r8 : Rw} {now : Int} (h : putS R r now = (P ++ td, some (if r8.lo = r.lo ∧ r8.hi = r.hi then (Str.ofString "EEXIST", Str.ofString "File exists") else (Str.ofString "ENOTEMPTY", Str.ofString "Directory not empty")))) (hb : (r8.lo == r.lo && r8.hi == r.hi) = true) : putS R r now = (P ++ td, some (Str.ofString "EEXIST", Str.ofString "File exists")) := by
  rw [h, if_pos (by simpa using hb)]
theorem put_rai2 {R P td : List Rw} {r r8 : Rw} {now : Int} (h : putS R r now = (P ++ td, some (if r8.lo = r.lo ∧ r8.hi = r.hi then (Str.ofString "EEXIST", Str.ofString "File exists") else (Str.ofString "ENOTEMPTY", Str.ofString "Directory not empty")))) (hb : ¬ (r8.lo == r.lo && r8.hi == r.hi) = true) : putS R r now = (P ++ td, some (Str.ofString "ENOTEMPTY", Str.ofString "Directory not empty")) := by
  rw [h, if_neg (by simpa using hb)]
noncomputable abbrev PutJ (Pw : Params) (rest : List (Addr × Obj)) (li st e : Addr) (R : List Rw) (r : Rw) (now : Int) (t thi tlo : Tok) (k : Nat) (m₁ : Str → Option Value) (news₁ : List (Addr × Obj)) : Prop :=
  ∃ (P td : List Rw) (vs1 : List Value) (nn1 : Nat) (pl : Int) (tp tb : Tok), m₁ (Str.ofString "place") = some (.int pl tp) ∧ m₁ (Str.ofString "begin") = some (.int (pIn R r.lo : Int) tb) ∧ m₁ (Str.ofString "high") = some (.int r.hi thi) ∧ m₁ (Str.ofString "low") = some (.int r.lo tlo) ∧ m₁ (Str.ofString "self") = some (.ref st) ∧ m₁ (Str.ofString "element") = some (.ref e) ∧ m₁ (Str.ofString "now") = some (.int now t) ∧ news₁ = (li, listOf vs1.toArray nn1) :: rest ∧ All2 (ElIn Pw rest) vs1 (P ++ td) ∧ pl = (P.length : Int) ∧ (P ++ td).length < 64 ∧ (∃ dn, P = R.take (pIn R r.lo) ++ dn ∧ keep r.hi now (R.drop (pIn R r.lo)) = (dn ++ (keep r.hi now td).1, (keep r.hi now td).2)) ∧ k = td.length
theorem put_c {st dd li : Addr} {vs : List Value} {R : List Rw} {nn : Nat} {ev : Value} {r : Rw} {now : Int} {x t : Tok} {rest : List (Addr × Obj)} (B : Below A₀ base outer h₀) (F : Fr h₀ L s.heap m) (X : (hd.heap_39 w.params).In h₀) (N : News h₀ L s.heap ((li, listOf vs.toArray nn) :: rest)) (hoff : ∀ p ∈ rest, p.1 ≠ li) (T : Top hd.view_39 (looseW hd.view_39 []) mean mg mb h₀) (hk : cs.kind = .function)
    (hd : dp + 8 < recursionLimit) (hu : un + 300 < cLine) (hst : (st, instObj 188 dd) ∈ rest) (hdd : (dd, dictOf [⟨PyData.keyHash w.params "items", .str "items" x, .ref li⟩] 1) ∈ rest) (he : All2 (ElIn w.params rest) vs R) (h8 : R.length < 40) (hs : R.Pairwise fun a b => a.hi ≤ b.hi) (hel : ElIn w.params rest ev r)
    (ret : ∀ h' tk' vs' nn', (putS R r now).2 = none → All2 (ElIn w.params rest) vs' (putS R r now).1 → Fr h₀ L h' m → News h₀ L h' ((li, listOf vs'.toArray nn') :: rest) → Q .none { s with heap := h', toks := tk' })
    (rai : ∀ g h' tk' e dx vs' nn' code why x1 x2 x3 x4 y1 y2, (putS R r now).2 = some (code, why) → All2 (ElIn w.params rest) vs' (putS R r now).1 → Fr h₀ L g m → RaisedD base g (envX cn cs L a ccd cl :: outer) e (.ref 63) (some dx) ((dx, refDict w.params code why x1 x2 x3 x4 y1 y2) :: (li, listOf vs'.toArray nn') :: rest) h' → (∀ p ∈ ((dx, refDict w.params code why x1 x2 x3 x4 y1 y2) :: (li, listOf vs'.toArray nn') :: rest), p.1 ≠ e) → g.UpToSlots h' → E (.ref e) { s with heap := h', toks := tk' }) :
    wpAny (model PySem.Challenge.rw_pf0336_01.row.prog w) (ktrTop dp un gd cn cs L a ccd cl outer) (call (.ref 143) [.ref st, ev, .int now t]) Q E s := by
  revert X; k_fill; intro X
  have he' := he.sub (fun p hp => List.mem_cons_of_mem (li, listOf vs.toArray nn) hp)
  have h64 : R.length < 64 := by omega
  have hple := pIn_le R r.lo
  have hel2 := hel
  obtain ⟨e, de, b, c, d, k1, k2, k3, tlo, thi, tk, tu, x1, x2, x3, x4, x5, x6, t0, t1, tc, cc, rfl, h1, h2, h3, h4, h5⟩ := hel2
  k_with "while2" => (
    (refine' While_inv2 (n₀ := (R.drop (pIn R r.lo)).length) (PutJ w.params rest li st e R r now t thi tlo) ?wF ?wN ?wJ ?wT)
    (case wF => k_asm)
    (case wN => k_asm)
    (case wJ => exact ⟨R.take (pIn R r.lo), R.drop (pIn R r.lo), vs, nn, _, _, _, rfl, rfl, rfl, rfl, rfl, rfl, rfl, rfl, by rw [List.take_append_drop]; exact he, by rw [List.length_take]; omega, by rw [List.take_append_drop]; exact h64, ⟨[], by simp, by simp⟩, rfl⟩)
    (rintro k1 m1 news1 hp1 tk1 F1 N1 ⟨P, td, vs1, nn1, pl, tp, tb, e1, e2, e3, e4, e5, e6, e7, eN, hA, hpl, h64b, hdn, ek⟩)
    (subst eN)
    (rw [map7 e1 e2 e3 e4 e5 e6 e7] at F1)
    clear e1 e2 e3 e4 e5 e6 e7
    have hA' := hA.sub (fun p hp => List.mem_cons_of_mem (li, listOf vs1.toArray nn1) hp)
    have hA2 := hA
    clear he' he
    have hl9 : (P ++ td).length = P.length + td.length := List.length_append
    have hP9 : pIn R r.lo ≤ P.length := by obtain ⟨dn, hP, _⟩ := hdn; rw [hP, List.length_append, List.length_take]; omega
    try k_fold)
  k_with "ws2" => (
    (obtain ⟨td', htd⟩ := run_head hpl (by assumption))
    (subst htd)
    (obtain ⟨dn, hP, hK⟩ := hdn)
    first
      | (refine ws2 td'.length (by k_asm) (by k_asm) (by rw [ek]; simp only [List.length_cons]; omega) ⟨P ++ [_], td', vs1, nn1, _, _, _, rfl, rfl, rfl, rfl, rfl, rfl, rfl, rfl, by simpa using hA, by simp only [List.length_append, List.length_singleton]; omega, by simpa using h64b, ⟨dn ++ [_], by rw [hP]; simp, keepA (by assumption) (by assumption) (by first | assumption | simp_all) hK⟩, rfl⟩)
      | (refine ws2 td'.length (by k_asm) (by k_asm) (by rw [ek]; simp only [List.length_cons]; omega) ⟨P, td', _, _, _, _, _, rfl, rfl, rfl, rfl, rfl, rfl, rfl, rfl, by rw [← popped hpl]; assumption, hpl, by simp only [List.length_append, List.length_cons] at h64b ⊢; omega, ⟨dn, hP, keepB (by assumption) (by assumption) (by first | assumption | simp_all) hK⟩, rfl⟩))
  refine wpAny_call ?_
  k_dflt ktr_enter
  k_steps
  all_goals (try have hend9 := hendA (hi := r.hi) hpl (by assumption))
  all_goals (try have hend9 := hendB (pl := pl) (hi := r.hi) (by with_reducible assumption) (by assumption))
  all_goals first
    | (have hp9 := put_ret hpl hple hdn hend9 (by assumption)
       refine ret _ _ _ _ ?_ ?_ (by assumption) (by assumption)
       · rw [hp9]
       · rw [hp9]; assumption)
    | (have hp8 := put_rai hpl hple hdn hend9 (by assumption) (by with_reducible assumption)
       have hp9 := put_rai1 hp8 (by assumption)
       refine rai _ _ _ _ _ _ _ _ _ _ _ _ _ _ _ ?_ ?_ (by assumption) (by assumption) (by assumption) (by assumption)
       · rw [hp9]
       · rw [hp9]; assumption)
    | (have hp8 := put_rai hpl hple hdn hend9 (by assumption) (by with_reducible assumption)
       have hp9 := put_rai2 hp8 (by first | assumption | simp_all)
       refine rai _ _ _ _ _ _ _ _ _ _ _ _ _ _ _ ?_ ?_ (by assumption) (by assumption) (by assumption) (by assumption)
       · rw [hp9]
       · rw [hp9]; assumption)


theorem clr_13 : True := by
  w_top off
  k_with_none
  trivial
noncomputable def meetT (hi now : Int) : List Rw → List Rw
  | [] => []
  | x :: t => if x.lo ≤ hi then (if live x now = true then x :: meetT hi now t else meetT hi now t) else []
theorem drop_at {R : List Rw} {i : Nat} {pl : Int} {r9 : Rw} (hpl : pl = (i : Int)) (hr : R[pl.toNat]? = some r9) : R.drop i = r9 :: R.drop (i + 1) := by
  have e : pl.toNat = i := by omega
  rw [e] at hr
  obtain ⟨h1, h2⟩ := List.getElem?_eq_some_iff.mp hr
  rw [List.drop_eq_getElem_cons h1, h2]
theorem meetA {hi now : Int} {R : List Rw} {dn K : List Rw} {r9 : Rw} {i : Nat} {pl : Int} {b : Bool} (hpl : pl = (i : Int)) (hr : R[pl.toNat]? = some r9) (h1 : r9.lo ≤ hi) (hb : b = (r9.u == 0 || decide (now < r9.u))) (h2 : b = true) (hK : K = dn ++ meetT hi now (R.drop i)) : K = (dn ++ [r9]) ++ meetT hi now (R.drop (i + 1)) := by
  have l : live r9 now = true := by unfold live; rw [← hb]; exact h2
  rw [hK, drop_at hpl hr]; simp only [meetT, if_pos h1, if_pos l, List.append_assoc, List.cons_append, List.nil_append]
theorem meetB {hi now : Int} {R : List Rw} {dn K : List Rw} {r9 : Rw} {i : Nat} {pl : Int} {b : Bool} (hpl : pl = (i : Int)) (hr : R[pl.toNat]? = some r9) (h1 : r9.lo ≤ hi) (hb : b = (r9.u == 0 || decide (now < r9.u))) (h2 : b = false) (hK : K = dn ++ meetT hi now (R.drop i)) : K = dn ++ meetT hi now (R.drop (i + 1)) := by
  have l : ¬ live r9 now = true := by unfold live; rw [← hb, h2]; exact Bool.false_ne_true
  rw [hK, drop_at hpl hr]; simp only [meetT, if_pos h1, if_neg l]
theorem meetEndA {hi now pl : Int} {R dn K : List Rw} {i : Nat} (hpl : pl = (i : Int)) (h : ¬ pl < (R.length : Int)) (hK : K = dn ++ meetT hi now (R.drop i)) : K = dn := by
  rw [hK, List.drop_eq_nil_of_le (by omega)]; simp [meetT]
theorem meetEndB {hi now pl : Int} {R dn K : List Rw} {r9 : Rw} {i : Nat} (hpl : pl = (i : Int)) (hr : R[pl.toNat]? = some r9) (h : ¬ r9.lo ≤ hi) (hK : K = dn ++ meetT hi now (R.drop i)) : K = dn := by
  rw [hK, drop_at hpl hr]; simp [meetT, h]
theorem All2.push {R' : Value → Rw → Prop} {vs rs} {v : Value} {r : Rw} (h : All2 R' vs rs) (hv : R' v r) : All2 R' (vs ++ [v]) (rs ++ [r]) := by
  induction h with
  | nil => exact .cons hv .nil
  | cons h r ih => exact .cons h ih
theorem append_rows {prog : Program} {A : Around} {R' : Value → Rw → Prop} {li : Addr} {vs : List Value} {R : List Rw} {nn : Nat} {rest : List (Addr × Obj)} {v : Value} {r : Rw} {Q : Value → Shared → Prop} (F : Fr h₀ L s.heap m) (N : News h₀ L s.heap ((li, listOf vs.toArray nn) :: rest)) (hoff : ∀ p ∈ rest, p.1 ≠ li) (he : All2 R' vs R)
    (h8 : R.length < 64) (hv : R' v r)
    (h : ∀ h' vs', vs' = vs ++ [v] → All2 R' vs' (R ++ [r]) → Fr h₀ L h' m → News h₀ L h' ((li, listOf vs'.toArray (nn + 1)) :: rest) → Q .none { s with heap := h' }) :
    wpAny (model prog w) A (call (.builtin "list.append") [.ref li, v]) Q E s := by
  have hlen : vs.length = R.length := he.length
  refine append_K F N (.head hoff) (fun h' F' N' => ?_) (by rw [List.size_toArray]; exact small_size (by omega))
  exact h h' _ rfl (he.push hv) F' (by simpa using N')
theorem ElIn.unlist {P : Params} {fl : Addr} {a9 : Array Value} {n9 : Nat} {news : List (Addr × Obj)} {v : Value} {r : Rw} (h : ElIn P ((fl, listOf a9 n9) :: news) v r) : ElIn P news v r := by
  have key : ∀ {q : Addr} {o : Obj}, o.cls ≠ (listOf a9 n9).cls → (q, o) ∈ (fl, listOf a9 n9) :: news → (q, o) ∈ news := by
    intro q o hc hm
    rcases List.mem_cons.mp hm with e | e
    · exact absurd (congrArg (fun p => p.2.cls) e) hc
    · exact e
  obtain ⟨e, de, b, c, d, k1, k2, k3, tlo, thi, tk, tu, x1, x2, x3, x4, x5, x6, t0, t1, tc, cc, rfl, h1, h2, h3, h4, h5⟩ := h
  exact ⟨e, de, b, c, d, k1, k2, k3, tlo, thi, tk, tu, x1, x2, x3, x4, x5, x6, t0, t1, tc, cc, rfl, key (fun h => nomatch h) h1, key (fun h => absurd (Value.type.inj h) (by decide)) h2, key (fun h => absurd (Value.type.inj h) (by decide)) h3, key (fun h => absurd (Value.type.inj h) (by decide)) h4, key (fun h => absurd (Value.type.inj h) (by decide)) h5⟩
local macro_rules | `(tactic| walk_at "call ref") => `(tactic| (k_here; (with_reducible show wpAny _ _ (call (Value.ref 115) [Value.ref _, Value.int _ _]) _ _ _); k_dflt (refine' place_in_c ?B ?F ?X ?N ?T ?k ?d ?u ?m ?e ?z ?s ?_; walk_at "kcs9"; (case m => k_mem); (case e => first | with_reducible assumption | (refine' All2.sub ?hq (fun p hp => List.mem_cons_of_mem _ hp); (case hq => with_reducible assumption))); (case z => with_reducible assumption); (case s => with_reducible assumption); (case d => ktr_room); (case u => ktr_units)); walk_at "fin9"))
local macro_rules | `(tactic| walk_at "call builtin:list.append") => `(tactic| (k_here; (with_reducible show wpAny _ _ (call (Value.builtin _) [Value.ref _, _]) _ _ _); k_dflt (refine' append_rows ?F ?N ?o ?e ?z ?v ?_; (case F => k_asm); (case N => with_reducible assumption); (case o => with_reducible assumption); (case e => with_reducible assumption); (case v => first | with_reducible assumption | exact ElIn.unlist (by assumption)); (case z => first | assumption | omega)); intro h' vs9 ev9 ha9 F' N'; (try k_sweep)))

noncomputable abbrev MeetJ (Pw : Params) (news : List (Addr × Obj)) (st : Addr) (R : List Rw) (lo hi now : Int) (t thi tlo : Tok) (k : Nat) (m₁ : Str → Option Value) (news₁ : List (Addr × Obj)) : Prop :=
  ∃ (i : Nat) (dn : List Rw) (fl : Addr) (fs : List Value) (nf : Nat) (pl : Int) (tp : Tok), m₁ (Str.ofString "place") = some (.int pl tp) ∧ m₁ (Str.ofString "found") = some (.ref fl) ∧ m₁ (Str.ofString "high") = some (.int hi thi) ∧ m₁ (Str.ofString "low") = some (.int lo tlo) ∧ m₁ (Str.ofString "store") = some (.ref st) ∧ m₁ (Str.ofString "now") = some (.int now t) ∧ news₁ = (fl, listOf fs.toArray nf) :: news ∧ (∀ p ∈ news, p.1 ≠ fl) ∧ All2 (ElIn Pw news) fs dn ∧ dn.length ≤ i ∧ pl = (i : Int) ∧ i ≤ R.length ∧ meetT hi now (R.drop (pIn R lo)) = dn ++ meetT hi now (R.drop i) ∧ k = R.length - i
theorem meeting_c {st dd li : Addr} {vs : List Value} {R : List Rw} {nn : Nat} {lo hi now : Int} {x t tlo thi : Tok} (B : Below A₀ base outer h₀) (F : Fr h₀ L s.heap m) (X : (hd.heap_39 w.params).In h₀) (N : News h₀ L s.heap news) (T : Top hd.view_39 (looseW hd.view_39 []) mean mg mb h₀) (hk : cs.kind = .function)
    (hd : dp + 4 < recursionLimit) (hu : un + 200 < cLine) (hst : (st, instObj 188 dd) ∈ news) (hdd : (dd, dictOf [⟨PyData.keyHash w.params "items", .str "items" x, .ref li⟩] 1) ∈ news) (hli : (li, listOf vs.toArray nn) ∈ news) (he : All2 (ElIn w.params news) vs R) (h8 : R.length < 40) (hs : R.Pairwise fun a b => a.hi ≤ b.hi)
    (ret : ∀ h' tk' fl fs nf, All2 (ElIn w.params news) fs (meetT hi now (R.drop (pIn R lo))) → (∀ p ∈ news, p.1 ≠ fl) → Fr h₀ L h' m → News h₀ L h' ((fl, listOf fs.toArray nf) :: news) → Q (.ref fl) { s with heap := h', toks := tk' }) :
    wpAny (model PySem.Challenge.rw_pf0336_01.row.prog w) (ktrTop dp un gd cn cs L a ccd cl outer) (call (.ref 199) [.ref st, .int lo tlo, .int hi thi, .int now t]) Q E s := by
  revert X; k_fill; intro X
  have h64 : R.length < 64 := by omega
  have hple := pIn_le R lo
  k_with "while2" => (
    (refine' While_inv2 (n₀ := R.length - pIn R lo) (MeetJ w.params news st R lo hi now t thi tlo) ?wF ?wN ?wJ ?wT)
    (case wF => k_asm)
    (case wN => k_asm)
    (case wJ => exact ⟨pIn R lo, [], _, [], _, _, _, rfl, rfl, rfl, rfl, rfl, rfl, rfl, fun p hp => Nat.ne_of_lt ((by assumption : ∀ p ∈ news, p.1 < _) p hp), .nil, Nat.zero_le _, rfl, hple, by simp, rfl⟩)
    (rintro k1 m1 news1 hp1 tk1 F1 N1 ⟨i, dn, fl, fs, nf, pl, tp, e1, e2, e3, e4, e5, e6, eN, hoff9, hA, hdl, hpl, hiR, hK, ek⟩)
    (subst eN)
    (rw [map7 e1 e2 e3 e4 e5 e6 e6] at F1)
    clear e1 e2 e3 e4 e5 e6
    have he' := he.sub (fun p hp => List.mem_cons_of_mem (fl, listOf fs.toArray nf) hp)
    have hdl9 : dn.length < 64 := by omega
    try k_fold)
  k_with "ws2" => (
    first
      | (refine ws2 (R.length - (i + 1)) (by k_asm) (by k_asm) (by omega) ⟨i + 1, dn ++ [_], fl, _, _, _, _, rfl, rfl, rfl, rfl, rfl, rfl, rfl, hoff9, by assumption, by simp only [List.length_append, List.length_singleton]; omega, by omega, by omega, meetA hpl (by assumption) (by assumption) (by assumption) (by first | assumption | simp_all) hK, rfl⟩)
      | (refine ws2 (R.length - (i + 1)) (by k_asm) (by k_asm) (by omega) ⟨i + 1, dn, fl, _, _, _, _, rfl, rfl, rfl, rfl, rfl, rfl, rfl, hoff9, hA, by omega, by omega, by omega, meetB hpl (by assumption) (by assumption) (by assumption) (by first | assumption | simp_all) hK, rfl⟩))
  refine wpAny_call ?_
  k_dflt ktr_enter
  k_steps
  all_goals first
    | (have hq9 := meetEndA hpl (by assumption) hK
       exact ret _ _ _ _ _ (by rw [hq9]; assumption) (by assumption) (by k_asm) (by k_asm))
    | (have hq9 := meetEndB hpl (by with_reducible assumption) (by assumption) hK
       exact ret _ _ _ _ _ (by rw [hq9]; assumption) (by assumption) (by k_asm) (by k_asm))

theorem clr_14 : True := by
  w_top off
  k_with_none
  trivial
noncomputable def rowD (r : Rw) : Dat := .tuple [.tuple [.tuple [.int r.lo, .int r.hi]], .tuple [.int r.k], .int r.u]
noncomputable def boxD (lo hi : Int) : Dat := .tuple [.tuple [.int lo, .int hi]]
theorem rowD_ok (r : Rw) : kqdOk 8 (rowD r) = true := rfl
theorem boxD_ok (lo hi : Int) : kqdOk 8 (boxD lo hi) = true := rfl
theorem rowD_inj {r r' : Rw} : rowD r = rowD r' ↔ r = r' := by
  constructor
  · intro h
    obtain ⟨a, b, c, d⟩ := r
    obtain ⟨a', b', c', d'⟩ := r'
    simp [rowD] at h
    simp [h]
  · rintro rfl; rfl
theorem rowsD_inj {R R' : List Rw} : R.map rowD = R'.map rowD ↔ R = R' := by
  constructor
  · exact fun h => (List.map_inj_right (fun x y h => rowD_inj.mp h)).mp h
  · rintro rfl; rfl
theorem rowsD_ok (R : List Rw) : ∀ d ∈ R.map rowD, kqdOk 8 d = true := by
  intro d hd; obtain ⟨x, _, rfl⟩ := List.mem_map.mp hd; rfl
theorem RowIn.dat {n1 : List (Addr × Obj)} {v : Value} {r : Rw} (h : RowIn n1 v r) : DatIn n1 v (rowD r) := by
  obtain ⟨q, b, c, d, k0, k1, k2, k3, tlo, thi, tk, tu, rfl, h0, h1, h2, h3⟩ := h
  exact .tuple h0 (.cons (.tuple h1 (.cons (.tuple h2 (.cons (.int _ _) (.cons (.int _ _) .nil))) .nil)) (.cons (.tuple h3 (.cons (.int _ _) .nil)) (.cons (.int _ _) .nil)))
theorem BoxIn.dat {n1 : List (Addr × Obj)} {v : Value} {lo hi : Int} (h : BoxIn n1 v lo hi) : DatIn n1 v (boxD lo hi) := by
  obtain ⟨b, c, k1, k2, tlo, thi, rfl, h1, h2⟩ := h
  exact .tuple h1 (.cons (.tuple h2 (.cons (.int _ _) (.cons (.int _ _) .nil))) .nil)
theorem rows_dat {n1 : List (Addr × Obj)} {vs : List Value} {R : List Rw} (h : All2 (RowIn n1) vs R) : DatAll n1 vs (R.map rowD) := by
  induction h with
  | nil => exact .nil
  | cons h _ ih => exact .cons h.dat ih
theorem dat_eq {prog : Program} {A : Around} {Q : Value → Shared → Prop} {n1 n2 : List (Addr × Obj)} {v v' : Value} {d d' : Dat} (N : News h₀ L s.heap news) (h1 : DatIn n1 v d) (s1 : ∀ p ∈ n1, p ∈ news) (h2 : DatIn n2 v' d') (s2 : ∀ p ∈ n2, p ∈ news) (k1 : kqdOk 8 d = true) (k2 : kqdOk 8 d' = true) (hu : A.units + 64 < cLine)
    (h : ∀ b, (b = true ↔ d = d') → Q (.bool b) s) : wpAny (model prog w) A (compareOp .Eq v v') Q E s := by
  obtain ⟨as, ra⟩ := kqd_in N 8 (h1.mono s1) k1
  obtain ⟨bs, rb⟩ := kqd_in N 8 (h2.mono s2) k2
  have la := kqd_lay 8 d k1
  have lb := kqd_lay 8 d' k2
  refine eq_dataH ra rb ?_ ?_ hu (h _ (kqd_eqv 8 d d' 8 k1 k2))
  · unfold SeqAt.shaped; rw [la.1, Bool.true_and]; exact decide_eq_true (Nat.le_trans la.2 (by decide))
  · unfold SeqAt.shaped; rw [lb.1, Bool.true_and]; exact decide_eq_true (Nat.le_trans lb.2 (by decide))
theorem dat_ne {prog : Program} {A : Around} {Q : Value → Shared → Prop} {n1 n2 : List (Addr × Obj)} {v v' : Value} {d d' : Dat} (N : News h₀ L s.heap news) (h1 : DatIn n1 v d) (s1 : ∀ p ∈ n1, p ∈ news) (h2 : DatIn n2 v' d') (s2 : ∀ p ∈ n2, p ∈ news) (k1 : kqdOk 8 d = true) (k2 : kqdOk 8 d' = true) (hu : A.units + 64 < cLine)
    (h : ∀ b, (b = true ↔ ¬ d = d') → Q (.bool b) s) : wpAny (model prog w) A (compareOp .NotEq v v') Q E s := by
  obtain ⟨as, ra⟩ := kqd_in N 8 (h1.mono s1) k1
  obtain ⟨bs, rb⟩ := kqd_in N 8 (h2.mono s2) k2
  have la := kqd_lay 8 d k1
  have lb := kqd_lay 8 d' k2
  refine ne_dataH ra rb ?_ ?_ hu (h _ (by rw [← kqd_eqv 8 d d' 8 k1 k2]; cases PyData.eqv (kqdP d) (kqdP d') <;> simp))
  · unfold SeqAt.shaped; rw [la.1, Bool.true_and]; exact decide_eq_true (Nat.le_trans la.2 (by decide))
  · unfold SeqAt.shaped; rw [lb.1, Bool.true_and]; exact decide_eq_true (Nat.le_trans lb.2 (by decide))
theorem list_ok {ds : List Dat} (h : ∀ d ∈ ds, kqdOk 7 d = true) : kqdOk 8 (.list ds) = true := by simpa [kqdOk] using h
theorem rowsD_ok8 (R : List Rw) : kqdOk 8 (.list (R.map rowD)) = true := list_ok (by intro d hd; obtain ⟨x, _, rfl⟩ := List.mem_map.mp hd; rfl)
/-- rows that stand as a list at v -/
noncomputable def RowsIn (news : List (Addr × Obj)) (v : Value) (R : List Rw) : Prop := ∃ a vs n, v = .ref a ∧ (a, listOf vs.toArray n) ∈ news ∧ All2 (RowIn news) vs R
theorem RowsIn.sub {n1 n2 : List (Addr × Obj)} {v : Value} {R : List Rw} (h : RowsIn n1 v R) (hs : ∀ p ∈ n1, p ∈ n2) : RowsIn n2 v R := by
  obtain ⟨a, vs, n, rfl, h1, h2⟩ := h
  exact ⟨a, vs, n, rfl, hs _ h1, h2.mono fun _ _ x => x.sub hs⟩
theorem RowsIn.dat {n1 : List (Addr × Obj)} {v : Value} {R : List Rw} (h : RowsIn n1 v R) : DatIn n1 v (.list (R.map rowD)) := by
  obtain ⟨a, vs, n, rfl, h1, h2⟩ := h
  exact .list h1 (rows_dat h2)
theorem item_row {prog : Program} {A : Around} {R' : Value → Rw → Prop} {value slice : PySem.Expr} {l : Addr} {vs : List Value} {rs : List Rw} {nn : Nat} {k : Int} {u : Tok} {Q : Value → Shared → Prop} (N : News h₀ L s.heap news) (hm : (l, listOf vs.toArray nn) ∈ news)
    (he : All2 R' vs rs) (h0 : 0 ≤ k) (h1 : k < (rs.length : Int)) (h8 : rs.length < 64)
    (h : ∀ v r, vs[k.toNat]? = some v → rs[k.toNat]? = some r → R' v r → Q v s)
    (hs : subscripted slice false (.ref l) (.int k u) = operate [.ref l, .int k u] (getItem (.ref l) (.int k u)) := by with_unfolding_all rfl) :
    wpAny (model prog w) A (subscriptTail value slice (.ref l) (.int k u)) Q E s := by
  obtain ⟨v, r, hv, hr, hR⟩ := he.get (i := k.toNat) (by omega)
  exact item_litK ⟨_, (N _ hm).1, rfl, nn, rfl⟩ h0 (by omega) hv (h v r hv hr hR) hs
noncomputable def OptRow (news : List (Addr × Obj)) (v : Value) (o : Option Rw) : Prop := match o with
  | none => v = .none
  | some r => RowIn news v r

theorem clr_15 : True := by
  w_top off
  k_with_none
  trivial
theorem ne_nil {prog : Program} {A : Around} {Q : Value → Shared → Prop} {n1 : List (Addr × Obj)} {v : Value} {b : Addr} {k : Nat} {ds : List Dat} (N : News h₀ L s.heap news) (h1 : DatIn n1 v (.list ds)) (s1 : ∀ p ∈ n1, p ∈ news) (hm : (b, listOf #[] k) ∈ news) (k1 : kqdOk 8 (.list ds) = true) (hu : A.units + 64 < cLine)
    (h : ∀ b, (b = true ↔ ¬ ds = []) → Q (.bool b) s) : wpAny (model prog w) A (compareOp .NotEq v (.ref b)) Q E s :=
  dat_ne (news := news) (n2 := news) (d' := .list []) N h1 s1 (.list hm .nil) (fun _ hp => hp) k1 rfl hu (fun b' hb => h b' (by rw [hb]; simp))
theorem eq_nil {prog : Program} {A : Around} {Q : Value → Shared → Prop} {n1 : List (Addr × Obj)} {v : Value} {b : Addr} {k : Nat} {ds : List Dat} (N : News h₀ L s.heap news) (h1 : DatIn n1 v (.list ds)) (s1 : ∀ p ∈ n1, p ∈ news) (hm : (b, listOf #[] k) ∈ news) (k1 : kqdOk 8 (.list ds) = true) (hu : A.units + 64 < cLine)
    (h : ∀ b, (b = true ↔ ds = []) → Q (.bool b) s) : wpAny (model prog w) A (compareOp .Eq v (.ref b)) Q E s :=
  dat_eq (news := news) (n2 := news) (d' := .list []) N h1 s1 (.list hm .nil) (fun _ hp => hp) k1 rfl hu (fun b' hb => h b' (by rw [hb]; simp))

local macro_rules | `(tactic| walk_at "dsub9") => `(tactic| (intro p9 hp9; repeat (first | with_reducible exact hp9 | refine List.mem_cons_of_mem _ ?_)))
local macro_rules | `(tactic| walk_at "compareOp NotEq ref ref") => `(tactic| (k_here; (with_reducible show wpAny _ _ (compareOp CmpOp.NotEq (Value.ref _) (Value.ref _)) _ _ _); k_dflt (refine' ne_nil ?N ?h1 ?s1 ?hm ?k1 ?hu ?_; (case N => k_asm); (case hm => k_mem); (case h1 => with_reducible assumption); (case s1 => walk_at "dsub9"); (case k1 => first | exact rowsD_ok8 _ | assumption); (case hu => ktr_units)); intro b9 hb9))
local macro_rules | `(tactic| walk_at "compareOp Eq ref ref") => `(tactic| (k_here; (with_reducible show wpAny _ _ (compareOp CmpOp.Eq (Value.ref _) (Value.ref _)) _ _ _); k_dflt (refine' eq_nil ?N ?h1 ?s1 ?hm ?k1 ?hu ?_; (case N => k_asm); (case hm => k_mem); (case h1 => with_reducible assumption); (case s1 => walk_at "dsub9"); (case k1 => first | exact rowsD_ok8 _ | assumption); (case hu => ktr_units)); intro b9 hb9))
theorem pos_of {b : Bool} {R : List Rw} (h : b = true ↔ ¬ R.map rowD = []) (hq : b = true) : (0 : Int) < R.length := by
  have := h.mp hq
  cases R with
  | nil => exact absurd rfl this
  | cons => simp only [List.length_cons]; omega
theorem nil_of {b : Bool} {R : List Rw} (h : b = true ↔ ¬ R.map rowD = []) (hq : b = false) : R = [] := by
  cases R with
  | nil => rfl
  | cons => exact absurd (h.mpr (by simp)) (by rw [hq]; exact Bool.false_ne_true)
theorem News.tl9 {h : Heap} {p : Addr × Obj} (N : News h₀ L h (p :: news)) : News h₀ L h news := fun q hq => N q (List.mem_cons_of_mem _ hq)
theorem head_of {n1 : List (Addr × Obj)} {v : Value} {R : List Rw} {r : Rw} (h : R[Int.toNat 0]? = some r) (hr : RowIn n1 v r) : OptRow n1 v R.head? := by
  cases R with
  | nil => simp at h
  | cons => simp at h; subst h; exact hr
theorem head_nil {n1 : List (Addr × Obj)} {R : List Rw} (h : R = []) : OptRow n1 .none R.head? := by subst h; rfl
local macro_rules | `(tactic| walk_at "subscriptTail Name Constant ref int") => `(tactic| (k_here; walk_at "ssub9"; k_dflt (refine' item_row ?N ?m ?e ?a ?b ?c ?_; (case N => k_asm); (case m => k_mem); (case e => with_reducible assumption); (case a => first | decide | omega); (case b => first | omega | exact pos_of (by assumption) (by assumption)); (case c => first | assumption | omega)); intro v9 r9 hv9 hr9 hR9; (try k_sweep)))
theorem first_c {fl : Addr} {vs : List Value} {R : List Rw} {nn : Nat} (B : Below A₀ base outer h₀) (F : Fr h₀ L s.heap m) (X : (hd.heap_39 w.params).In h₀) (N : News h₀ L s.heap news) (T : Top hd.view_39 (looseW hd.view_39 []) mean mg mb h₀) (hk : cs.kind = .function)
    (hd : dp + 2 < recursionLimit) (hu : un + 100 < cLine) (hm : (fl, listOf vs.toArray nn) ∈ news) (he : All2 (RowIn news) vs R) (h8 : R.length < 64)
    (ret : ∀ h' tk' v, OptRow news v R.head? → Fr h₀ L h' m → News h₀ L h' news → Q v { s with heap := h', toks := tk' }) :
    wpAny (model PySem.Challenge.rw_pf0336_01.row.prog w) (ktrTop dp un gd cn cs L a ccd cl outer) (call (.ref 251) [.ref fl]) Q E s := by
  revert X; k_fill; intro X
  have hD : DatIn news (.ref fl) (.list (R.map rowD)) := .list hm (rows_dat he)
  refine wpAny_call ?_
  k_dflt ktr_enter
  k_steps
  all_goals first
    | exact ret _ _ _ (head_of (by assumption) (by assumption)) (by k_asm) (News.tl9 (by assumption))
    | exact ret _ _ _ (head_nil (nil_of (by assumption) (by assumption))) (by k_asm) (News.tl9 (by assumption))

theorem clr_16 : True := by
  w_top off
  k_with_none
  trivial
theorem ne_head9 {l2 dd : Addr} {o : Obj} {rest : List (Addr × Obj)} (h : ∀ p ∈ (dd, o) :: rest, p.1 < l2) : l2 ≠ dd := Nat.ne_of_gt (h _ (.head _))
local macro_rules | `(tactic| k_upd) => `(tactic| (refine' Upd.tail ?a (Upd.head ?b); (case a => first | k_ne | exact ne_head9 (by assumption)); (case b => assumption)))
theorem clear_c {st dd li : Addr} {x : Tok} {rest : List (Addr × Obj)} (B : Below A₀ base outer h₀) (F : Fr h₀ L s.heap m) (X : (hd.heap_39 w.params).In h₀) (N : News h₀ L s.heap ((dd, dictOf [⟨PyData.keyHash w.params "items", .str "items" x, .ref li⟩] 1) :: rest)) (hoff : ∀ p ∈ rest, p.1 ≠ dd) (T : Top hd.view_39 (looseW hd.view_39 []) mean mg mb h₀) (hk : cs.kind = .function)
    (hd : dp + 2 < recursionLimit) (hu : un + 20 < cLine) (hst : (st, instObj 188 dd) ∈ rest)
    (ret : ∀ h' tk' l2, Fr h₀ L h' m → News h₀ L h' ((l2, listOf #[] 0) :: (dd, dictOf [⟨PyData.keyHash w.params "items", .str "items" x, .ref l2⟩] 1) :: rest) → Q .none { s with heap := h', toks := tk' }) :
    wpAny (model PySem.Challenge.rw_pf0336_01.row.prog w) (ktrTop dp un gd cn cs L a ccd cl outer) (call (.ref 185) [.ref st]) Q E s := by
  revert X; k_fill; intro X
  refine wpAny_call ?_
  k_dflt ktr_enter
  k_steps
  all_goals first
    | exact ret _ _ _ (by k_asm) (by k_asm)

theorem clr_17 : True := by
  w_top off
  k_with_none
  trivial
theorem ints_get {vs : List Value} {ns : List Int} (h : IntsAre vs ns) : ∀ {i : Nat}, i < vs.length → ∃ n t, vs[i]? = some (.int n t) := by
  induction h with
  | nil => intro i hi; simp at hi
  | cons n t r ih =>
    intro i hi
    cases i with
    | zero => exact ⟨_, _, rfl⟩
    | succ i => exact ih (by simpa using hi)
theorem len_ints {prog : Program} {A : Around} {l : Addr} {vs : List Value} {Q : Value → Shared → Prop} (F : Fr h₀ L s.heap m) (hl : h₀.IsList l vs.toArray) (h8 : vs.length < 64) (h : Q (.int vs.length (s.toks + 1)) { s with toks := s.toks + 1 + 1 }) :
    wpAny (model prog w) A (call (.builtin "len") [.ref l]) Q E s := by
  refine len_list (hl.at fun o e => F.keep _ _ e) (by simp; omega) ?_
  simpa using h
theorem item_ints {prog : Program} {A : Around} {value slice : PySem.Expr} {l : Addr} {vs : List Value} {ns : List Int} {k : Int} {u : Tok} {Q : Value → Shared → Prop} (F : Fr h₀ L s.heap m) (hl : h₀.IsList l vs.toArray) (hi : IntsAre vs ns)
    (h0 : 0 ≤ k) (h1 : k < (vs.length : Int)) (h8 : vs.length < 64)
    (h : ∀ n t, Q (.int n t) s)
    (hs : subscripted slice false (.ref l) (.int k u) = operate [.ref l, .int k u] (getItem (.ref l) (.int k u)) := by with_unfolding_all rfl) :
    wpAny (model prog w) A (subscriptTail value slice (.ref l) (.int k u)) Q E s := by
  obtain ⟨n, t, hv⟩ := ints_get hi (i := k.toNat) (by omega)
  exact item_litK (hl.at fun o e => F.keep _ _ e) h0 (by omega) hv (h n t) hs
theorem isl9 {g : Heap} {sc : Addr} {its : Array Value} (F : Fr h₀ L g m) (hl : h₀.IsList sc its) : g.IsList sc its := hl.at fun o e => F.keep _ _ e
local macro_rules | `(tactic| walk_at "call builtin:len") => `(tactic| (k_here; (with_reducible show wpAny _ _ (call (Value.builtin "len") [Value.ref _]) _ _ _); k_dflt (refine' len_ints ?F ?l ?z ?_; (case F => k_asm); (case l => first | with_reducible assumption | exact isl9 (by with_reducible assumption) (by with_reducible assumption)); (case z => with_reducible assumption)); (try k_sweep)))
local macro_rules | `(tactic| walk_at "subscriptTail Name Name ref int") => `(tactic| (k_here; walk_at "ssub9"; k_dflt (refine' item_ints ?F ?l ?i ?a ?b ?z ?_; (case F => k_asm); (case l => first | with_reducible assumption | exact isl9 (by with_reducible assumption) (by with_reducible assumption)); (case i => with_reducible assumption); (case z => with_reducible assumption); (case a => omega); (case b => omega)); intro n9 t9; (try k_sweep)))
theorem digit_c {sc : Addr} {vs : List Value} {ns : List Int} {k : Int} {t : Tok} (B : Below A₀ base outer h₀) (F : Fr h₀ L s.heap m) (X : (hd.heap_39 w.params).In h₀) (N : News h₀ L s.heap news) (T : Top hd.view_39 (looseW hd.view_39 []) mean mg mb h₀) (hk : cs.kind = .function)
    (hd : dp + 2 < recursionLimit) (hu : un + 20 < cLine) (hl : h₀.IsList sc vs.toArray) (hi : IntsAre vs ns) (h8 : vs.length < 64) (h0 : 0 ≤ k)
    (ret : ∀ h' tk' n t', Fr h₀ L h' m → News h₀ L h' news → Q (.int n t') { s with heap := h', toks := tk' }) :
    wpAny (model PySem.Challenge.rw_pf0336_01.row.prog w) (ktrTop dp un gd cn cs L a ccd cl outer) (call (.ref 206) [.ref sc, .int k t]) Q E s := by
  revert X; k_fill; intro X
  refine wpAny_call ?_
  k_dflt ktr_enter
  k_steps
  all_goals first
    | exact ret _ _ _ _ (by k_asm) (by k_asm)

theorem clr_18 : True := by
  w_top off
  k_with_none
  trivial
local macro_rules | `(tactic| k_upd) => `(tactic| first | (refine' Upd.head ?b; (case b => with_reducible assumption)) | (refine' Upd.tail ?a ?b; (case a => first | k_ne | exact ne_head9 (by assumption)); (case b => k_upd)))
theorem elem_c {b c d : Addr} {n1 n2 n3 : Nat} {lo hi k u : Int} {tlo thi tkk tu : Tok} (B : Below A₀ base outer h₀) (F : Fr h₀ L s.heap m) (X : (hd.heap_39 w.params).In h₀) (N : News h₀ L s.heap news) (T : Top hd.view_39 (looseW hd.view_39 []) mean mg mb h₀) (hk : cs.kind = .function)
    (hd : dp + 4 < recursionLimit) (hu : un + 60 < cLine) (g1 : (b, tupO [.ref c] n1) ∈ news) (g2 : (c, tupO [.int lo tlo, .int hi thi] n2) ∈ news) (g3 : (d, tupO [.int k tkk] n3) ∈ news)
    (ret : ∀ h' tk' v p1 p2 p3, (∀ ns', (b, tupO [.ref c] n1) ∈ ns' → (c, tupO [.int lo tlo, .int hi thi] n2) ∈ ns' → (d, tupO [.int k tkk] n3) ∈ ns' → ElIn w.params (p1 :: p2 :: p3 :: ns') v ⟨lo, hi, k, u⟩) → (∀ p ∈ [p1, p2, p3], ∀ q ∈ news, q.1 < p.1) → Fr h₀ L h' m → News h₀ L h' (p1 :: p2 :: p3 :: news) → Q v { s with heap := h', toks := tk' }) :
    wpAny (model PySem.Challenge.rw_pf0336_01.row.prog w) (ktrTop dp un gd cn cs L a ccd cl outer) (call (.ref 97) [.ref b, .ref d, .int u tu]) Q E s := by
  revert X; k_fill; intro X
  (k_dflt (refine' call_cls ?F ?X ?N ?m ?i ?f ?_; (case F => k_asm); (case X => k_asm); (case N => k_asm); (case m => k_is); (case i => k_is); (case f => k_is)))
  intro x dx h1 F1 N1 l1 l2
  have hoff : ∀ p ∈ news, p.1 ≠ dx := fun p hp => Nat.ne_of_lt (l1 p hp)
  k_lt2 l2
  k_dflt (refine' code_def ?k1 ?k2 ?k3 ?k4 ?k5 ?kA ?kF ?kK ?k6 ?k7 ?k8 ?k9 ?kB ?_ ?c2 ?c3 ?c4 ?c5; (case kA => exact rfl); (case kF => exact rfl); (case kK => first | exact rfl | assumption); (case k1 => k_asm); (case k2 => k_asm); (case k3 => k_asm); (case k4 => k_asm); (case k5 => k_asm); (case k6 => k_is); (case k7 => k_is); (case k8 => ktr_room); (case k9 => first | exact BindsTo.of_eq rfl | exact binds_K (by k_in) rfl (by k_is) rfl rfl rfl); (case c5 => decide); (case kB => exact locs rfl); (case c2 => exact rfl); (case c3 => exact rfl); (case c4 => exact rfl); k_whole; intro g' L' h' FG' F' N' B' X' T'; (try dsimp only); (try k_fold))
  k_steps
  refine' ret _ _ _ _ _ _ ?E9 ?S9 ?F9 ?N9
  case F9 => k_asm
  case N9 => with_reducible assumption
  case S9 =>
    intro p hp q hq
    have h9 : @LT.lt Nat _ q.1 dx := l1 q hq
    rcases List.mem_cons.mp hp with rfl | hp
    · show @LT.lt Nat _ q.1 _
      omega
    · rcases List.mem_cons.mp hp with rfl | hp
      · show @LT.lt Nat _ q.1 x
        omega
      · rcases List.mem_cons.mp hp with rfl | hp
        · exact h9
        · cases hp
  case E9 => exact fun ns' g1 g2 g3 => ⟨_, _, b, c, d, n1, n2, n3, tlo, thi, tkk, tu, _, _, _, _, _, _, _, _, _, _, rfl, .tail _ (.head _), .tail _ (.tail _ (.head _)), List.mem_cons_of_mem _ (List.mem_cons_of_mem _ (List.mem_cons_of_mem _ g1)), List.mem_cons_of_mem _ (List.mem_cons_of_mem _ (List.mem_cons_of_mem _ g2)), List.mem_cons_of_mem _ (List.mem_cons_of_mem _ (List.mem_cons_of_mem _ g3))⟩

theorem clr_19 : True := by
  w_top off
  k_with_none
  trivial
open LCg LCt in
theorem cend_weaken {h₀ : Heap} {L I C D : Addr} {m : Str → Option Value} {s₁ s₂ : Shared} {oI oC oD : Obj} {S : List (Addr × Obj) → Prop} {r1 r2 : Value → List (Addr × Obj) → Prop} {y : Value} (h : CompEnd h₀ L m s₁ I oI C oC D oD S r1 y s₂) (hr : ∀ news', r1 y news' → r2 y news') : CompEnd h₀ L m s₁ I oI C oC D oD S r2 y s₂ := by
  obtain ⟨h', tk, news', e, F, N, o, s, r⟩ := h
  exact ⟨h', tk, news', e, F, N, o, s, hr _ r⟩
open LCg LCt in
theorem restT_rows {prog : Program} {w : World} {A : Around} {env : Env} {ct elt : PySem.Expr} {x : Str} {scope : Scope} {cl : List (Str × Addr)} {S : List (Addr × Obj) → Prop} {R' Out : Value → Rw → Prop} {vs : List Value} {rs : List Rw} {test : Rw → Bool} {Fin : List Value → List (Addr × Obj) → Prop}
    (he : All2 R' vs rs)
    (turn : ∀ v r I oI C oC D m₂ h tk (E' : Value → Shared → Prop) ys, R' v r → NsObj oC m₂ → m₂ x = some v → Fr h₀ L h m → News h₀ L h ((I, oI) :: (C, oC) :: (D, lst ys) :: news) → Off3 I C D news → ((@Ne Nat I C) ∧ (@Ne Nat I D) ∧ (@Ne Nat C D)) →
      wpAny (model prog w) A (isTrue ct (compEnvC scope cl C env) (eval ct (compEnvC scope cl C env))) (fun ok s' => if ok = true then
        wpAny (model prog w) A (eval elt (compEnvC scope cl C env)) (CompEnd h₀ L m { s with heap := h, toks := tk } I oI C oC D (lst ys) S (fun y news' => news' = news ∧ test r = true ∧ Out y r)) E' s'
        else CompEnd h₀ L m { s with heap := h, toks := tk } I oI C oC D (lst ys) S (fun _ news' => news' = news ∧ test r = false) Value.none s') E' { s with heap := h, toks := tk })
    (hfin : ∀ ys, All2 Out ys (rs.filter test) → Fin ys news) :
    CompRestT prog w A h₀ L m env ct elt x scope cl s S (fun i v => vs.toArray[i]? = some v) Fin vs.toArray.size 0 [] news := by
  have hlen := he.length
  have gen : ∀ k i ys, k + i = vs.length → All2 Out ys ((rs.take i).filter test) → CompRestT prog w A h₀ L m env ct elt x scope cl s S (fun i v => vs.toArray[i]? = some v) Fin k i ys news := by
    intro k
    induction k with
    | zero =>
      intro i ys hi ha
      refine CompRestT.zero (hfin ys ?_)
      rw [List.take_of_length_le (by omega)] at ha
      exact ha
    | succ k ih =>
      intro i ys hi ha
      refine CompRestT.succ fun v I oI C oC D m₂ h tk E' hv hC hx F N off ne => ?_
      obtain ⟨v', r, hv', hr, hR⟩ := he.get (i := i) (by omega)
      have ev : v' = v := by
        have hv2 : vs.toArray[i]? = some v := hv
        rw [List.getElem?_toArray, hv'] at hv2
        exact Option.some.inj hv2
      subst ev
      have et : rs.take (i + 1) = rs.take i ++ [r] := by rw [List.take_add_one, hr]; rfl
      refine wpAny_mono (turn v' r I oI C oC D m₂ h tk E' ys hR hC hx F N off ne) (fun ok s' hok => ?_) fun _ _ e => e
      cases ok with
      | true =>
        simp only [if_true] at hok ⊢
        refine wpAny_mono hok (fun y s₅ h₅ => cend_weaken h₅ ?_) fun _ _ e => e
        rintro news' ⟨rfl, ht, ho⟩
        refine ih (i + 1) (ys ++ [y]) (by omega) ?_
        rw [et, List.filter_append, List.filter_cons, ht]
        exact ha.push ho
      | false =>
        simp only [Bool.false_eq_true, if_false] at hok ⊢
        refine cend_weaken hok ?_
        rintro news' ⟨rfl, ht⟩
        refine ih (i + 1) ys (by omega) ?_
        rw [et, List.filter_append, List.filter_cons, ht]
        simpa using ha
  rw [show vs.toArray.size = vs.length from List.size_toArray]
  exact gen vs.length 0 [] rfl .nil

theorem clr_20 : True := by
  w_top off
  k_with_none
  trivial
open LCg in
theorem restU_rows {prog : Program} {w : World} {A : Around} {env : Env} {elt : PySem.Expr} {x : Str} {scope : Scope} {cl : List (Str × Addr)} {S : List (Addr × Obj) → Prop} {R' : Value → Rw → Prop} {Out : List (Addr × Obj) → Value → Rw → Prop} {vs : List Value} {rs : List Rw} {Fin : List Value → List (Addr × Obj) → Prop}
    (he : All2 R' vs rs) (hO : ∀ n1 n2 y r, (∀ p ∈ n1, p ∈ n2) → Out n1 y r → Out n2 y r)
    (turn : ∀ nw v r I oI C oC D m₂ h tk (E' : Value → Shared → Prop) ys, (∀ p ∈ news, p ∈ nw) → R' v r → NsObj oC m₂ → m₂ x = some v → Fr h₀ L h m → News h₀ L h ((I, oI) :: (C, oC) :: (D, lst ys) :: nw) → Off3 I C D nw → ((@Ne Nat I C) ∧ (@Ne Nat I D) ∧ (@Ne Nat C D)) →
      wpAny (model prog w) A (eval elt (compEnvC scope cl C env)) (CompEnd h₀ L m { s with heap := h, toks := tk } I oI C oC D (lst ys) S (fun y news' => (∀ p ∈ nw, p ∈ news') ∧ Out news' y r)) E' { s with heap := h, toks := tk })
    (hfin : ∀ ys nw, (∀ p ∈ news, p ∈ nw) → All2 (Out nw) ys rs → Fin ys nw) :
    CompRest prog w A h₀ L m env elt x scope cl s S (fun i v => vs.toArray[i]? = some v) Fin vs.toArray.size 0 [] news := by
  have hlen := he.length
  have gen : ∀ k i ys nw, k + i = vs.length → (∀ p ∈ news, p ∈ nw) → All2 (Out nw) ys (rs.take i) → CompRest prog w A h₀ L m env elt x scope cl s S (fun i v => vs.toArray[i]? = some v) Fin k i ys nw := by
    intro k
    induction k with
    | zero =>
      intro i ys nw hi hs ha
      refine CompRest.zero (hfin ys nw hs ?_)
      rw [List.take_of_length_le (by omega)] at ha
      exact ha
    | succ k ih =>
      intro i ys nw hi hs ha
      refine CompRest.succ fun v I oI C oC D m₂ h tk E' hv hC hx F N off ne => ?_
      obtain ⟨v', r, hv', hr, hR⟩ := he.get (i := i) (by omega)
      have ev : v' = v := by
        have hv2 : vs.toArray[i]? = some v := hv
        rw [List.getElem?_toArray, hv'] at hv2
        exact Option.some.inj hv2
      subst ev
      have et : rs.take (i + 1) = rs.take i ++ [r] := by rw [List.take_add_one, hr]; rfl
      refine wpAny_mono (turn nw v' r I oI C oC D m₂ h tk E' ys hs hR hC hx F N off ne) (fun y s₅ h₅ => cend_weaken h₅ ?_) fun _ _ e => e
      rintro news' ⟨h1, ho⟩
      refine ih (i + 1) (ys ++ [y]) news' (by omega) (fun p hp => h1 p (hs p hp)) ?_
      rw [et]
      exact (ha.mono fun _ _ q => hO _ _ _ _ h1 q).push ho
  rw [show vs.toArray.size = vs.length from List.size_toArray]
  exact gen vs.length 0 [] news rfl (fun _ hp => hp) .nil

theorem clr_21 : True := by
  w_top off
  k_with_none
  trivial
noncomputable def runK {α : Type} (lt ok : Nat → Nat → Bool) : KasT α → Option α
  | .ret a => some a
  | .ask i j k => if ok i j then runK lt ok (k (lt i j)) else none
theorem runK_wp {α : Type} {cmp : Nat → Nat → (Bool → Shared → Prop) → Shared → Prop} {lt ok : Nat → Nat → Bool} {Q : α → Shared → Prop} {s : Shared} {a : α} (hc : ∀ i j C, ok i j = true → C (lt i j) s → cmp i j C s) (hq : Q a s) : ∀ t : KasT α, runK lt ok t = some a → t.kasWp cmp Q s
  | .ret b, h => by
    have e : b = a := Option.some.inj h
    subst e; exact hq
  | .ask i j k, h => by
    have h2 : (if ok i j then runK lt ok (k (lt i j)) else none) = some a := h
    by_cases ho : ok i j = true
    · rw [if_pos ho] at h2
      exact hc i j _ ho (runK_wp hc hq _ h2)
    · rw [if_neg ho] at h2; cases h2
noncomputable def posK (n p i : Nat) : Nat := if i + 1 = n then p else if i < p then i else i + 1
noncomputable def ltp (n p i j : Nat) : Bool := decide (posK n p i < posK n p j)
noncomputable def okp (n i j : Nat) : Bool := decide (i < n) && decide (j < n) && (i != j)
noncomputable def idsp (n p : Nat) : List Nat := List.range p ++ (n - 1) :: (List.range' p (n - 1 - p))
theorem sort_run : ∀ n < 10, ∀ p < n, 2 ≤ n → runK (ltp n p) (okp n) (kas_sort n) = some (idsp n p).toArray := by decide +kernel
theorem tup_lt {prog : Program} {A : Around} {a b : Addr} {xs ys : List Value} {na nb : Nat} {p q : Value} {r : Bool} {Q : Value → Shared → Prop}
    (ha : s.heap.get? a = some (tupO (p :: xs) na)) (hb : s.heap.get? b = some (tupO (q :: ys) nb)) (hu : A.units < cLine)
    (he : ∀ Q' : Bool → Shared → Prop, Q' false s → wpAny (model prog w) A.in1 (eqBool p q) Q' E s)
    (hl : ∀ Q' : Value → Shared → Prop, Q' (.bool r) s → wpAny (model prog w) A.in1 (richCompare .Lt p q) Q' E s)
    (h : Q (.bool r) s) : wpAny (model prog w) A (richCompare .Lt (.ref a) (.ref b)) Q E s := by
  have hTa : s.TypeIs (.ref a) "tuple" := ⟨_, ha, rfl⟩
  have hTb : s.TypeIs (.ref b) "tuple" := ⟨_, hb, rfl⟩
  refine wpAny_richCompare_same_room hTa hTb F.slot_tuple_lt (wpAny_call_entry F.slot_tuple_lt hTa F.entry_tuple_lt ?_ (F.args_tuple_lt_2 _ _)) hu
  show wpAny _ _ (isInstance (.ref b) (.type "tuple") >>= _) _ _ s
  refine wpAny_bind (wpAny_isInstance hTb isSubtype_tuple_tuple ?_)
  simp only [Bool.not_true, Bool.false_eq_true, if_false]
  refine wpAny_bind (wpAny_tupleItemsOf ha rfl ?_)
  refine wpAny_bind (wpAny_tupleItemsOf hb rfl ?_)
  simp only [List.zip_cons_cons, List.forIn_cons]
  refine wpAny_bind (wpAny_bind (wpAny_bind (he _ ?_)))
  simp only [Bool.not_false, if_true]
  refine wpAny_bind (wpAny_rule (wpAny_bind (hl _ ?_)))
  refine wpAny_bind (wpAny_pure (wpAny_pure ?_))
  dsimp only
  refine wpAny_pure ?_
  dsimp only
  exact wpAny_pure ⟨_, rfl, by simp, h⟩

theorem clr_21b : True := by
  w_top off
  k_with_none
  trivial
/-- rows disjoint and in order -/
noncomputable def Ok (R : List Rw) : Prop := (∀ x ∈ R, x.lo ≤ x.hi) ∧ R.Pairwise fun a b => a.hi < b.lo
theorem Ok.sub {R S : List Rw} (h : Ok R) (s : S.Sublist R) : Ok S := ⟨fun x hx => h.1 x (s.subset hx), h.2.sublist s⟩
theorem Ok.hi {R : List Rw} (h : Ok R) : R.Pairwise fun a b => a.hi ≤ b.hi := by
  refine List.Pairwise.imp_of_mem ?_ h.2
  intro a b _ hb hab
  have := h.1 b hb
  omega
/-- the rows ahead of n, the row where n may lie and what stands behind -/
theorem split_at (R : List Rw) (n : Int) : R.take (pIn R n) = R.takeWhile (fun r => decide (r.hi < n)) ∧ R.drop (pIn R n) = R.dropWhile (fun r => decide (r.hi < n)) := by
  unfold pIn
  induction R with
  | nil => exact ⟨rfl, rfl⟩
  | cons x R ih =>
    rw [List.takeWhile_cons, List.dropWhile_cons]
    by_cases h : decide (x.hi < n) = true
    · simp only [if_pos h, List.length_cons, List.take_succ_cons, List.drop_succ_cons, ih.1, ih.2, and_self]
    · simp only [if_neg h, List.length_nil, List.take_zero, List.drop_zero, and_self]
/-- R is A ++ B, A all ahead of n, B all not -/
theorem cut_at {R : List Rw} (h : Ok R) (n : Int) : ∃ A B, R = A ++ B ∧ A.length = pIn R n ∧ R.take (pIn R n) = A ∧ R.drop (pIn R n) = B ∧ (∀ x ∈ A, x.hi < n) ∧ (∀ x ∈ B, n ≤ x.hi) := by
  refine ⟨_, _, (List.take_append_drop (pIn R n) R).symm, ?_, rfl, rfl, ?_, ?_⟩
  · rw [(split_at R n).1]; rfl
  · intro x hx
    rw [(split_at R n).1] at hx
    have := List.all_takeWhile (l := R) (p := fun r => decide (r.hi < n))
    have := List.all_eq_true.mp this x hx
    simpa using this
  · have hp : (R.drop (pIn R n)).Pairwise fun a b => a.hi ≤ b.hi := h.hi.sublist (List.drop_sublist _ _)
    rw [(split_at R n).2] at hp ⊢
    intro x hx
    cases e : R.dropWhile (fun r => decide (r.hi < n)) with
    | nil => rw [e] at hx; cases hx
    | cons y t =>
      have hy : ¬ (y.hi < n) := by
        have := List.head_dropWhile_not (p := fun r : Rw => decide (r.hi < n)) (l := R) (by rw [e]; simp)
        simp only [e, List.head_cons] at this
        simpa using this
      rw [e] at hx hp
      rcases List.mem_cons.mp hx with rfl | hx
      · omega
      · have := (List.pairwise_cons.mp hp).1 x hx; omega
theorem pIn_app {A B : List Rw} {n : Int} (hA : ∀ x ∈ A, x.hi < n) (hB : ∀ x ∈ B, n ≤ x.hi) : pIn (A ++ B) n = A.length := by
  unfold pIn
  induction A with
  | nil =>
    cases B with
    | nil => rfl
    | cons y B =>
      have := hB y (.head _)
      rw [List.nil_append, List.takeWhile_cons, if_neg (by simp; omega)]
  | cons x A ih =>
    have := hA x (.head _)
    rw [List.cons_append, List.takeWhile_cons, if_pos (by simp; omega)]
    simp only [List.length_cons]
    rw [ih fun y hy => hA y (.tail _ hy)]
noncomputable def lawLeft (R : List Rw) (r : Rw) (now : Int) : List Rw := R.filter fun x => live x now || !near x.lo x.hi r.lo r.hi
noncomputable def lawNear (R : List Rw) (r : Rw) (now : Int) : List Rw := (lawLeft R r now).filter fun x => near x.lo x.hi r.lo r.hi
noncomputable def ins (R : List Rw) (r : Rw) : List Rw := R.take (pIn R r.lo) ++ r :: R.drop (pIn R r.lo)
noncomputable def meetL (R : List Rw) (lo hi now : Int) : List Rw := R.filter fun x => live x now && near x.lo x.hi lo hi
theorem near_ahead {x : Rw} {lo hi : Int} (h : x.hi < lo) : near x.lo x.hi lo hi = false := by
  unfold near; exact decide_eq_false (by omega)
theorem near_behind {x : Rw} {lo hi : Int} (h : hi < x.lo) : near x.lo x.hi lo hi = false := by
  unfold near; exact decide_eq_false (by omega)
theorem near_in {x : Rw} {lo hi : Int} (h : x.lo ≤ hi) (h' : lo ≤ x.hi) (hx : x.lo ≤ x.hi) (hl : lo ≤ hi) : near x.lo x.hi lo hi = true := by
  unfold near; exact decide_eq_true (by omega)
/-- what stands at or behind lo: the ones that begin at hi or ahead of it, the others -/
theorem cut_run {B : List Rw} (h : Ok B) (hi : Int) : ∃ M C, B = M ++ C ∧ (∀ x ∈ M, x.lo ≤ hi) ∧ (∀ x ∈ C, hi < x.lo) := by
  induction B with
  | nil => exact ⟨[], [], rfl, (fun _ h => nomatch h), (fun _ h => nomatch h)⟩
  | cons y B ih =>
    by_cases hy : y.lo ≤ hi
    · obtain ⟨M, C, rfl, hM, hC⟩ := ih (h.sub (List.sublist_cons_self _ _))
      refine ⟨y :: M, C, rfl, ?_, hC⟩
      intro x hx
      rcases List.mem_cons.mp hx with rfl | hx
      · exact hy
      · exact hM x hx
    · refine ⟨[], y :: B, rfl, (fun _ h => nomatch h), ?_⟩
      intro x hx
      have h1 := h.1 y (.head _)
      rcases List.mem_cons.mp hx with rfl | hx
      · omega
      · have := (List.pairwise_cons.mp h.2).1 x hx; omega
theorem keep_run {hi now : Int} : ∀ {M C : List Rw}, (∀ x ∈ M, x.lo ≤ hi) → (∀ x ∈ C, hi < x.lo) → keep hi now (M ++ C) = (M.filter fun x => live x now, C)
  | [], [], _, _ => rfl
  | [], y :: C, _, hC => by
    have := hC y (.head _)
    simp only [List.nil_append, keep, List.filter_nil]
    rw [if_neg (by omega)]
  | x :: M, C, hM, hC => by
    have h1 := hM x (.head _)
    have ih := keep_run (now := now) (fun y hy => hM y (.tail _ hy)) hC
    simp only [List.cons_append, keep, if_pos h1, ih, List.filter_cons]
    split <;> rfl
theorem meet_run {hi now : Int} : ∀ {M C : List Rw}, (∀ x ∈ M, x.lo ≤ hi) → (∀ x ∈ C, hi < x.lo) → meetT hi now (M ++ C) = M.filter fun x => live x now
  | [], [], _, _ => rfl
  | [], y :: C, _, hC => by
    have := hC y (.head _)
    simp only [List.nil_append, meetT, List.filter_nil]
    rw [if_neg (by omega)]
  | x :: M, C, hM, hC => by
    have h1 := hM x (.head _)
    have ih := meet_run (now := now) (fun y hy => hM y (.tail _ hy)) hC
    simp only [List.cons_append, meetT, if_pos h1, ih, List.filter_cons]
theorem filter_all {l : List Rw} {p : Rw → Bool} (h : ∀ x ∈ l, p x = true) : l.filter p = l := List.filter_eq_self.mpr h
theorem filter_none {l : List Rw} {p : Rw → Bool} (h : ∀ x ∈ l, p x = false) : l.filter p = [] := List.filter_eq_nil_iff.mpr fun x hx => by rw [h x hx]; exact Bool.false_ne_true
theorem filter_as {l : List Rw} {p q : Rw → Bool} (h : ∀ x ∈ l, p x = q x) : l.filter p = l.filter q := List.filter_congr h
/-- rows about a span: ahead of it, in it, behind it -/
theorem three {R : List Rw} (h : Ok R) (lo hi : Int) (hlh : lo ≤ hi) : ∃ A M C, R = A ++ (M ++ C) ∧ R.take (pIn R lo) = A ∧ R.drop (pIn R lo) = M ++ C ∧ A.length = pIn R lo ∧ (∀ x ∈ A, x.hi < lo) ∧ (∀ x ∈ M, lo ≤ x.hi ∧ x.lo ≤ hi) ∧ (∀ x ∈ C, lo ≤ x.hi ∧ hi < x.lo) ∧
    (∀ x ∈ A, near x.lo x.hi lo hi = false) ∧ (∀ x ∈ M, near x.lo x.hi lo hi = true) ∧ (∀ x ∈ C, near x.lo x.hi lo hi = false) := by
  obtain ⟨A, B, e, hl, h1, h2, hA, hB⟩ := cut_at h lo
  have hOB : Ok B := h.sub (h2 ▸ List.drop_sublist _ _)
  obtain ⟨M, C, rfl, hM, hC⟩ := cut_run hOB hi
  refine ⟨A, M, C, e, h1, h2, hl, hA, ?_, ?_, ?_, ?_, ?_⟩
  · intro x hx; exact ⟨hB x (List.mem_append_left _ hx), hM x hx⟩
  · intro x hx; exact ⟨hB x (List.mem_append_right _ hx), hC x hx⟩
  · intro x hx; exact near_ahead (hA x hx)
  · intro x hx
    exact near_in (hM x hx) (hB x (List.mem_append_left _ hx)) (hOB.1 x (List.mem_append_left _ hx)) hlh
  · intro x hx; exact near_behind (hC x hx)
theorem meet_law {R : List Rw} (h : Ok R) {lo hi : Int} (now : Int) (hlh : lo ≤ hi) : meetT hi now (R.drop (pIn R lo)) = meetL R lo hi now := by
  obtain ⟨A, M, C, e, h1, h2, hl, hA, hM, hC, nA, nM, nC⟩ := three h lo hi hlh
  rw [h2, meet_run (fun x hx => (hM x hx).2) (fun x hx => (hC x hx).2)]
  unfold meetL
  rw [e, List.filter_append, List.filter_append, filter_none (l := A) (by intro x hx; rw [nA x hx, Bool.and_false]), filter_none (l := C) (by intro x hx; rw [nC x hx, Bool.and_false]), List.nil_append, List.append_nil]
  exact filter_as fun x hx => by rw [nM x hx, Bool.and_true]
/-- the code's row at the place -/
theorem at_place {R : List Rw} {n : Int} {A B : List Rw} (e : R = A ++ B) (hl : A.length = pIn R n) : R[pIn R n]? = B.head? := by
  rw [← hl, e, List.getElem?_append_right (Nat.le_refl _), Nat.sub_self, List.head?_eq_getElem?]
theorem filter_head {l : List Rw} {p : Rw → Bool} : (l.filter p).head? = l.find? p := List.head?_filter
/-- one span alone can stand at a box -/
theorem head_box {M : List Rw} (h : Ok M) {lo hi : Int} (hM : ∀ x ∈ M, lo ≤ x.hi) {x y : Rw} {t : List Rw} (e : M = x :: t) (hy : y ∈ M) (hb : y.lo = lo) : y = x := by
  subst e
  rcases List.mem_cons.mp hy with rfl | hy
  · rfl
  · have h1 := (List.pairwise_cons.mp h.2).1 y hy
    have h2 := hM x (.head _)
    omega
theorem box_filter {R : List Rw} (h : Ok R) {lo hi : Int} (hlh : lo ≤ hi) : R.filter (fun x => decide (x.lo = lo ∧ x.hi = hi)) = match R[pIn R lo]? with
    | some r => if r.lo = lo ∧ r.hi = hi then [r] else []
    | none => [] := by
  obtain ⟨A, B, e, hl, h1, h2, hA, hB⟩ := cut_at h lo
  have hOB : Ok B := h.sub (h2 ▸ List.drop_sublist _ _)
  rw [at_place e hl]
  have fA : A.filter (fun x => decide (x.lo = lo ∧ x.hi = hi)) = [] := filter_none fun x hx => by
    have := hA x hx
    exact decide_eq_false (by omega)
  have : R.filter (fun x => decide (x.lo = lo ∧ x.hi = hi)) = B.filter (fun x => decide (x.lo = lo ∧ x.hi = hi)) := by
    rw [e, List.filter_append, fA, List.nil_append]
  rw [this]
  clear this
  cases B with
  | nil => rfl
  | cons x t =>
    have ft : t.filter (fun x => decide (x.lo = lo ∧ x.hi = hi)) = [] := filter_none fun y hy => by
      have h1 := (List.pairwise_cons.mp hOB.2).1 y hy
      have h2 := hB x (.head _)
      exact decide_eq_false (by omega)
    simp only [List.head?_cons, List.filter_cons, ft, decide_eq_true_eq]
theorem at_law {R : List Rw} (h : Ok R) {lo hi : Int} (now : Int) (hlh : lo ≤ hi) : rAt R lo hi now = ((meetL R lo hi now).filter fun x => decide (x.lo = lo ∧ x.hi = hi)).head? := by
  unfold meetL rAt
  rw [List.filter_filter]
  have : R.filter (fun x => decide (x.lo = lo ∧ x.hi = hi) && (live x now && near x.lo x.hi lo hi)) = (R.filter fun x => decide (x.lo = lo ∧ x.hi = hi)).filter fun x => live x now := by
    rw [List.filter_filter]
    refine filter_as fun x hx => ?_
    by_cases g : x.lo = lo ∧ x.hi = hi
    · have : near x.lo x.hi lo hi = true := near_in (by omega) (by omega) (h.1 x hx) hlh
      rw [this, Bool.and_true, decide_eq_true g, Bool.true_and, Bool.and_true]
    · rw [decide_eq_false g, Bool.false_and, Bool.and_false]
  rw [this, box_filter h hlh]
  cases R[pIn R lo]? with
  | none => rfl
  | some r =>
    by_cases g : r.lo = lo ∧ r.hi = hi
    · simp only [if_pos g, List.filter_cons, List.filter_nil]
      by_cases q : live r now = true
      · rw [if_pos ⟨g.1, g.2, q⟩, if_pos q]; rfl
      · rw [if_neg fun z => q z.2.2, if_neg q]; rfl
    · simp only [if_neg g, List.filter_nil]
      rw [if_neg fun z => g ⟨z.1, z.2.1⟩]; rfl
theorem find_law {R : List Rw} (h : Ok R) (n now : Int) : rFind R n now = ((R.filter fun x => live x now).filter fun x => decide (x.lo ≤ n ∧ n ≤ x.hi)).head? := by
  unfold rFind
  obtain ⟨A, B, e, hl, h1, h2, hA, hB⟩ := cut_at h n
  have hOB : Ok B := h.sub (h2 ▸ List.drop_sublist _ _)
  rw [at_place e hl, List.filter_filter]
  have fA : A.filter (fun x => decide (x.lo ≤ n ∧ n ≤ x.hi) && live x now) = [] := filter_none fun x hx => by
    have := hA x hx
    rw [decide_eq_false (by omega), Bool.false_and]
  have : R.filter (fun x => decide (x.lo ≤ n ∧ n ≤ x.hi) && live x now) = B.filter (fun x => decide (x.lo ≤ n ∧ n ≤ x.hi) && live x now) := by
    rw [e, List.filter_append, fA, List.nil_append]
  rw [this]
  clear this
  cases B with
  | nil => rfl
  | cons x t =>
    have ft : t.filter (fun x => decide (x.lo ≤ n ∧ n ≤ x.hi) && live x now) = [] := filter_none fun y hy => by
      have h1 := (List.pairwise_cons.mp hOB.2).1 y hy
      have h2 := hB x (.head _)
      rw [decide_eq_false (by omega), Bool.false_and]
    have hx := hB x (.head _)
    simp only [List.head?_cons, List.filter_cons, ft]
    by_cases q : x.lo ≤ n ∧ live x now = true
    · rw [if_pos q, if_pos (by rw [decide_eq_true ⟨q.1, hx⟩, q.2]; rfl)]; rfl
    · rw [if_neg q]
      by_cases g : x.lo ≤ n
      · rw [if_neg (by intro z; rw [decide_eq_true ⟨g, hx⟩, Bool.true_and] at z; exact q ⟨g, z⟩)]; rfl
      · rw [if_neg (by rw [decide_eq_false fun z => g z.1, Bool.false_and]; exact Bool.false_ne_true)]; rfl
/-- the taking out -/
theorem drop_law {R : List Rw} (h : Ok R) {lo hi : Int} (hlh : lo ≤ hi) : (boxAt R lo hi < 0 ∧ R.filter (fun x => decide (x.lo = lo ∧ x.hi = hi)) = []) ∨
    (∃ r, 0 ≤ boxAt R lo hi ∧ R[(boxAt R lo hi).toNat]? = some r ∧ R.filter (fun x => decide (x.lo = lo ∧ x.hi = hi)) = [r] ∧ R.take (boxAt R lo hi).toNat ++ R.drop ((boxAt R lo hi).toNat + 1) = R.filter (fun x => !decide (x.lo = lo ∧ x.hi = hi))) := by
  have hb := box_filter h hlh
  unfold boxAt
  cases e : R[pIn R lo]? with
  | none => left; rw [e] at hb; exact ⟨(show (-1 : Int) < 0 by decide), hb⟩
  | some r =>
    rw [e] at hb
    by_cases g : r.lo = lo ∧ r.hi = hi
    · right
      simp only [if_pos g] at hb ⊢
      refine ⟨r, by omega, by rw [Int.toNat_natCast]; exact e, hb, ?_⟩
      rw [Int.toNat_natCast]
      obtain ⟨A, B, e2, hl, h1, h2, hA, hB⟩ := cut_at h lo
      have hOB : Ok B := h.sub (h2 ▸ List.drop_sublist _ _)
      rw [h1]
      have h3 : R.drop (pIn R lo + 1) = B.tail := by rw [← h2, List.tail_drop]
      rw [h3]
      rw [at_place e2 hl] at e
      cases B with
      | nil => cases e
      | cons x t =>
        have ex : x = r := Option.some.inj e
        subst ex
        have fA : A.filter (fun x => !decide (x.lo = lo ∧ x.hi = hi)) = A := filter_all fun y hy => by
          have := hA y hy
          rw [decide_eq_false (by omega)]; rfl
        have ft : t.filter (fun x => !decide (x.lo = lo ∧ x.hi = hi)) = t := filter_all fun y hy => by
          have h1 := (List.pairwise_cons.mp hOB.2).1 y hy
          have h2 := hB x (.head _)
          rw [decide_eq_false (by omega)]; rfl
        rw [e2, List.filter_append, fA, List.filter_cons, ft, if_neg (by rw [decide_eq_true g]; exact Bool.false_ne_true)]
        rfl
    · left
      simp only [if_neg g] at hb ⊢
      exact ⟨(show (-1 : Int) < 0 by decide), hb⟩
/-- the putting in -/
theorem put_law {R : List Rw} (h : Ok R) {r : Rw} (now : Int) (hr : r.lo ≤ r.hi) :
    (lawNear R r now = [] → putS R r now = (ins (lawLeft R r now) r, none)) ∧
    (lawNear R r now ≠ [] → putS R r now = (lawLeft R r now, some (if (lawNear R r now).any (fun x => decide (x.lo = r.lo ∧ x.hi = r.hi)) = true then (Str.ofString "EEXIST", Str.ofString "File exists") else (Str.ofString "ENOTEMPTY", Str.ofString "Directory not empty")))) := by
  obtain ⟨A, M, C, e, h1, h2, hl, hA, hM, hC, nA, nM, nC⟩ := three h r.lo r.hi hr
  have hk := keep_run (hi := r.hi) (now := now) (fun x hx => (hM x hx).2) (fun x hx => (hC x hx).2)
  have hL : lawLeft R r now = A ++ (M.filter (fun x => live x now) ++ C) := by
    unfold lawLeft
    rw [e, List.filter_append, List.filter_append, filter_all (l := A) (by intro x hx; rw [nA x hx, Bool.not_false, Bool.or_true]), filter_all (l := C) (by intro x hx; rw [nC x hx, Bool.not_false, Bool.or_true])]
    rw [filter_as (l := M) (q := fun x => live x now) fun x hx => by rw [nM x hx, Bool.not_true, Bool.or_false]]
  have hN : lawNear R r now = M.filter (fun x => live x now) := by
    unfold lawNear
    rw [hL, List.filter_append, List.filter_append, filter_none (l := A) nA, filter_none (l := C) nC, List.nil_append, List.append_nil]
    exact filter_all fun x hx => nM x ((List.mem_filter.mp hx).1)
  have hOM : Ok (M.filter fun x => live x now) := by
    refine h.sub ?_
    rw [e]
    exact (List.filter_sublist.trans (List.sublist_append_left _ _)).trans (List.sublist_append_right _ _)
  constructor
  · intro hn
    rw [hN] at hn
    unfold putS
    rw [h2, hk, hn, h1, hL, hn]
    simp only [List.nil_append]
    unfold ins
    rw [pIn_app hA fun x hx => (hC x hx).1, List.take_left' rfl, List.drop_left' rfl]
  · intro hn
    rw [hN] at hn
    unfold putS
    rw [h2, hk, h1, hL, hN]
    cases hf : M.filter (fun x => live x now) with
    | nil => exact absurd hf hn
    | cons x t =>
      rw [hf] at hOM
      have e2 : (List.any (x :: t) fun x => decide (x.lo = r.lo ∧ x.hi = r.hi)) = true ↔ (x.lo = r.lo ∧ x.hi = r.hi) := by
        constructor
        · intro q
          obtain ⟨y, hy, hq⟩ := List.any_eq_true.mp q
          have hq := of_decide_eq_true hq
          have : y = x := head_box (hi := r.hi) hOM (fun z hz => (hM z ((List.mem_filter.mp (hf ▸ hz)).1)).1) rfl hy hq.1
          rw [← this]; exact hq
        · intro q
          exact List.any_eq_true.mpr ⟨x, .head _, decide_eq_true q⟩
      simp only [e2, List.append_assoc]
theorem Ok.ins {R : List Rw} (h : Ok R) {r : Rw} (hr : r.lo ≤ r.hi) (hn : ∀ x ∈ R, near x.lo x.hi r.lo r.hi = false) : Ok (ins R r) := by
  obtain ⟨A, M, C, e, h1, h2, hl, hA, hM, hC, nA, nM, nC⟩ := three h r.lo r.hi hr
  have hM0 : M = [] := by
    cases M with
    | nil => rfl
    | cons x t =>
      have q := hn x (by rw [e]; exact List.mem_append_right _ (.head _))
      rw [nM x (.head _)] at q; cases q
  subst hM0
  unfold Mine.ins
  rw [h1, h2]
  have hp := h.2
  rw [e] at hp
  rw [List.pairwise_append] at hp
  obtain ⟨pA, pC, pAC⟩ := hp
  rw [List.nil_append] at pC pAC
  refine ⟨fun x hx => ?_, ?_⟩
  · rcases List.mem_append.mp hx with q | q
    · exact h.1 x (by rw [e]; exact List.mem_append_left _ q)
    · rcases List.mem_cons.mp q with rfl | q
      · exact hr
      · exact h.1 x (by rw [e]; exact List.mem_append_right _ q)
  · rw [List.nil_append, List.pairwise_append]
    refine ⟨pA, ?_, ?_⟩
    · rw [List.pairwise_cons]
      exact ⟨fun x hx => (hC x hx).2, pC⟩
    · intro a ha b hb
      rcases List.mem_cons.mp hb with rfl | hb
      · exact hA a ha
      · exact pAC a ha b hb
theorem Ok.left {R : List Rw} (h : Ok R) (r : Rw) (now : Int) : Ok (lawLeft R r now) := h.sub List.filter_sublist
theorem left_len (R : List Rw) (r : Rw) (now : Int) : (lawLeft R r now).length ≤ R.length := List.length_filter_le _ _
theorem ins_len (R : List Rw) (r : Rw) : (ins R r).length = R.length + 1 := by
  unfold ins
  have e := congrArg List.length (List.take_append_drop (pIn R r.lo) R)
  rw [List.length_append] at e ⊢
  rw [List.length_cons]; omega
theorem near_nil {R : List Rw} {r : Rw} {now : Int} (h : lawNear R r now = []) : ∀ x ∈ lawLeft R r now, near x.lo x.hi r.lo r.hi = false := by
  intro x hx
  have := List.filter_eq_nil_iff.mp h x hx
  simpa using this

theorem clr_21p : True := by
  w_top off
  k_with_none
  trivial
theorem ne_eqB {prog : Program} {A : Around} {Q : Bool → Shared → Prop} {v v' : Value} {d d' : Dat} (N : News h₀ L s.heap news) (h1 : DatIn news v d) (h2 : DatIn news v' d') (k1 : kqdOk 8 d = true) (k2 : kqdOk 8 d' = true) (hu : A.units + 64 < cLine)
    (hne : d ≠ d') (h : Q false s) : wpAny (model prog w) A (eqBool v v') Q E s := by
  obtain ⟨as, ra⟩ := kqd_in N 8 h1 k1
  obtain ⟨bs, rb⟩ := kqd_in N 8 h2 k2
  have la := kqd_lay 8 d k1
  have lb := kqd_lay 8 d' k2
  refine SeqAt.eqBoolOverData prog w A E s v v' _ _ as bs Q ra rb la.1 lb.1 (by have := la.2; omega) ?_
  have e : PyData.eqv (kqdP d) (kqdP d') = false := by
    cases z : PyData.eqv (kqdP d) (kqdP d') with
    | false => rfl
    | true => exact absurd ((kqd_eqv 8 d d' 8 k1 k2).mp z) hne
  rw [e]; exact h
theorem row_lt {prog : Program} {A : Around} {C : Bool → Shared → Prop} {v v' : Value} {x y : Rw} (N : News h₀ L s.heap news) (hx : RowIn news v x) (hy : RowIn news v' y) (hne : x.lo ≠ y.lo) (hu : A.units + 70 < cLine)
    (h : C (decide (x.lo < y.lo)) s) : wpAny (model prog w) A (keyLt' (tuples' false) v v') C (fun _ _ => False) s := by
  obtain ⟨q, b, c, d, k0, k1, k2, k3, tlo, thi, tk, tu, rfl, g0, g1, g2, g3⟩ := hx
  obtain ⟨q', b', c', d', k0', k1', k2', k3', tlo', thi', tk', tu', rfl, g0', g1', g2', g3'⟩ := hy
  have dc : DatIn news (.ref c) (.tuple [.int x.lo, .int x.hi]) := .tuple g2 (.cons (.int _ _) (.cons (.int _ _) .nil))
  have dc' : DatIn news (.ref c') (.tuple [.int y.lo, .int y.hi]) := .tuple g2' (.cons (.int _ _) (.cons (.int _ _) .nil))
  have db : DatIn news (.ref b) (.tuple [.tuple [.int x.lo, .int x.hi]]) := .tuple g1 (.cons dc .nil)
  have db' : DatIn news (.ref b') (.tuple [.tuple [.int y.lo, .int y.hi]]) := .tuple g1' (.cons dc' .nil)
  have n1 : (Dat.tuple [.int x.lo, .int x.hi]) ≠ .tuple [.int y.lo, .int y.hi] := by
    intro e; injection e with e; injection e with e _; injection e with e; exact hne e
  have n2 : (Dat.tuple [.tuple [.int x.lo, .int x.hi]]) ≠ .tuple [.tuple [.int y.lo, .int y.hi]] := by
    intro e; injection e with e; injection e with e _; exact n1 e
  refine kat_lt (N _ g0).1 rfl (N _ g0').1 rfl ?_
  refine kat_cons (ne_eqB N db db' rfl rfl (by omega) n2 (kat_no ?_))
  refine kat_one _ _ ?_
  show wpAny _ _ (richCompare .Lt (.ref b) (.ref b')) _ _ _
  refine tup_lt (r := decide (x.lo < y.lo)) (N _ g1).1 (N _ g1').1 (by omega) (fun Q' hq => ne_eqB N dc dc' rfl rfl (by show A.units + 1 + _ < _; omega) n1 hq) (fun Q' hq => ?_) ?_
  · refine tup_lt (r := decide (x.lo < y.lo)) (N _ g2).1 (N _ g2').1 (by show A.units + 1 < _; omega) (fun Q' hq => ?_) (fun Q' hq => ?_) hq
    · refine wpAny_eqBool_int ?_
      rw [show (x.lo == y.lo) = false by simpa using hne]; exact hq
    · exact wpAny_lt_int hq
  · exact h
theorem row_first {h : Heap} (N : News h₀ L h news) : ∀ {vs : List Value} {R : List Rw}, All2 (RowIn news) vs R → ∃ fs, KatTups h vs fs ∧ fs.length = vs.length ∧ ∀ v ∈ fs, ∃ b c n, v = .ref b ∧ (b, tupO [.ref c] n) ∈ news := by
  intro vs R ha
  induction ha with
  | nil => exact ⟨[], trivial, rfl, fun _ hv => nomatch hv⟩
  | cons hv _ ih =>
    obtain ⟨fs, h1, h2, h3⟩ := ih
    obtain ⟨q, b, c, d, k0, k1, k2, k3, tlo, thi, tk, tu, rfl, g0, g1, g2, g3⟩ := hv
    refine ⟨.ref b :: fs, KatTups.cons (N _ g0).1 rfl rfl rfl h1, by simp [h2], fun v hv => ?_⟩
    rcases List.mem_cons.mp hv with rfl | hv
    · exact ⟨b, c, k1, rfl, g1⟩
    · exact h3 v hv
/-- list.sort of a list of one item -/
theorem sort_one {prog : Program} {A : Around} {D : Addr} {v : Value} {n : Nat} {P : PySem.Fin → Shared → Prop} (F : Fr h₀ L s.heap m) (N : News h₀ L s.heap ((D, seqObj "list" [v].toArray n) :: news)) (hoff : ∀ p ∈ news, p.1 ≠ D)
    (h : ∀ c h', Fr h₀ L h' m → News h₀ L h' ((D, listOf [v].toArray c) :: news) → P (.done (.ret .none)) { s with heap := h' }) :
    wpAny (model prog w) A (Builtin.«list.sort» ⟨[.ref D], []⟩) P E s := by
  have z := N _ (.head _)
  have s1 := Heap.SameBut.update s.heap D (Obj.mapSeq fun _ => (#[] : Array Value))
  obtain ⟨e1, ho1⟩ : ∃ e1, (s.heap.update D (Obj.mapSeq fun _ => (#[] : Array Value))).get? D = some (seqObj "list" #[] e1) := ⟨_, get?_update_seq z.1 fun _ => #[]⟩
  have F3 : Fr h₀ L (((s.heap.update D (Obj.mapSeq fun _ => (#[] : Array Value))).push (seqObj "tuple" [v].toArray 0)).push (seqObj "list" #[] 0)) m := ((kas_fr F s1 z.2.1 z.2.2).push _).push _
  have N3 : News h₀ L (((s.heap.update D (Obj.mapSeq fun _ => (#[] : Array Value))).push (seqObj "tuple" [v].toArray 0)).push (seqObj "list" #[] 0)) news :=
    (kas_news (fun p hp => N p (.tail _ hp)) s1 hoff).grown fun b x e => Heap.get?_push_of_some _ (Heap.get?_push_of_some _ e)
  have ho3 : (((s.heap.update D (Obj.mapSeq fun _ => (#[] : Array Value))).push (seqObj "tuple" [v].toArray 0)).push (seqObj "list" #[] 0)).get? D = some (seqObj "list" #[] e1) := Heap.get?_push_of_some _ (Heap.get?_push_of_some _ ho1)
  rw [list_sort_plain]
  refine wpAny_bind (listItems_at z.1 rfl ?_)
  refine wpAny_bind (listUpdate_at z.1 rfl ?_ (by rw [sizeLine_eq]; exact Nat.le_of_ble_eq_true rfl) (Nat.zero_le _))
  refine wpAny_bind (seqEpoch_at ho1 rfl ?_)
  refine wpAny_bind (wpAny_newTuple ?_ (by rw [sizeLine_eq]; exact Nat.le_of_ble_eq_true rfl))
  refine wpAny_bind (wpAny_newList ?_ (Nat.zero_le _))
  refine wpAny_holding ?_
  show wpAny (model prog w) A _ P E { s with heap := ((s.heap.update D (Obj.mapSeq fun _ => (#[] : Array Value))).push (seqObj "tuple" [v].toArray 0)).push (seqObj "list" #[] 0) }
  dsimp only
  have hn2 : [v].toArray.size < 2 := Nat.le_of_ble_eq_true rfl
  rw [if_pos hn2, if_pos hn2]
  refine wpAny_bind (wpAny_pure ?_)
  rw [StateT.run_pure]
  refine wpAny_bind (wpAny_pure ?_)
  dsimp only
  have eo : (arrOf (SortSt.mk' general' ([v].toArray.zip [v].toArray) #[] 7 none)).map (·.2) = [v].toArray := by
    rw [show arrOf (SortSt.mk' general' ([v].toArray.zip [v].toArray) #[] 7 none) = [v].toArray.zip [v].toArray from rfl]; simp
  rw [eo]
  refine wpAny_bind (seqEpoch_at ho3 rfl ?_)
  refine wpAny_bind (listUpdate_at ho3 rfl ?_ (Nat.zero_le _) (by rw [sizeLine_eq]; exact Nat.le_of_ble_eq_true rfl))
  have ef : failedOf (SortSt.mk' general' ([v].toArray.zip [v].toArray) #[] 7 none) = none := rfl
  try rw [ef]
  simp only [bne_self_eq_false, Bool.false_eq_true, if_false]
  have s2 := Heap.SameBut.update (((s.heap.update D (Obj.mapSeq fun _ => (#[] : Array Value))).push (seqObj "tuple" [v].toArray 0)).push (seqObj "list" #[] 0)) D (Obj.mapSeq fun _ => [v].toArray)
  obtain ⟨c2, hc2⟩ : ∃ c2, ((((s.heap.update D (Obj.mapSeq fun _ => (#[] : Array Value))).push (seqObj "tuple" [v].toArray 0)).push (seqObj "list" #[] 0)).update D (Obj.mapSeq fun _ => [v].toArray)).get? D = some (seqObj "list" [v].toArray c2) := ⟨_, get?_update_seq ho3 fun _ => [v].toArray⟩
  refine wpAny_pure (h c2 _ (kas_fr F3 s2 z.2.1 z.2.2) fun p hp => ?_)
  rcases List.mem_cons.mp hp with rfl | hp
  · exact ⟨hc2, z.2⟩
  · exact kas_news N3 s2 hoff _ hp
/-- sorted of a list of one item -/
theorem sorted_one {prog : Program} {A : Around} {l : Addr} {v : Value} {Q : Value → Shared → Prop} (F : Fr h₀ L s.heap m) (N : News h₀ L s.heap news) (hl : s.heap.IsList l [v].toArray)
    (h : ∀ D c h', Fr h₀ L h' m → News h₀ L h' ((D, listOf [v].toArray c) :: news) → (∀ q ∈ news, q.1 < D) → Q (.ref D) { s with heap := h' }) :
    wpAny (model prog w) A (call (.builtin "sorted") [.ref l]) Q E s := by
  refine Calls.call_function_entry kind_sorted plain_sorted entry_sorted (args_sorted1 _) ?_
  unfold Builtin.«sorted»
  refine wpAny_bind (m := checkCount "sorted" 1 1 _) (wpAny_pure ?_)
  refine wpAny_bind (collect_list hl ?_ (by rw [sizeLine_eq]; exact Nat.le_of_ble_eq_true rfl))
  refine wpAny_bind (wpAny_newList ?_ (by rw [sizeLine_eq]; exact Nat.le_of_ble_eq_true rfl))
  have up : ∀ b o, s.heap.get? b = some o → ((s.heap.push (seqObj "list" #[] 0)).update s.heap.objs.size (Obj.mapSeq (· ++ [v].toArray))).get? b = some o := fun b o q => by
    have hlt : b < s.heap.objs.size := Heap.lt_size q
    rw [Heap.get?_update_ne _ _ _ _ (Nat.ne_of_lt hlt), Heap.get?_push_ne _ _ _ (Nat.ne_of_lt hlt)]
    exact q
  have FH := F.kept up
  have NH := N.grown up
  have N1 := NH.push FH (seqObj "list" [v].toArray 0)
  have F1 := FH.push (seqObj "list" [v].toArray 0)
  have hlt : ∀ q ∈ news, q.1 < ((s.heap.push (seqObj "list" #[] 0)).update s.heap.objs.size (Obj.mapSeq (· ++ [v].toArray))).objs.size := fun q hq => Heap.lt_size (NH q hq).1
  have z := N1 _ (.head _)
  refine wpAny_bind (wpAny_holding (wpAny_call_entry PyProof.Rows.slot_list_sort ⟨_, z.1, rfl⟩ PyProof.Rows.entry_list_sort ?body (PyProof.Rows.args_list_sort _)))
  case body =>
    refine sort_one (s := { s with heap := ((s.heap.push (seqObj "list" #[] 0)).update s.heap.objs.size (Obj.mapSeq (· ++ [v].toArray))).push (seqObj "list" [v].toArray 0) }) F1 N1 (fun p hp => Nat.ne_of_lt (hlt p hp)) fun c h' F' N' => ?_
    exact ⟨_, rfl, wpAny_pure ⟨_, rfl, h _ c h' F' N' hlt⟩⟩
theorem Ok.lt {S : List Rw} (h : Ok S) : ∀ {i j : Nat} {x y : Rw}, S[i]? = some x → S[j]? = some y → i ≠ j → x.lo ≠ y.lo ∧ decide (x.lo < y.lo) = decide (i < j) := by
  have lt : ∀ {i j : Nat} {x y : Rw}, S[i]? = some x → S[j]? = some y → i < j → x.lo < y.lo := by
    intro i j x y hx hy hij
    obtain ⟨hi, rfl⟩ := List.getElem?_eq_some_iff.mp hx
    obtain ⟨hj, rfl⟩ := List.getElem?_eq_some_iff.mp hy
    have := List.pairwise_iff_getElem.mp h.2 i j hi hj hij
    have := h.1 _ (List.getElem_mem hi)
    omega
  intro i j x y hx hy hij
  rcases Nat.lt_or_gt_of_ne hij with q | q
  · have := lt hx hy q
    exact ⟨by omega, by rw [decide_eq_true this, decide_eq_true q]⟩
  · have := lt hy hx q
    exact ⟨by omega, by rw [decide_eq_false (by omega), decide_eq_false (by omega)]⟩
theorem pos_ins {α : Type} (ys : List α) (q : α) (p i : Nat) (hp : p ≤ ys.length) (hi : i < ys.length + 1) : (ys.take p ++ q :: ys.drop p)[posK (ys.length + 1) p i]? = (ys ++ [q])[i]? := by
  have hl : (ys.take p).length = p := by rw [List.length_take]; omega
  unfold posK
  by_cases h1 : i + 1 = ys.length + 1
  · rw [if_pos h1, List.getElem?_append_right (by omega), hl, Nat.sub_self, List.getElem?_append_right (by omega), show i - ys.length = 0 by omega]
    rfl
  · rw [if_neg h1]
    by_cases h2 : i < p
    · rw [if_pos h2, List.getElem?_append_left (by omega), List.getElem?_append_left (by omega), List.getElem?_take_of_lt h2]
    · rw [if_neg h2, List.getElem?_append_right (by omega), hl, show i + 1 - p = (i - p) + 1 by omega, List.getElem?_cons_succ, List.getElem?_drop, List.getElem?_append_left (by omega), show p + (i - p) = i by omega]
theorem posK_ne {n p i j : Nat} (hp : p < n) (hi : i < n) (hj : j < n) (h : i ≠ j) : posK n p i ≠ posK n p j := by
  unfold posK
  by_cases a : i + 1 = n <;> by_cases b : j + 1 = n <;> by_cases c : i < p <;> by_cases d : j < p <;> simp only [a, b, c, d, if_true, if_false] <;> omega
theorem out_ids (ys : List Value) (q : Value) (p : Nat) (hp : p ≤ ys.length) : ((idsp (ys.length + 1) p).toArray.toList.map fun i => (ys ++ [q]).getD i Value.none) = ys.take p ++ q :: ys.drop p := by
  unfold idsp
  rw [List.map_append, List.map_cons]
  congr 1
  · refine List.ext_getElem (by simp; omega) fun i h1 h2 => ?_
    have : i < ys.length := by simp at h2; omega
    simp [List.getElem?_append_left this, this]
  congr 1
  · simp
  · refine List.ext_getElem (by simp) fun i h1 h2 => ?_
    have : p + i < ys.length := by simp at h2; omega
    simp [List.getElem?_append_left this, this]
/-- sorted of rows in order with one more behind them, that meets none -/
theorem sorted_rows {prog : Program} {A : Around} {l : Addr} {ys : List Value} {qv : Value} {R : List Rw} {r : Rw} {Q : Value → Shared → Prop} (F : Fr h₀ L s.heap m) (N : News h₀ L s.heap news) (hl : s.heap.IsList l (ys ++ [qv]).toArray) (ha : All2 (RowIn news) ys R) (hq : RowIn news qv r)
    (hO : Ok R) (hr : r.lo ≤ r.hi) (hn : ∀ x ∈ R, near x.lo x.hi r.lo r.hi = false) (h8 : R.length < 9) (hu : A.units + 80 < cLine)
    (h : ∀ D c h' zs, All2 (RowIn news) zs (ins R r) → Fr h₀ L h' m → News h₀ L h' ((D, listOf zs.toArray c) :: news) → (∀ q ∈ news, q.1 < D) → Q (.ref D) { s with heap := h' }) :
    wpAny (model prog w) A (call (.builtin "sorted") [.ref l]) Q E s := by
  have hlen := ha.length
  have hple := pIn_le R r.lo
  have hS := hO.ins hr hn
  have hAll : All2 (RowIn news) (ys.take (pIn R r.lo) ++ qv :: ys.drop (pIn R r.lo)) (ins R r) := ha.insert hq _
  by_cases h0 : R = []
  · subst h0
    have : ys = [] := List.eq_nil_of_length_eq_zero hlen
    subst this
    exact sorted_one F N hl fun D c h' F' N' l1 => h D c h' _ hAll F' N' l1
  have hR0 : 0 < R.length := List.length_pos_iff.mpr h0
  have hvl : (ys ++ [qv]).length = ys.length + 1 := by simp
  refine kat_sorted F N hl (by omega) (by omega) fun D e1 h' F' N' l1 => ?_
  have N2 : News h₀ L h' news := fun p hp => N' p (.tail _ hp)
  obtain ⟨fs, t1, t2, t3⟩ := row_first N2 (ha.push hq)
  refine kat_kind (T := .type "tuple") t1 (by omega) (fun v hv => ?_) (by decide) ?_
  · obtain ⟨b, c, n, rfl, hb⟩ := t3 v hv
    exact (Looks.ld (N2 _ hb).1).andThen .now
  rw [show (Value.type "tuple" != Value.type "tuple") = false by decide, hvl]
  refine runK_wp (lt := ltp (ys.length + 1) (pIn R r.lo)) (ok := okp (ys.length + 1)) (a := (idsp (ys.length + 1) (pIn R r.lo)).toArray) (fun i j C hok hC => ?_) ?_ _ (sort_run _ (by omega) _ (by omega) (by omega))
  · unfold okp at hok
    simp only [Bool.and_eq_true, decide_eq_true_eq, bne_iff_ne] at hok
    obtain ⟨⟨hi, hj⟩, hij⟩ := hok
    have hap := ha.push hq
    obtain ⟨vi, xi, e1, e2, e3⟩ := hap.get (i := i) (by simp; omega)
    obtain ⟨vj, xj, f1, f2, f3⟩ := hap.get (i := j) (by simp; omega)
    have gi : (ys ++ [qv]).getD i Value.none = vi := by simp [List.getD, e1]
    have gj : (ys ++ [qv]).getD j Value.none = vj := by simp [List.getD, f1]
    have pi := pos_ins R r (pIn R r.lo) i hple (by omega)
    have pj := pos_ins R r (pIn R r.lo) j hple (by omega)
    rw [← hlen, e2] at pi
    rw [← hlen, f2] at pj
    have lt := hS.lt pi pj (posK_ne (by omega) hi hj hij)
    unfold kas_ask
    rw [gi, gj]
    refine row_lt N2 e3 f3 lt.1 (by simp only [units_in1]; omega) ?_
    rw [lt.2]; exact hC
  · rw [out_ids ys qv _ (by omega)]
    refine KasFin.intro F' N' (.head (fun p hp => Nat.ne_of_lt (l1 p hp))) fun h2 c F2 N3 => ?_
    exact h D c h2 _ hAll F2 N3 l1

theorem clr_21s : True := by
  w_top off
  k_with_none
  trivial
local macro_rules | `(tactic| walk_at "call ref") => `(tactic| (k_here; (with_reducible show wpAny _ _ (call (Value.ref 213) [_, Value.int _ _]) _ _ _); k_dflt (refine' lives_c ?B ?F ?X ?N ?T ?k ?d ?u ?e ?_; walk_at "kcs9"; (case e => first | with_reducible assumption | (refine' RowIn.sub ?hq ?hs; (case hq => with_reducible assumption); (case hs => walk_at "dsub9"))); walk_at "krm9"); walk_at "fin9"))
local macro_rules | `(tactic| walk_at "call ref") => `(tactic| (k_here; (with_reducible show wpAny _ _ (call (Value.ref 220) [Value.ref _, Value.ref _]) _ _ _); k_dflt (refine' near_c ?B ?F ?X ?N ?T ?k ?d ?u ?e1 ?e2 ?_; walk_at "kcs9"; (case e1 => exact ⟨_, _, _, _, _, _, rfl, by k_mem, by k_mem⟩); (case e2 => exact ⟨_, _, _, _, _, _, rfl, by k_mem, by k_mem⟩); walk_at "krm9"); walk_at "fin9"))
local macro_rules | `(tactic| walk_at "CompSrcT") => `(tactic| (k_here; k_dflt (refine LCt.CompSrcT.ledger (by rfl) (by k_asm) (by k_asm) (by k_mem) (by first | size_fits | (rw [List.size_toArray]; exact small_size (by omega))) ?_); intro g9))
local macro_rules | `(tactic| walk_at "call builtin:sorted") => `(tactic| (k_here; (with_reducible show wpAny _ _ (call (Value.builtin "sorted") [Value.ref _]) _ _ _); k_extra "srt"))
local macro_rules | `(tactic| walk_at "compareOp In") => `(tactic| (k_here; (with_reducible show wpAny _ _ (compareOp CmpOp.In _ (Value.ref _)) _ _ _); k_extra "isin"))
local macro_rules | `(tactic| walk_at "eval Call") => `(tactic| (k_here; k_dflt (refine Call_ ?_)))
theorem lpA {b L9 N9 : Bool} (h : b = L9) (e : b = true) : (L9 || !N9) = true := by rw [← h, e]; rfl
theorem lpB {b b' L9 N9 : Bool} (h : b = L9) (e : b = false) (h' : b' = N9) (e' : b' = false) : (L9 || !N9) = true := by rw [← h, ← h', e, e']; rfl
theorem lpC {b b' L9 N9 : Bool} (h : b = L9) (e : b = false) (h' : b' = N9) (e' : b' = true) : (L9 || !N9) = false := by rw [← h, ← h', e, e']; rfl
theorem boxes_dat1 {n2 : List (Addr × Obj)} {zs : List Value} {S : List Rw} (h : All2 (fun y x => BoxIn n2 y x.lo x.hi) zs S) : DatAll n2 zs (S.map fun x => boxD x.lo x.hi) := by
  induction h with
  | nil => exact .nil
  | cons h _ ih => exact .cons h.dat ih
theorem boxes_ok8 (S : List Rw) : kqdOk 8 (.list (S.map fun x => boxD x.lo x.hi)) = true := list_ok (by intro d hd; obtain ⟨x, _, rfl⟩ := List.mem_map.mp hd; rfl)
theorem boxes_okA {S : List Rw} {d : Dat} (hd : d ∈ S.map fun x => boxD x.lo x.hi) : kqdOk 8 d = true := by
  obtain ⟨x, _, rfl⟩ := List.mem_map.mp hd; rfl
theorem boxes_dat {n1 n2 : List (Addr × Obj)} {g h : Heap} {L' D : Addr} {zs : List Value} {S : List Rw} (N : News g L' h ((D, LCg.lst zs) :: n1)) (hA : All2 (fun y x => BoxIn n2 y x.lo x.hi) zs S) (hs : ∀ p ∈ n2, p ∈ n1) : DatIn ((D, LCg.lst zs) :: n1) (.ref D) (.list (S.map fun x => boxD x.lo x.hi)) :=
  .list (.head _) (boxes_dat1 (hA.mono fun _ _ q => q.sub fun p hp => .tail _ (hs p hp)))
/-- what the law tells of a step -/
noncomputable def toldD (o : Option Rw) (c y : Str) : Dat := .tuple [match o with | none => .none | some r => rowD r, .str c, .str y]
noncomputable def dueD (R : List Rw) (r : Rw) (now : Int) : Dat := match (putS R r now).2 with
  | none => toldD none (Str.ofString "") (Str.ofString "")
  | some (c, y) => toldD none c y
theorem due_none {R : List Rw} {r : Rw} {now : Int} (hO : Ok R) (hr : r.lo ≤ r.hi) (h : lawNear R r now = []) : (putS R r now).1 = ins (lawLeft R r now) r ∧ dueD R r now = toldD none (Str.ofString "") (Str.ofString "") := by
  have z := (put_law hO now hr).1 h
  unfold dueD
  rw [z]; exact ⟨rfl, rfl⟩
theorem due_some {R : List Rw} {r : Rw} {now : Int} (hO : Ok R) (hr : r.lo ≤ r.hi) (h : lawNear R r now ≠ []) : (putS R r now).1 = lawLeft R r now ∧ dueD R r now = if (lawNear R r now).any (fun x => decide (x.lo = r.lo ∧ x.hi = r.hi)) = true then toldD none (Str.ofString "EEXIST") (Str.ofString "File exists") else toldD none (Str.ofString "ENOTEMPTY") (Str.ofString "Directory not empty") := by
  have z := (put_law hO now hr).2 h
  unfold dueD
  rw [z]
  refine ⟨rfl, ?_⟩
  by_cases q : (lawNear R r now).any (fun x => decide (x.lo = r.lo ∧ x.hi = r.hi)) = true
  · rw [if_pos q, if_pos q]
  · rw [if_neg q, if_neg q]
theorem nearA {S : List Rw} {b : Bool} (h : b = true ↔ (S.map fun x => boxD x.lo x.hi) = []) (e : b = true) : S = [] := by
  have := h.mp e
  simpa using this
theorem nearB {S : List Rw} {b : Bool} (h : b = true ↔ (S.map fun x => boxD x.lo x.hi) = []) (e : b = false) : S ≠ [] := by
  rintro rfl
  rw [h.mpr rfl] at e; cases e
theorem box_in (S : List Rw) (lo hi : Int) (inst : Decidable (boxD lo hi ∈ S.map fun x : Rw => boxD x.lo x.hi)) : @decide _ inst = S.any fun x => decide (x.lo = lo ∧ x.hi = hi) := by
  have e : (boxD lo hi ∈ S.map fun x : Rw => boxD x.lo x.hi) ↔ (S.any fun x => decide (x.lo = lo ∧ x.hi = hi)) = true := by
    rw [List.any_eq_true, List.mem_map]
    constructor
    · rintro ⟨x, hx, h⟩
      refine ⟨x, hx, decide_eq_true ?_⟩
      simpa [boxD] using h
    · rintro ⟨x, hx, h⟩
      obtain ⟨h1, h2⟩ := of_decide_eq_true h
      exact ⟨x, hx, by rw [h1, h2]⟩
  by_cases q : (S.any fun x => decide (x.lo = lo ∧ x.hi = hi)) = true
  · rw [q]; exact decide_eq_true (e.mpr q)
  · rw [Bool.eq_false_iff.mpr q]; exact decide_eq_false fun z => q (e.mp z)
theorem off_mem {D : Addr} : ∀ {l : List (Addr × Obj)}, LCg.Off1 D l → ∀ p ∈ l, p.1 ≠ D
  | [], _, _, h => nomatch h
  | _ :: _, x, p, h => by
    rcases List.mem_cons.mp h with rfl | h
    · exact x.1
    · exact off_mem x.2 p h
theorem law_put_c {rl q : Addr} {vs : List Value} {R : List Rw} {nn : Nat} {r : Rw} {now : Int} {t : Tok} (B : Below A₀ base outer h₀) (F : Fr h₀ L s.heap m) (X : (hd.heap_39 w.params).In h₀) (N : News h₀ L s.heap news) (T : Top hd.view_39 (looseW hd.view_39 []) mean mg mb h₀) (hk : cs.kind = .function)
    (hd : dp + 6 < recursionLimit) (hu : un + 300 < cLine) (hm : (rl, listOf vs.toArray nn) ∈ news) (he : All2 (RowIn news) vs R) (h8 : R.length < 9) (hr : RowIn news (.ref q) r) (hO : Ok R) (hrr : r.lo ≤ r.hi)
    (ret : ∀ h' tk' news' qq kq D T zs c, (∀ p ∈ news, p ∈ news') → Fr h₀ L h' m → News h₀ L h' news' → (qq, tupO [.ref D, .ref T] kq) ∈ news' → (D, listOf zs.toArray c) ∈ news' → (∀ p ∈ news, p.1 ≠ D) → All2 (RowIn news') zs (putS R r now).1 → DatIn news' (.ref T) (dueD R r now) → Q (.ref qq) { s with heap := h', toks := tk' }) :
    wpAny (model PySem.Challenge.rw_pf0336_01.row.prog w) (ktrTop dp un gd cn cs L a ccd cl outer) (call (.ref 225) [.ref rl, .ref q, .int now t]) Q E s := by
  revert X; k_fill; intro X
  have hvl := he.length
  have hr0 := hr
  obtain ⟨q0, b0, c0, d0, k0, k1, k2, k3, tlo0, thi0, tk0, tu0, eq0, g0, g1, g2, g3⟩ := hr
  cases eq0
  refine wpAny_call ?_
  k_dflt (refine' code_defC ?k1 ?k2 ?k3 ?k4 ?k5 ?kA ?kF ?kK ?k6 ?k7 ?k8 ?k9 ?kB ?kD ?_ ?c2 ?c3 ?c4; (case kA => exact rfl); (case kF => exact rfl); (case kK => first | exact rfl | assumption); (case k1 => k_asm); (case k2 => k_asm); (case k3 => k_asm); (case k4 => k_asm); (case k5 => k_asm); (case k6 => k_is); (case k7 => k_is); (case k8 => ktr_room); (case k9 => first | exact BindsTo.of_eq rfl | exact binds_K (by k_in) rfl (by k_is) rfl rfl rfl); (case kB => exact rfl); (case kD => decide +kernel); (case c2 => exact rfl); (case c3 => exact rfl); (case c4 => exact rfl); k_whole; intro g' L' h' tk' cells' FG' F' N' Y' B' X' T' l1; (try k_lt l1); k_cells Y'; (try simp only [List.cons_append, List.nil_append] at N'); (try dsimp only); (try k_fold))
  k_steps
  refine' restT_rows (R' := RowIn news) (Out := RowIn news) (test := fun x => live x now || !near x.lo x.hi r.lo r.hi) he ?trn ?fin
  case trn =>
    intro v r9 I oI C oC D m₂ h tk E' ys hR hC hx F N off ne
    have hR9 := hR
    obtain ⟨q, b, c, d, j0, j1, j2, j3, tlo, thi, tk, tu, rfl, i0, i1, i2, i3⟩ := hR
    k_steps
    all_goals (refine' LCg.CompEnd.intro (by k_asm) (by with_reducible assumption) _ (fun p hp => hp) off (by lcg_src) ?_)
    all_goals first
      | exact ⟨rfl, lpA (by with_reducible assumption) (by with_reducible assumption), hR9⟩
      | exact ⟨rfl, lpB (by with_reducible assumption) (by with_reducible assumption) (by with_reducible assumption) (by with_reducible assumption), hR9⟩
      | exact ⟨rfl, lpC (by with_reducible assumption) (by with_reducible assumption) (by with_reducible assumption) (by with_reducible assumption)⟩
  case fin =>
    intro ys9 hA9
    have hl9 : ys9.length < 40 := by rw [hA9.length]; exact Nat.lt_of_le_of_lt (List.length_filter_le _ _) (by omega)
    intro D9 h9 tk9 F9 N9 o9
    k_steps
    refine' restT_rows (R' := RowIn news) (Out := fun y x => BoxIn news y x.lo x.hi) (test := fun x => near x.lo x.hi r.lo r.hi) hA9 ?trn ?fin
    case trn =>
      intro v r9 I oI C oC D m₂ h tk E' ys hR hC hx F N off ne
      have hR9 := hR
      obtain ⟨q, b, c, d, j0, j1, j2, j3, tlo, thi, tk, tu, rfl, i0, i1, i2, i3⟩ := hR
      k_steps
      all_goals (refine' LCg.CompEnd.intro (by k_asm) (by with_reducible assumption) _ (fun p hp => hp) off (by lcg_src) ?_)
      all_goals first
        | exact ⟨rfl, Eq.trans (Eq.symm (by with_reducible assumption)) (by with_reducible assumption), ⟨_, _, _, _, _, _, rfl, i1, i2⟩⟩
        | exact ⟨rfl, Eq.trans (Eq.symm (by with_reducible assumption)) (by with_reducible assumption)⟩
    case fin =>
      intro zs9 hZ9
      have hz9 : zs9.length < 40 := by rw [hZ9.length]; exact Nat.lt_of_le_of_lt (List.length_filter_le _ _) (Nat.lt_of_le_of_lt (List.length_filter_le _ _) (by omega))
      intro D8 h8' tk8 F8 N8 o8
      have hD8 := boxes_dat N8 hZ9 (by walk_at "dsub9")
      have hk8 := boxes_ok8 (((R.filter fun x => live x now || !near x.lo x.hi r.lo r.hi)).filter fun x => near x.lo x.hi r.lo r.hi)
      k_steps
      · k_dflt (refine' sorted_rows (R := lawLeft R r now) (r := r) ?F ?N ?hl ?ha ?hq ?hO ?hr ?hn ?h8 ?hu ?_; (case F => k_asm); (case N => with_reducible assumption); (case hl => exact ⟨_, (News.get (by k_asm) (.head _)), rfl, _, rfl⟩); (case ha => exact hA9.mono fun _ _ x => x.sub (by walk_at "dsub9")); (case hq => exact hr0.sub (by walk_at "dsub9")); (case hO => exact hO.left r now); (case hr => exact hrr); (case hn => exact near_nil (nearA (by assumption) (by assumption))); (case h8 => exact Nat.lt_of_le_of_lt (left_len R r now) h8); (case hu => ktr_units)); intro D7 c7 h' zs7 hA7 F' N' l1
        have hoffD : ∀ p ∈ news, p.1 ≠ D7 := fun p hp => Nat.ne_of_lt (l1 p (by repeat (first | exact hp | refine List.mem_cons_of_mem _ ?_)))
        have hdue := due_none hO hrr (nearA (S := lawNear R r now) (by assumption) (by assumption))
        k_steps
        refine ret _ _ _ _ _ _ _ zs7 c7 ?sub (by k_asm) (by with_reducible assumption) (.head _) ?mD hoffD ?all ?dat
        case sub => walk_at "dsub9"
        case mD => exact .tail _ (.tail _ (.head _))
        case all => rw [hdue.1]; exact hA7.mono fun _ _ x => x.sub (by walk_at "dsub9")
        case dat => rw [hdue.2]; exact .tuple (.tail _ (.head _)) (.cons .none (.cons (.str _ _) (.cons (.str _ _) .nil)))
      · k_dflt (refine' kqd_isIn ?N ?a ?b ?c ?d ?e ?x ?sx ?l ?m ?n ?_; (case N => k_asm); (case a => exact (show (D8, LCg.lst zs9) ∈ _ by k_mem)); (case b => rfl); (case c => rfl); (case d => exact boxes_dat1 hZ9); (case e => walk_at "dsub9"); (case x => exact BoxIn.dat (n1 := news) ⟨_, _, _, _, _, _, rfl, g1, g2⟩); (case sx => walk_at "dsub9"); (case l => exact fun d hd => boxes_okA hd); (case m => rfl); (case n => ktr_units)); rw [box_in _ _ _ _]
        have hoffD : ∀ p ∈ news, p.1 ≠ D9 := fun p hp => off_mem o9 p (.tail _ (.tail _ hp))
        have hdue := due_some hO hrr (nearB (S := lawNear R r now) (by assumption) (by assumption))
        generalize hany : (List.any _ _) = ba9
        k_steps
        · have hany2 : (lawNear R r now).any (fun x => decide (x.lo = r.lo ∧ x.hi = r.hi)) = true := hany.trans (by assumption)
          refine ret _ _ _ _ _ _ _ ys9 ys9.length ?sub1 (by k_asm) (by with_reducible assumption) (.head _) (.tail _ (.tail _ (.tail _ (.tail _ (.head _))))) hoffD ?all1 ?dat1
          case sub1 => walk_at "dsub9"
          case all1 => rw [hdue.1]; exact hA9.mono fun _ _ x => x.sub (by walk_at "dsub9")
          rw [hdue.2, if_pos hany2]; exact .tuple (.tail _ (.head _)) (.cons .none (.cons (.str _ _) (.cons (.str _ _) .nil)))
        · have hany2 : (lawNear R r now).any (fun x => decide (x.lo = r.lo ∧ x.hi = r.hi)) = false := hany.trans (by assumption)
          refine ret _ _ _ _ _ _ _ ys9 ys9.length ?sub2 (by k_asm) (by with_reducible assumption) (.head _) (.tail _ (.tail _ (.tail _ (.tail _ (.head _))))) hoffD ?all2 ?dat2
          case sub2 => walk_at "dsub9"
          case all2 => rw [hdue.1]; exact hA9.mono fun _ _ x => x.sub (by walk_at "dsub9")
          rw [hdue.2, if_neg (by rw [hany2]; exact Bool.false_ne_true)]; exact .tuple (.tail _ (.head _)) (.cons .none (.cons (.str _ _) (.cons (.str _ _) .nil)))

theorem clr_22 : True := by
  w_top off
  k_with_none
  trivial
noncomputable def dropD (R : List Rw) (lo hi : Int) : Dat := match R.filter (fun x => decide (x.lo = lo ∧ x.hi = hi)) with
  | [] => toldD none (Str.ofString "ENOENT") (Str.ofString "No such file or directory")
  | x :: _ => toldD (some x) (Str.ofString "") (Str.ofString "")
theorem pos_of2 {b : Bool} {R : List Rw} (h : b = true ↔ R.map rowD = []) (hq : b = false) : (0 : Int) < R.length := by
  cases R with
  | nil => rw [h.mpr rfl] at hq; cases hq
  | cons => simp only [List.length_cons]; omega
theorem nil_of2 {b : Bool} {R : List Rw} (h : b = true ↔ R.map rowD = []) (hq : b = true) : R = [] := by
  simpa using h.mp hq
local macro_rules | `(tactic| walk_at "subscriptTail Name Constant ref int") => `(tactic| (k_here; walk_at "ssub9"; k_dflt (refine' item_row ?N ?m ?e ?a ?b ?c ?_; (case N => k_asm); (case m => k_mem); (case e => with_reducible assumption); (case a => first | decide | omega); (case b => exact pos_of2 (by assumption) (by assumption)); (case c => first | assumption | omega)); intro v9 r9 hv9 hr9 hR9; (try k_sweep)))
theorem box_test (R : List Rw) (lo hi : Int) : (R.filter fun x => x.lo == lo && x.hi == hi) = R.filter fun x => decide (x.lo = lo ∧ x.hi = hi) := filter_as fun x _ => by
  rw [Bool.decide_and]; rfl
theorem rows_datN {n1 n2 : List (Addr × Obj)} {g h : Heap} {L' D : Addr} {zs : List Value} {S : List Rw} (N : News g L' h ((D, LCg.lst zs) :: n1)) (hA : All2 (RowIn n2) zs S) (hs : ∀ p ∈ n2, p ∈ n1) : DatIn ((D, LCg.lst zs) :: n1) (.ref D) (.list (S.map rowD)) :=
  .list (.head _) (rows_dat (hA.mono fun _ _ q => q.sub fun p hp => .tail _ (hs p hp)))
theorem drop_none {R : List Rw} {lo hi : Int} (h : (R.filter fun x => decide (x.lo = lo ∧ x.hi = hi)) = []) : (R.filter fun x => !decide (x.lo = lo ∧ x.hi = hi)) = R ∧ dropD R lo hi = toldD none (Str.ofString "ENOENT") (Str.ofString "No such file or directory") := by
  constructor
  · refine filter_all fun x hx => ?_
    have := List.filter_eq_nil_iff.mp h x hx
    cases e : decide (x.lo = lo ∧ x.hi = hi)
    · rfl
    · exact absurd e this
  · unfold dropD; rw [h]
theorem drop_some {R : List Rw} {lo hi : Int} {r : Rw} (h : (R.filter fun x => decide (x.lo = lo ∧ x.hi = hi))[Int.toNat 0]? = some r) : dropD R lo hi = toldD (some r) (Str.ofString "") (Str.ofString "") := by
  unfold dropD
  cases e : R.filter fun x => decide (x.lo = lo ∧ x.hi = hi) with
  | nil => rw [e] at h; simp at h
  | cons x t => rw [e] at h; simp at h; rw [h]
theorem notT {b : Bool} (h : b = true) : (!b) = false := by rw [h]; rfl
theorem notF {b : Bool} (h : b = false) : (!b) = true := by rw [h]; rfl
theorem law_drop_c {rl b : Addr} {vs : List Value} {R : List Rw} {nn : Nat} {lo hi : Int} (B : Below A₀ base outer h₀) (F : Fr h₀ L s.heap m) (X : (hd.heap_39 w.params).In h₀) (N : News h₀ L s.heap news) (T : Top hd.view_39 (looseW hd.view_39 []) mean mg mb h₀) (hk : cs.kind = .function)
    (hd : dp + 6 < recursionLimit) (hu : un + 300 < cLine) (hm : (rl, listOf vs.toArray nn) ∈ news) (he : All2 (RowIn news) vs R) (h8 : R.length < 40) (hb : BoxIn news (.ref b) lo hi)
    (ret : ∀ h' tk' news' qq kq D T zs c, (∀ p ∈ news, p ∈ news') → Fr h₀ L h' m → News h₀ L h' news' → (qq, tupO [.ref D, .ref T] kq) ∈ news' → (D, listOf zs.toArray c) ∈ news' → (D = rl ∨ ∀ p ∈ news, p.1 ≠ D) → All2 (RowIn news') zs (R.filter fun x => !decide (x.lo = lo ∧ x.hi = hi)) → DatIn news' (.ref T) (dropD R lo hi) → Q (.ref qq) { s with heap := h', toks := tk' }) :
    wpAny (model PySem.Challenge.rw_pf0336_01.row.prog w) (ktrTop dp un gd cn cs L a ccd cl outer) (call (.ref 230) [.ref rl, .ref b]) Q E s := by
  revert X; k_fill; intro X
  have hvl := he.length
  have hb0 := hb
  obtain ⟨b0, c0, k0, k1, tlo0, thi0, eq0, g1, g2⟩ := hb
  cases eq0
  refine wpAny_call ?_
  k_dflt (refine' code_defC ?k1 ?k2 ?k3 ?k4 ?k5 ?kA ?kF ?kK ?k6 ?k7 ?k8 ?k9 ?kB ?kD ?_ ?c2 ?c3 ?c4; (case kA => exact rfl); (case kF => exact rfl); (case kK => first | exact rfl | assumption); (case k1 => k_asm); (case k2 => k_asm); (case k3 => k_asm); (case k4 => k_asm); (case k5 => k_asm); (case k6 => k_is); (case k7 => k_is); (case k8 => ktr_room); (case k9 => first | exact BindsTo.of_eq rfl | exact binds_K (by k_in) rfl (by k_is) rfl rfl rfl); (case kB => exact rfl); (case kD => decide +kernel); (case c2 => exact rfl); (case c3 => exact rfl); (case c4 => exact rfl); k_whole; intro g' L' h' tk' cells' FG' F' N' Y' B' X' T' l1; (try k_lt l1); k_cells Y'; (try simp only [List.cons_append, List.nil_append] at N'); (try dsimp only); (try k_fold))
  k_steps
  refine' restT_rows (R' := RowIn news) (Out := RowIn news) (test := fun x => x.lo == lo && x.hi == hi) he ?trn ?fin
  case trn =>
    intro v r9 I oI C oC D m₂ h tk E' ys hR hC hx F N off ne
    have hR9 := hR
    obtain ⟨q, b, c, d, j0, j1, j2, j3, tlo, thi, tk, tu, rfl, i0, i1, i2, i3⟩ := hR
    k_steps
    all_goals (refine' LCg.CompEnd.intro (by k_asm) (by with_reducible assumption) _ (fun p hp => hp) off (by lcg_src) ?_)
    all_goals first
      | exact ⟨rfl, by with_reducible assumption, hR9⟩
      | exact ⟨rfl, by with_reducible assumption⟩
  case fin =>
    intro ys9 hA9
    rw [box_test] at hA9
    have hl9 : ys9.length < 40 := by rw [hA9.length]; exact Nat.lt_of_le_of_lt (List.length_filter_le _ _) (by omega)
    have hl9b : (R.filter fun x => decide (x.lo = lo ∧ x.hi = hi)).length < 64 := by have := hA9.length; omega
    intro D9 h9 tk9 F9 N9 o9
    have hD9 := rows_datN N9 hA9 (by walk_at "dsub9")
    k_steps
    · have hnil := nil_of2 (R := R.filter fun x => decide (x.lo = lo ∧ x.hi = hi)) (by assumption) (by assumption)
      refine ret _ _ _ _ _ _ _ vs nn ?sub1 (by k_asm) (by with_reducible assumption) (.head _) ?mD1 (.inl rfl) ?all1 ?dat1
      case sub1 => walk_at "dsub9"
      case mD1 => exact .tail _ (.tail _ (.tail _ (.tail _ (.tail _ hm))))
      case all1 => rw [(drop_none hnil).1]; exact he.mono fun _ _ x => x.sub (by walk_at "dsub9")
      case dat1 => rw [(drop_none hnil).2]; exact .tuple (.tail _ (.head _)) (.cons .none (.cons (.str _ _) (.cons (.str _ _) .nil)))
    refine' restT_rows (R' := RowIn news) (Out := RowIn news) (test := fun x => !(x.lo == lo && x.hi == hi)) he ?trn2 ?fin2
    case trn2 =>
      intro v r9 I oI C oC D m₂ h tk E' ys hR hC hx F N off ne
      have hR9 := hR
      obtain ⟨q, b, c, d, j0, j1, j2, j3, tlo, thi, tk, tu, rfl, i0, i1, i2, i3⟩ := hR
      k_steps
      all_goals (refine' LCg.CompEnd.intro (by k_asm) (by with_reducible assumption) _ (fun p hp => hp) off (by lcg_src) ?_)
      all_goals first
        | exact ⟨rfl, notT (by with_reducible assumption)⟩
        | exact ⟨rfl, notF (by with_reducible assumption), hR9⟩
    case fin2 =>
      intro zs9 hZ9
      have hz9 : zs9.length < 40 := by rw [hZ9.length]; exact Nat.lt_of_le_of_lt (List.length_filter_le _ _) (by omega)
      intro D8 h8' tk8 F8 N8 o8
      have hoffD : ∀ p ∈ news, p.1 ≠ D8 := fun p hp => off_mem o8 p (.tail _ (.tail _ (.tail _ hp)))
      have ht9 : (R.filter fun x => !(x.lo == lo && x.hi == hi)) = R.filter fun x => !decide (x.lo = lo ∧ x.hi = hi) := filter_as fun x _ => by rw [Bool.decide_and]; rfl
      rw [ht9] at hZ9
      k_steps
      have hdue := drop_some (R := R) (lo := lo) (hi := hi) (by assumption)
      have hR8 := RowIn.dat (n1 := news) (by assumption)
      refine ret _ _ _ _ _ _ _ zs9 zs9.length ?sub2 (by k_asm) (by with_reducible assumption) (.head _) ?mD2 (.inr hoffD) ?all2 ?dat2
      case sub2 => walk_at "dsub9"
      case mD2 => exact .tail _ (.tail _ (.head _))
      case all2 => exact hZ9.mono fun _ _ x => x.sub (by walk_at "dsub9")
      case dat2 => rw [hdue]; exact .tuple (.tail _ (.head _)) (.cons (hR8.mono (by walk_at "dsub9")) (.cons (.str _ _) (.cons (.str _ _) .nil)))

theorem clr_23 : True := by
  w_top off
  k_with_none
  trivial
theorem get_exc {prog : Program} {A : Around} {K : Frag} {x C : Addr} {ox : Obj} {od : Option Obj} {name : Str} {expr : Bool} {v : Value} (X : K.In s.heap) (I : InstAt s.heap x ox C od) (hga : findIn K (.ref C) "__getattribute__" = some (some (.builtin "BaseException.__getattribute__"))) (hno : findIn K (.ref C) "__getattr__" = some none) (hB : mroIn K C (.type "BaseException") = some true)
    (hf : findObj K C od name = some (.value v)) (hh : handedIn v = true) (h : Q v { s with toks := s.toks + 1 }) : wpAny (model prog w) A (getAttr (.ref x) name expr) Q E s := by
  obtain ⟨hp, g, d, t, os⟩ := s
  have L0 := I.type (M := model prog w)
  have L1 := looks_findIn (M := model prog w) X hga
  have L2 := looks_findIn (M := model prog w) X hno
  have L3 := looks_find (M := model prog w) X I hf
  have L4 : Looks (model prog w) hp (isInstance (.ref x) (.type "BaseException")) true := L0.andThen (looks_mroIn X hB)
  have hx0 : (expr && onTheHeap (Value.builtin "BaseException.__getattribute__")) = false := by cases expr <;> rfl
  have hx2 : (Value.builtin "BaseException.__getattribute__" == Value.builtin "object.__getattribute__") = false := by decide +kernel
  have hx1 : (onTheHeap (Value.ref C) && Value.builtin "BaseException.__getattribute__" == Value.builtin "object.__getattribute__") = false := by rw [hx2]; rfl
  have hk : builtinKind "BaseException.__getattribute__" = some .slot := by decide +kernel
  have hsplit : splitId "BaseException.__getattribute__" = some ("BaseException", "__getattribute__") := by decide +kernel
  unfold getAttr getAttrBy
  refine wpAny_bind (wpAny_mkText (wpAny_holding (wpAny_bind (L0.at (wpAny_bind (L1.at ?_))))))
  dsimp only
  rw [hx1]
  simp only [Bool.false_eq_true, if_false]
  unfold getAttrByItsOwn hookBefore
  rw [if_pos (show onTheHeap (Value.ref C) = true from rfl)]
  refine wpAny_bind (L2.at ?_)
  have f3 := PySem.F.excAttr_ValueError.ga.bind (.ref x)
  have ha := PySem.F.args_bexc_ga (.ref x) (.str name t)
  repeat (any_goals (first | assumption | wp_step))
  refine codeAny_call_builtin PySem.F.excAttr_ValueError.ga.plain PySem.F.entry_bexc_ga (@check_slot (model prog w) _ _ _ "BaseException.__getattribute__" "BaseException" "__getattribute__" (.ref x) [.str name t] [] _ hk hsplit L4 ha ?_)
  refine wpAny_bind (wpAny_pure (wpAny_bind (wpAny_pure (wpAny_bind (L0.at (wpAny_bind (L3.at ?_)))))))
  refine wpAny_pure ?_
  show wpAny _ _ (handedOut v) _ _ _
  rw [handedOut_of hh]; exact wpAny_pure h
theorem get_fault {prog : Program} {A : Around} {K : Frag} {x C dx : Addr} {ox : Obj} {vs : Array Value} {es : List DictEntry} {n : Nat} {name : Str} {expr : Bool} {v : Value} {attr : Option Value} (F : Fr h₀ L s.heap m) (X : K.In h₀) (N : News h₀ L s.heap news) (h1 : (x, ox) ∈ news) (hc : ox.cls = .ref C) (hd : ox.dict = some dx) (hf : ox.data = .fields vs) (h2 : (dx, dictOf es n) ∈ news)
    (hga : findIn K (.ref C) "__getattribute__" = some (some (.builtin "BaseException.__getattribute__"))) (hno : findIn K (.ref C) "__getattr__" = some none) (hB : mroIn K C (.type "BaseException") = some true) (hdc : hasDictIn K C = true) (ha : findIn K (.ref C) name = some attr) (hn : noGet K attr = true) (hl : getL name es = some (some v))
    (hh : handedIn v = true) (h : Q v { s with toks := s.toks + 1 }) : wpAny (model prog w) A (getAttr (.ref x) name expr) Q E s := by
  have I : InstAt s.heap x ox C (some (dictOf es n)) := ⟨(N _ h1).1, hc, by
    obtain ⟨c, d, y, sl⟩ := ox
    cases hf
    rfl, by rw [hd]; exact (N _ h2).1⟩
  exact get_exc (X.keeps F.keep) I hga hno hB (findObj_own hdc ha hn hl) hh h

theorem clr_24 : True := by
  w_top off
  k_with_none
  trivial
theorem put_ledger {h : Heap} {a b c x : Addr × Obj} {rest : List (Addr × Obj)} (N : News h₀ L h (a :: b :: c :: x :: rest)) : News h₀ L h (x :: a :: b :: c :: rest) := fun p hp => by
  rcases List.mem_cons.mp hp with rfl | hp
  · exact N _ (.tail _ (.tail _ (.tail _ (.head _))))
  rcases List.mem_cons.mp hp with rfl | hp
  · exact N _ (.head _)
  rcases List.mem_cons.mp hp with rfl | hp
  · exact N _ (.tail _ (.head _))
  rcases List.mem_cons.mp hp with rfl | hp
  · exact N _ (.tail _ (.tail _ (.head _)))
  exact N _ (.tail _ (.tail _ (.tail _ (.tail _ hp))))
theorem off_three {p1 p2 p3 : Addr × Obj} {li : Addr} {o : Obj} {rest : List (Addr × Obj)} (h : ∀ p ∈ [p1, p2, p3], ∀ q ∈ (li, o) :: rest, q.1 < p.1) (hoff : ∀ p ∈ rest, p.1 ≠ li) : ∀ p ∈ p1 :: p2 :: p3 :: rest, p.1 ≠ li := fun p hp => by
  rcases List.mem_cons.mp hp with rfl | hp
  · exact Nat.ne_of_gt (h _ (.head _) _ (.head _))
  rcases List.mem_cons.mp hp with rfl | hp
  · exact Nat.ne_of_gt (h _ (.tail _ (.head _)) _ (.head _))
  rcases List.mem_cons.mp hp with rfl | hp
  · exact Nat.ne_of_gt (h _ (.tail _ (.tail _ (.head _))) _ (.head _))
  exact hoff p hp
theorem el_at {P : Params} {p1 p2 p3 : Addr × Obj} {v : Value} {r : Rw} {b c d : Addr} {ob oc od : Obj} {ns : List (Addr × Obj)} (h : ∀ ns', (b, ob) ∈ ns' → (c, oc) ∈ ns' → (d, od) ∈ ns' → ElIn P (p1 :: p2 :: p3 :: ns') v r) (g1 : (b, ob) ∈ ns) (g2 : (c, oc) ∈ ns) (g3 : (d, od) ∈ ns) : ElIn P (p1 :: p2 :: p3 :: ns) v r := h ns g1 g2 g3
noncomputable def afterT (b : Bool) (R : List Rw) (r : Rw) (now : Int) : List Rw := if b = true then (putS R r now).1 else R.filter fun x => !decide (x.lo = r.lo ∧ x.hi = r.hi)
noncomputable def toldT (b : Bool) (R : List Rw) (r : Rw) (now : Int) : Dat := if b = true then dueD R r now else dropD R r.lo r.hi
local macro_rules | `(tactic| walk_at "call ref") => `(tactic| (k_here; (with_reducible show wpAny _ _ (call (Value.ref 97) [Value.ref _, Value.ref _, Value.int _ _]) _ _ _); k_dflt (refine' elem_c ?B ?F ?X ?N ?T ?k ?d ?u ?g1 ?g2 ?g3 ?_; walk_at "kcs9"; (case g1 => k_mem); (case g2 => k_mem); (case g3 => k_mem); walk_at "krm9"); walk_at "fin9"))
local macro_rules | `(tactic| walk_at "call ref") => `(tactic| (k_here; (with_reducible show wpAny _ _ (call (Value.ref 143) [Value.ref _, _, Value.int _ _]) _ _ _); k_extra "put9"))
local macro_rules | `(tactic| walk_at "call ref") => `(tactic| (k_here; (with_reducible show wpAny _ _ (call (Value.ref 164) [Value.ref _, Value.ref _]) _ _ _); k_extra "drop9"))
local macro_rules | `(tactic| walk_at "getAttr ref") => `(tactic| (k_here; (with_reducible show wpAny _ _ (getAttr (Value.ref _) _ _) _ _ _); k_dflt (refine' get_fault ?F ?X ?N ?h1 ?hc ?hd ?hf ?h2 ?ga ?no ?B ?dc ?a ?n ?l ?hh ?_; (case hc => with_reducible assumption); (case F => k_asm); (case X => k_asm); (case N => k_asm); (case h1 => k_mem); (case hd => with_reducible assumption); (case hf => with_reducible assumption); (case h2 => k_mem); (case ga => k_is); (case no => k_is); (case B => k_is); (case dc => k_is); (case a => k_is); (case n => k_is); (case l => k_get); (case hh => k_handed))))
/-- the ledger with li at its head, and all else off it -/
noncomputable def tidy (li : Addr) (l : List (Addr × Obj)) : List (Addr × Obj) := l.filter fun p => decide (p.1 ≠ li)
theorem tidy_off {li : Addr} {l : List (Addr × Obj)} : ∀ p ∈ tidy li l, p.1 ≠ li := fun p hp => of_decide_eq_true (List.mem_filter.mp hp).2
theorem tidy_mem {li : Addr} {l : List (Addr × Obj)} {p : Addr × Obj} (hp : p ∈ l) (hn : p.1 ≠ li) : p ∈ tidy li l := List.mem_filter.mpr ⟨hp, decide_eq_true hn⟩
theorem tidy_news {li : Addr} {o : Obj} {h : Heap} {l : List (Addr × Obj)} (N : News h₀ L h l) (hm : (li, o) ∈ l) : News h₀ L h ((li, o) :: tidy li l) := fun p hp => by
  rcases List.mem_cons.mp hp with rfl | hp
  · exact N _ hm
  · exact N _ (List.mem_filter.mp hp).1
theorem tidy_sub {li : Addr} {l mid : List (Addr × Obj)} (hs : ∀ p ∈ mid, p ∈ l) (ho : ∀ p ∈ mid, p.1 ≠ li) : ∀ p ∈ mid, p ∈ tidy li l := fun p hp => tidy_mem (hs p hp) (ho p hp)
theorem tup_ne {h : Heap} {l : List (Addr × Obj)} {D li : Addr} {xs : List Value} {k n : Nat} {ys : Array Value} (N : News h₀ L h l) (h1 : (D, tupO xs k) ∈ l) (h2 : (li, listOf ys n) ∈ l) : D ≠ li := by
  rintro rfl
  have a := (N _ h1).1
  rw [(N _ h2).1] at a
  have := congrArg Obj.cls (Option.some.inj a)
  injection this with this
  exact absurd this (by decide)
theorem dueN {R : List Rw} {r : Rw} {now : Int} (h : (putS R r now).2 = none) : dueD R r now = toldD none (Str.ofString "") (Str.ofString "") := by unfold dueD; rw [h]
theorem dueS {R : List Rw} {r : Rw} {now : Int} {c y : Str} (h : (putS R r now).2 = some (c, y)) : dueD R r now = toldD none c y := by unfold dueD; rw [h]
theorem RowIn.tidy {h : Heap} {l : List (Addr × Obj)} {li : Addr} {n : Nat} {ys : Array Value} {v : Value} {r : Rw} (H : RowIn l v r) (N : News h₀ L h l) (hm : (li, listOf ys n) ∈ l) : RowIn (tidy li l) v r := by
  obtain ⟨q, b, c, d, k0, k1, k2, k3, tlo, thi, tk, tu, rfl, i0, i1, i2, i3⟩ := H
  exact ⟨q, b, c, d, k0, k1, k2, k3, tlo, thi, tk, tu, rfl, tidy_mem i0 (tup_ne N i0 hm), tidy_mem i1 (tup_ne N i1 hm), tidy_mem i2 (tup_ne N i2 hm), tidy_mem i3 (tup_ne N i3 hm)⟩
theorem drop_fin1 {R : List Rw} (h : Ok R) {lo hi : Int} (hlh : lo ≤ hi) {r : Rw} (h0 : 0 ≤ boxAt R lo hi) (hr : R[(boxAt R lo hi).toNat]? = some r) : R.take (boxAt R lo hi).toNat ++ R.drop ((boxAt R lo hi).toNat + 1) = R.filter (fun x => !decide (x.lo = lo ∧ x.hi = hi)) ∧ dropD R lo hi = toldD (some r) (Str.ofString "") (Str.ofString "") := by
  rcases drop_law h hlh with ⟨q, _⟩ | ⟨r', _, h2, h3, h4⟩
  · omega
  · rw [hr] at h2
    cases h2
    exact ⟨h4, by unfold dropD; rw [h3]⟩
theorem drop_fin2 {R : List Rw} (h : Ok R) {lo hi : Int} (hlh : lo ≤ hi) (h0 : boxAt R lo hi < 0) : R.filter (fun x => !decide (x.lo = lo ∧ x.hi = hi)) = R ∧ dropD R lo hi = toldD none (Str.ofString "ENOENT") (Str.ofString "No such file or directory") := by
  rcases drop_law h hlh with ⟨_, q⟩ | ⟨r', h1, _⟩
  · exact drop_none q
  · omega
local macro_rules | `(tactic| walk_at "noteFrame ref") => `(tactic| (k_here; k_dflt (refine' caughtD ?R ?F ?Kb ?hsm ?XB ?TB ?D ?T0 ?hoffD ?ex ?q ?kk ?hk ?hlo ?hx ?hd; (case R => assumption); (case F => assumption); (case Kb => assumption); (case hsm => assumption); (case XB => assumption); (case TB => assumption); (case D => assumption); (case T0 => exact KtsTurn.refl); (case hoffD => assumption); (case ex => k_is); (case q => first | kts_isx | k_is); (case hk => exact rfl); (case hlo => exact rfl); (case hx => exact rfl); (case hd => exact rfl)); intro h7 g7 tk7 oe7 vs7 T' F' N' hc7 hd7 hf7 K' X' P' D'))
local macro_rules | `(tactic| walk_at "call ref") => `(tactic| (k_here; (with_reducible show wpAny _ _ (call (Value.ref 237) [_]) _ _ _); k_dflt (refine' shown_c ?B ?F ?X ?N ?T ?k ?d ?u ?e ?_; walk_at "kcs9"; (case e => with_reducible assumption); walk_at "krm9"); walk_at "fin9"))
theorem told_c {st dd li q : Addr} {vs : List Value} {R : List Rw} {nn : Nat} {r : Rw} {now : Int} {x t : Tok} {b : Bool} {rest : List (Addr × Obj)} (B : Below A₀ base [] h₀) (F : Fr h₀ L s.heap m) (X : (hd.heap_39 w.params).In h₀) (XB : (hd.heap_39 w.params).In base) (N : News h₀ L s.heap ((li, listOf vs.toArray nn) :: rest)) (hoff : ∀ p ∈ rest, p.1 ≠ li) (T : Top hd.view_39 (looseW hd.view_39 []) mean mg mb h₀) (TB : Top hd.view_39 (looseW hd.view_39 []) mean mg mb base) (hk : cs.kind = .function)
    (hd : dp + 10 < recursionLimit) (hu : un + 500 < cLine) (hst : (st, instObj 188 dd) ∈ rest) (hdd : (dd, dictOf [⟨PyData.keyHash w.params "items", .str "items" x, .ref li⟩] 1) ∈ rest) (he : All2 (ElIn w.params rest) vs R) (h8 : R.length < 40) (hO : Ok R) (hr : RowIn rest (.ref q) r) (hrr : r.lo ≤ r.hi)
    (ret : ∀ h' tk' rest' vs' nn' T, (∀ p ∈ rest, p ∈ rest') → (∀ p ∈ rest', p.1 ≠ li) → All2 (ElIn w.params rest') vs' (afterT b R r now) → DatIn rest' (.ref T) (toldT b R r now) → Fr h₀ L h' m → News h₀ L h' ((li, listOf vs'.toArray nn') :: rest') → Q (.ref T) { s with heap := h', toks := tk' }) :
    wpAny (model PySem.Challenge.rw_pf0336_01.row.prog w) (ktrTop dp un gd cn cs L a ccd cl []) (call (.ref 244) [.ref st, .bool b, .ref q, .int now t]) Q E s := by
  revert X; k_fill; intro X
  have hs := hO.hi
  have he' := he.sub (fun p hp => List.mem_cons_of_mem (li, listOf vs.toArray nn) hp)
  obtain ⟨q0, b0, c0, d0, k0, k1, k2, k3, tlo0, thi0, tk0, tu0, eq0, g0, g1, g2, g3⟩ := hr
  cases eq0
  refine wpAny_call ?_
  k_dflt (refine' enterT ?k1 ?k2 ?k3 ?k4 ?k5 ?kA ?kf ?kK ?k6 ?k7 ?k8 ?k9 ?kB ?_ ?c2 ?c3 ?c4 ?c5; (case kA => exact rfl); (case kf => exact rfl); (case kK => first | exact rfl | assumption); (case k1 => k_asm); (case k2 => k_asm); (case k3 => k_asm); (case k4 => k_asm); (case k5 => k_asm); (case k6 => k_is); (case k7 => k_is); (case k8 => ktr_room); (case k9 => exact BindsTo.of_eq rfl); (case c5 => decide); (case kB => exact locs rfl); (case c2 => exact rfl); (case c3 => exact rfl); (case c4 => exact rfl); k_whole; intro g' L' h' FG' F' N' B' X' T' D'; (try dsimp only); (try k_fold))
  k_steps
  · k_dflt (refine' put_c (R := R) (r := r) ?B ?F ?X ?N ?o ?T ?k ?d ?u ?st ?dd ?e ?h8 ?hs ?el ?ret ?rai; (case B => k_asm); (case F => k_asm); (case X => k_asm); (case T => k_asm); (case k => first | exact rfl | assumption); (case N => exact put_ledger (by with_reducible assumption)); (case o => exact off_three (by assumption) hoff); (case st => k_mem); (case dd => k_mem); (case e => exact he.sub (by walk_at "dsub9")); (case h8 => exact h8); (case hs => exact hs); (case el => exact el_at (by with_reducible assumption) g1 g2 g3); walk_at "krm9")
    case ret =>
      intro h' tk' vs9 nn9 hp9 hA9 F' N'
      k_steps
      refine' ret _ _ _ vs9 nn9 _ ?s1 ?o1 ?a1 ?d1 ?F1 ?N1
      case N1 => exact tidy_news (by with_reducible assumption) (.tail _ (.head _))
      case F1 => k_asm
      case o1 => exact tidy_off
      case s1 => exact tidy_sub (by walk_at "dsub9") hoff
      case a1 =>
        rw [show afterT b R r now = (putS R r now).1 by subst_vars; rfl]
        refine hA9.mono fun _ _ x => x.sub (tidy_sub (by walk_at "dsub9") (off_three (by assumption) hoff))
      case d1 =>
        rw [show toldT b R r now = dueD R r now by subst_vars; rfl, dueN hp9]
        exact .tuple (tidy_mem (.head _) (tup_ne (by with_reducible assumption) (.head _) (.tail _ (.head _)))) (.cons .none (.cons (.str _ _) (.cons (.str _ _) .nil)))
    case rai =>
      intro g9 h9 tk9 e9 dx9 vs9 nn9 code9 why9 x19 x29 x39 x49 y19 y29 hp9 hA9 F9 hR9 hoff9 hu9
      k_steps
      refine' ret _ _ _ vs9 nn9 _ ?s2 ?o2 ?a2 ?d2 ?F2 ?N2
      case N2 => exact tidy_news (by with_reducible assumption) (.tail _ (.tail _ (.tail _ (.head _))))
      case F2 => k_asm
      case o2 => exact tidy_off
      case s2 => exact tidy_sub (by walk_at "dsub9") hoff
      case a2 =>
        rw [show afterT b R r now = (putS R r now).1 by subst_vars; rfl]
        refine hA9.mono fun _ _ x => x.sub (tidy_sub (by walk_at "dsub9") (off_three (by assumption) hoff))
      case d2 =>
        rw [show toldT b R r now = dueD R r now by subst_vars; rfl, dueS hp9]
        exact .tuple (tidy_mem (.head _) (tup_ne (by with_reducible assumption) (.head _) (.tail _ (.tail _ (.tail _ (.head _)))))) (.cons .none (.cons (.str _ _) (.cons (.str _ _) .nil)))
  · k_dflt (refine' drop_c (R := R) ?B ?F ?X ?N ?o ?T ?k ?d ?u ?st ?dd ?e ?h8 ?hs ?hb ?ret2 ?rai2; (case B => k_asm); (case F => k_asm); (case X => k_asm); (case T => k_asm); (case k => first | exact rfl | assumption); (case N => with_reducible assumption); (case o => exact hoff); (case st => k_mem); (case dd => k_mem); (case e => exact he); (case h8 => omega); (case hs => exact hs); (case hb => exact ⟨_, _, _, _, _, _, rfl, g1, g2⟩); walk_at "krm9")
    case ret2 =>
      intro h' tk' v9 r9 vs9 nn9 hb9 hr9 hv9 hA9 F' N'
      have he' := hv9.sub (fun p hp => List.mem_cons_of_mem (li, listOf vs9.toArray nn9) hp)
      k_steps
      refine' ret _ _ _ vs9 nn9 _ ?s3 ?o3 ?a3 ?d3 ?F3 ?N3
      case N3 => exact tidy_news (by with_reducible assumption) (.tail _ (.tail _ (.head _)))
      case F3 => k_asm
      case o3 => exact tidy_off
      case s3 => exact tidy_sub (by walk_at "dsub9") hoff
      case a3 =>
        rw [show afterT b R r now = R.filter fun x => !decide (x.lo = r.lo ∧ x.hi = r.hi) by subst_vars; rfl, ← (drop_fin1 hO hrr hb9 hr9).1]
        exact hA9.mono fun _ _ x => x.sub (tidy_sub (by walk_at "dsub9") hoff)
      case d3 =>
        rw [show toldT b R r now = dropD R r.lo r.hi by subst_vars; rfl, (drop_fin1 hO hrr hb9 hr9).2]
        exact .tuple (tidy_mem (.head _) (tup_ne (by with_reducible assumption) (.head _) (.tail _ (.tail _ (.head _))))) (.cons (RowIn.dat (RowIn.tidy (RowIn.sub (by with_reducible assumption) (by walk_at "dsub9")) (by with_reducible assumption) (.tail _ (.tail _ (.head _))))) (.cons (.str _ _) (.cons (.str _ _) .nil)))
    case rai2 =>
      intro g9 h9 tk9 e9 dx9 x19 x29 x39 x49 y19 y29 hp9 F9 hR9 hoff9 hu9
      k_dflt (refine' caughtD ?R1 ?F1 ?Kb1 ?hsm1 ?XB1 ?TB1 ?D1 ?T01 ?hoffD1 ?ex1 ?q1 ?kk1 ?hk1 ?hlo1 ?hx1 ?hd1; (case R1 => assumption); (case F1 => assumption); (case Kb1 => assumption); (case hsm1 => assumption); (case XB1 => assumption); (case TB1 => assumption); (case D1 => assumption); (case T01 => exact KtsTurn.refl); (case hoffD1 => assumption); (case ex1 => k_is); (case q1 => first | kts_isx | k_is); (case hk1 => exact rfl); (case hlo1 => exact rfl); (case hx1 => exact rfl); (case hd1 => exact rfl))
      intro h7 g7 tk7 oe7 vs7 T' F' N' hc7 hd7 hf7 K' X' P' D'
      k_steps
      refine' ret _ _ _ vs nn _ ?s4 ?o4 ?a4 ?d4 ?F4 ?N4
      case N4 => exact tidy_news (by with_reducible assumption) (.tail _ (.tail _ (.tail _ (.head _))))
      case F4 => k_asm
      case o4 => exact tidy_off
      case s4 => exact tidy_sub (by walk_at "dsub9") hoff
      case a4 =>
        rw [show afterT b R r now = R.filter fun x => !decide (x.lo = r.lo ∧ x.hi = r.hi) by subst_vars; rfl, (drop_fin2 hO hrr hp9).1]
        exact he.mono fun _ _ x => x.sub (tidy_sub (by walk_at "dsub9") hoff)
      case d4 =>
        rw [show toldT b R r now = dropD R r.lo r.hi by subst_vars; rfl, (drop_fin2 hO hrr hp9).2]
        exact .tuple (tidy_mem (.head _) (tup_ne (by with_reducible assumption) (.head _) (.tail _ (.tail _ (.tail _ (.head _)))))) (.cons .none (.cons (.str _ _) (.cons (.str _ _) .nil)))

theorem clr_25 : True := by
  w_top off
  k_with_none
  trivial
theorem meetT_le (hi now : Int) : ∀ R : List Rw, (meetT hi now R).length ≤ R.length
  | [] => Nat.le_refl _
  | x :: t => by
    have := meetT_le hi now t
    unfold meetT
    by_cases h : x.lo ≤ hi
    · rw [if_pos h]
      by_cases g : live x now = true
      · rw [if_pos g]; simp only [List.length_cons]; omega
      · rw [if_neg g]; simp only [List.length_cons]; omega
    · rw [if_neg h]; simp
theorem meet_len {R' : Value → Rw → Prop} {fs : List Value} {R : List Rw} {hi now : Int} {k : Nat} (h : All2 R' fs (meetT hi now (R.drop k))) : fs.length ≤ R.length := by
  have := meetT_le hi now (R.drop k)
  rw [List.length_drop] at this
  rw [h.length]; omega
theorem opt_cases {P : Params} {n1 : List (Addr × Obj)} {v : Value} {o : Option Rw} (h : OptEl P n1 v o) : (o = none ∧ v = .none) ∨ ∃ r, o = some r ∧ ElIn P n1 v r := by
  cases o with
  | none => exact .inl ⟨rfl, h⟩
  | some r => exact .inr ⟨r, rfl, h⟩
theorem dat_ne_same {prog : Program} {A : Around} {Q : Value → Shared → Prop} {n1 n2 : List (Addr × Obj)} {v v' : Value} {d : Dat} (N : News h₀ L s.heap news) (h1 : DatIn n1 v d) (s1 : ∀ p ∈ n1, p ∈ news) (h2 : DatIn n2 v' d) (s2 : ∀ p ∈ n2, p ∈ news) (k1 : kqdOk 8 d = true) (hu : A.units + 64 < cLine)
    (h : Q (.bool false) s) : wpAny (model prog w) A (compareOp .NotEq v v') Q E s := dat_ne N h1 s1 h2 s2 k1 k1 hu fun b hb => by
  cases b with
  | false => exact h
  | true => exact absurd rfl (hb.mp rfl)
theorem dat_eq_same {prog : Program} {A : Around} {Q : Value → Shared → Prop} {n1 n2 : List (Addr × Obj)} {v v' : Value} {d : Dat} (N : News h₀ L s.heap news) (h1 : DatIn n1 v d) (s1 : ∀ p ∈ n1, p ∈ news) (h2 : DatIn n2 v' d) (s2 : ∀ p ∈ n2, p ∈ news) (k1 : kqdOk 8 d = true) (hu : A.units + 64 < cLine)
    (h : Q (.bool true) s) : wpAny (model prog w) A (compareOp .Eq v v') Q E s := dat_eq N h1 s1 h2 s2 k1 k1 hu fun b hb => by
  rw [hb.mpr rfl]; exact h
noncomputable def optD (o : Option Rw) : Dat := match o with | none => .none | some r => rowD r
theorem optD_ok (o : Option Rw) : kqdOk 8 (optD o) = true := by cases o <;> rfl
theorem OptRow.dat {n1 : List (Addr × Obj)} {v : Value} {o : Option Rw} (h : OptRow n1 v o) : DatIn n1 v (optD o) := by
  cases o with
  | none => rw [show v = .none from h]; exact .none
  | some r => exact RowIn.dat h
local macro_rules | `(tactic| walk_at "compareOp NotEq ref ref") => `(tactic| (k_here; (with_reducible show wpAny _ _ (compareOp CmpOp.NotEq (Value.ref _) (Value.ref _)) _ _ _); k_dflt (refine' dat_ne_same ?N ?h1 ?s1 ?h2 ?s2 ?k1 ?hu ?_; (case N => k_asm); (case h1 => with_reducible assumption); (case h2 => with_reducible assumption); (case s1 => walk_at "dsub9"); (case s2 => walk_at "dsub9"); (case k1 => first | exact rowsD_ok8 _ | assumption); (case hu => ktr_units))))
local macro_rules | `(tactic| walk_at "call ref") => `(tactic| (k_here; (with_reducible show wpAny _ _ (call (Value.ref 237) [Value.none]) _ _ _); k_dflt (refine' shown_none_c ?B ?F ?X ?N ?T ?k ?d ?u ?_; walk_at "kcs9"; walk_at "krm9"); walk_at "fin9"))
local macro_rules | `(tactic| walk_at "call ref") => `(tactic| (k_here; (show wpAny _ _ (call (Value.ref 171) [Value.ref _]) _ _ _); k_dflt (refine' elements_c ?B ?F ?X ?N ?T ?k ?d ?u ?a ?b ?c ?e ?_; walk_at "kcs9"; (case a => k_mem); (case b => k_mem); (case c => k_mem); (case e => with_reducible assumption); walk_at "krm9"); walk_at "fin9"))
local macro_rules | `(tactic| walk_at "call ref") => `(tactic| (k_here; (show wpAny _ _ (call (Value.ref 178) [Value.ref _]) _ _ _); k_dflt (refine' many_c ?B ?F ?X ?N ?T ?k ?d ?u ?a ?b ?c ?e ?f ?_; walk_at "kcs9"; (case a => k_mem); (case b => k_mem); (case c => k_mem); (case e => with_reducible assumption); (case f => omega); walk_at "krm9"); walk_at "fin9"))
local macro_rules | `(tactic| walk_at "call ref") => `(tactic| (k_here; (with_reducible show wpAny _ _ (call (Value.ref 199) [Value.ref _, Value.int _ _, Value.int _ _, Value.int _ _]) _ _ _); k_dflt (refine' meeting_c ?B ?F ?X ?N ?T ?k ?d ?u ?a ?b ?c ?e ?f ?g ?_; walk_at "kcs9"; (case a => k_mem); (case b => k_mem); (case c => k_mem); (case e => with_reducible assumption); (case f => with_reducible assumption); (case g => with_reducible assumption); walk_at "krm9"); intro h' tk' fl9 fs9 nf9 hA9 hof9 F' N'; (have hq9 := meet_len hA9); walk_at "sw9"))
local macro_rules | `(tactic| walk_at "call ref") => `(tactic| (k_here; (with_reducible show wpAny _ _ (call (Value.ref 150) [Value.ref _, Value.ref _, Value.int _ _]) _ _ _); k_extra "at9"))
local macro_rules | `(tactic| walk_at "call ref") => `(tactic| (k_here; (with_reducible show wpAny _ _ (call (Value.ref 251) [Value.ref _]) _ _ _); k_dflt (refine' first_c ?B ?F ?X ?N ?T ?k ?d ?u ?a ?e ?f ?_; walk_at "kcs9"; (case a => k_mem); (case e => with_reducible assumption); (case f => with_reducible assumption); walk_at "krm9"); walk_at "fin9"))
local macro_rules | `(tactic| walk_at "CompSrc") => `(tactic| (k_here; k_dflt (refine LCg.CompSrc.ledger (by rfl) (by k_asm) (by k_asm) (by k_mem) (by first | size_fits | (rw [List.size_toArray]; exact small_size (by omega))) ?_); intro g9))
local macro_rules | `(tactic| walk_at "eval ListComp") => `(tactic| (k_here; (fail_if_success lct_look); k_dflt (refine LCg.ListComp_U (F₀ := by k_asm) (by with_unfolding_all rfl) (by decide) (by rfl) (by decide) (by rfl) ?_)))
theorem shown_e {e de b d cc : Addr} {tu x1 x2 x3 x4 x5 x6 t0 tc : Tok} {t1 : Nat} {un9 : Int} (B : Below A₀ base outer h₀) (F : Fr h₀ L s.heap m) (X : (hd.heap_39 w.params).In h₀) (N : News h₀ L s.heap news) (T : Top hd.view_39 (looseW hd.view_39 []) mean mg mb h₀) (hk : cs.kind = .function)
    (hd : dp + 2 < recursionLimit) (hu : un + 20 < cLine) (h1 : (e, instObj 97 de) ∈ news)
    (h2 : (de, dictOf [⟨PyData.keyHash w.params "box", .str "box" x1, .ref b⟩, ⟨PyData.keyHash w.params "data", .str "data" x2, .ref d⟩, ⟨PyData.keyHash w.params "until", .str "until" x3, .int un9 tu⟩, ⟨PyData.keyHash w.params "timeout", .str "timeout" x4, .int 0 t0⟩, ⟨PyData.keyHash w.params "comment", .str "comment" x5, .str "" tc⟩, ⟨PyData.keyHash w.params "cells", .str "cells" x6, .ref cc⟩] t1) ∈ news)
    (ret : ∀ h' tk' q, Fr h₀ L h' m → News h₀ L h' ((q, tupO [.ref b, .ref d, .int un9 tu] 0) :: news) → (∀ p ∈ news, p.1 < q) → Q (.ref q) { s with heap := h', toks := tk' }) :
    wpAny (model PySem.Challenge.rw_pf0336_01.row.prog w) (ktrTop dp un gd cn cs L a ccd cl outer) (call (.ref 237) [.ref e]) Q E s := by
  revert X; k_fill; intro X
  refine wpAny_call ?_
  k_dflt ktr_enter
  k_steps
  exact ret _ _ _ (by k_asm) (by k_asm) (by assumption)
theorem cend_new {I C D q : Addr} {s₁ : Shared} {oI oC oD oq : Obj} {S : List (Addr × Obj) → Prop} {rest : Value → List (Addr × Obj) → Prop} {y : Value} {h' : Heap} {tk : Nat} {nw : List (Addr × Obj)} (F : Fr h₀ L h' m) (N : News h₀ L h' ((q, oq) :: (I, oI) :: (C, oC) :: (D, oD) :: nw)) (l1 : ∀ p ∈ (I, oI) :: (C, oC) :: (D, oD) :: nw, p.1 < q) (off : LCg.Off3 I C D nw) (hS : S ((q, oq) :: nw)) (r : rest y ((q, oq) :: nw)) :
    LCg.CompEnd h₀ L m s₁ I oI C oC D oD S rest y { s₁ with heap := h', toks := tk } := by
  refine LCg.CompEnd.intro F N ((q, oq) :: nw) (fun p hp => ?_) ⟨⟨Nat.ne_of_gt (l1 _ (.head _)), Nat.ne_of_gt (l1 _ (.tail _ (.head _))), Nat.ne_of_gt (l1 _ (.tail _ (.tail _ (.head _))))⟩, off⟩ hS r
  rcases List.mem_cons.mp hp with rfl | hp
  · exact .tail _ (.head _)
  rcases List.mem_cons.mp hp with rfl | hp
  · exact .tail _ (.tail _ (.head _))
  rcases List.mem_cons.mp hp with rfl | hp
  · exact .tail _ (.tail _ (.tail _ (.head _)))
  rcases List.mem_cons.mp hp with rfl | hp
  · exact .head _
  · exact .tail _ (.tail _ (.tail _ (.tail _ hp)))
local macro_rules | `(tactic| walk_at "call ref") => `(tactic| (k_here; (with_reducible show wpAny _ _ (call (Value.ref 237) [Value.ref _]) _ _ _); k_dflt (refine' shown_e ?B ?F ?X ?N ?T ?k ?d ?u ?h1 ?h2 ?_; walk_at "kcs9"; (case h1 => k_mem); (case h2 => k_mem); walk_at "krm9"); walk_at "fin9"))
theorem andA {b b' L9 N9 : Bool} (h : b = L9) (e : b = true) (h' : b' = N9) (e' : b' = true) : (L9 && N9) = true := by rw [← h, ← h', e, e']; rfl
theorem andB {b b' L9 N9 : Bool} (h : b = L9) (e : b = true) (h' : b' = N9) (e' : b' = false) : (L9 && N9) = false := by rw [← h, ← h', e, e']; rfl
theorem andC {b L9 N9 : Bool} (h : b = L9) (e : b = false) : (L9 && N9) = false := by rw [← h, e]; rfl
theorem all2_led {L' : Addr} {g h : Heap} {n1 n2 : List (Addr × Obj)} {p : Addr × Obj} {zs : List Value} {S : List Rw} (N : News g L' h (p :: n1)) (hA : All2 (RowIn n2) zs S) (hs : ∀ p ∈ n2, p ∈ n1) : All2 (RowIn (p :: n1)) zs S := hA.mono fun _ _ x => x.sub fun q hq => .tail _ (hs q hq)
theorem agrees_c {st dd li rl b : Addr} {vs ws : List Value} {R : List Rw} {nn mm : Nat} {lo hi now : Int} {x t : Tok} (B : Below A₀ base outer h₀) (F : Fr h₀ L s.heap m) (X : (hd.heap_39 w.params).In h₀) (N : News h₀ L s.heap news) (T : Top hd.view_39 (looseW hd.view_39 []) mean mg mb h₀) (hk : cs.kind = .function)
    (hd : dp + 12 < recursionLimit) (hu : un + 600 < cLine) (hst : (st, instObj 188 dd) ∈ news) (hdd : (dd, dictOf [⟨PyData.keyHash w.params "items", .str "items" x, .ref li⟩] 1) ∈ news) (hli : (li, listOf vs.toArray nn) ∈ news) (he : All2 (ElIn w.params news) vs R) (h8 : R.length < 40) (hO : Ok R)
    (hrl : (rl, listOf ws.toArray mm) ∈ news) (hw : All2 (RowIn news) ws R) (hb : BoxIn news (.ref b) lo hi) (hlh : lo ≤ hi)
    (ret : ∀ h' tk' news', (∀ p ∈ news, p ∈ news') → Fr h₀ L h' m → News h₀ L h' news' → Q (.bool true) { s with heap := h', toks := tk' }) :
    wpAny (model PySem.Challenge.rw_pf0336_01.row.prog w) (ktrTop dp un gd cn cs L a ccd cl outer) (call (.ref 256) [.ref st, .ref rl, .ref b, .int now t]) Q E s := by
  revert X; k_fill; intro X
  have hvl := he.length
  have hwl := hw.length
  have h64 : vs.length < 64 := by omega
  have hR64 : R.length < 64 := by omega
  have hOh := hO.hi
  obtain ⟨b0, c0, k0, k1, tlo0, thi0, eq0, g1, g2⟩ := hb
  cases eq0
  refine wpAny_call ?_
  k_dflt (refine' code_defC ?k1 ?k2 ?k3 ?k4 ?k5 ?kA ?kF ?kK ?k6 ?k7 ?k8 ?k9 ?kB ?kD ?_ ?c2 ?c3 ?c4; (case kA => exact rfl); (case kF => exact rfl); (case kK => first | exact rfl | assumption); (case k1 => k_asm); (case k2 => k_asm); (case k3 => k_asm); (case k4 => k_asm); (case k5 => k_asm); (case k6 => k_is); (case k7 => k_is); (case k8 => ktr_room); (case k9 => first | exact BindsTo.of_eq rfl | exact binds_K (by k_in) rfl (by k_is) rfl rfl rfl); (case kB => exact rfl); (case kD => decide +kernel); (case c2 => exact rfl); (case c3 => exact rfl); (case c4 => exact rfl); k_whole; intro g' L' h' tk' cells' FG' F' N' Y' B' X' T' l1; (try k_lt l1); k_cells Y'; (try simp only [List.cons_append, List.nil_append] at N'); (try dsimp only); (try k_fold))
  k_steps
  refine' restU_rows (R' := ElIn w.params news) (Out := RowIn) he (fun _ _ _ _ hs h => h.sub hs) ?turn1 ?fin1
  case turn1 =>
    intro nw v r9 I oI C oC D m₂ h tk E' ys hs hR hC hx F N off ne
    have hs9 : ∀ p ∈ news, p ∈ nw := fun p hp => hs p (.tail _ (.tail _ (.tail _ hp)))
    obtain ⟨e, de, b, c, d, k1, k2, k3, tlo, thi, tk, tu, x1, x2, x3, x4, x5, x6, t0, t1, tc, cc, rfl, h1, h2, h3, h4, h5⟩ := hR.sub hs9
    k_steps
    exact cend_new (by k_asm) (by with_reducible assumption) (by with_reducible assumption) off (.inr ⟨_, .tail _ (hs _ (.head _)), rfl, _, rfl⟩) ⟨fun p hp => .tail _ hp, ⟨_, b, c, d, _, k1, k2, k3, tlo, thi, tk, tu, rfl, .head _, .tail _ h3, .tail _ h4, .tail _ h5⟩⟩
  case fin1 =>
    intro ys9 nw9 hs hA9
    have hs9 : ∀ p ∈ news, p ∈ nw9 := fun p hp => hs p (.tail _ (.tail _ (.tail _ hp)))
    have hc1 := hs _ (.tail _ (.head _))
    have hc2 := hs _ (.tail _ (.tail _ (.head _)))
    have hst9 := hs9 _ hst
    have hdd9 := hs9 _ hdd
    have hli9 := hs9 _ hli
    have hrl9 := hs9 _ hrl
    have g19 := hs9 _ g1
    have g29 := hs9 _ g2
    have hyl := hA9.length
    intro D9 h9 tk9 F9 N9 o9
    have he9 := he.mono fun _ _ x => x.sub (n2 := (D9, LCg.lst ys9) :: nw9) fun p hp => .tail _ (hs9 p hp)
    have hw9 := hw.mono fun _ _ x => x.sub (n2 := (D9, LCg.lst ys9) :: nw9) fun p hp => .tail _ (hs9 p hp)
    have hD9 := rows_datN N9 hA9 (fun _ hp => hp)
    have hE9 : DatIn ((D9, LCg.lst ys9) :: nw9) (.ref rl) (.list (R.map rowD)) := .list (.tail _ hrl9) (rows_dat hw9)
    k_steps
    · exact absurd rfl (by assumption)
    have hwn := hw.mono fun _ _ x => x.sub hs9
    refine' restT_rows (R' := RowIn nw9) (Out := RowIn nw9) (test := fun x => live x now && near x.lo x.hi lo hi) hwn ?trn2 ?fin2
    case trn2 =>
      intro v r9 I oI C oC D m₂ h tk E' ys hR hC hx F N off ne
      have hR9 := hR
      obtain ⟨q, b, c, d, j0, j1, j2, j3, tlo, thi, tk, tu, rfl, i0, i1, i2, i3⟩ := hR
      k_steps
      all_goals (refine' LCg.CompEnd.intro (by k_asm) (by with_reducible assumption) _ (fun p hp => hp) off (by lcg_src) ?_)
      all_goals first
        | exact ⟨rfl, andA (by with_reducible assumption) (by with_reducible assumption) (by with_reducible assumption) (by with_reducible assumption), hR9⟩
        | exact ⟨rfl, andB (by with_reducible assumption) (by with_reducible assumption) (by with_reducible assumption) (by with_reducible assumption)⟩
        | exact ⟨rfl, andC (by with_reducible assumption) (by with_reducible assumption)⟩
    case fin2 =>
      intro ns9 hN9
      change All2 _ ns9 (meetL R lo hi now) at hN9
      have hnl := hN9.length
      have hml : (meetL R lo hi now).length ≤ R.length := List.length_filter_le _ _
      intro D8 h8' tk8 F8 N8 o8
      have he8 := he.mono fun _ _ x => x.sub (n2 := (D8, LCg.lst ns9) :: (D9, LCg.lst ys9) :: nw9) fun p hp => .tail _ (.tail _ (hs9 p hp))
      k_steps
      rename All2 (ElIn w.params _) _ (meetT _ _ _) => hM9
      refine' restU_rows (R' := ElIn w.params ((D8, LCg.lst ns9) :: (D9, LCg.lst ys9) :: nw9)) (Out := RowIn) hM9 (fun _ _ _ _ hs h => h.sub hs) ?turn3 ?fin3
      case turn3 =>
        intro nw v r9 I oI C oC D m₂ h tk E' ys hs hR hC hx F N off ne
        obtain ⟨e, de, b, c, d, k1, k2, k3, tlo, thi, tk, tu, x1, x2, x3, x4, x5, x6, t0, t1, tc, cc, rfl, h1, h2, h3, h4, h5⟩ := hR.sub (fun p hp => hs p (.tail _ hp))
        k_steps
        exact cend_new (by k_asm) (by with_reducible assumption) (by with_reducible assumption) off (.inr ⟨_, .tail _ (hs _ (.head _)), rfl, _, rfl⟩) ⟨fun p hp => .tail _ hp, ⟨_, b, c, d, _, k1, k2, k3, tlo, thi, tk, tu, rfl, .head _, .tail _ h3, .tail _ h4, .tail _ h5⟩⟩
      case fin3 =>
        intro ys8 nwB hsB hB9
        rw [meet_law hO now hlh] at hB9
        have hsB9 : ∀ p ∈ nw9, p ∈ nwB := fun p hp => hsB p (.tail _ (.tail _ (.tail _ hp)))
        have hcB1 := hsB9 _ hc1
        have hcB2 := hsB9 _ hc2
        have hstB := hsB9 _ hst9
        have hddB := hsB9 _ hdd9
        have hliB := hsB9 _ hli9
        have gB1 := hsB9 _ g19
        have gB2 := hsB9 _ g29
        have hD8m := hsB _ (.tail _ (.head _))
        have hyl8 := hB9.length
        intro D7 h7 tk7 F7 N7 o7
        have he7 := he.mono fun _ _ x => x.sub (n2 := (D7, LCg.lst ys8) :: nwB) fun p hp => .tail _ (hsB9 p (hs9 p hp))
        have hNB := hN9.mono fun _ _ x => x.sub hsB9
        have hN7 := hN9.mono fun _ _ x => x.sub (n2 := (D7, LCg.lst ys8) :: nwB) fun p hp => .tail _ (hsB9 p hp)
        have hD7 := rows_datN N7 hB9 (fun _ hp => hp)
        have hE7 : DatIn ((D7, LCg.lst ys8) :: nwB) (.ref D8) (.list ((meetL R lo hi now).map rowD)) := .list (.tail _ hD8m) (rows_dat hN7)
        clear hD9 hE9
        k_steps
        k_dflt (refine' at_c ?B ?F ?X ?N ?T ?k ?d ?u ?a ?b ?c ?e ?f ?g ?i ?_; walk_at "kcs9"; (case a => k_mem); (case b => k_mem); (case c => k_mem); (case e => with_reducible assumption); (case f => with_reducible assumption); (case g => with_reducible assumption); (case i => exact ⟨_, _, _, _, _, _, rfl, by k_mem, by k_mem⟩); walk_at "krm9")
        intro h' tk' v9 hv9 F' N'
        rcases opt_cases hv9 with ⟨ho9, rfl⟩ | ⟨r8, ho9, hE8⟩
        · k_steps
          refine' restT_rows (R' := RowIn nwB) (Out := RowIn nwB) (test := fun x => x.lo == lo && x.hi == hi) hNB ?trn4 ?fin4
          case trn4 =>
            intro v r9 I oI C oC D m₂ h tk E' ys hR hC hx F N off ne
            have hR9 := hR
            obtain ⟨q, b, c, d, j0, j1, j2, j3, tlo, thi, tk, tu, rfl, i0, i1, i2, i3⟩ := hR
            k_steps
            all_goals (refine' LCg.CompEnd.intro (by k_asm) (by with_reducible assumption) _ (fun p hp => hp) off (by lcg_src) ?_)
            all_goals first
              | exact ⟨rfl, by with_reducible assumption, hR9⟩
              | exact ⟨rfl, by with_reducible assumption⟩
          case fin4 =>
            intro ms9 hM9
            rw [box_test] at hM9
            have hml9 : ((meetL R lo hi now).filter fun x => decide (x.lo = lo ∧ x.hi = hi)).length < 64 := Nat.lt_of_le_of_lt (List.length_filter_le _ _) (by omega)
            have hmm := hM9.length
            intro D6 h6 tk6 F6 N6 o6
            have hM6 := all2_led N6 hM9 (by walk_at "dsub9")
            k_steps
            rename OptRow _ _ _ => hv7
            rw [← at_law hO now hlh, ho9] at hv7
            k_dflt (refine' dat_eq_same ?N4 .none ?s14 hv7.dat ?s24 rfl ?u4 ?_; (case N4 => k_asm); (case s14 => exact fun _ hp => hp); (case s24 => walk_at "dsub9"); (case u4 => ktr_units))
            k_steps
            exact ret _ _ _ (fun p hp => .tail _ (.tail _ (hsB9 _ (hs9 _ hp)))) (by k_asm) (by with_reducible assumption)
        · k_steps
          refine' restT_rows (R' := RowIn nwB) (Out := RowIn nwB) (test := fun x => x.lo == lo && x.hi == hi) hNB ?trn5 ?fin5
          case trn5 =>
            intro v r9 I oI C oC D m₂ h tk E' ys hR hC hx F N off ne
            have hR9 := hR
            obtain ⟨q, b, c, d, j0, j1, j2, j3, tlo, thi, tk, tu, rfl, i0, i1, i2, i3⟩ := hR
            k_steps
            all_goals (refine' LCg.CompEnd.intro (by k_asm) (by with_reducible assumption) _ (fun p hp => hp) off (by lcg_src) ?_)
            all_goals first
              | exact ⟨rfl, by with_reducible assumption, hR9⟩
              | exact ⟨rfl, by with_reducible assumption⟩
          case fin5 =>
            intro ms9 hM9
            rw [box_test] at hM9
            have hml9 : ((meetL R lo hi now).filter fun x => decide (x.lo = lo ∧ x.hi = hi)).length < 64 := Nat.lt_of_le_of_lt (List.length_filter_le _ _) (by omega)
            have hmm := hM9.length
            intro D6 h6 tk6 F6 N6 o6
            have hM6 := all2_led N6 hM9 (by walk_at "dsub9")
            k_steps
            rename OptRow _ _ _ => hv7
            rename RowIn _ _ r8 => hR7
            rw [← at_law hO now hlh, ho9] at hv7
            k_dflt (refine' dat_eq_same ?N5 hR7.dat ?s15 hv7.dat ?s25 (optD_ok (some r8)) ?u5 ?_; (case N5 => k_asm); (case s15 => walk_at "dsub9"); (case s25 => walk_at "dsub9"); (case u5 => ktr_units))
            k_steps
            exact ret _ _ _ (fun p hp => .tail _ (.tail _ (.tail _ (hsB9 _ (hs9 _ hp))))) (by k_asm) (by with_reducible assumption)

theorem clr_26 : True := by
  w_top off
  k_with_none
  trivial
noncomputable def TurnPost (h₀ : Heap) (L I : Addr) (oI : Obj) (J : (Str → Option Value) → List (Addr × Obj) → Prop) (s₁ : Shared) (Q : Flow → Shared → Prop) (f : Flow) (s₂ : Shared) : Prop := match f with
  | .ret v => Q (.ret v) s₂
  | .brk => Q .next s₂
  | _ => ∃ h' tk m' nx, s₂ = { s₁ with heap := h', toks := tk } ∧ Fr h₀ L h' m' ∧ News h₀ L h' ((I, oI) :: nx) ∧ (∀ p ∈ nx, p.1 ≠ I) ∧ J m' nx
theorem range_turns {prog : Program} {A : Around} {E : Value → Shared → Prop} {env : Env} {target : PySem.Expr} {body : List Stmt} {Q : Flow → Shared → Prop} {r : Addr} {a₀ b₀ : Int} {t₀ u₀ v₀ : Tok} {n : Nat} {m₀ : Str → Option Value} (J : Nat → (Str → Option Value) → List (Addr × Obj) → Prop)
    (hh : A.handled = none) (hr : IsRange s.heap r a₀ b₀ 1 t₀ u₀ v₀) (hsmall : Builtin.Range.small a₀ b₀ 1 = true) (hsz : Builtin.Range.rangeSize a₀ b₀ 1 = (n : Int)) (F : Fr h₀ env.locals s.heap m₀) (N : News h₀ env.locals s.heap news) (hj : J 0 m₀ news) (htg : ∀ v x, letOwnedTupleGo target v x = pure ())
    (turn : ∀ i t m₁ nx h tk I oI, i < n → J i m₁ nx → (∀ p ∈ nx, p.1 ≠ I) → (∃ fs, oI.data = .fields fs) → Fr h₀ env.locals h m₁ → News h₀ env.locals h ((I, oI) :: nx) →
      wpAny (model prog w) A (assign target env (.int (a₀ + (i : Int)) t)) (fun _ s₃ => wpAny (model prog w) A (execs body env) (TurnPost h₀ env.locals I oI (J (i + 1)) { s with heap := h, toks := tk } Q) E s₃) E { s with heap := h, toks := tk })
    (done : ∀ m₁ nx h tk, J n m₁ nx → Fr h₀ env.locals h m₁ → News h₀ env.locals h nx → Q .next { s with heap := h, toks := tk }) :
    wpAny (model prog w) A (pyIter (.ref r)) (fun it s₂ => TurnsAt prog w A h₀ env target body Q E it s₂) E s := by
  refine wpAny_pyIter_range hr hsmall ?_
  have W := Walks.range (prog := prog) (w := w) hh s.heap.objs.size a₀ 1 n
  refine ⟨s.heap.objs.size, [s.heap.objs.size], [s.heap.objs.size], n, _, _, _, m₀, news, J, rfl, KTurns.ofWalks W (fun i v s Q E _ hq => wpAny_of_eq (htg _ _) hq), ?_, ?_, ?_, (by show IsRangeIter _ _ _ _ _; rw [hsz]; simpa using Heap.get?_push_size _ rfl), F.push _, (fun p hp => ⟨Heap.get?_push_of_some _ (N p hp).1, (N p hp).2⟩), hj, ?_, ?_⟩
  · intro hm
    exact absurd F.ns.lt ((List.mem_singleton.mp hm) ▸ Nat.lt_irrefl _)
  · intro b hb
    rw [List.mem_singleton.mp hb]
    exact next_is_new F
  · intro p hp hI
    exact absurd (Heap.lt_size (N p hp).1) ((List.mem_singleton.mp hI) ▸ Nat.lt_irrefl _)
  · rintro i v m₁ nx h tk own hi ⟨t, rfl⟩ hJ hoff hown hget hmem hst F₁ N₁
    have e1 : a₀ + (i : Int) * 1 = a₀ + (i : Int) := by omega
    rw [e1]
    obtain ⟨oI, hst', hfd⟩ : ∃ o, h.get? s.heap.objs.size = some o ∧ ∃ fs, o.data = .fields fs := ⟨_, hst, _, rfl⟩
    have hI := hmem _ (.head _) (next_is_new F) _ hst'
    have hoff' : ∀ p ∈ nx, p.1 ≠ s.heap.objs.size := fun p hp e => hoff p hp (e ▸ .head _)
    refine wpAny_mono (turn i t m₁ nx h tk s.heap.objs.size oI hi hJ hoff' hfd F₁ (fun p hp => ?_)) (fun _ s₃ h₃ => wpAny_mono h₃ (fun f s₂ p => ?_) fun _ _ e => e) fun _ _ e => e
    · rcases List.mem_cons.mp hp with rfl | hp
      · exact N₁ _ (List.mem_append_left _ hI)
      · exact N₁ _ (List.mem_append_right _ hp)
    · have fin : (∃ h' tk' m' nx', s₂ = { ({ s with heap := h, toks := tk } : Shared) with heap := h', toks := tk' } ∧ Fr h₀ env.locals h' m' ∧ News h₀ env.locals h' ((s.heap.objs.size, oI) :: nx') ∧ (∀ p ∈ nx', p.1 ≠ s.heap.objs.size) ∧ J (i + 1) m' nx') → LoopStepU h₀ env.locals [s.heap.objs.size] own (J (i + 1)) { s with heap := h, toks := tk } .next s₂ := by
        rintro ⟨h', tk', m', nx', e, F', N', ha, hm⟩
        refine ⟨rfl, h', tk', m', nx', e, F', fun p hp => ?_, fun p hp hq => ha p hp (List.mem_singleton.mp hq), hm⟩
        rcases List.mem_append.mp hp with hp | hp
        · have e2 : p.1 = s.heap.objs.size := List.mem_singleton.mp (hown p hp)
          have e3 := hget p hp
          rw [e2, hst'] at e3
          have : p = (s.heap.objs.size, oI) := Prod.ext e2 (Option.some.inj e3).symm
          rw [this]
          exact N' _ (.head _)
        · exact N' _ (.tail _ hp)
      cases f with
      | ret v => exact .ret p
      | brk => exact .brk p
      | next => exact .next (fin p)
      | cont => exact .cont (fin p)
  · rintro h' tk m' news' F' N' _ hJ
    exact done m' news' h' tk hJ F' N'

theorem clr_27 : True := by
  w_top off
  k_with_none
  trivial
local macro_rules | `(tactic| walk_at "exec For Name Call cons nil") => `(tactic| (k_here; k_dflt (refine' For_turns ?F ?_; (case F => k_asm))))
local macro_rules | `(tactic| walk_at "call ref") => `(tactic| (k_here; (with_reducible show wpAny _ _ (call (Value.ref 157) [Value.ref _, Value.ref _, Value.int _ _]) _ _ _); k_extra "fnd9"))
theorem turn_next {I c : Addr} {oI oc : Obj} {J : (Str → Option Value) → List (Addr × Obj) → Prop} {s₁ : Shared} {Q : Flow → Shared → Prop} {h' : Heap} {tk : Nat} {l : List (Addr × Obj)} (F : Fr h₀ L h' m) (N : News h₀ L h' l) (hI : (I, oI) ∈ l) (hc : (c, oc) ∈ l) (hcI : c ≠ I) (hJ : J m ((c, oc) :: tidy I (tidy c l))) : TurnPost h₀ L I oI J s₁ Q .next { s₁ with heap := h', toks := tk } := by
  refine ⟨h', tk, m, _, rfl, F, fun p hp => ?_, fun p hp => ?_, hJ⟩
  · rcases List.mem_cons.mp hp with rfl | hp
    · exact N _ hI
    rcases List.mem_cons.mp hp with rfl | hp
    · exact N _ hc
    · exact N _ (List.mem_filter.mp (List.mem_filter.mp hp).1).1
  · rcases List.mem_cons.mp hp with rfl | hp
    · exact hcI
    · exact tidy_off p hp
theorem tidy_in {li : Addr} {l : List (Addr × Obj)} {p : Addr × Obj} (hp : p ∈ tidy li l) : p ∈ l := (List.mem_filter.mp hp).1
theorem News.swap9 {h : Heap} {a b : Addr × Obj} {l : List (Addr × Obj)} (N : News h₀ L h (a :: b :: l)) : News h₀ L h (b :: a :: l) := fun p hp => by
  rcases List.mem_cons.mp hp with rfl | hp
  · exact N _ (.tail _ (.head _))
  rcases List.mem_cons.mp hp with rfl | hp
  · exact N _ (.head _)
  · exact N _ (.tail _ (.tail _ hp))
theorem found_c {st dd li rl : Addr} {vs ws : List Value} {R : List Rw} {nn mm : Nat} {now : Int} {x t : Tok} (B : Below A₀ base outer h₀) (F : Fr h₀ L s.heap m) (X : (hd.heap_39 w.params).In h₀) (N : News h₀ L s.heap news) (T : Top hd.view_39 (looseW hd.view_39 []) mean mg mb h₀) (hk : cs.kind = .function)
    (hd : dp + 12 < recursionLimit) (hu : un + 600 < cLine) (hst : (st, instObj 188 dd) ∈ news) (hdd : (dd, dictOf [⟨PyData.keyHash w.params "items", .str "items" x, .ref li⟩] 1) ∈ news) (hli : (li, listOf vs.toArray nn) ∈ news) (he : All2 (ElIn w.params news) vs R) (h8 : R.length < 40) (hO : Ok R)
    (hrl : (rl, listOf ws.toArray mm) ∈ news) (hw : All2 (RowIn news) ws R)
    (ret : ∀ h' tk' news', (∀ p ∈ news, p ∈ news') → Fr h₀ L h' m → News h₀ L h' news' → Q (.bool true) { s with heap := h', toks := tk' }) :
    wpAny (model PySem.Challenge.rw_pf0336_01.row.prog w) (ktrTop dp un gd cn cs L a ccd cl outer) (call (.ref 261) [.ref st, .ref rl, .int now t]) Q E s := by
  revert X; k_fill; intro X
  have hvl := he.length
  have hwl := hw.length
  have h64 : vs.length < 64 := by omega
  have hR64 : R.length < 64 := by omega
  have hOh := hO.hi
  refine wpAny_call ?_
  k_dflt (refine' code_defC ?k1 ?k2 ?k3 ?k4 ?k5 ?kA ?kF ?kK ?k6 ?k7 ?k8 ?k9 ?kB ?kD ?_ ?c2 ?c3 ?c4; (case kA => exact rfl); (case kF => exact rfl); (case kK => first | exact rfl | assumption); (case k1 => k_asm); (case k2 => k_asm); (case k3 => k_asm); (case k4 => k_asm); (case k5 => k_asm); (case k6 => k_is); (case k7 => k_is); (case k8 => ktr_room); (case k9 => first | exact BindsTo.of_eq rfl | exact binds_K (by k_in) rfl (by k_is) rfl rfl rfl); (case kB => exact rfl); (case kD => decide +kernel); (case c2 => exact rfl); (case c3 => exact rfl); (case c4 => exact rfl); k_whole; intro g' L' h' tk' cells' FG' F' N' Y' B' X' T' l1; (try k_lt l1); (obtain ⟨oA, oB, hE9, dA, dB⟩ := PyProof.Rows.CellsAre.two Y'; subst hE9; clear Y'); (try simp only [List.cons_append, List.nil_append] at N'); (try dsimp only); (try k_fold))
  have hcn : oA.data = .cell none := dA
  have hcw : oB.data = .cell (some (.int now t)) := dB
  clear dA dB
  k_steps
  refine' restT_rows (R' := RowIn news) (Out := RowIn news) (test := fun x => live x now) hw ?trn1 ?fin1
  case trn1 =>
    intro v r9 I oI C oC D m₂ h tk E' ys hR hC hx F N off ne
    have hR9 := hR
    obtain ⟨q, b, c, d, j0, j1, j2, j3, tlo, thi, tk, tu, rfl, i0, i1, i2, i3⟩ := hR
    k_steps
    all_goals (refine' LCg.CompEnd.intro (by k_asm) (by with_reducible assumption) _ (fun p hp => hp) off (by lcg_src) ?_)
    all_goals first
      | exact ⟨rfl, Eq.trans (Eq.symm (by with_reducible assumption)) (by with_reducible assumption), hR9⟩
      | exact ⟨rfl, Eq.trans (Eq.symm (by with_reducible assumption)) (by with_reducible assumption)⟩
  case fin1 =>
    intro as9 hA9
    have hal := hA9.length
    have hal2 : (R.filter fun x => live x now).length ≤ R.length := List.length_filter_le _ _
    intro D9 h9 tk9 F9 N9 o9
    k_steps
    k_dflt (refine' range_turns (n := 34) (fun i m₁ nx => ∃ on rest v₀, nx = (L' + 1 + 1, on) :: rest ∧ (∀ p ∈ rest, p.1 ≠ L' + 1 + 1) ∧ on.data = .cell v₀ ∧ (∀ p ∈ (D9, LCg.lst as9) :: (L' + 1, oB) :: news, p ∈ rest) ∧ m₁ (Str.ofString "store") = some (.ref st) ∧ m₁ (Str.ofString "alive") = some (.ref D9)) ?hh ?hr ?hsm ?hsz ?hF ?hN ?hj ?htg ?turn ?done; (case hr => with_reducible assumption); (case hh => rfl); (case hsm => first | rfl | decide); (case hsz => first | rfl | decide); (case hF => k_asm); (case hN => exact News.swap9 (by assumption)); (case htg => intro _ _; rfl))
    case hj =>
      refine ⟨oA, _, none, rfl, fun p hp => ?_, hcn, fun p hp => hp, rfl, rfl⟩
      rcases List.mem_cons.mp hp with rfl | hp
      · exact fun e => o9.1 e.symm
      rcases List.mem_cons.mp hp with rfl | hp
      · exact Nat.ne_of_lt (Nat.lt_succ_self _)
      · have : @LT.lt Nat _ p.1 L' := l1 p hp
        exact Nat.ne_of_lt (by show @LT.lt Nat _ p.1 _; omega)
    case turn =>
      intro i t5 m₁ nx h tk I oI hi hJ hoI _ F N
      obtain ⟨on, rest, v₀, rfl, hor, hod, hsub, e1, e2⟩ := hJ
      rw [map4 e1 e2 e1 e2] at F
      clear e1 e2
      have hsb : ∀ p ∈ news, p ∈ rest := fun p hp => hsub p (.tail _ (.tail _ hp))
      have hDr := hsub _ (.head _)
      have hcr := hsub _ (.tail _ (.head _))
      have hsr := hsb _ hst
      have hdr := hsb _ hdd
      have hlr := hsb _ hli
      have hAr := hA9.mono fun _ _ x => x.sub hsb
      refine wpAny_assign_Name ?_
      k_dflt (refine' storeX_C ?F9 ?N9 ?c9 ?U9 ?d9 ?_ ?a9 ?b9; (case a9 => rfl); (case b9 => rfl); (case F9 => exact F); (case N9 => exact N); (case c9 => rfl); (case U9 => exact .tail (fun e => hoI _ (.head _) e.symm) (.head hor)); (case d9 => exact hod))
      intro h8' o8 F8 N8 d8
      k_steps
      refine' restT_rows (R' := RowIn rest) (Out := RowIn rest) (test := fun x => decide (x.lo ≤ -1 + (i : Int) ∧ -1 + (i : Int) ≤ x.hi)) hAr ?trn2 ?fin2
      case trn2 =>
        intro v r9 I oI C oC D m₂ h tk E' ys hR hC hx F N off ne
        have hR9 := hR
        obtain ⟨q, b, c, d, j0, j1, j2, j3, tlo, thi, tk, tu, rfl, i0, i1, i2, i3⟩ := hR
        k_steps
        all_goals (refine' LCg.CompEnd.intro (by k_asm) (by with_reducible assumption) _ (fun p hp => hp) off (by lcg_src) ?_)
        all_goals first
          | exact ⟨rfl, decide_eq_true ⟨by assumption, by assumption⟩, hR9⟩
          | exact ⟨rfl, decide_eq_false (by omega)⟩
      case fin2 =>
        intro fs9 hF9
        have hfl := hF9.length
        have hfl2 : ((R.filter fun x => live x now).filter fun x => decide (x.lo ≤ -1 + (i : Int) ∧ -1 + (i : Int) ≤ x.hi)).length ≤ (R.filter fun x => live x now).length := List.length_filter_le _ _
        have hfl3 : ((R.filter fun x => live x now).filter fun x => decide (x.lo ≤ -1 + (i : Int) ∧ -1 + (i : Int) ≤ x.hi)).length < 64 := by omega
        intro D6 h6 tk6 F6 N6 o6
        have hF6 := all2_led N6 hF9 (by walk_at "dsub9")
        k_steps
        rename OptRow _ _ _ => hv7
        rw [← find_law hO (-1 + (i : Int)) now] at hv7
        k_dflt (refine' find_c ?B ?F ?X ?N ?T ?k ?d ?u ?a7 ?b7 ?c7 ?e7 ?f7 ?g7 ?i7 ?_; walk_at "kcs9"; (case a7 => k_mem); (case b7 => k_mem); (case c7 => k_mem); (case e7 => exact he.sub fun p hp => .tail _ (.tail _ (.tail _ (.tail _ (hsb p hp))))); (case f7 => with_reducible assumption); (case g7 => with_reducible assumption); (case i7 => k_mem); walk_at "krm9")
        intro h' tk' v9 hv9 F' N'
        rcases opt_cases hv9 with ⟨ho9, rfl⟩ | ⟨r8, ho9, hE8⟩
        · k_steps
          rw [ho9] at hv7
          k_dflt (refine' dat_ne_same ?N4a .none ?s14a hv7.dat ?s24a rfl ?u4a ?_; (case N4a => k_asm); (case s14a => first | exact fun _ hp => hp | walk_at "dsub9"); (case s24a => walk_at "dsub9"); (case u4a => ktr_units))
          k_steps
          refine' turn_next (c := L' + 1 + 1) (oc := o8) ?F5a ?N5a ?h5a ?c5a (hoI _ (.head _)) ⟨o8, _, _, rfl, fun p hp => tidy_off p (tidy_in hp), d8, fun p hp => tidy_mem (tidy_mem ?ma (hor p (hsub p hp))) (hoI p (.tail _ (hsub p hp))), ?x5a, ?y5a⟩
          case N5a => assumption
          case F5a => k_asm
          case x5a => rfl
          case y5a => rfl
          case h5a => k_mem
          case c5a => k_mem
          (have hp9 := hsub p hp); clear hp; (repeat (first | with_reducible exact hp9 | refine List.mem_cons_of_mem _ ?_))
        · k_steps
          rename RowIn _ _ r8 => hR7
          rw [ho9] at hv7
          k_dflt (refine' dat_ne_same ?N4b hR7.dat ?s14b hv7.dat ?s24b (optD_ok (some r8)) ?u4b ?_; (case N4b => k_asm); (case s14b => first | exact fun _ hp => hp | walk_at "dsub9"); (case s24b => walk_at "dsub9"); (case u4b => ktr_units))
          k_steps
          refine' turn_next (c := L' + 1 + 1) (oc := o8) ?F5b ?N5b ?h5b ?c5b (hoI _ (.head _)) ⟨o8, _, _, rfl, fun p hp => tidy_off p (tidy_in hp), d8, fun p hp => tidy_mem (tidy_mem ?mb (hor p (hsub p hp))) (hoI p (.tail _ (hsub p hp))), ?x5b, ?y5b⟩
          case N5b => assumption
          case F5b => k_asm
          case x5b => rfl
          case y5b => rfl
          case h5b => k_mem
          case c5b => k_mem
          (have hp9 := hsub p hp); clear hp; (repeat (first | with_reducible exact hp9 | refine List.mem_cons_of_mem _ ?_))
    case done =>
      intro m₁ nx h tk hJ F N
      obtain ⟨on, rest, v₀, rfl, hor, hod, hsub, e1, e2⟩ := hJ
      k_steps
      exact ret _ _ _ (fun p hp => .tail _ (hsub _ (.tail _ (.tail _ hp)))) (by k_asm) (by with_reducible assumption)

theorem clr_28 : True := by
  w_top off
  k_with_none
  trivial
/-- the eight written starts at fl -/
noncomputable def FirstsIn (news : List (Addr × Obj)) (fl : Addr) : Prop := ∃ (fv : List Value) (n : Nat), (fl, listOf fv.toArray n) ∈ news ∧ fv.length = 8 ∧ ∀ v ∈ fv, ∃ q n0 n1 n2 n3 n4 t0 t1 t2 t3 t4 k, v = .ref q ∧ (q, tupO [.int n0 t0, .int n1 t1, .int n2 t2, .int n3 t3, .int n4 t4] k) ∈ news
theorem FirstsIn.sub {n1 n2 : List (Addr × Obj)} {fl : Addr} (h : FirstsIn n1 fl) (hs : ∀ p ∈ n1, p ∈ n2) : FirstsIn n2 fl := by
  obtain ⟨fv, n, h1, h2, h3⟩ := h
  refine ⟨fv, n, hs _ h1, h2, fun v hv => ?_⟩
  obtain ⟨q, n0, n1, n2, n3, n4, t0, t1, t2, t3, t4, k, rfl, hm⟩ := h3 v hv
  exact ⟨q, n0, n1, n2, n3, n4, t0, t1, t2, t3, t4, k, rfl, hs _ hm⟩
theorem FirstsIn.intro {news : List (Addr × Obj)} {fl : Addr} {fv : List Value} {n : Nat} (h1 : (fl, listOf fv.toArray n) ∈ news) (h2 : fv.length = 8) (h3 : ∀ v ∈ fv, ∃ q n0 n1 n2 n3 n4 t0 t1 t2 t3 t4 k, v = .ref q ∧ (q, tupO [.int n0 t0, .int n1 t1, .int n2 t2, .int n3 t3, .int n4 t4] k) ∈ news) : FirstsIn news fl := ⟨fv, n, h1, h2, h3⟩
/-- between the turns of the law's loop -/
noncomputable def LawJ (P : Params) (g : Heap) (L : Addr) (i : Nat) (m₁ : Str → Option Value) (nx : List (Addr × Obj)) : Prop :=
  ∃ st dd li rl sc fl ok oS oF v₀ items nn rest R ws mm x now tn vs ns,
    nx = (L + 1 + 1 + 1, ok) :: (li, listOf items.toArray nn) :: rest ∧ @Ne Nat (L + 1 + 1 + 1) li ∧ (∀ p ∈ rest, p.1 ≠ L + 1 + 1 + 1) ∧ (∀ p ∈ rest, p.1 ≠ li) ∧ ok.data = .cell v₀ ∧
    (st, instObj 188 dd) ∈ rest ∧ (dd, dictOf [⟨PyData.keyHash P "items", .str "items" x, .ref li⟩] 1) ∈ rest ∧ All2 (ElIn P rest) items R ∧ Ok R ∧ R.length ≤ i ∧
    (rl, listOf ws.toArray mm) ∈ rest ∧ All2 (RowIn rest) ws R ∧
    g.IsList sc vs.toArray ∧ IntsAre vs ns ∧ vs.length < 64 ∧ (L + 1, oS) ∈ rest ∧ oS.data = .cell (some (.ref sc)) ∧ (L + 1 + 1, oF) ∈ rest ∧ oF.data = .cell (some (.ref fl)) ∧ FirstsIn rest fl ∧
    m₁ (Str.ofString "store") = some (.ref st) ∧ m₁ (Str.ofString "rows") = some (.ref rl) ∧ m₁ (Str.ofString "now") = some (.int now tn)
theorem LawJ.intro {P : Params} {g : Heap} {L0 : Addr} {i : Nat} {m₁ : Str → Option Value} {st dd li rl sc fl : Addr} {ok oS oF : Obj} {v₀ : Option Value} {items : List Value} {nn : Nat} {rest : List (Addr × Obj)} {R : List Rw} {ws : List Value} {mm : Nat} {x : Tok} {now : Int} {tn : Tok} {vs : List Value} {ns : List Int}
    (h2 : @Ne Nat (L0 + 1 + 1 + 1) li) (h3 : ∀ p ∈ rest, p.1 ≠ L0 + 1 + 1 + 1) (h4 : ∀ p ∈ rest, p.1 ≠ li) (h5 : ok.data = .cell v₀) (h6 : (st, instObj 188 dd) ∈ rest) (h7 : (dd, dictOf [⟨PyData.keyHash P "items", .str "items" x, .ref li⟩] 1) ∈ rest) (h8 : All2 (ElIn P rest) items R) (h9 : Ok R) (h10 : R.length ≤ i)
    (h11 : (rl, listOf ws.toArray mm) ∈ rest) (h12 : All2 (RowIn rest) ws R) (h13 : g.IsList sc vs.toArray) (h14 : IntsAre vs ns) (h15 : vs.length < 64) (h16 : (L0 + 1, oS) ∈ rest) (h17 : oS.data = .cell (some (.ref sc))) (h18 : (L0 + 1 + 1, oF) ∈ rest) (h19 : oF.data = .cell (some (.ref fl))) (h20 : FirstsIn rest fl)
    (h21 : m₁ (Str.ofString "store") = some (.ref st)) (h22 : m₁ (Str.ofString "rows") = some (.ref rl)) (h23 : m₁ (Str.ofString "now") = some (.int now tn)) : LawJ P g L0 i m₁ ((L0 + 1 + 1 + 1, ok) :: (li, listOf items.toArray nn) :: rest) :=
  ⟨st, dd, li, rl, sc, fl, ok, oS, oF, v₀, items, nn, rest, R, ws, mm, x, now, tn, vs, ns, rfl, h2, h3, h4, h5, h6, h7, h8, h9, h10, h11, h12, h13, h14, h15, h16, h17, h18, h19, h20, h21, h22, h23⟩
theorem tidy2_news {a b : Addr} {oa ob : Obj} {h : Heap} {l : List (Addr × Obj)} (N : News h₀ L h l) (ha : (a, oa) ∈ l) (hb : (b, ob) ∈ l) : News h₀ L h ((a, oa) :: (b, ob) :: tidy b (tidy a l)) := fun p hp => by
  rcases List.mem_cons.mp hp with rfl | hp
  · exact N _ ha
  rcases List.mem_cons.mp hp with rfl | hp
  · exact N _ hb
  · exact N _ (tidy_in (tidy_in hp))
theorem ints_len {vs : List Value} {ns : List Int} (h : IntsAre vs ns) (h2 : ¬ ((63 : Nat) : Int) < (ns.length : Int)) : vs.length < 64 := by
  have := h.length
  omega
theorem law_turns {prog : Program} {A : Around} {E : Value → Shared → Prop} {env : Env} {target : PySem.Expr} {body : List Stmt} {Q : Flow → Shared → Prop} {r : Addr} {a₀ b₀ : Int} {t₀ u₀ v₀ : Tok} {m₀ : Str → Option Value} (n : Nat) (L0 : Addr) (hL : env.locals = L0)
    (hh : A.handled = none) (hr : IsRange s.heap r a₀ b₀ 1 t₀ u₀ v₀) (hsmall : Builtin.Range.small a₀ b₀ 1 = true) (hsz : Builtin.Range.rangeSize a₀ b₀ 1 = (n : Int)) (F : Fr h₀ L0 s.heap m₀) (N : News h₀ L0 s.heap news) (hj : LawJ w.params h₀ L0 0 m₀ news) (htg : ∀ v x, letOwnedTupleGo target v x = pure ())
    (turn : ∀ i t m₁ nx h tk I oI, i < n → LawJ w.params h₀ L0 i m₁ nx → (∀ p ∈ nx, p.1 ≠ I) → (∃ fs, oI.data = .fields fs) → Fr h₀ L0 h m₁ → News h₀ L0 h ((I, oI) :: nx) →
      wpAny (model prog w) A (assign target env (.int (a₀ + (i : Int)) t)) (fun _ s₃ => wpAny (model prog w) A (execs body env) (TurnPost h₀ L0 I oI (LawJ w.params h₀ L0 (i + 1)) { s with heap := h, toks := tk } Q) E s₃) E { s with heap := h, toks := tk })
    (done : ∀ m₁ nx h tk, LawJ w.params h₀ L0 n m₁ nx → Fr h₀ L0 h m₁ → News h₀ L0 h nx → Q .next { s with heap := h, toks := tk }) :
    wpAny (model prog w) A (pyIter (.ref r)) (fun it s₂ => TurnsAt prog w A h₀ env target body Q E it s₂) E s := by
  subst hL
  exact range_turns (fun i m nx => LawJ w.params h₀ env.locals i m nx) hh hr hsmall hsz F N hj htg turn done

theorem clr_29 : True := by
  w_top off
  k_with_none
  trivial
/-- the store at st and the law's rows at rl bear the same rows -/
noncomputable def StIn (P : Params) (news : List (Addr × Obj)) (st rl : Addr) (R : List Rw) : Prop :=
  ∃ (dd li : Addr) (items : List Value) (nn : Nat) (ws : List Value) (mm : Nat) (x : Tok), (st, instObj 188 dd) ∈ news ∧ (dd, dictOf [⟨PyData.keyHash P "items", .str "items" x, .ref li⟩] 1) ∈ news ∧ (li, listOf items.toArray nn) ∈ news ∧ All2 (ElIn P news) items R ∧ (rl, listOf ws.toArray mm) ∈ news ∧ All2 (RowIn news) ws R
theorem StIn.sub {P : Params} {n1 n2 : List (Addr × Obj)} {st rl : Addr} {R : List Rw} (h : StIn P n1 st rl R) (hs : ∀ p ∈ n1, p ∈ n2) : StIn P n2 st rl R := by
  obtain ⟨dd, li, items, nn, ws, mm, x, h1, h2, h3, h4, h5, h6⟩ := h
  exact ⟨dd, li, items, nn, ws, mm, x, hs _ h1, hs _ h2, hs _ h3, h4.sub hs, hs _ h5, h6.mono fun _ _ y => y.sub hs⟩
theorem StIn.empty {P : Params} {news : List (Addr × Obj)} {st rl dd li : Addr} {nn mm : Nat} {x : Tok} (h1 : (st, instObj 188 dd) ∈ news) (h2 : (dd, dictOf [⟨PyData.keyHash P "items", .str "items" x, .ref li⟩] 1) ∈ news) (h3 : (li, listOf #[] nn) ∈ news) (h5 : (rl, listOf #[] mm) ∈ news) : StIn P news st rl [] := ⟨dd, li, [], nn, [], mm, x, h1, h2, h3, .nil, h5, .nil⟩
theorem ok_nil : Ok [] := ⟨(fun _ h => nomatch h), List.Pairwise.nil⟩
theorem obj_ne {h : Heap} {l : List (Addr × Obj)} {a b : Addr} {o1 o2 : Obj} (N : News h₀ L h l) (h1 : (a, o1) ∈ l) (h2 : (b, o2) ∈ l) (hne : o1.cls ≠ o2.cls) : a ≠ b := by
  rintro rfl
  have e := (N _ h1).1
  rw [(N _ h2).1] at e
  exact hne (congrArg Obj.cls (Option.some.inj e)).symm
theorem found_s {st rl : Addr} {R : List Rw} {now : Int} {t : Tok} (B : Below A₀ base outer h₀) (F : Fr h₀ L s.heap m) (X : (hd.heap_39 w.params).In h₀) (N : News h₀ L s.heap news) (T : Top hd.view_39 (looseW hd.view_39 []) mean mg mb h₀) (hk : cs.kind = .function)
    (hd : dp + 12 < recursionLimit) (hu : un + 600 < cLine) (hS : StIn w.params news st rl R) (h8 : R.length < 40) (hO : Ok R)
    (ret : ∀ h' tk' news', (∀ p ∈ news, p ∈ news') → StIn w.params news' st rl R → Fr h₀ L h' m → News h₀ L h' news' → Q (.bool true) { s with heap := h', toks := tk' }) :
    wpAny (model PySem.Challenge.rw_pf0336_01.row.prog w) (ktrTop dp un gd cn cs L a ccd cl outer) (call (.ref 261) [.ref st, .ref rl, .int now t]) Q E s := by
  have hS' := hS
  obtain ⟨dd, li, items, nn, ws, mm, x, h1, h2, h3, h4, h5, h6⟩ := hS
  exact found_c B F X N T hk hd hu h1 h2 h3 h4 h8 hO h5 h6 fun h' tk' news' hs F' N' => ret h' tk' news' hs (hS'.sub hs) F' N'
theorem agrees_s {st rl b : Addr} {R : List Rw} {now lo hi : Int} {t : Tok} (B : Below A₀ base outer h₀) (F : Fr h₀ L s.heap m) (X : (hd.heap_39 w.params).In h₀) (N : News h₀ L s.heap news) (T : Top hd.view_39 (looseW hd.view_39 []) mean mg mb h₀) (hk : cs.kind = .function)
    (hd : dp + 12 < recursionLimit) (hu : un + 600 < cLine) (hS : StIn w.params news st rl R) (h8 : R.length < 40) (hO : Ok R) (hb : BoxIn news (.ref b) lo hi) (hlh : lo ≤ hi)
    (ret : ∀ h' tk' news', (∀ p ∈ news, p ∈ news') → StIn w.params news' st rl R → Fr h₀ L h' m → News h₀ L h' news' → Q (.bool true) { s with heap := h', toks := tk' }) :
    wpAny (model PySem.Challenge.rw_pf0336_01.row.prog w) (ktrTop dp un gd cn cs L a ccd cl outer) (call (.ref 256) [.ref st, .ref rl, .ref b, .int now t]) Q E s := by
  have hS' := hS
  obtain ⟨dd, li, items, nn, ws, mm, x, h1, h2, h3, h4, h5, h6⟩ := hS
  exact agrees_c B F X N T hk hd hu h1 h2 h3 h4 h8 hO h5 h6 hb hlh fun h' tk' news' hs F' N' => ret h' tk' news' hs (hS'.sub hs) F' N'
local macro_rules | `(tactic| walk_at "call ref") => `(tactic| (k_here; (with_reducible show wpAny _ _ (call (Value.ref 261) [Value.ref _, Value.ref _, Value.int _ _]) _ _ _); k_dflt (refine' found_s ?B ?F ?X ?N ?T ?k ?d ?u ?S ?e ?o ?_; walk_at "kcs9"; (case S => exact StIn.sub (by with_reducible assumption) (by walk_at "dsub9")); (case e => with_reducible assumption); (case o => with_reducible assumption); walk_at "krm9"); walk_at "fin9"))
local macro_rules | `(tactic| walk_at "call ref") => `(tactic| (k_here; (with_reducible show wpAny _ _ (call (Value.ref 256) [Value.ref _, Value.ref _, Value.ref _, Value.int _ _]) _ _ _); k_dflt (refine' agrees_s ?B ?F ?X ?N ?T ?k ?d ?u ?S ?e ?o ?b ?l ?_; walk_at "kcs9"; (case S => first | exact StIn.sub (by with_reducible assumption) (by walk_at "dsub9") | exact StIn.empty (by k_mem) (by k_mem) (by k_mem) (by k_mem)); (case e => first | with_reducible assumption | exact (by decide : (0 : Nat) < 40)); (case o => first | with_reducible assumption | exact ok_nil); (case b => exact ⟨_, _, _, _, _, _, rfl, by k_mem, by k_mem⟩); (case l => first | decide | omega | with_reducible assumption); walk_at "krm9"); walk_at "fin9"))
local macro_rules | `(tactic| walk_at "call ref") => `(tactic| (k_here; (show wpAny _ _ (call (Value.ref 185) [Value.ref _]) _ _ _); k_extra "clr9"))
theorem item_first {prog : Program} {A : Around} {value slice : PySem.Expr} {fl : Addr} {n1 : List (Addr × Obj)} {k : Int} {u : Tok} {Q : Value → Shared → Prop} (N : News h₀ L s.heap news) (hF : FirstsIn n1 fl) (hs9 : ∀ p ∈ n1, p ∈ news) (h0 : 0 ≤ k) (h1 : k < 8)
    (h : ∀ q n0 n1' n2 n3 n4 t0 t1 t2 t3 t4 kk, (q, tupO [.int n0 t0, .int n1' t1, .int n2 t2, .int n3 t3, .int n4 t4] kk) ∈ n1 → Q (.ref q) s)
    (hs : subscripted slice false (.ref fl) (.int k u) = operate [.ref fl, .int k u] (getItem (.ref fl) (.int k u)) := by with_unfolding_all rfl) :
    wpAny (model prog w) A (subscriptTail value slice (.ref fl) (.int k u)) Q E s := by
  obtain ⟨fv, n, g1, g2, g3⟩ := hF
  have hlt : k.toNat < fv.length := by omega
  obtain ⟨q, n0, n1', n2, n3, n4, t0, t1, t2, t3, t4, kk, e, hm⟩ := g3 _ (List.getElem_mem hlt)
  exact item_litK ⟨_, (N _ (hs9 _ g1)).1, rfl, n, rfl⟩ h0 (by omega) (List.getElem?_eq_getElem hlt) (e ▸ h q n0 n1' n2 n3 n4 t0 t1 t2 t3 t4 kk hm) hs
local macro_rules | `(tactic| walk_at "call ref") => `(tactic| (k_here; (with_reducible show wpAny _ _ (call (Value.ref 206) [Value.ref _, Value.int _ _]) _ _ _); k_dflt (refine' digit_c ?B ?F ?X ?N ?T ?k ?d ?u ?l ?i ?e ?z ?_; walk_at "kcs9"; (case l => with_reducible assumption); (case i => with_reducible assumption); (case e => with_reducible assumption); (case z => omega); walk_at "krm9"); walk_at "fin9"))
local macro_rules | `(tactic| walk_at "subscriptTail Name Name ref int") => `(tactic| (k_here; walk_at "ssub9"; k_dflt (refine' item_first ?N ?f ?s ?a ?b ?_; (case N => k_asm); (case f => with_reducible assumption); (case s => walk_at "dsub9"); (case a => omega); (case b => omega)); intro q9 n90 n91 n92 n93 n94 t90 t91 t92 t93 t94 k9 hm9))
local macro_rules | `(tactic| walk_at "CompSrc") => `(tactic| (k_here; k_dflt (refine LCg.CompSrc.range (by rfl) (by k_asm) (by k_asm) (by with_reducible assumption) (by first | decide | rfl) (by first | rfl | decide) (by first | size_fits | exact Nat.le_of_ble_eq_true rfl) ?_); intro g9; lcg_lit))
local macro_rules | `(tactic| walk_at "CompRest") => `(tactic| (with_unfolding_all first | (refine LCg.CompRest.succ ?_; intro v9 I9 oI9 C9 oC9 D9 m9 h' tk' E9 hv9 hC9 hx9 F' N' off9 ne9; obtain ⟨t9', hv9'⟩ := hv9; subst hv9') | refine LCg.CompRest.zero ?_))
local macro_rules | `(tactic| walk_at "CompEnd") => `(tactic| (refine' LCg.CompEnd.intro (by k_asm) (by with_reducible assumption) _ (fun p hp => hp) (by with_reducible assumption) (by lcg_src) ?_))

theorem clr_29b : True := by
  w_top off
  k_with_none
  trivial
theorem obj_neO {h : Heap} {l : List (Addr × Obj)} {a b : Addr} {o1 o2 : Obj} (N : News h₀ L h l) (h1 : (a, o1) ∈ l) (h2 : (b, o2) ∈ l) (hne : o1 ≠ o2) : a ≠ b := by
  rintro rfl
  have e := (N _ h1).1
  rw [(N _ h2).1] at e
  exact hne (Option.some.inj e).symm
theorem ne_data {o1 o2 : Obj} (h : o1.data ≠ o2.data) : o1 ≠ o2 := fun e => h (congrArg Obj.data e)
theorem ne_cls {o1 o2 : Obj} (h : o1.cls ≠ o2.cls) : o1 ≠ o2 := fun e => h (congrArg Obj.cls e)
/-- an object that is no part of an element or a row -/
structure Off (o : Obj) : Prop where
  inst : ∀ C d, o ≠ instObj C d
  dict : ∀ es n, o ≠ dictOf es n
  tup : ∀ vs n, o ≠ tupO vs n
theorem off_cell {o : Obj} {v : Option Value} (h : o.data = .cell v) : Off o := ⟨fun C d => ne_data (by rw [h]; exact fun e => nomatch e), fun es n => ne_data (by rw [h]; exact fun e => nomatch e), fun vs n => ne_data (by rw [h]; exact fun e => nomatch e)⟩
theorem off_list (vs : Array Value) (n : Nat) : Off (listOf vs n) := ⟨fun C d => ne_cls (fun e => nomatch e), fun es n => ne_cls (fun e => by injection e with e; exact absurd e (by decide)), fun vs n => ne_cls (fun e => by injection e with e; exact absurd e (by decide))⟩
theorem ElIn.tidyO {P : Params} {h : Heap} {l : List (Addr × Obj)} {x : Addr} {o : Obj} {v : Value} {r : Rw} (H : ElIn P l v r) (N : News h₀ L h l) (hm : (x, o) ∈ l) (ho : Off o) : ElIn P (tidy x l) v r := by
  obtain ⟨e, de, b, c, d, k1, k2, k3, tlo, thi, tk, tu, x1, x2, x3, x4, x5, x6, t0, t1, tc, cc, rfl, h1, h2, h3, h4, h5⟩ := H
  exact ⟨e, de, b, c, d, k1, k2, k3, tlo, thi, tk, tu, x1, x2, x3, x4, x5, x6, t0, t1, tc, cc, rfl, tidy_mem h1 (obj_neO N h1 hm (ho.inst _ _).symm), tidy_mem h2 (obj_neO N h2 hm (ho.dict _ _).symm), tidy_mem h3 (obj_neO N h3 hm (ho.tup _ _).symm), tidy_mem h4 (obj_neO N h4 hm (ho.tup _ _).symm), tidy_mem h5 (obj_neO N h5 hm (ho.tup _ _).symm)⟩
theorem RowIn.tidyO {h : Heap} {l : List (Addr × Obj)} {x : Addr} {o : Obj} {v : Value} {r : Rw} (H : RowIn l v r) (N : News h₀ L h l) (hm : (x, o) ∈ l) (ho : Off o) : RowIn (Mine.tidy x l) v r := by
  obtain ⟨q, b, c, d, k0, k1, k2, k3, tlo, thi, tk, tu, rfl, i0, i1, i2, i3⟩ := H
  exact ⟨q, b, c, d, k0, k1, k2, k3, tlo, thi, tk, tu, rfl, tidy_mem i0 (obj_neO N i0 hm (ho.tup _ _).symm), tidy_mem i1 (obj_neO N i1 hm (ho.tup _ _).symm), tidy_mem i2 (obj_neO N i2 hm (ho.tup _ _).symm), tidy_mem i3 (obj_neO N i3 hm (ho.tup _ _).symm)⟩
theorem FirstsIn.tidyO {h : Heap} {l : List (Addr × Obj)} {x fl : Addr} {o : Obj} (H : FirstsIn l fl) (N : News h₀ L h l) (hm : (x, o) ∈ l) (ho : Off o) (hne : fl ≠ x) : FirstsIn (tidy x l) fl := by
  obtain ⟨fv, n, h1, h2, h3⟩ := H
  refine ⟨fv, n, tidy_mem h1 hne, h2, fun v hv => ?_⟩
  obtain ⟨q, n0, n1, n2, n3, n4, t0, t1, t2, t3, t4, k, rfl, hq⟩ := h3 v hv
  exact ⟨q, n0, n1, n2, n3, n4, t0, t1, t2, t3, t4, k, rfl, tidy_mem hq (obj_neO N hq hm (ho.tup _ _).symm)⟩
theorem tidy_newsS {h : Heap} {x : Addr} {l : List (Addr × Obj)} (N : News h₀ L h l) : News h₀ L h (tidy x l) := fun p hp => N p (tidy_in hp)
theorem told_s {st dd li q b c d : Addr} {items : List Value} {R : List Rw} {nn k0 k1 k2 k3 : Nat} {lo hi k u now : Int} {x t tlo thi tk9 tu : Tok} {bb : Bool} {l n0 : List (Addr × Obj)} (B : Below A₀ base [] h₀) (F : Fr h₀ L s.heap m) (X : (hd.heap_39 w.params).In h₀) (XB : (hd.heap_39 w.params).In base) (N : News h₀ L s.heap l) (T : Top hd.view_39 (looseW hd.view_39 []) mean mg mb h₀) (TB : Top hd.view_39 (looseW hd.view_39 []) mean mg mb base) (hk : cs.kind = .function)
    (hd : dp + 10 < recursionLimit) (hu : un + 500 < cLine) (hli : (li, listOf items.toArray nn) ∈ l) (hst : (st, instObj 188 dd) ∈ l) (hdd : (dd, dictOf [⟨PyData.keyHash w.params "items", .str "items" x, .ref li⟩] 1) ∈ l) (he : All2 (ElIn w.params n0) items R) (hn : ∀ p ∈ n0, p ∈ l) (hno : ∀ p ∈ n0, p.1 ≠ li) (h8 : R.length < 40) (hO : Ok R)
    (g0 : (q, tupO [.ref b, .ref d, .int u tu] k0) ∈ l) (g1 : (b, tupO [.ref c] k1) ∈ l) (g2 : (c, tupO [.int lo tlo, .int hi thi] k2) ∈ l) (g3 : (d, tupO [.int k tk9] k3) ∈ l) (hrr : lo ≤ hi)
    (ret : ∀ h' tk' rest' vs' nn' T, (∀ p ∈ l, p.2 ≠ listOf items.toArray nn → p ∈ rest') → (∀ p ∈ n0, p ∈ rest') → All2 (ElIn w.params rest') vs' (afterT bb R ⟨lo, hi, k, u⟩ now) → DatIn rest' (.ref T) (toldT bb R ⟨lo, hi, k, u⟩ now) →
      (q, tupO [.ref b, .ref d, .int u tu] k0) ∈ rest' → (b, tupO [.ref c] k1) ∈ rest' → (c, tupO [.int lo tlo, .int hi thi] k2) ∈ rest' → (d, tupO [.int k tk9] k3) ∈ rest' → Fr h₀ L h' m → News h₀ L h' ((li, listOf vs'.toArray nn') :: rest') → Q (.ref T) { s with heap := h', toks := tk' }) :
    wpAny (model PySem.Challenge.rw_pf0336_01.row.prog w) (ktrTop dp un gd cn cs L a ccd cl []) (call (.ref 244) [.ref st, .bool bb, .ref q, .int now t]) Q E s := by
  have ol := off_list items.toArray nn
  have t0 := tidy_mem (li := li) g0 (obj_neO N g0 hli (ol.tup _ _).symm)
  have t1 := tidy_mem (li := li) g1 (obj_neO N g1 hli (ol.tup _ _).symm)
  have t2 := tidy_mem (li := li) g2 (obj_neO N g2 hli (ol.tup _ _).symm)
  have t3 := tidy_mem (li := li) g3 (obj_neO N g3 hli (ol.tup _ _).symm)
  exact told_c (r := ⟨lo, hi, k, u⟩) B F X XB (tidy_news N hli) tidy_off T TB hk hd hu (tidy_mem hst (obj_neO N hst hli (ol.inst _ _).symm)) (tidy_mem hdd (obj_neO N hdd hli (ol.dict _ _).symm)) (he.sub (tidy_sub hn hno)) h8 hO ⟨q, b, c, d, k0, k1, k2, k3, tlo, thi, tk9, tu, rfl, t0, t1, t2, t3⟩ hrr
    fun h' tk' rest' vs' nn' T hs ho hA hD F' N' => ret h' tk' rest' vs' nn' T (fun p hp hne => hs p (tidy_mem hp (obj_neO (a := p.1) (o1 := p.2) N hp hli hne))) (fun p hp => hs p (tidy_mem (hn p hp) (hno p hp))) hA hD (hs _ t0) (hs _ t1) (hs _ t2) (hs _ t3) F' N'
theorem item_rowE {prog : Program} {A : Around} {value slice : PySem.Expr} {l : Addr} {vs : List Value} {rs : List Rw} {n1 : List (Addr × Obj)} {nn : Nat} {k : Int} {u : Tok} {Q : Value → Shared → Prop} (N : News h₀ L s.heap news) (hm : (l, listOf vs.toArray nn) ∈ news)
    (he : All2 (RowIn n1) vs rs) (h0 : 0 ≤ k) (h1 : k < (rs.length : Int)) (h8 : rs.length < 64)
    (h : ∀ r, r ∈ rs → ∀ q b c d n0 n1' n2 n3 tlo thi tk tu, (q, tupO [.ref b, .ref d, .int r.u tu] n0) ∈ n1 → (b, tupO [.ref c] n1') ∈ n1 → (c, tupO [.int r.lo tlo, .int r.hi thi] n2) ∈ n1 → (d, tupO [.int r.k tk] n3) ∈ n1 → Q (.ref q) s)
    (hs : subscripted slice false (.ref l) (.int k u) = operate [.ref l, .int k u] (getItem (.ref l) (.int k u)) := by with_unfolding_all rfl) :
    wpAny (model prog w) A (subscriptTail value slice (.ref l) (.int k u)) Q E s :=
  item_row N hm he h0 h1 h8 (fun v r hv hr hR => by
    obtain ⟨q, b, c, d, k0, k1, k2, k3, tlo, thi, tk, tu, rfl, i0, i1, i2, i3⟩ := hR
    exact h r (List.mem_of_getElem? hr) q b c d k0 k1 k2 k3 tlo thi tk tu i0 i1 i2 i3) hs
theorem mod_ne9 {b : Bool} {R : List Rw} (h : b = true ↔ ¬ R.map rowD = []) (hq : b = true) : (R.length : Int) ≠ 0 := by
  have := pos_of h hq
  omega
theorem fm_ge {b : Bool} {R : List Rw} {x : Int} (h : b = true ↔ ¬ R.map rowD = []) (hq : b = true) : 0 ≤ x.fmod (R.length : Int) := Int.fmod_nonneg_of_pos _ (pos_of h hq)
theorem fm_lt {b : Bool} {R : List Rw} {x : Int} (h : b = true ↔ ¬ R.map rowD = []) (hq : b = true) : x.fmod (R.length : Int) < (R.length : Int) := Int.fmod_lt_of_pos _ (pos_of h hq)
theorem le_w (x y : Int) : x.fmod 24 ≤ x.fmod 24 + y.fmod 8 := by
  have := Int.fmod_nonneg_of_pos y (b := 8) (by decide)
  omega
theorem toldD_ok (o : Option Rw) {c y : Str} (hc : PyData.strOk c = true) (hy : PyData.strOk y = true) : kqdOk 8 (toldD o c y) = true := by
  cases o with
  | none => simp [toldD, kqdOk, hc, hy]
  | some r =>
    have : kqdOk 7 (rowD r) = true := rfl
    simp [toldD, kqdOk, hc, hy, this]
theorem due_ok {R : List Rw} (hO : Ok R) {r : Rw} (hr : r.lo ≤ r.hi) (now : Int) : kqdOk 8 (dueD R r now) = true := by
  by_cases h : lawNear R r now = []
  · rw [(due_none hO hr h).2]
    exact toldD_ok _ (by decide +kernel) (by decide +kernel)
  · rw [(due_some hO hr h).2]
    split
    · exact toldD_ok _ (by decide +kernel) (by decide +kernel)
    · exact toldD_ok _ (by decide +kernel) (by decide +kernel)
theorem dropD_ok (R : List Rw) (lo hi : Int) : kqdOk 8 (dropD R lo hi) = true := by
  unfold dropD
  split
  · exact toldD_ok _ (by decide +kernel) (by decide +kernel)
  · exact toldD_ok _ (by decide +kernel) (by decide +kernel)
theorem put_ok {R : List Rw} (hO : Ok R) {r : Rw} (hr : r.lo ≤ r.hi) (now : Int) : Ok (putS R r now).1 ∧ (putS R r now).1.length ≤ R.length + 1 := by
  have hl := left_len R r now
  by_cases h : lawNear R r now = []
  · rw [(due_none hO hr h).1]
    exact ⟨(hO.left r now).ins hr (near_nil h), by rw [ins_len]; omega⟩
  · rw [(due_some hO hr h).1]
    exact ⟨hO.left r now, by omega⟩
theorem off_fields {o : Obj} {fs : Array Value} (h : o.data = .fields fs) : Off o := ⟨fun C d => ne_data (by rw [h]; exact fun e => nomatch e), fun es n => ne_data (by rw [h]; exact fun e => nomatch e), fun vs n => ne_data (by rw [h]; exact fun e => nomatch e)⟩
theorem law_next {I li st dd rl sc fl : Addr} {oI ok oS oF : Obj} {v₀ : Option Value} {items : List Value} {nn : Nat} {R : List Rw} {ws : List Value} {mm : Nat} {x : Tok} {now : Int} {tn : Tok} {vs : List Value} {ns : List Int} {i : Nat} {s₁ : Shared} {Q : Flow → Shared → Prop} {h' : Heap} {tk : Nat} {l : List (Addr × Obj)} (F : Fr h₀ L h' m) (N : News h₀ L h' l) (hI : (I, oI) ∈ l) (hK : (L + 1 + 1 + 1, ok) ∈ l) (hfd : ∃ fs, oI.data = .fields fs) (h5 : ok.data = .cell v₀)
    (h6 : (st, instObj 188 dd) ∈ l) (h7 : (dd, dictOf [⟨PyData.keyHash w.params "items", .str "items" x, .ref li⟩] 1) ∈ l) (hli : (li, listOf items.toArray nn) ∈ l) (h8 : All2 (ElIn w.params l) items R) (h9 : Ok R) (h10 : R.length ≤ i)
    (h11 : (rl, listOf ws.toArray mm) ∈ l) (hrl : rl ≠ li) (h12 : All2 (RowIn l) ws R) (h13 : h₀.IsList sc vs.toArray) (h14 : IntsAre vs ns) (h15 : vs.length < 64) (h16 : (L + 1, oS) ∈ l) (h17 : oS.data = .cell (some (.ref sc))) (h18 : (L + 1 + 1, oF) ∈ l) (h19 : oF.data = .cell (some (.ref fl))) (h20 : FirstsIn l fl) (hfl : fl ≠ li)
    (h21 : m (Str.ofString "store") = some (.ref st)) (h22 : m (Str.ofString "rows") = some (.ref rl)) (h23 : m (Str.ofString "now") = some (.int now tn)) : TurnPost h₀ L I oI (LawJ w.params h₀ L i) s₁ Q .next { s₁ with heap := h', toks := tk } := by
  obtain ⟨fs, hfd⟩ := hfd
  have oc := off_cell h5
  have oi := off_fields hfd
  have hIl2 : ∀ (vs : Array Value) n, oI ≠ listOf vs n := fun vs n => ne_data (by rw [hfd]; exact fun e => nomatch e)
  have hIc : ∀ (o : Obj) {v : Option Value}, o.data = .cell v → oI ≠ o := fun o v hv => ne_data (by rw [hfd, hv]; exact fun e => nomatch e)
  have hKI : @Ne Nat (L + 1 + 1 + 1) I := obj_neO N hK hI (hIc _ h5).symm
  have hliI : @Ne Nat li I := obj_neO N hli hI (hIl2 _ _).symm
  have ol := off_list items.toArray nn
  have cl9 : ok ≠ listOf items.toArray nn := ne_data (by rw [h5]; exact fun e => nomatch e)
  have hKl : @Ne Nat (L + 1 + 1 + 1) li := obj_neO N hK hli cl9
  have N1 : News h₀ L h' (tidy (L + 1 + 1 + 1) l) := tidy_newsS N
  have hli1 : (li, listOf items.toArray nn) ∈ tidy (L + 1 + 1 + 1) l := tidy_mem hli (Ne.symm hKl)
  have two : ∀ p ∈ l, p.1 ≠ L + 1 + 1 + 1 → p.1 ≠ li → p ∈ tidy li (tidy (L + 1 + 1 + 1) l) := fun p hp h1 h2 => tidy_mem (tidy_mem hp h1) h2
  have N2 : News h₀ L h' (tidy li (tidy (L + 1 + 1 + 1) l)) := tidy_newsS N1
  have thr : ∀ p ∈ l, p.1 ≠ L + 1 + 1 + 1 → p.1 ≠ li → p.1 ≠ I → p ∈ tidy I (tidy li (tidy (L + 1 + 1 + 1) l)) := fun p hp h1 h2 h3 => tidy_mem (two p hp h1 h2) h3
  refine ⟨h', tk, m, (L + 1 + 1 + 1, ok) :: (li, listOf items.toArray nn) :: tidy I (tidy li (tidy (L + 1 + 1 + 1) l)), rfl, F, fun p hp => ?_, fun p hp => ?_, ?_⟩
  · rcases List.mem_cons.mp hp with rfl | hp
    · exact N _ hI
    rcases List.mem_cons.mp hp with rfl | hp
    · exact N _ hK
    rcases List.mem_cons.mp hp with rfl | hp
    · exact N _ hli
    · exact N _ (tidy_in (tidy_in (tidy_in hp)))
  · rcases List.mem_cons.mp hp with rfl | hp
    · exact hKI
    rcases List.mem_cons.mp hp with rfl | hp
    · exact hliI
    · exact tidy_off p hp
  · refine' LawJ.intro hKl (fun p hp => tidy_off p (tidy_in (tidy_in hp))) (fun p hp => tidy_off p (tidy_in hp)) h5 ?m6 ?m7 ?m8 h9 h10 ?m11 ?m12 h13 h14 h15 ?m16 h17 ?m18 h19 ?m20 h21 h22 h23
    case m6 => exact thr _ h6 (obj_neO N h6 hK (oc.inst _ _).symm) (obj_neO N h6 hli (ol.inst _ _).symm) (obj_neO N h6 hI (oi.inst _ _).symm)
    case m7 => exact thr _ h7 (obj_neO N h7 hK (oc.dict _ _).symm) (obj_neO N h7 hli (ol.dict _ _).symm) (obj_neO N h7 hI (oi.dict _ _).symm)
    case m8 => exact h8.mono fun _ _ y => ((y.tidyO N hK oc).tidyO N1 hli1 ol).tidyO N2 (two _ hI (Ne.symm hKI) (Ne.symm hliI)) oi
    case m11 => exact thr _ h11 (obj_neO N h11 hK (ne_data (by rw [h5]; exact fun e => nomatch e))) hrl (obj_neO N h11 hI (hIl2 _ _).symm)
    case m12 => exact h12.mono fun _ _ y => ((y.tidyO N hK oc).tidyO N1 hli1 ol).tidyO N2 (two _ hI (Ne.symm hKI) (Ne.symm hliI)) oi
    case m16 => exact thr _ h16 (Nat.ne_of_lt (by show @LT.lt Nat _ (L + 1) _; omega)) (obj_neO N h16 hli (ne_data (by rw [h17]; exact fun e => nomatch e))) (obj_neO N h16 hI (hIc _ h17).symm)
    case m18 => exact thr _ h18 (Nat.ne_of_lt (by show @LT.lt Nat _ (L + 1 + 1) _; omega)) (obj_neO N h18 hli (ne_data (by rw [h19]; exact fun e => nomatch e))) (obj_neO N h18 hI (hIc _ h19).symm)
    case m20 => exact ((h20.tidyO N hK oc (obj_neO N h20.choose_spec.choose_spec.1 hK (ne_data (by rw [h5]; exact fun e => nomatch e)))).tidyO N1 hli1 ol hfl).tidyO N2 (two _ hI (Ne.symm hKI) (Ne.symm hliI)) oi (obj_neO N h20.choose_spec.choose_spec.1 hI (hIl2 _ _).symm)
local macro_rules | `(tactic| walk_at "binaryOp Mod int int") => `(tactic| (k_here; (with_reducible refine mod_int' ?e ?_); (case e => first | decide | exact mod_ne9 (by assumption) (by assumption))))
local macro_rules | `(tactic| walk_at "subscriptTail Name BinOp ref int") => `(tactic| (k_here; walk_at "ssub9"; k_dflt (refine' item_rowE ?N ?m ?e ?a ?b ?c ?_; (case N => k_asm); (case m => k_mem); (case e => with_reducible assumption); (case a => exact fm_ge (by assumption) (by assumption)); (case b => exact fm_lt (by assumption) (by assumption)); (case c => with_reducible assumption)); intros))
noncomputable def Stop (p : Prop) : Prop := p
theorem Stop.of {p : Prop} (h : Stop p) : p := h
theorem Stop.mk {p : Prop} (h : p) : Stop p := h
theorem Ok.le9 {R : List Rw} {r : Rw} (h : Ok R) (hm : r ∈ R) : r.lo ≤ r.hi := h.1 r hm
theorem le9b {R : List Rw} {r : Rw} (hm : r ∈ R) (h : Ok R) : r.lo ≤ r.hi := h.1 r hm
theorem row_parts {l : List (Addr × Obj)} {q b c d : Addr} {k0 k1 k2 k3 : Nat} {lo hi k u : Int} {tlo thi tk tu : Tok} (g0 : (q, tupO [.ref b, .ref d, .int u tu] k0) ∈ l) (g1 : (b, tupO [.ref c] k1) ∈ l) (g2 : (c, tupO [.int lo tlo, .int hi thi] k2) ∈ l) (g3 : (d, tupO [.int k tk] k3) ∈ l) : RowIn l (.ref q) ⟨lo, hi, k, u⟩ := ⟨q, b, c, d, k0, k1, k2, k3, tlo, thi, tk, tu, rfl, g0, g1, g2, g3⟩
theorem all2_sub {n1 n2 : List (Addr × Obj)} {zs : List Value} {S : List Rw} (hA : All2 (RowIn n1) zs S) (hs : ∀ p ∈ n1, p ∈ n2) : All2 (RowIn n2) zs S := hA.mono fun _ _ y => y.sub hs
theorem lput_fin {P : Params} {r7 : List (Addr × Obj)} {vs7 : List Value} {T : Value} {R : List Rw} {r : Rw} {now : Int} {bb : Bool} (hb : bb = true) (hO : Ok R) (hA : All2 (ElIn P r7) vs7 (afterT bb R r now)) (hD : DatIn r7 T (toldT bb R r now)) (hr : r.lo ≤ r.hi) :
    All2 (ElIn P r7) vs7 (putS R r now).1 ∧ DatIn r7 T (dueD R r now) ∧ Ok (putS R r now).1 ∧ (putS R r now).1.length ≤ R.length + 1 ∧ kqdOk 8 (dueD R r now) = true := by
  subst hb
  exact ⟨hA, hD, (put_ok hO hr now).1, (put_ok hO hr now).2, due_ok hO hr now⟩
theorem ldrop_fin {P : Params} {r7 : List (Addr × Obj)} {vs7 : List Value} {T : Value} {R : List Rw} {r : Rw} {now : Int} {bb : Bool} (hb : bb = false) (hO : Ok R) (hA : All2 (ElIn P r7) vs7 (afterT bb R r now)) (hD : DatIn r7 T (toldT bb R r now)) :
    All2 (ElIn P r7) vs7 (R.filter fun x => !decide (x.lo = r.lo ∧ x.hi = r.hi)) ∧ DatIn r7 T (dropD R r.lo r.hi) ∧ Ok (R.filter fun x => !decide (x.lo = r.lo ∧ x.hi = r.hi)) ∧ (R.filter fun x => !decide (x.lo = r.lo ∧ x.hi = r.hi)).length ≤ R.length + 1 ∧ kqdOk 8 (dropD R r.lo r.hi) = true := by
  subst hb
  have hl : (R.filter fun x => !decide (x.lo = r.lo ∧ x.hi = r.hi)).length ≤ R.length := List.length_filter_le _ _
  exact ⟨hA, hD, hO.sub List.filter_sublist, by omega, dropD_ok _ _ _⟩
local macro_rules | `(tactic| walk_at "call ref") => `(tactic| (k_here; (with_reducible show wpAny _ _ (call (Value.ref 244) [Value.ref _, Value.bool _, Value.ref _, Value.int _ _]) _ _ _); k_dflt (refine' told_s ?B ?F ?X ?XB ?N ?T ?TB ?k ?d ?u ?li ?st ?dd ?e ?n ?no ?h8 ?O ?g0 ?g1 ?g2 ?g3 ?r ?_; walk_at "kcs9"; (case XB => assumption); (case TB => assumption); (case st => k_mem); (case dd => k_mem); (case li => k_mem); (case e => with_reducible assumption); (case n => walk_at "dsub9"); (case no => with_reducible assumption); (case h8 => with_reducible assumption); (case O => with_reducible assumption); (case g0 => k_mem); (case g1 => k_mem); (case g2 => k_mem); (case g3 => k_mem); (case r => first | exact le_w _ _ | exact le9b (by with_reducible assumption) (by with_reducible assumption) | assumption); walk_at "krm9"); (try dsimp only); refine Stop.of ?_))
local macro_rules | `(tactic| walk_at "call ref") => `(tactic| (k_here; (with_reducible show wpAny _ _ (call (Value.ref 225) [Value.ref _, Value.ref _, Value.int _ _]) _ _ _); first | (k_dflt (refine' law_put_c ?B ?F ?X ?N ?T ?k ?d ?u ?m ?e ?h8 ?q ?O ?r ?_; walk_at "kcs9"; (case m => k_mem); (case e => exact all2_sub (by with_reducible assumption) (by walk_at "dsub9")); (case h8 => with_reducible assumption); (case q => exact row_parts (by k_mem) (by k_mem) (by k_mem) (by k_mem)); (case O => with_reducible assumption); (case r => first | exact le_w _ _ | (dsimp only; first | exact le9b (by with_reducible assumption) (by with_reducible assumption) | assumption)); walk_at "krm9"); (try dsimp only); refine Stop.of ?_) | refine Stop.of ?_))
local macro_rules | `(tactic| walk_at "call ref") => `(tactic| (k_here; (with_reducible show wpAny _ _ (call (Value.ref 230) [Value.ref _, Value.ref _]) _ _ _); first | (k_dflt (refine' law_drop_c ?B ?F ?X ?N ?T ?k ?d ?u ?m ?e ?h8 ?b ?_; walk_at "kcs9"; (case m => k_mem); (case e => exact all2_sub (by with_reducible assumption) (by walk_at "dsub9")); (case h8 => with_reducible assumption); (case b => exact ⟨_, _, _, _, _, _, rfl, by k_mem, by k_mem⟩); walk_at "krm9"); (try dsimp only); refine Stop.of ?_) | refine Stop.of ?_))
local macro_rules | `(tactic| walk_at "call ref") => `(tactic| (k_here; (with_reducible show wpAny _ _ (call (Value.ref 256) [Value.ref _, Value.ref _, Value.ref _, Value.int _ _]) _ _ _); first | (k_dflt (refine' agrees_s ?B ?F ?X ?N ?T ?k ?d ?u ?S ?e ?o ?b ?l ?_; walk_at "kcs9"; (case S => first | exact StIn.sub (by with_reducible assumption) (by walk_at "dsub9") | exact StIn.empty (by k_mem) (by k_mem) (by k_mem) (by k_mem)); (case e => first | with_reducible assumption | exact (by decide : (0 : Nat) < 40)); (case o => first | with_reducible assumption | exact ok_nil); (case b => exact ⟨_, _, _, _, _, _, rfl, by k_mem, by k_mem⟩); (case l => first | decide | exact le_w _ _ | exact le9b (by with_reducible assumption) (by with_reducible assumption) | assumption); walk_at "krm9"); walk_at "fin9") | refine Stop.of ?_))

theorem clr_29c : True := by
  w_top off
  k_with_none
  trivial
/-- an IfExp over ints, its two ways brought together -/
noncomputable def IntOut (s : Shared) (v : Value) (s' : Shared) : Prop := ∃ u t tk', v = .int u t ∧ s' = { s with toks := tk' }
theorem ifexp_join {prog : Program} {A : Around} {a b c : PySem.Expr} {p : Pos} {env : Env}
    (h2 : ∀ u t tk', Q (.int u t) { s with toks := tk' }) (h1 : wpAny (model prog w) A (eval (.IfExp a b c p) env) (IntOut s) E s) :
    wpAny (model prog w) A (eval (.IfExp a b c p) env) Q E s :=
  wpAny_mono h1 (fun v s' h => by
    obtain ⟨u, t, tk', rfl, rfl⟩ := h
    exact h2 u t tk') fun _ _ h => h
/-- behind the If that may take another box -/
noncomputable def BoxOut (h₀ : Heap) (L : Addr) (m : Str → Option Value) (news : List (Addr × Obj)) (s : Shared) (fl : Flow) (s' : Shared) : Prop :=
  ∃ h' tk' bq b2 lo hi t1 t2 k1 k2, fl = .next ∧ s' = { s with heap := h', toks := tk' } ∧ (bq, tupO [.ref b2] k1) ∈ news ∧ (b2, tupO [.int lo t1, .int hi t2] k2) ∈ news ∧ lo ≤ hi ∧ Fr h₀ L h' (fun k => if k = Str.ofString "box" then some (.ref bq) else m k) ∧ News h₀ L h' news
theorem upd_same {m : Str → Option Value} {x : Str} {v : Value} (h : m x = some v) : (fun k => if k = x then some v else m k) = m := by
  funext k
  by_cases e : k = x
  · rw [if_pos e, e, h]
  · rw [if_neg e]
theorem BoxOut.same {h' : Heap} {tk' : Tok} {bq b2 : Addr} {lo hi : Int} {t1 t2 k1 k2 : Nat} {n2 : List (Addr × Obj)} (F : Fr h₀ L h' m) (N : News h₀ L h' n2) (hm : m (Str.ofString "box") = some (.ref bq)) (hs : ∀ p ∈ news, p ∈ n2)
    (h1 : (bq, tupO [.ref b2] k1) ∈ news) (h2 : (b2, tupO [.int lo t1, .int hi t2] k2) ∈ news) (h3 : lo ≤ hi) : BoxOut h₀ L m news s .next { s with heap := h', toks := tk' } :=
  ⟨h', tk', bq, b2, lo, hi, t1, t2, k1, k2, rfl, rfl, h1, h2, h3, by rw [upd_same hm]; exact F, fun p hp => N p (hs p hp)⟩
theorem BoxOut.new {h' : Heap} {tk' : Tok} {bq b2 : Addr} {lo hi : Int} {t1 t2 k1 k2 : Nat} {n2 : List (Addr × Obj)} (F : Fr h₀ L h' (fun k => if k = Str.ofString "box" then some (.ref bq) else m k)) (N : News h₀ L h' n2) (hs : ∀ p ∈ news, p ∈ n2)
    (h1 : (bq, tupO [.ref b2] k1) ∈ news) (h2 : (b2, tupO [.int lo t1, .int hi t2] k2) ∈ news) (h3 : lo ≤ hi) : BoxOut h₀ L m news s .next { s with heap := h', toks := tk' } :=
  ⟨h', tk', bq, b2, lo, hi, t1, t2, k1, k2, rfl, rfl, h1, h2, h3, F, fun p hp => N p (hs p hp)⟩
theorem if_join {prog : Program} {A : Around} {a : PySem.Expr} {b c : List Stmt} {p : Pos} {env : Env} {Q : Flow → Shared → Prop} (F : Fr h₀ L s.heap m) (N : News h₀ L s.heap news)
    (h2 : ∀ h' tk' bq b2 lo hi t1 t2 k1 k2, lo ≤ hi → Fr h₀ L h' (fun k => if k = Str.ofString "box" then some (.ref bq) else m k) → News h₀ L h' ((bq, tupO [.ref b2] k1) :: (b2, tupO [.int lo t1, .int hi t2] k2) :: news) → Q .next { s with heap := h', toks := tk' })
    (h1 : wpAny (model prog w) A (exec (.If a b c p) env) (BoxOut h₀ L m news s) E s) :
    wpAny (model prog w) A (exec (.If a b c p) env) Q E s :=
  wpAny_mono h1 (fun v s' h => by
    obtain ⟨h', tk', bq, b2, lo, hi, t1, t2, k1, k2, rfl, rfl, i1, i2, i3, i4, i5⟩ := h
    exact h2 h' tk' bq b2 lo hi t1 t2 k1 k2 i3 i4 (fun p hp => by
      rcases List.mem_cons.mp hp with rfl | hp
      · exact i5 _ i1
      rcases List.mem_cons.mp hp with rfl | hp
      · exact i5 _ i2
      · exact i5 _ hp)) fun _ _ h => h
local macro_rules | `(tactic| walk_at "IntOut") => `(tactic| exact ⟨_, _, _, rfl, rfl⟩)
local macro_rules | `(tactic| walk_at "BoxOut") => `(tactic| first | (refine' BoxOut.same ?F ?N ?hm ?hs ?a ?b ?c; (case F => k_asm); (case N => k_asm); (case hm => rfl); (case hs => walk_at "dsub9"); (case a => k_mem); (case b => k_mem); (case c => exact le_w _ _)) | (refine' BoxOut.new ?F ?N ?hs ?a ?b ?c; (case F => k_asm); (case N => k_asm); (case hs => walk_at "dsub9"); (case a => k_mem); (case b => k_mem); (case c => exact le9b (by with_reducible assumption) (by with_reducible assumption))))
local macro_rules | `(tactic| walk_at "eval IfExp") => `(tactic| (k_here; (fail_if_success (with_reducible show wpAny _ _ _ (IntOut _) _ _)); (refine ifexp_join ?_ ?_); walk_at "fin9"))
local macro_rules | `(tactic| walk_at "exec If") => `(tactic| (k_here; (with_reducible show wpAny _ _ (exec (Stmt.If (Expr.BoolOp BoolOp.And _ _) _ _ _) _) _ _ _); (fail_if_success (with_reducible show wpAny _ _ _ (BoxOut _ _ _ _ _) _ _)); (refine' if_join ?F ?N ?_ ?_; (case F => k_asm); (case N => with_reducible assumption)); walk_at "fin9"))

theorem clr_29d : True := by
  w_top off
  k_with_none
  trivial
theorem law_w : PySem.Challenge.rw_pf0336_01.Holds := by
  refine holds_law said_law fun said => ?_
  refine holds_open (q := hd.view_39) (loose := []) (Xt := (fun s => xlAt hd.view_39 [] s && recOk (RowW.records (OpenRow.toRowW (OpenLaw.row PySem.Challenge.rw_pf0336_01))) s)) (XP := XL hd.view_39 []) (Yf := Hook.obs (kHook hd.heap_39 keysL keysL_eq)) (Ya := Hook.val (kHook hd.heap_39 keysL keysL_eq)) (YP := Hook.says (kHook hd.heap_39 keysL keysL_eq)) (N := 3920) left_top (Hook.of (kHook hd.heap_39 keysL keysL_eq)) (Hook.keeps (kHook hd.heap_39 keysL keysL_eq)) (fun s e => xl_of s (Bool.and_eq_true_iff.mp e).1) XL.keeps (by rfl) (by rfl) (by rfl) (fun s e => recFacts_of (Bool.and_eq_true_iff.mp e).2) (by rfl) said (by decide +kernel) ⟨rfl, rfl, rfl, rfl, rfl, by decide +kernel⟩ ?hw ?hc
  case hw => w_witness2
  clear said
  k_fill
  intro w s₀ s₁ mg mb G Y fa o pm cd doc dV kV ho hd hcd hD hmg hg args vals as hpre hlay hrd hwl hlo
  have KX := kIn_of Y
  k_behind G ho hd hcd hD hmg hpre hlay hrd hwl hlo cd
  all_goals try k_fold
  have hlen9 := ints_len (by assumption) (by assumption)
  k_steps
  k_dflt (refine' law_turns 8 s₁.heap.objs.size rfl ?hh ?hr ?hsm ?hsz ?hF ?hN ?hj ?htg ?turn ?done; (case hr => with_reducible assumption); (case hh => rfl); (case hsm => first | rfl | decide); (case hsz => first | rfl | decide); (case hF => k_asm); (case hN => exact tidy2_news (a := s₁.heap.objs.size + 1 + 1 + 1) (by assumption) (by k_mem) (.tail _ (.head _))); (case htg => intro _ _; rfl))
  case hj =>
    refine' LawJ.intro (items := []) (R := []) (ws := []) ?h2 (fun p hp => tidy_off p (tidy_in hp)) tidy_off ?h5 (tidy_mem (tidy_mem (.tail _ (.tail _ (.head _))) ?n1) ?n2) (tidy_mem (tidy_mem (.tail _ (.tail _ (.tail _ (.head _)))) ?n3) ?n4) .nil ?h9 (Nat.le_refl _) (tidy_mem (tidy_mem (.head _) ?n5) ?n6) .nil ?h13 ?h14 ?h15 (tidy_mem (tidy_mem ?h16 ?n7) ?n8) ?h17 (tidy_mem (tidy_mem ?h18 ?n9) ?n10) ?h19 ?h20 rfl rfl rfl
    case h16 => k_mem
    case h18 => k_mem
    case h9 => exact ⟨(fun _ h => nomatch h), List.Pairwise.nil⟩
    case h13 => assumption
    case h14 => assumption
    case h15 => exact hlen9
    case h5 => assumption
    case h17 => assumption
    case h19 => assumption
    case h2 => show @Ne Nat (s₁.heap.objs.size + 1 + 1 + 1) _; omega
    case n7 => show @Ne Nat (s₁.heap.objs.size + 1) _; omega
    case n8 => show @Ne Nat (s₁.heap.objs.size + 1) _; omega
    case n9 => show @Ne Nat (s₁.heap.objs.size + 1 + 1) _; omega
    case n10 => show @Ne Nat (s₁.heap.objs.size + 1 + 1) _; omega
    case h20 =>
      refine' FirstsIn.intro (tidy_mem (tidy_mem ?f1 ?n11) ?n12) ?flen ?fall
      case f1 => k_mem
      case flen => rfl
      case fall =>
        intro v hv
        simp only [List.mem_cons, List.not_mem_nil, or_false] at hv
        rcases hv with rfl | rfl | rfl | rfl | rfl | rfl | rfl | rfl
        all_goals exact ⟨_, _, _, _, _, _, _, _, _, _, _, _, rfl, tidy_mem (tidy_mem (by k_mem) (by k_ne)) (by k_ne)⟩
      all_goals k_ne
    all_goals k_ne
  case turn =>
    repeat (rename News _ _ _ _ => hh; clear hh)
    repeat (rename Fr _ _ _ _ => hh; clear hh)
    repeat (rename (_ ∧ _) => hh; clear hh)
    repeat (rename IsRange _ _ _ _ _ _ _ _ => hh; clear hh)
    rename Below _ _ _ _ => hB9
    clear hB9
    rename Top _ _ _ _ _ _ => hT9
    clear hT9
    intro i t5 m₁ nx h tk I oI hi hJ hoI hfd F N
    obtain ⟨st, dd, li, rl, sc, fl, ok, oS, oF, v₀, items, nn, rest, R, ws, mm, x, now, tn, vs, ns, rfl, j2, j3, j4, j5, j6, j7, j8, j9, j10, j11, j12, j13, j14, j15, j16, j17, j18, j19, j20, j21, j22, j23⟩ := hJ
    rw [map4 j21 j22 j23 j23] at F
    clear j21 j22 j23
    refine wpAny_assign_Name ?_
    k_dflt (refine' storeX_C (c := s₁.heap.objs.size + 1 + 1 + 1) ?F9 ?N9 ?c9 ?U9 ?d9 ?_ ?a9 ?b9; (case a9 => rfl); (case b9 => rfl); (case F9 => exact F); (case N9 => exact N); (case c9 => rfl); (case U9 => exact .tail (fun e => hoI _ (.head _) e.symm) (.head (List.forall_mem_cons.mpr ⟨Ne.symm j2, j3⟩))); (case d9 => exact j5))
    intro h8' o8 F8 N8 d8
    clear F N hlen9
    try dsimp only at N8
    have hR40 : R.length < 40 := by omega
    have hR64 : R.length < 64 := by omega
    have hRD : DatIn rest (.ref rl) (.list (R.map rowD)) := .list j11 (rows_dat j12)
    have hR9 : R.length < 9 := by omega
    have hflne : fl ≠ li := j4 _ j20.choose_spec.choose_spec.1
    have hIl : ∀ (us : Array Value) (n : Nat), oI ≠ listOf us n := fun us n => by
      obtain ⟨fs, hfs⟩ := hfd
      exact ne_data (by rw [hfs]; exact fun e => nomatch e)
    have hKl : ∀ (us : Array Value) (n : Nat), o8 ≠ listOf us n := fun us n => ne_data (by rw [d8]; exact fun e => nomatch e)
    k_steps
    all_goals (
      refine Stop.mk ?_
      intro h7 tk7 r7 vs7 nn7 T7 hs7 hn7 hA7 hD7 g07 g17 g27 g37 F7 N7
      have hI7 := hs7 (I, oI) (by k_mem) (hIl _ _)
      have hK7 := hs7 (s₁.heap.objs.size + 1 + 1 + 1, o8) (by k_mem) (hKl _ _)
      have hst7 := hn7 _ j6
      have hdd7 := hn7 _ j7
      have hrl7 := hn7 _ j11
      have hcS7 := hn7 _ j16
      have hcF7 := hn7 _ j18
      have hF7 := j20.sub hn7
      have hw7 := all2_sub j12 hn7
      try dsimp only)
    all_goals k_steps
    all_goals (
      refine Stop.mk ?_
      intro h6 tk6 n6 qq6 kq6 D6 T6 zs6 c6 hs6 F6 N6 hq6 hD6 ho6 hz6 hd6
      have hs67 : ∀ p ∈ r7, p ∈ n6 := fun p hp => hs6 p (.tail _ hp)
      have hli6 := hs6 _ (.head _)
      have hI6 := hs67 _ hI7
      have hK6 := hs67 _ hK7
      have hst6 := hs67 _ hst7
      have hdd6 := hs67 _ hdd7
      have hcS6 := hs67 _ hcS7
      have hcF6 := hs67 _ hcF7
      have hF6 := hF7.sub hs67
      have hb6 := hs67 _ g17
      have hc6 := hs67 _ g27
      try dsimp only)
    all_goals first
      | (obtain ⟨hA6, hE6, hO6, hL6, hk6⟩ := lput_fin (decide_eq_true (by with_reducible assumption)) j9 hA7 hD7 (by first | exact le_w _ _ | assumption | (dsimp only; assumption) | (dsimp only; exact Ok.le9 j9 (by with_reducible assumption)))
         have hne6 : D6 ≠ li := (ho6 _ (.head _)).symm
         have hS6 : StIn w.params n6 st D6 _ := ⟨dd, li, vs7, nn7, zs6, c6, x, hst6, hdd6, hli6, hA6.sub hs67, hD6, hz6⟩)
      | (obtain ⟨hA6, hE6, hO6, hL6, hk6⟩ := ldrop_fin (decide_eq_false (by with_reducible assumption)) j9 hA7 hD7
         have hne6 : D6 ≠ li := ho6.elim (fun e => e ▸ j4 _ j11) (fun hh => (hh _ (.head _)).symm)
         have hS6 : StIn w.params n6 st D6 _ := ⟨dd, li, vs7, nn7, zs6, c6, x, hst6, hdd6, hli6, hA6.sub hs67, hD6, hz6⟩)
    all_goals (
      have hE8 := hE6.mono hs67
      have hR6 := Nat.lt_of_le_of_lt hL6 (show R.length + 1 < 40 by omega)
      clear hRD hE6)
    all_goals k_steps
    all_goals (
      rename (∀ p, p ∈ n6 → p ∈ _) => hsZ
      rename Fr _ _ _ _ => F5
      rename News _ _ _ _ => N5
      exact law_next F5 N5 (hsZ _ hI6) (hsZ _ hK6) hfd d8 (hsZ _ hst6) (hsZ _ hdd6) (hsZ _ hli6) ((hA6.sub hs67).sub hsZ) hO6 (by omega) (hsZ _ hD6) hne6 (all2_sub hz6 hsZ) j13 j14 j15 (hsZ _ hcS6) j17 (hsZ _ hcF6) j19 (hF6.sub hsZ) hflne rfl rfl rfl)
  case done =>
    repeat (rename News _ _ _ _ => hh; clear hh)
    repeat (rename Fr _ _ _ _ => hh; clear hh)
    repeat (rename (_ ∧ _) => hh; clear hh)
    repeat (rename IsRange _ _ _ _ _ _ _ _ => hh; clear hh)
    rename Below _ _ _ _ => hB9
    clear hB9
    rename Top _ _ _ _ _ _ => hT9
    clear hT9
    intro m₁ nx h tk hJ F N
    obtain ⟨st, dd, li, rl, sc, fl, ok, oS, oF, v₀, items, nn, rest, R, ws, mm, x, now, tn, vs, ns, rfl, j2, j3, j4, j5, j6, j7, j8, j9, j10, j11, j12, j13, j14, j15, j16, j17, j18, j19, j20, j21, j22, j23⟩ := hJ
    rw [map4 j21 j22 j23 j23] at F
    have hR40 : R.length < 40 := by omega
    have hS : StIn w.params ((li, listOf items.toArray nn) :: rest) st rl R := ⟨dd, li, items, nn, ws, mm, x, .tail _ j6, .tail _ j7, .head _, j8.sub fun p hp => .tail _ hp, .tail _ j11, j12.mono fun _ _ y => y.sub fun p hp => .tail _ hp⟩
    clear j2 j3 j4 j5 j6 j7 j8 j11 j12 j13 j14 j15 j16 j17 j18 j19 j20 j21 j22 j23
    iterate 75 walk1
    rename StIn _ _ _ _ _ => hS7
    rename News _ _ _ _ => hN7
    obtain ⟨dd7, li7, items7, nn7, ws7, mm7, x7, g1, g2, g3, g4, g5, g6⟩ := hS7
    iterate 7 walk1
    have hstT := tidy_mem (li := dd7) g1 (obj_ne hN7 g1 g2 (by simp))
    show wpAny _ _ (call (Value.ref 185) [Value.ref st]) _ _ _
    k_dflt (refine' clear_c ?zB ?zF ?zX ?zN ?zo ?zT ?zk ?zd ?zu ?zs ?_; (case zB => k_asm); (case zF => k_asm); (case zX => k_asm); (case zT => k_asm); (case zk => first | exact rfl | assumption); (case zN => exact tidy_news hN7 g2); (case zo => exact tidy_off); (case zs => exact hstT); (case zd => ktr_room); (case zu => first | ktr_units | ((try simp only [units_make, units_in1, units_deeper, Around.mark_units] at *); (try dsimp only [ktrTop] at *); (have hcL9 := cLine_is); omega)))
    intro h' tk' l2 F' N'
    k_steps

theorem clr_30 : True := by
  w_top off
  k_with_none
  trivial
end
end Mine
theorem PySem.Challenge.cw_pf0336_01_holds : PySem.Challenge.rw_pf0336_01.Holds :=
  Mine.law_w
