import PyProof.Rows.All
import Wide.All
import OpenK.AllK
import Wide.FinOn
import PySem.Challenge.RW_pf0119_01
open PySem PySem.W PyProof.Rows PySem.Spec PySem.Calls
set_option Elab.async false
set_option maxRecDepth 100000
set_option maxHeartbeats 8000000
set_option linter.unusedVariables false
set_option rowWalk.seconds 0
namespace Mine
local macro_rules | `(tactic| walk_at $s:str) => `(tactic| k_extra $s)

noncomputable abbrev PR : Program := PySem.Challenge.rw_pf0119_01.row.toRowW.prog
noncomputable def hd.view_39 : Program := (fun {s0 s1 s2 s3 s4 s5 s6 s7 s8 s9 s10 s11 s12 s13 s14 s15 s16 s17 s18 s19 s20 s21 s22 s23 s24 s25 s26 s27 s28 s29 s30 s31 s32 s33 s34 s35 s36 s37 s38 s39 : Stmt} (_ : PR.main.body = s0 :: s1 :: s2 :: s3 :: s4 :: s5 :: s6 :: s7 :: s8 :: s9 :: s10 :: s11 :: s12 :: s13 :: s14 :: s15 :: s16 :: s17 :: s18 :: s19 :: s20 :: s21 :: s22 :: s23 :: s24 :: s25 :: s26 :: s27 :: s28 :: s29 :: s30 :: s31 :: s32 :: s33 :: s34 :: s35 :: s36 :: s37 :: s38 :: s39 :: []) => ({ PR with main := { PR.main with body := s1 :: s2 :: s4 :: s5 :: s6 :: s7 :: s8 :: s9 :: s11 :: s12 :: s13 :: s14 :: s15 :: s16 :: s17 :: s18 :: s19 :: s20 :: s21 :: s22 :: s23 :: s24 :: s25 :: s26 :: s27 :: s29 :: s30 :: s31 :: s32 :: s33 :: s34 :: s35 :: s36 :: s37 :: s38 :: s39 :: [] } } : Program)) rfl
noncomputable def hd.heap_39 : Params → Frag := (fun {s0 : Stmt} {n1 v1 m1 x1 : Str} {a1 d1 e1 : List Expr} {k1 : List Keyword} {p1 : Arguments} {b1 : List Stmt} {r1 : Option Expr} {t1 f1 : List TypeParam} {c1 g1 : Scope} {u1 w1 : Option Scope} {q1 z1 : Pos} {y1 : List Str} {s2 : Stmt} {s3 : Stmt} {s4 : Stmt} {n5 v5 : Str} {p5 : Arguments} {b5 : List Stmt} {d5 : List Expr} {r5 : Option Expr} {t5 : List TypeParam} {c5 : Scope} {u5 : Option Scope} {q5 : Pos} {n6 v6 : Str} {p6 : Arguments} {b6 : List Stmt} {d6 : List Expr} {r6 : Option Expr} {t6 : List TypeParam} {c6 : Scope} {u6 : Option Scope} {q6 : Pos} {n7 v7 : Str} {p7 : Arguments} {b7 : List Stmt} {d7 : List Expr} {r7 : Option Expr} {t7 : List TypeParam} {c7 : Scope} {u7 : Option Scope} {q7 : Pos} {n8 v8 : Str} {p8 : Arguments} {b8 : List Stmt} {d8 : List Expr} {r8 : Option Expr} {t8 : List TypeParam} {c8 : Scope} {u8 : Option Scope} {q8 : Pos} {n9 v9 : Str} {p9 : Arguments} {b9 : List Stmt} {d9 : List Expr} {r9 : Option Expr} {t9 : List TypeParam} {c9 : Scope} {u9 : Option Scope} {q9 : Pos} {s10 : Stmt} {s11 : Stmt} {n12 v12 : Str} {p12 : Arguments} {b12 : List Stmt} {d12 : List Expr} {r12 : Option Expr} {t12 : List TypeParam} {c12 : Scope} {u12 : Option Scope} {q12 : Pos} {n13 v13 : Str} {p13 : Arguments} {b13 : List Stmt} {d13 : List Expr} {r13 : Option Expr} {t13 : List TypeParam} {c13 : Scope} {u13 : Option Scope} {q13 : Pos} {n14 v14 : Str} {p14 : Arguments} {b14 : List Stmt} {d14 : List Expr} {r14 : Option Expr} {t14 : List TypeParam} {c14 : Scope} {u14 : Option Scope} {q14 : Pos} {n15 v15 : Str} {p15 : Arguments} {b15 : List Stmt} {d15 : List Expr} {r15 : Option Expr} {t15 : List TypeParam} {c15 : Scope} {u15 : Option Scope} {q15 : Pos} {n16 v16 : Str} {p16 : Arguments} {b16 : List Stmt} {d16 : List Expr} {r16 : Option Expr} {t16 : List TypeParam} {c16 : Scope} {u16 : Option Scope} {q16 : Pos} {n17 v17 : Str} {p17 : Arguments} {b17 : List Stmt} {d17 : List Expr} {r17 : Option Expr} {t17 : List TypeParam} {c17 : Scope} {u17 : Option Scope} {q17 : Pos} {n18 v18 : Str} {p18 : Arguments} {b18 : List Stmt} {d18 : List Expr} {r18 : Option Expr} {t18 : List TypeParam} {c18 : Scope} {u18 : Option Scope} {q18 : Pos} {n19 v19 : Str} {p19 : Arguments} {b19 : List Stmt} {d19 : List Expr} {r19 : Option Expr} {t19 : List TypeParam} {c19 : Scope} {u19 : Option Scope} {q19 : Pos} {n20 v20 : Str} {p20 : Arguments} {b20 : List Stmt} {d20 : List Expr} {r20 : Option Expr} {t20 : List TypeParam} {c20 : Scope} {u20 : Option Scope} {q20 : Pos} {n21 v21 : Str} {p21 : Arguments} {b21 : List Stmt} {d21 : List Expr} {r21 : Option Expr} {t21 : List TypeParam} {c21 : Scope} {u21 : Option Scope} {q21 : Pos} {n22 v22 : Str} {p22 : Arguments} {b22 : List Stmt} {d22 : List Expr} {r22 : Option Expr} {t22 : List TypeParam} {c22 : Scope} {u22 : Option Scope} {q22 : Pos} {n23 v23 : Str} {p23 : Arguments} {b23 : List Stmt} {d23 : List Expr} {r23 : Option Expr} {t23 : List TypeParam} {c23 : Scope} {u23 : Option Scope} {q23 : Pos} {n24 v24 : Str} {p24 : Arguments} {b24 : List Stmt} {d24 : List Expr} {r24 : Option Expr} {t24 : List TypeParam} {c24 : Scope} {u24 : Option Scope} {q24 : Pos} {n25 v25 : Str} {p25 : Arguments} {b25 : List Stmt} {d25 : List Expr} {r25 : Option Expr} {t25 : List TypeParam} {c25 : Scope} {u25 : Option Scope} {q25 : Pos} {n26 v26 : Str} {p26 : Arguments} {b26 : List Stmt} {d26 : List Expr} {r26 : Option Expr} {t26 : List TypeParam} {c26 : Scope} {u26 : Option Scope} {q26 : Pos} {n27 v27 : Str} {p27 : Arguments} {b27 : List Stmt} {d27 : List Expr} {r27 : Option Expr} {t27 : List TypeParam} {c27 : Scope} {u27 : Option Scope} {q27 : Pos} {s28 : Stmt} {s29 : Stmt} {n30 v30 : Str} {p30 : Arguments} {b30 : List Stmt} {d30 : List Expr} {r30 : Option Expr} {t30 : List TypeParam} {c30 : Scope} {u30 : Option Scope} {q30 : Pos} {n31 v31 : Str} {p31 : Arguments} {b31 : List Stmt} {d31 : List Expr} {r31 : Option Expr} {t31 : List TypeParam} {c31 : Scope} {u31 : Option Scope} {q31 : Pos} {n32 v32 : Str} {p32 : Arguments} {b32 : List Stmt} {d32 : List Expr} {r32 : Option Expr} {t32 : List TypeParam} {c32 : Scope} {u32 : Option Scope} {q32 : Pos} {n33 v33 : Str} {p33 : Arguments} {b33 : List Stmt} {d33 : List Expr} {r33 : Option Expr} {t33 : List TypeParam} {c33 : Scope} {u33 : Option Scope} {q33 : Pos} {n34 v34 : Str} {p34 : Arguments} {b34 : List Stmt} {d34 : List Expr} {r34 : Option Expr} {t34 : List TypeParam} {c34 : Scope} {u34 : Option Scope} {q34 : Pos} {n35 v35 : Str} {p35 : Arguments} {b35 : List Stmt} {d35 : List Expr} {r35 : Option Expr} {t35 : List TypeParam} {c35 : Scope} {u35 : Option Scope} {q35 : Pos} {n36 v36 : Str} {p36 : Arguments} {b36 : List Stmt} {d36 : List Expr} {r36 : Option Expr} {t36 : List TypeParam} {c36 : Scope} {u36 : Option Scope} {q36 : Pos} {n37 v37 : Str} {p37 : Arguments} {b37 : List Stmt} {d37 : List Expr} {r37 : Option Expr} {t37 : List TypeParam} {c37 : Scope} {u37 : Option Scope} {q37 : Pos} {n38 v38 : Str} {p38 : Arguments} {b38 : List Stmt} {d38 : List Expr} {r38 : Option Expr} {t38 : List TypeParam} {c38 : Scope} {u38 : Option Scope} {q38 : Pos} {n39 v39 : Str} {p39 : Arguments} {b39 : List Stmt} {d39 : List Expr} {r39 : Option Expr} {t39 : List TypeParam} {c39 : Scope} {u39 : Option Scope} {q39 : Pos}
    (_ : PR.main.body = s0 :: Stmt.ClassDef n1 a1 k1 [Stmt.FunctionDef m1 p1 b1 d1 r1 t1 c1 u1 v1 q1] e1 f1 g1 w1 x1 y1 z1 :: s2 :: s3 :: s4 :: Stmt.FunctionDef n5 p5 b5 d5 r5 t5 c5 u5 v5 q5 :: Stmt.FunctionDef n6 p6 b6 d6 r6 t6 c6 u6 v6 q6 :: Stmt.FunctionDef n7 p7 b7 d7 r7 t7 c7 u7 v7 q7 :: Stmt.FunctionDef n8 p8 b8 d8 r8 t8 c8 u8 v8 q8 :: Stmt.FunctionDef n9 p9 b9 d9 r9 t9 c9 u9 v9 q9 :: s10 :: s11 :: Stmt.FunctionDef n12 p12 b12 d12 r12 t12 c12 u12 v12 q12 :: Stmt.FunctionDef n13 p13 b13 d13 r13 t13 c13 u13 v13 q13 :: Stmt.FunctionDef n14 p14 b14 d14 r14 t14 c14 u14 v14 q14 :: Stmt.FunctionDef n15 p15 b15 d15 r15 t15 c15 u15 v15 q15 :: Stmt.FunctionDef n16 p16 b16 d16 r16 t16 c16 u16 v16 q16 :: Stmt.FunctionDef n17 p17 b17 d17 r17 t17 c17 u17 v17 q17 :: Stmt.FunctionDef n18 p18 b18 d18 r18 t18 c18 u18 v18 q18 :: Stmt.FunctionDef n19 p19 b19 d19 r19 t19 c19 u19 v19 q19 :: Stmt.FunctionDef n20 p20 b20 d20 r20 t20 c20 u20 v20 q20 :: Stmt.FunctionDef n21 p21 b21 d21 r21 t21 c21 u21 v21 q21 :: Stmt.FunctionDef n22 p22 b22 d22 r22 t22 c22 u22 v22 q22 :: Stmt.FunctionDef n23 p23 b23 d23 r23 t23 c23 u23 v23 q23 :: Stmt.FunctionDef n24 p24 b24 d24 r24 t24 c24 u24 v24 q24 :: Stmt.FunctionDef n25 p25 b25 d25 r25 t25 c25 u25 v25 q25 :: Stmt.FunctionDef n26 p26 b26 d26 r26 t26 c26 u26 v26 q26 :: Stmt.FunctionDef n27 p27 b27 d27 r27 t27 c27 u27 v27 q27 :: s28 :: s29 :: Stmt.FunctionDef n30 p30 b30 d30 r30 t30 c30 u30 v30 q30 :: Stmt.FunctionDef n31 p31 b31 d31 r31 t31 c31 u31 v31 q31 :: Stmt.FunctionDef n32 p32 b32 d32 r32 t32 c32 u32 v32 q32 :: Stmt.FunctionDef n33 p33 b33 d33 r33 t33 c33 u33 v33 q33 :: Stmt.FunctionDef n34 p34 b34 d34 r34 t34 c34 u34 v34 q34 :: Stmt.FunctionDef n35 p35 b35 d35 r35 t35 c35 u35 v35 q35 :: Stmt.FunctionDef n36 p36 b36 d36 r36 t36 c36 u36 v36 q36 :: Stmt.FunctionDef n37 p37 b37 d37 r37 t37 c37 u37 v37 q37 :: Stmt.FunctionDef n38 p38 b38 d38 r38 t38 c38 u38 v38 q38 :: Stmt.FunctionDef n39 p39 b39 d39 r39 t39 c39 u39 v39 q39 :: []) => (fun (P : Params) => (
    (nat_lit 2, {cls := Value.none, data := Data.dict (List.toArray ({hash := PyData.keyHash P (Str.ofString "type.__subclasses__.Exception.0"), key := Value.str (Str.ofString "type.__subclasses__.Exception.0") 214, val := Value.int 31 0} :: {hash := PyData.keyHash P (Str.ofString "type.__subclasses__.Exception.n"), key := Value.str (Str.ofString "type.__subclasses__.Exception.n") 215, val := Value.int 1 0} :: [])) 2}) ::
    (nat_lit 3, {cls := Value.type "dict", data := Data.dict (List.toArray ({hash := PyData.keyHash P (Str.ofString "__name__"), key := Value.str (Str.ofString "__name__") 165, val := Value.str (Str.ofString "law_pf0119_01") 472} :: {hash := PyData.keyHash P (Str.ofString "__doc__"), key := Value.str (Str.ofString "__doc__") 166, val := Value.none} :: {hash := PyData.keyHash P (Str.ofString "__package__"), key := Value.str (Str.ofString "__package__") 167, val := Value.none} :: {hash := PyData.keyHash P (Str.ofString "__loader__"), key := Value.str (Str.ofString "__loader__") 168, val := Value.builtin "__main__.__loader__#opaque"} :: {hash := PyData.keyHash P (Str.ofString "__spec__"), key := Value.str (Str.ofString "__spec__") 169, val := Value.none} :: {hash := PyData.keyHash P (Str.ofString "__annotations__"), key := Value.str (Str.ofString "__annotations__") 170, val := Value.ref 6} :: {hash := PyData.keyHash P (Str.ofString "__builtins__"), key := Value.str (Str.ofString "__builtins__") 171, val := Value.ref 4} :: {hash := PyData.keyHash P (Str.ofString "__file__"), key := Value.str (Str.ofString "__file__") 173, val := Value.str (Str.ofString "/claim/cut.py") 172} :: {hash := PyData.keyHash P (Str.ofString "__cached__"), key := Value.str (Str.ofString "__cached__") 174, val := Value.none} :: {hash := PyData.keyHash P (Str.ofString "F77Error"), key := Value.str (Str.ofString "F77Error") 217, val := Value.ref 31} :: {hash := PyData.keyHash P (Str.ofString "RunFault"), key := Value.str (Str.ofString "RunFault") 233, val := Value.ref 44} :: {hash := PyData.keyHash P (Str.ofString "NOUGHT"), key := Value.str (Str.ofString "NOUGHT") 238, val := Value.ref 47} :: {hash := PyData.keyHash P (Str.ofString "count_digits"), key := Value.str (Str.ofString "count_digits") 246, val := Value.ref 54} :: {hash := PyData.keyHash P (Str.ofString "strip_zeros"), key := Value.str (Str.ofString "strip_zeros") 254, val := Value.ref 61} :: {hash := PyData.keyHash P (Str.ofString "round_digits"), key := Value.str (Str.ofString "round_digits") 267, val := Value.ref 68} :: {hash := PyData.keyHash P (Str.ofString "round_real"), key := Value.str (Str.ofString "round_real") 278, val := Value.ref 75} :: {hash := PyData.keyHash P (Str.ofString "exact_mul"), key := Value.str (Str.ofString "exact_mul") 286, val := Value.ref 82} :: {hash := PyData.keyHash P (Str.ofString "SPARE"), key := Value.str (Str.ofString "SPARE") 290, val := Value.int 10 289} :: {hash := PyData.keyHash P (Str.ofString "lead_of"), key := Value.str (Str.ofString "lead_of") 297, val := Value.ref 89} :: {hash := PyData.keyHash P (Str.ofString "places_for"), key := Value.str (Str.ofString "places_for") 305, val := Value.ref 96} :: {hash := PyData.keyHash P (Str.ofString "fixed"), key := Value.str (Str.ofString "fixed") 315, val := Value.ref 103} :: {hash := PyData.keyHash P (Str.ofString "whole_root"), key := Value.str (Str.ofString "whole_root") 324, val := Value.ref 110} :: {hash := PyData.keyHash P (Str.ofString "sqrt_real"), key := Value.str (Str.ofString "sqrt_real") 339, val := Value.ref 117} :: {hash := PyData.keyHash P (Str.ofString "inverse_series"), key := Value.str (Str.ofString "inverse_series") 352, val := Value.ref 124} :: {hash := PyData.keyHash P (Str.ofString "log_of_ten"), key := Value.str (Str.ofString "log_of_ten") 361, val := Value.ref 131} :: {hash := PyData.keyHash P (Str.ofString "exp_fixed"), key := Value.str (Str.ofString "exp_fixed") 373, val := Value.ref 138} :: {hash := PyData.keyHash P (Str.ofString "exp_parts"), key := Value.str (Str.ofString "exp_parts") 385, val := Value.ref 145} :: {hash := PyData.keyHash P (Str.ofString "is_too_great"), key := Value.str (Str.ofString "is_too_great") 393, val := Value.ref 152} :: {hash := PyData.keyHash P (Str.ofString "exp_real"), key := Value.str (Str.ofString "exp_real") 405, val := Value.ref 159} :: {hash := PyData.keyHash P (Str.ofString "log_parts"), key := Value.str (Str.ofString "log_parts") 423, val := Value.ref 166} :: {hash := PyData.keyHash P (Str.ofString "check_positive"), key := Value.str (Str.ofString "check_positive") 430, val := Value.ref 173} :: {hash := PyData.keyHash P (Str.ofString "log_real"), key := Value.str (Str.ofString "log_real") 442, val := Value.ref 180} :: {hash := PyData.keyHash P (Str.ofString "log10_real"), key := Value.str (Str.ofString "log10_real") 455, val := Value.ref 187} :: {hash := PyData.keyHash P (Str.ofString "real_to_real"), key := Value.str (Str.ofString "real_to_real") 471, val := Value.ref 194} :: {hash := PyData.keyHash P (Str.ofString "_law_tops"), key := Value.str (Str.ofString "_law_tops") 484, val := Value.ref 195} :: {hash := PyData.keyHash P (Str.ofString "_law_take"), key := Value.str (Str.ofString "_law_take") 492, val := Value.ref 202} :: {hash := PyData.keyHash P (Str.ofString "_law_figures"), key := Value.str (Str.ofString "_law_figures") 500, val := Value.ref 209} :: {hash := PyData.keyHash P (Str.ofString "_law_exp"), key := Value.str (Str.ofString "_law_exp") 509, val := Value.ref 216} :: {hash := PyData.keyHash P (Str.ofString "_law_power"), key := Value.str (Str.ofString "_law_power") 518, val := Value.ref 223} :: {hash := PyData.keyHash P (Str.ofString "_law_root"), key := Value.str (Str.ofString "_law_root") 527, val := Value.ref 230} :: {hash := PyData.keyHash P (Str.ofString "_law_logs"), key := Value.str (Str.ofString "_law_logs") 538, val := Value.ref 237} :: {hash := PyData.keyHash P (Str.ofString "_law_within"), key := Value.str (Str.ofString "_law_within") 551, val := Value.ref 244} :: {hash := PyData.keyHash P (Str.ofString "_law_refusals_right"), key := Value.str (Str.ofString "_law_refusals_right") 563, val := Value.ref 251} :: {hash := PyData.keyHash P (Str.ofString "_law_whole_right"), key := Value.str (Str.ofString "_law_whole_right") 578, val := Value.ref 258} :: {hash := PyData.keyHash P (Str.ofString "law"), key := Value.str (Str.ofString "law") 593, val := Value.ref 265} :: [])) 45}) ::
    (nat_lit 15, {cls := Value.type "tuple", data := Data.seq (List.toArray (Value.type "Exception" :: []))}) ::
    (nat_lit 22, {cls := Value.type "tuple", data := Data.seq (List.toArray ([]))}) ::
    (nat_lit 24, {cls := Value.type "tuple", data := Data.seq (List.toArray (Value.str (Str.ofString "self") 204 :: Value.str (Str.ofString "text") 205 :: []))}) ::
    (nat_lit 25, {cls := Value.type "tuple", data := Data.seq (List.toArray ([]))}) ::
    (nat_lit 27, {cls := Value.type "code", data := Data.fields (List.toArray (Value.str (Str.ofString "__init__") 201 :: Value.str (Str.ofString "F77Error.__init__") 202 :: Value.str (Str.ofString "/claim/cut.py") 203 :: Value.int 4 0 :: Value.int 2 0 :: Value.int 0 0 :: Value.int 0 0 :: Value.int 3 0 :: Value.ref 22 :: Value.bool true :: Value.int 181 0 :: Value.ref 23 :: Value.none :: Value.ref 24 :: Value.ref 25 :: Value.ref 26 :: Value.int 206 0 :: Value.int 4 0 :: Value.str (Str.ofString "/claim/cut.py") 207 :: []))}) ::
    (nat_lit 28, {cls := Value.type "function", data := Data.func {name := Str.ofString "__init__", qualname := Str.ofString "F77Error.__init__", params := p1, body := FuncBody.stmts b1, scope := c1, globals := 3, closure := [], defaults := Value.none, kwdefaults := Value.none, pyModule := Value.str (Str.ofString "f77.errors") 187, code := Value.ref 27}}) ::
    (nat_lit 29, {cls := Value.type "tuple", data := Data.seq (List.toArray (Value.str (Str.ofString "text") 209 :: []))}) ::
    (nat_lit 30, {cls := Value.type "dict", data := Data.dict (List.toArray ({hash := PyData.keyHash P (Str.ofString "__module__"), key := Value.str (Str.ofString "__module__") 196, val := Value.str (Str.ofString "f77.errors") 187} :: {hash := PyData.keyHash P (Str.ofString "__firstlineno__"), key := Value.str (Str.ofString "__firstlineno__") 200, val := Value.int 2 199} :: {hash := PyData.keyHash P (Str.ofString "__init__"), key := Value.str (Str.ofString "__init__") 208, val := Value.ref 28} :: {hash := PyData.keyHash P (Str.ofString "__static_attributes__"), key := Value.str (Str.ofString "__static_attributes__") 210, val := Value.ref 29} :: {hash := PyData.keyHash P (Str.ofString "__weakref__"), key := Value.str (Str.ofString "__weakref__") 212, val := Value.ref 32} :: {hash := PyData.keyHash P (Str.ofString "__doc__"), key := Value.str (Str.ofString "__doc__") 213, val := Value.none} :: [])) 3}) ::
    (nat_lit 31, {cls := Value.type "type", data := Data.cls {name := Str.ofString "F77Error", bases := (Value.type "Exception" :: []), mro := (Value.ref 31 :: Value.type "Exception" :: Value.type "BaseException" :: Value.type "object" :: []), ns := 30, qualname := Str.ofString "F77Error", subclasses := (Value.ref 44 :: [])}, slots := (List.toArray (some (Value.ref 15) :: none :: some (Value.str (Str.ofString "F77Error") 189) :: some (Value.str (Str.ofString "F77Error") 197) :: some (Value.builtin "Exception.__new__") :: some (Value.bool true) :: []))}) ::
    (nat_lit 32, {cls := Value.type "getset_descriptor", data := Data.fields (List.toArray (Value.str (Str.ofString "__weakref__") 211 :: Value.ref 31 :: Value.builtin "ExceptionGroup.__weakref__" :: Value.none :: []))}) ::
    (nat_lit 35, {cls := Value.type "tuple", data := Data.seq (List.toArray (Value.ref 31 :: []))}) ::
    (nat_lit 42, {cls := Value.type "tuple", data := Data.seq (List.toArray ([]))}) ::
    (nat_lit 43, {cls := Value.type "dict", data := Data.dict (List.toArray ({hash := PyData.keyHash P (Str.ofString "__module__"), key := Value.str (Str.ofString "__module__") 225, val := Value.str (Str.ofString "f77.errors") 187} :: {hash := PyData.keyHash P (Str.ofString "__firstlineno__"), key := Value.str (Str.ofString "__firstlineno__") 229, val := Value.int 7 228} :: {hash := PyData.keyHash P (Str.ofString "__static_attributes__"), key := Value.str (Str.ofString "__static_attributes__") 230, val := Value.ref 42} :: {hash := PyData.keyHash P (Str.ofString "__doc__"), key := Value.str (Str.ofString "__doc__") 231, val := Value.none} :: [])) 2}) ::
    (nat_lit 44, {cls := Value.type "type", data := Data.cls {name := Str.ofString "RunFault", bases := (Value.ref 31 :: []), mro := (Value.ref 44 :: Value.ref 31 :: Value.type "Exception" :: Value.type "BaseException" :: Value.type "object" :: []), ns := 43, qualname := Str.ofString "RunFault"}, slots := (List.toArray (some (Value.ref 35) :: none :: some (Value.str (Str.ofString "RunFault") 218) :: some (Value.str (Str.ofString "RunFault") 226) :: some (Value.builtin "Exception.__new__") :: some (Value.bool true) :: []))}) ::
    (nat_lit 47, {cls := Value.type "tuple", data := Data.seq (List.toArray (Value.int 0 236 :: Value.int 0 237 :: []))}) ::
    (nat_lit 48, {cls := Value.type "tuple", data := Data.seq (List.toArray ([]))}) ::
    (nat_lit 50, {cls := Value.type "tuple", data := Data.seq (List.toArray (Value.str (Str.ofString "n") 242 :: Value.str (Str.ofString "count") 243 :: []))}) ::
    (nat_lit 51, {cls := Value.type "tuple", data := Data.seq (List.toArray ([]))}) ::
    (nat_lit 53, {cls := Value.type "code", data := Data.fields (List.toArray (Value.str (Str.ofString "count_digits") 239 :: Value.str (Str.ofString "count_digits") 240 :: Value.str (Str.ofString "/claim/cut.py") 241 :: Value.int 11 0 :: Value.int 1 0 :: Value.int 0 0 :: Value.int 0 0 :: Value.int 3 0 :: Value.ref 48 :: Value.bool true :: Value.int 181 0 :: Value.ref 49 :: Value.none :: Value.ref 50 :: Value.ref 51 :: Value.ref 52 :: Value.int 244 0 :: Value.int 11 0 :: Value.str (Str.ofString "/claim/cut.py") 245 :: []))}) ::
    (nat_lit 54, {cls := Value.type "function", data := Data.func {name := Str.ofString "count_digits", qualname := Str.ofString "count_digits", params := p5, body := FuncBody.stmts b5, scope := c5, globals := 3, closure := [], defaults := Value.none, kwdefaults := Value.none, pyModule := Value.str (Str.ofString "f77.reals") 234, code := Value.ref 53}}) ::
    (nat_lit 55, {cls := Value.type "tuple", data := Data.seq (List.toArray ([]))}) ::
    (nat_lit 57, {cls := Value.type "tuple", data := Data.seq (List.toArray (Value.str (Str.ofString "m") 250 :: Value.str (Str.ofString "e") 251 :: []))}) ::
    (nat_lit 58, {cls := Value.type "tuple", data := Data.seq (List.toArray ([]))}) ::
    (nat_lit 60, {cls := Value.type "code", data := Data.fields (List.toArray (Value.str (Str.ofString "strip_zeros") 247 :: Value.str (Str.ofString "strip_zeros") 248 :: Value.str (Str.ofString "/claim/cut.py") 249 :: Value.int 21 0 :: Value.int 2 0 :: Value.int 0 0 :: Value.int 0 0 :: Value.int 3 0 :: Value.ref 55 :: Value.bool true :: Value.int 181 0 :: Value.ref 56 :: Value.none :: Value.ref 57 :: Value.ref 58 :: Value.ref 59 :: Value.int 252 0 :: Value.int 21 0 :: Value.str (Str.ofString "/claim/cut.py") 253 :: []))}) ::
    (nat_lit 61, {cls := Value.type "function", data := Data.func {name := Str.ofString "strip_zeros", qualname := Str.ofString "strip_zeros", params := p6, body := FuncBody.stmts b6, scope := c6, globals := 3, closure := [], defaults := Value.none, kwdefaults := Value.none, pyModule := Value.str (Str.ofString "f77.reals") 234, code := Value.ref 60}}) ::
    (nat_lit 62, {cls := Value.type "tuple", data := Data.seq (List.toArray ([]))}) ::
    (nat_lit 64, {cls := Value.type "tuple", data := Data.seq (List.toArray (Value.str (Str.ofString "m") 258 :: Value.str (Str.ofString "e") 259 :: Value.str (Str.ofString "digits") 260 :: Value.str (Str.ofString "drop") 261 :: Value.str (Str.ofString "power") 262 :: Value.str (Str.ofString "kept") 263 :: Value.str (Str.ofString "rest") 264 :: []))}) ::
    (nat_lit 65, {cls := Value.type "tuple", data := Data.seq (List.toArray ([]))}) ::
    (nat_lit 67, {cls := Value.type "code", data := Data.fields (List.toArray (Value.str (Str.ofString "round_digits") 255 :: Value.str (Str.ofString "round_digits") 256 :: Value.str (Str.ofString "/claim/cut.py") 257 :: Value.int 28 0 :: Value.int 3 0 :: Value.int 0 0 :: Value.int 0 0 :: Value.int 3 0 :: Value.ref 62 :: Value.bool true :: Value.int 181 0 :: Value.ref 63 :: Value.none :: Value.ref 64 :: Value.ref 65 :: Value.ref 66 :: Value.int 265 0 :: Value.int 28 0 :: Value.str (Str.ofString "/claim/cut.py") 266 :: []))}) ::
    (nat_lit 68, {cls := Value.type "function", data := Data.func {name := Str.ofString "round_digits", qualname := Str.ofString "round_digits", params := p7, body := FuncBody.stmts b7, scope := c7, globals := 3, closure := [], defaults := Value.none, kwdefaults := Value.none, pyModule := Value.str (Str.ofString "f77.reals") 234, code := Value.ref 67}}) ::
    (nat_lit 69, {cls := Value.type "tuple", data := Data.seq (List.toArray ([]))}) ::
    (nat_lit 71, {cls := Value.type "tuple", data := Data.seq (List.toArray (Value.str (Str.ofString "m") 271 :: Value.str (Str.ofString "e") 272 :: Value.str (Str.ofString "digits") 273 :: Value.str (Str.ofString "top") 274 :: Value.str (Str.ofString "lead") 275 :: []))}) ::
    (nat_lit 72, {cls := Value.type "tuple", data := Data.seq (List.toArray ([]))}) ::
    (nat_lit 74, {cls := Value.type "code", data := Data.fields (List.toArray (Value.str (Str.ofString "round_real") 268 :: Value.str (Str.ofString "round_real") 269 :: Value.str (Str.ofString "/claim/cut.py") 270 :: Value.int 38 0 :: Value.int 4 0 :: Value.int 0 0 :: Value.int 0 0 :: Value.int 3 0 :: Value.ref 69 :: Value.bool true :: Value.int 181 0 :: Value.ref 70 :: Value.none :: Value.ref 71 :: Value.ref 72 :: Value.ref 73 :: Value.int 276 0 :: Value.int 38 0 :: Value.str (Str.ofString "/claim/cut.py") 277 :: []))}) ::
    (nat_lit 75, {cls := Value.type "function", data := Data.func {name := Str.ofString "round_real", qualname := Str.ofString "round_real", params := p8, body := FuncBody.stmts b8, scope := c8, globals := 3, closure := [], defaults := Value.none, kwdefaults := Value.none, pyModule := Value.str (Str.ofString "f77.reals") 234, code := Value.ref 74}}) ::
    (nat_lit 76, {cls := Value.type "tuple", data := Data.seq (List.toArray ([]))}) ::
    (nat_lit 78, {cls := Value.type "tuple", data := Data.seq (List.toArray (Value.str (Str.ofString "x") 282 :: Value.str (Str.ofString "y") 283 :: []))}) ::
    (nat_lit 79, {cls := Value.type "tuple", data := Data.seq (List.toArray ([]))}) ::
    (nat_lit 81, {cls := Value.type "code", data := Data.fields (List.toArray (Value.str (Str.ofString "exact_mul") 279 :: Value.str (Str.ofString "exact_mul") 280 :: Value.str (Str.ofString "/claim/cut.py") 281 :: Value.int 46 0 :: Value.int 2 0 :: Value.int 0 0 :: Value.int 0 0 :: Value.int 3 0 :: Value.ref 76 :: Value.bool true :: Value.int 181 0 :: Value.ref 77 :: Value.none :: Value.ref 78 :: Value.ref 79 :: Value.ref 80 :: Value.int 284 0 :: Value.int 46 0 :: Value.str (Str.ofString "/claim/cut.py") 285 :: []))}) ::
    (nat_lit 82, {cls := Value.type "function", data := Data.func {name := Str.ofString "exact_mul", qualname := Str.ofString "exact_mul", params := p9, body := FuncBody.stmts b9, scope := c9, globals := 3, closure := [], defaults := Value.none, kwdefaults := Value.none, pyModule := Value.str (Str.ofString "f77.reals") 234, code := Value.ref 81}}) ::
    (nat_lit 83, {cls := Value.type "tuple", data := Data.seq (List.toArray ([]))}) ::
    (nat_lit 85, {cls := Value.type "tuple", data := Data.seq (List.toArray (Value.str (Str.ofString "x") 294 :: []))}) ::
    (nat_lit 86, {cls := Value.type "tuple", data := Data.seq (List.toArray ([]))}) ::
    (nat_lit 88, {cls := Value.type "code", data := Data.fields (List.toArray (Value.str (Str.ofString "lead_of") 291 :: Value.str (Str.ofString "lead_of") 292 :: Value.str (Str.ofString "/claim/cut.py") 293 :: Value.int 50 0 :: Value.int 1 0 :: Value.int 0 0 :: Value.int 0 0 :: Value.int 3 0 :: Value.ref 83 :: Value.bool true :: Value.int 181 0 :: Value.ref 84 :: Value.none :: Value.ref 85 :: Value.ref 86 :: Value.ref 87 :: Value.int 295 0 :: Value.int 50 0 :: Value.str (Str.ofString "/claim/cut.py") 296 :: []))}) ::
    (nat_lit 89, {cls := Value.type "function", data := Data.func {name := Str.ofString "lead_of", qualname := Str.ofString "lead_of", params := p12, body := FuncBody.stmts b12, scope := c12, globals := 3, closure := [], defaults := Value.none, kwdefaults := Value.none, pyModule := Value.str (Str.ofString "f77.functions") 287, code := Value.ref 88}}) ::
    (nat_lit 90, {cls := Value.type "tuple", data := Data.seq (List.toArray ([]))}) ::
    (nat_lit 92, {cls := Value.type "tuple", data := Data.seq (List.toArray (Value.str (Str.ofString "x") 301 :: Value.str (Str.ofString "digits") 302 :: []))}) ::
    (nat_lit 93, {cls := Value.type "tuple", data := Data.seq (List.toArray ([]))}) ::
    (nat_lit 95, {cls := Value.type "code", data := Data.fields (List.toArray (Value.str (Str.ofString "places_for") 298 :: Value.str (Str.ofString "places_for") 299 :: Value.str (Str.ofString "/claim/cut.py") 300 :: Value.int 52 0 :: Value.int 2 0 :: Value.int 0 0 :: Value.int 0 0 :: Value.int 3 0 :: Value.ref 90 :: Value.bool true :: Value.int 181 0 :: Value.ref 91 :: Value.none :: Value.ref 92 :: Value.ref 93 :: Value.ref 94 :: Value.int 303 0 :: Value.int 52 0 :: Value.str (Str.ofString "/claim/cut.py") 304 :: []))}) ::
    (nat_lit 96, {cls := Value.type "function", data := Data.func {name := Str.ofString "places_for", qualname := Str.ofString "places_for", params := p13, body := FuncBody.stmts b13, scope := c13, globals := 3, closure := [], defaults := Value.none, kwdefaults := Value.none, pyModule := Value.str (Str.ofString "f77.functions") 287, code := Value.ref 95}}) ::
    (nat_lit 97, {cls := Value.type "tuple", data := Data.seq (List.toArray ([]))}) ::
    (nat_lit 99, {cls := Value.type "tuple", data := Data.seq (List.toArray (Value.str (Str.ofString "x") 309 :: Value.str (Str.ofString "places") 310 :: Value.str (Str.ofString "shift") 311 :: Value.str (Str.ofString "size") 312 :: []))}) ::
    (nat_lit 100, {cls := Value.type "tuple", data := Data.seq (List.toArray ([]))}) ::
    (nat_lit 102, {cls := Value.type "code", data := Data.fields (List.toArray (Value.str (Str.ofString "fixed") 306 :: Value.str (Str.ofString "fixed") 307 :: Value.str (Str.ofString "/claim/cut.py") 308 :: Value.int 54 0 :: Value.int 2 0 :: Value.int 0 0 :: Value.int 0 0 :: Value.int 3 0 :: Value.ref 97 :: Value.bool true :: Value.int 181 0 :: Value.ref 98 :: Value.none :: Value.ref 99 :: Value.ref 100 :: Value.ref 101 :: Value.int 313 0 :: Value.int 54 0 :: Value.str (Str.ofString "/claim/cut.py") 314 :: []))}) ::
    (nat_lit 103, {cls := Value.type "function", data := Data.func {name := Str.ofString "fixed", qualname := Str.ofString "fixed", params := p14, body := FuncBody.stmts b14, scope := c14, globals := 3, closure := [], defaults := Value.none, kwdefaults := Value.none, pyModule := Value.str (Str.ofString "f77.functions") 287, code := Value.ref 102}}) ::
    (nat_lit 104, {cls := Value.type "tuple", data := Data.seq (List.toArray ([]))}) ::
    (nat_lit 106, {cls := Value.type "tuple", data := Data.seq (List.toArray (Value.str (Str.ofString "n") 319 :: Value.str (Str.ofString "here") 320 :: Value.str (Str.ofString "below") 321 :: []))}) ::
    (nat_lit 107, {cls := Value.type "tuple", data := Data.seq (List.toArray ([]))}) ::
    (nat_lit 109, {cls := Value.type "code", data := Data.fields (List.toArray (Value.str (Str.ofString "whole_root") 316 :: Value.str (Str.ofString "whole_root") 317 :: Value.str (Str.ofString "/claim/cut.py") 318 :: Value.int 60 0 :: Value.int 1 0 :: Value.int 0 0 :: Value.int 0 0 :: Value.int 3 0 :: Value.ref 104 :: Value.bool true :: Value.int 181 0 :: Value.ref 105 :: Value.none :: Value.ref 106 :: Value.ref 107 :: Value.ref 108 :: Value.int 322 0 :: Value.int 60 0 :: Value.str (Str.ofString "/claim/cut.py") 323 :: []))}) ::
    (nat_lit 110, {cls := Value.type "function", data := Data.func {name := Str.ofString "whole_root", qualname := Str.ofString "whole_root", params := p15, body := FuncBody.stmts b15, scope := c15, globals := 3, closure := [], defaults := Value.none, kwdefaults := Value.none, pyModule := Value.str (Str.ofString "f77.functions") 287, code := Value.ref 109}}) ::
    (nat_lit 111, {cls := Value.type "tuple", data := Data.seq (List.toArray ([]))}) ::
    (nat_lit 113, {cls := Value.type "tuple", data := Data.seq (List.toArray (Value.str (Str.ofString "x") 328 :: Value.str (Str.ofString "digits") 329 :: Value.str (Str.ofString "top") 330 :: Value.str (Str.ofString "m") 331 :: Value.str (Str.ofString "e") 332 :: Value.str (Str.ofString "more") 333 :: Value.str (Str.ofString "square") 334 :: Value.str (Str.ofString "root") 335 :: Value.str (Str.ofString "rest") 336 :: []))}) ::
    (nat_lit 114, {cls := Value.type "tuple", data := Data.seq (List.toArray ([]))}) ::
    (nat_lit 116, {cls := Value.type "code", data := Data.fields (List.toArray (Value.str (Str.ofString "sqrt_real") 325 :: Value.str (Str.ofString "sqrt_real") 326 :: Value.str (Str.ofString "/claim/cut.py") 327 :: Value.int 69 0 :: Value.int 3 0 :: Value.int 0 0 :: Value.int 0 0 :: Value.int 3 0 :: Value.ref 111 :: Value.bool true :: Value.int 181 0 :: Value.ref 112 :: Value.none :: Value.ref 113 :: Value.ref 114 :: Value.ref 115 :: Value.int 337 0 :: Value.int 69 0 :: Value.str (Str.ofString "/claim/cut.py") 338 :: []))}) ::
    (nat_lit 117, {cls := Value.type "function", data := Data.func {name := Str.ofString "sqrt_real", qualname := Str.ofString "sqrt_real", params := p16, body := FuncBody.stmts b16, scope := c16, globals := 3, closure := [], defaults := Value.none, kwdefaults := Value.none, pyModule := Value.str (Str.ofString "f77.functions") 287, code := Value.ref 116}}) ::
    (nat_lit 118, {cls := Value.type "tuple", data := Data.seq (List.toArray ([]))}) ::
    (nat_lit 120, {cls := Value.type "tuple", data := Data.seq (List.toArray (Value.str (Str.ofString "divisor") 343 :: Value.str (Str.ofString "places") 344 :: Value.str (Str.ofString "turn") 345 :: Value.str (Str.ofString "term") 346 :: Value.str (Str.ofString "total") 347 :: Value.str (Str.ofString "sign") 348 :: Value.str (Str.ofString "n") 349 :: []))}) ::
    (nat_lit 121, {cls := Value.type "tuple", data := Data.seq (List.toArray ([]))}) ::
    (nat_lit 123, {cls := Value.type "code", data := Data.fields (List.toArray (Value.str (Str.ofString "inverse_series") 340 :: Value.str (Str.ofString "inverse_series") 341 :: Value.str (Str.ofString "/claim/cut.py") 342 :: Value.int 82 0 :: Value.int 3 0 :: Value.int 0 0 :: Value.int 0 0 :: Value.int 3 0 :: Value.ref 118 :: Value.bool true :: Value.int 181 0 :: Value.ref 119 :: Value.none :: Value.ref 120 :: Value.ref 121 :: Value.ref 122 :: Value.int 350 0 :: Value.int 82 0 :: Value.str (Str.ofString "/claim/cut.py") 351 :: []))}) ::
    (nat_lit 124, {cls := Value.type "function", data := Data.func {name := Str.ofString "inverse_series", qualname := Str.ofString "inverse_series", params := p17, body := FuncBody.stmts b17, scope := c17, globals := 3, closure := [], defaults := Value.none, kwdefaults := Value.none, pyModule := Value.str (Str.ofString "f77.functions") 287, code := Value.ref 123}}) ::
    (nat_lit 125, {cls := Value.type "tuple", data := Data.seq (List.toArray ([]))}) ::
    (nat_lit 127, {cls := Value.type "tuple", data := Data.seq (List.toArray (Value.str (Str.ofString "places") 356 :: Value.str (Str.ofString "more") 357 :: Value.str (Str.ofString "parts") 358 :: []))}) ::
    (nat_lit 128, {cls := Value.type "tuple", data := Data.seq (List.toArray ([]))}) ::
    (nat_lit 130, {cls := Value.type "code", data := Data.fields (List.toArray (Value.str (Str.ofString "log_of_ten") 353 :: Value.str (Str.ofString "log_of_ten") 354 :: Value.str (Str.ofString "/claim/cut.py") 355 :: Value.int 93 0 :: Value.int 1 0 :: Value.int 0 0 :: Value.int 0 0 :: Value.int 3 0 :: Value.ref 125 :: Value.bool true :: Value.int 181 0 :: Value.ref 126 :: Value.none :: Value.ref 127 :: Value.ref 128 :: Value.ref 129 :: Value.int 359 0 :: Value.int 93 0 :: Value.str (Str.ofString "/claim/cut.py") 360 :: []))}) ::
    (nat_lit 131, {cls := Value.type "function", data := Data.func {name := Str.ofString "log_of_ten", qualname := Str.ofString "log_of_ten", params := p18, body := FuncBody.stmts b18, scope := c18, globals := 3, closure := [], defaults := Value.none, kwdefaults := Value.none, pyModule := Value.str (Str.ofString "f77.functions") 287, code := Value.ref 130}}) ::
    (nat_lit 132, {cls := Value.type "tuple", data := Data.seq (List.toArray ([]))}) ::
    (nat_lit 134, {cls := Value.type "tuple", data := Data.seq (List.toArray (Value.str (Str.ofString "n") 365 :: Value.str (Str.ofString "places") 366 :: Value.str (Str.ofString "one") 367 :: Value.str (Str.ofString "total") 368 :: Value.str (Str.ofString "term") 369 :: Value.str (Str.ofString "k") 370 :: []))}) ::
    (nat_lit 135, {cls := Value.type "tuple", data := Data.seq (List.toArray ([]))}) ::
    (nat_lit 137, {cls := Value.type "code", data := Data.fields (List.toArray (Value.str (Str.ofString "exp_fixed") 362 :: Value.str (Str.ofString "exp_fixed") 363 :: Value.str (Str.ofString "/claim/cut.py") 364 :: Value.int 97 0 :: Value.int 2 0 :: Value.int 0 0 :: Value.int 0 0 :: Value.int 3 0 :: Value.ref 132 :: Value.bool true :: Value.int 181 0 :: Value.ref 133 :: Value.none :: Value.ref 134 :: Value.ref 135 :: Value.ref 136 :: Value.int 371 0 :: Value.int 97 0 :: Value.str (Str.ofString "/claim/cut.py") 372 :: []))}) ::
    (nat_lit 138, {cls := Value.type "function", data := Data.func {name := Str.ofString "exp_fixed", qualname := Str.ofString "exp_fixed", params := p19, body := FuncBody.stmts b19, scope := c19, globals := 3, closure := [], defaults := Value.none, kwdefaults := Value.none, pyModule := Value.str (Str.ofString "f77.functions") 287, code := Value.ref 137}}) ::
    (nat_lit 139, {cls := Value.type "tuple", data := Data.seq (List.toArray ([]))}) ::
    (nat_lit 141, {cls := Value.type "tuple", data := Data.seq (List.toArray (Value.str (Str.ofString "x") 377 :: Value.str (Str.ofString "digits") 378 :: Value.str (Str.ofString "places") 379 :: Value.str (Str.ofString "ten") 380 :: Value.str (Str.ofString "n") 381 :: Value.str (Str.ofString "k") 382 :: []))}) ::
    (nat_lit 142, {cls := Value.type "tuple", data := Data.seq (List.toArray ([]))}) ::
    (nat_lit 144, {cls := Value.type "code", data := Data.fields (List.toArray (Value.str (Str.ofString "exp_parts") 374 :: Value.str (Str.ofString "exp_parts") 375 :: Value.str (Str.ofString "/claim/cut.py") 376 :: Value.int 107 0 :: Value.int 2 0 :: Value.int 0 0 :: Value.int 0 0 :: Value.int 3 0 :: Value.ref 139 :: Value.bool true :: Value.int 181 0 :: Value.ref 140 :: Value.none :: Value.ref 141 :: Value.ref 142 :: Value.ref 143 :: Value.int 383 0 :: Value.int 107 0 :: Value.str (Str.ofString "/claim/cut.py") 384 :: []))}) ::
    (nat_lit 145, {cls := Value.type "function", data := Data.func {name := Str.ofString "exp_parts", qualname := Str.ofString "exp_parts", params := p20, body := FuncBody.stmts b20, scope := c20, globals := 3, closure := [], defaults := Value.none, kwdefaults := Value.none, pyModule := Value.str (Str.ofString "f77.functions") 287, code := Value.ref 144}}) ::
    (nat_lit 146, {cls := Value.type "tuple", data := Data.seq (List.toArray ([]))}) ::
    (nat_lit 148, {cls := Value.type "tuple", data := Data.seq (List.toArray (Value.str (Str.ofString "x") 389 :: Value.str (Str.ofString "top") 390 :: []))}) ::
    (nat_lit 149, {cls := Value.type "tuple", data := Data.seq (List.toArray ([]))}) ::
    (nat_lit 151, {cls := Value.type "code", data := Data.fields (List.toArray (Value.str (Str.ofString "is_too_great") 386 :: Value.str (Str.ofString "is_too_great") 387 :: Value.str (Str.ofString "/claim/cut.py") 388 :: Value.int 113 0 :: Value.int 2 0 :: Value.int 0 0 :: Value.int 0 0 :: Value.int 3 0 :: Value.ref 146 :: Value.bool true :: Value.int 181 0 :: Value.ref 147 :: Value.none :: Value.ref 148 :: Value.ref 149 :: Value.ref 150 :: Value.int 391 0 :: Value.int 113 0 :: Value.str (Str.ofString "/claim/cut.py") 392 :: []))}) ::
    (nat_lit 152, {cls := Value.type "function", data := Data.func {name := Str.ofString "is_too_great", qualname := Str.ofString "is_too_great", params := p21, body := FuncBody.stmts b21, scope := c21, globals := 3, closure := [], defaults := Value.none, kwdefaults := Value.none, pyModule := Value.str (Str.ofString "f77.functions") 287, code := Value.ref 151}}) ::
    (nat_lit 153, {cls := Value.type "tuple", data := Data.seq (List.toArray ([]))}) ::
    (nat_lit 155, {cls := Value.type "tuple", data := Data.seq (List.toArray (Value.str (Str.ofString "x") 397 :: Value.str (Str.ofString "digits") 398 :: Value.str (Str.ofString "top") 399 :: Value.str (Str.ofString "f") 400 :: Value.str (Str.ofString "k") 401 :: Value.str (Str.ofString "places") 402 :: []))}) ::
    (nat_lit 156, {cls := Value.type "tuple", data := Data.seq (List.toArray ([]))}) ::
    (nat_lit 158, {cls := Value.type "code", data := Data.fields (List.toArray (Value.str (Str.ofString "exp_real") 394 :: Value.str (Str.ofString "exp_real") 395 :: Value.str (Str.ofString "/claim/cut.py") 396 :: Value.int 115 0 :: Value.int 3 0 :: Value.int 0 0 :: Value.int 0 0 :: Value.int 3 0 :: Value.ref 153 :: Value.bool true :: Value.int 181 0 :: Value.ref 154 :: Value.none :: Value.ref 155 :: Value.ref 156 :: Value.ref 157 :: Value.int 403 0 :: Value.int 115 0 :: Value.str (Str.ofString "/claim/cut.py") 404 :: []))}) ::
    (nat_lit 159, {cls := Value.type "function", data := Data.func {name := Str.ofString "exp_real", qualname := Str.ofString "exp_real", params := p22, body := FuncBody.stmts b22, scope := c22, globals := 3, closure := [], defaults := Value.none, kwdefaults := Value.none, pyModule := Value.str (Str.ofString "f77.functions") 287, code := Value.ref 158}}) ::
    (nat_lit 160, {cls := Value.type "tuple", data := Data.seq (List.toArray ([]))}) ::
    (nat_lit 162, {cls := Value.type "tuple", data := Data.seq (List.toArray (Value.str (Str.ofString "x") 409 :: Value.str (Str.ofString "digits") 410 :: Value.str (Str.ofString "m") 411 :: Value.str (Str.ofString "e") 412 :: Value.str (Str.ofString "places") 413 :: Value.str (Str.ofString "size") 414 :: Value.str (Str.ofString "near") 415 :: Value.str (Str.ofString "one") 416 :: Value.str (Str.ofString "term") 417 :: Value.str (Str.ofString "square") 418 :: Value.str (Str.ofString "total") 419 :: Value.str (Str.ofString "n") 420 :: []))}) ::
    (nat_lit 163, {cls := Value.type "tuple", data := Data.seq (List.toArray ([]))}) ::
    (nat_lit 165, {cls := Value.type "code", data := Data.fields (List.toArray (Value.str (Str.ofString "log_parts") 406 :: Value.str (Str.ofString "log_parts") 407 :: Value.str (Str.ofString "/claim/cut.py") 408 :: Value.int 124 0 :: Value.int 2 0 :: Value.int 0 0 :: Value.int 0 0 :: Value.int 3 0 :: Value.ref 160 :: Value.bool true :: Value.int 181 0 :: Value.ref 161 :: Value.none :: Value.ref 162 :: Value.ref 163 :: Value.ref 164 :: Value.int 421 0 :: Value.int 124 0 :: Value.str (Str.ofString "/claim/cut.py") 422 :: []))}) ::
    (nat_lit 166, {cls := Value.type "function", data := Data.func {name := Str.ofString "log_parts", qualname := Str.ofString "log_parts", params := p23, body := FuncBody.stmts b23, scope := c23, globals := 3, closure := [], defaults := Value.none, kwdefaults := Value.none, pyModule := Value.str (Str.ofString "f77.functions") 287, code := Value.ref 165}}) ::
    (nat_lit 167, {cls := Value.type "tuple", data := Data.seq (List.toArray ([]))}) ::
    (nat_lit 169, {cls := Value.type "tuple", data := Data.seq (List.toArray (Value.str (Str.ofString "x") 427 :: []))}) ::
    (nat_lit 170, {cls := Value.type "tuple", data := Data.seq (List.toArray ([]))}) ::
    (nat_lit 172, {cls := Value.type "code", data := Data.fields (List.toArray (Value.str (Str.ofString "check_positive") 424 :: Value.str (Str.ofString "check_positive") 425 :: Value.str (Str.ofString "/claim/cut.py") 426 :: Value.int 141 0 :: Value.int 1 0 :: Value.int 0 0 :: Value.int 0 0 :: Value.int 3 0 :: Value.ref 167 :: Value.bool true :: Value.int 181 0 :: Value.ref 168 :: Value.none :: Value.ref 169 :: Value.ref 170 :: Value.ref 171 :: Value.int 428 0 :: Value.int 141 0 :: Value.str (Str.ofString "/claim/cut.py") 429 :: []))}) ::
    (nat_lit 173, {cls := Value.type "function", data := Data.func {name := Str.ofString "check_positive", qualname := Str.ofString "check_positive", params := p24, body := FuncBody.stmts b24, scope := c24, globals := 3, closure := [], defaults := Value.none, kwdefaults := Value.none, pyModule := Value.str (Str.ofString "f77.functions") 287, code := Value.ref 172}}) ::
    (nat_lit 174, {cls := Value.type "tuple", data := Data.seq (List.toArray ([]))}) ::
    (nat_lit 176, {cls := Value.type "tuple", data := Data.seq (List.toArray (Value.str (Str.ofString "x") 434 :: Value.str (Str.ofString "digits") 435 :: Value.str (Str.ofString "top") 436 :: Value.str (Str.ofString "k") 437 :: Value.str (Str.ofString "t") 438 :: Value.str (Str.ofString "places") 439 :: []))}) ::
    (nat_lit 177, {cls := Value.type "tuple", data := Data.seq (List.toArray ([]))}) ::
    (nat_lit 179, {cls := Value.type "code", data := Data.fields (List.toArray (Value.str (Str.ofString "log_real") 431 :: Value.str (Str.ofString "log_real") 432 :: Value.str (Str.ofString "/claim/cut.py") 433 :: Value.int 144 0 :: Value.int 3 0 :: Value.int 0 0 :: Value.int 0 0 :: Value.int 3 0 :: Value.ref 174 :: Value.bool true :: Value.int 181 0 :: Value.ref 175 :: Value.none :: Value.ref 176 :: Value.ref 177 :: Value.ref 178 :: Value.int 440 0 :: Value.int 144 0 :: Value.str (Str.ofString "/claim/cut.py") 441 :: []))}) ::
    (nat_lit 180, {cls := Value.type "function", data := Data.func {name := Str.ofString "log_real", qualname := Str.ofString "log_real", params := p25, body := FuncBody.stmts b25, scope := c25, globals := 3, closure := [], defaults := Value.none, kwdefaults := Value.none, pyModule := Value.str (Str.ofString "f77.functions") 287, code := Value.ref 179}}) ::
    (nat_lit 181, {cls := Value.type "tuple", data := Data.seq (List.toArray ([]))}) ::
    (nat_lit 183, {cls := Value.type "tuple", data := Data.seq (List.toArray (Value.str (Str.ofString "x") 446 :: Value.str (Str.ofString "digits") 447 :: Value.str (Str.ofString "top") 448 :: Value.str (Str.ofString "k") 449 :: Value.str (Str.ofString "t") 450 :: Value.str (Str.ofString "places") 451 :: Value.str (Str.ofString "one") 452 :: []))}) ::
    (nat_lit 184, {cls := Value.type "tuple", data := Data.seq (List.toArray ([]))}) ::
    (nat_lit 186, {cls := Value.type "code", data := Data.fields (List.toArray (Value.str (Str.ofString "log10_real") 443 :: Value.str (Str.ofString "log10_real") 444 :: Value.str (Str.ofString "/claim/cut.py") 445 :: Value.int 148 0 :: Value.int 3 0 :: Value.int 0 0 :: Value.int 0 0 :: Value.int 3 0 :: Value.ref 181 :: Value.bool true :: Value.int 181 0 :: Value.ref 182 :: Value.none :: Value.ref 183 :: Value.ref 184 :: Value.ref 185 :: Value.int 453 0 :: Value.int 148 0 :: Value.str (Str.ofString "/claim/cut.py") 454 :: []))}) ::
    (nat_lit 187, {cls := Value.type "function", data := Data.func {name := Str.ofString "log10_real", qualname := Str.ofString "log10_real", params := p26, body := FuncBody.stmts b26, scope := c26, globals := 3, closure := [], defaults := Value.none, kwdefaults := Value.none, pyModule := Value.str (Str.ofString "f77.functions") 287, code := Value.ref 186}}) ::
    (nat_lit 188, {cls := Value.type "tuple", data := Data.seq (List.toArray ([]))}) ::
    (nat_lit 190, {cls := Value.type "tuple", data := Data.seq (List.toArray (Value.str (Str.ofString "x") 459 :: Value.str (Str.ofString "y") 460 :: Value.str (Str.ofString "digits") 461 :: Value.str (Str.ofString "top") 462 :: Value.str (Str.ofString "k") 463 :: Value.str (Str.ofString "t") 464 :: Value.str (Str.ofString "places") 465 :: Value.str (Str.ofString "log") 466 :: Value.str (Str.ofString "m") 467 :: Value.str (Str.ofString "e") 468 :: []))}) ::
    (nat_lit 191, {cls := Value.type "tuple", data := Data.seq (List.toArray ([]))}) ::
    (nat_lit 193, {cls := Value.type "code", data := Data.fields (List.toArray (Value.str (Str.ofString "real_to_real") 456 :: Value.str (Str.ofString "real_to_real") 457 :: Value.str (Str.ofString "/claim/cut.py") 458 :: Value.int 153 0 :: Value.int 4 0 :: Value.int 0 0 :: Value.int 0 0 :: Value.int 3 0 :: Value.ref 188 :: Value.bool true :: Value.int 181 0 :: Value.ref 189 :: Value.none :: Value.ref 190 :: Value.ref 191 :: Value.ref 192 :: Value.int 469 0 :: Value.int 153 0 :: Value.str (Str.ofString "/claim/cut.py") 470 :: []))}) ::
    (nat_lit 194, {cls := Value.type "function", data := Data.func {name := Str.ofString "real_to_real", qualname := Str.ofString "real_to_real", params := p27, body := FuncBody.stmts b27, scope := c27, globals := 3, closure := [], defaults := Value.none, kwdefaults := Value.none, pyModule := Value.str (Str.ofString "f77.functions") 287, code := Value.ref 193}}) ::
    (nat_lit 195, {cls := Value.type "tuple", data := Data.seq (List.toArray (Value.int 1 474 :: Value.int 2 475 :: Value.int 5 476 :: Value.int 9 477 :: Value.int 10 478 :: Value.int 99 479 :: Value.int 100 480 :: Value.int 43 481 :: Value.int 30 482 :: Value.int 300 483 :: []))}) ::
    (nat_lit 196, {cls := Value.type "tuple", data := Data.seq (List.toArray ([]))}) ::
    (nat_lit 198, {cls := Value.type "tuple", data := Data.seq (List.toArray (Value.str (Str.ofString "pen") 488 :: Value.str (Str.ofString "many") 489 :: []))}) ::
    (nat_lit 199, {cls := Value.type "tuple", data := Data.seq (List.toArray ([]))}) ::
    (nat_lit 201, {cls := Value.type "code", data := Data.fields (List.toArray (Value.str (Str.ofString "_law_take") 485 :: Value.str (Str.ofString "_law_take") 486 :: Value.str (Str.ofString "/claim/cut.py") 487 :: Value.int 166 0 :: Value.int 2 0 :: Value.int 0 0 :: Value.int 0 0 :: Value.int 3 0 :: Value.ref 196 :: Value.bool true :: Value.int 181 0 :: Value.ref 197 :: Value.none :: Value.ref 198 :: Value.ref 199 :: Value.ref 200 :: Value.int 490 0 :: Value.int 166 0 :: Value.str (Str.ofString "/claim/cut.py") 491 :: []))}) ::
    (nat_lit 202, {cls := Value.type "function", data := Data.func {name := Str.ofString "_law_take", qualname := Str.ofString "_law_take", params := p30, body := FuncBody.stmts b30, scope := c30, globals := 3, closure := [], defaults := Value.none, kwdefaults := Value.none, pyModule := Value.str (Str.ofString "law_pf0119_01") 472, code := Value.ref 201}}) ::
    (nat_lit 203, {cls := Value.type "tuple", data := Data.seq (List.toArray ([]))}) ::
    (nat_lit 205, {cls := Value.type "tuple", data := Data.seq (List.toArray (Value.str (Str.ofString "n") 496 :: Value.str (Str.ofString "many") 497 :: []))}) ::
    (nat_lit 206, {cls := Value.type "tuple", data := Data.seq (List.toArray ([]))}) ::
    (nat_lit 208, {cls := Value.type "code", data := Data.fields (List.toArray (Value.str (Str.ofString "_law_figures") 493 :: Value.str (Str.ofString "_law_figures") 494 :: Value.str (Str.ofString "/claim/cut.py") 495 :: Value.int 171 0 :: Value.int 1 0 :: Value.int 0 0 :: Value.int 0 0 :: Value.int 3 0 :: Value.ref 203 :: Value.bool true :: Value.int 181 0 :: Value.ref 204 :: Value.none :: Value.ref 205 :: Value.ref 206 :: Value.ref 207 :: Value.int 498 0 :: Value.int 171 0 :: Value.str (Str.ofString "/claim/cut.py") 499 :: []))}) ::
    (nat_lit 209, {cls := Value.type "function", data := Data.func {name := Str.ofString "_law_figures", qualname := Str.ofString "_law_figures", params := p31, body := FuncBody.stmts b31, scope := c31, globals := 3, closure := [], defaults := Value.none, kwdefaults := Value.none, pyModule := Value.str (Str.ofString "law_pf0119_01") 472, code := Value.ref 208}}) ::
    (nat_lit 210, {cls := Value.type "tuple", data := Data.seq (List.toArray ([]))}) ::
    (nat_lit 212, {cls := Value.type "tuple", data := Data.seq (List.toArray (Value.str (Str.ofString "x") 504 :: Value.str (Str.ofString "digits") 505 :: Value.str (Str.ofString "top") 506 :: []))}) ::
    (nat_lit 213, {cls := Value.type "tuple", data := Data.seq (List.toArray ([]))}) ::
    (nat_lit 215, {cls := Value.type "code", data := Data.fields (List.toArray (Value.str (Str.ofString "_law_exp") 501 :: Value.str (Str.ofString "_law_exp") 502 :: Value.str (Str.ofString "/claim/cut.py") 503 :: Value.int 177 0 :: Value.int 3 0 :: Value.int 0 0 :: Value.int 0 0 :: Value.int 3 0 :: Value.ref 210 :: Value.bool true :: Value.int 181 0 :: Value.ref 211 :: Value.none :: Value.ref 212 :: Value.ref 213 :: Value.ref 214 :: Value.int 507 0 :: Value.int 177 0 :: Value.str (Str.ofString "/claim/cut.py") 508 :: []))}) ::
    (nat_lit 216, {cls := Value.type "function", data := Data.func {name := Str.ofString "_law_exp", qualname := Str.ofString "_law_exp", params := p32, body := FuncBody.stmts b32, scope := c32, globals := 3, closure := [], defaults := Value.none, kwdefaults := Value.none, pyModule := Value.str (Str.ofString "law_pf0119_01") 472, code := Value.ref 215}}) ::
    (nat_lit 217, {cls := Value.type "tuple", data := Data.seq (List.toArray ([]))}) ::
    (nat_lit 219, {cls := Value.type "tuple", data := Data.seq (List.toArray (Value.str (Str.ofString "pair") 513 :: Value.str (Str.ofString "digits") 514 :: Value.str (Str.ofString "top") 515 :: []))}) ::
    (nat_lit 220, {cls := Value.type "tuple", data := Data.seq (List.toArray ([]))}) ::
    (nat_lit 222, {cls := Value.type "code", data := Data.fields (List.toArray (Value.str (Str.ofString "_law_power") 510 :: Value.str (Str.ofString "_law_power") 511 :: Value.str (Str.ofString "/claim/cut.py") 512 :: Value.int 182 0 :: Value.int 3 0 :: Value.int 0 0 :: Value.int 0 0 :: Value.int 3 0 :: Value.ref 217 :: Value.bool true :: Value.int 181 0 :: Value.ref 218 :: Value.none :: Value.ref 219 :: Value.ref 220 :: Value.ref 221 :: Value.int 516 0 :: Value.int 182 0 :: Value.str (Str.ofString "/claim/cut.py") 517 :: []))}) ::
    (nat_lit 223, {cls := Value.type "function", data := Data.func {name := Str.ofString "_law_power", qualname := Str.ofString "_law_power", params := p33, body := FuncBody.stmts b33, scope := c33, globals := 3, closure := [], defaults := Value.none, kwdefaults := Value.none, pyModule := Value.str (Str.ofString "law_pf0119_01") 472, code := Value.ref 222}}) ::
    (nat_lit 224, {cls := Value.type "tuple", data := Data.seq (List.toArray ([]))}) ::
    (nat_lit 226, {cls := Value.type "tuple", data := Data.seq (List.toArray (Value.str (Str.ofString "x") 522 :: Value.str (Str.ofString "digits") 523 :: Value.str (Str.ofString "top") 524 :: []))}) ::
    (nat_lit 227, {cls := Value.type "tuple", data := Data.seq (List.toArray ([]))}) ::
    (nat_lit 229, {cls := Value.type "code", data := Data.fields (List.toArray (Value.str (Str.ofString "_law_root") 519 :: Value.str (Str.ofString "_law_root") 520 :: Value.str (Str.ofString "/claim/cut.py") 521 :: Value.int 187 0 :: Value.int 3 0 :: Value.int 0 0 :: Value.int 0 0 :: Value.int 3 0 :: Value.ref 224 :: Value.bool true :: Value.int 181 0 :: Value.ref 225 :: Value.none :: Value.ref 226 :: Value.ref 227 :: Value.ref 228 :: Value.int 525 0 :: Value.int 187 0 :: Value.str (Str.ofString "/claim/cut.py") 526 :: []))}) ::
    (nat_lit 230, {cls := Value.type "function", data := Data.func {name := Str.ofString "_law_root", qualname := Str.ofString "_law_root", params := p34, body := FuncBody.stmts b34, scope := c34, globals := 3, closure := [], defaults := Value.none, kwdefaults := Value.none, pyModule := Value.str (Str.ofString "law_pf0119_01") 472, code := Value.ref 229}}) ::
    (nat_lit 231, {cls := Value.type "tuple", data := Data.seq (List.toArray ([]))}) ::
    (nat_lit 233, {cls := Value.type "tuple", data := Data.seq (List.toArray (Value.str (Str.ofString "x") 531 :: Value.str (Str.ofString "digits") 532 :: Value.str (Str.ofString "top") 533 :: Value.str (Str.ofString "found") 534 :: Value.str (Str.ofString "work") 535 :: []))}) ::
    (nat_lit 234, {cls := Value.type "tuple", data := Data.seq (List.toArray ([]))}) ::
    (nat_lit 236, {cls := Value.type "code", data := Data.fields (List.toArray (Value.str (Str.ofString "_law_logs") 528 :: Value.str (Str.ofString "_law_logs") 529 :: Value.str (Str.ofString "/claim/cut.py") 530 :: Value.int 192 0 :: Value.int 3 0 :: Value.int 0 0 :: Value.int 0 0 :: Value.int 3 0 :: Value.ref 231 :: Value.bool true :: Value.int 181 0 :: Value.ref 232 :: Value.none :: Value.ref 233 :: Value.ref 234 :: Value.ref 235 :: Value.int 536 0 :: Value.int 192 0 :: Value.str (Str.ofString "/claim/cut.py") 537 :: []))}) ::
    (nat_lit 237, {cls := Value.type "function", data := Data.func {name := Str.ofString "_law_logs", qualname := Str.ofString "_law_logs", params := p35, body := FuncBody.stmts b35, scope := c35, globals := 3, closure := [], defaults := Value.none, kwdefaults := Value.none, pyModule := Value.str (Str.ofString "law_pf0119_01") 472, code := Value.ref 236}}) ::
    (nat_lit 238, {cls := Value.type "tuple", data := Data.seq (List.toArray ([]))}) ::
    (nat_lit 240, {cls := Value.type "tuple", data := Data.seq (List.toArray (Value.str (Str.ofString "work") 542 :: Value.str (Str.ofString "x") 543 :: Value.str (Str.ofString "digits") 544 :: Value.str (Str.ofString "top") 545 :: Value.str (Str.ofString "wide") 546 :: Value.str (Str.ofString "first") 547 :: Value.str (Str.ofString "due") 548 :: []))}) ::
    (nat_lit 241, {cls := Value.type "tuple", data := Data.seq (List.toArray ([]))}) ::
    (nat_lit 243, {cls := Value.type "code", data := Data.fields (List.toArray (Value.str (Str.ofString "_law_within") 539 :: Value.str (Str.ofString "_law_within") 540 :: Value.str (Str.ofString "/claim/cut.py") 541 :: Value.int 200 0 :: Value.int 4 0 :: Value.int 0 0 :: Value.int 0 0 :: Value.int 3 0 :: Value.ref 238 :: Value.bool true :: Value.int 181 0 :: Value.ref 239 :: Value.none :: Value.ref 240 :: Value.ref 241 :: Value.ref 242 :: Value.int 549 0 :: Value.int 200 0 :: Value.str (Str.ofString "/claim/cut.py") 550 :: []))}) ::
    (nat_lit 244, {cls := Value.type "function", data := Data.func {name := Str.ofString "_law_within", qualname := Str.ofString "_law_within", params := p36, body := FuncBody.stmts b36, scope := c36, globals := 3, closure := [], defaults := Value.none, kwdefaults := Value.none, pyModule := Value.str (Str.ofString "law_pf0119_01") 472, code := Value.ref 243}}) ::
    (nat_lit 245, {cls := Value.type "tuple", data := Data.seq (List.toArray ([]))}) ::
    (nat_lit 247, {cls := Value.type "tuple", data := Data.seq (List.toArray (Value.str (Str.ofString "digits") 555 :: Value.str (Str.ofString "top") 556 :: Value.str (Str.ofString "x") 557 :: Value.str (Str.ofString "less") 558 :: Value.str (Str.ofString "pair") 559 :: Value.str (Str.ofString "is_none") 560 :: []))}) ::
    (nat_lit 248, {cls := Value.type "tuple", data := Data.seq (List.toArray ([]))}) ::
    (nat_lit 250, {cls := Value.type "code", data := Data.fields (List.toArray (Value.str (Str.ofString "_law_refusals_right") 552 :: Value.str (Str.ofString "_law_refusals_right") 553 :: Value.str (Str.ofString "/claim/cut.py") 554 :: Value.int 211 0 :: Value.int 3 0 :: Value.int 0 0 :: Value.int 0 0 :: Value.int 3 0 :: Value.ref 245 :: Value.bool true :: Value.int 181 0 :: Value.ref 246 :: Value.none :: Value.ref 247 :: Value.ref 248 :: Value.ref 249 :: Value.int 561 0 :: Value.int 211 0 :: Value.str (Str.ofString "/claim/cut.py") 562 :: []))}) ::
    (nat_lit 251, {cls := Value.type "function", data := Data.func {name := Str.ofString "_law_refusals_right", qualname := Str.ofString "_law_refusals_right", params := p37, body := FuncBody.stmts b37, scope := c37, globals := 3, closure := [], defaults := Value.none, kwdefaults := Value.none, pyModule := Value.str (Str.ofString "law_pf0119_01") 472, code := Value.ref 250}}) ::
    (nat_lit 252, {cls := Value.type "tuple", data := Data.seq (List.toArray ([]))}) ::
    (nat_lit 254, {cls := Value.type "tuple", data := Data.seq (List.toArray (Value.str (Str.ofString "pen") 567 :: Value.str (Str.ofString "side") 568 :: Value.str (Str.ofString "n") 569 :: Value.str (Str.ofString "root") 570 :: Value.str (Str.ofString "m") 571 :: Value.str (Str.ofString "e") 572 :: Value.str (Str.ofString "places") 573 :: Value.str (Str.ofString "lead") 574 :: Value.str (Str.ofString "due") 575 :: []))}) ::
    (nat_lit 255, {cls := Value.type "tuple", data := Data.seq (List.toArray ([]))}) ::
    (nat_lit 257, {cls := Value.type "code", data := Data.fields (List.toArray (Value.str (Str.ofString "_law_whole_right") 564 :: Value.str (Str.ofString "_law_whole_right") 565 :: Value.str (Str.ofString "/claim/cut.py") 566 :: Value.int 222 0 :: Value.int 1 0 :: Value.int 0 0 :: Value.int 0 0 :: Value.int 3 0 :: Value.ref 252 :: Value.bool true :: Value.int 181 0 :: Value.ref 253 :: Value.none :: Value.ref 254 :: Value.ref 255 :: Value.ref 256 :: Value.int 576 0 :: Value.int 222 0 :: Value.str (Str.ofString "/claim/cut.py") 577 :: []))}) ::
    (nat_lit 258, {cls := Value.type "function", data := Data.func {name := Str.ofString "_law_whole_right", qualname := Str.ofString "_law_whole_right", params := p38, body := FuncBody.stmts b38, scope := c38, globals := 3, closure := [], defaults := Value.none, kwdefaults := Value.none, pyModule := Value.str (Str.ofString "law_pf0119_01") 472, code := Value.ref 257}}) ::
    (nat_lit 259, {cls := Value.type "tuple", data := Data.seq (List.toArray ([]))}) ::
    (nat_lit 261, {cls := Value.type "tuple", data := Data.seq (List.toArray (Value.str (Str.ofString "script") 582 :: Value.str (Str.ofString "pen") 583 :: Value.str (Str.ofString "digits") 584 :: Value.str (Str.ofString "top") 585 :: Value.str (Str.ofString "n") 586 :: Value.str (Str.ofString "x") 587 :: Value.str (Str.ofString "base") 588 :: Value.str (Str.ofString "y") 589 :: Value.str (Str.ofString "square") 590 :: []))}) ::
    (nat_lit 262, {cls := Value.type "tuple", data := Data.seq (List.toArray ([]))}) ::
    (nat_lit 264, {cls := Value.type "code", data := Data.fields (List.toArray (Value.str (Str.ofString "law") 579 :: Value.str (Str.ofString "law") 580 :: Value.str (Str.ofString "/claim/cut.py") 581 :: Value.int 234 0 :: Value.int 1 0 :: Value.int 0 0 :: Value.int 0 0 :: Value.int 3 0 :: Value.ref 259 :: Value.bool true :: Value.int 181 0 :: Value.ref 260 :: Value.none :: Value.ref 261 :: Value.ref 262 :: Value.ref 263 :: Value.int 591 0 :: Value.int 234 0 :: Value.str (Str.ofString "/claim/cut.py") 592 :: []))}) ::
    (nat_lit 265, {cls := Value.type "function", data := Data.func {name := Str.ofString "law", qualname := Str.ofString "law", params := p39, body := FuncBody.stmts b39, scope := c39, globals := 3, closure := [], defaults := Value.none, kwdefaults := Value.none, pyModule := Value.str (Str.ofString "law_pf0119_01") 472, code := Value.ref 264}}) :: [] : Frag))) rfl
abbrev as39 : List Addr := [2, 3, 15, 22, 24, 25, 27, 28, 29, 30, 31, 32, 35, 42, 43, 44, 47, 48, 50, 51, 53, 54, 55, 57, 58, 60, 61, 62, 64, 65, 67, 68, 69, 71, 72, 74, 75, 76, 78, 79, 81, 82, 83, 85, 86, 88, 89, 90, 92, 93, 95, 96, 97, 99, 100, 102, 103, 104, 106, 107, 109, 110, 111, 113, 114, 116, 117, 118, 120, 121, 123, 124, 125, 127, 128, 130, 131, 132, 134, 135, 137, 138, 139, 141, 142, 144, 145, 146, 148, 149, 151, 152, 153, 155, 156, 158, 159, 160, 162, 163, 165, 166, 167, 169, 170, 172, 173, 174, 176, 177, 179, 180, 181, 183, 184, 186, 187, 188, 190, 191, 193, 194, 195, 196, 198, 199, 201, 202, 203, 205, 206, 208, 209, 210, 212, 213, 215, 216, 217, 219, 220, 222, 223, 224, 226, 227, 229, 230, 231, 233, 234, 236, 237, 238, 240, 241, 243, 244, 245, 247, 248, 250, 251, 252, 254, 255, 257, 258, 259, 261, 262, 264, 265]
noncomputable abbrev H39 : Hook := kHook hd.heap_39 as39 (fun _ => by kernel_rfl)
theorem left39 : LeftO PR hd.view_39 [] (fun s => xlAt hd.view_39 [] s && recOk (RowW.records PySem.Challenge.rw_pf0119_01.row.toRowW) s) (Hook.obs H39) (Hook.val H39) 3202 := by
  intro w
  first
    | (unfold openEnds fencedOpening topFrom openGood xlAt opening
       rw [PySem.W.Fast.te10274390034422433532, PySem.W.Fast.te14289696077712309145, PySem.W.Fast.te14082659384304107361, PySem.W.Fast.te14364793385576792824, PySem.W.Fast.te4187177175401517315,
         PySem.W.Fast.te5923862056798008813, PySem.W.Fast.te964301259703733418, PySem.W.Fast.te8920871248978507458, PySem.W.Fast.te1435165496053646825, PySem.W.Fast.te3247288618530077131, PySem.W.Fast.te821141287760084731]
       kernel_rfl)
    | kernel_rfl
theorem said39 : OpenLaw.wellSaid PySem.Challenge.rw_pf0119_01 = true := by kernel_rfl
def Fill (_ : OpenLaw) (_ : Params → Frag) : Prop := True
theorem filled : Fill PySem.Challenge.rw_pf0119_01 hd.heap_39 := by
  k_fill
  trivial

/-- what a call keeps: any state, any frames below -/
def Says (w : World) (mean : ExcName → Option Value) (mg mb : Str → Option Value) (D : Nat) (f : Addr) (vs : List Value)
    (pre : List (Addr × Obj) → Prop) (post : List (Addr × Obj) → Value → Prop) (exc : Prop) : Prop :=
  ∀ (dp un : Nat) (gd : Option (List Code)) (cn : Str) (cs : Scope) (a : Addr) (ccd : Value) (outer : List Env) (A₀ : Around) (base h₀ : Heap) (L : Addr)
    (m : Str → Option Value) (news : List (Addr × Obj)) (s : Shared) (Q E : Value → Shared → Prop),
    Below A₀ base outer h₀ → Fr h₀ L s.heap m → (hd.heap_39 w.params).In h₀ → News h₀ L s.heap news → Top hd.view_39 (looseW hd.view_39 []) mean mg mb h₀ → cs.kind = .function →
    pre news → dp + 3 * D + 10 < recursionLimit → un + 30 * D + 100 < cLine →
    (∀ r news' h' tk', Fr h₀ L h' m → News h₀ L h' news' → (∀ p ∈ news, p ∈ news') → post news' r → Q r { s with heap := h', toks := tk' }) →
    (exc → ∀ e t vs' g h' tk', Fr h₀ L g m → RaisedS base g (envX cn cs L a ccd [] :: outer) e (.ref 44) t vs' news h' → g.UpToSlots h' → E (.ref e) { s with heap := h', toks := tk' }) →
    wpAny (model PR w) (ktrTop dp un gd cn cs L a ccd [] outer) (call (.ref f) vs) Q E s
section
variable {w : World} {mean : ExcName → Option Value} {mg mb : Str → Option Value} {D : Nat} {f : Addr} {vs : List Value} {pre : List (Addr × Obj) → Prop} {post : List (Addr × Obj) → Value → Prop} {exc : Prop}
  {dp un : Nat} {gd : Option (List Code)} {cn : Str} {cs : Scope} {a : Addr} {ccd : Value} {outer : List Env} {A₀ : Around} {base h₀ : Heap} {L : Addr}
  {m : Str → Option Value} {news : List (Addr × Obj)} {s : Shared} {Q E : Value → Shared → Prop}
/-- use: the answer is a plain value, the ledger stays as it was -/
theorem says_useI (S : Says w mean mg mb D f vs pre post exc) (B : Below A₀ base outer h₀) (F : Fr h₀ L s.heap m) (X : (hd.heap_39 w.params).In h₀) (N : News h₀ L s.heap news)
    (T : Top hd.view_39 (looseW hd.view_39 []) mean mg mb h₀) (hk : cs.kind = .function) (hp : pre news) (hd : dp + 3 * D + 10 < recursionLimit) (hu : un + 30 * D + 100 < cLine)
    (ret : ∀ r tl h' tk', Fr h₀ L h' m → News h₀ L h' news → post tl r → Q r { s with heap := h', toks := tk' })
    (he : exc → ∀ e t vs' g h' tk', Fr h₀ L g m → RaisedS base g (envX cn cs L a ccd [] :: outer) e (.ref 44) t vs' news h' → g.UpToSlots h' → E (.ref e) { s with heap := h', toks := tk' }) :
    wpAny (model PR w) (ktrTop dp un gd cn cs L a ccd [] outer) (call (.ref f) vs) Q E s :=
  S _ _ _ _ _ _ _ _ _ _ _ _ _ _ _ _ _ B F X N T hk hp hd hu (fun r news' h' tk' F' N' hs hq => ret r news' h' tk' F' (fun p hp => N' p (hs p hp)) hq) he
/-- use: the answer is an object, the ledger grows ahead of what stood -/
theorem says_useT (S : Says w mean mg mb D f vs pre post exc) (B : Below A₀ base outer h₀) (F : Fr h₀ L s.heap m) (X : (hd.heap_39 w.params).In h₀) (N : News h₀ L s.heap news)
    (T : Top hd.view_39 (looseW hd.view_39 []) mean mg mb h₀) (hk : cs.kind = .function) (hp : pre news) (hd : dp + 3 * D + 10 < recursionLimit) (hu : un + 30 * D + 100 < cLine)
    (hmono : ∀ l l' r, (∀ p ∈ l, p ∈ l') → post l r → post l' r)
    (ret : ∀ r tl h' tk', Fr h₀ L h' m → News h₀ L h' (tl ++ news) → post (tl ++ news) r → Q r { s with heap := h', toks := tk' })
    (he : exc → ∀ e t vs' g h' tk', Fr h₀ L g m → RaisedS base g (envX cn cs L a ccd [] :: outer) e (.ref 44) t vs' news h' → g.UpToSlots h' → E (.ref e) { s with heap := h', toks := tk' }) :
    wpAny (model PR w) (ktrTop dp un gd cn cs L a ccd [] outer) (call (.ref f) vs) Q E s :=
  S _ _ _ _ _ _ _ _ _ _ _ _ _ _ _ _ _ B F X N T hk hp hd hu (fun r news' h' tk' F' N' hs hq => ret r news' h' tk' F'
    (fun p hp => (List.mem_append.mp hp).elim (N' p) fun h => N' p (hs p h)) (hmono _ _ _ (fun p hp => List.mem_append.mpr (.inl hp)) hq)) he
end
/-- a tuple of two ints: of the ledger, or the table's (0, 0) -/
def Tu (news : List (Addr × Obj)) (x : Addr) (a b : Int) : Prop :=
  (∃ t1 t2 c, (x, ({ cls := .type "tuple", data := .seq #[.int a t1, .int b t2] c } : Obj)) ∈ news) ∨ (x = 47 ∧ a = 0 ∧ b = 0)
def Tu3 (news : List (Addr × Obj)) (x : Addr) (a b c : Int) : Prop :=
  ∃ t1 t2 t3 k, (x, ({ cls := .type "tuple", data := .seq #[.int a t1, .int b t2, .int c t3] k } : Obj)) ∈ news
def TuR (news : List (Addr × Obj)) (x p q : Addr) : Prop :=
  ∃ k, (x, ({ cls := .type "tuple", data := .seq #[.ref p, .ref q] k } : Obj)) ∈ news
/-- what the law's helpers hand back: a pair, or the word none -/
def Rv (news : List (Addr × Obj)) (v : Value) (o : Option (Int × Int)) : Prop :=
  (∃ x a b, o = some (a, b) ∧ v = .ref x ∧ Tu news x a b) ∨ (o = none ∧ ∃ t, v = .str (Str.ofString "none") t)
section
variable {l l' tl news : List (Addr × Obj)} {q : Addr × Obj} {x p p' : Addr} {a b c : Int} {v : Value} {o : Option (Int × Int)}
theorem Tu.mono (h : Tu l x a b) (hs : ∀ p ∈ l, p ∈ l') : Tu l' x a b := h.imp (fun ⟨t1, t2, c, m⟩ => ⟨t1, t2, c, hs _ m⟩) id
theorem Tu.cons (h : Tu l x a b) : Tu (q :: l) x a b := h.mono fun _ h => .tail _ h
theorem Tu.app (h : Tu l x a b) : Tu (tl ++ l) x a b := h.mono fun _ h => List.mem_append.mpr (.inr h)
theorem Tu.of {t1 t2 : Tok} {k : Nat} (h : (x, ({ cls := .type "tuple", data := .seq #[.int a t1, .int b t2] k } : Obj)) ∈ l) : Tu l x a b := .inl ⟨t1, t2, k, h⟩
theorem Tu.nought : Tu l 47 0 0 := .inr ⟨rfl, rfl, rfl⟩
theorem Tu3.mono (h : Tu3 l x a b c) (hs : ∀ p ∈ l, p ∈ l') : Tu3 l' x a b c := let ⟨t1, t2, t3, k, m⟩ := h; ⟨t1, t2, t3, k, hs _ m⟩
theorem Tu3.cons (h : Tu3 l x a b c) : Tu3 (q :: l) x a b c := h.mono fun _ h => .tail _ h
theorem Tu3.app (h : Tu3 l x a b c) : Tu3 (tl ++ l) x a b c := h.mono fun _ h => List.mem_append.mpr (.inr h)
theorem Tu3.of {t1 t2 t3 : Tok} {k : Nat} (h : (x, ({ cls := .type "tuple", data := .seq #[.int a t1, .int b t2, .int c t3] k } : Obj)) ∈ l) : Tu3 l x a b c := ⟨t1, t2, t3, k, h⟩
theorem TuR.mono (h : TuR l x p p') (hs : ∀ p ∈ l, p ∈ l') : TuR l' x p p' := let ⟨k, m⟩ := h; ⟨k, hs _ m⟩
theorem TuR.cons (h : TuR l x p p') : TuR (q :: l) x p p' := h.mono fun _ h => .tail _ h
theorem TuR.app (h : TuR l x p p') : TuR (tl ++ l) x p p' := h.mono fun _ h => List.mem_append.mpr (.inr h)
theorem TuR.of {k : Nat} (h : (x, ({ cls := .type "tuple", data := .seq #[.ref p, .ref p'] k } : Obj)) ∈ l) : TuR l x p p' := ⟨k, h⟩
theorem Rv.mono (h : Rv l v o) (hs : ∀ p ∈ l, p ∈ l') : Rv l' v o := h.imp (fun ⟨x, a, b, e, e', t⟩ => ⟨x, a, b, e, e', t.mono hs⟩) id
theorem Rv.cons (h : Rv l v o) : Rv (q :: l) v o := h.mono fun _ h => .tail _ h
theorem Rv.app (h : Rv l v o) : Rv (tl ++ l) v o := h.mono fun _ h => List.mem_append.mpr (.inr h)
theorem sub_id : ∀ p ∈ l, p ∈ l := fun _ h => h
theorem sub_cons (h : ∀ p ∈ l, p ∈ l') : ∀ p ∈ l, p ∈ q :: l' := fun p hp => .tail _ (h p hp)
theorem sub_app (h : ∀ p ∈ l, p ∈ l') : ∀ p ∈ l, p ∈ tl ++ l' := fun p hp => List.mem_append.mpr (.inr (h p hp))
theorem raisedS_mono {base G h : Heap} {fs : List Env} {e t : Addr} {cls : Value} {vs : List Value} (R : RaisedS base G fs e cls t vs l' h) (hs : ∀ p ∈ l, p ∈ l') : RaisedS base G fs e cls t vs l h := by
  obtain ⟨⟨B, hB, hG, hl, r⟩, tp⟩ := R
  exact ⟨⟨B, hB, hG, fun q hq => hl q (hs q hq), r⟩, tp⟩
theorem tu_tup {w : World} {h₀ h : Heap} {L : Addr} (N : News h₀ L h l) (X : (hd.heap_39 w.params).In h) (T : Tu l x a b) : ∃ t1 t2, IsTup h x #[.int a t1, .int b t2] := by
  rcases T with ⟨t1, t2, c, m⟩ | ⟨rfl, rfl, rfl⟩
  · exact ⟨t1, t2, News.isTup N m⟩
  · exact ⟨236, 237, tupK (l := [.int 0 236, .int 0 237]) (dd := none) (sl := #[]) (n := 0) X rfl⟩
end
section
variable {w : World} {A : Around} {E : Value → Shared → Prop} {s : Shared} {h₀ : Heap} {L x : Addr} {m : Str → Option Value} {news : List (Addr × Obj)} {a b c : Int} {u : Tok} {env : Env}
theorem tu_item0 {value slice : Expr} {Q : Value → Shared → Prop} (F : Fr h₀ L s.heap m) (X : (hd.heap_39 w.params).In h₀) (N : News h₀ L s.heap news) (T : Tu news x a b)
    (h : ∀ t, Q (.int a t) s) (hs : subscripted slice false (.ref x) (.int 0 u) = operate [.ref x, .int 0 u] (getItem (.ref x) (.int 0 u)) := by with_unfolding_all rfl) :
    wpAny (model PR w) A (subscriptTail value slice (.ref x) (.int 0 u)) Q E s := by
  obtain ⟨t1, t2, hT⟩ := tu_tup N (X.keeps F.keep) T
  exact item_tupleT (l := [.int a t1, .int b t2]) (j := 0) hT (by decide) (by decide) rfl rfl (h t1) hs
theorem tu_item1 {value slice : Expr} {Q : Value → Shared → Prop} (F : Fr h₀ L s.heap m) (X : (hd.heap_39 w.params).In h₀) (N : News h₀ L s.heap news) (T : Tu news x a b)
    (h : ∀ t, Q (.int b t) s) (hs : subscripted slice false (.ref x) (.int 1 u) = operate [.ref x, .int 1 u] (getItem (.ref x) (.int 1 u)) := by with_unfolding_all rfl) :
    wpAny (model PR w) A (subscriptTail value slice (.ref x) (.int 1 u)) Q E s := by
  obtain ⟨t1, t2, hT⟩ := tu_tup N (X.keeps F.keep) T
  exact item_tupleT (l := [.int a t1, .int b t2]) (j := 1) hT (by decide) (by decide) rfl rfl (h t2) hs
theorem tu_unpack {elts : List Expr} {k} {pos : Pos} {Q : Unit → Shared → Prop} (F : Fr h₀ L s.heap m) (X : (hd.heap_39 w.params).In h₀) (N : News h₀ L s.heap news) (T : Tu news x a b)
    (hh : A.handled = none) (hn : (assignEach elts env).length = 2) (hstar : (assignEach elts env).findIdx? (·.1) = none)
    (h : ∀ t1 t2 h', Fr h₀ L h' m → News h₀ L h' news → wpAny (model PR w) A (assignInOrder ((assignEach elts env).map (·.2)) [.int a t1, .int b t2]) Q E { s with heap := h' }) :
    wpAny (model PR w) A (assign (.Tuple elts k pos) env (.ref x)) Q E s := by
  obtain ⟨t1, t2, hT⟩ := tu_tup N (X.keeps F.keep) T
  exact unpackN_ F N hT hh hn hstar fun h' F' N' => h t1 t2 h' F' N'
theorem tu_unpack3 {elts : List Expr} {k} {pos : Pos} {Q : Unit → Shared → Prop} (F : Fr h₀ L s.heap m) (N : News h₀ L s.heap news) (T : Tu3 news x a b c)
    (hh : A.handled = none) (hn : (assignEach elts env).length = 3) (hstar : (assignEach elts env).findIdx? (·.1) = none)
    (h : ∀ t1 t2 t3 h', Fr h₀ L h' m → News h₀ L h' news → wpAny (model PR w) A (assignInOrder ((assignEach elts env).map (·.2)) [.int a t1, .int b t2, .int c t3]) Q E { s with heap := h' }) :
    wpAny (model PR w) A (assign (.Tuple elts k pos) env (.ref x)) Q E s := by
  obtain ⟨t1, t2, t3, k, hm⟩ := T
  exact unpackN_ F N (News.isTup N hm) hh hn hstar fun h' F' N' => h t1 t2 t3 h' F' N'
theorem tu_ref0 {value slice : Expr} {p q : Addr} {Q : Value → Shared → Prop} (N : News h₀ L s.heap news) (T : TuR news x p q)
    (h : Q (.ref p) s) (hs : subscripted slice false (.ref x) (.int 0 u) = operate [.ref x, .int 0 u] (getItem (.ref x) (.int 0 u)) := by with_unfolding_all rfl) :
    wpAny (model PR w) A (subscriptTail value slice (.ref x) (.int 0 u)) Q E s := by
  obtain ⟨k, hm⟩ := T
  exact item_tupleT (l := [.ref p, .ref q]) (j := 0) (News.isTup N hm) (by decide) (by decide) rfl rfl h hs
theorem tu_ref1 {value slice : Expr} {p q : Addr} {Q : Value → Shared → Prop} (N : News h₀ L s.heap news) (T : TuR news x p q)
    (h : Q (.ref q) s) (hs : subscripted slice false (.ref x) (.int 1 u) = operate [.ref x, .int 1 u] (getItem (.ref x) (.int 1 u)) := by with_unfolding_all rfl) :
    wpAny (model PR w) A (subscriptTail value slice (.ref x) (.int 1 u)) Q E s := by
  obtain ⟨k, hm⟩ := T
  exact item_tupleT (l := [.ref p, .ref q]) (j := 1) (News.isTup N hm) (by decide) (by decide) rfl rfl h hs
end
/-- the law's own exception: class 44 (RunFault over F77Error over Exception) -/
abbrev exObj (t : Addr) (d : Option Addr) : Obj := { cls := .ref 44, dict := d, data := .fields #[.ref t, .none, .none, .none, .bool false, .none] }
abbrev tup1 (vs : List Value) : Obj := { cls := .type "tuple", data := .seq vs.toArray }
abbrev bm44 : List Value := [.ref 31, .type "Exception", .type "BaseException", .type "object"]
abbrev cls44 : Obj := excClassObj (Str.ofString "RunFault") (Str.ofString "RunFault") 44 43 [.ref 31] bm44 true [] [] false none none (some (.ref 35)) none (some (.str (Str.ofString "RunFault") 218)) (some (.str (Str.ofString "RunFault") 226)) (some (.bool true)) "Exception.__new__"
section
variable {w : World} {A : Around} {E : Value → Shared → Prop} {h : Heap} {g : Array GenState} {d : Drawn} {t : Nat} {os : OsState}
theorem cls44_at (X : (hd.heap_39 w.params).In h) : h.get? 44 = some cls44 := X 44 _ rfl
theorem check_new44 {M : Model} {rest : List Value} {Q : Unit → Shared → Prop} (hC : h.get? 44 = some cls44) (hq : Q () ⟨h, g, d, t, os⟩) :
    wpAny M A (checkBuiltinCall "Exception.__new__" ⟨.ref 44 :: rest, []⟩) Q E ⟨h, g, d, t, os⟩ := by
  have F := PySem.F.excBase_Exception
  have hin : (Value.ref 44 :: bm44).contains (.type "Exception") = true := by decide
  have hstar := F.noStar
  simp only [checkBuiltinCall, F.newKind, F.newSplit, F.newRow]
  repeat (first | refine wpAny_loadPart_at hC ?_ | (refine wpAny_isSubtype_exc hC ?_; rw [hin]) | refine wpAny_staticBase_exc hC ?_ | refine wpAny_madeBy_exc hC ?_ | simp only [bne_self_eq_false, Bool.false_eq_true, if_false] | wp_step)
  exact hq
theorem new44 {R : Result → Shared → Prop} {rest : List Value} (hC : h.get? 44 = some cls44)
    (hq : R (.ok (.ret (.ref (h.objs.size + 1)))) ⟨(h.push (tup1 rest)).push (exObj h.objs.size none), g, d, t, os⟩) (hrest : rest.length ≤ sizeLine) :
    codeAny (model PR w) A (.builtin "Exception.__new__" ⟨.ref 44 :: rest, []⟩) R ⟨h, g, d, t, os⟩ := by
  have F := PySem.F.excBase_Exception
  have hends := F.ends
  have hcB : (Value.ref 44 :: bm44).contains (.type "Exception") = true := by decide
  have hcA : (Value.ref 44 :: bm44).contains (.type "AttributeError") = false := by decide
  have hcN : (Value.ref 44 :: bm44).contains (.type "NameError") = false := by decide
  refine codeAny_builtinAt F.entry ?_
  unfold Builtin.«BaseException.__new__»
  refine PySem.wpAt_bind ?_
  show PySem.wpAt _ _ _ (stack >>= _) _ _ _
  refine PySem.wpAt_bind (PySem.wpAt_stack fun p below => PySem.wpAt_of_wpAny ?_)
  wp_walk
  refine PySem.wpAt_of_wpAny ?_
  rw [F.owner]
  repeat (first | with_reducible refine wpAny_madeHere_exc F.canon hC ?_ | with_reducible refine wpAny_loadPart_at hC ?_ | (with_reducible refine wpAny_isSubtype_exc hC ?_; first | rw [hcB] | rw [hcA] | rw [hcN]) | wp_step)
  show R _ _
  rw [Heap.size_push]
  exact hq
theorem type_call44 {rest : List Value} {Q : Fin → Shared → Prop} (X : (hd.heap_39 w.params).In h)
    (hq : wpAny (model PR w) A (call (.ref 28) (.ref (h.objs.size + 1) :: rest)) (fun r s' => r = .none ∧ Q (.done (.ret (.ref (h.objs.size + 1)))) s') E ⟨(h.push (tup1 rest)).push (exObj h.objs.size none), g, d, t, os⟩)
    (hrest : rest.length ≤ sizeLine) :
    wpAny (model PR w) A (Builtin.«type.__call__» ⟨.ref 44 :: rest, []⟩) Q E ⟨h, g, d, t, os⟩ := by
  have F := PySem.F.excBase_Exception
  have hC := cls44_at X
  repeat (first | with_reducible refine wpAny_loadPart_at hC ?_ | with_reducible refine wpAny_madeBy_exc hC ?_ | wp_step)
  refine codeAny_call_builtin_code (Code.quiet_builtin _ F.quiet) (check_new44 hC ?_)
  refine new44 hC ?_ hrest
  show wpAny _ _ _ _ _ _
  have kp : ∀ b o, h.get? b = some o → ((h.push (tup1 rest)).push (exObj h.objs.size none)).get? b = some o := fun b o e => Heap.get?_push_of_some _ (Heap.get?_push_of_some _ e)
  have hC₁ := kp _ _ hC
  have X₁ : (hd.heap_39 w.params).In ((h.push (tup1 rest)).push (exObj h.objs.size none)) := X.keeps kp
  have hget : ((h.push (tup1 rest)).push (exObj h.objs.size none)).get? (h.objs.size + 1) = some (exObj h.objs.size none) := by heap_get
  have hcC : (Value.ref 44 :: bm44).contains (.ref 44) = true := by decide
  have hi : Looks (model PR w) ((h.push (tup1 rest)).push (exObj h.objs.size none)) (typeLookup (.ref 44) "__init__") (some (.ref 28)) := looks_findIn X₁ (by k_is)
  have hf : Looks (model PR w) ((h.push (tup1 rest)).push (exObj h.objs.size none)) (bindSpecial (.ref 28) (.ref (h.objs.size + 1))) (.ref 28, [.ref (h.objs.size + 1)]) := bind_fn X₁ _ (by k_is)
  unfold isInstance
  repeat (first | with_reducible refine wpAny_loadPart_at hget ?_ | (with_reducible refine wpAny_isSubtype_exc hC₁ ?_; rw [hcC]) | wp_step)
  show wpAny _ _ (typeLookup (.ref 44) _) _ _ _
  refine hi.here ?_
  refine wpAny_holding (wpAny_bind (hf.here ?_))
  dsimp only [List.cons_append, List.nil_append]
  refine wpAny_bind (wpAny_mono hq (fun r s' hr => ?_) fun _ _ x => x)
  obtain ⟨rfl, hQ⟩ := hr
  wp_walk
  exact hQ
theorem call44 {rest : List Value} {Q : Value → Shared → Prop} (X : (hd.heap_39 w.params).In h)
    (hq : wpAny (model PR w) (A.under (.builtin "type.__call__" ⟨.ref 44 :: rest, []⟩)) (call (.ref 28) (.ref (h.objs.size + 1) :: rest)) (fun r s' => r = .none ∧ Q (.ref (h.objs.size + 1)) s') E
      ⟨(h.push (tup1 rest)).push (exObj h.objs.size none), g, d, t, os⟩) (hrest : rest.length ≤ sizeLine) :
    wpAny (model PR w) A (call (.ref 44) rest) Q E ⟨h, g, d, t, os⟩ := by
  have f1 := tc_lookup
  have f2 := tc_bind (.ref 44)
  have hC := cls44_at X
  have hT : (⟨h, g, d, t, os⟩ : Shared).TypeIs (.ref 44) "type" := ⟨_, hC, rfl⟩
  refine wpAny_call (codeAny_of_tree ?_)
  show wpAny _ _ (callAny (.ref 44) _) _ _ _
  repeat (any_goals (first | assumption | with_reducible refine wpAny_loadPart_at hC ?_ | wp_step))
  refine ⟨rfl, ?_⟩
  exact codeAny_call_builtin_at (Code.quiet_builtin _ (by decide +kernel)) entry_typeCall (wpAny_check_type_call_sub hC (type_call44 X hq hrest))
end
section
variable {w : World} {A : Around} {E : Value → Shared → Prop} {s : Shared} {h₀ : Heap} {L e t0 : Addr} {m : Str → Option Value} {news : List (Addr × Obj)}
/-- an object of the ledger's head turned -/
theorem head_upd {h : Heap} {o : Obj} {f : Obj → Obj} (F : Fr h₀ L h m) (N : News h₀ L h ((e, o) :: news)) (hne : ∀ p ∈ news, p.1 ≠ e) (hf : (f o).isFreed = false) :
    Fr h₀ L (h.update e f) m ∧ News h₀ L (h.update e f) ((e, f o) :: news) := by
  have he := N _ (.head _)
  obtain ⟨oL, es, ep, hL, r⟩ := F.ns
  have hLe : e ≠ L := he.2.1
  refine ⟨⟨⟨oL, es, ep, (Heap.get?_update_other _ _ hLe).trans hL, r⟩, fun b o' hb => ?_, F.above⟩, fun p hp => ?_⟩
  · refine (Heap.get?_update_other _ _ (fun q => ?_)).trans (F.keep b o' hb)
    rw [← q, he.2.2] at hb; cases hb
  · rcases List.mem_cons.mp hp with rfl | hp'
    · exact ⟨Heap.get?_update_self _ he.1 hf, he.2⟩
    · exact ⟨(Heap.get?_update_other _ _ (Ne.symm (hne p hp'))).trans (N p (.tail _ hp')).1, (N p (.tail _ hp')).2⟩
theorem init44 {rest : List Value} {Q : Value → Shared → Prop} (F : Fr h₀ L s.heap m) (X : (hd.heap_39 w.params).In h₀) (N : News h₀ L s.heap ((e, exObj t0 none) :: news)) (hne : ∀ p ∈ news, p.1 ≠ e)
    (hq : ∀ h' t, Fr h₀ L h' m → News h₀ L h' ((e, exObj t none) :: (t, tup1 rest) :: news) → (∀ p ∈ news, p.1 < t) → e < t → Q .none { s with heap := h' }) (hrest : rest.length ≤ sizeLine) :
    wpAny (model PR w) A (call (.builtin "Exception.__init__") (.ref e :: rest)) Q E s := by
  obtain ⟨h, g, d, t, os⟩ := s
  have FB := PySem.F.excBase_Exception
  have hC : h.get? 44 = some cls44 := cls44_at (X.keeps F.keep)
  have he : h.get? e = some (exObj t0 none) := (N _ (.head _)).1
  have hcB : (Value.ref 44 :: bm44).contains (.type "Exception") = true := by decide
  have hshort := FB.noStar
  refine wpAny_call (codeAny_call_builtin FB.init.plain FB.initEntry ?_)
  simp only [checkBuiltinCall, FB.initKind, FB.initSplit, FB.initRow]
  repeat (first | (with_reducible refine wpAny_loadPart_at he ?_) | with_reducible refine wpAny_loadPart_at hC ?_ | (with_reducible refine wpAny_isSubtype_exc hC ?_; rw [hcB]) | wp_step)
  refine wpAny_onRaise ?_
  rw [show ∀ (a b : String) (n : Nat), Bind.check ⟨.positional, "*", "Exception", .self, [⟨"args", .varPos, false⟩]⟩ a b n (List.map (fun x => x.fst) ({ pos := Value.ref e :: rest } : Args).kw) = pure () from
    fun a b n => check_star_args _ _ _ _ _ _]
  refine wpAny_pure ?_
  have hne' : ∀ p ∈ (h.objs.size, tup1 rest) :: news, p.1 ≠ e := fun p hp => by
    rcases List.mem_cons.mp hp with rfl | hp
    · exact Nat.ne_of_gt (Heap.lt_size he)
    · exact hne p hp
  have N₁ : News h₀ L (h.push (tup1 rest)) ((e, exObj t0 none) :: (h.objs.size, tup1 rest) :: news) := fun p hp => N.push F (tup1 rest) rfl p (by
    rcases List.mem_cons.mp hp with rfl | hp
    · exact .tail _ (.head _)
    · rcases List.mem_cons.mp hp with rfl | hp
      · exact .head _
      · exact .tail _ (.tail _ hp))
  obtain ⟨F₂, N₂⟩ := head_upd (f := Obj.mapFields (·.setIfInBounds 0 (Value.ref h.objs.size))) (F.push (tup1 rest)) N₁ hne' rfl
  have key := hq _ h.objs.size F₂ N₂ (fun p hp => Heap.lt_size (N p (.tail _ hp)).1) (Heap.lt_size he)
  wp_walk
  exact key
theorem own_dict44 {x : Str} {u tk : Tok} {Q : PySem.Fin → Shared → Prop} (F : Fr h₀ L s.heap m) (X : (hd.heap_39 w.params).In h₀) (N : News h₀ L s.heap ((e, exObj t0 none) :: news)) (hne : ∀ p ∈ news, p.1 ≠ e)
    (hq : ∀ h' d tk', Fr h₀ L h' m → News h₀ L h' ((e, exObj t0 (some d)) :: news) → Q (.done (.ret .none)) { s with heap := h', toks := tk' }) :
    wpAny (model PR w) A (Builtin.ObjectAttr.storeInOwnDict (.ref e) (.ref 44) (.str (Str.ofString "text") tk) (Str.ofString "text") (.str x u) false) Q E s := by
  obtain ⟨h, g, d, t, os⟩ := s
  have X' : (hd.heap_39 w.params).In h := X.keeps F.keep
  have he : h.get? e = some (exObj t0 none) := (N _ (.head _)).1
  have hC := cls44_at X'
  unfold Builtin.ObjectAttr.storeInOwnDict
  refine wpAny_bind (wpAny_pure ?_)
  rw [if_neg (by decide)]
  refine wpAny_bind ?_
  unfold Builtin.ObjectAttr.ownDictForStores instanceDict
  refine wpAny_bind (wpAny_loadPart he ?_)
  dsimp only
  refine wpAny_bind (wpAny_bind (wpAny_loadPart hC (wpAny_pure ?_)))
  dsimp only
  rw [if_neg (by decide), if_neg (by decide)]
  refine wpAny_bind (wpAny_alloc' ?_)
  have he₁ : (h.push { cls := .type "dict", data := .dict #[] }).get? e = some (exObj t0 none) := Heap.get?_push_of_some _ he
  refine wpAny_bind (wpAny_update' he₁ ?_)
  refine wpAny_pure ?_
  dsimp only
  have hes : e ≠ h.objs.size := Nat.ne_of_lt (Heap.lt_size he)
  have Np : News h₀ L (h.push { cls := .type "dict", data := .dict #[] }) ((e, exObj t0 none) :: news) := fun p hp => ⟨Heap.get?_push_of_some _ (N p hp).1, (N p hp).2⟩
  obtain ⟨F₂, N₂⟩ := head_upd (f := fun o => { cls := o.cls, dict := some h.objs.size, data := o.data, slots := o.slots }) (F.push { cls := .type "dict", data := .dict #[] }) Np hne rfl
  have hgd : ((h.push { cls := .type "dict", data := .dict #[] }).update e fun o => { cls := o.cls, dict := some h.objs.size, data := o.data, slots := o.slots }).get? h.objs.size
      = some { cls := .type "dict", data := .dict #[] } := (Heap.get?_update_ne _ _ _ _ hes.symm).trans (Heap.get?_push_at rfl rfl)
  have hnd : ((h.push { cls := .type "dict", data := .dict #[] }).update e fun o => { cls := o.cls, dict := some h.objs.size, data := o.data, slots := o.slots }).Ns h.objs.size (fun _ => none) :=
    ⟨_, #[], _, hgd, rfl, fun e he => absurd he (by simp), fun _ => rfl⟩
  unfold Builtin.ObjectAttr.storeInDict Builtin.ObjectAttr.newKeyGuard
  refine wpAny_bind (wpAny_pure (wpAny_bind (wpAny_nsSet1 (Heap.Ns1.of_empty hnd) fun h' hn' hs => ?_)))
  obtain ⟨oD, esD, epD, hoD, hdD, hcD⟩ := hn'.count (Within.cons (Str.ofString "text") (.str x u) Within.nil)
  refine wpAny_bind (wpAny_lookBehind hoD (by rw [hdD]; exact pastItsLine_dict (Nat.le_trans hcD (by rw [List.length_cons, List.length_nil, sizeLine_eq]; omega))) ?_)
  have hL : L ≠ h.objs.size := by
    obtain ⟨oL, _, _, hL, _⟩ := F.ns
    exact Nat.ne_of_lt (Heap.lt_size hL)
  have keep : ∀ b o, b ≠ h.objs.size → ((h.push { cls := .type "dict", data := .dict #[] }).update e fun o => { cls := o.cls, dict := some h.objs.size, data := o.data, slots := o.slots }).get? b = some o → h'.get? b = some o :=
    fun b o hb q => (hs.2 b hb).trans q
  refine wpAny_pure (hq h' h.objs.size _ ⟨?_, fun b o hb => keep b o (fun q => ?_) (F₂.keep b o hb), F.above⟩ fun p hp => ⟨keep _ _ ?_ (N₂ p hp).1, (N₂ p hp).2⟩)
  · obtain ⟨oL, es, ep, hL', r⟩ := F₂.ns
    exact ⟨oL, es, ep, keep _ _ hL hL', r⟩
  · have := F.keep b o hb
    rw [q] at this
    exact absurd (Heap.lt_size this) (Nat.lt_irrefl _)
  · rcases List.mem_cons.mp hp with rfl | hp
    · exact hes
    · exact Nat.ne_of_lt (Heap.lt_size (N p (.tail _ hp)).1)
end
section
variable {w : World} {A : Around} {E : Value → Shared → Prop} {s : Shared} {h₀ : Heap} {L e t0 : Addr} {m : Str → Option Value} {news : List (Addr × Obj)}
theorem osa44 {x : Str} {u tk : Tok} {Q : PySem.Fin → Shared → Prop} (F : Fr h₀ L s.heap m) (X : (hd.heap_39 w.params).In h₀) (N : News h₀ L s.heap ((e, exObj t0 none) :: news)) (hne : ∀ p ∈ news, p.1 ≠ e)
    (hq : ∀ h' d tk', Fr h₀ L h' m → News h₀ L h' ((e, exObj t0 (some d)) :: news) → Q (.done (.ret .none)) { s with heap := h', toks := tk' }) :
    wpAny (model PR w) A (Builtin.«object.__setattr__» ⟨[.ref e, .str (Str.ofString "text") tk, .str x u], []⟩) Q E s := by
  have X' : (hd.heap_39 w.params).In s.heap := X.keeps F.keep
  have SE := PySem.F.store_Exception
  have he : s.heap.get? e = some (exObj t0 none) := (N _ (.head _)).1
  have L0 : Looks (model PR w) s.heap (typeOf (.ref e)) (.ref 44) := (Looks.ld he).andThen .now
  have L2 : Looks (model PR w) s.heap (typeLookup (.ref 44) (Str.ofString "text")) none := looks_findIn X' (by k_is)
  have L4 : Looks (model PR w) s.heap (mroOf (.ref 44)) (.ref 44 :: bm44) := ((Looks.ld (part := none) (cls44_at X')).andThen .now).andThen .now
  rw [osa_eq, refuse_eq]
  refine wpAny_bind (wpAny_bind (L0.here (wpAny_bind (L4.here ?_))))
  rw [refuseLoop_ref, refuseLoop_ref, SE.passes]
  refine wpAny_pure (wpAny_bind (L0.here (wpAny_bind (L2.here (wpAny_bind (wpAny_pure ?_))))))
  exact own_dict44 F X N hne hq
end
section
variable {w : World} {A : Around} {E : Value → Shared → Prop} {s : Shared} {h₀ : Heap} {L e t0 : Addr} {m : Str → Option Value} {news : List (Addr × Obj)}
theorem inst44 {h : Heap} (he : h.get? e = some (exObj t0 none)) : InstAt h e (exObj t0 none) 44 none := ⟨he, rfl, rfl, trivial⟩
theorem store44 {x : Str} {u : Tok} {Q : Unit → Shared → Prop} (F : Fr h₀ L s.heap m) (X : (hd.heap_39 w.params).In h₀) (N : News h₀ L s.heap ((e, exObj t0 none) :: news)) (hne : ∀ p ∈ news, p.1 ≠ e)
    (hq : ∀ h' d tk', Fr h₀ L h' m → News h₀ L h' ((e, exObj t0 (some d)) :: news) → Q () { s with heap := h', toks := tk' }) :
    wpAny (model PR w) A (setAttr (.ref e) (Str.ofString "text") (.str x u)) Q E s := by
  have X' : (hd.heap_39 w.params).In s.heap := X.keeps F.keep
  have SF := PySem.F.store_object
  have he : s.heap.get? e = some (exObj t0 none) := (N _ (.head _)).1
  have L0 : Looks (model PR w) s.heap (typeOf (.ref e)) (.ref 44) := (Looks.ld he).andThen .now
  have L3 : Looks (model PR w) s.heap (isSubtype (.ref 44) (.type "object")) true := looks_mroIn X' (by k_is)
  have L5 : Looks (model PR w) s.heap (isInstance (.ref e) (.type "object")) true := L0.andThen L3
  refine set_plain X' (inst44 he) (by k_is) ?_
  refine codeAny_call_builtin SF.slot.plain SF.entry (@check_slot (model PR w) _ _ { s with toks := s.toks + 1 } "object.__setattr__" "object" "__setattr__" (.ref e) [.str (Str.ofString "text") s.toks, .str x u] [] _ SF.kind SF.split L5 (SF.args (.ref e) (.str (Str.ofString "text") s.toks) (.str x u)) ?_)
  exact osa44 (s := { s with toks := s.toks + 1 }) F X N hne fun h' d tk' F' N' => hq h' d tk' F' N'
end
theorem meta_Exception : typeOf (.type "Exception") = pure (.type "type") := by kernel_rfl
theorem ln1 : True := by
  k_with "getMethod type:Exception" => (k_here; refine' method_type ?Fr1 ?Xr1 ?mr1 (by decide +kernel) ?er1 ?hr1 ?_; (case Fr1 => k_asm); (case Xr1 => k_asm); (case mr1 => exact meta_Exception); (case er1 => k_dflt k_is); (case hr1 => k_handed))
  exact True.intro
theorem ln2 : True := by
  k_with "call builtin:Exception.__init__" => (k_here; (with_reducible show wpAny _ _ (call (Value.builtin "Exception.__init__") [Value.ref _, Value.str _ _]) _ _ _); refine' init44 ?Fr2 ?Xr2 ?Nr2 ?ner2 ?_ ?zr2; (case Fr2 => k_asm); (case Xr2 => k_asm); (case Nr2 => k_asm); (case ner2 => assumption); (case zr2 => (rw [sizeLine_eq]; exact Nat.le_of_ble_eq_true rfl)); k_whole; intro h' t' F' N' l1' l2'; (try k_sweep))
  exact True.intro
theorem ln3 : True := by
  k_with "setAttr ref" => (k_here; refine' store44 ?Fr3 ?Xr3 ?Nr3 ?ner3 ?_; (case Fr3 => k_asm); (case Xr3 => k_asm); (case Nr3 => k_asm); (case ner3 => (refine List.forall_mem_cons.mpr ⟨Nat.ne_of_gt (by assumption), by assumption⟩)); k_whole; intro h' d' tk' F' N'; (try k_sweep))
  exact True.intro
section
variable {w : World} {mean : ExcName → Option Value} {mg mb : Str → Option Value}
theorem init28 {e t0 : Addr} {x : Str} {u : Tok} {dp un : Nat} {gd : Option (List Code)} {cn : Str} {cs : Scope} {a : Addr} {ccd : Value} {outer : List Env} {A₀ : Around} {base h₀ : Heap} {L : Addr}
    {m : Str → Option Value} {news : List (Addr × Obj)} {s : Shared} {Q E : Value → Shared → Prop}
    (B : Below A₀ base outer h₀) (F : Fr h₀ L s.heap m) (X : (hd.heap_39 w.params).In h₀) (N : News h₀ L s.heap ((e, exObj t0 none) :: news)) (T : Top hd.view_39 (looseW hd.view_39 []) mean mg mb h₀) (hk : cs.kind = .function)
    (hd : dp + 10 < recursionLimit) (hne : ∀ p ∈ news, p.1 ≠ e)
    (hret : ∀ h' t d tk', Fr h₀ L h' m → News h₀ L h' ((e, exObj t (some d)) :: (t, tup1 [.str x u]) :: news) → (∀ p ∈ news, p.1 < t) → e < t → Q .none { s with heap := h', toks := tk' }) :
    wpAny (model PR w) (ktrTop dp un gd cn cs L a ccd [] outer) (call (.ref 28) [.ref e, .str x u]) Q E s := by
  refine wpAny_call ?_
  k_dflt cell_enter
  k_steps
  all_goals exact hret _ _ _ _ (by k_asm) (by k_asm) (by assumption) (by assumption)
/-- the call of the class: a new exception with its word -/
theorem call_fault {x : Str} {u : Tok} {dp un : Nat} {gd : Option (List Code)} {cn : Str} {cs : Scope} {a : Addr} {ccd : Value} {outer : List Env} {A₀ : Around} {base h₀ : Heap} {L : Addr}
    {m : Str → Option Value} {news : List (Addr × Obj)} {s : Shared} {Q E : Value → Shared → Prop}
    (B : Below A₀ base outer h₀) (F : Fr h₀ L s.heap m) (X : (hd.heap_39 w.params).In h₀) (N : News h₀ L s.heap news) (T : Top hd.view_39 (looseW hd.view_39 []) mean mg mb h₀) (hk : cs.kind = .function)
    (hd : dp + 13 < recursionLimit)
    (hret : ∀ h' e t d tk', Fr h₀ L h' m → News h₀ L h' ((e, exObj t (some d)) :: (t, tup1 [.str x u]) :: news) → (∀ p ∈ news, p.1 < e) → (∀ p ∈ news, p.1 < t) → e < t → Q (.ref e) { s with heap := h', toks := tk' }) :
    wpAny (model PR w) (ktrTop dp un gd cn cs L a ccd [] outer) (call (.ref 44) [.str x u]) Q E s := by
  obtain ⟨h, g, d, t, os⟩ := s
  have Nn := (N.push F (tup1 [.str x u]) rfl).push (F.push (tup1 [.str x u])) (exObj h.objs.size none) rfl
  rw [Heap.size_push] at Nn
  refine call44 (X.keeps F.keep) ?_ (by rw [sizeLine_eq]; exact Nat.le_of_ble_eq_true rfl)
  have hlt : ∀ p ∈ news, p.1 < h.objs.size := fun p hp => Heap.lt_size (N p hp).1
  refine init28 (t0 := h.objs.size) (e := h.objs.size + 1) (news := (h.objs.size, tup1 [.str x u]) :: news) B ((F.push (tup1 [.str x u])).push (exObj h.objs.size none)) X Nn T hk ?_ ?_ ?_
  · show dp + 1 + 10 < _; omega
  · intro p hp
    rcases List.mem_cons.mp hp with rfl | hp
    · exact Nat.ne_of_lt (Nat.lt_succ_self _)
    · exact Nat.ne_of_lt (Nat.lt_succ_of_lt (hlt p hp))
  · intro h' t' d' tk' F' N' l1 l2
    exact ⟨rfl, hret h' (h.objs.size + 1) t' d' tk' F' (fun p hp => N' p (by
      rcases List.mem_cons.mp hp with rfl | hp
      · exact .head _
      · rcases List.mem_cons.mp hp with rfl | hp
        · exact .tail _ (.head _)
        · exact .tail _ (.tail _ (.tail _ hp)))) (fun p hp => Nat.lt_succ_of_lt (hlt p hp)) (fun p hp => l1 p (.tail _ hp)) l2⟩
def RaisePost (w : World) (E : Value → Shared → Prop) (v : Value) (s : Shared) : Prop :=
  ∃ e t d, v = .ref e ∧ s.heap.get? 44 = some cls44 ∧ s.heap.get? e = some (exObj t d) ∧ E (.ref e) s
theorem raisePost {E : Value → Shared → Prop} {s : Shared} {e t : Addr} {d : Option Addr} {h₀ : Heap} {L : Addr} {m : Str → Option Value} {news : List (Addr × Obj)} (F : Fr h₀ L s.heap m) (X : (hd.heap_39 w.params).In h₀)
    (N : News h₀ L s.heap ((e, exObj t d) :: news)) (h : E (.ref e) s) : RaisePost w E (.ref e) s := ⟨e, t, d, rfl, cls44_at (X.keeps F.keep), (N _ (.head _)).1, h⟩
theorem raise_made44 {M : Model} {A : Around} {E : Value → Shared → Prop} {env : Env} {s : Shared} {x : Sem Value} {Q : Flow → Shared → Prop} (hh : A.handled = none)
    (h : wpAny M A x (RaisePost w E) E s) : wpAny M A (raiseStmt env (some x) none) Q E s := by
  have hcB : (Value.ref 44 :: bm44).contains (.type "BaseException") = true := by decide
  unfold raiseStmt
  refine wpAny_bind (wpAny_mono h (fun v s₁ h₁ => ?_) fun _ _ x => x)
  obtain ⟨e, t, d, rfl, hC, he, hE⟩ := h₁
  obtain ⟨hp, g, dr, tk, os⟩ := s₁
  repeat (first | with_reducible refine wpAny_loadPart_at he ?_ | with_reducible refine wpAny_loadPart_at hC ?_ | (with_reducible refine wpAny_isSubtype_exc hC ?_; rw [hcB]) | wp_step)
  exact wpAny_raiseNew_none hh hE
theorem raise44 {A : Around} {E : Value → Shared → Prop} {env : Env} {s : Shared} {e : PySem.Expr} {pos : Pos} {Q : Flow → Shared → Prop} (hh : A.handled = none)
    (h : wpAny (model PR w) A (eval e env) (RaisePost w E) E s) : wpAny (model PR w) A (exec (.Raise (some e) none pos) env) Q E s := by
  rw [arm_exec_Raise]
  simp only [evalOpt, Option.map]
  refine wpAny_bind (wpAny_standAt (raise_made44 hh (wpAny_bind (wpAny_mono h (fun v s₃ h₃ => wpAny_bind (wpAny_standAt (wpAny_pure h₃))) fun _ _ x => x))))
theorem leave_fault {M : Model} {A : Around} {E : Value → Shared → Prop} {s' : Shared} {base g : Heap} {outer : List Env} {L a e t : Addr} {d : Option Addr} {vs : List Value} {m : Str → Option Value} {name : Str} {scope : Scope} {cd : Value} {Q : Unit → Shared → Prop} {news news₀ : List (Addr × Obj)}
    (K : Below A base outer g) (F : Fr g L s'.heap m) (N : News g L s'.heap ((e, exObj t d) :: (t, tup1 vs) :: news)) (h1 : ∀ p ∈ news, p.1 < e) (h2 : ∀ p ∈ news, p.1 < t) (h3 : e < t) (hs : ∀ p ∈ news₀, p ∈ news)
    (hQ : ∀ h', RaisedS base g outer e (.ref 44) t vs news₀ h' → g.UpToSlots h' → Q () { s' with heap := h' }) (hk : scope.kind = .function := by rfl) :
    wpAny M (A.deeper (envOf name scope L a cd)) (leaving (envOf name scope L a cd) (.ref e)) Q E s' := by
  have K' := K.push (name := name) (a := a) (cd := cd) F hk
  let fr := (envOf name scope L a cd :: outer).filterMap (·.frame)
  have he := N _ (.head _)
  have ht := N _ (.tail _ (.head _))
  have nb : ∀ b, g.get? b = none → base.get? b = none := fun b hb => fresh_of_stays K.stays hb
  have out : ∀ b ∈ outer.filterMap (·.frame), ∃ o, g.get? b = some o := fun b hb => by
    obtain ⟨_, o, ho, _⟩ := K.frames.mem hb
    exact ⟨o, ho⟩
  have hin : ∀ env ∈ (envOf name scope L a cd :: outer), ∀ b, env.frame = some b → b ∈ e :: t :: fr := fun env he b hb => .tail _ (.tail _ (List.mem_filterMap.mpr ⟨env, he, hb⟩))
  have own : ∀ b, b ∈ e :: t :: fr → b = e ∨ b = t ∨ b = L ∨ b ∈ outer.filterMap (·.frame) := fun b hb => by
    rcases List.mem_cons.mp hb with rfl | hb
    · exact .inl rfl
    · rcases List.mem_cons.mp hb with rfl | hb
      · exact .inr (.inl rfl)
      · exact .inr (.inr (kts_mem hb))
  have st : base.StaysIn (hideAll s'.heap (e :: t :: fr)) := fun b o q => hideAll_get _ (K'.stays b o q) fun hm => by
    rcases List.mem_cons.mp hm with rfl | hm
    · rw [nb _ he.2.2] at q; cases q
    · rcases List.mem_cons.mp hm with rfl | hm
      · rw [nb _ ht.2.2] at q; cases q
      · rw [(K'.frames.mem hm).1] at q; cases q
  have sg : ∀ b o, g.get? b = some o → b ∉ outer.filterMap (·.frame) → (hideAll s'.heap (e :: t :: fr)).get? b = some o := fun b o q nm => hideAll_get _ (F.keep b o q) fun hm => by
    rcases own b hm with rfl | rfl | rfl | hm
    · rw [he.2.2] at q; cases q
    · rw [ht.2.2] at q; cases q
    · rw [kts_self F] at q; cases q
    · exact nm hm
  have hl : ∀ q ∈ news₀, (hideAll s'.heap (e :: t :: fr)).get? q.1 = some q.2 ∧ g.get? q.1 = none ∧ base.get? q.1 = none := fun q hq => by
    have hq' := hs q hq
    have Nq := N q (.tail _ (.tail _ hq'))
    refine ⟨hideAll_get _ Nq.1 fun hm => ?_, Nq.2.2, nb _ Nq.2.2⟩
    rcases own _ hm with hm | hm | hm | hm
    · exact Nat.ne_of_lt (h1 q hq') hm
    · exact Nat.ne_of_lt (h2 q hq') hm
    · exact Nq.2.1 hm
    · obtain ⟨o, ho⟩ := out _ hm
      rw [Nq.2.2] at ho; cases ho
  have hen : (hideAll s'.heap (e :: t :: fr)).get? e = none := hideAll_none _ (.head _)
  have htn : (hideAll s'.heap (e :: t :: fr)).get? t = none := hideAll_none _ (.tail _ (.head _))
  refine wpAny_leaving_firstW (a0 := .ref t) K'.stack (funFrames_hide K'.frames hin) rfl he.1 (fun b o hb => of_hideAll _ hb) hen rfl rfl rfl fun h' hL => ?_
  obtain ⟨k1, ⟨_, _, k2⟩, k3, k4⟩ := hL
  exact hQ h' ⟨⟨_, st, sg, hl, ⟨k1, hen, k2, k3⟩, htn⟩, Heap.TupAt.of_slots ⟨_, _, ht.1, rfl, rfl⟩ k4⟩ ((Heap.UpToSlots.of_keeps F.keep).trans k4)
end
theorem gen_toks {α : Type} {M : Model} {A : Around} {c : Sem α} {Q : α → Shared → Prop} {E : Value → Shared → Prop} {s : Shared} {tk₀ : Nat} (h : ∀ tk, wpAny M A c Q E { s with toks := tk }) : wpAny M A c Q E { s with toks := tk₀ } := h _
theorem room3 {dp a b c d e R : Nat} (h : dp + a + b < R) (hle : Nat.ble (c + d + e) (a + b) = true) : dp + c + d + e < R :=
  Nat.lt_of_le_of_lt (by have := Nat.le_of_ble_eq_true hle; omega) h
theorem room2 {dp a b c d R : Nat} (h : dp + a + b < R) (hle : Nat.ble (c + d) (a + b) = true) : dp + c + d < R :=
  Nat.lt_of_le_of_lt (by have := Nat.le_of_ble_eq_true hle; omega) h
section
variable {w : World} {mean : ExcName → Option Value} {mg mb : Str → Option Value}
theorem ln4 : True := by
  k_with_none
  k_with "tu_up" => first | with_reducible assumption | exact Tu.of (List.Mem.head _) | exact Tu.nought | (apply Tu.cons; k_extra "tu_up") | (apply Tu.app; k_extra "tu_up")
  k_with "tu3_up" => first | with_reducible assumption | exact Tu3.of (List.Mem.head _) | (refine Tu3.cons ?_; k_extra "tu3_up") | (refine Tu3.app ?_; k_extra "tu3_up")
  k_with "tur_up" => first | with_reducible assumption | exact TuR.of (List.Mem.head _) | (apply TuR.cons; k_extra "tur_up") | (apply TuR.app; k_extra "tur_up")
  k_with "rv_up" => first | with_reducible assumption | (refine Rv.cons ?_; k_extra "rv_up") | (refine Rv.app ?_; k_extra "rv_up")
  k_with "sub_up" => first | with_reducible assumption | exact sub_id | (refine sub_cons ?_; k_extra "sub_up") | (refine sub_app ?_; k_extra "sub_up")
  k_with "subscriptTail" => (k_here; (with_reducible show wpAny _ _ (subscriptTail _ _ (Value.ref _) (Value.int 0 _)) _ _ _); k_dflt (first | (refine' tu_item0 ?Fr9 ?Xr9 ?Nr9 ?Tr9 ?_ ?hsr9; (case Fr9 => k_asm); (case Xr9 => k_asm); (case Nr9 => k_asm); (case Tr9 => k_extra "tu_up"); (case hsr9 => with_unfolding_all rfl); k_whole; intro _) | (refine' tu_ref0 ?Nr9 ?Tr9 ?_ ?hsr9; (case Nr9 => k_asm); (case Tr9 => k_extra "tur_up"); (case hsr9 => with_unfolding_all rfl); k_whole)))
  k_with "subscriptTail" => (k_here; (with_reducible show wpAny _ _ (subscriptTail _ _ (Value.ref _) (Value.int 1 _)) _ _ _); k_dflt (first | (refine' tu_item1 ?Fr10 ?Xr10 ?Nr10 ?Tr10 ?_ ?hsr10; (case Fr10 => k_asm); (case Xr10 => k_asm); (case Nr10 => k_asm); (case Tr10 => k_extra "tu_up"); (case hsr10 => with_unfolding_all rfl); k_whole; intro _) | (refine' tu_ref1 ?Nr10 ?Tr10 ?_ ?hsr10; (case Nr10 => k_asm); (case Tr10 => k_extra "tur_up"); (case hsr10 => with_unfolding_all rfl); k_whole)))
  k_with "assign Tuple" => (k_here; (with_reducible show wpAny _ _ (assign (Expr.Tuple _ _ _) _ (Value.ref _)) _ _ _); k_dflt (first | (refine' tu_unpack ?Fr11 ?Xr11 ?Nr11 ?Tr11 ?k4r11 ?k5r11 ?k6r11 ?_; (case Fr11 => k_asm); (case Xr11 => k_asm); (case Nr11 => k_asm); (case Tr11 => k_extra "tu_up"); (case k4r11 => exact rfl); (case k5r11 => exact rfl); (case k6r11 => exact rfl); k_whole; intro _ _ h' F' N') | (refine' tu_unpack3 ?Fr11 ?Nr11 ?Tr11 ?k4r11 ?k5r11 ?k6r11 ?_; (case Fr11 => k_asm); (case Nr11 => k_asm); (case Tr11 => k_extra "tu3_up"); (case k4r11 => exact rfl); (case k5r11 => exact rfl); (case k6r11 => exact rfl); k_whole; intro _ _ _ h' F' N')); (try k_sweep))
  k_with "binaryOp Mult int int" => (k_here; with_reducible refine mul_int ?_ (by assumption))
  k_with "binaryOp FloorDiv int int" => (k_here; (with_reducible refine floordiv_int ?h0r13 ?_ (Or.inl (PyProof.noPylong_of_log2 ?hlr13))); (case h0r13 => first | assumption | omega); (case hlr13 => assumption))
  k_with "inplaceOp FloorDiv int int" => (k_here; (with_reducible refine ifloordiv_int ?h0r14 ?_ (Or.inl (PyProof.noPylong_of_log2 ?hlr14))); (case h0r14 => first | assumption | omega); (case hlr14 => assumption))
  k_with "binaryOp Pow int int" => (k_here; (with_reducible refine pow_int_small ?ar15 ?br15 ?cr15 ?_); (case ar15 => omega); (case br15 => omega); (case cr15 => decide))
  k_with "call builtin:divmod" => (k_here; (with_reducible show wpAny _ _ (call (Value.builtin _) [Value.int _ _, Value.int _ _]) _ _ _); (refine divmod_N (by k_asm) (by k_asm) (by assumption) ?_ (Or.inl (PyProof.noPylong_of_log2 (by assumption)))); intro h' F' N'; (try k_sweep))
  k_with "exec Raise some none" => (k_here; refine raise44 rfl ?_)
  k_with "RaisePost" => (k_here; refine' raisePost ?Fr18 ?Xr18 ?Nr18 ?_; (case Fr18 => k_asm); (case Xr18 => k_asm); (case Nr18 => k_asm))
  k_with "call ref" => (k_here; (with_reducible show wpAny _ _ (call (Value.ref 44) [Value.str _ _]) _ _ _); k_dflt (refine' call_fault ?k1r19 ?k2r19 ?k3r19 ?k4r19 ?k5r19 ?kKr19 ?kdr19 ?_; (case k1r19 => k_asm); (case k2r19 => k_asm); (case k3r19 => k_asm); (case k4r19 => k_asm); (case k5r19 => k_asm); (case kKr19 => first | exact rfl | assumption); (case kdr19 => first | exact room3 (by assumption) rfl | exact room2 (by assumption) rfl | ktr_room); k_whole); intro h' e' t' d' tk' F' N' l1' l2' l3'; (try dsimp only); (try k_sweep))
  k_with "leaving ref" => (k_here; k_dflt (first | (refine' leave_fault ?Kr20 ?Fr20 ?Nr20 ?h1r20 ?h2r20 ?h3r20 sub_id ?_; (case Kr20 => assumption); (case Fr20 => k_asm); (case Nr20 => k_asm); (case h1r20 => assumption); (case h2r20 => assumption); (case h3r20 => assumption); k_whole; intro h' R' U') | (refine' leave_onS ?Kr20 ?Fr20 ?Rr20 ?Ur20 ?_; (case Rr20 => assumption); (case Fr20 => assumption); (case Kr20 => assumption); (case Ur20 => assumption); k_whole; intro h' R' K' U'; clear K')))
  k_with "execs cons" => (k_here; (with_reducible show wpAny _ _ _ _ _ (Shared.mk _ _ _ (_ + 1) _)); (with_reducible refine gen_toks (s := Shared.mk _ _ _ 0 _) ?_); intro tk'; (try dsimp only))
  k_with "execs nil" => (k_here; (with_reducible show wpAny _ _ _ _ _ (Shared.mk _ _ _ (_ + 1) _)); (with_reducible refine gen_toks (s := Shared.mk _ _ _ 0 _) ?_); intro tk'; (try dsimp only))
  exact True.intro
/-- the number of decimal digits -/
def cd (n : Nat) : Nat := if h : n = 0 then 0 else cd (n / 10) + 1
termination_by n
decreasing_by omega
theorem cd_zero : cd 0 = 0 := by rw [cd]; simp
theorem cd_pos {n : Nat} (h : n ≠ 0) : cd n = cd (n / 10) + 1 := by rw [cd]; simp [h]
theorem cd_nine {n : Nat} (h : 1000000000 ≤ n) : cd n = cd (n / 1000000000) + 9 := by
  rw [cd_pos (n := n) (by (first | lia | omega)), cd_pos (n := n / 10) (by (first | lia | omega)), cd_pos (n := n / 10 / 10) (by (first | lia | omega)), cd_pos (n := n / 10 / 10 / 10) (by (first | lia | omega)),
    cd_pos (n := n / 10 / 10 / 10 / 10) (by (first | lia | omega)), cd_pos (n := n / 10 / 10 / 10 / 10 / 10) (by (first | lia | omega)), cd_pos (n := n / 10 / 10 / 10 / 10 / 10 / 10) (by (first | lia | omega)),
    cd_pos (n := n / 10 / 10 / 10 / 10 / 10 / 10 / 10) (by (first | lia | omega)), cd_pos (n := n / 10 / 10 / 10 / 10 / 10 / 10 / 10 / 10) (by (first | lia | omega))]
  rw [show n / 10 / 10 / 10 / 10 / 10 / 10 / 10 / 10 / 10 = n / 1000000000 from by (first | lia | omega)]
theorem fdiv_pos_facts (x : Int) (k : Int) (h : 0 < k) : x.fdiv k = x / k := Int.fdiv_eq_ediv_of_nonneg _ (by (first | lia | omega))
theorem fmod_pos_facts (x : Int) (k : Int) (h : 0 < k) : x.fmod k = x % k := Int.fmod_eq_emod_of_nonneg _ (by omega)
theorem cd_start (n : Int) : (0 ≤ if n < 0 then -n else n) ∧ 0 + (cd (if n < 0 then -n else n).toNat : Int) = (cd n.natAbs : Int) := by
  have e : (if n < 0 then -n else n).toNat = n.natAbs := by split <;> (first | lia | omega)
  refine ⟨by split <;> (first | lia | omega), ?_⟩
  rw [e]; (first | lia | omega)
theorem cd_turn9 {n x c : Int} (h0 : 0 ≤ x) (h : c + (cd x.toNat : Int) = (cd n.natAbs : Int)) (h9 : 1000000000 ≤ x) :
    0 ≤ x.fdiv 1000000000 ∧ c + 9 + (cd (x.fdiv 1000000000).toNat : Int) = (cd n.natAbs : Int) := by
  rw [fdiv_pos_facts _ _ (by decide)]
  have e : (x / 1000000000).toNat = x.toNat / 1000000000 := by (first | lia | omega)
  rw [e]
  rw [cd_nine (n := x.toNat) (by (first | lia | omega))] at h
  refine ⟨by (first | lia | omega), ?_⟩
  rw [← h]; push_cast; (first | lia | omega)
theorem cd_turn1 {n x c : Int} (h0 : 0 ≤ x) (h : c + (cd x.toNat : Int) = (cd n.natAbs : Int)) (h9 : 0 < x) :
    0 ≤ x.fdiv 10 ∧ c + 1 + (cd (x.fdiv 10).toNat : Int) = (cd n.natAbs : Int) := by
  rw [fdiv_pos_facts _ _ (by decide)]
  have e : (x / 10).toNat = x.toNat / 10 := by (first | lia | omega)
  rw [e]
  rw [cd_pos (n := x.toNat) (by (first | lia | omega))] at h
  refine ⟨by (first | lia | omega), ?_⟩
  rw [← h]; push_cast; (first | lia | omega)
theorem cd_end {n x c : Int} (h : c + (cd x.toNat : Int) = (cd n.natAbs : Int)) (h0 : 0 ≤ x) (h9 : ¬ 0 < x) : c = (cd n.natAbs : Int) := by
  have e : x.toNat = 0 := by (first | lia | omega)
  rw [e, cd_zero] at h
  (first | lia | omega)
theorem int_out {v : Int} {x : Int} {t : Tok} (h : x = v) : ∃ t', Value.int x t = Value.int v t' := ⟨t, by rw [h]⟩
theorem count_digits_says (n : Int) (t : Tok) : Says w mean mg mb 1 54 [.int n t] (fun _ => True) (fun _ r => ∃ t', r = .int (cd n.natAbs : Int) t') False := by
  unfold Says
  intro dp un gd cn cs a ccd outer A₀ base h₀ L m news s Q E B F X N T hk hpre hd hu hret hexc
  k_with "exec While Compare cons nil" => k_while (fun (_ : List Int) (x c : Int) => 0 ≤ x ∧ c + (cd x.toNat : Int) = (cd n.natAbs : Int)) (fun (_ : List Int) (x _ : Int) => x.toNat) "n" "count"
  k_with "state" => k_dflt (first | exact cd_start _ | exact cd_turn9 (by assumption) (by assumption) (by assumption) | exact ⟨by assumption, by assumption⟩ | exact cd_turn1 (by assumption) (by assumption) (by assumption))
  k_with "measure" => k_dflt (((rw [fdiv_pos_facts _ _ (by decide)]); omega))
  refine wpAny_call ?_
  k_dflt cell_enter
  k_steps
  all_goals exact hret _ _ _ _ (by k_asm) (by k_asm) (by k_extra "sub_up") (int_out (cd_end (by assumption) (by assumption) (by assumption)))
theorem ln5 : True := by
  k_with_none
  k_with "tu_up" => first | with_reducible assumption | exact Tu.of (List.Mem.head _) | exact Tu.nought | (apply Tu.cons; k_extra "tu_up") | (apply Tu.app; k_extra "tu_up")
  k_with "tu3_up" => first | with_reducible assumption | exact Tu3.of (List.Mem.head _) | (refine Tu3.cons ?_; k_extra "tu3_up") | (refine Tu3.app ?_; k_extra "tu3_up")
  k_with "tur_up" => first | with_reducible assumption | exact TuR.of (List.Mem.head _) | (apply TuR.cons; k_extra "tur_up") | (apply TuR.app; k_extra "tur_up")
  k_with "rv_up" => first | with_reducible assumption | (refine Rv.cons ?_; k_extra "rv_up") | (refine Rv.app ?_; k_extra "rv_up")
  k_with "sub_up" => first | with_reducible assumption | exact sub_id | (refine sub_cons ?_; k_extra "sub_up") | (refine sub_app ?_; k_extra "sub_up")
  k_with "subscriptTail" => (k_here; (with_reducible show wpAny _ _ (subscriptTail _ _ (Value.ref _) (Value.int 0 _)) _ _ _); k_dflt (first | (refine' tu_item0 ?Fr9 ?Xr9 ?Nr9 ?Tr9 ?_ ?hsr9; (case Fr9 => k_asm); (case Xr9 => k_asm); (case Nr9 => k_asm); (case Tr9 => k_extra "tu_up"); (case hsr9 => with_unfolding_all rfl); k_whole; intro _) | (refine' tu_ref0 ?Nr9 ?Tr9 ?_ ?hsr9; (case Nr9 => k_asm); (case Tr9 => k_extra "tur_up"); (case hsr9 => with_unfolding_all rfl); k_whole)))
  k_with "subscriptTail" => (k_here; (with_reducible show wpAny _ _ (subscriptTail _ _ (Value.ref _) (Value.int 1 _)) _ _ _); k_dflt (first | (refine' tu_item1 ?Fr10 ?Xr10 ?Nr10 ?Tr10 ?_ ?hsr10; (case Fr10 => k_asm); (case Xr10 => k_asm); (case Nr10 => k_asm); (case Tr10 => k_extra "tu_up"); (case hsr10 => with_unfolding_all rfl); k_whole; intro _) | (refine' tu_ref1 ?Nr10 ?Tr10 ?_ ?hsr10; (case Nr10 => k_asm); (case Tr10 => k_extra "tur_up"); (case hsr10 => with_unfolding_all rfl); k_whole)))
  k_with "assign Tuple" => (k_here; (with_reducible show wpAny _ _ (assign (Expr.Tuple _ _ _) _ (Value.ref _)) _ _ _); k_dflt (first | (refine' tu_unpack ?Fr11 ?Xr11 ?Nr11 ?Tr11 ?k4r11 ?k5r11 ?k6r11 ?_; (case Fr11 => k_asm); (case Xr11 => k_asm); (case Nr11 => k_asm); (case Tr11 => k_extra "tu_up"); (case k4r11 => exact rfl); (case k5r11 => exact rfl); (case k6r11 => exact rfl); k_whole; intro _ _ h' F' N') | (refine' tu_unpack3 ?Fr11 ?Nr11 ?Tr11 ?k4r11 ?k5r11 ?k6r11 ?_; (case Fr11 => k_asm); (case Nr11 => k_asm); (case Tr11 => k_extra "tu3_up"); (case k4r11 => exact rfl); (case k5r11 => exact rfl); (case k6r11 => exact rfl); k_whole; intro _ _ _ h' F' N')); (try k_sweep))
  k_with "binaryOp Mult int int" => (k_here; with_reducible refine mul_int ?_ (by assumption))
  k_with "binaryOp FloorDiv int int" => (k_here; (with_reducible refine floordiv_int ?h0r13 ?_ (Or.inl (PyProof.noPylong_of_log2 ?hlr13))); (case h0r13 => first | assumption | omega); (case hlr13 => assumption))
  k_with "inplaceOp FloorDiv int int" => (k_here; (with_reducible refine ifloordiv_int ?h0r14 ?_ (Or.inl (PyProof.noPylong_of_log2 ?hlr14))); (case h0r14 => first | assumption | omega); (case hlr14 => assumption))
  k_with "binaryOp Pow int int" => (k_here; (with_reducible refine pow_int_small ?ar15 ?br15 ?cr15 ?_); (case ar15 => omega); (case br15 => omega); (case cr15 => decide))
  k_with "call builtin:divmod" => (k_here; (with_reducible show wpAny _ _ (call (Value.builtin _) [Value.int _ _, Value.int _ _]) _ _ _); (refine divmod_N (by k_asm) (by k_asm) (by assumption) ?_ (Or.inl (PyProof.noPylong_of_log2 (by assumption)))); intro h' F' N'; (try k_sweep))
  k_with "exec Raise some none" => (k_here; refine raise44 rfl ?_)
  k_with "RaisePost" => (k_here; refine' raisePost ?Fr18 ?Xr18 ?Nr18 ?_; (case Fr18 => k_asm); (case Xr18 => k_asm); (case Nr18 => k_asm))
  k_with "call ref" => (k_here; (with_reducible show wpAny _ _ (call (Value.ref 44) [Value.str _ _]) _ _ _); k_dflt (refine' call_fault ?k1r19 ?k2r19 ?k3r19 ?k4r19 ?k5r19 ?kKr19 ?kdr19 ?_; (case k1r19 => k_asm); (case k2r19 => k_asm); (case k3r19 => k_asm); (case k4r19 => k_asm); (case k5r19 => k_asm); (case kKr19 => first | exact rfl | assumption); (case kdr19 => first | exact room3 (by assumption) rfl | exact room2 (by assumption) rfl | ktr_room); k_whole); intro h' e' t' d' tk' F' N' l1' l2' l3'; (try dsimp only); (try k_sweep))
  k_with "leaving ref" => (k_here; k_dflt (first | (refine' leave_fault ?Kr20 ?Fr20 ?Nr20 ?h1r20 ?h2r20 ?h3r20 sub_id ?_; (case Kr20 => assumption); (case Fr20 => k_asm); (case Nr20 => k_asm); (case h1r20 => assumption); (case h2r20 => assumption); (case h3r20 => assumption); k_whole; intro h' R' U') | (refine' leave_onS ?Kr20 ?Fr20 ?Rr20 ?Ur20 ?_; (case Rr20 => assumption); (case Fr20 => assumption); (case Kr20 => assumption); (case Ur20 => assumption); k_whole; intro h' R' K' U'; clear K')))
  k_with "execs cons" => (k_here; (with_reducible show wpAny _ _ _ _ _ (Shared.mk _ _ _ (_ + 1) _)); (with_reducible refine gen_toks (s := Shared.mk _ _ _ 0 _) ?_); intro tk'; (try dsimp only))
  k_with "execs nil" => (k_here; (with_reducible show wpAny _ _ _ _ _ (Shared.mk _ _ _ (_ + 1) _)); (with_reducible refine gen_toks (s := Shared.mk _ _ _ 0 _) ?_); intro tk'; (try dsimp only))
  exact True.intro
theorem ln6 : True := by
  k_with "call ref" => (k_here; (with_reducible show wpAny _ _ (call (Value.ref 54) [Value.int _ _]) _ _ _); k_dflt (refine' says_useI (count_digits_says _ _) ?k1r23 ?k2r23 ?k3r23 ?k4r23 ?k5r23 ?kKr23 ?kpr23 ?kdr23 ?kur23 ?_ (fun h => h.elim); (case k1r23 => k_asm); (case k2r23 => k_asm); (case k3r23 => k_asm); (case k4r23 => k_asm); (case k5r23 => k_asm); (case kKr23 => first | exact rfl | assumption); (case kpr23 => trivial); (case kdr23 => first | exact room3 (by assumption) rfl | exact room2 (by assumption) rfl | ktr_room); (case kur23 => first | exact room3 (by assumption) rfl | ktr_units)); intro r' tl' h' tk' F' N' P'; obtain ⟨t', e'⟩ := P'; subst e'; (try dsimp only); (try k_fold); (try k_sweep))
  exact True.intro
/-- zeros taken off the end -/
def strip : Nat → Int → Int → Int × Int
  | 0, m, e => (m, e)
  | f + 1, m, e => if m.fmod 10 = 0 then strip f (m.fdiv 10) (e + 1) else (m, e)
def stripZ (m e : Int) : Int × Int := if m = 0 then (0, 0) else strip m.natAbs m e
def PairOut (o : Int × Int) (l : List (Addr × Obj)) (r : Value) : Prop := ∃ x, r = .ref x ∧ Tu l x o.1 o.2
theorem PairOut.mono {o : Int × Int} {l l' : List (Addr × Obj)} {r : Value} (h : PairOut o l r) (hs : ∀ p ∈ l, p ∈ l') : PairOut o l' r := let ⟨x, e, t⟩ := h; ⟨x, e, t.mono hs⟩
theorem PairOut.of {o : Int × Int} {l : List (Addr × Obj)} {x : Addr} {a b : Int} (h : Tu l x a b) (e : (a, b) = o) : PairOut o l (.ref x) := by
  subst e; exact ⟨x, rfl, h⟩
def StripI (m e x y : Int) : Prop := x ≠ 0 ∧ ∃ f, x.natAbs ≤ f ∧ strip f x y = stripZ m e
theorem stripI_ne {m e x y : Int} (h : StripI m e x y) : x ≠ 0 := h.1
theorem strip_start {m e : Int} (h : m ≠ 0) : StripI m e m e := ⟨h, m.natAbs, Nat.le_refl _, by unfold stripZ; rw [if_neg h]⟩
theorem strip_small {x : Int} (h : x ≠ 0) (h0 : x.fmod 10 = 0) : x.fdiv 10 ≠ 0 ∧ (x.fdiv 10).natAbs < x.natAbs := by
  rw [fdiv_pos_facts _ _ (by decide)]; rw [fmod_pos_facts _ _ (by decide)] at h0
  omega
theorem strip_turn {m e x y : Int} (h : StripI m e x y) (h0 : x.fmod 10 = 0) : StripI m e (x.fdiv 10) (y + 1) := by
  obtain ⟨hx, f, hf, hs⟩ := h
  obtain ⟨h1, h2⟩ := strip_small hx h0
  cases f with
  | zero => (first | lia | omega)
  | succ f =>
    refine ⟨h1, f, by (first | lia | omega), ?_⟩
    rw [← hs]; show _ = if _ then _ else _
    rw [if_pos h0]
theorem strip_end {m e x y : Int} (h : StripI m e x y) (h0 : x.fmod 10 ≠ 0) : (x, y) = stripZ m e := by
  obtain ⟨hx, f, hf, hs⟩ := h
  cases f with
  | zero => omega
  | succ f => rw [← hs]; show _ = if _ then _ else _; rw [if_neg h0]
theorem stripZ_zero {m e : Int} (h : m = 0) : (0, 0) = stripZ m e := by unfold stripZ; rw [if_pos h]
theorem strip_zeros_says (m e : Int) (t1 t2 : Tok) : Says w mean mg mb 1 61 [.int m t1, .int e t2] (fun _ => True) (PairOut (stripZ m e)) False := by
  unfold Says
  intro dp un gd cn cs a ccd outer A₀ base h₀ L mm news s Q E B F X N T hk hpre hd hu hret hexc
  k_with "exec While Compare cons nil" => k_while (fun (_ : List Int) (x y : Int) => StripI m e x y) (fun (_ : List Int) (x _ : Int) => x.natAbs) "m" "e"
  k_with "state" => k_dflt (first | exact strip_start (by assumption) | exact strip_turn (by assumption) (by assumption))
  k_with "measure" => k_dflt (exact (strip_small (stripI_ne (by assumption)) (by assumption)).2)
  refine wpAny_call ?_
  k_dflt cell_enter
  k_steps
  all_goals first
    | exact hret _ _ _ _ (by k_asm) (by k_asm) (by k_extra "sub_up") (PairOut.of Tu.nought (stripZ_zero (by assumption)))
    | exact hret _ _ _ _ (by k_asm) (by k_asm) (by k_extra "sub_up") (PairOut.of (by k_extra "tu_up") (strip_end (by assumption) (by assumption)))
theorem ln7 : True := by
  k_with_none
  k_with "tu_up" => first | with_reducible assumption | exact Tu.of (List.Mem.head _) | exact Tu.nought | (apply Tu.cons; k_extra "tu_up") | (apply Tu.app; k_extra "tu_up")
  k_with "tu3_up" => first | with_reducible assumption | exact Tu3.of (List.Mem.head _) | (refine Tu3.cons ?_; k_extra "tu3_up") | (refine Tu3.app ?_; k_extra "tu3_up")
  k_with "tur_up" => first | with_reducible assumption | exact TuR.of (List.Mem.head _) | (apply TuR.cons; k_extra "tur_up") | (apply TuR.app; k_extra "tur_up")
  k_with "rv_up" => first | with_reducible assumption | (refine Rv.cons ?_; k_extra "rv_up") | (refine Rv.app ?_; k_extra "rv_up")
  k_with "sub_up" => first | with_reducible assumption | exact sub_id | (refine sub_cons ?_; k_extra "sub_up") | (refine sub_app ?_; k_extra "sub_up")
  k_with "subscriptTail" => (k_here; (with_reducible show wpAny _ _ (subscriptTail _ _ (Value.ref _) (Value.int 0 _)) _ _ _); k_dflt (first | (refine' tu_item0 ?Fr9 ?Xr9 ?Nr9 ?Tr9 ?_ ?hsr9; (case Fr9 => k_asm); (case Xr9 => k_asm); (case Nr9 => k_asm); (case Tr9 => k_extra "tu_up"); (case hsr9 => with_unfolding_all rfl); k_whole; intro _) | (refine' tu_ref0 ?Nr9 ?Tr9 ?_ ?hsr9; (case Nr9 => k_asm); (case Tr9 => k_extra "tur_up"); (case hsr9 => with_unfolding_all rfl); k_whole)))
  k_with "subscriptTail" => (k_here; (with_reducible show wpAny _ _ (subscriptTail _ _ (Value.ref _) (Value.int 1 _)) _ _ _); k_dflt (first | (refine' tu_item1 ?Fr10 ?Xr10 ?Nr10 ?Tr10 ?_ ?hsr10; (case Fr10 => k_asm); (case Xr10 => k_asm); (case Nr10 => k_asm); (case Tr10 => k_extra "tu_up"); (case hsr10 => with_unfolding_all rfl); k_whole; intro _) | (refine' tu_ref1 ?Nr10 ?Tr10 ?_ ?hsr10; (case Nr10 => k_asm); (case Tr10 => k_extra "tur_up"); (case hsr10 => with_unfolding_all rfl); k_whole)))
  k_with "assign Tuple" => (k_here; (with_reducible show wpAny _ _ (assign (Expr.Tuple _ _ _) _ (Value.ref _)) _ _ _); k_dflt (first | (refine' tu_unpack ?Fr11 ?Xr11 ?Nr11 ?Tr11 ?k4r11 ?k5r11 ?k6r11 ?_; (case Fr11 => k_asm); (case Xr11 => k_asm); (case Nr11 => k_asm); (case Tr11 => k_extra "tu_up"); (case k4r11 => exact rfl); (case k5r11 => exact rfl); (case k6r11 => exact rfl); k_whole; intro _ _ h' F' N') | (refine' tu_unpack3 ?Fr11 ?Nr11 ?Tr11 ?k4r11 ?k5r11 ?k6r11 ?_; (case Fr11 => k_asm); (case Nr11 => k_asm); (case Tr11 => k_extra "tu3_up"); (case k4r11 => exact rfl); (case k5r11 => exact rfl); (case k6r11 => exact rfl); k_whole; intro _ _ _ h' F' N')); (try k_sweep))
  k_with "binaryOp Mult int int" => (k_here; with_reducible refine mul_int ?_ (by assumption))
  k_with "binaryOp FloorDiv int int" => (k_here; (with_reducible refine floordiv_int ?h0r13 ?_ (Or.inl (PyProof.noPylong_of_log2 ?hlr13))); (case h0r13 => first | assumption | omega); (case hlr13 => assumption))
  k_with "inplaceOp FloorDiv int int" => (k_here; (with_reducible refine ifloordiv_int ?h0r14 ?_ (Or.inl (PyProof.noPylong_of_log2 ?hlr14))); (case h0r14 => first | assumption | omega); (case hlr14 => assumption))
  k_with "binaryOp Pow int int" => (k_here; (with_reducible refine pow_int_small ?ar15 ?br15 ?cr15 ?_); (case ar15 => omega); (case br15 => omega); (case cr15 => decide))
  k_with "call builtin:divmod" => (k_here; (with_reducible show wpAny _ _ (call (Value.builtin _) [Value.int _ _, Value.int _ _]) _ _ _); (refine divmod_N (by k_asm) (by k_asm) (by assumption) ?_ (Or.inl (PyProof.noPylong_of_log2 (by assumption)))); intro h' F' N'; (try k_sweep))
  k_with "exec Raise some none" => (k_here; refine raise44 rfl ?_)
  k_with "RaisePost" => (k_here; refine' raisePost ?Fr18 ?Xr18 ?Nr18 ?_; (case Fr18 => k_asm); (case Xr18 => k_asm); (case Nr18 => k_asm))
  k_with "call ref" => (k_here; (with_reducible show wpAny _ _ (call (Value.ref 44) [Value.str _ _]) _ _ _); k_dflt (refine' call_fault ?k1r19 ?k2r19 ?k3r19 ?k4r19 ?k5r19 ?kKr19 ?kdr19 ?_; (case k1r19 => k_asm); (case k2r19 => k_asm); (case k3r19 => k_asm); (case k4r19 => k_asm); (case k5r19 => k_asm); (case kKr19 => first | exact rfl | assumption); (case kdr19 => first | exact room3 (by assumption) rfl | exact room2 (by assumption) rfl | ktr_room); k_whole); intro h' e' t' d' tk' F' N' l1' l2' l3'; (try dsimp only); (try k_sweep))
  k_with "leaving ref" => (k_here; k_dflt (first | (refine' leave_fault ?Kr20 ?Fr20 ?Nr20 ?h1r20 ?h2r20 ?h3r20 sub_id ?_; (case Kr20 => assumption); (case Fr20 => k_asm); (case Nr20 => k_asm); (case h1r20 => assumption); (case h2r20 => assumption); (case h3r20 => assumption); k_whole; intro h' R' U') | (refine' leave_onS ?Kr20 ?Fr20 ?Rr20 ?Ur20 ?_; (case Rr20 => assumption); (case Fr20 => assumption); (case Kr20 => assumption); (case Ur20 => assumption); k_whole; intro h' R' K' U'; clear K')))
  k_with "execs cons" => (k_here; (with_reducible show wpAny _ _ _ _ _ (Shared.mk _ _ _ (_ + 1) _)); (with_reducible refine gen_toks (s := Shared.mk _ _ _ 0 _) ?_); intro tk'; (try dsimp only))
  k_with "execs nil" => (k_here; (with_reducible show wpAny _ _ _ _ _ (Shared.mk _ _ _ (_ + 1) _)); (with_reducible refine gen_toks (s := Shared.mk _ _ _ 0 _) ?_); intro tk'; (try dsimp only))
  k_with "call ref" => (k_here; (with_reducible show wpAny _ _ (call (Value.ref 54) [Value.int _ _]) _ _ _); k_dflt (refine' says_useI (count_digits_says _ _) ?k1r23 ?k2r23 ?k3r23 ?k4r23 ?k5r23 ?kKr23 ?kpr23 ?kdr23 ?kur23 ?_ (fun h => h.elim); (case k1r23 => k_asm); (case k2r23 => k_asm); (case k3r23 => k_asm); (case k4r23 => k_asm); (case k5r23 => k_asm); (case kKr23 => first | exact rfl | assumption); (case kpr23 => trivial); (case kdr23 => first | exact room3 (by assumption) rfl | exact room2 (by assumption) rfl | ktr_room); (case kur23 => first | exact room3 (by assumption) rfl | ktr_units)); intro r' tl' h' tk' F' N' P'; obtain ⟨t', e'⟩ := P'; subst e'; (try dsimp only); (try k_fold); (try k_sweep))
  exact True.intro
theorem ln8 : True := by
  k_with "call ref" => (k_here; (with_reducible show wpAny _ _ (call (Value.ref 61) [Value.int _ _, Value.int _ _]) _ _ _); k_dflt (refine' says_useT (strip_zeros_says _ _ _ _) ?k1r24 ?k2r24 ?k3r24 ?k4r24 ?k5r24 ?kKr24 ?kpr24 ?kdr24 ?kur24 (fun _ _ _ hs h => h.mono hs) ?_ (fun h => h.elim); (case k1r24 => k_asm); (case k2r24 => k_asm); (case k3r24 => k_asm); (case k4r24 => k_asm); (case k5r24 => k_asm); (case kKr24 => first | exact rfl | assumption); (case kpr24 => trivial); (case kdr24 => first | exact room3 (by assumption) rfl | exact room2 (by assumption) rfl | ktr_room); (case kur24 => first | exact room3 (by assumption) rfl | ktr_units)); intro r' tl' h' tk' F' N' P'; obtain ⟨x', e', T'⟩ := P'; subst e'; (try dsimp only); (try k_fold); (try k_sweep))
  exact True.intro
/-- rounding: half to even -/
def rdKeep (a p : Int) : Int := if p < 2 * a.fmod p ∨ (2 * a.fmod p = p ∧ (a.fdiv p).fmod 2 = 1) then a.fdiv p + 1 else a.fdiv p
def rd (m e d : Int) : Int × Int :=
  if 0 < (cd m.natAbs : Int) - d then
    stripZ (if 0 < m then rdKeep (if m < 0 then -m else m) (10 ^ ((cd m.natAbs : Int) - d).toNat) else -rdKeep (if m < 0 then -m else m) (10 ^ ((cd m.natAbs : Int) - d).toNat)) (e + ((cd m.natAbs : Int) - d))
  else stripZ m e
theorem pow10_ne (n : Nat) : ((10 : Int) ^ n) ≠ 0 := Int.ne_of_gt (Int.pow_pos (by decide))
theorem pow10_log {n : Nat} (h : n ≤ 2000) : ((10 : Int) ^ n).natAbs.log2 < 9000 := by
  rw [Int.natAbs_pow]
  show (10 ^ n).log2 < 9000
  have h2 : (10 ^ n : Nat) ≤ 16 ^ n := Nat.pow_le_pow_left (by decide) n
  have h3 : (16 ^ n : Nat) = 2 ^ (4 * n) := by rw [Nat.pow_mul]
  have h4 : (10 ^ n : Nat) < 2 ^ 9000 := Nat.lt_of_le_of_lt (h3 ▸ h2) (Nat.pow_lt_pow_right (by decide) (by (first | lia | omega)))
  exact (Nat.log2_lt (Nat.ne_of_gt (Nat.pow_pos (by decide)))).mpr h4
theorem mulOk_small {a b : Int} {m n : Nat} (ha : a.natAbs < 2 ^ m) (hb : b.natAbs < 2 ^ n) (h : m + n ≤ 134217728) : IntMulOk a b :=
  mulOk_of_bits (PyProof.Rows.intBits_le ha) (PyProof.Rows.intBits_le hb) h
theorem fmod_lt_pow {a : Int} {n : Nat} (h : n ≤ 2000) : (a.fmod ((10 : Int) ^ n)).natAbs < 2 ^ 8000 := by
  have hp : (0 : Int) < 10 ^ n := Int.pow_pos (by decide)
  have h1 := Int.emod_nonneg a (Int.ne_of_gt hp)
  have h2 := Int.emod_lt_of_pos a hp
  rw [fmod_pos_facts _ _ hp]
  have h3 : ((10 : Int) ^ n).natAbs < 2 ^ 8000 + 1 := by
    rw [Int.natAbs_pow]
    show 10 ^ n < 2 ^ 8000 + 1
    have h2 : (10 ^ n : Nat) ≤ 16 ^ n := Nat.pow_le_pow_left (by decide) n
    have h3 : (16 ^ n : Nat) = 2 ^ (4 * n) := by rw [Nat.pow_mul]
    have h4 : (2 ^ (4 * n) : Nat) ≤ 2 ^ 8000 := Nat.pow_le_pow_right (by decide) (by (first | lia | omega))
    (first | lia | omega)
  generalize (2 : Nat) ^ 8000 = P at h3 ⊢
  generalize (10 : Int) ^ n = T at *
  (first | lia | omega)
theorem two_rest {a : Int} {n : Nat} (h : n ≤ 2000) : IntMulOk 2 (a.fmod ((10 : Int) ^ n)) := mulOk_small (m := 2) (n := 8000) (by decide) (fmod_lt_pow h) (by decide)
theorem keep_up1 {a p : Int} (h : p < 2 * a.fmod p) : rdKeep a p = a.fdiv p + 1 := by unfold rdKeep; rw [if_pos (.inl h)]
theorem keep_up2 {a p : Int} (h1 : 2 * a.fmod p = p) (h2 : (a.fdiv p).fmod 2 = 1) : rdKeep a p = a.fdiv p + 1 := by unfold rdKeep; rw [if_pos (.inr ⟨h1, h2⟩)]
theorem keep_dn1 {a p : Int} (h : ¬ p < 2 * a.fmod p) (h2 : (a.fdiv p).fmod 2 ≠ 1) : rdKeep a p = a.fdiv p := by unfold rdKeep; rw [if_neg (fun x => x.elim h fun y => h2 y.2)]
theorem keep_dn2 {a p : Int} (h : ¬ p < 2 * a.fmod p) (h2 : 2 * a.fmod p ≠ p) : rdKeep a p = a.fdiv p := by unfold rdKeep; rw [if_neg (fun x => x.elim h fun y => h2 y.1)]
theorem rd_pos {m e d k : Int} (h : 0 < (cd m.natAbs : Int) - d) (hm : 0 < m) (hk : rdKeep (if m < 0 then -m else m) (10 ^ ((cd m.natAbs : Int) - d).toNat) = k) : stripZ k (e + ((cd m.natAbs : Int) - d)) = rd m e d := by
  unfold rd; rw [if_pos h, if_pos hm, hk]
theorem rd_neg {m e d k : Int} (h : 0 < (cd m.natAbs : Int) - d) (hm : ¬ 0 < m) (hk : rdKeep (if m < 0 then -m else m) (10 ^ ((cd m.natAbs : Int) - d).toNat) = k) : stripZ (-k) (e + ((cd m.natAbs : Int) - d)) = rd m e d := by
  unfold rd; rw [if_pos h, if_neg hm, hk]
theorem rd_not {m e d : Int} (h : ¬ 0 < (cd m.natAbs : Int) - d) : stripZ m e = rd m e d := by unfold rd; rw [if_neg h]
theorem PairOut.of2 {o o' : Int × Int} {l : List (Addr × Obj)} {x : Addr} (h : Tu l x o.1 o.2) (e : o = o') : PairOut o' l (.ref x) := by
  subst e; exact ⟨x, rfl, h⟩
theorem round_digits_says (m e d : Int) (t1 t2 t3 : Tok) (hc : cd m.natAbs ≤ 2000) (hd0 : 0 ≤ d) : Says w mean mg mb 2 68 [.int m t1, .int e t2, .int d t3] (fun _ => True) (PairOut (rd m e d)) False := by
  unfold Says
  intro dp un gd cn cs a ccd outer A₀ base h₀ L mm news s Q E B F X N T hk hpre hd hu hret hexc
  have hk1 : ((cd m.natAbs : Int) - d).toNat ≤ 2000 := by omega
  have hp0 := pow10_ne ((cd m.natAbs : Int) - d).toNat
  have hpl := pow10_log hk1
  have hm2 := two_rest (a := if m < 0 then -m else m) hk1
  refine wpAny_call ?_
  k_dflt cell_enter
  k_steps
  all_goals first
    | exact hret _ _ _ _ (by k_asm) (by k_asm) (by k_extra "sub_up") (PairOut.of2 (by k_extra "tu_up") (rd_not (by assumption)))
    | exact hret _ _ _ _ (by k_asm) (by k_asm) (by k_extra "sub_up") (PairOut.of2 (by k_extra "tu_up") (rd_pos (by assumption) (by assumption) (by first | exact keep_up1 (by assumption) | exact keep_up2 (by assumption) (by assumption) | exact keep_dn1 (by assumption) (by assumption) | exact keep_dn2 (by assumption) (by assumption))))
    | exact hret _ _ _ _ (by k_asm) (by k_asm) (by k_extra "sub_up") (PairOut.of2 (by k_extra "tu_up") (rd_neg (by assumption) (by assumption) (by first | exact keep_up1 (by assumption) | exact keep_up2 (by assumption) (by assumption) | exact keep_dn1 (by assumption) (by assumption) | exact keep_dn2 (by assumption) (by assumption))))
theorem ln9 : True := by
  k_with "call ref" => (k_here; (with_reducible show wpAny _ _ (call (Value.ref 68) [Value.int _ _, Value.int _ _, Value.int _ _]) _ _ _); k_dflt (refine' says_useT (round_digits_says _ _ _ _ _ _ (by first | assumption | omega) (by first | assumption | omega)) ?k1r25 ?k2r25 ?k3r25 ?k4r25 ?k5r25 ?kKr25 ?kpr25 ?kdr25 ?kur25 (fun _ _ _ hs h => h.mono hs) ?_ (fun h => h.elim); (case k1r25 => k_asm); (case k2r25 => k_asm); (case k3r25 => k_asm); (case k4r25 => k_asm); (case k5r25 => k_asm); (case kKr25 => first | exact rfl | assumption); (case kpr25 => trivial); (case kdr25 => first | exact room3 (by assumption) rfl | exact room2 (by assumption) rfl | ktr_room); (case kur25 => first | exact room3 (by assumption) rfl | ktr_units)); intro r' tl' h' tk' F' N' P'; obtain ⟨x', e', T'⟩ := P'; subst e'; (try dsimp only); (try k_fold); (try k_sweep))
  exact True.intro
/-- rounding into the range -/
def rr (m e d top : Int) : Option (Int × Int) :=
  if (rd m e d).1 = 0 ∨ (rd m e d).2 + (cd (rd m e d).1.natAbs : Int) - 1 < -top then some (0, 0)
  else if top < (rd m e d).2 + (cd (rd m e d).1.natAbs : Int) - 1 then none else some (rd m e d)
/-- what comes back of a def that may raise -/
def OptOut (o : Option (Int × Int)) (l : List (Addr × Obj)) (r : Value) : Prop := ∃ x a b, r = .ref x ∧ Tu l x a b ∧ o = some (a, b)
theorem OptOut.mono {o : Option (Int × Int)} {l l' : List (Addr × Obj)} {r : Value} (h : OptOut o l r) (hs : ∀ p ∈ l, p ∈ l') : OptOut o l' r := let ⟨x, a, b, e, t, q⟩ := h; ⟨x, a, b, e, t.mono hs, q⟩
theorem OptOut.of {o : Option (Int × Int)} {l : List (Addr × Obj)} {x : Addr} {a b : Int} (h : Tu l x a b) (e : o = some (a, b)) : OptOut o l (.ref x) := ⟨x, a, b, rfl, h, e⟩
theorem rr_zero {m e d top : Int} (h : (rd m e d).1 = 0) : rr m e d top = some (0, 0) := by unfold rr; rw [if_pos (.inl h)]
theorem rr_low {m e d top : Int} (h : (rd m e d).2 + (cd (rd m e d).1.natAbs : Int) - 1 < -top) : rr m e d top = some (0, 0) := by unfold rr; rw [if_pos (.inr h)]
theorem rr_high {m e d top : Int} (h0 : (rd m e d).1 ≠ 0) (h : ¬ (rd m e d).2 + (cd (rd m e d).1.natAbs : Int) - 1 < -top) (h1 : top < (rd m e d).2 + (cd (rd m e d).1.natAbs : Int) - 1) : rr m e d top = none := by
  unfold rr; rw [if_neg (fun x => x.elim h0 h), if_pos h1]
theorem rr_in {m e d top : Int} (h0 : (rd m e d).1 ≠ 0) (h : ¬ (rd m e d).2 + (cd (rd m e d).1.natAbs : Int) - 1 < -top) (h1 : ¬ top < (rd m e d).2 + (cd (rd m e d).1.natAbs : Int) - 1) : rr m e d top = some ((rd m e d).1, (rd m e d).2) := by
  unfold rr; rw [if_neg (fun x => x.elim h0 h), if_neg h1]
theorem round_real_says (m e d top : Int) (t1 t2 t3 t4 : Tok) (hc : cd m.natAbs ≤ 2000) (hd0 : 0 ≤ d) : Says w mean mg mb 6 75 [.int m t1, .int e t2, .int d t3, .int top t4] (fun _ => True) (OptOut (rr m e d top)) (rr m e d top = none) := by
  unfold Says
  intro dp un gd cn cs a ccd outer A₀ base h₀ L mm news s Q E B F X N T hk hpre hd hu hret hexc
  refine wpAny_call ?_
  k_dflt cell_enter
  k_steps
  all_goals first
    | exact hret _ _ _ _ (by k_asm) (by k_asm) (by k_extra "sub_up") (OptOut.of Tu.nought (rr_zero (by assumption)))
    | exact hret _ _ _ _ (by k_asm) (by k_asm) (by k_extra "sub_up") (OptOut.of Tu.nought (rr_low (by assumption)))
    | exact hret _ _ _ _ (by k_asm) (by k_asm) (by k_extra "sub_up") (OptOut.of (by k_extra "tu_up") (rr_in (by assumption) (by assumption) (by assumption)))
    | exact hexc (rr_high (by assumption) (by assumption) (by assumption)) _ _ _ _ _ _ (by assumption) (raisedS_mono (by assumption) (by k_extra "sub_up")) (by assumption)
theorem ln10 : True := by
  k_with "call ref" => (k_here; (with_reducible show wpAny _ _ (call (Value.ref 75) [Value.int _ _, Value.int _ _, Value.int _ _, Value.int _ _]) _ _ _); k_dflt (refine' says_useT (round_real_says _ _ _ _ _ _ _ _ (by first | assumption | omega | exact expP_cd (by assumption) (by assumption) (by assumption) (by assumption) (tooG_lead2 (by assumption) (by assumption))) (by first | assumption | omega)) ?k1r26 ?k2r26 ?k3r26 ?k4r26 ?k5r26 ?kKr26 ?kpr26 ?kdr26 ?kur26 (fun _ _ _ hs h => h.mono hs) ?_ ?_; (case k1r26 => k_asm); (case k2r26 => k_asm); (case k3r26 => k_asm); (case k4r26 => k_asm); (case k5r26 => k_asm); (case kKr26 => first | exact rfl | assumption); (case kpr26 => trivial); (case kdr26 => first | exact room3 (by assumption) rfl | exact room2 (by assumption) rfl | ktr_room); (case kur26 => first | exact room3 (by assumption) rfl | ktr_units)); (intro r' tl' h' tk' F' N' P'; obtain ⟨x', a', b', e', T', O'⟩ := P'; subst e'; (try dsimp only); (try k_fold); (try k_sweep)); rotate_left; (intro c' e' t' vs' g' h' tk' F' R' U'; (try dsimp only); (try k_fold)); rotate_left)
  exact True.intro
theorem exact_mul_says (x y : Addr) (a b c d : Int) (hm : IntMulOk a c) : Says w mean mg mb 1 82 [.ref x, .ref y] (fun l => Tu l x a b ∧ Tu l y c d) (PairOut (a * c, b + d)) False := by
  unfold Says
  intro dp un gd cn cs ad ccd outer A₀ base h₀ L mm news s Q E B F X N T hk hpre hd hu hret hexc
  obtain ⟨hT1, hT2⟩ := hpre
  refine wpAny_call ?_
  k_dflt cell_enter
  k_steps
  all_goals exact hret _ _ _ _ (by k_asm) (by k_asm) (by k_extra "sub_up") (PairOut.of (by k_extra "tu_up") rfl)
theorem ln11 : True := by
  k_with "call ref" => (k_here; (with_reducible show wpAny _ _ (call (Value.ref 82) [Value.ref _, Value.ref _]) _ _ _); k_dflt (refine' says_useT (exact_mul_says _ _ _ _ _ _ ?hmr27) ?k1r27 ?k2r27 ?k3r27 ?k4r27 ?k5r27 ?kKr27 ?kpr27 ?kdr27 ?kur27 (fun _ _ _ hs h => h.mono hs) ?_ (fun h => h.elim); (case k1r27 => k_asm); (case k2r27 => k_asm); (case k3r27 => k_asm); (case k4r27 => k_asm); (case k5r27 => k_asm); (case kKr27 => first | exact rfl | assumption); (case kpr27 => exact ⟨by k_extra "tu_up", by k_extra "tu_up"⟩); (case kdr27 => first | exact room3 (by assumption) rfl | exact room2 (by assumption) rfl | ktr_room); (case kur27 => first | exact room3 (by assumption) rfl | ktr_units); (case hmr27 => assumption)); intro r' tl' h' tk' F' N' P'; obtain ⟨x', e', T'⟩ := P'; subst e'; (try dsimp only); (try k_fold); (try k_sweep))
  exact True.intro
/-- the exponent of the first digit, and one -/
def leadO (a b : Int) : Int := (cd a.natAbs : Int) + b
theorem lead_of_says (x : Addr) (a b : Int) : Says w mean mg mb 2 89 [.ref x] (fun l => Tu l x a b) (fun _ r => ∃ t, r = .int (leadO a b) t) False := by
  unfold Says
  intro dp un gd cn cs ad ccd outer A₀ base h₀ L mm news s Q E B F X N T hk hpre hd hu hret hexc
  refine wpAny_call ?_
  k_dflt cell_enter
  k_steps
  all_goals exact hret _ _ _ _ (by k_asm) (by k_asm) (by k_extra "sub_up") (int_out rfl)
theorem ln12 : True := by
  k_with "call ref" => (k_here; (with_reducible show wpAny _ _ (call (Value.ref 89) [Value.ref _]) _ _ _); k_dflt (refine' says_useI (lead_of_says _ _ _) ?k1r28 ?k2r28 ?k3r28 ?k4r28 ?k5r28 ?kKr28 ?kpr28 ?kdr28 ?kur28 ?_ (fun h => h.elim); (case k1r28 => k_asm); (case k2r28 => k_asm); (case k3r28 => k_asm); (case k4r28 => k_asm); (case k5r28 => k_asm); (case kKr28 => first | exact rfl | assumption); (case kpr28 => k_extra "tu_up"); (case kdr28 => first | exact room3 (by assumption) rfl | exact room2 (by assumption) rfl | ktr_room); (case kur28 => first | exact room3 (by assumption) rfl | ktr_units)); intro r' tl' h' tk' F' N' P'; obtain ⟨t', e'⟩ := P'; subst e'; (try dsimp only); (try k_fold); (try k_sweep))
  exact True.intro
def mx (a b : Int) : Int := if b > a then b else a
def placesF (a b d : Int) : Int := d + mx d (cd a.natAbs) + 10 + mx 0 (leadO a b)
theorem places_for_says (x : Addr) (a b d : Int) (t : Tok) : Says w mean mg mb 3 96 [.ref x, .int d t] (fun l => Tu l x a b) (fun _ r => ∃ t, r = .int (placesF a b d) t) False := by
  unfold Says
  intro dp un gd cn cs ad ccd outer A₀ base h₀ L mm news s Q E B F X N T hk hpre hd hu hret hexc
  refine wpAny_call ?_
  k_dflt cell_enter
  k_steps
  all_goals exact hret _ _ _ _ (by k_asm) (by k_asm) (by k_extra "sub_up") (int_out rfl)
theorem ln13 : True := by
  k_with "call ref" => (k_here; (with_reducible show wpAny _ _ (call (Value.ref 96) [Value.ref _, Value.int _ _]) _ _ _); k_dflt (refine' says_useI (places_for_says _ _ _ _ _) ?k1r29 ?k2r29 ?k3r29 ?k4r29 ?k5r29 ?kKr29 ?kpr29 ?kdr29 ?kur29 ?_ (fun h => h.elim); (case k1r29 => k_asm); (case k2r29 => k_asm); (case k3r29 => k_asm); (case k4r29 => k_asm); (case k5r29 => k_asm); (case kKr29 => first | exact rfl | assumption); (case kpr29 => k_extra "tu_up"); (case kdr29 => first | exact room3 (by assumption) rfl | exact room2 (by assumption) rfl | ktr_room); (case kur29 => first | exact room3 (by assumption) rfl | ktr_units)); intro r' tl' h' tk' F' N' P'; obtain ⟨t', e'⟩ := P'; subst e'; (try dsimp only); (try k_fold); (try k_sweep))
  exact True.intro
/-- cut toward nought at a number of places -/
def fixedF (a b p : Int) : Int := if 0 ≤ b + p then a * 10 ^ (b + p).toNat else if a < 0 then -(if a < 0 then -a else a).fdiv (10 ^ (-(b + p)).toNat) else (if a < 0 then -a else a).fdiv (10 ^ (-(b + p)).toNat)
theorem fixed_up {a b p : Int} (h : 0 ≤ b + p) : a * 10 ^ (b + p).toNat = fixedF a b p := by unfold fixedF; rw [if_pos h]
theorem fixed_neg {a b p : Int} (h : ¬ 0 ≤ b + p) (h1 : a < 0) : -(if a < 0 then -a else a).fdiv (10 ^ (-(b + p)).toNat) = fixedF a b p := by unfold fixedF; rw [if_neg h]; simp only [if_pos h1]
theorem fixed_pos {a b p : Int} (h : ¬ 0 ≤ b + p) (h1 : ¬ a < 0) : (if a < 0 then -a else a).fdiv (10 ^ (-(b + p)).toNat) = fixedF a b p := by unfold fixedF; rw [if_neg h]; simp only [if_neg h1]
theorem pow10_lt {n : Nat} (h : n ≤ 2000) : ((10 : Int) ^ n).natAbs < 2 ^ 8001 := by
  rw [Int.natAbs_pow]
  show 10 ^ n < 2 ^ 8001
  have h2 : (10 ^ n : Nat) ≤ 16 ^ n := Nat.pow_le_pow_left (by decide) n
  have h3 : (16 ^ n : Nat) = 2 ^ (4 * n) := by rw [Nat.pow_mul]
  exact Nat.lt_of_le_of_lt (h3 ▸ h2) (Nat.pow_lt_pow_right (by decide) (by (first | lia | omega)))
theorem mul_pow_ok {a : Int} {n : Nat} (ha : a.natAbs < 2 ^ 8001) (h : n ≤ 2000) : IntMulOk a ((10 : Int) ^ n) := mulOk_small ha (pow10_lt h) (by decide)
theorem fixed_says (x : Addr) (a b p : Int) (t : Tok) (ha : a.natAbs < 2 ^ 8001) (h1 : b + p ≤ 2000) (h2 : -2000 ≤ b + p) : Says w mean mg mb 1 103 [.ref x, .int p t] (fun l => Tu l x a b) (fun _ r => ∃ t, r = .int (fixedF a b p) t) False := by
  unfold Says
  intro dp un gd cn cs ad ccd outer A₀ base h₀ L mm news s Q E B F X N T hk hpre hd hu hret hexc
  have hm := mul_pow_ok (n := (b + p).toNat) ha (by omega)
  have hp0 := pow10_ne (-(b + p)).toNat
  have hpl := pow10_log (n := (-(b + p)).toNat) (by omega)
  refine wpAny_call ?_
  k_dflt cell_enter
  k_steps
  all_goals exact hret _ _ _ _ (by k_asm) (by k_asm) (by k_extra "sub_up") (int_out (by first | exact fixed_up (by assumption) | exact fixed_neg (by assumption) (by assumption) | exact fixed_pos (by assumption) (by assumption)))
theorem ln14 : True := by
  k_with "call ref" => (k_here; (with_reducible show wpAny _ _ (call (Value.ref 103) [Value.ref _, Value.int _ _]) _ _ _); k_dflt (refine' says_useI (fixed_says _ _ _ _ _ ?har30 ?h1r30 ?h2r30) ?k1r30 ?k2r30 ?k3r30 ?k4r30 ?k5r30 ?kKr30 ?kpr30 ?kdr30 ?kur30 ?_ (fun h => h.elim); (case k1r30 => k_asm); (case k2r30 => k_asm); (case k3r30 => k_asm); (case k4r30 => k_asm); (case k5r30 => k_asm); (case kKr30 => first | exact rfl | assumption); (case kpr30 => k_extra "tu_up"); (case kdr30 => first | exact room3 (by assumption) rfl | exact room2 (by assumption) rfl | ktr_room); (case kur30 => first | exact room3 (by assumption) rfl | ktr_units); (case har30 => assumption); (case h1r30 => first | assumption | omega); (case h2r30 => first | assumption | omega)); intro r' tl' h' tk' F' N' P'; obtain ⟨t', e'⟩ := P'; subst e'; (try dsimp only); (try k_fold); (try k_sweep))
  exact True.intro
def tooG (a b top : Int) : Bool := decide ((cd top.natAbs : Int) + 1 < leadO a b)
theorem is_too_great_says (x : Addr) (a b top : Int) (t : Tok) : Says w mean mg mb 3 152 [.ref x, .int top t] (fun l => Tu l x a b) (fun _ r => r = .bool (tooG a b top)) False := by
  unfold Says
  intro dp un gd cn cs ad ccd outer A₀ base h₀ L mm news s Q E B F X N T hk hpre hd hu hret hexc
  refine wpAny_call ?_
  k_dflt cell_enter
  k_steps
  all_goals exact hret _ _ _ _ (by k_asm) (by k_asm) (by k_extra "sub_up") (by first | rfl | (unfold tooG; congr))
theorem ln15 : True := by
  k_with "call ref" => (k_here; (with_reducible show wpAny _ _ (call (Value.ref 152) [Value.ref _, Value.int _ _]) _ _ _); k_dflt (refine' says_useI (is_too_great_says _ _ _ _ _) ?k1r31 ?k2r31 ?k3r31 ?k4r31 ?k5r31 ?kKr31 ?kpr31 ?kdr31 ?kur31 ?_ (fun h => h.elim); (case k1r31 => k_asm); (case k2r31 => k_asm); (case k3r31 => k_asm); (case k4r31 => k_asm); (case k5r31 => k_asm); (case kKr31 => first | exact rfl | assumption); (case kpr31 => k_extra "tu_up"); (case kdr31 => first | exact room3 (by assumption) rfl | exact room2 (by assumption) rfl | ktr_room); (case kur31 => first | exact room3 (by assumption) rfl | ktr_units)); intro r' tl' h' tk' F' N' P'; subst P'; (try dsimp only); (try k_fold); (try k_sweep))
  exact True.intro
/-- the greatest whole number whose square is not above -/
def wrl : Nat → Int → Int → Int
  | 0, _, h => h
  | f + 1, n, h => if h ≤ (h + n.fdiv h).fdiv 2 then h else wrl f n ((h + n.fdiv h).fdiv 2)
def wr0 (n : Int) : Int := 10 ^ (((cd n.natAbs : Int) + 1).fdiv 2).toNat
def wroot (n : Int) : Int := if n = 0 then 0 else wrl (wr0 n).toNat n (wr0 n)
def WrI (n h : Int) : Prop := 0 < n ∧ 0 < h ∧ h ≤ wr0 n ∧ ∃ f, h.toNat ≤ f ∧ wrl f n h = wroot n
theorem wr_half {n h : Int} (hn : 0 < n) (h0 : 0 < h) : 0 < (h + n.fdiv h).fdiv 2 := by
  rw [fdiv_pos_facts _ _ (by decide), fdiv_pos_facts _ _ h0]
  by_cases h1 : h = 1
  · subst h1; rw [Int.ediv_one]; (first | lia | omega)
  · have h2 : 0 ≤ n / h := Int.ediv_nonneg (by (first | lia | omega)) (by (first | lia | omega))
    (first | lia | omega)
theorem wr_start {n : Int} (h0 : 0 ≤ n) (h : n ≠ 0) : WrI n (10 ^ (((cd n.natAbs : Int) + 1).fdiv 2).toNat) :=
  ⟨by (first | lia | omega), Int.pow_pos (by decide), Int.le_refl _, _, Nat.le_refl _, by unfold wroot; rw [if_neg h]; rfl⟩
theorem wr_turn {n h : Int} (I : WrI n h) (h1 : ¬ h ≤ (h + n.fdiv h).fdiv 2) : WrI n ((h + n.fdiv h).fdiv 2) := by
  obtain ⟨hn, h0, hw, f, hf, e⟩ := I
  refine ⟨hn, wr_half hn h0, by omega, ?_⟩
  cases f with
  | zero => omega
  | succ f =>
    refine ⟨f, by omega, ?_⟩
    rw [← e]; show _ = if _ then _ else _
    rw [if_neg h1]
theorem wr_less {n h : Int} (I : WrI n h) (h1 : ¬ h ≤ (h + n.fdiv h).fdiv 2) : ((h + n.fdiv h).fdiv 2).toNat < h.toNat := by
  have := I.2.1
  have := (wr_turn I h1).2.1
  omega
theorem wr_end {n h : Int} (I : WrI n h) (h1 : h ≤ (h + n.fdiv h).fdiv 2) : h = wroot n := by
  obtain ⟨hn, h0, hw, f, hf, e⟩ := I
  cases f with
  | zero => (first | lia | omega)
  | succ f => rw [← e]; show _ = if _ then _ else _; rw [if_pos h1]
theorem wr_ne {n h : Int} (I : WrI n h) : h ≠ 0 := by have := I.2.1; omega
theorem half_cd {n : Nat} (hc : n ≤ 2000) : 0 ≤ ((n : Int) + 1).fdiv 2 ∧ ((n : Int) + 1).fdiv 2 ≤ 1001 := by
  rw [fdiv_pos_facts _ _ (by decide)]; (first | lia | omega)
theorem log_le {a b : Int} (h0 : 0 < a) (h : a ≤ b) (hb : b.natAbs.log2 < 9000) : a.natAbs.log2 < 9000 := by
  have hb0 : b.natAbs ≠ 0 := by omega
  refine (Nat.log2_lt (by omega)).mpr (Nat.lt_of_le_of_lt ?_ ((Nat.log2_lt hb0).mp hb))
  omega
theorem wr_log {n h : Int} (hc : cd n.natAbs ≤ 2000) (I : WrI n h) : h.natAbs.log2 < 9000 := by
  refine log_le I.2.1 I.2.2.1 (pow10_log ?_)
  have := half_cd hc
  omega
theorem wroot_zero {n : Int} (h : n = 0) : 0 = wroot n := by unfold wroot; rw [if_pos h]
theorem whole_root_says (n : Int) (t : Tok) (h0 : 0 ≤ n) (hc : cd n.natAbs ≤ 2000) : Says w mean mg mb 2 110 [.int n t] (fun _ => True) (fun _ r => ∃ t, r = .int (wroot n) t) False := by
  unfold Says
  intro dp un gd cn cs ad ccd outer A₀ base h₀ L mm news s Q E B F X N T hk hpre hd hu hret hexc
  have hq := half_cd hc
  k_with "exec While" => k_while (fun (_ : List Int) (h : Int) => WrI n h ∧ h ≠ 0 ∧ h.natAbs.log2 < 9000) (fun (_ : List Int) (h : Int) => h.toNat) "here"
  k_with "state" => k_dflt (first | exact ⟨wr_start (by assumption) (by assumption), wr_ne (wr_start (by assumption) (by assumption)), wr_log (by assumption) (wr_start (by assumption) (by assumption))⟩ | exact ⟨wr_turn (by assumption) (by assumption), wr_ne (wr_turn (by assumption) (by assumption)), wr_log (by assumption) (wr_turn (by assumption) (by assumption))⟩)
  k_with "measure" => k_dflt (exact wr_less (by assumption) (by assumption))
  refine wpAny_call ?_
  k_dflt cell_enter
  k_steps
  all_goals first
    | exact hret _ _ _ _ (by k_asm) (by k_asm) (by k_extra "sub_up") (int_out (wroot_zero (by assumption)))
    | exact hret _ _ _ _ (by k_asm) (by k_asm) (by k_extra "sub_up") (int_out (wr_end (by assumption) (by assumption)))
theorem ln16 : True := by
  k_with_none
  k_with "tu_up" => first | with_reducible assumption | exact Tu.of (List.Mem.head _) | exact Tu.nought | (apply Tu.cons; k_extra "tu_up") | (apply Tu.app; k_extra "tu_up")
  k_with "tu3_up" => first | with_reducible assumption | exact Tu3.of (List.Mem.head _) | (refine Tu3.cons ?_; k_extra "tu3_up") | (refine Tu3.app ?_; k_extra "tu3_up")
  k_with "tur_up" => first | with_reducible assumption | exact TuR.of (List.Mem.head _) | (apply TuR.cons; k_extra "tur_up") | (apply TuR.app; k_extra "tur_up")
  k_with "rv_up" => first | with_reducible assumption | (refine Rv.cons ?_; k_extra "rv_up") | (refine Rv.app ?_; k_extra "rv_up")
  k_with "sub_up" => first | with_reducible assumption | exact sub_id | (refine sub_cons ?_; k_extra "sub_up") | (refine sub_app ?_; k_extra "sub_up")
  k_with "subscriptTail" => (k_here; (with_reducible show wpAny _ _ (subscriptTail _ _ (Value.ref _) (Value.int 0 _)) _ _ _); k_dflt (first | (refine' tu_item0 ?Fr9 ?Xr9 ?Nr9 ?Tr9 ?_ ?hsr9; (case Fr9 => k_asm); (case Xr9 => k_asm); (case Nr9 => k_asm); (case Tr9 => k_extra "tu_up"); (case hsr9 => with_unfolding_all rfl); k_whole; intro _) | (refine' tu_ref0 ?Nr9 ?Tr9 ?_ ?hsr9; (case Nr9 => k_asm); (case Tr9 => k_extra "tur_up"); (case hsr9 => with_unfolding_all rfl); k_whole)))
  k_with "subscriptTail" => (k_here; (with_reducible show wpAny _ _ (subscriptTail _ _ (Value.ref _) (Value.int 1 _)) _ _ _); k_dflt (first | (refine' tu_item1 ?Fr10 ?Xr10 ?Nr10 ?Tr10 ?_ ?hsr10; (case Fr10 => k_asm); (case Xr10 => k_asm); (case Nr10 => k_asm); (case Tr10 => k_extra "tu_up"); (case hsr10 => with_unfolding_all rfl); k_whole; intro _) | (refine' tu_ref1 ?Nr10 ?Tr10 ?_ ?hsr10; (case Nr10 => k_asm); (case Tr10 => k_extra "tur_up"); (case hsr10 => with_unfolding_all rfl); k_whole)))
  k_with "assign Tuple" => (k_here; (with_reducible show wpAny _ _ (assign (Expr.Tuple _ _ _) _ (Value.ref _)) _ _ _); k_dflt (first | (refine' tu_unpack ?Fr11 ?Xr11 ?Nr11 ?Tr11 ?k4r11 ?k5r11 ?k6r11 ?_; (case Fr11 => k_asm); (case Xr11 => k_asm); (case Nr11 => k_asm); (case Tr11 => k_extra "tu_up"); (case k4r11 => exact rfl); (case k5r11 => exact rfl); (case k6r11 => exact rfl); k_whole; intro _ _ h' F' N') | (refine' tu_unpack3 ?Fr11 ?Nr11 ?Tr11 ?k4r11 ?k5r11 ?k6r11 ?_; (case Fr11 => k_asm); (case Nr11 => k_asm); (case Tr11 => k_extra "tu3_up"); (case k4r11 => exact rfl); (case k5r11 => exact rfl); (case k6r11 => exact rfl); k_whole; intro _ _ _ h' F' N')); (try k_sweep))
  k_with "binaryOp Mult int int" => (k_here; with_reducible refine mul_int ?_ (by assumption))
  k_with "binaryOp FloorDiv int int" => (k_here; (with_reducible refine floordiv_int ?h0r13 ?_ (Or.inl (PyProof.noPylong_of_log2 ?hlr13))); (case h0r13 => first | assumption | omega); (case hlr13 => assumption))
  k_with "inplaceOp FloorDiv int int" => (k_here; (with_reducible refine ifloordiv_int ?h0r14 ?_ (Or.inl (PyProof.noPylong_of_log2 ?hlr14))); (case h0r14 => first | assumption | omega); (case hlr14 => assumption))
  k_with "binaryOp Pow int int" => (k_here; (with_reducible refine pow_int_small ?ar15 ?br15 ?cr15 ?_); (case ar15 => omega); (case br15 => omega); (case cr15 => decide))
  k_with "call builtin:divmod" => (k_here; (with_reducible show wpAny _ _ (call (Value.builtin _) [Value.int _ _, Value.int _ _]) _ _ _); (refine divmod_N (by k_asm) (by k_asm) (by assumption) ?_ (Or.inl (PyProof.noPylong_of_log2 (by assumption)))); intro h' F' N'; (try k_sweep))
  k_with "exec Raise some none" => (k_here; refine raise44 rfl ?_)
  k_with "RaisePost" => (k_here; refine' raisePost ?Fr18 ?Xr18 ?Nr18 ?_; (case Fr18 => k_asm); (case Xr18 => k_asm); (case Nr18 => k_asm))
  k_with "call ref" => (k_here; (with_reducible show wpAny _ _ (call (Value.ref 44) [Value.str _ _]) _ _ _); k_dflt (refine' call_fault ?k1r19 ?k2r19 ?k3r19 ?k4r19 ?k5r19 ?kKr19 ?kdr19 ?_; (case k1r19 => k_asm); (case k2r19 => k_asm); (case k3r19 => k_asm); (case k4r19 => k_asm); (case k5r19 => k_asm); (case kKr19 => first | exact rfl | assumption); (case kdr19 => first | exact room3 (by assumption) rfl | exact room2 (by assumption) rfl | ktr_room); k_whole); intro h' e' t' d' tk' F' N' l1' l2' l3'; (try dsimp only); (try k_sweep))
  k_with "leaving ref" => (k_here; k_dflt (first | (refine' leave_fault ?Kr20 ?Fr20 ?Nr20 ?h1r20 ?h2r20 ?h3r20 sub_id ?_; (case Kr20 => assumption); (case Fr20 => k_asm); (case Nr20 => k_asm); (case h1r20 => assumption); (case h2r20 => assumption); (case h3r20 => assumption); k_whole; intro h' R' U') | (refine' leave_onS ?Kr20 ?Fr20 ?Rr20 ?Ur20 ?_; (case Rr20 => assumption); (case Fr20 => assumption); (case Kr20 => assumption); (case Ur20 => assumption); k_whole; intro h' R' K' U'; clear K')))
  k_with "execs cons" => (k_here; (with_reducible show wpAny _ _ _ _ _ (Shared.mk _ _ _ (_ + 1) _)); (with_reducible refine gen_toks (s := Shared.mk _ _ _ 0 _) ?_); intro tk'; (try dsimp only))
  k_with "execs nil" => (k_here; (with_reducible show wpAny _ _ _ _ _ (Shared.mk _ _ _ (_ + 1) _)); (with_reducible refine gen_toks (s := Shared.mk _ _ _ 0 _) ?_); intro tk'; (try dsimp only))
  k_with "call ref" => (k_here; (with_reducible show wpAny _ _ (call (Value.ref 54) [Value.int _ _]) _ _ _); k_dflt (refine' says_useI (count_digits_says _ _) ?k1r23 ?k2r23 ?k3r23 ?k4r23 ?k5r23 ?kKr23 ?kpr23 ?kdr23 ?kur23 ?_ (fun h => h.elim); (case k1r23 => k_asm); (case k2r23 => k_asm); (case k3r23 => k_asm); (case k4r23 => k_asm); (case k5r23 => k_asm); (case kKr23 => first | exact rfl | assumption); (case kpr23 => trivial); (case kdr23 => first | exact room3 (by assumption) rfl | exact room2 (by assumption) rfl | ktr_room); (case kur23 => first | exact room3 (by assumption) rfl | ktr_units)); intro r' tl' h' tk' F' N' P'; obtain ⟨t', e'⟩ := P'; subst e'; (try dsimp only); (try k_fold); (try k_sweep))
  k_with "call ref" => (k_here; (with_reducible show wpAny _ _ (call (Value.ref 61) [Value.int _ _, Value.int _ _]) _ _ _); k_dflt (refine' says_useT (strip_zeros_says _ _ _ _) ?k1r24 ?k2r24 ?k3r24 ?k4r24 ?k5r24 ?kKr24 ?kpr24 ?kdr24 ?kur24 (fun _ _ _ hs h => h.mono hs) ?_ (fun h => h.elim); (case k1r24 => k_asm); (case k2r24 => k_asm); (case k3r24 => k_asm); (case k4r24 => k_asm); (case k5r24 => k_asm); (case kKr24 => first | exact rfl | assumption); (case kpr24 => trivial); (case kdr24 => first | exact room3 (by assumption) rfl | exact room2 (by assumption) rfl | ktr_room); (case kur24 => first | exact room3 (by assumption) rfl | ktr_units)); intro r' tl' h' tk' F' N' P'; obtain ⟨x', e', T'⟩ := P'; subst e'; (try dsimp only); (try k_fold); (try k_sweep))
  k_with "call ref" => (k_here; (with_reducible show wpAny _ _ (call (Value.ref 68) [Value.int _ _, Value.int _ _, Value.int _ _]) _ _ _); k_dflt (refine' says_useT (round_digits_says _ _ _ _ _ _ (by first | assumption | omega) (by first | assumption | omega)) ?k1r25 ?k2r25 ?k3r25 ?k4r25 ?k5r25 ?kKr25 ?kpr25 ?kdr25 ?kur25 (fun _ _ _ hs h => h.mono hs) ?_ (fun h => h.elim); (case k1r25 => k_asm); (case k2r25 => k_asm); (case k3r25 => k_asm); (case k4r25 => k_asm); (case k5r25 => k_asm); (case kKr25 => first | exact rfl | assumption); (case kpr25 => trivial); (case kdr25 => first | exact room3 (by assumption) rfl | exact room2 (by assumption) rfl | ktr_room); (case kur25 => first | exact room3 (by assumption) rfl | ktr_units)); intro r' tl' h' tk' F' N' P'; obtain ⟨x', e', T'⟩ := P'; subst e'; (try dsimp only); (try k_fold); (try k_sweep))
  k_with "call ref" => (k_here; (with_reducible show wpAny _ _ (call (Value.ref 75) [Value.int _ _, Value.int _ _, Value.int _ _, Value.int _ _]) _ _ _); k_dflt (refine' says_useT (round_real_says _ _ _ _ _ _ _ _ (by first | assumption | omega | exact expP_cd (by assumption) (by assumption) (by assumption) (by assumption) (tooG_lead2 (by assumption) (by assumption))) (by first | assumption | omega)) ?k1r26 ?k2r26 ?k3r26 ?k4r26 ?k5r26 ?kKr26 ?kpr26 ?kdr26 ?kur26 (fun _ _ _ hs h => h.mono hs) ?_ ?_; (case k1r26 => k_asm); (case k2r26 => k_asm); (case k3r26 => k_asm); (case k4r26 => k_asm); (case k5r26 => k_asm); (case kKr26 => first | exact rfl | assumption); (case kpr26 => trivial); (case kdr26 => first | exact room3 (by assumption) rfl | exact room2 (by assumption) rfl | ktr_room); (case kur26 => first | exact room3 (by assumption) rfl | ktr_units)); (intro r' tl' h' tk' F' N' P'; obtain ⟨x', a', b', e', T', O'⟩ := P'; subst e'; (try dsimp only); (try k_fold); (try k_sweep)); rotate_left; (intro c' e' t' vs' g' h' tk' F' R' U'; (try dsimp only); (try k_fold)); rotate_left)
  k_with "call ref" => (k_here; (with_reducible show wpAny _ _ (call (Value.ref 82) [Value.ref _, Value.ref _]) _ _ _); k_dflt (refine' says_useT (exact_mul_says _ _ _ _ _ _ ?hmr27) ?k1r27 ?k2r27 ?k3r27 ?k4r27 ?k5r27 ?kKr27 ?kpr27 ?kdr27 ?kur27 (fun _ _ _ hs h => h.mono hs) ?_ (fun h => h.elim); (case k1r27 => k_asm); (case k2r27 => k_asm); (case k3r27 => k_asm); (case k4r27 => k_asm); (case k5r27 => k_asm); (case kKr27 => first | exact rfl | assumption); (case kpr27 => exact ⟨by k_extra "tu_up", by k_extra "tu_up"⟩); (case kdr27 => first | exact room3 (by assumption) rfl | exact room2 (by assumption) rfl | ktr_room); (case kur27 => first | exact room3 (by assumption) rfl | ktr_units); (case hmr27 => assumption)); intro r' tl' h' tk' F' N' P'; obtain ⟨x', e', T'⟩ := P'; subst e'; (try dsimp only); (try k_fold); (try k_sweep))
  k_with "call ref" => (k_here; (with_reducible show wpAny _ _ (call (Value.ref 89) [Value.ref _]) _ _ _); k_dflt (refine' says_useI (lead_of_says _ _ _) ?k1r28 ?k2r28 ?k3r28 ?k4r28 ?k5r28 ?kKr28 ?kpr28 ?kdr28 ?kur28 ?_ (fun h => h.elim); (case k1r28 => k_asm); (case k2r28 => k_asm); (case k3r28 => k_asm); (case k4r28 => k_asm); (case k5r28 => k_asm); (case kKr28 => first | exact rfl | assumption); (case kpr28 => k_extra "tu_up"); (case kdr28 => first | exact room3 (by assumption) rfl | exact room2 (by assumption) rfl | ktr_room); (case kur28 => first | exact room3 (by assumption) rfl | ktr_units)); intro r' tl' h' tk' F' N' P'; obtain ⟨t', e'⟩ := P'; subst e'; (try dsimp only); (try k_fold); (try k_sweep))
  k_with "call ref" => (k_here; (with_reducible show wpAny _ _ (call (Value.ref 96) [Value.ref _, Value.int _ _]) _ _ _); k_dflt (refine' says_useI (places_for_says _ _ _ _ _) ?k1r29 ?k2r29 ?k3r29 ?k4r29 ?k5r29 ?kKr29 ?kpr29 ?kdr29 ?kur29 ?_ (fun h => h.elim); (case k1r29 => k_asm); (case k2r29 => k_asm); (case k3r29 => k_asm); (case k4r29 => k_asm); (case k5r29 => k_asm); (case kKr29 => first | exact rfl | assumption); (case kpr29 => k_extra "tu_up"); (case kdr29 => first | exact room3 (by assumption) rfl | exact room2 (by assumption) rfl | ktr_room); (case kur29 => first | exact room3 (by assumption) rfl | ktr_units)); intro r' tl' h' tk' F' N' P'; obtain ⟨t', e'⟩ := P'; subst e'; (try dsimp only); (try k_fold); (try k_sweep))
  k_with "call ref" => (k_here; (with_reducible show wpAny _ _ (call (Value.ref 103) [Value.ref _, Value.int _ _]) _ _ _); k_dflt (refine' says_useI (fixed_says _ _ _ _ _ ?har30 ?h1r30 ?h2r30) ?k1r30 ?k2r30 ?k3r30 ?k4r30 ?k5r30 ?kKr30 ?kpr30 ?kdr30 ?kur30 ?_ (fun h => h.elim); (case k1r30 => k_asm); (case k2r30 => k_asm); (case k3r30 => k_asm); (case k4r30 => k_asm); (case k5r30 => k_asm); (case kKr30 => first | exact rfl | assumption); (case kpr30 => k_extra "tu_up"); (case kdr30 => first | exact room3 (by assumption) rfl | exact room2 (by assumption) rfl | ktr_room); (case kur30 => first | exact room3 (by assumption) rfl | ktr_units); (case har30 => assumption); (case h1r30 => first | assumption | omega); (case h2r30 => first | assumption | omega)); intro r' tl' h' tk' F' N' P'; obtain ⟨t', e'⟩ := P'; subst e'; (try dsimp only); (try k_fold); (try k_sweep))
  k_with "call ref" => (k_here; (with_reducible show wpAny _ _ (call (Value.ref 152) [Value.ref _, Value.int _ _]) _ _ _); k_dflt (refine' says_useI (is_too_great_says _ _ _ _ _) ?k1r31 ?k2r31 ?k3r31 ?k4r31 ?k5r31 ?kKr31 ?kpr31 ?kdr31 ?kur31 ?_ (fun h => h.elim); (case k1r31 => k_asm); (case k2r31 => k_asm); (case k3r31 => k_asm); (case k4r31 => k_asm); (case k5r31 => k_asm); (case kKr31 => first | exact rfl | assumption); (case kpr31 => k_extra "tu_up"); (case kdr31 => first | exact room3 (by assumption) rfl | exact room2 (by assumption) rfl | ktr_room); (case kur31 => first | exact room3 (by assumption) rfl | ktr_units)); intro r' tl' h' tk' F' N' P'; subst P'; (try dsimp only); (try k_fold); (try k_sweep))
  exact True.intro
theorem ln17 : True := by
  k_with "call ref" => (k_here; (with_reducible show wpAny _ _ (call (Value.ref 110) [Value.int _ _]) _ _ _); k_dflt (refine' says_useI (whole_root_says _ _ ?h0r32 ?hcr32) ?k1r32 ?k2r32 ?k3r32 ?k4r32 ?k5r32 ?kKr32 ?kpr32 ?kdr32 ?kur32 ?_ (fun h => h.elim); (case k1r32 => k_asm); (case k2r32 => k_asm); (case k3r32 => k_asm); (case k4r32 => k_asm); (case k5r32 => k_asm); (case kKr32 => first | exact rfl | assumption); (case kpr32 => trivial); (case kdr32 => first | exact room3 (by assumption) rfl | exact room2 (by assumption) rfl | ktr_room); (case kur32 => first | exact room3 (by assumption) rfl | ktr_units); (case h0r32 => first | assumption | omega); (case hcr32 => first | assumption | omega)); intro r' tl' h' tk' F' N' P'; obtain ⟨t', e'⟩ := P'; subst e'; (try dsimp only); (try k_fold); (try k_sweep))
  exact True.intro
theorem lt_pow_cd (n : Nat) : n < 10 ^ cd n := by
  induction n using Nat.strongRecOn with
  | _ n ih =>
    by_cases h : n = 0
    · subst h; rw [cd_zero]; decide
    · have h1 := ih (n / 10) (by (first | lia | omega))
      rw [cd_pos h, Nat.pow_succ]
      (first | lia | omega)
theorem pow_cd_le (n : Nat) (h : n ≠ 0) : 10 ^ cd n ≤ n * 10 := by
  induction n using Nat.strongRecOn with
  | _ n ih =>
    rw [cd_pos h, Nat.pow_succ]
    by_cases h1 : n / 10 = 0
    · rw [h1, cd_zero]; (first | lia | omega)
    · have := ih (n / 10) (by (first | lia | omega)) h1
      (first | lia | omega)
theorem cd_le {n k : Nat} (h : n < 10 ^ k) : cd n ≤ k := by
  by_cases h0 : n = 0
  · subst h0; rw [cd_zero]; (first | lia | omega)
  · have h1 := pow_cd_le n h0
    have h2 : (10 : Nat) ^ cd n < 10 ^ (k + 1) := by rw [Nat.pow_succ]; (first | lia | omega)
    have := (Nat.pow_lt_pow_iff_right (a := 10) (by decide)).mp h2
    (first | lia | omega)
theorem lt_of_cd {n k : Nat} (h : cd n ≤ k) : n < 10 ^ k := Nat.lt_of_lt_of_le (lt_pow_cd n) (Nat.pow_le_pow_right (by decide) h)
theorem bits_of_cd {n k : Nat} (h : cd n ≤ k) : n < 2 ^ (4 * k) := by
  have h1 := lt_of_cd h
  have h2 : (10 : Nat) ^ k ≤ 16 ^ k := Nat.pow_le_pow_left (by decide) k
  have h3 : (16 : Nat) ^ k = 2 ^ (4 * k) := by rw [Nat.pow_mul]
  (first | lia | omega)
theorem cd_mul {a b j k : Nat} (ha : cd a ≤ j) (hb : cd b ≤ k) : cd (a * b) ≤ j + k := by
  have h1 := lt_of_cd ha
  have h2 := lt_of_cd hb
  refine cd_le ?_
  rw [Nat.pow_add]
  exact Nat.mul_lt_mul_of_lt_of_le h1 (Nat.le_of_lt h2) (Nat.lt_of_le_of_lt (Nat.zero_le _) h2)
theorem cd_mono {a b : Nat} (h : a ≤ b) : cd a ≤ cd b := cd_le (Nat.lt_of_le_of_lt h (lt_pow_cd b))
theorem cd_pow (k : Nat) : cd (10 ^ k) ≤ k + 1 := cd_le (Nat.pow_lt_pow_right (by decide) (Nat.lt_succ_self k))
theorem cd_add {a b j : Nat} (ha : cd a ≤ j) (hb : cd b ≤ j) : cd (a + b) ≤ j + 1 := by
  have h1 := lt_of_cd ha
  have h2 := lt_of_cd hb
  refine cd_le ?_
  rw [Nat.pow_succ]; (first | lia | omega)
theorem mulOk_cd {a b : Int} {j k : Nat} (ha : cd a.natAbs ≤ j) (hb : cd b.natAbs ≤ k) (h : j + k ≤ 20000000) : IntMulOk a b :=
  mulOk_small (bits_of_cd ha) (bits_of_cd hb) (by (first | lia | omega))
theorem log_cd {a : Int} {j : Nat} (ha : cd a.natAbs ≤ j) (h : j ≤ 2000) : a.natAbs.log2 < 9000 := by
  by_cases h0 : a.natAbs = 0
  · rw [h0]; decide
  · exact (Nat.log2_lt h0).mpr (Nat.lt_of_lt_of_le (bits_of_cd ha) (Nat.pow_le_pow_right (by decide) (by (first | lia | omega))))
theorem wrl_le {n : Int} (f : Nat) (h : Int) (hn : 0 < n) (h0 : 0 < h) : 0 < wrl f n h ∧ wrl f n h ≤ h := by
  induction f generalizing h with
  | zero => exact ⟨h0, Int.le_refl _⟩
  | succ f ih =>
    unfold wrl
    by_cases h1 : h ≤ (h + n.fdiv h).fdiv 2
    · rw [if_pos h1]; exact ⟨h0, Int.le_refl _⟩
    · rw [if_neg h1]
      have := ih _ (wr_half hn h0)
      omega
theorem wroot_le {n : Int} (h0 : 0 ≤ n) : 0 ≤ wroot n ∧ wroot n ≤ wr0 n := by
  have hp : 0 < wr0 n := Int.pow_pos (by decide)
  unfold wroot
  by_cases h : n = 0
  · rw [if_pos h]; (first | lia | omega)
  · rw [if_neg h]
    have := wrl_le (wr0 n).toNat (wr0 n) (show 0 < n by (first | lia | omega)) hp
    (first | lia | omega)
theorem cd_root {n : Int} {j : Nat} (h0 : 0 ≤ n) (h : cd n.natAbs ≤ j) : cd (wroot n).natAbs ≤ j + 2 := by
  have h1 := wroot_le h0
  have h2 : (wroot n).natAbs ≤ 10 ^ (((cd n.natAbs : Int) + 1).fdiv 2).toNat := by
    have : ((wroot n).natAbs : Int) ≤ ((10 ^ (((cd n.natAbs : Int) + 1).fdiv 2).toNat : Nat) : Int) := by
      have e : ((10 ^ (((cd n.natAbs : Int) + 1).fdiv 2).toNat : Nat) : Int) = wr0 n := by unfold wr0; push_cast; rfl
      rw [e]; omega
    omega
  refine Nat.le_trans (cd_mono h2) (Nat.le_trans (cd_pow _) ?_)
  have : (((cd n.natAbs : Int) + 1).fdiv 2).toNat ≤ cd n.natAbs + 1 := by rw [fdiv_pos_facts _ _ (by decide)]; omega
  omega
/-- the square root, rounded -/
def sqMore (a b d : Int) : Int := if (b - (if 2 * d + 2 - (cd a.natAbs : Int) > 0 then 2 * d + 2 - (cd a.natAbs : Int) else 0)).fmod 2 = 1 then (if 2 * d + 2 - (cd a.natAbs : Int) > 0 then 2 * d + 2 - (cd a.natAbs : Int) else 0) + 1 else (if 2 * d + 2 - (cd a.natAbs : Int) > 0 then 2 * d + 2 - (cd a.natAbs : Int) else 0)
def sqRest (q : Int) : Int := if wroot q * wroot q ≠ q then 1 else 0
def sqrtR (a b d top : Int) : Option (Int × Int) :=
  if a = 0 then some (0, 0)
  else rr (10 * wroot (a * 10 ^ (sqMore a b d).toNat) + sqRest (a * 10 ^ (sqMore a b d).toNat)) ((b - sqMore a b d).fdiv 2 - 1) d top
theorem sq_facts {a : Int} {k : Nat} (h0 : 0 ≤ a) (ha : cd a.natAbs ≤ 100) (hk : k ≤ 300) :
    IntMulOk a (10 ^ k) ∧ 0 ≤ a * 10 ^ k ∧ cd (a * 10 ^ k).natAbs ≤ 2000 ∧ IntMulOk (wroot (a * 10 ^ k)) (wroot (a * 10 ^ k)) ∧ IntMulOk 10 (wroot (a * 10 ^ k)) ∧
      cd (10 * wroot (a * 10 ^ k) + 1).natAbs ≤ 2000 ∧ cd (10 * wroot (a * 10 ^ k) + 0).natAbs ≤ 2000 := by
  have hp : (0 : Int) < 10 ^ k := Int.pow_pos (by decide)
  have h1 : 0 ≤ a * 10 ^ k := Int.mul_nonneg h0 (Int.le_of_lt hp)
  have hpc : cd ((10 : Int) ^ k).natAbs ≤ k + 1 := by rw [Int.natAbs_pow]; exact cd_pow k
  have h2 : cd (a * 10 ^ k).natAbs ≤ 100 + (k + 1) := by rw [Int.natAbs_mul]; exact cd_mul ha hpc
  have h3 := cd_root h1 h2
  have h4 : cd (10 * wroot (a * 10 ^ k)).natAbs ≤ 2 + (100 + (k + 1) + 2) := by rw [Int.natAbs_mul]; exact cd_mul (by rw [show (10 : Int).natAbs = 10 from rfl]; exact cd_le (by decide)) h3
  refine ⟨mulOk_cd ha hpc (by (first | lia | omega)), h1, by (first | lia | omega), mulOk_cd h3 h3 (by (first | lia | omega)), mulOk_cd (j := 2) (by rw [show (10 : Int).natAbs = 10 from rfl]; exact cd_le (by decide)) h3 (by (first | lia | omega)), ?_, ?_⟩
  · have := wroot_le h1
    have e : (10 * wroot (a * 10 ^ k) + 1).natAbs = (10 * wroot (a * 10 ^ k)).natAbs + 1 := by (first | lia | omega)
    rw [e]
    exact Nat.le_trans (cd_add h4 (cd_le (k := 2 + (100 + (k + 1) + 2)) (Nat.lt_of_lt_of_le (by decide : 1 < 10 ^ 1) (Nat.pow_le_pow_right (by decide) (by (first | lia | omega)))))) (by (first | lia | omega))
  · rw [Int.add_zero]; (first | lia | omega)
theorem sq_zero {a b d top : Int} (h : a = 0) : sqrtR a b d top = some (0, 0) := by unfold sqrtR; rw [if_pos h]
theorem sq_go {a b d top more rest : Int} (h : a ≠ 0) (hm : sqMore a b d = more) (hr : sqRest (a * 10 ^ more.toNat) = rest) :
    sqrtR a b d top = rr (10 * wroot (a * 10 ^ more.toNat) + rest) ((b - more).fdiv 2 - 1) d top := by
  unfold sqrtR; rw [if_neg h, hm, hr]
theorem sq_more1 {a b d : Int} (h : (b - (if 2 * d + 2 - (cd a.natAbs : Int) > 0 then 2 * d + 2 - (cd a.natAbs : Int) else 0)).fmod 2 = 1) : sqMore a b d = (if 2 * d + 2 - (cd a.natAbs : Int) > 0 then 2 * d + 2 - (cd a.natAbs : Int) else 0) + 1 := by unfold sqMore; rw [if_pos h]
theorem sq_more0 {a b d : Int} (h : (b - (if 2 * d + 2 - (cd a.natAbs : Int) > 0 then 2 * d + 2 - (cd a.natAbs : Int) else 0)).fmod 2 ≠ 1) : sqMore a b d = (if 2 * d + 2 - (cd a.natAbs : Int) > 0 then 2 * d + 2 - (cd a.natAbs : Int) else 0) := by unfold sqMore; rw [if_neg h]
theorem sq_rest1 {q : Int} (h : wroot q * wroot q ≠ q) : sqRest q = 1 := by unfold sqRest; rw [if_pos h]
theorem sq_rest0 {q : Int} (h : wroot q * wroot q = q) : sqRest q = 0 := by unfold sqRest; rw [if_neg (fun x => x h)]
theorem sqrt_real_says (x : Addr) (a b d top : Int) (t1 t2 : Tok) (h0 : 0 ≤ a) (ha : cd a.natAbs ≤ 100) (hd0 : 0 ≤ d) (hd1 : d ≤ 100) :
    Says w mean mg mb 8 117 [.ref x, .int d t1, .int top t2] (fun l => Tu l x a b) (OptOut (sqrtR a b d top)) (sqrtR a b d top = none) := by
  unfold Says
  intro dp un gd cn cs ad ccd outer A₀ base h₀ L mm news s Q E B F X N T hk hpre hd hu hret hexc
  have hmd : IntMulOk 2 d := mulOk_cd (j := 1) (k := 3) (by rw [show (2 : Int).natAbs = 2 from rfl]; exact cd_le (by decide)) (cd_le (by omega)) (by omega)
  have hM : 0 ≤ (if 2 * d + 2 - (cd a.natAbs : Int) > 0 then 2 * d + 2 - (cd a.natAbs : Int) else 0) ∧ (if 2 * d + 2 - (cd a.natAbs : Int) > 0 then 2 * d + 2 - (cd a.natAbs : Int) else 0) ≤ 202 := by split <;> omega
  obtain ⟨f1, f2, f3, f4, f5, f6, f7⟩ := sq_facts (k := (if 2 * d + 2 - (cd a.natAbs : Int) > 0 then 2 * d + 2 - (cd a.natAbs : Int) else 0).toNat) h0 ha (by omega)
  obtain ⟨g1, g2, g3, g4, g5, g6, g7⟩ := sq_facts (k := ((if 2 * d + 2 - (cd a.natAbs : Int) > 0 then 2 * d + 2 - (cd a.natAbs : Int) else 0) + 1).toNat) h0 ha (by omega)
  refine wpAny_call ?_
  k_dflt cell_enter
  k_steps
  all_goals first
    | exact hret _ _ _ _ (by k_asm) (by k_asm) (by k_extra "sub_up") (OptOut.of (by k_extra "tu_up") (sq_zero (by assumption)))
    | exact hret _ _ _ _ (by k_asm) (by k_asm) (by k_extra "sub_up") (OptOut.of (by k_extra "tu_up") ((sq_go (by assumption) (by first | exact sq_more1 (by assumption) | exact sq_more0 (by assumption)) (by first | exact sq_rest1 (by assumption) | exact sq_rest0 (by assumption))).trans (by assumption)))
    | exact hexc ((sq_go (by assumption) (by first | exact sq_more1 (by assumption) | exact sq_more0 (by assumption)) (by first | exact sq_rest1 (by assumption) | exact sq_rest0 (by assumption))).trans (by assumption)) _ _ _ _ _ _ (by assumption) (raisedS_mono (by assumption) (by k_extra "sub_up")) (by assumption)
theorem ln18 : True := by
  k_with "call ref" => (k_here; (with_reducible show wpAny _ _ (call (Value.ref 117) [Value.ref _, Value.int _ _, Value.int _ _]) _ _ _); k_dflt (refine' says_useT (sqrt_real_says _ _ _ _ _ _ _ ?h0r33 ?har33 ?hd0r33 ?hd1r33) ?k1r33 ?k2r33 ?k3r33 ?k4r33 ?k5r33 ?kKr33 ?kpr33 ?kdr33 ?kur33 (fun _ _ _ hs h => h.mono hs) ?_ ?_; (case k1r33 => k_asm); (case k2r33 => k_asm); (case k3r33 => k_asm); (case k4r33 => k_asm); (case k5r33 => k_asm); (case kKr33 => first | exact rfl | assumption); (case kpr33 => k_extra "tu_up"); (case kdr33 => first | exact room3 (by assumption) rfl | exact room2 (by assumption) rfl | ktr_room); (case kur33 => first | exact room3 (by assumption) rfl | ktr_units); (case h0r33 => first | assumption | omega); (case har33 => first | assumption | omega); (case hd0r33 => first | assumption | omega); (case hd1r33 => first | assumption | omega)); (intro r' tl' h' tk' F' N' P'; obtain ⟨x', a', b', e', T', O'⟩ := P'; subst e'; (try dsimp only); (try k_fold); (try k_sweep)); rotate_left; (intro c' e' t' vs' g' h' tk' F' R' U'; (try dsimp only); (try k_fold)); rotate_left)
  exact True.intro
/-- below nought the root is a fault -/
theorem sqrt_neg_says (x : Addr) (a b d top : Int) (t1 t2 : Tok) (h0 : a < 0) :
    Says w mean mg mb 8 117 [.ref x, .int d t1, .int top t2] (fun l => Tu l x a b) (fun _ _ => False) True := by
  unfold Says
  intro dp un gd cn cs ad ccd outer A₀ base h₀ L mm news s Q E B F X N T hk hpre hd hu hret hexc
  refine wpAny_call ?_
  k_dflt cell_enter
  k_steps
  all_goals exact hexc trivial _ _ _ _ _ _ (by assumption) (raisedS_mono (by assumption) (by k_extra "sub_up")) (by assumption)
theorem ln19 : True := by
  k_with "call ref" => (k_here; (with_reducible show wpAny _ _ (call (Value.ref 117) [Value.ref _, Value.int _ _, Value.int _ _]) _ _ _); k_dflt (refine' says_useI (sqrt_neg_says _ _ _ _ _ _ _ ?h0r34) ?k1r34 ?k2r34 ?k3r34 ?k4r34 ?k5r34 ?kKr34 ?kpr34 ?kdr34 ?kur34 ?_ ?_; (case k1r34 => k_asm); (case k2r34 => k_asm); (case k3r34 => k_asm); (case k4r34 => k_asm); (case k5r34 => k_asm); (case kKr34 => first | exact rfl | assumption); (case kpr34 => k_extra "tu_up"); (case kdr34 => first | exact room3 (by assumption) rfl | exact room2 (by assumption) rfl | ktr_room); (case kur34 => first | exact room3 (by assumption) rfl | ktr_units); (case h0r34 => first | assumption | omega)); (intro r' tl' h' tk' F' N' P'; exact P'.elim); (intro c' e' t' vs' g' h' tk' F' R' U'; (try dsimp only); (try k_fold)))
  exact True.intro
/-- the series of the inverse hyperbolic tangent of one part in dv -/
def invL : Nat → Int → Int → Int → Int → Int
  | 0, _, _, total, _ => total
  | f + 1, q, term, total, n => if 0 < term then invL f q (term.fdiv q) (total + 1 * term.fdiv n) (n + 2) else total
def invS (dv p : Int) : Int := invL (10 ^ p.toNat : Int).toNat (dv * dv) ((10 ^ p.toNat : Int).fdiv dv) 0 1
def InvI (dv p term total n : Int) : Prop :=
  0 ≤ term ∧ 1 ≤ n ∧ n + 2 * term ≤ 2 * 10 ^ p.toNat + 1 ∧ ∃ f, term.toNat ≤ f ∧ invL f (dv * dv) term total n = invS dv p
theorem fdiv_le_self {x k : Int} (hx : 0 ≤ x) (hk : 0 < k) : 0 ≤ x.fdiv k ∧ x.fdiv k ≤ x := by
  rw [fdiv_pos_facts _ _ hk]
  exact ⟨Int.ediv_nonneg hx (Int.le_of_lt hk), Int.ediv_le_self _ hx⟩
theorem fdiv_lt_self {x k : Int} (hx : 0 < x) (hk : 1 < k) : 0 ≤ x.fdiv k ∧ x.fdiv k < x := by
  rw [fdiv_pos_facts _ _ (by (first | lia | omega))]
  exact ⟨Int.ediv_nonneg (by (first | lia | omega)) (by (first | lia | omega)), Int.ediv_lt_of_lt_mul (by (first | lia | omega)) (by
    have := Int.mul_lt_mul_of_pos_left hk hx
    (first | lia | omega))⟩
theorem inv_start {dv p : Int} (h : 2 ≤ dv) : InvI dv p ((10 ^ p.toNat : Int).fdiv dv) 0 1 := by
  have hp : (0 : Int) < 10 ^ p.toNat := Int.pow_pos (by decide)
  have h1 := fdiv_le_self (x := 10 ^ p.toNat) (k := dv) (by omega) (by omega)
  exact ⟨h1.1, by omega, by omega, _, by omega, rfl⟩
theorem sq_gt {dv : Int} (h : 2 ≤ dv) : 1 < dv * dv := by
  have := Int.mul_le_mul h h (by (first | lia | omega)) (by (first | lia | omega))
  (first | lia | omega)
theorem inv_turn {dv p term total n : Int} (h : 2 ≤ dv) (I : InvI dv p term total n) (ht : 0 < term) : InvI dv p (term.fdiv (dv * dv)) (total + 1 * term.fdiv n) (n + 2) := by
  obtain ⟨h0, h1, h2, f, hf, e⟩ := I
  have h3 := fdiv_lt_self ht (sq_gt h)
  cases f with
  | zero => omega
  | succ f =>
    refine ⟨h3.1, by omega, by omega, f, by omega, ?_⟩
    rw [← e]; show _ = if _ then _ else _
    rw [if_pos ht]
theorem inv_less {dv p term total n : Int} (h : 2 ≤ dv) (I : InvI dv p term total n) (ht : 0 < term) : (term.fdiv (dv * dv)).toNat < term.toNat := by
  have h3 := fdiv_lt_self ht (sq_gt h)
  omega
theorem inv_end {dv p term total n : Int} (I : InvI dv p term total n) (ht : ¬ 0 < term) : total = invS dv p := by
  obtain ⟨h0, h1, h2, f, hf, e⟩ := I
  rw [← e]
  cases f with
  | zero => rfl
  | succ f => show _ = if _ then _ else _; rw [if_neg ht]
theorem cd_nat {a : Int} {k : Nat} (h0 : 0 ≤ a) (h : a < 10 ^ k) : cd a.natAbs ≤ k := by
  refine cd_le ?_
  have e : ((10 ^ k : Nat) : Int) = 10 ^ k := by push_cast; rfl
  (first | lia | omega)
theorem inv_n {dv p term total n : Int} (hp : p ≤ 900) (I : InvI dv p term total n) : n ≠ 0 ∧ n.natAbs.log2 < 9000 ∧ cd (term.fdiv n).natAbs ≤ 905 := by
  obtain ⟨h0, h1, h2, f, hf, e⟩ := I
  have hT : (10 : Int) ^ p.toNat < 10 ^ 901 := by
    have : p.toNat < 901 := by (first | lia | omega)
    have h := Nat.pow_lt_pow_right (a := 10) (by decide) this
    have e1 : ((10 ^ p.toNat : Nat) : Int) = 10 ^ p.toNat := by push_cast; rfl
    have e2 : ((10 ^ 901 : Nat) : Int) = 10 ^ 901 := by push_cast; rfl
    rw [← e1, ← e2]; exact Int.ofNat_lt.mpr h
  have hS : (10 : Int) ^ 902 = 10 * 10 ^ 901 := by rw [Int.pow_succ, Int.mul_comm]
  have h4 := fdiv_le_self (x := term) (k := n) h0 (by (first | lia | omega))
  have hn : cd n.natAbs ≤ 902 := cd_nat (by (first | lia | omega)) (by rw [hS]; generalize (10 : Int) ^ 901 = P at *; generalize (10 : Int) ^ p.toNat = R at *; (first | lia | omega))
  have ht : cd (term.fdiv n).natAbs ≤ 902 := cd_nat h4.1 (by rw [hS]; generalize (10 : Int) ^ 901 = P at *; generalize (10 : Int) ^ p.toNat = R at *; (first | lia | omega))
  exact ⟨by (first | lia | omega), log_cd hn (by (first | lia | omega)), by (first | lia | omega)⟩
theorem inv_all {dv p term total n : Int} (hp : p ≤ 900) (I : InvI dv p term total n) : InvI dv p term total n ∧ (1 : Int) = 1 ∧ n ≠ 0 ∧ n.natAbs.log2 < 9000 ∧ IntMulOk 1 (term.fdiv n) :=
  ⟨I, rfl, (inv_n hp I).1, (inv_n hp I).2.1, mulOk_cd (j := 1) (cd_le (by decide)) (inv_n hp I).2.2 (by decide)⟩
theorem inv_step {dv p term total sg n : Int} (hp : p ≤ 900) (h : 2 ≤ dv) (I : InvI dv p term total n) (hs : sg = 1) (ht : 0 < term) :
    InvI dv p (term.fdiv (dv * dv)) (total + sg * term.fdiv n) (n + 2) ∧ sg * 1 = 1 ∧ n + 2 ≠ 0 ∧ (n + 2).natAbs.log2 < 9000 ∧ IntMulOk 1 ((term.fdiv (dv * dv)).fdiv (n + 2)) := by
  subst hs
  have := inv_all hp (inv_turn h I ht)
  exact ⟨this.1, rfl, this.2.2⟩
theorem inverse_series_says (dv p : Int) (t1 t2 t3 : Tok) (h2 : 2 ≤ dv) (h3 : dv ≤ 1000) (hp0 : 0 ≤ p) (hp : p ≤ 900) :
    Says w mean mg mb 1 124 [.int dv t1, .int p t2, .int 1 t3] (fun _ => True) (fun _ r => ∃ t, r = .int (invS dv p) t) False := by
  unfold Says
  intro dp un gd cn cs ad ccd outer A₀ base h₀ L mm news s Q E B F X N T hk hpre hd hu hret hexc
  have hdv0 : dv ≠ 0 := by omega
  have hdvl : dv.natAbs.log2 < 9000 := log_cd (j := 4) (cd_le (by omega)) (by decide)
  have hsq : IntMulOk dv dv := mulOk_cd (j := 4) (k := 4) (cd_le (by omega)) (cd_le (by omega)) (by decide)
  have hsq0 : dv * dv ≠ 0 := by have := sq_gt h2; omega
  have hsql : (dv * dv).natAbs.log2 < 9000 := log_cd (j := 8) (by rw [Int.natAbs_mul]; exact cd_mul (j := 4) (k := 4) (cd_le (by omega)) (cd_le (by omega))) (by decide)
  have h11 : IntMulOk 1 1 := mulOk_cd (j := 1) (k := 1) (cd_le (by decide)) (cd_le (by decide)) (by decide)
  k_with "exec While Compare cons nil" => k_while (fun (_ : List Int) (term total sign n : Int) => InvI dv p term total n ∧ sign = 1 ∧ n ≠ 0 ∧ n.natAbs.log2 < 9000 ∧ IntMulOk 1 (term.fdiv n)) (fun (_ : List Int) (term _ _ _ : Int) => term.toNat) "term" "total" "sign" "n"
  k_with "state" => k_dflt (first | exact inv_all (by assumption) (inv_start (by assumption)) | exact inv_step (by assumption) (by assumption) (by assumption) (by assumption) (by assumption))
  k_with "measure" => k_dflt (exact inv_less (by assumption) (by assumption) (by assumption))
  refine wpAny_call ?_
  k_dflt cell_enter
  k_steps
  all_goals exact hret _ _ _ _ (by k_asm) (by k_asm) (by k_extra "sub_up") (int_out (inv_end (by assumption) (by assumption)))
theorem ln20 : True := by
  k_with_none
  k_with "tu_up" => first | with_reducible assumption | exact Tu.of (List.Mem.head _) | exact Tu.nought | (apply Tu.cons; k_extra "tu_up") | (apply Tu.app; k_extra "tu_up")
  k_with "tu3_up" => first | with_reducible assumption | exact Tu3.of (List.Mem.head _) | (refine Tu3.cons ?_; k_extra "tu3_up") | (refine Tu3.app ?_; k_extra "tu3_up")
  k_with "tur_up" => first | with_reducible assumption | exact TuR.of (List.Mem.head _) | (apply TuR.cons; k_extra "tur_up") | (apply TuR.app; k_extra "tur_up")
  k_with "rv_up" => first | with_reducible assumption | (refine Rv.cons ?_; k_extra "rv_up") | (refine Rv.app ?_; k_extra "rv_up")
  k_with "sub_up" => first | with_reducible assumption | exact sub_id | (refine sub_cons ?_; k_extra "sub_up") | (refine sub_app ?_; k_extra "sub_up")
  k_with "subscriptTail" => (k_here; (with_reducible show wpAny _ _ (subscriptTail _ _ (Value.ref _) (Value.int 0 _)) _ _ _); k_dflt (first | (refine' tu_item0 ?Fr9 ?Xr9 ?Nr9 ?Tr9 ?_ ?hsr9; (case Fr9 => k_asm); (case Xr9 => k_asm); (case Nr9 => k_asm); (case Tr9 => k_extra "tu_up"); (case hsr9 => with_unfolding_all rfl); k_whole; intro _) | (refine' tu_ref0 ?Nr9 ?Tr9 ?_ ?hsr9; (case Nr9 => k_asm); (case Tr9 => k_extra "tur_up"); (case hsr9 => with_unfolding_all rfl); k_whole)))
  k_with "subscriptTail" => (k_here; (with_reducible show wpAny _ _ (subscriptTail _ _ (Value.ref _) (Value.int 1 _)) _ _ _); k_dflt (first | (refine' tu_item1 ?Fr10 ?Xr10 ?Nr10 ?Tr10 ?_ ?hsr10; (case Fr10 => k_asm); (case Xr10 => k_asm); (case Nr10 => k_asm); (case Tr10 => k_extra "tu_up"); (case hsr10 => with_unfolding_all rfl); k_whole; intro _) | (refine' tu_ref1 ?Nr10 ?Tr10 ?_ ?hsr10; (case Nr10 => k_asm); (case Tr10 => k_extra "tur_up"); (case hsr10 => with_unfolding_all rfl); k_whole)))
  k_with "assign Tuple" => (k_here; (with_reducible show wpAny _ _ (assign (Expr.Tuple _ _ _) _ (Value.ref _)) _ _ _); k_dflt (first | (refine' tu_unpack ?Fr11 ?Xr11 ?Nr11 ?Tr11 ?k4r11 ?k5r11 ?k6r11 ?_; (case Fr11 => k_asm); (case Xr11 => k_asm); (case Nr11 => k_asm); (case Tr11 => k_extra "tu_up"); (case k4r11 => exact rfl); (case k5r11 => exact rfl); (case k6r11 => exact rfl); k_whole; intro _ _ h' F' N') | (refine' tu_unpack3 ?Fr11 ?Nr11 ?Tr11 ?k4r11 ?k5r11 ?k6r11 ?_; (case Fr11 => k_asm); (case Nr11 => k_asm); (case Tr11 => k_extra "tu3_up"); (case k4r11 => exact rfl); (case k5r11 => exact rfl); (case k6r11 => exact rfl); k_whole; intro _ _ _ h' F' N')); (try k_sweep))
  k_with "binaryOp Mult int int" => (k_here; with_reducible refine mul_int ?_ (by assumption))
  k_with "binaryOp FloorDiv int int" => (k_here; (with_reducible refine floordiv_int ?h0r13 ?_ (Or.inl (PyProof.noPylong_of_log2 ?hlr13))); (case h0r13 => first | assumption | omega); (case hlr13 => assumption))
  k_with "inplaceOp FloorDiv int int" => (k_here; (with_reducible refine ifloordiv_int ?h0r14 ?_ (Or.inl (PyProof.noPylong_of_log2 ?hlr14))); (case h0r14 => first | assumption | omega); (case hlr14 => assumption))
  k_with "binaryOp Pow int int" => (k_here; (with_reducible refine pow_int_small ?ar15 ?br15 ?cr15 ?_); (case ar15 => omega); (case br15 => omega); (case cr15 => decide))
  k_with "call builtin:divmod" => (k_here; (with_reducible show wpAny _ _ (call (Value.builtin _) [Value.int _ _, Value.int _ _]) _ _ _); (refine divmod_N (by k_asm) (by k_asm) (by assumption) ?_ (Or.inl (PyProof.noPylong_of_log2 (by assumption)))); intro h' F' N'; (try k_sweep))
  k_with "exec Raise some none" => (k_here; refine raise44 rfl ?_)
  k_with "RaisePost" => (k_here; refine' raisePost ?Fr18 ?Xr18 ?Nr18 ?_; (case Fr18 => k_asm); (case Xr18 => k_asm); (case Nr18 => k_asm))
  k_with "call ref" => (k_here; (with_reducible show wpAny _ _ (call (Value.ref 44) [Value.str _ _]) _ _ _); k_dflt (refine' call_fault ?k1r19 ?k2r19 ?k3r19 ?k4r19 ?k5r19 ?kKr19 ?kdr19 ?_; (case k1r19 => k_asm); (case k2r19 => k_asm); (case k3r19 => k_asm); (case k4r19 => k_asm); (case k5r19 => k_asm); (case kKr19 => first | exact rfl | assumption); (case kdr19 => first | exact room3 (by assumption) rfl | exact room2 (by assumption) rfl | ktr_room); k_whole); intro h' e' t' d' tk' F' N' l1' l2' l3'; (try dsimp only); (try k_sweep))
  k_with "leaving ref" => (k_here; k_dflt (first | (refine' leave_fault ?Kr20 ?Fr20 ?Nr20 ?h1r20 ?h2r20 ?h3r20 sub_id ?_; (case Kr20 => assumption); (case Fr20 => k_asm); (case Nr20 => k_asm); (case h1r20 => assumption); (case h2r20 => assumption); (case h3r20 => assumption); k_whole; intro h' R' U') | (refine' leave_onS ?Kr20 ?Fr20 ?Rr20 ?Ur20 ?_; (case Rr20 => assumption); (case Fr20 => assumption); (case Kr20 => assumption); (case Ur20 => assumption); k_whole; intro h' R' K' U'; clear K')))
  k_with "execs cons" => (k_here; (with_reducible show wpAny _ _ _ _ _ (Shared.mk _ _ _ (_ + 1) _)); (with_reducible refine gen_toks (s := Shared.mk _ _ _ 0 _) ?_); intro tk'; (try dsimp only))
  k_with "execs nil" => (k_here; (with_reducible show wpAny _ _ _ _ _ (Shared.mk _ _ _ (_ + 1) _)); (with_reducible refine gen_toks (s := Shared.mk _ _ _ 0 _) ?_); intro tk'; (try dsimp only))
  k_with "call ref" => (k_here; (with_reducible show wpAny _ _ (call (Value.ref 54) [Value.int _ _]) _ _ _); k_dflt (refine' says_useI (count_digits_says _ _) ?k1r23 ?k2r23 ?k3r23 ?k4r23 ?k5r23 ?kKr23 ?kpr23 ?kdr23 ?kur23 ?_ (fun h => h.elim); (case k1r23 => k_asm); (case k2r23 => k_asm); (case k3r23 => k_asm); (case k4r23 => k_asm); (case k5r23 => k_asm); (case kKr23 => first | exact rfl | assumption); (case kpr23 => trivial); (case kdr23 => first | exact room3 (by assumption) rfl | exact room2 (by assumption) rfl | ktr_room); (case kur23 => first | exact room3 (by assumption) rfl | ktr_units)); intro r' tl' h' tk' F' N' P'; obtain ⟨t', e'⟩ := P'; subst e'; (try dsimp only); (try k_fold); (try k_sweep))
  k_with "call ref" => (k_here; (with_reducible show wpAny _ _ (call (Value.ref 61) [Value.int _ _, Value.int _ _]) _ _ _); k_dflt (refine' says_useT (strip_zeros_says _ _ _ _) ?k1r24 ?k2r24 ?k3r24 ?k4r24 ?k5r24 ?kKr24 ?kpr24 ?kdr24 ?kur24 (fun _ _ _ hs h => h.mono hs) ?_ (fun h => h.elim); (case k1r24 => k_asm); (case k2r24 => k_asm); (case k3r24 => k_asm); (case k4r24 => k_asm); (case k5r24 => k_asm); (case kKr24 => first | exact rfl | assumption); (case kpr24 => trivial); (case kdr24 => first | exact room3 (by assumption) rfl | exact room2 (by assumption) rfl | ktr_room); (case kur24 => first | exact room3 (by assumption) rfl | ktr_units)); intro r' tl' h' tk' F' N' P'; obtain ⟨x', e', T'⟩ := P'; subst e'; (try dsimp only); (try k_fold); (try k_sweep))
  k_with "call ref" => (k_here; (with_reducible show wpAny _ _ (call (Value.ref 68) [Value.int _ _, Value.int _ _, Value.int _ _]) _ _ _); k_dflt (refine' says_useT (round_digits_says _ _ _ _ _ _ (by first | assumption | omega) (by first | assumption | omega)) ?k1r25 ?k2r25 ?k3r25 ?k4r25 ?k5r25 ?kKr25 ?kpr25 ?kdr25 ?kur25 (fun _ _ _ hs h => h.mono hs) ?_ (fun h => h.elim); (case k1r25 => k_asm); (case k2r25 => k_asm); (case k3r25 => k_asm); (case k4r25 => k_asm); (case k5r25 => k_asm); (case kKr25 => first | exact rfl | assumption); (case kpr25 => trivial); (case kdr25 => first | exact room3 (by assumption) rfl | exact room2 (by assumption) rfl | ktr_room); (case kur25 => first | exact room3 (by assumption) rfl | ktr_units)); intro r' tl' h' tk' F' N' P'; obtain ⟨x', e', T'⟩ := P'; subst e'; (try dsimp only); (try k_fold); (try k_sweep))
  k_with "call ref" => (k_here; (with_reducible show wpAny _ _ (call (Value.ref 75) [Value.int _ _, Value.int _ _, Value.int _ _, Value.int _ _]) _ _ _); k_dflt (refine' says_useT (round_real_says _ _ _ _ _ _ _ _ (by first | assumption | omega | exact expP_cd (by assumption) (by assumption) (by assumption) (by assumption) (tooG_lead2 (by assumption) (by assumption))) (by first | assumption | omega)) ?k1r26 ?k2r26 ?k3r26 ?k4r26 ?k5r26 ?kKr26 ?kpr26 ?kdr26 ?kur26 (fun _ _ _ hs h => h.mono hs) ?_ ?_; (case k1r26 => k_asm); (case k2r26 => k_asm); (case k3r26 => k_asm); (case k4r26 => k_asm); (case k5r26 => k_asm); (case kKr26 => first | exact rfl | assumption); (case kpr26 => trivial); (case kdr26 => first | exact room3 (by assumption) rfl | exact room2 (by assumption) rfl | ktr_room); (case kur26 => first | exact room3 (by assumption) rfl | ktr_units)); (intro r' tl' h' tk' F' N' P'; obtain ⟨x', a', b', e', T', O'⟩ := P'; subst e'; (try dsimp only); (try k_fold); (try k_sweep)); rotate_left; (intro c' e' t' vs' g' h' tk' F' R' U'; (try dsimp only); (try k_fold)); rotate_left)
  k_with "call ref" => (k_here; (with_reducible show wpAny _ _ (call (Value.ref 82) [Value.ref _, Value.ref _]) _ _ _); k_dflt (refine' says_useT (exact_mul_says _ _ _ _ _ _ ?hmr27) ?k1r27 ?k2r27 ?k3r27 ?k4r27 ?k5r27 ?kKr27 ?kpr27 ?kdr27 ?kur27 (fun _ _ _ hs h => h.mono hs) ?_ (fun h => h.elim); (case k1r27 => k_asm); (case k2r27 => k_asm); (case k3r27 => k_asm); (case k4r27 => k_asm); (case k5r27 => k_asm); (case kKr27 => first | exact rfl | assumption); (case kpr27 => exact ⟨by k_extra "tu_up", by k_extra "tu_up"⟩); (case kdr27 => first | exact room3 (by assumption) rfl | exact room2 (by assumption) rfl | ktr_room); (case kur27 => first | exact room3 (by assumption) rfl | ktr_units); (case hmr27 => assumption)); intro r' tl' h' tk' F' N' P'; obtain ⟨x', e', T'⟩ := P'; subst e'; (try dsimp only); (try k_fold); (try k_sweep))
  k_with "call ref" => (k_here; (with_reducible show wpAny _ _ (call (Value.ref 89) [Value.ref _]) _ _ _); k_dflt (refine' says_useI (lead_of_says _ _ _) ?k1r28 ?k2r28 ?k3r28 ?k4r28 ?k5r28 ?kKr28 ?kpr28 ?kdr28 ?kur28 ?_ (fun h => h.elim); (case k1r28 => k_asm); (case k2r28 => k_asm); (case k3r28 => k_asm); (case k4r28 => k_asm); (case k5r28 => k_asm); (case kKr28 => first | exact rfl | assumption); (case kpr28 => k_extra "tu_up"); (case kdr28 => first | exact room3 (by assumption) rfl | exact room2 (by assumption) rfl | ktr_room); (case kur28 => first | exact room3 (by assumption) rfl | ktr_units)); intro r' tl' h' tk' F' N' P'; obtain ⟨t', e'⟩ := P'; subst e'; (try dsimp only); (try k_fold); (try k_sweep))
  k_with "call ref" => (k_here; (with_reducible show wpAny _ _ (call (Value.ref 96) [Value.ref _, Value.int _ _]) _ _ _); k_dflt (refine' says_useI (places_for_says _ _ _ _ _) ?k1r29 ?k2r29 ?k3r29 ?k4r29 ?k5r29 ?kKr29 ?kpr29 ?kdr29 ?kur29 ?_ (fun h => h.elim); (case k1r29 => k_asm); (case k2r29 => k_asm); (case k3r29 => k_asm); (case k4r29 => k_asm); (case k5r29 => k_asm); (case kKr29 => first | exact rfl | assumption); (case kpr29 => k_extra "tu_up"); (case kdr29 => first | exact room3 (by assumption) rfl | exact room2 (by assumption) rfl | ktr_room); (case kur29 => first | exact room3 (by assumption) rfl | ktr_units)); intro r' tl' h' tk' F' N' P'; obtain ⟨t', e'⟩ := P'; subst e'; (try dsimp only); (try k_fold); (try k_sweep))
  k_with "call ref" => (k_here; (with_reducible show wpAny _ _ (call (Value.ref 103) [Value.ref _, Value.int _ _]) _ _ _); k_dflt (refine' says_useI (fixed_says _ _ _ _ _ ?har30 ?h1r30 ?h2r30) ?k1r30 ?k2r30 ?k3r30 ?k4r30 ?k5r30 ?kKr30 ?kpr30 ?kdr30 ?kur30 ?_ (fun h => h.elim); (case k1r30 => k_asm); (case k2r30 => k_asm); (case k3r30 => k_asm); (case k4r30 => k_asm); (case k5r30 => k_asm); (case kKr30 => first | exact rfl | assumption); (case kpr30 => k_extra "tu_up"); (case kdr30 => first | exact room3 (by assumption) rfl | exact room2 (by assumption) rfl | ktr_room); (case kur30 => first | exact room3 (by assumption) rfl | ktr_units); (case har30 => assumption); (case h1r30 => first | assumption | omega); (case h2r30 => first | assumption | omega)); intro r' tl' h' tk' F' N' P'; obtain ⟨t', e'⟩ := P'; subst e'; (try dsimp only); (try k_fold); (try k_sweep))
  k_with "call ref" => (k_here; (with_reducible show wpAny _ _ (call (Value.ref 152) [Value.ref _, Value.int _ _]) _ _ _); k_dflt (refine' says_useI (is_too_great_says _ _ _ _ _) ?k1r31 ?k2r31 ?k3r31 ?k4r31 ?k5r31 ?kKr31 ?kpr31 ?kdr31 ?kur31 ?_ (fun h => h.elim); (case k1r31 => k_asm); (case k2r31 => k_asm); (case k3r31 => k_asm); (case k4r31 => k_asm); (case k5r31 => k_asm); (case kKr31 => first | exact rfl | assumption); (case kpr31 => k_extra "tu_up"); (case kdr31 => first | exact room3 (by assumption) rfl | exact room2 (by assumption) rfl | ktr_room); (case kur31 => first | exact room3 (by assumption) rfl | ktr_units)); intro r' tl' h' tk' F' N' P'; subst P'; (try dsimp only); (try k_fold); (try k_sweep))
  k_with "call ref" => (k_here; (with_reducible show wpAny _ _ (call (Value.ref 110) [Value.int _ _]) _ _ _); k_dflt (refine' says_useI (whole_root_says _ _ ?h0r32 ?hcr32) ?k1r32 ?k2r32 ?k3r32 ?k4r32 ?k5r32 ?kKr32 ?kpr32 ?kdr32 ?kur32 ?_ (fun h => h.elim); (case k1r32 => k_asm); (case k2r32 => k_asm); (case k3r32 => k_asm); (case k4r32 => k_asm); (case k5r32 => k_asm); (case kKr32 => first | exact rfl | assumption); (case kpr32 => trivial); (case kdr32 => first | exact room3 (by assumption) rfl | exact room2 (by assumption) rfl | ktr_room); (case kur32 => first | exact room3 (by assumption) rfl | ktr_units); (case h0r32 => first | assumption | omega); (case hcr32 => first | assumption | omega)); intro r' tl' h' tk' F' N' P'; obtain ⟨t', e'⟩ := P'; subst e'; (try dsimp only); (try k_fold); (try k_sweep))
  k_with "call ref" => (k_here; (with_reducible show wpAny _ _ (call (Value.ref 117) [Value.ref _, Value.int _ _, Value.int _ _]) _ _ _); k_dflt (refine' says_useT (sqrt_real_says _ _ _ _ _ _ _ ?h0r33 ?har33 ?hd0r33 ?hd1r33) ?k1r33 ?k2r33 ?k3r33 ?k4r33 ?k5r33 ?kKr33 ?kpr33 ?kdr33 ?kur33 (fun _ _ _ hs h => h.mono hs) ?_ ?_; (case k1r33 => k_asm); (case k2r33 => k_asm); (case k3r33 => k_asm); (case k4r33 => k_asm); (case k5r33 => k_asm); (case kKr33 => first | exact rfl | assumption); (case kpr33 => k_extra "tu_up"); (case kdr33 => first | exact room3 (by assumption) rfl | exact room2 (by assumption) rfl | ktr_room); (case kur33 => first | exact room3 (by assumption) rfl | ktr_units); (case h0r33 => first | assumption | omega); (case har33 => first | assumption | omega); (case hd0r33 => first | assumption | omega); (case hd1r33 => first | assumption | omega)); (intro r' tl' h' tk' F' N' P'; obtain ⟨x', a', b', e', T', O'⟩ := P'; subst e'; (try dsimp only); (try k_fold); (try k_sweep)); rotate_left; (intro c' e' t' vs' g' h' tk' F' R' U'; (try dsimp only); (try k_fold)); rotate_left)
  k_with "call ref" => (k_here; (with_reducible show wpAny _ _ (call (Value.ref 117) [Value.ref _, Value.int _ _, Value.int _ _]) _ _ _); k_dflt (refine' says_useI (sqrt_neg_says _ _ _ _ _ _ _ ?h0r34) ?k1r34 ?k2r34 ?k3r34 ?k4r34 ?k5r34 ?kKr34 ?kpr34 ?kdr34 ?kur34 ?_ ?_; (case k1r34 => k_asm); (case k2r34 => k_asm); (case k3r34 => k_asm); (case k4r34 => k_asm); (case k5r34 => k_asm); (case kKr34 => first | exact rfl | assumption); (case kpr34 => k_extra "tu_up"); (case kdr34 => first | exact room3 (by assumption) rfl | exact room2 (by assumption) rfl | ktr_room); (case kur34 => first | exact room3 (by assumption) rfl | ktr_units); (case h0r34 => first | assumption | omega)); (intro r' tl' h' tk' F' N' P'; exact P'.elim); (intro c' e' t' vs' g' h' tk' F' R' U'; (try dsimp only); (try k_fold)))
  exact True.intro
theorem ln21 : True := by
  k_with "call ref" => (k_here; (with_reducible show wpAny _ _ (call (Value.ref 124) [Value.int _ _, Value.int _ _, Value.int _ _]) _ _ _); k_dflt (refine' says_useI (inverse_series_says _ _ _ _ _ ?h2r35 ?h3r35 ?hp0r35 ?hpr35) ?k1r35 ?k2r35 ?k3r35 ?k4r35 ?k5r35 ?kKr35 ?kpr35 ?kdr35 ?kur35 ?_ (fun h => h.elim); (case k1r35 => k_asm); (case k2r35 => k_asm); (case k3r35 => k_asm); (case k4r35 => k_asm); (case k5r35 => k_asm); (case kKr35 => first | exact rfl | assumption); (case kpr35 => trivial); (case kdr35 => first | exact room3 (by assumption) rfl | exact room2 (by assumption) rfl | ktr_room); (case kur35 => first | exact room3 (by assumption) rfl | ktr_units); (case h2r35 => first | assumption | omega); (case h3r35 => first | assumption | omega); (case hp0r35 => first | assumption | omega); (case hpr35 => first | assumption | omega)); intro r' tl' h' tk' F' N' P'; obtain ⟨t', e'⟩ := P'; subst e'; (try dsimp only); (try k_fold); (try k_sweep))
  exact True.intro
theorem invL_bounds {q : Int} (hq : 1 < q) (f : Nat) : ∀ (term total n : Int), 0 ≤ term → 1 ≤ n → total ≤ invL f q term total n ∧ (q - 1) * invL f q term total n ≤ (q - 1) * total + q * term := by
  induction f with
  | zero =>
    intro term total n h0 h1
    refine ⟨Int.le_refl _, ?_⟩
    show (q - 1) * total ≤ _
    have := Int.mul_nonneg (show 0 ≤ q by omega) h0
    omega
  | succ f ih =>
    intro term total n h0 h1
    show _ ≤ (if _ then _ else _) ∧ _ * (if _ then _ else _) ≤ _
    by_cases ht : 0 < term
    · rw [if_pos ht]
      have h3 := fdiv_lt_self ht hq
      have h4 := fdiv_le_self (x := term) (k := n) h0 (by omega)
      have h5 := ih (term.fdiv q) (total + 1 * term.fdiv n) (n + 2) h3.1 (by omega)
      refine ⟨by omega, Int.le_trans h5.2 ?_⟩
      have h6 : q * term.fdiv q ≤ term := by
        rw [fdiv_pos_facts _ _ (by omega)]; exact Int.mul_ediv_self_le (by omega)
      have h7 : (q - 1) * (total + 1 * term.fdiv n) ≤ (q - 1) * total + (q - 1) * term := by
        rw [Int.mul_add]
        have := Int.mul_le_mul_of_nonneg_left (show 1 * term.fdiv n ≤ term by omega) (show 0 ≤ q - 1 by omega)
        omega
      have h8 : (q - 1) * term = q * term - term := by rw [Int.sub_mul, Int.one_mul]
      omega
    · rw [if_neg ht]
      have := Int.mul_nonneg (show 0 ≤ q by omega) h0
      exact ⟨Int.le_refl _, by omega⟩
def lnT (p : Int) : Int := (46 * invS 31 (p + 5) + 34 * invS 49 (p + 5) + 20 * invS 161 (p + 5)).fdiv 100000
/-- what one needs to know of the series: two sides -/
theorem inv_two {dv p : Int} (h : 2 ≤ dv) : (10 ^ p.toNat : Int).fdiv dv ≤ invS dv p ∨ (10 ^ p.toNat : Int).fdiv dv = 0 := by
  unfold invS
  have hp : (0 : Int) < 10 ^ p.toNat := Int.pow_pos (by decide)
  have h1 := fdiv_le_self (x := 10 ^ p.toNat) (k := dv) (by omega) (by omega)
  obtain ⟨f, hf⟩ : ∃ f, (10 ^ p.toNat : Int).toNat = f + 1 := ⟨(10 ^ p.toNat : Int).toNat - 1, by omega⟩
  rw [hf]
  show _ ≤ (if _ then _ else _) ∨ _
  by_cases ht : 0 < (10 ^ p.toNat : Int).fdiv dv
  · left
    rw [if_pos ht]
    have h3 := fdiv_lt_self ht (sq_gt h)
    have h5 := (invL_bounds (sq_gt h) f _ (0 + 1 * ((10 ^ p.toNat : Int).fdiv dv).fdiv 1) (1 + 2) h3.1 (by omega)).1
    have h6 : ((10 ^ p.toNat : Int).fdiv dv).fdiv 1 = (10 ^ p.toNat : Int).fdiv dv := by rw [fdiv_pos_facts _ 1 (by decide), Int.ediv_one]
    rw [h6] at h5 ⊢
    omega
  · right; omega
theorem inv_low {dv p : Int} (h : 2 ≤ dv) : (10 ^ p.toNat : Int).fdiv dv ≤ invS dv p := by
  rcases inv_two (p := p) h with h1 | h1
  · exact h1
  · rw [h1]
    unfold invS
    exact (invL_bounds (sq_gt h) _ _ 0 1 (by omega) (by omega)).1
theorem inv_high {dv p : Int} (h : 2 ≤ dv) : (dv * dv - 1) * invS dv p ≤ dv * dv * (10 ^ p.toNat : Int).fdiv dv := by
  have hp : (0 : Int) < 10 ^ p.toNat := Int.pow_pos (by decide)
  have h1 := fdiv_le_self (x := 10 ^ p.toNat) (k := dv) (by omega) (by omega)
  have := (invL_bounds (sq_gt h) (10 ^ p.toNat : Int).toNat ((10 ^ p.toNat : Int).fdiv dv) 0 1 h1.1 (by omega)).2
  rw [Int.mul_zero] at this
  unfold invS
  omega
/-- 2.30 and 2.304 -/
theorem lnT_bounds {p : Int} (hp : 0 ≤ p) : 230 * 10 ^ p.toNat ≤ 100 * lnT p + 200 ∧ 1000 * lnT p ≤ 2304 * 10 ^ p.toNat := by
  have e : (10 : Int) ^ (p + 5).toNat = 100000 * 10 ^ p.toNat := by
    rw [show (p + 5).toNat = p.toNat + 5 from by omega, Int.pow_add]
    rw [Int.mul_comm]; rfl
  have hT : (0 : Int) < 10 ^ p.toNat := Int.pow_pos (by decide)
  have a1 := inv_low (dv := 31) (p := p + 5) (by decide)
  have a2 := inv_low (dv := 49) (p := p + 5) (by decide)
  have a3 := inv_low (dv := 161) (p := p + 5) (by decide)
  have b1 := inv_high (dv := 31) (p := p + 5) (by decide)
  have b2 := inv_high (dv := 49) (p := p + 5) (by decide)
  have b3 := inv_high (dv := 161) (p := p + 5) (by decide)
  unfold lnT
  rw [fdiv_pos_facts _ _ (by decide)]
  rw [e, fdiv_pos_facts _ _ (by decide)] at a1 a2 a3 b1 b2 b3
  generalize invS 31 (p + 5) = x at *
  generalize invS 49 (p + 5) = y at *
  generalize invS 161 (p + 5) = z at *
  generalize (10 : Int) ^ p.toNat = T at *
  omega
theorem pow_cd10 {p : Int} (h : p ≤ 905) : cd ((10 : Int) ^ p.toNat).natAbs ≤ 906 := by
  rw [Int.natAbs_pow]; exact Nat.le_trans (cd_pow _) (by (first | lia | omega))
theorem cd_scaled {a : Int} {p : Int} {j : Nat} (hp : p ≤ 905) (h0 : 0 ≤ a) (h : a ≤ 10 ^ j * 10 ^ p.toNat) : cd a.natAbs ≤ j + 907 := by
  have h1 : a.natAbs ≤ (10 ^ j * 10 ^ p.toNat : Int).natAbs := by omega
  refine Nat.le_trans (cd_mono h1) ?_
  rw [Int.natAbs_mul]
  have h2 := pow_cd10 hp
  have h3 : cd ((10 : Int) ^ j).natAbs ≤ j + 1 := by rw [Int.natAbs_pow]; exact cd_pow j
  have := cd_mul h3 h2
  omega
theorem invS_cd {dv p : Int} (h : 2 ≤ dv) (hp0 : 0 ≤ p) (hp : p ≤ 905) : 0 ≤ invS dv p ∧ cd (invS dv p).natAbs ≤ 910 := by
  have hT : (0 : Int) < 10 ^ p.toNat := Int.pow_pos (by decide)
  have h1 := fdiv_le_self (x := 10 ^ p.toNat) (k := dv) (by (first | lia | omega)) (by (first | lia | omega))
  have h2 := inv_low (p := p) h
  have h3 := inv_high (p := p) h
  have hq := sq_gt h
  refine ⟨by (first | lia | omega), ?_⟩
  have h4 : invS dv p ≤ 10 ^ 1 * 10 ^ p.toNat := by
    have h5 : (dv * dv - 1) * invS dv p ≤ (dv * dv - 1) * (2 * 10 ^ p.toNat) := by
      refine Int.le_trans h3 ?_
      have e1 : dv * dv * (10 ^ p.toNat : Int).fdiv dv ≤ dv * dv * 10 ^ p.toNat := Int.mul_le_mul_of_nonneg_left h1.2 (by (first | lia | omega))
      have e2 : (dv * dv) * 10 ^ p.toNat ≤ (2 * (dv * dv - 1)) * 10 ^ p.toNat := Int.mul_le_mul_of_nonneg_right (by (first | lia | omega)) (by (first | lia | omega))
      have e3 : (2 * (dv * dv - 1)) * (10 : Int) ^ p.toNat = (dv * dv - 1) * (2 * 10 ^ p.toNat) := by rw [Int.mul_comm 2, Int.mul_assoc]
      (first | lia | omega)
    have := Int.le_of_mul_le_mul_left h5 (by (first | lia | omega))
    (first | lia | omega)
  have := cd_scaled hp (by (first | lia | omega)) h4
  (first | lia | omega)
theorem log_of_ten_says (p : Int) (t : Tok) (hp0 : 0 ≤ p) (hp : p ≤ 890) : Says w mean mg mb 2 131 [.int p t] (fun _ => True) (fun _ r => ∃ t, r = .int (lnT p) t) False := by
  unfold Says
  intro dp un gd cn cs ad ccd outer A₀ base h₀ L mm news s Q E B F X N T hk hpre hd hu hret hexc
  have c1 : IntMulOk 46 (invS 31 (p + 5)) := mulOk_cd (j := 2) (cd_le (by decide)) (invS_cd (by decide) (by omega) (by omega)).2 (by decide)
  have c2 : IntMulOk 34 (invS 49 (p + 5)) := mulOk_cd (j := 2) (cd_le (by decide)) (invS_cd (by decide) (by omega) (by omega)).2 (by decide)
  have c3 : IntMulOk 20 (invS 161 (p + 5)) := mulOk_cd (j := 2) (cd_le (by decide)) (invS_cd (by decide) (by omega) (by omega)).2 (by decide)
  refine wpAny_call ?_
  k_dflt cell_enter
  k_steps
  all_goals exact hret _ _ _ _ (by k_asm) (by k_asm) (by k_extra "sub_up") (int_out rfl)
theorem ln22 : True := by
  k_with "call ref" => (k_here; (with_reducible show wpAny _ _ (call (Value.ref 131) [Value.int _ _]) _ _ _); k_dflt (refine' says_useI (log_of_ten_says _ _ ?hp0r36 ?hpr36) ?k1r36 ?k2r36 ?k3r36 ?k4r36 ?k5r36 ?kKr36 ?kpr36 ?kdr36 ?kur36 ?_ (fun h => h.elim); (case k1r36 => k_asm); (case k2r36 => k_asm); (case k3r36 => k_asm); (case k4r36 => k_asm); (case k5r36 => k_asm); (case kKr36 => first | exact rfl | assumption); (case kpr36 => trivial); (case kdr36 => first | exact room3 (by assumption) rfl | exact room2 (by assumption) rfl | ktr_room); (case kur36 => first | exact room3 (by assumption) rfl | ktr_units); (case hp0r36 => first | assumption | omega); (case hpr36 => first | assumption | omega)); intro r' tl' h' tk' F' N' P'; obtain ⟨t', e'⟩ := P'; subst e'; (try dsimp only); (try k_fold); (try k_sweep))
  exact True.intro
/-- the exponential series over a fixed number of places -/
def expL : Nat → Int → Int → Int → Int → Int → Int
  | 0, _, _, _, _, total => total
  | f + 1, n, one, k, term, total => if term ≠ 0 then expL f n one (k + 1) ((term * n).fdiv (one * k)) (total + (term * n).fdiv (one * k)) else total
def expF (n p : Int) : Int := expL (12 * 10 ^ p.toNat : Int).toNat n (10 ^ p.toNat) 1 (10 ^ p.toNat) (10 ^ p.toNat)
/-- falls at each turn -/
def expM (one k term : Int) : Int := if k = 1 then 10 * one else 2 * (if term < 0 then -term else term) + (if 0 < term then 1 else 0)
def ExpI (n one k term total v : Int) : Prop :=
  0 < one ∧ 5 * n ≤ 6 * one ∧ -(6 * one) ≤ 5 * n ∧ 1 ≤ k ∧ (k = 1 → term = one) ∧ 5 * term ≤ 6 * one ∧ -(6 * one) ≤ 5 * term ∧ (0 ≤ n → 0 ≤ term) ∧ k + expM one k term ≤ 12 * one ∧
    total ≤ one + 2 * one * (k - 1) ∧ -(one + 2 * one * (k - 1)) ≤ total ∧ ∃ f, (expM one k term).toNat ≤ f ∧ expL f n one k term total = v
theorem fdiv_bounds {a b c : Int} (hb : 0 < b) : (a.fdiv b ≤ c ↔ a < b * (c + 1)) ∧ (c ≤ a.fdiv b ↔ b * c ≤ a) := by
  rw [fdiv_pos_facts _ _ hb]
  constructor
  · rw [← Int.lt_add_one_iff, Int.ediv_lt_iff_lt_mul hb, Int.mul_comm]
  · rw [Int.le_ediv_iff_mul_le hb, Int.mul_comm]
/-- the turn behind the first: |t'| is small beside |t| -/
theorem exp_small {n one k t : Int} (h1 : 0 < one) (hn : 5 * n ≤ 6 * one) (hn' : -(6 * one) ≤ 5 * n) (hk : 2 ≤ k) :
    (0 ≤ t → 0 ≤ n → 0 ≤ (t * n).fdiv (one * k) ∧ 5 * (t * n).fdiv (one * k) ≤ 3 * t) ∧
    (0 ≤ t → n < 0 → (t * n).fdiv (one * k) ≤ 0 ∧ -(3 * t) - 4 ≤ 5 * (t * n).fdiv (one * k)) ∧
    (t < 0 → n < 0 → 0 ≤ (t * n).fdiv (one * k) ∧ 5 * (t * n).fdiv (one * k) ≤ -(3 * t)) := by
  have hb : 0 < one * k := Int.mul_pos h1 (by omega)
  -- 5 |t n| ≤ 6 one |t| ≤ 3 (one k) |t|
  have key : ∀ x y : Int, 0 ≤ x → 0 ≤ y → 5 * y ≤ 6 * one → 0 ≤ x * y ∧ 5 * (x * y) ≤ 3 * ((one * k) * x) := by
    intro x y hx hy hy5
    refine ⟨Int.mul_nonneg hx hy, ?_⟩
    have e1 : x * (5 * y) ≤ x * (6 * one) := Int.mul_le_mul_of_nonneg_left hy5 hx
    have e2 : x * (one * 2) ≤ x * (one * k) := Int.mul_le_mul_of_nonneg_left (Int.mul_le_mul_of_nonneg_left hk (by omega)) hx
    have e3 : x * (5 * y) = 5 * (x * y) := by rw [Int.mul_left_comm]
    have e4 : x * (6 * one) = 3 * (x * (one * 2)) := by
      rw [Int.mul_left_comm, Int.mul_left_comm x one 2, Int.mul_left_comm one x 2, Int.mul_comm one 2, ← Int.mul_assoc x 2 one, Int.mul_comm x 2, Int.mul_assoc 2 x one, ← Int.mul_assoc 3 2]
      omega
    have e5 : x * (one * k) = (one * k) * x := Int.mul_comm _ _
    omega
  refine ⟨fun ht hn0 => ?_, fun ht hn0 => ?_, fun ht hn0 => ?_⟩
  · obtain ⟨a, b⟩ := key t n ht hn0 hn
    refine ⟨((fdiv_bounds hb).2).mpr (by rw [Int.mul_zero]; exact a), ?_⟩
    have h5 : (t * n).fdiv (one * k) * (one * k) ≤ t * n := by rw [fdiv_pos_facts _ _ hb]; exact Int.ediv_mul_le _ (by omega)
    refine Int.le_of_mul_le_mul_left (a := one * k) ?_ hb
    have e1 : one * k * (5 * (t * n).fdiv (one * k)) = 5 * ((t * n).fdiv (one * k) * (one * k)) := by rw [Int.mul_left_comm, Int.mul_comm (one * k)]
    have e2 : one * k * (3 * t) = 3 * (one * k * t) := by rw [Int.mul_left_comm]
    omega
  · obtain ⟨a, b⟩ := key t (-n) ht (by omega) (by omega)
    have e0 : t * -n = -(t * n) := Int.mul_neg _ _
    rw [e0] at a b
    refine ⟨((fdiv_bounds hb).1).mpr (by rw [Int.zero_add, Int.mul_one]; omega), ?_⟩
    have h5 : t * n < ((t * n).fdiv (one * k) + 1) * (one * k) := by rw [fdiv_pos_facts _ _ hb]; exact Int.lt_ediv_add_one_mul_self _ hb
    have h6 : -(3 * t) - 5 < 5 * (t * n).fdiv (one * k) := by
      refine Int.lt_of_mul_lt_mul_left (a := one * k) ?_ (by omega)
      have e1 : one * k * (5 * (t * n).fdiv (one * k)) = 5 * ((t * n).fdiv (one * k) * (one * k)) := by rw [Int.mul_left_comm, Int.mul_comm (one * k)]
      have e2 : one * k * (-(3 * t) - 5) = -(3 * (one * k * t)) - 5 * (one * k) := by rw [Int.mul_sub, Int.mul_neg, Int.mul_left_comm, Int.mul_comm (one * k) 5]
      have e3 : ((t * n).fdiv (one * k) + 1) * (one * k) = (t * n).fdiv (one * k) * (one * k) + one * k := by rw [Int.add_mul, Int.one_mul]
      omega
    omega
  · obtain ⟨a, b⟩ := key (-t) (-n) (by omega) (by omega) (by omega)
    have e0 : -t * -n = t * n := by rw [Int.neg_mul_neg]
    rw [e0] at a b
    refine ⟨((fdiv_bounds hb).2).mpr (by rw [Int.mul_zero]; exact a), ?_⟩
    have h5 : (t * n).fdiv (one * k) * (one * k) ≤ t * n := by rw [fdiv_pos_facts _ _ hb]; exact Int.ediv_mul_le _ (by omega)
    refine Int.le_of_mul_le_mul_left (a := one * k) ?_ hb
    have e1 : one * k * (5 * (t * n).fdiv (one * k)) = 5 * ((t * n).fdiv (one * k) * (one * k)) := by rw [Int.mul_left_comm, Int.mul_comm (one * k)]
    have e2 : one * k * -(3 * t) = 3 * (one * k * -t) := by rw [Int.mul_neg, Int.mul_neg, Int.mul_left_comm]; omega
    omega
theorem exp_first {n one : Int} (h1 : 0 < one) : (one * n).fdiv (one * 1) = n := by
  rw [Int.mul_one, fdiv_pos_facts _ _ h1]; exact Int.mul_ediv_cancel_left _ (by (first | lia | omega))
theorem exp_turn {n one k t total v : Int} (I : ExpI n one k t total v) (ht : t ≠ 0) : ExpI n one (k + 1) ((t * n).fdiv (one * k)) (total + (t * n).fdiv (one * k)) v ∧ expM one (k + 1) ((t * n).fdiv (one * k)) < expM one k t := by
  obtain ⟨h1, hn, hn', hk, hk1, a1, a2, a3, b, c1, c2, f, hf, e⟩ := I
  have step : 5 * (t * n).fdiv (one * k) ≤ 6 * one ∧ -(6 * one) ≤ 5 * (t * n).fdiv (one * k) ∧ (0 ≤ n → 0 ≤ (t * n).fdiv (one * k)) ∧ expM one (k + 1) ((t * n).fdiv (one * k)) < expM one k t := by
    by_cases hk2 : k = 1
    · have := hk1 hk2
      subst hk2; subst this
      rw [exp_first h1]
      unfold expM
      rw [if_pos rfl, if_neg (by (first | lia | omega))]
      refine ⟨hn, hn', id, ?_⟩
      split <;> split <;> (first | lia | omega)
    · obtain ⟨s1, s2, s3⟩ := exp_small (t := t) (k := k) h1 hn hn' (by (first | lia | omega))
      unfold expM
      rw [if_neg hk2, if_neg (by (first | lia | omega))]
      by_cases hn0 : 0 ≤ n
      · have ht0 := a3 hn0
        obtain ⟨x1, x2⟩ := s1 ht0 hn0
        generalize (t * n).fdiv (one * k) = t' at *
        refine ⟨by (first | lia | omega), by (first | lia | omega), fun _ => x1, ?_⟩
        rw [if_neg (show ¬ t' < 0 by (first | lia | omega)), if_neg (show ¬ t < 0 by (first | lia | omega))]
        split <;> split <;> (first | lia | omega)
      · by_cases ht0 : 0 ≤ t
        · obtain ⟨x1, x2⟩ := s2 ht0 (by (first | lia | omega))
          generalize (t * n).fdiv (one * k) = t' at *
          have x3 : -t ≤ t' := by (first | lia | omega)
          refine ⟨by (first | lia | omega), by (first | lia | omega), fun h => absurd h hn0, ?_⟩
          rw [if_neg (show ¬ t < 0 by (first | lia | omega)), if_neg (show ¬ 0 < t' by (first | lia | omega)), if_pos (show 0 < t by (first | lia | omega))]
          split <;> (first | lia | omega)
        · obtain ⟨x1, x2⟩ := s3 (by (first | lia | omega)) (by (first | lia | omega))
          generalize (t * n).fdiv (one * k) = t' at *
          refine ⟨by (first | lia | omega), by (first | lia | omega), fun h => absurd h hn0, ?_⟩
          rw [if_pos (show t < 0 by (first | lia | omega)), if_neg (show ¬ t' < 0 by (first | lia | omega)), if_neg (show ¬ 0 < t by (first | lia | omega))]
          split <;> (first | lia | omega)
  obtain ⟨p1, p2, p3, p4⟩ := step
  refine ⟨⟨h1, hn, hn', by (first | lia | omega), fun h => by (first | lia | omega), p1, p2, p3, by (first | lia | omega), ?_, ?_, ?_⟩, p4⟩
  · have : 2 * one * (k + 1 - 1) = 2 * one * (k - 1) + 2 * one := by rw [show k + 1 - 1 = (k - 1) + 1 by (first | lia | omega), Int.mul_add, Int.mul_one]
    (first | lia | omega)
  · have : 2 * one * (k + 1 - 1) = 2 * one * (k - 1) + 2 * one := by rw [show k + 1 - 1 = (k - 1) + 1 by (first | lia | omega), Int.mul_add, Int.mul_one]
    (first | lia | omega)
  · have hm : 0 ≤ expM one (k + 1) ((t * n).fdiv (one * k)) := by
      unfold expM
      split
      · (first | lia | omega)
      · split <;> split <;> (first | lia | omega)
    cases f with
    | zero => (first | lia | omega)
    | succ f =>
      refine ⟨f, by (first | lia | omega), ?_⟩
      rw [← e]; show _ = if _ then _ else _
      rw [if_pos ht]
theorem exp_start {n p : Int} (hn : 5 * n ≤ 6 * 10 ^ p.toNat) (hn' : -(6 * 10 ^ p.toNat) ≤ 5 * n) : ExpI n (10 ^ p.toNat) 1 (10 ^ p.toNat) (10 ^ p.toNat) (expF n p) := by
  have hp : (0 : Int) < 10 ^ p.toNat := Int.pow_pos (by decide)
  refine ⟨hp, hn, hn', by (first | lia | omega), fun _ => rfl, by (first | lia | omega), by (first | lia | omega), fun _ => by (first | lia | omega), ?_, by (first | lia | omega), by (first | lia | omega), _, ?_, rfl⟩
  · unfold expM; rw [if_pos rfl]; (first | lia | omega)
  · unfold expM; rw [if_pos rfl]; (first | lia | omega)
theorem exp_end {n one k t total v : Int} (I : ExpI n one k t total v) (ht : t = 0) : total = v := by
  obtain ⟨h1, hn, hn', hk, hk1, a1, a2, a3, b, c1, c2, f, hf, e⟩ := I
  rw [← e]
  cases f with
  | zero => rfl
  | succ f => show _ = if _ then _ else _; rw [if_neg (fun h => h ht)]
theorem expM_nonneg {one k t : Int} (h : 0 < one) : 0 ≤ expM one k t := by
  unfold expM
  split
  · (first | lia | omega)
  · split <;> split <;> (first | lia | omega)
theorem exp_sizes {n p k t total v : Int} (hp : p ≤ 300) (I : ExpI n (10 ^ p.toNat) k t total v) :
    IntMulOk t n ∧ IntMulOk (10 ^ p.toNat) k ∧ (10 ^ p.toNat) * k ≠ 0 ∧ ((10 : Int) ^ p.toNat * k).natAbs.log2 < 9000 := by
  obtain ⟨h1, hn, hn', hk, hk1, a1, a2, a3, b, c1, c2, f, hf, e⟩ := I
  have hm := expM_nonneg (k := k) (t := t) h1
  have hT : (10 : Int) ^ p.toNat ≤ 10 ^ 300 := by
    have h := Nat.pow_le_pow_right (n := 10) (by decide) (show p.toNat ≤ 300 by (first | lia | omega))
    have e1 : ((10 ^ p.toNat : Nat) : Int) = 10 ^ p.toNat := by push_cast; rfl
    have e2 : ((10 ^ 300 : Nat) : Int) = 10 ^ 300 := by push_cast; rfl
    rw [← e1, ← e2]; exact Int.ofNat_le.mpr h
  have hS : (10 : Int) ^ 302 = 100 * 10 ^ 300 := by rw [show 302 = 300 + 2 from rfl, Int.pow_add, Int.mul_comm]; rfl
  have e2 : ((10 ^ 302 : Nat) : Int) = 10 ^ 302 := by push_cast; rfl
  have ct : cd t.natAbs ≤ 302 := cd_le (by generalize (10 : Int) ^ 300 = P at *; generalize (10 : Int) ^ p.toNat = R at *; (first | lia | omega))
  have cn : cd n.natAbs ≤ 302 := cd_le (by generalize (10 : Int) ^ 300 = P at *; generalize (10 : Int) ^ p.toNat = R at *; (first | lia | omega))
  have ck : cd k.natAbs ≤ 302 := cd_le (by generalize (10 : Int) ^ 300 = P at *; generalize (10 : Int) ^ p.toNat = R at *; (first | lia | omega))
  have co : cd ((10 : Int) ^ p.toNat).natAbs ≤ 302 := cd_le (by generalize (10 : Int) ^ 300 = P at *; generalize (10 : Int) ^ p.toNat = R at *; (first | lia | omega))
  refine ⟨mulOk_cd ct cn (by decide), mulOk_cd co ck (by decide), ?_, log_cd (j := 604) (by rw [Int.natAbs_mul]; exact cd_mul co ck) (by decide)⟩
  have := Int.mul_pos h1 (show 0 < k by (first | lia | omega))
  (first | lia | omega)
theorem exp_all {n p k t total v : Int} (hp : p ≤ 300) (I : ExpI n (10 ^ p.toNat) k t total v) :
    ExpI n (10 ^ p.toNat) k t total v ∧ IntMulOk t n ∧ IntMulOk (10 ^ p.toNat) k ∧ (10 ^ p.toNat) * k ≠ 0 ∧ ((10 : Int) ^ p.toNat * k).natAbs.log2 < 9000 := ⟨I, exp_sizes hp I⟩
theorem exp_less {n p k t total v : Int} (I : ExpI n (10 ^ p.toNat) k t total v) (ht : t ≠ 0) : (expM (10 ^ p.toNat) (k + 1) ((t * n).fdiv (10 ^ p.toNat * k))).toNat < (expM (10 ^ p.toNat) k t).toNat := by
  have h1 := (exp_turn I ht).2
  have h2 := expM_nonneg (k := k + 1) (t := (t * n).fdiv (10 ^ p.toNat * k)) I.1
  omega
theorem exp_fixed_says (n p : Int) (t1 t2 : Tok) (hp0 : 0 ≤ p) (hp : p ≤ 300) (hn : 5 * n ≤ 6 * 10 ^ p.toNat) (hn' : -(6 * 10 ^ p.toNat) ≤ 5 * n) :
    Says w mean mg mb 1 138 [.int n t1, .int p t2] (fun _ => True) (fun _ r => ∃ t, r = .int (expF n p) t) False := by
  unfold Says
  intro dp un gd cn cs ad ccd outer A₀ base h₀ L mm news s Q E B F X N T hk hpre hd hu hret hexc
  k_with "exec While Compare cons nil" => k_while (fun (_ : List Int) (total term k : Int) => ExpI n (10 ^ p.toNat) k term total (expF n p) ∧ IntMulOk term n ∧ IntMulOk (10 ^ p.toNat) k ∧ (10 ^ p.toNat) * k ≠ 0 ∧ ((10 : Int) ^ p.toNat * k).natAbs.log2 < 9000) (fun (_ : List Int) (_ term k : Int) => (expM (10 ^ p.toNat) k term).toNat) "total" "term" "k"
  k_with "state" => k_dflt (first | exact exp_all (by assumption) (exp_start (by assumption) (by assumption)) | exact exp_all (by assumption) (exp_turn (by assumption) (by assumption)).1)
  k_with "measure" => k_dflt (exact exp_less (by assumption) (by assumption))
  refine wpAny_call ?_
  k_dflt cell_enter
  k_steps
  all_goals exact hret _ _ _ _ (by k_asm) (by k_asm) (by k_extra "sub_up") (int_out (exp_end (by assumption) (by assumption)))
theorem ln23 : True := by
  k_with_none
  k_with "tu_up" => first | with_reducible assumption | exact Tu.of (List.Mem.head _) | exact Tu.nought | (apply Tu.cons; k_extra "tu_up") | (apply Tu.app; k_extra "tu_up")
  k_with "tu3_up" => first | with_reducible assumption | exact Tu3.of (List.Mem.head _) | (refine Tu3.cons ?_; k_extra "tu3_up") | (refine Tu3.app ?_; k_extra "tu3_up")
  k_with "tur_up" => first | with_reducible assumption | exact TuR.of (List.Mem.head _) | (apply TuR.cons; k_extra "tur_up") | (apply TuR.app; k_extra "tur_up")
  k_with "rv_up" => first | with_reducible assumption | (refine Rv.cons ?_; k_extra "rv_up") | (refine Rv.app ?_; k_extra "rv_up")
  k_with "sub_up" => first | with_reducible assumption | exact sub_id | (refine sub_cons ?_; k_extra "sub_up") | (refine sub_app ?_; k_extra "sub_up")
  k_with "subscriptTail" => (k_here; (with_reducible show wpAny _ _ (subscriptTail _ _ (Value.ref _) (Value.int 0 _)) _ _ _); k_dflt (first | (refine' tu_item0 ?Fr9 ?Xr9 ?Nr9 ?Tr9 ?_ ?hsr9; (case Fr9 => k_asm); (case Xr9 => k_asm); (case Nr9 => k_asm); (case Tr9 => k_extra "tu_up"); (case hsr9 => with_unfolding_all rfl); k_whole; intro _) | (refine' tu_ref0 ?Nr9 ?Tr9 ?_ ?hsr9; (case Nr9 => k_asm); (case Tr9 => k_extra "tur_up"); (case hsr9 => with_unfolding_all rfl); k_whole)))
  k_with "subscriptTail" => (k_here; (with_reducible show wpAny _ _ (subscriptTail _ _ (Value.ref _) (Value.int 1 _)) _ _ _); k_dflt (first | (refine' tu_item1 ?Fr10 ?Xr10 ?Nr10 ?Tr10 ?_ ?hsr10; (case Fr10 => k_asm); (case Xr10 => k_asm); (case Nr10 => k_asm); (case Tr10 => k_extra "tu_up"); (case hsr10 => with_unfolding_all rfl); k_whole; intro _) | (refine' tu_ref1 ?Nr10 ?Tr10 ?_ ?hsr10; (case Nr10 => k_asm); (case Tr10 => k_extra "tur_up"); (case hsr10 => with_unfolding_all rfl); k_whole)))
  k_with "assign Tuple" => (k_here; (with_reducible show wpAny _ _ (assign (Expr.Tuple _ _ _) _ (Value.ref _)) _ _ _); k_dflt (first | (refine' tu_unpack ?Fr11 ?Xr11 ?Nr11 ?Tr11 ?k4r11 ?k5r11 ?k6r11 ?_; (case Fr11 => k_asm); (case Xr11 => k_asm); (case Nr11 => k_asm); (case Tr11 => k_extra "tu_up"); (case k4r11 => exact rfl); (case k5r11 => exact rfl); (case k6r11 => exact rfl); k_whole; intro _ _ h' F' N') | (refine' tu_unpack3 ?Fr11 ?Nr11 ?Tr11 ?k4r11 ?k5r11 ?k6r11 ?_; (case Fr11 => k_asm); (case Nr11 => k_asm); (case Tr11 => k_extra "tu3_up"); (case k4r11 => exact rfl); (case k5r11 => exact rfl); (case k6r11 => exact rfl); k_whole; intro _ _ _ h' F' N')); (try k_sweep))
  k_with "binaryOp Mult int int" => (k_here; with_reducible refine mul_int ?_ (by assumption))
  k_with "binaryOp FloorDiv int int" => (k_here; (with_reducible refine floordiv_int ?h0r13 ?_ (Or.inl (PyProof.noPylong_of_log2 ?hlr13))); (case h0r13 => first | assumption | omega); (case hlr13 => assumption))
  k_with "inplaceOp FloorDiv int int" => (k_here; (with_reducible refine ifloordiv_int ?h0r14 ?_ (Or.inl (PyProof.noPylong_of_log2 ?hlr14))); (case h0r14 => first | assumption | omega); (case hlr14 => assumption))
  k_with "binaryOp Pow int int" => (k_here; (with_reducible refine pow_int_small ?ar15 ?br15 ?cr15 ?_); (case ar15 => omega); (case br15 => omega); (case cr15 => decide))
  k_with "call builtin:divmod" => (k_here; (with_reducible show wpAny _ _ (call (Value.builtin _) [Value.int _ _, Value.int _ _]) _ _ _); (refine divmod_N (by k_asm) (by k_asm) (by assumption) ?_ (Or.inl (PyProof.noPylong_of_log2 (by assumption)))); intro h' F' N'; (try k_sweep))
  k_with "exec Raise some none" => (k_here; refine raise44 rfl ?_)
  k_with "RaisePost" => (k_here; refine' raisePost ?Fr18 ?Xr18 ?Nr18 ?_; (case Fr18 => k_asm); (case Xr18 => k_asm); (case Nr18 => k_asm))
  k_with "call ref" => (k_here; (with_reducible show wpAny _ _ (call (Value.ref 44) [Value.str _ _]) _ _ _); k_dflt (refine' call_fault ?k1r19 ?k2r19 ?k3r19 ?k4r19 ?k5r19 ?kKr19 ?kdr19 ?_; (case k1r19 => k_asm); (case k2r19 => k_asm); (case k3r19 => k_asm); (case k4r19 => k_asm); (case k5r19 => k_asm); (case kKr19 => first | exact rfl | assumption); (case kdr19 => first | exact room3 (by assumption) rfl | exact room2 (by assumption) rfl | ktr_room); k_whole); intro h' e' t' d' tk' F' N' l1' l2' l3'; (try dsimp only); (try k_sweep))
  k_with "leaving ref" => (k_here; k_dflt (first | (refine' leave_fault ?Kr20 ?Fr20 ?Nr20 ?h1r20 ?h2r20 ?h3r20 sub_id ?_; (case Kr20 => assumption); (case Fr20 => k_asm); (case Nr20 => k_asm); (case h1r20 => assumption); (case h2r20 => assumption); (case h3r20 => assumption); k_whole; intro h' R' U') | (refine' leave_onS ?Kr20 ?Fr20 ?Rr20 ?Ur20 ?_; (case Rr20 => assumption); (case Fr20 => assumption); (case Kr20 => assumption); (case Ur20 => assumption); k_whole; intro h' R' K' U'; clear K')))
  k_with "execs cons" => (k_here; (with_reducible show wpAny _ _ _ _ _ (Shared.mk _ _ _ (_ + 1) _)); (with_reducible refine gen_toks (s := Shared.mk _ _ _ 0 _) ?_); intro tk'; (try dsimp only))
  k_with "execs nil" => (k_here; (with_reducible show wpAny _ _ _ _ _ (Shared.mk _ _ _ (_ + 1) _)); (with_reducible refine gen_toks (s := Shared.mk _ _ _ 0 _) ?_); intro tk'; (try dsimp only))
  k_with "call ref" => (k_here; (with_reducible show wpAny _ _ (call (Value.ref 54) [Value.int _ _]) _ _ _); k_dflt (refine' says_useI (count_digits_says _ _) ?k1r23 ?k2r23 ?k3r23 ?k4r23 ?k5r23 ?kKr23 ?kpr23 ?kdr23 ?kur23 ?_ (fun h => h.elim); (case k1r23 => k_asm); (case k2r23 => k_asm); (case k3r23 => k_asm); (case k4r23 => k_asm); (case k5r23 => k_asm); (case kKr23 => first | exact rfl | assumption); (case kpr23 => trivial); (case kdr23 => first | exact room3 (by assumption) rfl | exact room2 (by assumption) rfl | ktr_room); (case kur23 => first | exact room3 (by assumption) rfl | ktr_units)); intro r' tl' h' tk' F' N' P'; obtain ⟨t', e'⟩ := P'; subst e'; (try dsimp only); (try k_fold); (try k_sweep))
  k_with "call ref" => (k_here; (with_reducible show wpAny _ _ (call (Value.ref 61) [Value.int _ _, Value.int _ _]) _ _ _); k_dflt (refine' says_useT (strip_zeros_says _ _ _ _) ?k1r24 ?k2r24 ?k3r24 ?k4r24 ?k5r24 ?kKr24 ?kpr24 ?kdr24 ?kur24 (fun _ _ _ hs h => h.mono hs) ?_ (fun h => h.elim); (case k1r24 => k_asm); (case k2r24 => k_asm); (case k3r24 => k_asm); (case k4r24 => k_asm); (case k5r24 => k_asm); (case kKr24 => first | exact rfl | assumption); (case kpr24 => trivial); (case kdr24 => first | exact room3 (by assumption) rfl | exact room2 (by assumption) rfl | ktr_room); (case kur24 => first | exact room3 (by assumption) rfl | ktr_units)); intro r' tl' h' tk' F' N' P'; obtain ⟨x', e', T'⟩ := P'; subst e'; (try dsimp only); (try k_fold); (try k_sweep))
  k_with "call ref" => (k_here; (with_reducible show wpAny _ _ (call (Value.ref 68) [Value.int _ _, Value.int _ _, Value.int _ _]) _ _ _); k_dflt (refine' says_useT (round_digits_says _ _ _ _ _ _ (by first | assumption | omega) (by first | assumption | omega)) ?k1r25 ?k2r25 ?k3r25 ?k4r25 ?k5r25 ?kKr25 ?kpr25 ?kdr25 ?kur25 (fun _ _ _ hs h => h.mono hs) ?_ (fun h => h.elim); (case k1r25 => k_asm); (case k2r25 => k_asm); (case k3r25 => k_asm); (case k4r25 => k_asm); (case k5r25 => k_asm); (case kKr25 => first | exact rfl | assumption); (case kpr25 => trivial); (case kdr25 => first | exact room3 (by assumption) rfl | exact room2 (by assumption) rfl | ktr_room); (case kur25 => first | exact room3 (by assumption) rfl | ktr_units)); intro r' tl' h' tk' F' N' P'; obtain ⟨x', e', T'⟩ := P'; subst e'; (try dsimp only); (try k_fold); (try k_sweep))
  k_with "call ref" => (k_here; (with_reducible show wpAny _ _ (call (Value.ref 75) [Value.int _ _, Value.int _ _, Value.int _ _, Value.int _ _]) _ _ _); k_dflt (refine' says_useT (round_real_says _ _ _ _ _ _ _ _ (by first | assumption | omega | exact expP_cd (by assumption) (by assumption) (by assumption) (by assumption) (tooG_lead2 (by assumption) (by assumption))) (by first | assumption | omega)) ?k1r26 ?k2r26 ?k3r26 ?k4r26 ?k5r26 ?kKr26 ?kpr26 ?kdr26 ?kur26 (fun _ _ _ hs h => h.mono hs) ?_ ?_; (case k1r26 => k_asm); (case k2r26 => k_asm); (case k3r26 => k_asm); (case k4r26 => k_asm); (case k5r26 => k_asm); (case kKr26 => first | exact rfl | assumption); (case kpr26 => trivial); (case kdr26 => first | exact room3 (by assumption) rfl | exact room2 (by assumption) rfl | ktr_room); (case kur26 => first | exact room3 (by assumption) rfl | ktr_units)); (intro r' tl' h' tk' F' N' P'; obtain ⟨x', a', b', e', T', O'⟩ := P'; subst e'; (try dsimp only); (try k_fold); (try k_sweep)); rotate_left; (intro c' e' t' vs' g' h' tk' F' R' U'; (try dsimp only); (try k_fold)); rotate_left)
  k_with "call ref" => (k_here; (with_reducible show wpAny _ _ (call (Value.ref 82) [Value.ref _, Value.ref _]) _ _ _); k_dflt (refine' says_useT (exact_mul_says _ _ _ _ _ _ ?hmr27) ?k1r27 ?k2r27 ?k3r27 ?k4r27 ?k5r27 ?kKr27 ?kpr27 ?kdr27 ?kur27 (fun _ _ _ hs h => h.mono hs) ?_ (fun h => h.elim); (case k1r27 => k_asm); (case k2r27 => k_asm); (case k3r27 => k_asm); (case k4r27 => k_asm); (case k5r27 => k_asm); (case kKr27 => first | exact rfl | assumption); (case kpr27 => exact ⟨by k_extra "tu_up", by k_extra "tu_up"⟩); (case kdr27 => first | exact room3 (by assumption) rfl | exact room2 (by assumption) rfl | ktr_room); (case kur27 => first | exact room3 (by assumption) rfl | ktr_units); (case hmr27 => assumption)); intro r' tl' h' tk' F' N' P'; obtain ⟨x', e', T'⟩ := P'; subst e'; (try dsimp only); (try k_fold); (try k_sweep))
  k_with "call ref" => (k_here; (with_reducible show wpAny _ _ (call (Value.ref 89) [Value.ref _]) _ _ _); k_dflt (refine' says_useI (lead_of_says _ _ _) ?k1r28 ?k2r28 ?k3r28 ?k4r28 ?k5r28 ?kKr28 ?kpr28 ?kdr28 ?kur28 ?_ (fun h => h.elim); (case k1r28 => k_asm); (case k2r28 => k_asm); (case k3r28 => k_asm); (case k4r28 => k_asm); (case k5r28 => k_asm); (case kKr28 => first | exact rfl | assumption); (case kpr28 => k_extra "tu_up"); (case kdr28 => first | exact room3 (by assumption) rfl | exact room2 (by assumption) rfl | ktr_room); (case kur28 => first | exact room3 (by assumption) rfl | ktr_units)); intro r' tl' h' tk' F' N' P'; obtain ⟨t', e'⟩ := P'; subst e'; (try dsimp only); (try k_fold); (try k_sweep))
  k_with "call ref" => (k_here; (with_reducible show wpAny _ _ (call (Value.ref 96) [Value.ref _, Value.int _ _]) _ _ _); k_dflt (refine' says_useI (places_for_says _ _ _ _ _) ?k1r29 ?k2r29 ?k3r29 ?k4r29 ?k5r29 ?kKr29 ?kpr29 ?kdr29 ?kur29 ?_ (fun h => h.elim); (case k1r29 => k_asm); (case k2r29 => k_asm); (case k3r29 => k_asm); (case k4r29 => k_asm); (case k5r29 => k_asm); (case kKr29 => first | exact rfl | assumption); (case kpr29 => k_extra "tu_up"); (case kdr29 => first | exact room3 (by assumption) rfl | exact room2 (by assumption) rfl | ktr_room); (case kur29 => first | exact room3 (by assumption) rfl | ktr_units)); intro r' tl' h' tk' F' N' P'; obtain ⟨t', e'⟩ := P'; subst e'; (try dsimp only); (try k_fold); (try k_sweep))
  k_with "call ref" => (k_here; (with_reducible show wpAny _ _ (call (Value.ref 103) [Value.ref _, Value.int _ _]) _ _ _); k_dflt (refine' says_useI (fixed_says _ _ _ _ _ ?har30 ?h1r30 ?h2r30) ?k1r30 ?k2r30 ?k3r30 ?k4r30 ?k5r30 ?kKr30 ?kpr30 ?kdr30 ?kur30 ?_ (fun h => h.elim); (case k1r30 => k_asm); (case k2r30 => k_asm); (case k3r30 => k_asm); (case k4r30 => k_asm); (case k5r30 => k_asm); (case kKr30 => first | exact rfl | assumption); (case kpr30 => k_extra "tu_up"); (case kdr30 => first | exact room3 (by assumption) rfl | exact room2 (by assumption) rfl | ktr_room); (case kur30 => first | exact room3 (by assumption) rfl | ktr_units); (case har30 => assumption); (case h1r30 => first | assumption | omega); (case h2r30 => first | assumption | omega)); intro r' tl' h' tk' F' N' P'; obtain ⟨t', e'⟩ := P'; subst e'; (try dsimp only); (try k_fold); (try k_sweep))
  k_with "call ref" => (k_here; (with_reducible show wpAny _ _ (call (Value.ref 152) [Value.ref _, Value.int _ _]) _ _ _); k_dflt (refine' says_useI (is_too_great_says _ _ _ _ _) ?k1r31 ?k2r31 ?k3r31 ?k4r31 ?k5r31 ?kKr31 ?kpr31 ?kdr31 ?kur31 ?_ (fun h => h.elim); (case k1r31 => k_asm); (case k2r31 => k_asm); (case k3r31 => k_asm); (case k4r31 => k_asm); (case k5r31 => k_asm); (case kKr31 => first | exact rfl | assumption); (case kpr31 => k_extra "tu_up"); (case kdr31 => first | exact room3 (by assumption) rfl | exact room2 (by assumption) rfl | ktr_room); (case kur31 => first | exact room3 (by assumption) rfl | ktr_units)); intro r' tl' h' tk' F' N' P'; subst P'; (try dsimp only); (try k_fold); (try k_sweep))
  k_with "call ref" => (k_here; (with_reducible show wpAny _ _ (call (Value.ref 110) [Value.int _ _]) _ _ _); k_dflt (refine' says_useI (whole_root_says _ _ ?h0r32 ?hcr32) ?k1r32 ?k2r32 ?k3r32 ?k4r32 ?k5r32 ?kKr32 ?kpr32 ?kdr32 ?kur32 ?_ (fun h => h.elim); (case k1r32 => k_asm); (case k2r32 => k_asm); (case k3r32 => k_asm); (case k4r32 => k_asm); (case k5r32 => k_asm); (case kKr32 => first | exact rfl | assumption); (case kpr32 => trivial); (case kdr32 => first | exact room3 (by assumption) rfl | exact room2 (by assumption) rfl | ktr_room); (case kur32 => first | exact room3 (by assumption) rfl | ktr_units); (case h0r32 => first | assumption | omega); (case hcr32 => first | assumption | omega)); intro r' tl' h' tk' F' N' P'; obtain ⟨t', e'⟩ := P'; subst e'; (try dsimp only); (try k_fold); (try k_sweep))
  k_with "call ref" => (k_here; (with_reducible show wpAny _ _ (call (Value.ref 117) [Value.ref _, Value.int _ _, Value.int _ _]) _ _ _); k_dflt (refine' says_useT (sqrt_real_says _ _ _ _ _ _ _ ?h0r33 ?har33 ?hd0r33 ?hd1r33) ?k1r33 ?k2r33 ?k3r33 ?k4r33 ?k5r33 ?kKr33 ?kpr33 ?kdr33 ?kur33 (fun _ _ _ hs h => h.mono hs) ?_ ?_; (case k1r33 => k_asm); (case k2r33 => k_asm); (case k3r33 => k_asm); (case k4r33 => k_asm); (case k5r33 => k_asm); (case kKr33 => first | exact rfl | assumption); (case kpr33 => k_extra "tu_up"); (case kdr33 => first | exact room3 (by assumption) rfl | exact room2 (by assumption) rfl | ktr_room); (case kur33 => first | exact room3 (by assumption) rfl | ktr_units); (case h0r33 => first | assumption | omega); (case har33 => first | assumption | omega); (case hd0r33 => first | assumption | omega); (case hd1r33 => first | assumption | omega)); (intro r' tl' h' tk' F' N' P'; obtain ⟨x', a', b', e', T', O'⟩ := P'; subst e'; (try dsimp only); (try k_fold); (try k_sweep)); rotate_left; (intro c' e' t' vs' g' h' tk' F' R' U'; (try dsimp only); (try k_fold)); rotate_left)
  k_with "call ref" => (k_here; (with_reducible show wpAny _ _ (call (Value.ref 117) [Value.ref _, Value.int _ _, Value.int _ _]) _ _ _); k_dflt (refine' says_useI (sqrt_neg_says _ _ _ _ _ _ _ ?h0r34) ?k1r34 ?k2r34 ?k3r34 ?k4r34 ?k5r34 ?kKr34 ?kpr34 ?kdr34 ?kur34 ?_ ?_; (case k1r34 => k_asm); (case k2r34 => k_asm); (case k3r34 => k_asm); (case k4r34 => k_asm); (case k5r34 => k_asm); (case kKr34 => first | exact rfl | assumption); (case kpr34 => k_extra "tu_up"); (case kdr34 => first | exact room3 (by assumption) rfl | exact room2 (by assumption) rfl | ktr_room); (case kur34 => first | exact room3 (by assumption) rfl | ktr_units); (case h0r34 => first | assumption | omega)); (intro r' tl' h' tk' F' N' P'; exact P'.elim); (intro c' e' t' vs' g' h' tk' F' R' U'; (try dsimp only); (try k_fold)))
  k_with "call ref" => (k_here; (with_reducible show wpAny _ _ (call (Value.ref 124) [Value.int _ _, Value.int _ _, Value.int _ _]) _ _ _); k_dflt (refine' says_useI (inverse_series_says _ _ _ _ _ ?h2r35 ?h3r35 ?hp0r35 ?hpr35) ?k1r35 ?k2r35 ?k3r35 ?k4r35 ?k5r35 ?kKr35 ?kpr35 ?kdr35 ?kur35 ?_ (fun h => h.elim); (case k1r35 => k_asm); (case k2r35 => k_asm); (case k3r35 => k_asm); (case k4r35 => k_asm); (case k5r35 => k_asm); (case kKr35 => first | exact rfl | assumption); (case kpr35 => trivial); (case kdr35 => first | exact room3 (by assumption) rfl | exact room2 (by assumption) rfl | ktr_room); (case kur35 => first | exact room3 (by assumption) rfl | ktr_units); (case h2r35 => first | assumption | omega); (case h3r35 => first | assumption | omega); (case hp0r35 => first | assumption | omega); (case hpr35 => first | assumption | omega)); intro r' tl' h' tk' F' N' P'; obtain ⟨t', e'⟩ := P'; subst e'; (try dsimp only); (try k_fold); (try k_sweep))
  k_with "call ref" => (k_here; (with_reducible show wpAny _ _ (call (Value.ref 131) [Value.int _ _]) _ _ _); k_dflt (refine' says_useI (log_of_ten_says _ _ ?hp0r36 ?hpr36) ?k1r36 ?k2r36 ?k3r36 ?k4r36 ?k5r36 ?kKr36 ?kpr36 ?kdr36 ?kur36 ?_ (fun h => h.elim); (case k1r36 => k_asm); (case k2r36 => k_asm); (case k3r36 => k_asm); (case k4r36 => k_asm); (case k5r36 => k_asm); (case kKr36 => first | exact rfl | assumption); (case kpr36 => trivial); (case kdr36 => first | exact room3 (by assumption) rfl | exact room2 (by assumption) rfl | ktr_room); (case kur36 => first | exact room3 (by assumption) rfl | ktr_units); (case hp0r36 => first | assumption | omega); (case hpr36 => first | assumption | omega)); intro r' tl' h' tk' F' N' P'; obtain ⟨t', e'⟩ := P'; subst e'; (try dsimp only); (try k_fold); (try k_sweep))
  exact True.intro
theorem ln24 : True := by
  k_with "call ref" => (k_here; (with_reducible show wpAny _ _ (call (Value.ref 138) [Value.int _ _, Value.int _ _]) _ _ _); k_dflt (refine' says_useI (exp_fixed_says _ _ _ _ ?hp0r37 ?hpr37 ?hnr37 ?hn2r37) ?k1r37 ?k2r37 ?k3r37 ?k4r37 ?k5r37 ?kKr37 ?kpr37 ?kdr37 ?kur37 ?_ (fun h => h.elim); (case k1r37 => k_asm); (case k2r37 => k_asm); (case k3r37 => k_asm); (case k4r37 => k_asm); (case k5r37 => k_asm); (case kKr37 => first | exact rfl | assumption); (case kpr37 => trivial); (case kdr37 => first | exact room3 (by assumption) rfl | exact room2 (by assumption) rfl | ktr_room); (case kur37 => first | exact room3 (by assumption) rfl | ktr_units); (case hp0r37 => first | assumption | omega); (case hpr37 => first | assumption | omega); (case hnr37 => assumption); (case hn2r37 => assumption)); intro r' tl' h' tk' F' N' P'; obtain ⟨t', e'⟩ := P'; subst e'; (try dsimp only); (try k_fold); (try k_sweep))
  exact True.intro
def TriOut (o : Int × Int × Int) (l : List (Addr × Obj)) (r : Value) : Prop := ∃ x, r = .ref x ∧ Tu3 l x o.1 o.2.1 o.2.2
theorem TriOut.mono {o : Int × Int × Int} {l l' : List (Addr × Obj)} {r : Value} (h : TriOut o l r) (hs : ∀ p ∈ l, p ∈ l') : TriOut o l' r := let ⟨x, e, t⟩ := h; ⟨x, e, t.mono hs⟩
theorem TriOut.of {o : Int × Int × Int} {l : List (Addr × Obj)} {x : Addr} {a b c : Int} (h : Tu3 l x a b c) (e : (a, b, c) = o) : TriOut o l (.ref x) := by
  subst e; exact ⟨x, rfl, h⟩
def expK (a b p : Int) : Int := (2 * fixedF a b p + lnT p).fdiv (2 * lnT p)
def expP (a b d : Int) : Int × Int × Int :=
  (expF (fixedF a b (placesF a b d) - expK a b (placesF a b d) * lnT (placesF a b d)) (placesF a b d), expK a b (placesF a b d), placesF a b d)
theorem places_bounds {a b d : Int} {L : Int} (hd0 : 0 ≤ d) (hd : d ≤ 60) (ha : cd a.natAbs ≤ 100) (hl : leadO a b ≤ L) (hL : 0 ≤ L) : 10 ≤ placesF a b d ∧ placesF a b d ≤ 170 + L := by
  unfold placesF mx
  split <;> split <;> (first | lia | omega)
theorem fixed_cd {a b p : Int} (ha : cd a.natAbs ≤ 100) (hb : b + p ≤ 800) : cd (fixedF a b p).natAbs ≤ 901 := by
  have hq : (0 : Int) < 10 ^ (-(b + p)).toNat := Int.pow_pos (by decide)
  have h0 : (if a < 0 then -a else a) = (a.natAbs : Int) := by split <;> (first | lia | omega)
  have h1 := fdiv_le_self (x := (a.natAbs : Int)) (by (first | lia | omega)) hq
  have h3 : cd ((a.natAbs : Int).fdiv (10 ^ (-(b + p)).toNat)).natAbs ≤ 100 := Nat.le_trans (cd_mono (by (first | lia | omega))) ha
  unfold fixedF
  rw [h0]
  by_cases c : 0 ≤ b + p
  · rw [if_pos c, Int.natAbs_mul, Int.natAbs_pow]
    have h2 : cd ((10 : Int).natAbs ^ (b + p).toNat) ≤ 801 := Nat.le_trans (cd_pow _) (by (first | lia | omega))
    have := cd_mul ha h2
    (first | lia | omega)
  · rw [if_neg c]
    by_cases c2 : a < 0
    · rw [if_pos c2, Int.natAbs_neg]; (first | lia | omega)
    · rw [if_neg c2]; (first | lia | omega)
theorem pow_ge10 {p : Int} (h : 10 ≤ p) : (10000000000 : Int) ≤ 10 ^ p.toNat := by
  have h1 := Nat.pow_le_pow_right (n := 10) (by decide) (show 10 ≤ p.toNat by (first | lia | omega))
  have e1 : ((10 ^ p.toNat : Nat) : Int) = 10 ^ p.toNat := by push_cast; rfl
  have e2 : (10 : Nat) ^ 10 = 10000000000 := by decide
  rw [← e1]; (first | lia | omega)
theorem ln_facts {p : Int} (h : 10 ≤ p) (hp : p ≤ 300) : 0 < lnT p ∧ 1000 * lnT p ≤ 2304 * 10 ^ p.toNat ∧ cd (lnT p).natAbs ≤ 305 := by
  have h1 := lnT_bounds (p := p) (by (first | lia | omega))
  have h2 := pow_ge10 h
  have hT : (10 : Int) ^ p.toNat ≤ 10 ^ 300 := by
    have h := Nat.pow_le_pow_right (n := 10) (by decide) (show p.toNat ≤ 300 by (first | lia | omega))
    have e1 : ((10 ^ p.toNat : Nat) : Int) = 10 ^ p.toNat := by push_cast; rfl
    have e2 : ((10 ^ 300 : Nat) : Int) = 10 ^ 300 := by push_cast; rfl
    rw [← e1, ← e2]; exact Int.ofNat_le.mpr h
  refine ⟨by (first | lia | omega), h1.2, cd_nat (by (first | lia | omega)) ?_⟩
  have hS : (10 : Int) ^ 305 = 100000 * 10 ^ 300 := by rw [show 305 = 300 + 5 from rfl, Int.pow_add, Int.mul_comm]; rfl
  rw [hS]
  generalize (10 : Int) ^ 300 = P at *
  generalize (10 : Int) ^ p.toNat = R at *
  (first | lia | omega)
theorem red_bounds {n ten T : Int} (h0 : 0 < ten) (h1 : 1000 * ten ≤ 2304 * T) (hT : 0 < T) :
    -ten ≤ 2 * (n - (2 * n + ten).fdiv (2 * ten) * ten) ∧ 2 * (n - (2 * n + ten).fdiv (2 * ten) * ten) < ten ∧
    5 * (n - (2 * n + ten).fdiv (2 * ten) * ten) ≤ 6 * T ∧ -(6 * T) ≤ 5 * (n - (2 * n + ten).fdiv (2 * ten) * ten) := by
  rw [fdiv_pos_facts _ _ (show 0 < 2 * ten by (first | lia | omega))]
  have h2 := Int.ediv_mul_le (2 * n + ten) (show 2 * ten ≠ 0 by (first | lia | omega))
  have h3 := Int.lt_ediv_add_one_mul_self (2 * n + ten) (show 0 < 2 * ten by (first | lia | omega))
  rw [Int.add_mul, Int.one_mul] at h3
  have e : (2 * n + ten) / (2 * ten) * (2 * ten) = 2 * ((2 * n + ten) / (2 * ten) * ten) := by rw [Int.mul_left_comm]
  rw [e] at h2 h3
  generalize (2 * n + ten) / (2 * ten) * ten = q at *
  (first | lia | omega)
theorem cd_two {a : Int} {k : Nat} (h : cd a.natAbs ≤ k) : cd (2 * a).natAbs ≤ k + 1 := by
  rw [Int.natAbs_mul]
  have := cd_mul (j := 1) (a := (2 : Int).natAbs) (cd_le (by decide)) h
  (first | lia | omega)
theorem cd_fdiv {a b : Int} {k : Nat} (hb : 0 < b) (h : cd a.natAbs ≤ k) : cd (a.fdiv b).natAbs ≤ k + 1 := by
  have h1 : (a.fdiv b).natAbs ≤ a.natAbs := by
    rw [fdiv_pos_facts _ _ hb]
    exact Int.natAbs_ediv_le_natAbs a b
  exact Nat.le_trans (cd_mono h1) (by (first | lia | omega))
theorem expK_cd {a b p : Int} (ha : cd a.natAbs ≤ 100) (hb : b + p ≤ 800) (h : 10 ≤ p) (hp : p ≤ 300) : cd (expK a b p).natAbs ≤ 904 := by
  obtain ⟨l1, l2, l3⟩ := ln_facts h hp
  have f1 := cd_two (fixed_cd ha hb)
  unfold expK
  refine Nat.le_trans (cd_fdiv (k := 903) (by (first | lia | omega)) ?_) (by (first | lia | omega))
  have h1 : (2 * fixedF a b p + lnT p).natAbs ≤ (2 * fixedF a b p).natAbs + (lnT p).natAbs := Int.natAbs_add_le _ _
  exact Nat.le_trans (cd_mono h1) (cd_add (j := 902) (by (first | lia | omega)) (by (first | lia | omega)))
theorem parts_facts {a b p : Int} (ha : cd a.natAbs ≤ 100) (hb : b + p ≤ 800) (h : 10 ≤ p) (hp : p ≤ 300) :
    IntMulOk 2 (fixedF a b p) ∧ IntMulOk 2 (lnT p) ∧ 2 * lnT p ≠ 0 ∧ (2 * lnT p).natAbs.log2 < 9000 ∧ IntMulOk ((2 * fixedF a b p + lnT p).fdiv (2 * lnT p)) (lnT p) ∧
    5 * (fixedF a b p - (2 * fixedF a b p + lnT p).fdiv (2 * lnT p) * lnT p) ≤ 6 * 10 ^ p.toNat ∧ -(6 * 10 ^ p.toNat) ≤ 5 * (fixedF a b p - (2 * fixedF a b p + lnT p).fdiv (2 * lnT p) * lnT p) := by
  obtain ⟨l1, l2, l3⟩ := ln_facts h hp
  have hT : (0 : Int) < 10 ^ p.toNat := Int.pow_pos (by decide)
  have r := red_bounds (n := fixedF a b p) l1 l2 hT
  exact ⟨mulOk_cd (j := 1) (cd_le (by decide)) (fixed_cd ha hb) (by decide), mulOk_cd (j := 1) (cd_le (by decide)) l3 (by decide), by (first | lia | omega), log_cd (cd_two l3) (by decide),
    mulOk_cd (expK_cd ha hb h hp) l3 (by decide), r.2.2.1, r.2.2.2⟩
theorem exp_parts_says (x : Addr) (a b d : Int) (t : Tok) (ha : cd a.natAbs ≤ 100) (hd0 : 0 ≤ d) (hd1 : d ≤ 60) (hb0 : -500 ≤ b) (hb1 : b ≤ 500) (hl : leadO a b ≤ 20) :
    Says w mean mg mb 4 145 [.ref x, .int d t] (fun l => Tu l x a b) (TriOut (expP a b d)) False := by
  unfold Says
  intro dp un gd cn cs ad ccd outer A₀ base h₀ L mm news s Q E B F X N T hk hpre hd hu hret hexc
  obtain ⟨q1, q2⟩ := places_bounds hd0 hd1 ha hl (by decide)
  obtain ⟨f1, f2, f3, f4, f5, f6, f7⟩ := parts_facts (b := b) (p := placesF a b d) ha (by omega) q1 (by omega)
  have hab := bits_of_cd ha
  have hab2 : a.natAbs < 2 ^ 8001 := Nat.lt_of_lt_of_le hab (Nat.pow_le_pow_right (by decide) (by decide))
  clear hab
  refine wpAny_call ?_
  k_dflt cell_enter
  k_steps
  all_goals exact hret _ _ _ _ (by k_asm) (by k_asm) (by k_extra "sub_up") (TriOut.of (by k_extra "tu3_up") rfl)
theorem ln25 : True := by
  k_with "call ref" => (k_here; (with_reducible show wpAny _ _ (call (Value.ref 145) [Value.ref _, Value.int _ _]) _ _ _); k_dflt (refine' says_useT (exp_parts_says _ _ _ _ _ ?har38 ?hd0r38 ?hd1r38 ?hb0r38 ?hb1r38 ?hlr38) ?k1r38 ?k2r38 ?k3r38 ?k4r38 ?k5r38 ?kKr38 ?kpr38 ?kdr38 ?kur38 (fun _ _ _ hs h => h.mono hs) ?_ (fun h => h.elim); (case k1r38 => k_asm); (case k2r38 => k_asm); (case k3r38 => k_asm); (case k4r38 => k_asm); (case k5r38 => k_asm); (case kKr38 => first | exact rfl | assumption); (case kpr38 => k_extra "tu_up"); (case kdr38 => first | exact room3 (by assumption) rfl | exact room2 (by assumption) rfl | ktr_room); (case kur38 => first | exact room3 (by assumption) rfl | ktr_units); (case har38 => first | assumption | omega); (case hd0r38 => first | assumption | omega); (case hd1r38 => first | assumption | omega); (case hb0r38 => first | assumption | omega); (case hb1r38 => first | assumption | omega); (case hlr38 => first | assumption | omega | exact tooG_lead2 (by assumption) (by assumption))); intro r' tl' h' tk' F' N' P'; obtain ⟨x', e', T'⟩ := P'; subst e'; (try dsimp only); (try k_fold); (try k_sweep))
  exact True.intro
theorem exp_bound {n one v : Int} : ∀ (N : Nat) (k t total : Int), (expM one k t).toNat < N → ExpI n one k t total v → v ≤ one + 2 * one * (12 * one) ∧ -(one + 2 * one * (12 * one)) ≤ v := by
  intro N
  induction N with
  | zero => intro k t total h; (first | lia | omega)
  | succ N ih =>
    intro k t total h I
    by_cases ht : t = 0
    · have e := exp_end I ht
      obtain ⟨h1, hn, hn', hk, hk1, a1, a2, a3, b, c1, c2, f, hf, _⟩ := I
      have hm := expM_nonneg (k := k) (t := t) h1
      have h2 : 2 * one * (k - 1) ≤ 2 * one * (12 * one) := Int.mul_le_mul_of_nonneg_left (by (first | lia | omega)) (by (first | lia | omega))
      (first | lia | omega)
    · obtain ⟨I', h'⟩ := exp_turn I ht
      have := expM_nonneg (k := k + 1) (t := (t * n).fdiv (one * k)) I.1
      exact ih _ _ _ (by (first | lia | omega)) I'
theorem expF_cd {n p : Int} (hp : p ≤ 300) (hn : 5 * n ≤ 6 * 10 ^ p.toNat) (hn' : -(6 * 10 ^ p.toNat) ≤ 5 * n) : cd (expF n p).natAbs ≤ 700 := by
  have hb := exp_bound _ _ _ _ (Nat.lt_succ_self _) (exp_start hn hn')
  have hT : (0 : Int) < 10 ^ p.toNat := Int.pow_pos (by decide)
  have co : cd ((10 : Int) ^ p.toNat).natAbs ≤ 301 := by rw [Int.natAbs_pow]; exact Nat.le_trans (cd_pow _) (by (first | lia | omega))
  have h1 : (expF n p).natAbs ≤ ((10 : Int) ^ p.toNat).natAbs + (2 * 10 ^ p.toNat * (12 * 10 ^ p.toNat) : Int).natAbs := by
    have : 0 ≤ 2 * (10 : Int) ^ p.toNat * (12 * 10 ^ p.toNat) := Int.mul_nonneg (by (first | lia | omega)) (by (first | lia | omega))
    (first | lia | omega)
  refine Nat.le_trans (cd_mono h1) (Nat.le_trans (cd_add (j := 699) (by (first | lia | omega)) ?_) (by (first | lia | omega)))
  rw [Int.natAbs_mul]
  refine Nat.le_trans (cd_mul (j := 303) (k := 304) ?_ ?_) (by (first | lia | omega))
  · exact Nat.le_trans (cd_two co) (by (first | lia | omega))
  · rw [Int.natAbs_mul]
    exact Nat.le_trans (cd_mul (j := 2) (a := (12 : Int).natAbs) (cd_le (by decide)) co) (by (first | lia | omega))
theorem tooG_lead {a b top L : Int} (h : ¬ tooG a b top = true) (ht : cd top.natAbs ≤ 10) : leadO a b ≤ 20 := by
  unfold tooG at h
  have := of_decide_eq_false (Bool.not_eq_true _ ▸ h)
  (first | lia | omega)
theorem tooG_lead2 {a b top : Int} (h : tooG a b top = false) (ht : cd top.natAbs ≤ 10) : leadO a b ≤ 20 := tooG_lead (L := 0) (by rw [h]; decide) ht
theorem expP_cd {a b d : Int} (ha : cd a.natAbs ≤ 100) (hd0 : 0 ≤ d) (hd1 : d ≤ 60) (hb1 : b ≤ 500) (hl : leadO a b ≤ 20) : cd (expP a b d).1.natAbs ≤ 2000 := by
  obtain ⟨q1, q2⟩ := places_bounds hd0 hd1 ha hl (by decide)
  obtain ⟨f1, f2, f3, f4, f5, f6, f7⟩ := parts_facts (b := b) (p := placesF a b d) ha (by (first | lia | omega)) q1 (by (first | lia | omega))
  have := expF_cd (show placesF a b d ≤ 300 by (first | lia | omega)) f6 f7
  unfold expP expK
  exact Nat.le_trans this (by decide)
/-- the exponential, rounded -/
def expR (a b d top : Int) : Option (Int × Int) :=
  if a = 0 ∨ leadO a b < -d then some (1, 0)
  else if tooG a b top = true then (if 0 < a then none else some (0, 0))
  else rr (expP a b d).1 ((expP a b d).2.1 - (expP a b d).2.2) d top
theorem expR_zero {a b d top : Int} (h : a = 0) : expR a b d top = some (1, 0) := by unfold expR; rw [if_pos (.inl h)]
theorem expR_low {a b d top : Int} (h : leadO a b < -d) : expR a b d top = some (1, 0) := by unfold expR; rw [if_pos (.inr h)]
theorem expR_high {a b d top : Int} (h0 : a ≠ 0) (h : ¬ leadO a b < -d) (h1 : tooG a b top = true) (h2 : 0 < a) : expR a b d top = none := by unfold expR; rw [if_neg (fun x => x.elim h0 h), if_pos h1, if_pos h2]
theorem expR_deep {a b d top : Int} (h0 : a ≠ 0) (h : ¬ leadO a b < -d) (h1 : tooG a b top = true) (h2 : ¬ 0 < a) : expR a b d top = some (0, 0) := by unfold expR; rw [if_neg (fun x => x.elim h0 h), if_pos h1, if_neg h2]
theorem expR_go {a b d top : Int} (h0 : a ≠ 0) (h : ¬ leadO a b < -d) (h1 : ¬ tooG a b top = true) : expR a b d top = rr (expP a b d).1 ((expP a b d).2.1 - (expP a b d).2.2) d top := by unfold expR; rw [if_neg (fun x => x.elim h0 h), if_neg h1]
theorem exp_real_says (x : Addr) (a b d top : Int) (t1 t2 : Tok) (ha : cd a.natAbs ≤ 100) (hd0 : 0 ≤ d) (hd1 : d ≤ 60) (hb0 : -500 ≤ b) (hb1 : b ≤ 500) (ht : cd top.natAbs ≤ 10) :
    Says w mean mg mb 8 159 [.ref x, .int d t1, .int top t2] (fun l => Tu l x a b) (OptOut (expR a b d top)) (expR a b d top = none) := by
  unfold Says
  intro dp un gd cn cs ad ccd outer A₀ base h₀ L mm news s Q E B F X N T hk hpre hd hu hret hexc
  refine wpAny_call ?_
  k_dflt cell_enter
  k_steps
  all_goals first
    | exact hret _ _ _ _ (by k_asm) (by k_asm) (by k_extra "sub_up") (OptOut.of (by k_extra "tu_up") (expR_zero (by assumption)))
    | exact hret _ _ _ _ (by k_asm) (by k_asm) (by k_extra "sub_up") (OptOut.of (by k_extra "tu_up") (expR_low (by assumption)))
    | exact hret _ _ _ _ (by k_asm) (by k_asm) (by k_extra "sub_up") (OptOut.of (by k_extra "tu_up") (expR_deep (by assumption) (by assumption) (by assumption) (by assumption)))
    | exact hexc (expR_high (by assumption) (by assumption) (by assumption) (by assumption)) _ _ _ _ _ _ (by assumption) (raisedS_mono (by assumption) (by k_extra "sub_up")) (by assumption)
    | exact hret _ _ _ _ (by k_asm) (by k_asm) (by k_extra "sub_up") (OptOut.of (by k_extra "tu_up") ((expR_go (by assumption) (by assumption) (by first | assumption | (rw [show tooG a b top = false from by assumption]; decide))).trans (by assumption)))
    | exact hexc ((expR_go (by assumption) (by assumption) (by first | assumption | (rw [show tooG a b top = false from by assumption]; decide))).trans (by assumption)) _ _ _ _ _ _ (by assumption) (raisedS_mono (by assumption) (by k_extra "sub_up")) (by assumption)
theorem ln26 : True := by
  k_with "call ref" => (k_here; (with_reducible show wpAny _ _ (call (Value.ref 159) [Value.ref _, Value.int _ _, Value.int _ _]) _ _ _); k_dflt (refine' says_useT (exp_real_says _ _ _ _ _ _ _ ?har39 ?hd0r39 ?hd1r39 ?hb0r39 ?hb1r39 ?htr39) ?k1r39 ?k2r39 ?k3r39 ?k4r39 ?k5r39 ?kKr39 ?kpr39 ?kdr39 ?kur39 (fun _ _ _ hs h => h.mono hs) ?_ ?_; (case k1r39 => k_asm); (case k2r39 => k_asm); (case k3r39 => k_asm); (case k4r39 => k_asm); (case k5r39 => k_asm); (case kKr39 => first | exact rfl | assumption); (case kpr39 => k_extra "tu_up"); (case kdr39 => first | exact room3 (by assumption) rfl | exact room2 (by assumption) rfl | ktr_room); (case kur39 => first | exact room3 (by assumption) rfl | ktr_units); (case har39 => first | assumption | omega); (case hd0r39 => first | assumption | omega); (case hd1r39 => first | assumption | omega); (case hb0r39 => first | assumption | omega); (case hb1r39 => first | assumption | omega); (case htr39 => first | assumption | omega)); (intro r' tl' h' tk' F' N' P'; obtain ⟨x', a', b', e', T', O'⟩ := P'; subst e'; (try dsimp only); (try k_fold); (try k_sweep)); rotate_left; (intro c' e' t' vs' g' h' tk' F' R' U'; (try dsimp only); (try k_fold)); rotate_left)
  exact True.intro
theorem ln27 : True := by
  k_with_none
  k_with "tu_up" => first | with_reducible assumption | exact Tu.of (List.Mem.head _) | exact Tu.nought | (apply Tu.cons; k_extra "tu_up") | (apply Tu.app; k_extra "tu_up")
  k_with "tu3_up" => first | with_reducible assumption | exact Tu3.of (List.Mem.head _) | (refine Tu3.cons ?_; k_extra "tu3_up") | (refine Tu3.app ?_; k_extra "tu3_up")
  k_with "tur_up" => first | with_reducible assumption | exact TuR.of (List.Mem.head _) | (apply TuR.cons; k_extra "tur_up") | (apply TuR.app; k_extra "tur_up")
  k_with "rv_up" => first | with_reducible assumption | (refine Rv.cons ?_; k_extra "rv_up") | (refine Rv.app ?_; k_extra "rv_up")
  k_with "sub_up" => first | with_reducible assumption | exact sub_id | (refine sub_cons ?_; k_extra "sub_up") | (refine sub_app ?_; k_extra "sub_up")
  k_with "subscriptTail" => (k_here; (with_reducible show wpAny _ _ (subscriptTail _ _ (Value.ref _) (Value.int 0 _)) _ _ _); k_dflt (first | (refine' tu_item0 ?Fr9 ?Xr9 ?Nr9 ?Tr9 ?_ ?hsr9; (case Fr9 => k_asm); (case Xr9 => k_asm); (case Nr9 => k_asm); (case Tr9 => k_extra "tu_up"); (case hsr9 => with_unfolding_all rfl); k_whole; intro _) | (refine' tu_ref0 ?Nr9 ?Tr9 ?_ ?hsr9; (case Nr9 => k_asm); (case Tr9 => k_extra "tur_up"); (case hsr9 => with_unfolding_all rfl); k_whole)))
  k_with "subscriptTail" => (k_here; (with_reducible show wpAny _ _ (subscriptTail _ _ (Value.ref _) (Value.int 1 _)) _ _ _); k_dflt (first | (refine' tu_item1 ?Fr10 ?Xr10 ?Nr10 ?Tr10 ?_ ?hsr10; (case Fr10 => k_asm); (case Xr10 => k_asm); (case Nr10 => k_asm); (case Tr10 => k_extra "tu_up"); (case hsr10 => with_unfolding_all rfl); k_whole; intro _) | (refine' tu_ref1 ?Nr10 ?Tr10 ?_ ?hsr10; (case Nr10 => k_asm); (case Tr10 => k_extra "tur_up"); (case hsr10 => with_unfolding_all rfl); k_whole)))
  k_with "assign Tuple" => (k_here; (with_reducible show wpAny _ _ (assign (Expr.Tuple _ _ _) _ (Value.ref _)) _ _ _); k_dflt (first | (refine' tu_unpack ?Fr11 ?Xr11 ?Nr11 ?Tr11 ?k4r11 ?k5r11 ?k6r11 ?_; (case Fr11 => k_asm); (case Xr11 => k_asm); (case Nr11 => k_asm); (case Tr11 => k_extra "tu_up"); (case k4r11 => exact rfl); (case k5r11 => exact rfl); (case k6r11 => exact rfl); k_whole; intro _ _ h' F' N') | (refine' tu_unpack3 ?Fr11 ?Nr11 ?Tr11 ?k4r11 ?k5r11 ?k6r11 ?_; (case Fr11 => k_asm); (case Nr11 => k_asm); (case Tr11 => k_extra "tu3_up"); (case k4r11 => exact rfl); (case k5r11 => exact rfl); (case k6r11 => exact rfl); k_whole; intro _ _ _ h' F' N')); (try k_sweep))
  k_with "binaryOp Mult int int" => (k_here; with_reducible refine mul_int ?_ (by assumption))
  k_with "binaryOp FloorDiv int int" => (k_here; (with_reducible refine floordiv_int ?h0r13 ?_ (Or.inl (PyProof.noPylong_of_log2 ?hlr13))); (case h0r13 => first | assumption | omega); (case hlr13 => assumption))
  k_with "inplaceOp FloorDiv int int" => (k_here; (with_reducible refine ifloordiv_int ?h0r14 ?_ (Or.inl (PyProof.noPylong_of_log2 ?hlr14))); (case h0r14 => first | assumption | omega); (case hlr14 => assumption))
  k_with "binaryOp Pow int int" => (k_here; (with_reducible refine pow_int_small ?ar15 ?br15 ?cr15 ?_); (case ar15 => omega); (case br15 => omega); (case cr15 => decide))
  k_with "call builtin:divmod" => (k_here; (with_reducible show wpAny _ _ (call (Value.builtin _) [Value.int _ _, Value.int _ _]) _ _ _); (refine divmod_N (by k_asm) (by k_asm) (by assumption) ?_ (Or.inl (PyProof.noPylong_of_log2 (by assumption)))); intro h' F' N'; (try k_sweep))
  k_with "exec Raise some none" => (k_here; refine raise44 rfl ?_)
  k_with "RaisePost" => (k_here; refine' raisePost ?Fr18 ?Xr18 ?Nr18 ?_; (case Fr18 => k_asm); (case Xr18 => k_asm); (case Nr18 => k_asm))
  k_with "call ref" => (k_here; (with_reducible show wpAny _ _ (call (Value.ref 44) [Value.str _ _]) _ _ _); k_dflt (refine' call_fault ?k1r19 ?k2r19 ?k3r19 ?k4r19 ?k5r19 ?kKr19 ?kdr19 ?_; (case k1r19 => k_asm); (case k2r19 => k_asm); (case k3r19 => k_asm); (case k4r19 => k_asm); (case k5r19 => k_asm); (case kKr19 => first | exact rfl | assumption); (case kdr19 => first | exact room3 (by assumption) rfl | exact room2 (by assumption) rfl | ktr_room); k_whole); intro h' e' t' d' tk' F' N' l1' l2' l3'; (try dsimp only); (try k_sweep))
  k_with "leaving ref" => (k_here; k_dflt (first | (refine' leave_fault ?Kr20 ?Fr20 ?Nr20 ?h1r20 ?h2r20 ?h3r20 sub_id ?_; (case Kr20 => assumption); (case Fr20 => k_asm); (case Nr20 => k_asm); (case h1r20 => assumption); (case h2r20 => assumption); (case h3r20 => assumption); k_whole; intro h' R' U') | (refine' leave_onS ?Kr20 ?Fr20 ?Rr20 ?Ur20 ?_; (case Rr20 => assumption); (case Fr20 => assumption); (case Kr20 => assumption); (case Ur20 => assumption); k_whole; intro h' R' K' U'; clear K')))
  k_with "execs cons" => (k_here; (with_reducible show wpAny _ _ _ _ _ (Shared.mk _ _ _ (_ + 1) _)); (with_reducible refine gen_toks (s := Shared.mk _ _ _ 0 _) ?_); intro tk'; (try dsimp only))
  k_with "execs nil" => (k_here; (with_reducible show wpAny _ _ _ _ _ (Shared.mk _ _ _ (_ + 1) _)); (with_reducible refine gen_toks (s := Shared.mk _ _ _ 0 _) ?_); intro tk'; (try dsimp only))
  k_with "call ref" => (k_here; (with_reducible show wpAny _ _ (call (Value.ref 54) [Value.int _ _]) _ _ _); k_dflt (refine' says_useI (count_digits_says _ _) ?k1r23 ?k2r23 ?k3r23 ?k4r23 ?k5r23 ?kKr23 ?kpr23 ?kdr23 ?kur23 ?_ (fun h => h.elim); (case k1r23 => k_asm); (case k2r23 => k_asm); (case k3r23 => k_asm); (case k4r23 => k_asm); (case k5r23 => k_asm); (case kKr23 => first | exact rfl | assumption); (case kpr23 => trivial); (case kdr23 => first | exact room3 (by assumption) rfl | exact room2 (by assumption) rfl | ktr_room); (case kur23 => first | exact room3 (by assumption) rfl | ktr_units)); intro r' tl' h' tk' F' N' P'; obtain ⟨t', e'⟩ := P'; subst e'; (try dsimp only); (try k_fold); (try k_sweep))
  k_with "call ref" => (k_here; (with_reducible show wpAny _ _ (call (Value.ref 61) [Value.int _ _, Value.int _ _]) _ _ _); k_dflt (refine' says_useT (strip_zeros_says _ _ _ _) ?k1r24 ?k2r24 ?k3r24 ?k4r24 ?k5r24 ?kKr24 ?kpr24 ?kdr24 ?kur24 (fun _ _ _ hs h => h.mono hs) ?_ (fun h => h.elim); (case k1r24 => k_asm); (case k2r24 => k_asm); (case k3r24 => k_asm); (case k4r24 => k_asm); (case k5r24 => k_asm); (case kKr24 => first | exact rfl | assumption); (case kpr24 => trivial); (case kdr24 => first | exact room3 (by assumption) rfl | exact room2 (by assumption) rfl | ktr_room); (case kur24 => first | exact room3 (by assumption) rfl | ktr_units)); intro r' tl' h' tk' F' N' P'; obtain ⟨x', e', T'⟩ := P'; subst e'; (try dsimp only); (try k_fold); (try k_sweep))
  k_with "call ref" => (k_here; (with_reducible show wpAny _ _ (call (Value.ref 68) [Value.int _ _, Value.int _ _, Value.int _ _]) _ _ _); k_dflt (refine' says_useT (round_digits_says _ _ _ _ _ _ (by first | assumption | omega) (by first | assumption | omega)) ?k1r25 ?k2r25 ?k3r25 ?k4r25 ?k5r25 ?kKr25 ?kpr25 ?kdr25 ?kur25 (fun _ _ _ hs h => h.mono hs) ?_ (fun h => h.elim); (case k1r25 => k_asm); (case k2r25 => k_asm); (case k3r25 => k_asm); (case k4r25 => k_asm); (case k5r25 => k_asm); (case kKr25 => first | exact rfl | assumption); (case kpr25 => trivial); (case kdr25 => first | exact room3 (by assumption) rfl | exact room2 (by assumption) rfl | ktr_room); (case kur25 => first | exact room3 (by assumption) rfl | ktr_units)); intro r' tl' h' tk' F' N' P'; obtain ⟨x', e', T'⟩ := P'; subst e'; (try dsimp only); (try k_fold); (try k_sweep))
  k_with "call ref" => (k_here; (with_reducible show wpAny _ _ (call (Value.ref 75) [Value.int _ _, Value.int _ _, Value.int _ _, Value.int _ _]) _ _ _); k_dflt (refine' says_useT (round_real_says _ _ _ _ _ _ _ _ (by first | assumption | omega | exact expP_cd (by assumption) (by assumption) (by assumption) (by assumption) (tooG_lead2 (by assumption) (by assumption))) (by first | assumption | omega)) ?k1r26 ?k2r26 ?k3r26 ?k4r26 ?k5r26 ?kKr26 ?kpr26 ?kdr26 ?kur26 (fun _ _ _ hs h => h.mono hs) ?_ ?_; (case k1r26 => k_asm); (case k2r26 => k_asm); (case k3r26 => k_asm); (case k4r26 => k_asm); (case k5r26 => k_asm); (case kKr26 => first | exact rfl | assumption); (case kpr26 => trivial); (case kdr26 => first | exact room3 (by assumption) rfl | exact room2 (by assumption) rfl | ktr_room); (case kur26 => first | exact room3 (by assumption) rfl | ktr_units)); (intro r' tl' h' tk' F' N' P'; obtain ⟨x', a', b', e', T', O'⟩ := P'; subst e'; (try dsimp only); (try k_fold); (try k_sweep)); rotate_left; (intro c' e' t' vs' g' h' tk' F' R' U'; (try dsimp only); (try k_fold)); rotate_left)
  k_with "call ref" => (k_here; (with_reducible show wpAny _ _ (call (Value.ref 82) [Value.ref _, Value.ref _]) _ _ _); k_dflt (refine' says_useT (exact_mul_says _ _ _ _ _ _ ?hmr27) ?k1r27 ?k2r27 ?k3r27 ?k4r27 ?k5r27 ?kKr27 ?kpr27 ?kdr27 ?kur27 (fun _ _ _ hs h => h.mono hs) ?_ (fun h => h.elim); (case k1r27 => k_asm); (case k2r27 => k_asm); (case k3r27 => k_asm); (case k4r27 => k_asm); (case k5r27 => k_asm); (case kKr27 => first | exact rfl | assumption); (case kpr27 => exact ⟨by k_extra "tu_up", by k_extra "tu_up"⟩); (case kdr27 => first | exact room3 (by assumption) rfl | exact room2 (by assumption) rfl | ktr_room); (case kur27 => first | exact room3 (by assumption) rfl | ktr_units); (case hmr27 => assumption)); intro r' tl' h' tk' F' N' P'; obtain ⟨x', e', T'⟩ := P'; subst e'; (try dsimp only); (try k_fold); (try k_sweep))
  k_with "call ref" => (k_here; (with_reducible show wpAny _ _ (call (Value.ref 89) [Value.ref _]) _ _ _); k_dflt (refine' says_useI (lead_of_says _ _ _) ?k1r28 ?k2r28 ?k3r28 ?k4r28 ?k5r28 ?kKr28 ?kpr28 ?kdr28 ?kur28 ?_ (fun h => h.elim); (case k1r28 => k_asm); (case k2r28 => k_asm); (case k3r28 => k_asm); (case k4r28 => k_asm); (case k5r28 => k_asm); (case kKr28 => first | exact rfl | assumption); (case kpr28 => k_extra "tu_up"); (case kdr28 => first | exact room3 (by assumption) rfl | exact room2 (by assumption) rfl | ktr_room); (case kur28 => first | exact room3 (by assumption) rfl | ktr_units)); intro r' tl' h' tk' F' N' P'; obtain ⟨t', e'⟩ := P'; subst e'; (try dsimp only); (try k_fold); (try k_sweep))
  k_with "call ref" => (k_here; (with_reducible show wpAny _ _ (call (Value.ref 96) [Value.ref _, Value.int _ _]) _ _ _); k_dflt (refine' says_useI (places_for_says _ _ _ _ _) ?k1r29 ?k2r29 ?k3r29 ?k4r29 ?k5r29 ?kKr29 ?kpr29 ?kdr29 ?kur29 ?_ (fun h => h.elim); (case k1r29 => k_asm); (case k2r29 => k_asm); (case k3r29 => k_asm); (case k4r29 => k_asm); (case k5r29 => k_asm); (case kKr29 => first | exact rfl | assumption); (case kpr29 => k_extra "tu_up"); (case kdr29 => first | exact room3 (by assumption) rfl | exact room2 (by assumption) rfl | ktr_room); (case kur29 => first | exact room3 (by assumption) rfl | ktr_units)); intro r' tl' h' tk' F' N' P'; obtain ⟨t', e'⟩ := P'; subst e'; (try dsimp only); (try k_fold); (try k_sweep))
  k_with "call ref" => (k_here; (with_reducible show wpAny _ _ (call (Value.ref 103) [Value.ref _, Value.int _ _]) _ _ _); k_dflt (refine' says_useI (fixed_says _ _ _ _ _ ?har30 ?h1r30 ?h2r30) ?k1r30 ?k2r30 ?k3r30 ?k4r30 ?k5r30 ?kKr30 ?kpr30 ?kdr30 ?kur30 ?_ (fun h => h.elim); (case k1r30 => k_asm); (case k2r30 => k_asm); (case k3r30 => k_asm); (case k4r30 => k_asm); (case k5r30 => k_asm); (case kKr30 => first | exact rfl | assumption); (case kpr30 => k_extra "tu_up"); (case kdr30 => first | exact room3 (by assumption) rfl | exact room2 (by assumption) rfl | ktr_room); (case kur30 => first | exact room3 (by assumption) rfl | ktr_units); (case har30 => assumption); (case h1r30 => first | assumption | omega); (case h2r30 => first | assumption | omega)); intro r' tl' h' tk' F' N' P'; obtain ⟨t', e'⟩ := P'; subst e'; (try dsimp only); (try k_fold); (try k_sweep))
  k_with "call ref" => (k_here; (with_reducible show wpAny _ _ (call (Value.ref 152) [Value.ref _, Value.int _ _]) _ _ _); k_dflt (refine' says_useI (is_too_great_says _ _ _ _ _) ?k1r31 ?k2r31 ?k3r31 ?k4r31 ?k5r31 ?kKr31 ?kpr31 ?kdr31 ?kur31 ?_ (fun h => h.elim); (case k1r31 => k_asm); (case k2r31 => k_asm); (case k3r31 => k_asm); (case k4r31 => k_asm); (case k5r31 => k_asm); (case kKr31 => first | exact rfl | assumption); (case kpr31 => k_extra "tu_up"); (case kdr31 => first | exact room3 (by assumption) rfl | exact room2 (by assumption) rfl | ktr_room); (case kur31 => first | exact room3 (by assumption) rfl | ktr_units)); intro r' tl' h' tk' F' N' P'; subst P'; (try dsimp only); (try k_fold); (try k_sweep))
  exact True.intro
/-- the logarithm's series -/
def logL : Nat → Int → Int → Int → Int → Int → Int
  | 0, _, _, _, total, _ => total
  | f + 1, sq, one, term, total, n => if 0 < term then logL f sq one ((term * sq).fdiv one) (total + term.fdiv n) (n + 2) else total
def sizeF (a : Int) : Int := if a * a > 10 ^ (2 * (cd a.natAbs : Int) - 1).toNat then (cd a.natAbs : Int) + 1 else (cd a.natAbs : Int)
def nearF (a : Int) : Int := 10 ^ (sizeF a - 1).toNat
def logTerm (a s p : Int) : Int := ((if a - 10 ^ (s - 1).toNat < 0 then -(a - 10 ^ (s - 1).toNat) else a - 10 ^ (s - 1).toNat) * 10 ^ p.toNat).fdiv (a + 10 ^ (s - 1).toNat)
def logSq (a s p : Int) : Int := (logTerm a s p * logTerm a s p).fdiv (10 ^ p.toNat)
def logTot (a s p : Int) : Int := logL (logTerm a s p).toNat (logSq a s p) (10 ^ p.toNat) (logTerm a s p) 0 1
def logP (a b d : Int) : Int × Int × Int :=
  if 0 < a then (b + sizeF a - 1, (if a < nearF a then -2 * logTot a (sizeF a) (placesF a b d) else 2 * logTot a (sizeF a) (placesF a b d)), placesF a b d) else (0, 0, placesF a b d)
def LogI (a s p term total n : Int) : Prop :=
  0 ≤ term ∧ term ≤ 10 ^ p.toNat ∧ 1 ≤ n ∧ n + 2 * term ≤ 2 * 10 ^ p.toNat + 1 ∧ 0 ≤ total ∧ ∃ f, term.toNat ≤ f ∧ logL f (logSq a s p) (10 ^ p.toNat) term total n = logTot a s p
/-- the start lies well within one -/
def LogOk (a s p : Int) : Prop := 0 ≤ logTerm a s p ∧ 5 * logTerm a s p ≤ 3 * 10 ^ p.toNat ∧ 0 ≤ logSq a s p ∧ 25 * logSq a s p ≤ 9 * 10 ^ p.toNat
theorem sqk (k z : Int) : (k * z) * (k * z) = (k * k) * (z * z) := by rw [Int.mul_assoc, Int.mul_left_comm z, ← Int.mul_assoc]
theorem near_bounds {a s : Int} (h0 : 0 < a) (hs : (a * a > 10 ^ (2 * (cd a.natAbs : Int) - 1).toNat ∧ s = (cd a.natAbs : Int) + 1) ∨ (¬ a * a > 10 ^ (2 * (cd a.natAbs : Int) - 1).toNat ∧ s = (cd a.natAbs : Int))) :
    1 ≤ s ∧ 0 < (10 : Int) ^ (s - 1).toNat ∧ a ≤ 4 * 10 ^ (s - 1).toNat ∧ 10 ^ (s - 1).toNat ≤ 4 * a := by
  have hc : 1 ≤ cd a.natAbs := by rw [cd_pos (by (first | lia | omega))]; (first | lia | omega)
  obtain ⟨c, hcc⟩ : ∃ c, cd a.natAbs = c + 1 := ⟨cd a.natAbs - 1, by (first | lia | omega)⟩
  have h1 := lt_pow_cd a.natAbs
  have h2 := pow_cd_le a.natAbs (by (first | lia | omega))
  rw [hcc] at h1 h2 hs
  have e1 : (10 : Int) ^ (c + 1) = 10 * 10 ^ c := by rw [Int.pow_succ, Int.mul_comm]
  have e1n : (10 : Nat) ^ (c + 1) = 10 * 10 ^ c := by rw [Nat.pow_succ, Nat.mul_comm]
  have e2 : (10 : Int) ^ (2 * ((c + 1 : Nat) : Int) - 1).toNat = 10 * (10 ^ c * 10 ^ c) := by
    rw [show (2 * ((c + 1 : Nat) : Int) - 1).toNat = c + c + 1 from by (first | lia | omega), Int.pow_succ, Int.pow_add, Int.mul_comm]
  have e3 : ((10 ^ c : Nat) : Int) = 10 ^ c := by push_cast; rfl
  have hp : (0 : Int) < 10 ^ c := Int.pow_pos (by decide)
  rw [e2] at hs
  rw [e1n] at h1 h2
  have ha : (a.natAbs : Int) = a := by (first | lia | omega)
  have b1 : a < 10 * 10 ^ c := by rw [← e3]; (first | lia | omega)
  have b2 : (10 : Int) ^ c ≤ a := by rw [← e3]; (first | lia | omega)
  rcases hs with ⟨hs, rfl⟩ | ⟨hs, rfl⟩
  · rw [show (((c + 1 : Nat) : Int) + 1 - 1).toNat = c + 1 from by (first | lia | omega), e1]
    refine ⟨by (first | lia | omega), by (first | lia | omega), by (first | lia | omega), ?_⟩
    -- 10 t ≤ 4 a, else a ≤ (5/2) t and a a ≤ (25/4) t t
    rcases (show 4 * a < 10 * 10 ^ c ∨ 10 * 10 ^ c ≤ 4 * a by (first | lia | omega)) with h | h
    · exfalso
      have m1 : (4 * a) * (4 * a) ≤ (10 * 10 ^ c) * (10 * 10 ^ c) := Int.mul_le_mul (by (first | lia | omega)) (by (first | lia | omega)) (by (first | lia | omega)) (by (first | lia | omega))
      have m2 : (4 * a) * (4 * a) = 16 * (a * a) := sqk _ _
      have m3 : (10 * (10 : Int) ^ c) * (10 * 10 ^ c) = 100 * (10 ^ c * 10 ^ c) := sqk _ _
      have hq : 0 < (10 : Int) ^ c * 10 ^ c := Int.mul_pos hp hp
      (first | lia | omega)
    · exact h
  · rw [show (((c + 1 : Nat) : Int) - 1).toNat = c from by (first | lia | omega)]
    refine ⟨by (first | lia | omega), hp, ?_, by (first | lia | omega)⟩
    rcases (show 4 * 10 ^ c < a ∨ a ≤ 4 * 10 ^ c by (first | lia | omega)) with h | h
    · exfalso
      have m1 : (4 * (10 : Int) ^ c) * (4 * 10 ^ c) ≤ a * a := Int.mul_le_mul (by (first | lia | omega)) (by (first | lia | omega)) (by (first | lia | omega)) (by (first | lia | omega))
      have m2 : (4 * (10 : Int) ^ c) * (4 * 10 ^ c) = 16 * (10 ^ c * 10 ^ c) := sqk _ _
      have hq : 0 < (10 : Int) ^ c * 10 ^ c := Int.mul_pos hp hp
      (first | lia | omega)
    · exact h
theorem log_ok {a s p : Int} (h0 : 0 < a) (h1 : 0 < (10 : Int) ^ (s - 1).toNat) (h2 : a ≤ 4 * 10 ^ (s - 1).toNat) (h3 : 10 ^ (s - 1).toNat ≤ 4 * a) : LogOk a s p := by
  have hT : (0 : Int) < 10 ^ p.toNat := Int.pow_pos (by decide)
  have hD : 0 < a + 10 ^ (s - 1).toNat := by (first | lia | omega)
  have key : 0 ≤ logTerm a s p ∧ 5 * logTerm a s p ≤ 3 * 10 ^ p.toNat := by
    unfold logTerm
    have hz : 0 ≤ (if a - 10 ^ (s - 1).toNat < 0 then -(a - 10 ^ (s - 1).toNat) else a - 10 ^ (s - 1).toNat) ∧
        5 * (if a - 10 ^ (s - 1).toNat < 0 then -(a - 10 ^ (s - 1).toNat) else a - 10 ^ (s - 1).toNat) ≤ 3 * (a + 10 ^ (s - 1).toNat) := by split <;> (first | lia | omega)
    generalize (if a - 10 ^ (s - 1).toNat < 0 then -(a - 10 ^ (s - 1).toNat) else a - 10 ^ (s - 1).toNat) = z at *
    generalize a + 10 ^ (s - 1).toNat = D at *
    generalize (10 : Int) ^ p.toNat = T at *
    rw [fdiv_pos_facts _ _ hD]
    refine ⟨Int.ediv_nonneg (Int.mul_nonneg hz.1 (by (first | lia | omega))) (by (first | lia | omega)), ?_⟩
    have h5 := Int.ediv_mul_le (z * T) (show D ≠ 0 by (first | lia | omega))
    have h6 : (5 * z) * T ≤ (3 * D) * T := Int.mul_le_mul_of_nonneg_right hz.2 (by (first | lia | omega))
    refine Int.le_of_mul_le_mul_left (a := D) ?_ hD
    have e1 : D * (5 * (z * T / D)) = 5 * (z * T / D * D) := by rw [Int.mul_left_comm, Int.mul_comm D]
    have e2 : (5 * z) * T = 5 * (z * T) := Int.mul_assoc _ _ _
    have e3 : D * (3 * T) = (3 * D) * T := by rw [← Int.mul_assoc, Int.mul_comm D 3]
    (first | lia | omega)
  refine ⟨key.1, key.2, ?_⟩
  unfold logSq
  generalize logTerm a s p = z at *
  generalize (10 : Int) ^ p.toNat = T at *
  rw [fdiv_pos_facts _ _ hT]
  refine ⟨Int.ediv_nonneg (Int.mul_nonneg key.1 key.1) (by (first | lia | omega)), ?_⟩
  have h5 := Int.ediv_mul_le (z * z) (show T ≠ 0 by (first | lia | omega))
  have h6 : (5 * z) * (5 * z) ≤ (3 * T) * (3 * T) := Int.mul_le_mul key.2 key.2 (by (first | lia | omega)) (by (first | lia | omega))
  have e2 : (5 * z) * (5 * z) = 25 * (z * z) := sqk _ _
  have e3 : (3 * T) * (3 * T) = 9 * (T * T) := sqk _ _
  refine Int.le_of_mul_le_mul_left (a := T) ?_ hT
  have e1 : T * (25 * (z * z / T)) = 25 * (z * z / T * T) := by rw [Int.mul_left_comm, Int.mul_comm T]
  have e4 : T * (9 * T) = 9 * (T * T) := by rw [Int.mul_left_comm]
  (first | lia | omega)
theorem log_fall {T sq term : Int} (hT : 0 < T) (h0 : 0 ≤ sq) (h1 : 25 * sq ≤ 9 * T) (ht : 0 < term) : 0 ≤ (term * sq).fdiv T ∧ (term * sq).fdiv T < term ∧ 2 * (term * sq).fdiv T ≤ term := by
  have e0 : 0 ≤ term * sq := Int.mul_nonneg (by (first | lia | omega)) h0
  have e1 : term * (25 * sq) ≤ term * (9 * T) := Int.mul_le_mul_of_nonneg_left h1 (by (first | lia | omega))
  have e2 : term * (25 * sq) = 25 * (term * sq) := by rw [Int.mul_left_comm]
  have e3 : term * (9 * T) = 9 * (term * T) := by rw [Int.mul_left_comm]
  have e4 : 0 < term * T := Int.mul_pos ht hT
  rw [fdiv_pos_facts _ _ hT]
  have h5 := Int.ediv_mul_le (term * sq) (show T ≠ 0 by (first | lia | omega))
  have h6 : 2 * (term * sq / T) ≤ term := by
    refine Int.le_of_mul_le_mul_left (a := T) ?_ hT
    have e5 : T * (2 * (term * sq / T)) = 2 * (term * sq / T * T) := by rw [Int.mul_left_comm, Int.mul_comm T]
    rw [Int.mul_comm T term, e5]; (first | lia | omega)
  have := Int.ediv_nonneg e0 (show 0 ≤ T by (first | lia | omega))
  (first | lia | omega)
theorem log_start {a s p : Int} (K : LogOk a s p) : LogI a s p (logTerm a s p) 0 1 := by
  have hT : (0 : Int) < 10 ^ p.toNat := Int.pow_pos (by decide)
  obtain ⟨k1, k2, k3, k4⟩ := K
  exact ⟨k1, by (first | lia | omega), by (first | lia | omega), by (first | lia | omega), by (first | lia | omega), _, Nat.le_refl _, rfl⟩
theorem log_turn {a s p term total n : Int} (K : LogOk a s p) (I : LogI a s p term total n) (ht : 0 < term) : LogI a s p ((term * logSq a s p).fdiv (10 ^ p.toNat)) (total + term.fdiv n) (n + 2) := by
  have hT : (0 : Int) < 10 ^ p.toNat := Int.pow_pos (by decide)
  obtain ⟨k1, k2, k3, k4⟩ := K
  obtain ⟨h0, h1, h2, h3, h9, f, hf, e⟩ := I
  have h4 := log_fall hT k3 k4 ht
  cases f with
  | zero => omega
  | succ f =>
    refine ⟨h4.1, by omega, by omega, by omega, by have := (fdiv_le_self (x := term) (k := n) h0 (by omega)).1; omega, f, by omega, ?_⟩
    rw [← e]; show _ = if _ then _ else _
    rw [if_pos ht]
theorem log_less {a s p term total n : Int} (K : LogOk a s p) (I : LogI a s p term total n) (ht : 0 < term) : ((term * logSq a s p).fdiv (10 ^ p.toNat)).toNat < term.toNat := by
  have hT : (0 : Int) < 10 ^ p.toNat := Int.pow_pos (by decide)
  have h4 := log_fall hT K.2.2.1 K.2.2.2 ht
  omega
theorem log_end {a s p term total n : Int} (I : LogI a s p term total n) (ht : ¬ 0 < term) : total = logTot a s p := by
  obtain ⟨h0, h1, h2, h3, h9, f, hf, e⟩ := I
  rw [← e]
  cases f with
  | zero => rfl
  | succ f => show _ = if _ then _ else _; rw [if_neg ht]
theorem pow_le300 {p : Int} (hp : p ≤ 300) : (10 : Int) ^ p.toNat ≤ 10 ^ 300 := by
  have h := Nat.pow_le_pow_right (n := 10) (by decide) (show p.toNat ≤ 300 by (first | lia | omega))
  have e1 : ((10 ^ p.toNat : Nat) : Int) = 10 ^ p.toNat := by push_cast; rfl
  have e2 : ((10 ^ 300 : Nat) : Int) = 10 ^ 300 := by push_cast; rfl
  rw [← e1, ← e2]; exact Int.ofNat_le.mpr h
theorem cd_of_le {x p : Int} (hp : p ≤ 300) (h0 : 0 ≤ x) (h : x ≤ 9 * 10 ^ p.toNat) : cd x.natAbs ≤ 301 := by
  refine cd_nat h0 ?_
  have hS : (10 : Int) ^ 301 = 10 * 10 ^ 300 := by rw [show 301 = 300 + 1 from rfl, Int.pow_add, Int.mul_comm]; rfl
  have hT := pow_le300 hp
  have h1 : (0 : Int) < 10 ^ 300 := Int.pow_pos (by decide)
  rw [hS]
  generalize (10 : Int) ^ 300 = P at *
  generalize (10 : Int) ^ p.toNat = R at *
  (first | lia | omega)
theorem logL_bounds {sq T : Int} (hT : 0 < T) (h0 : 0 ≤ sq) (h1 : 25 * sq ≤ 9 * T) (f : Nat) : ∀ term total n : Int, 0 ≤ term → 1 ≤ n → total ≤ logL f sq T term total n ∧ logL f sq T term total n ≤ total + 2 * term := by
  induction f with
  | zero => intro term total n ht hn; exact ⟨Int.le_refl _, by show total ≤ _; omega⟩
  | succ f ih =>
    intro term total n ht hn
    show _ ≤ (if _ then _ else _) ∧ (if _ then _ else _) ≤ _
    by_cases h : 0 < term
    · rw [if_pos h]
      have h3 := log_fall hT h0 h1 h
      have h4 := fdiv_le_self (x := term) (k := n) ht (by omega)
      have h5 := ih ((term * sq).fdiv T) (total + term.fdiv n) (n + 2) h3.1 (by omega)
      omega
    · rw [if_neg h]; omega
theorem logTot_bounds {a s p : Int} (K : LogOk a s p) : 0 ≤ logTot a s p ∧ 5 * logTot a s p ≤ 6 * 10 ^ p.toNat := by
  have hT : (0 : Int) < 10 ^ p.toNat := Int.pow_pos (by decide)
  obtain ⟨k1, k2, k3, k4⟩ := K
  have := logL_bounds hT k3 k4 (logTerm a s p).toNat (logTerm a s p) 0 1 k1 (by (first | lia | omega))
  unfold logTot
  (first | lia | omega)
def lnear (a s : Int) : Int := 10 ^ (s - 1).toNat
theorem near_cd {s : Int} (hs : s ≤ 102) : cd ((10 : Int) ^ (s - 1).toNat).natAbs ≤ 102 := by
  rw [Int.natAbs_pow]; exact Nat.le_trans (cd_pow _) (by omega)
theorem pow_cd300 {p : Int} (hp : p ≤ 300) : cd ((10 : Int) ^ p.toNat).natAbs ≤ 301 := by
  rw [Int.natAbs_pow]; exact Nat.le_trans (cd_pow _) (by (first | lia | omega))
theorem logTerm_cd {a s p : Int} (h0 : 0 < a) (ha : cd a.natAbs ≤ 100) (hs : s ≤ 102) (hp : p ≤ 300) :
    cd (if a - 10 ^ (s - 1).toNat < 0 then -(a - 10 ^ (s - 1).toNat) else a - 10 ^ (s - 1).toNat).natAbs ≤ 103 ∧ cd (logTerm a s p).natAbs ≤ 405 := by
  have h1 : (0 : Int) < 10 ^ (s - 1).toNat := Int.pow_pos (by decide)
  have c1 : cd (if a - 10 ^ (s - 1).toNat < 0 then -(a - 10 ^ (s - 1).toNat) else a - 10 ^ (s - 1).toNat).natAbs ≤ 103 := by
    refine Nat.le_trans (cd_mono (b := a.natAbs + ((10 : Int) ^ (s - 1).toNat).natAbs) ?_) (cd_add (j := 102) (by omega) (near_cd hs))
    split <;> omega
  refine ⟨c1, ?_⟩
  unfold logTerm
  refine Nat.le_trans (cd_fdiv (k := 404) (by omega) ?_) (by omega)
  rw [Int.natAbs_mul]
  exact cd_mul c1 (pow_cd300 hp)
theorem logSq_cd {a s p : Int} (h0 : 0 < a) (ha : cd a.natAbs ≤ 100) (hs : s ≤ 102) (hp : p ≤ 300) : cd (logSq a s p).natAbs ≤ 811 := by
  unfold logSq
  refine Nat.le_trans (cd_fdiv (k := 810) (Int.pow_pos (by decide)) ?_) (by (first | lia | omega))
  rw [Int.natAbs_mul]
  exact cd_mul (logTerm_cd h0 ha hs hp).2 (logTerm_cd h0 ha hs hp).2
theorem log_sizes {a s p : Int} (h0 : 0 < a) (ha : cd a.natAbs ≤ 100) (hs : s ≤ 102) (hp : p ≤ 300) :
    IntMulOk (if a - 10 ^ (s - 1).toNat < 0 then -(a - 10 ^ (s - 1).toNat) else a - 10 ^ (s - 1).toNat) (10 ^ p.toNat) ∧ a + 10 ^ (s - 1).toNat ≠ 0 ∧ (a + (10 : Int) ^ (s - 1).toNat).natAbs.log2 < 9000 ∧
    IntMulOk (((if a - 10 ^ (s - 1).toNat < 0 then -(a - 10 ^ (s - 1).toNat) else a - 10 ^ (s - 1).toNat) * 10 ^ p.toNat).fdiv (a + 10 ^ (s - 1).toNat)) (((if a - 10 ^ (s - 1).toNat < 0 then -(a - 10 ^ (s - 1).toNat) else a - 10 ^ (s - 1).toNat) * 10 ^ p.toNat).fdiv (a + 10 ^ (s - 1).toNat)) := by
  have h1 : (0 : Int) < 10 ^ (s - 1).toNat := Int.pow_pos (by decide)
  have ⟨c1, c2⟩ := logTerm_cd h0 ha hs hp
  refine ⟨mulOk_cd c1 (pow_cd300 hp) (by decide), by omega, log_cd (j := 103) (Nat.le_trans (cd_mono (Int.natAbs_add_le _ _)) (cd_add (j := 102) (by omega) (near_cd hs))) (by decide), mulOk_cd c2 c2 (by decide)⟩
theorem sizeF_le {a : Int} (ha : cd a.natAbs ≤ 100) : sizeF a ≤ 102 := by unfold sizeF; split <;> (first | lia | omega)
theorem log_all {a p term total n : Int} (h0 : 0 < a) (ha : cd a.natAbs ≤ 100) (hp : p ≤ 300) (K : LogOk a (sizeF a) p) (I : LogI a (sizeF a) p term total n) :
    LogI a (sizeF a) p term total n ∧ n ≠ 0 ∧ n.natAbs.log2 < 9000 ∧ IntMulOk term (logSq a (sizeF a) p) ∧ IntMulOk (-2) total ∧ IntMulOk 2 total := by
  have hT : (0 : Int) < 10 ^ p.toNat := Int.pow_pos (by decide)
  have I' := I
  have KB := logTot_bounds K
  obtain ⟨k1, k2, k3, k4⟩ := K
  obtain ⟨i0, i1, i2, i3, i9, f, hf, e⟩ := I
  have ht := cd_of_le hp i0 (by (first | lia | omega))
  have hL := (logL_bounds hT k3 k4 f term total n i0 i2).1
  have h5 := cd_of_le (x := total) hp i9 (by (first | lia | omega))
  exact ⟨I', by (first | lia | omega), log_cd (cd_of_le hp (by (first | lia | omega)) (by (first | lia | omega))) (by decide), mulOk_cd ht (logSq_cd h0 ha (sizeF_le ha) hp) (by decide),
    mulOk_cd (j := 1) (cd_le (by decide)) h5 (by decide), mulOk_cd (j := 1) (cd_le (by decide)) h5 (by decide)⟩
theorem sizeF_up {a : Int} (h : 10 ^ (2 * (cd a.natAbs : Int) - 1).toNat < a * a) : sizeF a = (cd a.natAbs : Int) + 1 := if_pos h
theorem sizeF_no {a : Int} (h : ¬ 10 ^ (2 * (cd a.natAbs : Int) - 1).toNat < a * a) : sizeF a = (cd a.natAbs : Int) := if_neg h
theorem log_okF {a p : Int} (h0 : 0 < a) : LogOk a (sizeF a) p := by
  have hs : (a * a > 10 ^ (2 * (cd a.natAbs : Int) - 1).toNat ∧ sizeF a = (cd a.natAbs : Int) + 1) ∨ (¬ a * a > 10 ^ (2 * (cd a.natAbs : Int) - 1).toNat ∧ sizeF a = (cd a.natAbs : Int)) := by
    by_cases h : a * a > 10 ^ (2 * (cd a.natAbs : Int) - 1).toNat
    · exact .inl ⟨h, sizeF_up h⟩
    · exact .inr ⟨h, sizeF_no h⟩
  have ⟨b1, b2, b3, b4⟩ := near_bounds h0 hs
  exact log_ok h0 b2 b3 b4
theorem logP_lo {a b d s total : Int} (h0 : 0 < a) (e : sizeF a = s) (h : a < 10 ^ (s - 1).toNat) (ht : total = logTot a (sizeF a) (placesF a b d)) : (b + s - 1, -2 * total, placesF a b d) = logP a b d := by
  subst e ht; unfold logP; rw [if_pos h0, if_pos (show a < nearF a from h)]
theorem logP_hi {a b d s total : Int} (h0 : 0 < a) (e : sizeF a = s) (h : ¬ a < 10 ^ (s - 1).toNat) (ht : total = logTot a (sizeF a) (placesF a b d)) : (b + s - 1, 2 * total, placesF a b d) = logP a b d := by
  subst e ht; unfold logP; rw [if_pos h0, if_neg (show ¬ a < nearF a from h)]
theorem size_join {c : Prop} [Decidable c] {M : Model} {A : Around} {x y : Sem Flow} {Q : Flow → Shared → Prop} {E : Value → Shared → Prop} {s : Shared} {g : Heap} {L : Addr} {news : List (Addr × Obj)} {m : Str → Option Value} {nm : Str} {z0 zt : Int} {t0 : Tok}
    (F : Fr g L s.heap (fun y => if y = nm then some (.int z0 t0) else m y)) (N : News g L s.heap news)
    (h1 : c → wpAny M A x (fun fl s' => ∃ z t h' tk, fl = .next ∧ s' = { s with heap := h', toks := tk } ∧ z = zt ∧ Fr g L h' (fun y => if y = nm then some (.int z t) else if y = nm then some (.int z0 t0) else m y) ∧ News g L h' news) E s)
    (h2 : ¬ c → wpAny M A y (fun fl s' => ∃ z t h' tk, fl = .next ∧ s' = { s with heap := h', toks := tk } ∧ z = zt ∧ Fr g L h' (fun y => if y = nm then some (.int z t) else m y) ∧ News g L h' news) E s)
    (h : ∀ t h' tk, Fr g L h' (fun y => if y = nm then some (.int zt t) else m y) → News g L h' news → Q .next { s with heap := h', toks := tk }) : if c then wpAny M A x Q E s else wpAny M A y Q E s := by
  split
  · refine wpAny_mono (h1 (by assumption)) (fun r s' ⟨z, t, h', tk, e, e', ez, F', N'⟩ => ?_) (fun _ _ e => e)
    subst e; subst e'; subst ez
    refine h t h' tk ?_ N'
    have em : (fun y => if y = nm then some (Value.int z t) else if y = nm then some (Value.int z0 t0) else m y) = (fun y => if y = nm then some (Value.int z t) else m y) := by
      funext y
      by_cases q : y = nm
      · rw [if_pos q, if_pos q]
      · rw [if_neg q, if_neg q, if_neg q]
    rw [← em]; exact F'
  · refine wpAny_mono (h2 (by assumption)) (fun r s' ⟨z, t, h', tk, e, e', ez, F', N'⟩ => ?_) (fun _ _ e => e)
    subst e; subst e'; subst ez
    exact h t h' tk F' N'
theorem log_parts_says (x : Addr) (a b d : Int) (t : Tok) (h0 : 0 < a) (ha : cd a.natAbs ≤ 100) (hd0 : 0 ≤ d) (hd1 : d ≤ 60) (hl : leadO a b ≤ 100) :
    Says w mean mg mb 4 166 [.ref x, .int d t] (fun l => Tu l x a b) (TriOut (logP a b d)) False := by
  unfold Says
  intro dp un gd cn cs ad ccd outer A₀ base h₀ L mm news s Q E B F X N T hk hpre hd hu hret hexc
  obtain ⟨q1, q2⟩ := places_bounds hd0 hd1 ha hl (by decide)
  have qp : placesF a b d ≤ 300 := by omega
  have hK := log_okF (p := placesF a b d) h0
  obtain ⟨f1, f2, f3, f4⟩ := log_sizes (s := sizeF a) h0 ha (sizeF_le ha) qp
  have hmm : IntMulOk a a := mulOk_cd ha ha (by decide)
  have hone := pow10_ne (placesF a b d).toNat
  have honel := pow10_log (n := (placesF a b d).toNat) (by omega)
  have hc1 : 1 ≤ (cd a.natAbs : Int) := by rw [cd_pos (show a.natAbs ≠ 0 by omega)]; omega
  have h2c : IntMulOk 2 (cd a.natAbs : Int) := mulOk_cd (j := 1) (k := 3) (cd_le (by decide)) (cd_le (by omega)) (by decide)
  have hs1 : 1 ≤ sizeF a ∧ sizeF a ≤ 102 := ⟨by unfold sizeF; split <;> omega, sizeF_le ha⟩
  k_with "ite" => ((with_reducible show ite _ (wpAny _ _ (execs [Stmt.AugAssign _ _ _ _] _) _ _ _) _); refine' size_join (nm := Str.ofString "size") (z0 := (cd a.natAbs : Int)) (zt := sizeF a) ?Fjj ?Njj (fun hc => ?_) (fun hc => ?_) (fun t9 h9 tk9 F9 N9 => ?_); (case Fjj => k_asm); (case Njj => k_asm); (all_goals (try dsimp only)))
  k_with "Exists" => first | exact ⟨_, _, _, _, rfl, rfl, (sizeF_up (of_decide_eq_true (by assumption))).symm, by k_asm, by k_asm⟩ | exact ⟨_, _, _, _, rfl, rfl, (sizeF_no (fun q => absurd (decide_eq_true q) (by assumption))).symm, by k_asm, by k_asm⟩
  k_with "exec While Compare cons nil" => k_while (fun (_ : List Int) (total n term : Int) => LogI a (sizeF a) (placesF a b d) term total n ∧ n ≠ 0 ∧ n.natAbs.log2 < 9000 ∧ IntMulOk term ((((if a - 10 ^ (sizeF a - 1).toNat < 0 then -(a - 10 ^ (sizeF a - 1).toNat) else a - 10 ^ (sizeF a - 1).toNat) * 10 ^ (placesF a b d).toNat).fdiv (a + 10 ^ (sizeF a - 1).toNat) * ((if a - 10 ^ (sizeF a - 1).toNat < 0 then -(a - 10 ^ (sizeF a - 1).toNat) else a - 10 ^ (sizeF a - 1).toNat) * 10 ^ (placesF a b d).toNat).fdiv (a + 10 ^ (sizeF a - 1).toNat)).fdiv (10 ^ (placesF a b d).toNat)) ∧ IntMulOk (-2) total ∧ IntMulOk 2 total) (fun (_ : List Int) (_ _ term : Int) => term.toNat) "total" "n" "term"
  k_with "state" => k_dflt (first | exact log_all h0 ha qp hK (log_start hK) | exact log_all h0 ha qp hK (log_turn hK (by assumption) (by assumption)))
  k_with "measure" => k_dflt (exact log_less hK (by assumption) (by assumption))
  refine wpAny_call ?_
  k_dflt cell_enter
  k_steps
  all_goals first
    | exact hret _ _ _ _ (by k_asm) (by k_asm) (by k_extra "sub_up") (TriOut.of (by k_extra "tu3_up") (logP_lo h0 rfl (by assumption) (log_end (by assumption) (by assumption))))
    | exact hret _ _ _ _ (by k_asm) (by k_asm) (by k_extra "sub_up") (TriOut.of (by k_extra "tu3_up") (logP_hi h0 rfl (by assumption) (log_end (by assumption) (by assumption))))
theorem ln28 : True := by
  k_with_none
  k_with "tu_up" => first | with_reducible assumption | exact Tu.of (List.Mem.head _) | exact Tu.nought | (apply Tu.cons; k_extra "tu_up") | (apply Tu.app; k_extra "tu_up")
  k_with "tu3_up" => first | with_reducible assumption | exact Tu3.of (List.Mem.head _) | (refine Tu3.cons ?_; k_extra "tu3_up") | (refine Tu3.app ?_; k_extra "tu3_up")
  k_with "tur_up" => first | with_reducible assumption | exact TuR.of (List.Mem.head _) | (apply TuR.cons; k_extra "tur_up") | (apply TuR.app; k_extra "tur_up")
  k_with "rv_up" => first | with_reducible assumption | (refine Rv.cons ?_; k_extra "rv_up") | (refine Rv.app ?_; k_extra "rv_up")
  k_with "sub_up" => first | with_reducible assumption | exact sub_id | (refine sub_cons ?_; k_extra "sub_up") | (refine sub_app ?_; k_extra "sub_up")
  k_with "subscriptTail" => (k_here; (with_reducible show wpAny _ _ (subscriptTail _ _ (Value.ref _) (Value.int 0 _)) _ _ _); k_dflt (first | (refine' tu_item0 ?Fr9 ?Xr9 ?Nr9 ?Tr9 ?_ ?hsr9; (case Fr9 => k_asm); (case Xr9 => k_asm); (case Nr9 => k_asm); (case Tr9 => k_extra "tu_up"); (case hsr9 => with_unfolding_all rfl); k_whole; intro _) | (refine' tu_ref0 ?Nr9 ?Tr9 ?_ ?hsr9; (case Nr9 => k_asm); (case Tr9 => k_extra "tur_up"); (case hsr9 => with_unfolding_all rfl); k_whole)))
  k_with "subscriptTail" => (k_here; (with_reducible show wpAny _ _ (subscriptTail _ _ (Value.ref _) (Value.int 1 _)) _ _ _); k_dflt (first | (refine' tu_item1 ?Fr10 ?Xr10 ?Nr10 ?Tr10 ?_ ?hsr10; (case Fr10 => k_asm); (case Xr10 => k_asm); (case Nr10 => k_asm); (case Tr10 => k_extra "tu_up"); (case hsr10 => with_unfolding_all rfl); k_whole; intro _) | (refine' tu_ref1 ?Nr10 ?Tr10 ?_ ?hsr10; (case Nr10 => k_asm); (case Tr10 => k_extra "tur_up"); (case hsr10 => with_unfolding_all rfl); k_whole)))
  k_with "assign Tuple" => (k_here; (with_reducible show wpAny _ _ (assign (Expr.Tuple _ _ _) _ (Value.ref _)) _ _ _); k_dflt (first | (refine' tu_unpack ?Fr11 ?Xr11 ?Nr11 ?Tr11 ?k4r11 ?k5r11 ?k6r11 ?_; (case Fr11 => k_asm); (case Xr11 => k_asm); (case Nr11 => k_asm); (case Tr11 => k_extra "tu_up"); (case k4r11 => exact rfl); (case k5r11 => exact rfl); (case k6r11 => exact rfl); k_whole; intro _ _ h' F' N') | (refine' tu_unpack3 ?Fr11 ?Nr11 ?Tr11 ?k4r11 ?k5r11 ?k6r11 ?_; (case Fr11 => k_asm); (case Nr11 => k_asm); (case Tr11 => k_extra "tu3_up"); (case k4r11 => exact rfl); (case k5r11 => exact rfl); (case k6r11 => exact rfl); k_whole; intro _ _ _ h' F' N')); (try k_sweep))
  k_with "binaryOp Mult int int" => (k_here; with_reducible refine mul_int ?_ (by assumption))
  k_with "binaryOp FloorDiv int int" => (k_here; (with_reducible refine floordiv_int ?h0r13 ?_ (Or.inl (PyProof.noPylong_of_log2 ?hlr13))); (case h0r13 => first | assumption | omega); (case hlr13 => assumption))
  k_with "inplaceOp FloorDiv int int" => (k_here; (with_reducible refine ifloordiv_int ?h0r14 ?_ (Or.inl (PyProof.noPylong_of_log2 ?hlr14))); (case h0r14 => first | assumption | omega); (case hlr14 => assumption))
  k_with "binaryOp Pow int int" => (k_here; (with_reducible refine pow_int_small ?ar15 ?br15 ?cr15 ?_); (case ar15 => omega); (case br15 => omega); (case cr15 => decide))
  k_with "call builtin:divmod" => (k_here; (with_reducible show wpAny _ _ (call (Value.builtin _) [Value.int _ _, Value.int _ _]) _ _ _); (refine divmod_N (by k_asm) (by k_asm) (by assumption) ?_ (Or.inl (PyProof.noPylong_of_log2 (by assumption)))); intro h' F' N'; (try k_sweep))
  k_with "exec Raise some none" => (k_here; refine raise44 rfl ?_)
  k_with "RaisePost" => (k_here; refine' raisePost ?Fr18 ?Xr18 ?Nr18 ?_; (case Fr18 => k_asm); (case Xr18 => k_asm); (case Nr18 => k_asm))
  k_with "call ref" => (k_here; (with_reducible show wpAny _ _ (call (Value.ref 44) [Value.str _ _]) _ _ _); k_dflt (refine' call_fault ?k1r19 ?k2r19 ?k3r19 ?k4r19 ?k5r19 ?kKr19 ?kdr19 ?_; (case k1r19 => k_asm); (case k2r19 => k_asm); (case k3r19 => k_asm); (case k4r19 => k_asm); (case k5r19 => k_asm); (case kKr19 => first | exact rfl | assumption); (case kdr19 => first | exact room3 (by assumption) rfl | exact room2 (by assumption) rfl | ktr_room); k_whole); intro h' e' t' d' tk' F' N' l1' l2' l3'; (try dsimp only); (try k_sweep))
  k_with "leaving ref" => (k_here; k_dflt (first | (refine' leave_fault ?Kr20 ?Fr20 ?Nr20 ?h1r20 ?h2r20 ?h3r20 sub_id ?_; (case Kr20 => assumption); (case Fr20 => k_asm); (case Nr20 => k_asm); (case h1r20 => assumption); (case h2r20 => assumption); (case h3r20 => assumption); k_whole; intro h' R' U') | (refine' leave_onS ?Kr20 ?Fr20 ?Rr20 ?Ur20 ?_; (case Rr20 => assumption); (case Fr20 => assumption); (case Kr20 => assumption); (case Ur20 => assumption); k_whole; intro h' R' K' U'; clear K')))
  k_with "execs cons" => (k_here; (with_reducible show wpAny _ _ _ _ _ (Shared.mk _ _ _ (_ + 1) _)); (with_reducible refine gen_toks (s := Shared.mk _ _ _ 0 _) ?_); intro tk'; (try dsimp only))
  k_with "execs nil" => (k_here; (with_reducible show wpAny _ _ _ _ _ (Shared.mk _ _ _ (_ + 1) _)); (with_reducible refine gen_toks (s := Shared.mk _ _ _ 0 _) ?_); intro tk'; (try dsimp only))
  k_with "call ref" => (k_here; (with_reducible show wpAny _ _ (call (Value.ref 54) [Value.int _ _]) _ _ _); k_dflt (refine' says_useI (count_digits_says _ _) ?k1r23 ?k2r23 ?k3r23 ?k4r23 ?k5r23 ?kKr23 ?kpr23 ?kdr23 ?kur23 ?_ (fun h => h.elim); (case k1r23 => k_asm); (case k2r23 => k_asm); (case k3r23 => k_asm); (case k4r23 => k_asm); (case k5r23 => k_asm); (case kKr23 => first | exact rfl | assumption); (case kpr23 => trivial); (case kdr23 => first | exact room3 (by assumption) rfl | exact room2 (by assumption) rfl | ktr_room); (case kur23 => first | exact room3 (by assumption) rfl | ktr_units)); intro r' tl' h' tk' F' N' P'; obtain ⟨t', e'⟩ := P'; subst e'; (try dsimp only); (try k_fold); (try k_sweep))
  k_with "call ref" => (k_here; (with_reducible show wpAny _ _ (call (Value.ref 61) [Value.int _ _, Value.int _ _]) _ _ _); k_dflt (refine' says_useT (strip_zeros_says _ _ _ _) ?k1r24 ?k2r24 ?k3r24 ?k4r24 ?k5r24 ?kKr24 ?kpr24 ?kdr24 ?kur24 (fun _ _ _ hs h => h.mono hs) ?_ (fun h => h.elim); (case k1r24 => k_asm); (case k2r24 => k_asm); (case k3r24 => k_asm); (case k4r24 => k_asm); (case k5r24 => k_asm); (case kKr24 => first | exact rfl | assumption); (case kpr24 => trivial); (case kdr24 => first | exact room3 (by assumption) rfl | exact room2 (by assumption) rfl | ktr_room); (case kur24 => first | exact room3 (by assumption) rfl | ktr_units)); intro r' tl' h' tk' F' N' P'; obtain ⟨x', e', T'⟩ := P'; subst e'; (try dsimp only); (try k_fold); (try k_sweep))
  k_with "call ref" => (k_here; (with_reducible show wpAny _ _ (call (Value.ref 68) [Value.int _ _, Value.int _ _, Value.int _ _]) _ _ _); k_dflt (refine' says_useT (round_digits_says _ _ _ _ _ _ (by first | assumption | omega) (by first | assumption | omega)) ?k1r25 ?k2r25 ?k3r25 ?k4r25 ?k5r25 ?kKr25 ?kpr25 ?kdr25 ?kur25 (fun _ _ _ hs h => h.mono hs) ?_ (fun h => h.elim); (case k1r25 => k_asm); (case k2r25 => k_asm); (case k3r25 => k_asm); (case k4r25 => k_asm); (case k5r25 => k_asm); (case kKr25 => first | exact rfl | assumption); (case kpr25 => trivial); (case kdr25 => first | exact room3 (by assumption) rfl | exact room2 (by assumption) rfl | ktr_room); (case kur25 => first | exact room3 (by assumption) rfl | ktr_units)); intro r' tl' h' tk' F' N' P'; obtain ⟨x', e', T'⟩ := P'; subst e'; (try dsimp only); (try k_fold); (try k_sweep))
  k_with "call ref" => (k_here; (with_reducible show wpAny _ _ (call (Value.ref 75) [Value.int _ _, Value.int _ _, Value.int _ _, Value.int _ _]) _ _ _); k_dflt (refine' says_useT (round_real_says _ _ _ _ _ _ _ _ (by first | assumption | omega | exact expP_cd (by assumption) (by assumption) (by assumption) (by assumption) (tooG_lead2 (by assumption) (by assumption))) (by first | assumption | omega)) ?k1r26 ?k2r26 ?k3r26 ?k4r26 ?k5r26 ?kKr26 ?kpr26 ?kdr26 ?kur26 (fun _ _ _ hs h => h.mono hs) ?_ ?_; (case k1r26 => k_asm); (case k2r26 => k_asm); (case k3r26 => k_asm); (case k4r26 => k_asm); (case k5r26 => k_asm); (case kKr26 => first | exact rfl | assumption); (case kpr26 => trivial); (case kdr26 => first | exact room3 (by assumption) rfl | exact room2 (by assumption) rfl | ktr_room); (case kur26 => first | exact room3 (by assumption) rfl | ktr_units)); (intro r' tl' h' tk' F' N' P'; obtain ⟨x', a', b', e', T', O'⟩ := P'; subst e'; (try dsimp only); (try k_fold); (try k_sweep)); rotate_left; (intro c' e' t' vs' g' h' tk' F' R' U'; (try dsimp only); (try k_fold)); rotate_left)
  k_with "call ref" => (k_here; (with_reducible show wpAny _ _ (call (Value.ref 82) [Value.ref _, Value.ref _]) _ _ _); k_dflt (refine' says_useT (exact_mul_says _ _ _ _ _ _ ?hmr27) ?k1r27 ?k2r27 ?k3r27 ?k4r27 ?k5r27 ?kKr27 ?kpr27 ?kdr27 ?kur27 (fun _ _ _ hs h => h.mono hs) ?_ (fun h => h.elim); (case k1r27 => k_asm); (case k2r27 => k_asm); (case k3r27 => k_asm); (case k4r27 => k_asm); (case k5r27 => k_asm); (case kKr27 => first | exact rfl | assumption); (case kpr27 => exact ⟨by k_extra "tu_up", by k_extra "tu_up"⟩); (case kdr27 => first | exact room3 (by assumption) rfl | exact room2 (by assumption) rfl | ktr_room); (case kur27 => first | exact room3 (by assumption) rfl | ktr_units); (case hmr27 => assumption)); intro r' tl' h' tk' F' N' P'; obtain ⟨x', e', T'⟩ := P'; subst e'; (try dsimp only); (try k_fold); (try k_sweep))
  k_with "call ref" => (k_here; (with_reducible show wpAny _ _ (call (Value.ref 89) [Value.ref _]) _ _ _); k_dflt (refine' says_useI (lead_of_says _ _ _) ?k1r28 ?k2r28 ?k3r28 ?k4r28 ?k5r28 ?kKr28 ?kpr28 ?kdr28 ?kur28 ?_ (fun h => h.elim); (case k1r28 => k_asm); (case k2r28 => k_asm); (case k3r28 => k_asm); (case k4r28 => k_asm); (case k5r28 => k_asm); (case kKr28 => first | exact rfl | assumption); (case kpr28 => k_extra "tu_up"); (case kdr28 => first | exact room3 (by assumption) rfl | exact room2 (by assumption) rfl | ktr_room); (case kur28 => first | exact room3 (by assumption) rfl | ktr_units)); intro r' tl' h' tk' F' N' P'; obtain ⟨t', e'⟩ := P'; subst e'; (try dsimp only); (try k_fold); (try k_sweep))
  k_with "call ref" => (k_here; (with_reducible show wpAny _ _ (call (Value.ref 96) [Value.ref _, Value.int _ _]) _ _ _); k_dflt (refine' says_useI (places_for_says _ _ _ _ _) ?k1r29 ?k2r29 ?k3r29 ?k4r29 ?k5r29 ?kKr29 ?kpr29 ?kdr29 ?kur29 ?_ (fun h => h.elim); (case k1r29 => k_asm); (case k2r29 => k_asm); (case k3r29 => k_asm); (case k4r29 => k_asm); (case k5r29 => k_asm); (case kKr29 => first | exact rfl | assumption); (case kpr29 => k_extra "tu_up"); (case kdr29 => first | exact room3 (by assumption) rfl | exact room2 (by assumption) rfl | ktr_room); (case kur29 => first | exact room3 (by assumption) rfl | ktr_units)); intro r' tl' h' tk' F' N' P'; obtain ⟨t', e'⟩ := P'; subst e'; (try dsimp only); (try k_fold); (try k_sweep))
  k_with "call ref" => (k_here; (with_reducible show wpAny _ _ (call (Value.ref 103) [Value.ref _, Value.int _ _]) _ _ _); k_dflt (refine' says_useI (fixed_says _ _ _ _ _ ?har30 ?h1r30 ?h2r30) ?k1r30 ?k2r30 ?k3r30 ?k4r30 ?k5r30 ?kKr30 ?kpr30 ?kdr30 ?kur30 ?_ (fun h => h.elim); (case k1r30 => k_asm); (case k2r30 => k_asm); (case k3r30 => k_asm); (case k4r30 => k_asm); (case k5r30 => k_asm); (case kKr30 => first | exact rfl | assumption); (case kpr30 => k_extra "tu_up"); (case kdr30 => first | exact room3 (by assumption) rfl | exact room2 (by assumption) rfl | ktr_room); (case kur30 => first | exact room3 (by assumption) rfl | ktr_units); (case har30 => assumption); (case h1r30 => first | assumption | omega); (case h2r30 => first | assumption | omega)); intro r' tl' h' tk' F' N' P'; obtain ⟨t', e'⟩ := P'; subst e'; (try dsimp only); (try k_fold); (try k_sweep))
  k_with "call ref" => (k_here; (with_reducible show wpAny _ _ (call (Value.ref 152) [Value.ref _, Value.int _ _]) _ _ _); k_dflt (refine' says_useI (is_too_great_says _ _ _ _ _) ?k1r31 ?k2r31 ?k3r31 ?k4r31 ?k5r31 ?kKr31 ?kpr31 ?kdr31 ?kur31 ?_ (fun h => h.elim); (case k1r31 => k_asm); (case k2r31 => k_asm); (case k3r31 => k_asm); (case k4r31 => k_asm); (case k5r31 => k_asm); (case kKr31 => first | exact rfl | assumption); (case kpr31 => k_extra "tu_up"); (case kdr31 => first | exact room3 (by assumption) rfl | exact room2 (by assumption) rfl | ktr_room); (case kur31 => first | exact room3 (by assumption) rfl | ktr_units)); intro r' tl' h' tk' F' N' P'; subst P'; (try dsimp only); (try k_fold); (try k_sweep))
  exact True.intro
theorem ln29 : True := by
  k_with "call ref" => (k_here; (with_reducible show wpAny _ _ (call (Value.ref 166) [Value.ref _, Value.int _ _]) _ _ _); k_dflt (refine' says_useT (log_parts_says _ _ _ _ _ ?h0r40 ?har40 ?hd0r40 ?hd1r40 ?hlr40) ?k1r40 ?k2r40 ?k3r40 ?k4r40 ?k5r40 ?kKr40 ?kpr40 ?kdr40 ?kur40 (fun _ _ _ hs h => h.mono hs) ?_ (fun h => h.elim); (case k1r40 => k_asm); (case k2r40 => k_asm); (case k3r40 => k_asm); (case k4r40 => k_asm); (case k5r40 => k_asm); (case kKr40 => first | exact rfl | assumption); (case kpr40 => k_extra "tu_up"); (case kdr40 => first | exact room3 (by assumption) rfl | exact room2 (by assumption) rfl | ktr_room); (case kur40 => first | exact room3 (by assumption) rfl | ktr_units); (case h0r40 => first | assumption | omega); (case har40 => first | assumption | omega); (case hd0r40 => first | assumption | omega); (case hd1r40 => first | assumption | omega); (case hlr40 => first | assumption | omega)); intro r' tl' h' tk' F' N' P'; obtain ⟨x', e', T'⟩ := P'; subst e'; (try dsimp only); (try k_fold); (try k_sweep))
  exact True.intro
section
variable {M : Model} {A : Around} {E : Value → Shared → Prop} {s : Shared} {h₀ : Heap} {L p q : Addr} {m : Str → Option Value} {news : List (Addr × Obj)} {a b c : Int} {t1 t2 t3 : Tok}
theorem newTuple_Tu {Q : Value → Shared → Prop} (F : Fr h₀ L s.heap m) (N : News h₀ L s.heap news)
    (h : ∀ D h', Fr h₀ L h' m → News h₀ L h' ((D, ({ cls := .type "tuple", data := .seq #[.int a t1, .int b t2] } : Obj)) :: news) → Tu ((D, ({ cls := .type "tuple", data := .seq #[.int a t1, .int b t2] } : Obj)) :: news) D a b → (∀ p ∈ news, p.1 < D) → Q (.ref D) { s with heap := h' }) :
    wpAny M A (newTuple [.int a t1, .int b t2]) Q E s :=
  kup_newTuple F N (fun D h' F' N' l => h D h' F' N' (Tu.of (List.Mem.head _)) l) (show 2 ≤ sizeLine by decide)
theorem newTuple_TuR {Q : Value → Shared → Prop} (F : Fr h₀ L s.heap m) (N : News h₀ L s.heap news)
    (h : ∀ D h', Fr h₀ L h' m → News h₀ L h' ((D, ({ cls := .type "tuple", data := .seq #[.ref p, .ref q] } : Obj)) :: news) → TuR ((D, ({ cls := .type "tuple", data := .seq #[.ref p, .ref q] } : Obj)) :: news) D p q → (∀ p ∈ news, p.1 < D) → Q (.ref D) { s with heap := h' }) :
    wpAny M A (newTuple [.ref p, .ref q]) Q E s :=
  kup_newTuple F N (fun D h' F' N' l => h D h' F' N' (TuR.of (List.Mem.head _)) l) (show 2 ≤ sizeLine by decide)
end
theorem ln30 : True := by
  k_with_none
  k_with "tu_up" => first | with_reducible assumption | exact Tu.of (List.Mem.head _) | exact Tu.nought | (apply Tu.cons; k_extra "tu_up") | (apply Tu.app; k_extra "tu_up")
  k_with "tu3_up" => first | with_reducible assumption | exact Tu3.of (List.Mem.head _) | (refine Tu3.cons ?_; k_extra "tu3_up") | (refine Tu3.app ?_; k_extra "tu3_up")
  k_with "tur_up" => first | with_reducible assumption | exact TuR.of (List.Mem.head _) | (apply TuR.cons; k_extra "tur_up") | (apply TuR.app; k_extra "tur_up")
  k_with "rv_up" => first | with_reducible assumption | (refine Rv.cons ?_; k_extra "rv_up") | (refine Rv.app ?_; k_extra "rv_up")
  k_with "sub_up" => first | with_reducible assumption | exact sub_id | (refine sub_cons ?_; k_extra "sub_up") | (refine sub_app ?_; k_extra "sub_up")
  k_with "subscriptTail" => (k_here; (with_reducible show wpAny _ _ (subscriptTail _ _ (Value.ref _) (Value.int 0 _)) _ _ _); k_dflt (first | (refine' tu_item0 ?Fr9 ?Xr9 ?Nr9 ?Tr9 ?_ ?hsr9; (case Fr9 => k_asm); (case Xr9 => k_asm); (case Nr9 => k_asm); (case Tr9 => k_extra "tu_up"); (case hsr9 => with_unfolding_all rfl); k_whole; intro _) | (refine' tu_ref0 ?Nr9 ?Tr9 ?_ ?hsr9; (case Nr9 => k_asm); (case Tr9 => k_extra "tur_up"); (case hsr9 => with_unfolding_all rfl); k_whole)))
  k_with "subscriptTail" => (k_here; (with_reducible show wpAny _ _ (subscriptTail _ _ (Value.ref _) (Value.int 1 _)) _ _ _); k_dflt (first | (refine' tu_item1 ?Fr10 ?Xr10 ?Nr10 ?Tr10 ?_ ?hsr10; (case Fr10 => k_asm); (case Xr10 => k_asm); (case Nr10 => k_asm); (case Tr10 => k_extra "tu_up"); (case hsr10 => with_unfolding_all rfl); k_whole; intro _) | (refine' tu_ref1 ?Nr10 ?Tr10 ?_ ?hsr10; (case Nr10 => k_asm); (case Tr10 => k_extra "tur_up"); (case hsr10 => with_unfolding_all rfl); k_whole)))
  k_with "assign Tuple" => (k_here; (with_reducible show wpAny _ _ (assign (Expr.Tuple _ _ _) _ (Value.ref _)) _ _ _); k_dflt (first | (refine' tu_unpack ?Fr11 ?Xr11 ?Nr11 ?Tr11 ?k4r11 ?k5r11 ?k6r11 ?_; (case Fr11 => k_asm); (case Xr11 => k_asm); (case Nr11 => k_asm); (case Tr11 => k_extra "tu_up"); (case k4r11 => exact rfl); (case k5r11 => exact rfl); (case k6r11 => exact rfl); k_whole; intro _ _ h' F' N') | (refine' tu_unpack3 ?Fr11 ?Nr11 ?Tr11 ?k4r11 ?k5r11 ?k6r11 ?_; (case Fr11 => k_asm); (case Nr11 => k_asm); (case Tr11 => k_extra "tu3_up"); (case k4r11 => exact rfl); (case k5r11 => exact rfl); (case k6r11 => exact rfl); k_whole; intro _ _ _ h' F' N')); (try k_sweep))
  k_with "binaryOp Mult int int" => (k_here; with_reducible refine mul_int ?_ (by assumption))
  k_with "binaryOp FloorDiv int int" => (k_here; (with_reducible refine floordiv_int ?h0r13 ?_ (Or.inl (PyProof.noPylong_of_log2 ?hlr13))); (case h0r13 => first | assumption | omega); (case hlr13 => assumption))
  k_with "inplaceOp FloorDiv int int" => (k_here; (with_reducible refine ifloordiv_int ?h0r14 ?_ (Or.inl (PyProof.noPylong_of_log2 ?hlr14))); (case h0r14 => first | assumption | omega); (case hlr14 => assumption))
  k_with "binaryOp Pow int int" => (k_here; (with_reducible refine pow_int_small ?ar15 ?br15 ?cr15 ?_); (case ar15 => omega); (case br15 => omega); (case cr15 => decide))
  k_with "call builtin:divmod" => (k_here; (with_reducible show wpAny _ _ (call (Value.builtin _) [Value.int _ _, Value.int _ _]) _ _ _); (refine divmod_N (by k_asm) (by k_asm) (by assumption) ?_ (Or.inl (PyProof.noPylong_of_log2 (by assumption)))); intro h' F' N'; (try k_sweep))
  k_with "exec Raise some none" => (k_here; refine raise44 rfl ?_)
  k_with "RaisePost" => (k_here; refine' raisePost ?Fr18 ?Xr18 ?Nr18 ?_; (case Fr18 => k_asm); (case Xr18 => k_asm); (case Nr18 => k_asm))
  k_with "call ref" => (k_here; (with_reducible show wpAny _ _ (call (Value.ref 44) [Value.str _ _]) _ _ _); k_dflt (refine' call_fault ?k1r19 ?k2r19 ?k3r19 ?k4r19 ?k5r19 ?kKr19 ?kdr19 ?_; (case k1r19 => k_asm); (case k2r19 => k_asm); (case k3r19 => k_asm); (case k4r19 => k_asm); (case k5r19 => k_asm); (case kKr19 => first | exact rfl | assumption); (case kdr19 => first | exact room3 (by assumption) rfl | exact room2 (by assumption) rfl | ktr_room); k_whole); intro h' e' t' d' tk' F' N' l1' l2' l3'; (try dsimp only); (try k_sweep))
  k_with "leaving ref" => (k_here; k_dflt (first | (refine' leave_fault ?Kr20 ?Fr20 ?Nr20 ?h1r20 ?h2r20 ?h3r20 sub_id ?_; (case Kr20 => assumption); (case Fr20 => k_asm); (case Nr20 => k_asm); (case h1r20 => assumption); (case h2r20 => assumption); (case h3r20 => assumption); k_whole; intro h' R' U') | (refine' leave_onS ?Kr20 ?Fr20 ?Rr20 ?Ur20 ?_; (case Rr20 => assumption); (case Fr20 => assumption); (case Kr20 => assumption); (case Ur20 => assumption); k_whole; intro h' R' K' U'; clear K')))
  k_with "execs cons" => (k_here; (with_reducible show wpAny _ _ _ _ _ (Shared.mk _ _ _ (_ + 1) _)); (with_reducible refine gen_toks (s := Shared.mk _ _ _ 0 _) ?_); intro tk'; (try dsimp only))
  k_with "execs nil" => (k_here; (with_reducible show wpAny _ _ _ _ _ (Shared.mk _ _ _ (_ + 1) _)); (with_reducible refine gen_toks (s := Shared.mk _ _ _ 0 _) ?_); intro tk'; (try dsimp only))
  k_with "newTuple" => (k_here; (with_reducible show wpAny _ _ (newTuple [Value.int _ _, Value.int _ _]) _ _ _); k_dflt (refine' newTuple_Tu ?Fr41 ?Nr41 ?_; (case Fr41 => k_asm); (case Nr41 => k_asm)); intro D' h' F' N' T' l1; (try k_lt l1); (try k_sweep))
  k_with "newTuple" => (k_here; (with_reducible show wpAny _ _ (newTuple [Value.ref _, Value.ref _]) _ _ _); k_dflt (refine' newTuple_TuR ?Fr42 ?Nr42 ?_; (case Fr42 => k_asm); (case Nr42 => k_asm)); intro D' h' F' N' T' l1; (try k_lt l1); (try k_sweep))
  k_with "call ref" => (k_here; (with_reducible show wpAny _ _ (call (Value.ref 54) [Value.int _ _]) _ _ _); k_dflt (refine' says_useI (count_digits_says _ _) ?k1r23 ?k2r23 ?k3r23 ?k4r23 ?k5r23 ?kKr23 ?kpr23 ?kdr23 ?kur23 ?_ (fun h => h.elim); (case k1r23 => k_asm); (case k2r23 => k_asm); (case k3r23 => k_asm); (case k4r23 => k_asm); (case k5r23 => k_asm); (case kKr23 => first | exact rfl | assumption); (case kpr23 => trivial); (case kdr23 => first | exact room3 (by assumption) rfl | exact room2 (by assumption) rfl | ktr_room); (case kur23 => first | exact room3 (by assumption) rfl | ktr_units)); intro r' tl' h' tk' F' N' P'; obtain ⟨t', e'⟩ := P'; subst e'; (try dsimp only); (try k_fold); (try k_sweep))
  k_with "call ref" => (k_here; (with_reducible show wpAny _ _ (call (Value.ref 61) [Value.int _ _, Value.int _ _]) _ _ _); k_dflt (refine' says_useT (strip_zeros_says _ _ _ _) ?k1r24 ?k2r24 ?k3r24 ?k4r24 ?k5r24 ?kKr24 ?kpr24 ?kdr24 ?kur24 (fun _ _ _ hs h => h.mono hs) ?_ (fun h => h.elim); (case k1r24 => k_asm); (case k2r24 => k_asm); (case k3r24 => k_asm); (case k4r24 => k_asm); (case k5r24 => k_asm); (case kKr24 => first | exact rfl | assumption); (case kpr24 => trivial); (case kdr24 => first | exact room3 (by assumption) rfl | exact room2 (by assumption) rfl | ktr_room); (case kur24 => first | exact room3 (by assumption) rfl | ktr_units)); intro r' tl' h' tk' F' N' P'; obtain ⟨x', e', T'⟩ := P'; subst e'; (try dsimp only); (try k_fold); (try k_sweep))
  k_with "call ref" => (k_here; (with_reducible show wpAny _ _ (call (Value.ref 68) [Value.int _ _, Value.int _ _, Value.int _ _]) _ _ _); k_dflt (refine' says_useT (round_digits_says _ _ _ _ _ _ (by first | assumption | omega) (by first | assumption | omega)) ?k1r25 ?k2r25 ?k3r25 ?k4r25 ?k5r25 ?kKr25 ?kpr25 ?kdr25 ?kur25 (fun _ _ _ hs h => h.mono hs) ?_ (fun h => h.elim); (case k1r25 => k_asm); (case k2r25 => k_asm); (case k3r25 => k_asm); (case k4r25 => k_asm); (case k5r25 => k_asm); (case kKr25 => first | exact rfl | assumption); (case kpr25 => trivial); (case kdr25 => first | exact room3 (by assumption) rfl | exact room2 (by assumption) rfl | ktr_room); (case kur25 => first | exact room3 (by assumption) rfl | ktr_units)); intro r' tl' h' tk' F' N' P'; obtain ⟨x', e', T'⟩ := P'; subst e'; (try dsimp only); (try k_fold); (try k_sweep))
  k_with "call ref" => (k_here; (with_reducible show wpAny _ _ (call (Value.ref 75) [Value.int _ _, Value.int _ _, Value.int _ _, Value.int _ _]) _ _ _); k_dflt (refine' says_useT (round_real_says _ _ _ _ _ _ _ _ (by first | assumption | omega | exact expP_cd (by assumption) (by assumption) (by assumption) (by assumption) (tooG_lead2 (by assumption) (by assumption))) (by first | assumption | omega)) ?k1r26 ?k2r26 ?k3r26 ?k4r26 ?k5r26 ?kKr26 ?kpr26 ?kdr26 ?kur26 (fun _ _ _ hs h => h.mono hs) ?_ ?_; (case k1r26 => k_asm); (case k2r26 => k_asm); (case k3r26 => k_asm); (case k4r26 => k_asm); (case k5r26 => k_asm); (case kKr26 => first | exact rfl | assumption); (case kpr26 => trivial); (case kdr26 => first | exact room3 (by assumption) rfl | exact room2 (by assumption) rfl | ktr_room); (case kur26 => first | exact room3 (by assumption) rfl | ktr_units)); (intro r' tl' h' tk' F' N' P'; obtain ⟨x', a', b', e', T', O'⟩ := P'; subst e'; (try dsimp only); (try k_fold); (try k_sweep)); rotate_left; (intro c' e' t' vs' g' h' tk' F' R' U'; (try dsimp only); (try k_fold)); rotate_left)
  k_with "call ref" => (k_here; (with_reducible show wpAny _ _ (call (Value.ref 82) [Value.ref _, Value.ref _]) _ _ _); k_dflt (refine' says_useT (exact_mul_says _ _ _ _ _ _ ?hmr27) ?k1r27 ?k2r27 ?k3r27 ?k4r27 ?k5r27 ?kKr27 ?kpr27 ?kdr27 ?kur27 (fun _ _ _ hs h => h.mono hs) ?_ (fun h => h.elim); (case k1r27 => k_asm); (case k2r27 => k_asm); (case k3r27 => k_asm); (case k4r27 => k_asm); (case k5r27 => k_asm); (case kKr27 => first | exact rfl | assumption); (case kpr27 => exact ⟨by k_extra "tu_up", by k_extra "tu_up"⟩); (case kdr27 => first | exact room3 (by assumption) rfl | exact room2 (by assumption) rfl | ktr_room); (case kur27 => first | exact room3 (by assumption) rfl | ktr_units); (case hmr27 => assumption)); intro r' tl' h' tk' F' N' P'; obtain ⟨x', e', T'⟩ := P'; subst e'; (try dsimp only); (try k_fold); (try k_sweep))
  k_with "call ref" => (k_here; (with_reducible show wpAny _ _ (call (Value.ref 89) [Value.ref _]) _ _ _); k_dflt (refine' says_useI (lead_of_says _ _ _) ?k1r28 ?k2r28 ?k3r28 ?k4r28 ?k5r28 ?kKr28 ?kpr28 ?kdr28 ?kur28 ?_ (fun h => h.elim); (case k1r28 => k_asm); (case k2r28 => k_asm); (case k3r28 => k_asm); (case k4r28 => k_asm); (case k5r28 => k_asm); (case kKr28 => first | exact rfl | assumption); (case kpr28 => k_extra "tu_up"); (case kdr28 => first | exact room3 (by assumption) rfl | exact room2 (by assumption) rfl | ktr_room); (case kur28 => first | exact room3 (by assumption) rfl | ktr_units)); intro r' tl' h' tk' F' N' P'; obtain ⟨t', e'⟩ := P'; subst e'; (try dsimp only); (try k_fold); (try k_sweep))
  k_with "call ref" => (k_here; (with_reducible show wpAny _ _ (call (Value.ref 96) [Value.ref _, Value.int _ _]) _ _ _); k_dflt (refine' says_useI (places_for_says _ _ _ _ _) ?k1r29 ?k2r29 ?k3r29 ?k4r29 ?k5r29 ?kKr29 ?kpr29 ?kdr29 ?kur29 ?_ (fun h => h.elim); (case k1r29 => k_asm); (case k2r29 => k_asm); (case k3r29 => k_asm); (case k4r29 => k_asm); (case k5r29 => k_asm); (case kKr29 => first | exact rfl | assumption); (case kpr29 => k_extra "tu_up"); (case kdr29 => first | exact room3 (by assumption) rfl | exact room2 (by assumption) rfl | ktr_room); (case kur29 => first | exact room3 (by assumption) rfl | ktr_units)); intro r' tl' h' tk' F' N' P'; obtain ⟨t', e'⟩ := P'; subst e'; (try dsimp only); (try k_fold); (try k_sweep))
  k_with "call ref" => (k_here; (with_reducible show wpAny _ _ (call (Value.ref 103) [Value.ref _, Value.int _ _]) _ _ _); k_dflt (refine' says_useI (fixed_says _ _ _ _ _ ?har30 ?h1r30 ?h2r30) ?k1r30 ?k2r30 ?k3r30 ?k4r30 ?k5r30 ?kKr30 ?kpr30 ?kdr30 ?kur30 ?_ (fun h => h.elim); (case k1r30 => k_asm); (case k2r30 => k_asm); (case k3r30 => k_asm); (case k4r30 => k_asm); (case k5r30 => k_asm); (case kKr30 => first | exact rfl | assumption); (case kpr30 => k_extra "tu_up"); (case kdr30 => first | exact room3 (by assumption) rfl | exact room2 (by assumption) rfl | ktr_room); (case kur30 => first | exact room3 (by assumption) rfl | ktr_units); (case har30 => assumption); (case h1r30 => first | assumption | omega); (case h2r30 => first | assumption | omega)); intro r' tl' h' tk' F' N' P'; obtain ⟨t', e'⟩ := P'; subst e'; (try dsimp only); (try k_fold); (try k_sweep))
  k_with "call ref" => (k_here; (with_reducible show wpAny _ _ (call (Value.ref 152) [Value.ref _, Value.int _ _]) _ _ _); k_dflt (refine' says_useI (is_too_great_says _ _ _ _ _) ?k1r31 ?k2r31 ?k3r31 ?k4r31 ?k5r31 ?kKr31 ?kpr31 ?kdr31 ?kur31 ?_ (fun h => h.elim); (case k1r31 => k_asm); (case k2r31 => k_asm); (case k3r31 => k_asm); (case k4r31 => k_asm); (case k5r31 => k_asm); (case kKr31 => first | exact rfl | assumption); (case kpr31 => k_extra "tu_up"); (case kdr31 => first | exact room3 (by assumption) rfl | exact room2 (by assumption) rfl | ktr_room); (case kur31 => first | exact room3 (by assumption) rfl | ktr_units)); intro r' tl' h' tk' F' N' P'; subst P'; (try dsimp only); (try k_fold); (try k_sweep))
  k_with "call ref" => (k_here; (with_reducible show wpAny _ _ (call (Value.ref 124) [Value.int _ _, Value.int _ _, Value.int _ _]) _ _ _); k_dflt (refine' says_useI (inverse_series_says _ _ _ _ _ ?h2r35 ?h3r35 ?hp0r35 ?hpr35) ?k1r35 ?k2r35 ?k3r35 ?k4r35 ?k5r35 ?kKr35 ?kpr35 ?kdr35 ?kur35 ?_ (fun h => h.elim); (case k1r35 => k_asm); (case k2r35 => k_asm); (case k3r35 => k_asm); (case k4r35 => k_asm); (case k5r35 => k_asm); (case kKr35 => first | exact rfl | assumption); (case kpr35 => trivial); (case kdr35 => first | exact room3 (by assumption) rfl | exact room2 (by assumption) rfl | ktr_room); (case kur35 => first | exact room3 (by assumption) rfl | ktr_units); (case h2r35 => first | assumption | omega); (case h3r35 => first | assumption | omega); (case hp0r35 => first | assumption | omega); (case hpr35 => first | assumption | omega)); intro r' tl' h' tk' F' N' P'; obtain ⟨t', e'⟩ := P'; subst e'; (try dsimp only); (try k_fold); (try k_sweep))
  k_with "call ref" => (k_here; (with_reducible show wpAny _ _ (call (Value.ref 131) [Value.int _ _]) _ _ _); k_dflt (refine' says_useI (log_of_ten_says _ _ ?hp0r36 ?hpr36) ?k1r36 ?k2r36 ?k3r36 ?k4r36 ?k5r36 ?kKr36 ?kpr36 ?kdr36 ?kur36 ?_ (fun h => h.elim); (case k1r36 => k_asm); (case k2r36 => k_asm); (case k3r36 => k_asm); (case k4r36 => k_asm); (case k5r36 => k_asm); (case kKr36 => first | exact rfl | assumption); (case kpr36 => trivial); (case kdr36 => first | exact room3 (by assumption) rfl | exact room2 (by assumption) rfl | ktr_room); (case kur36 => first | exact room3 (by assumption) rfl | ktr_units); (case hp0r36 => first | assumption | omega); (case hpr36 => first | assumption | omega)); intro r' tl' h' tk' F' N' P'; obtain ⟨t', e'⟩ := P'; subst e'; (try dsimp only); (try k_fold); (try k_sweep))
  k_with "call ref" => (k_here; (with_reducible show wpAny _ _ (call (Value.ref 159) [Value.ref _, Value.int _ _, Value.int _ _]) _ _ _); k_dflt (refine' says_useT (exp_real_says _ _ _ _ _ _ _ ?har39 ?hd0r39 ?hd1r39 ?hb0r39 ?hb1r39 ?htr39) ?k1r39 ?k2r39 ?k3r39 ?k4r39 ?k5r39 ?kKr39 ?kpr39 ?kdr39 ?kur39 (fun _ _ _ hs h => h.mono hs) ?_ ?_; (case k1r39 => k_asm); (case k2r39 => k_asm); (case k3r39 => k_asm); (case k4r39 => k_asm); (case k5r39 => k_asm); (case kKr39 => first | exact rfl | assumption); (case kpr39 => k_extra "tu_up"); (case kdr39 => first | exact room3 (by assumption) rfl | exact room2 (by assumption) rfl | ktr_room); (case kur39 => first | exact room3 (by assumption) rfl | ktr_units); (case har39 => first | assumption | omega); (case hd0r39 => first | assumption | omega); (case hd1r39 => first | assumption | omega); (case hb0r39 => first | assumption | omega); (case hb1r39 => first | assumption | omega); (case htr39 => first | assumption | omega)); (intro r' tl' h' tk' F' N' P'; obtain ⟨x', a', b', e', T', O'⟩ := P'; subst e'; (try dsimp only); (try k_fold); (try k_sweep)); rotate_left; (intro c' e' t' vs' g' h' tk' F' R' U'; (try dsimp only); (try k_fold)); rotate_left)
  k_with "call ref" => (k_here; (with_reducible show wpAny _ _ (call (Value.ref 166) [Value.ref _, Value.int _ _]) _ _ _); k_dflt (refine' says_useT (log_parts_says _ _ _ _ _ ?h0r40 ?har40 ?hd0r40 ?hd1r40 ?hlr40) ?k1r40 ?k2r40 ?k3r40 ?k4r40 ?k5r40 ?kKr40 ?kpr40 ?kdr40 ?kur40 (fun _ _ _ hs h => h.mono hs) ?_ (fun h => h.elim); (case k1r40 => k_asm); (case k2r40 => k_asm); (case k3r40 => k_asm); (case k4r40 => k_asm); (case k5r40 => k_asm); (case kKr40 => first | exact rfl | assumption); (case kpr40 => k_extra "tu_up"); (case kdr40 => first | exact room3 (by assumption) rfl | exact room2 (by assumption) rfl | ktr_room); (case kur40 => first | exact room3 (by assumption) rfl | ktr_units); (case h0r40 => first | assumption | omega); (case har40 => first | assumption | omega); (case hd0r40 => first | assumption | omega); (case hd1r40 => first | assumption | omega); (case hlr40 => first | assumption | omega)); intro r' tl' h' tk' F' N' P'; obtain ⟨x', e', T'⟩ := P'; subst e'; (try dsimp only); (try k_fold); (try k_sweep))
  exact True.intro
theorem strip_spec (f : Nat) : ∀ m e : Int, m ≠ 0 → ∃ j : Nat, (strip f m e).2 = e + j ∧ (strip f m e).1 * 10 ^ j = m := by
  induction f with
  | zero => intro m e h; exact ⟨0, by show e = _; (first | lia | omega), by show m * 10 ^ 0 = m; rw [Int.pow_zero, Int.mul_one]⟩
  | succ f ih =>
    intro m e h
    show ∃ j : Nat, (if m.fmod 10 = 0 then strip f (m.fdiv 10) (e + 1) else (m, e)).2 = _ ∧ (if m.fmod 10 = 0 then strip f (m.fdiv 10) (e + 1) else (m, e)).1 * _ = _
    by_cases c : m.fmod 10 = 0
    · rw [if_pos c]
      have ⟨s1, s2⟩ := strip_small h c
      obtain ⟨j, e1, e2⟩ := ih (m.fdiv 10) (e + 1) s1
      refine ⟨j + 1, by (first | lia | omega), ?_⟩
      rw [Int.pow_succ, ← Int.mul_assoc, e2]
      rw [fdiv_pos_facts _ _ (by decide)]; rw [fmod_pos_facts _ _ (by decide)] at c
      (first | lia | omega)
    · rw [if_neg c]
      exact ⟨0, by show e = _; (first | lia | omega), by show m * 10 ^ 0 = m; rw [Int.pow_zero, Int.mul_one]⟩
theorem stripZ_spec {m e : Int} (h : m ≠ 0) : ∃ j : Nat, (stripZ m e).2 = e + j ∧ (stripZ m e).1.natAbs * 10 ^ j = m.natAbs := by
  unfold stripZ; rw [if_neg h]
  obtain ⟨j, e1, e2⟩ := strip_spec m.natAbs m e h
  refine ⟨j, e1, ?_⟩
  have := congrArg Int.natAbs e2
  rw [Int.natAbs_mul, Int.natAbs_pow] at this
  exact this
/-- rounding keeps the first digit's place, or lifts it by one -/
theorem rd_spec {m e d : Int} (hm : m ≠ 0) (hd : 1 ≤ d) : ∃ j : Nat, (rd m e d).2 = e + j ∧ (rd m e d).1.natAbs * 10 ^ j ≤ 10 ^ cd m.natAbs ∧ 10 ^ cd m.natAbs ≤ 10 * ((rd m e d).1.natAbs * 10 ^ j) ∧ (rd m e d).1.natAbs ≤ 10 ^ d.toNat := by
  have h1 := lt_pow_cd m.natAbs
  have h2 := pow_cd_le m.natAbs (by omega)
  unfold rd
  by_cases c : 0 < (cd m.natAbs : Int) - d
  · rw [if_pos c]
    obtain ⟨n, hn⟩ : ∃ n : Nat, d = n := ⟨d.toNat, by omega⟩
    subst hn
    obtain ⟨r, hr⟩ : ∃ r, cd m.natAbs = n + r := ⟨cd m.natAbs - n, by omega⟩
    have hr0 : 0 < r := by omega
    rw [hr] at h1 h2 ⊢
    rw [show (((n + r : Nat) : Int) - n).toNat = r from by omega, show (n : Int).toNat = n from by omega]
    have ea : (if m < 0 then -m else m) = (m.natAbs : Int) := by split <;> omega
    rw [ea]
    have hk : ∃ k : Nat, rdKeep (m.natAbs : Int) (10 ^ r) = k ∧ k ≤ 10 ^ n ∧ 10 ^ n ≤ 10 * k := by
      have hq : (m.natAbs : Int).fdiv (10 ^ r) = ((m.natAbs / 10 ^ r : Nat) : Int) := by
        rw [fdiv_pos_facts _ _ (Int.pow_pos (by decide))]; push_cast; rfl
      have q1 : m.natAbs / 10 ^ r < 10 ^ n := by rw [Nat.div_lt_iff_lt_mul (Nat.pow_pos (by decide)), ← Nat.pow_add]; exact h1
      have q2 : 10 ^ n ≤ 10 * (m.natAbs / 10 ^ r) := by
        obtain ⟨n', rfl⟩ : ∃ n', n = n' + 1 := ⟨n - 1, by omega⟩
        rw [Nat.pow_succ, Nat.mul_comm]
        refine Nat.mul_le_mul_left 10 ?_
        rw [Nat.le_div_iff_mul_le (Nat.pow_pos (by decide)), ← Nat.pow_add]
        rw [show n' + 1 + r = (n' + r) + 1 from by omega, Nat.pow_succ] at h2
        exact Nat.le_of_mul_le_mul_right h2 (by decide)
      unfold rdKeep
      rw [hq]
      split
      · exact ⟨m.natAbs / 10 ^ r + 1, by push_cast; rfl, by omega, by omega⟩
      · exact ⟨m.natAbs / 10 ^ r, rfl, by omega, by omega⟩
    obtain ⟨k, ek, k1, k2⟩ := hk
    rw [ek]
    have hp := Nat.pow_pos (n := n) (show 0 < 10 by decide)
    have hw : ∃ w : Int, (if 0 < m then (k : Int) else -(k : Int)) = w ∧ w.natAbs = k := by split <;> exact ⟨_, rfl, by omega⟩
    obtain ⟨v, ev, hv⟩ := hw
    rw [ev]
    obtain ⟨j, e1, e2⟩ := stripZ_spec (m := v) (e := e + (((n + r : Nat) : Int) - n)) (by omega)
    rw [hv] at e2
    refine ⟨j + r, by rw [e1]; omega, ?_, ?_, ?_⟩
    · rw [Nat.pow_add, ← Nat.mul_assoc, e2, Nat.pow_add]; exact Nat.mul_le_mul_right _ k1
    · rw [Nat.pow_add 10 j r, Nat.pow_add, ← Nat.mul_assoc _ (10 ^ j), e2, ← Nat.mul_assoc]; exact Nat.mul_le_mul_right _ k2
    · have := Nat.le_mul_of_pos_right (stripZ v (e + (((n + r : Nat) : Int) - n))).1.natAbs (Nat.pow_pos (n := j) (show 0 < 10 by decide))
      omega
  · rw [if_neg c]
    obtain ⟨j, e1, e2⟩ := stripZ_spec (m := m) (e := e) hm
    refine ⟨j, e1, by omega, by omega, ?_⟩
    have h3 := Nat.pow_le_pow_right (n := 10) (by decide) (show cd m.natAbs ≤ d.toNat by omega)
    have := Nat.le_mul_of_pos_right (stripZ m e).1.natAbs (Nat.pow_pos (n := j) (show 0 < 10 by decide))
    omega
theorem rd_zero {e d : Int} (hd : 1 ≤ d) : rd 0 e d = (0, 0) := by
  unfold rd; rw [if_neg (by rw [show (0 : Int).natAbs = 0 from rfl, cd_zero]; (first | lia | omega))]; unfold stripZ; rw [if_pos rfl]
/-- the logarithm, rounded as the power wants it -/
def logN (a b d : Int) : Int := (logP a b (d + 10)).1 * lnT (logP a b (d + 10)).2.2 + (logP a b (d + 10)).2.1
def logG (a b d : Int) : Int × Int := rd (logN a b d) (-(logP a b (d + 10)).2.2) (2 * d + 10)
def realR (a b c e d top : Int) : Option (Int × Int) :=
  if a < 0 ∨ (a = 0 ∧ c ≤ 0) then none
  else if a = 0 then some (0, 0)
  else if c = 0 then some (1, 0)
  else if (logG a b d).1 = 0 then some (1, 0)
  else expR ((logG a b d).1 * c) ((logG a b d).2 + e) d top
theorem sizeF_bounds {a : Int} : (cd a.natAbs : Int) ≤ sizeF a ∧ sizeF a ≤ (cd a.natAbs : Int) + 1 := by
  unfold sizeF; split <;> (first | lia | omega)
theorem logP_places {a b d : Int} : (logP a b d).2.2 = placesF a b d := by unfold logP; split <;> rfl
theorem mul_abs {k l K : Int} (hl : 0 ≤ l) (h1 : k ≤ K) (h2 : -K ≤ k) : k * l ≤ K * l ∧ -(K * l) ≤ k * l := by
  refine ⟨Int.mul_le_mul_of_nonneg_right h1 hl, ?_⟩
  have := Int.mul_le_mul_of_nonneg_right h2 hl
  rw [Int.neg_mul] at this; exact this
theorem logP_bounds {a b d K : Int} (hk1 : b + (cd a.natAbs : Int) ≤ K) (hk2 : -K ≤ b + (cd a.natAbs : Int) - 1) (hK : 0 ≤ K) (hp : 10 ≤ placesF a b d) (hp3 : placesF a b d ≤ 300) :
    (logP a b d).1 ≤ K ∧ -K ≤ (logP a b d).1 ∧ (logP a b d).1 * lnT (placesF a b d) + (logP a b d).2.1 ≤ (3 * K + 3) * 10 ^ (placesF a b d).toNat ∧ -((3 * K + 3) * 10 ^ (placesF a b d).toNat) ≤ (logP a b d).1 * lnT (placesF a b d) + (logP a b d).2.1 := by
  obtain ⟨l1, l2, l3⟩ := ln_facts hp hp3
  have hT : (0 : Int) < 10 ^ (placesF a b d).toNat := Int.pow_pos (by decide)
  have hs := sizeF_bounds (a := a)
  have c1 : (logP a b d).1 ≤ K ∧ -K ≤ (logP a b d).1 := by unfold logP; split <;> (constructor <;> (dsimp only; (first | lia | omega)))
  have c2 : 5 * (logP a b d).2.1 ≤ 12 * 10 ^ (placesF a b d).toNat ∧ -(12 * 10 ^ (placesF a b d).toNat) ≤ 5 * (logP a b d).2.1 := by
    unfold logP
    by_cases h0 : 0 < a
    · rw [if_pos h0]
      have := logTot_bounds (log_okF (p := placesF a b d) h0)
      dsimp only
      split <;> (first | lia | omega)
    · rw [if_neg h0]; dsimp only; (first | lia | omega)
  refine ⟨c1.1, c1.2, ?_⟩
  have := mul_abs (Int.le_of_lt l1) c1.1 c1.2
  have h3 : K * (1000 * lnT (placesF a b d)) ≤ K * (2304 * 10 ^ (placesF a b d).toNat) := Int.mul_le_mul_of_nonneg_left l2 hK
  have e1 : K * (1000 * lnT (placesF a b d)) = 1000 * (K * lnT (placesF a b d)) := Int.mul_left_comm _ _ _
  have e2 : K * (2304 * (10 : Int) ^ (placesF a b d).toNat) = 2304 * (K * 10 ^ (placesF a b d).toNat) := Int.mul_left_comm _ _ _
  have e3 : (3 * K + 3) * (10 : Int) ^ (placesF a b d).toNat = 3 * (K * 10 ^ (placesF a b d).toNat) + 3 * 10 ^ (placesF a b d).toNat := by rw [Int.add_mul, Int.mul_assoc]
  have h4 : 0 ≤ K * (10 : Int) ^ (placesF a b d).toNat := Int.mul_nonneg hK (by (first | lia | omega))
  rw [e3]
  generalize (logP a b d).1 * lnT (placesF a b d) = x at *
  generalize K * lnT (placesF a b d) = y at *
  generalize K * (10 : Int) ^ (placesF a b d).toNat = z at *
  generalize (10 : Int) ^ (placesF a b d).toNat = T at *
  (first | lia | omega)
theorem cd_of_scaled {x T' : Int} {p : Nat} {j : Nat} (h1 : x < 10 ^ j * 10 ^ p) (h2 : -(10 ^ j * 10 ^ p) < x) : cd x.natAbs ≤ j + p := by
  refine cd_le ?_
  rw [Nat.pow_add]
  have e1 : ((10 ^ j * 10 ^ p : Nat) : Int) = 10 ^ j * 10 ^ p := by push_cast; rfl
  rw [← e1] at h1 h2
  omega
/-- all that the power's way wants of the logarithm -/
theorem logG_facts {a b c e d : Int} (ha : cd a.natAbs ≤ 10) (hc : cd c.natAbs ≤ 10) (hb0 : -50 ≤ b) (hb1 : b ≤ 50) (he0 : -50 ≤ e) (he1 : e ≤ 50) (hd0 : 1 ≤ d) (hd1 : d ≤ 20) :
    0 ≤ (logP a b (d + 10)).2.2 ∧ (logP a b (d + 10)).2.2 ≤ 300 ∧ IntMulOk (logP a b (d + 10)).1 (lnT (logP a b (d + 10)).2.2) ∧ cd (logN a b d).natAbs ≤ 2000 ∧
    cd ((logG a b d).1 * c).natAbs ≤ 100 ∧ IntMulOk (logG a b d).1 c ∧ -500 ≤ (logG a b d).2 + e ∧ (logG a b d).2 + e ≤ 500 := by
  have hl : leadO a b ≤ 60 := by unfold leadO; omega
  obtain ⟨q1, q2⟩ := places_bounds (a := a) (b := b) (d := d + 10) (by omega) (by omega) (by omega) hl (by decide)
  obtain ⟨b1, b2, b3, b4⟩ := logP_bounds (a := a) (b := b) (d := d + 10) (K := 60) (by omega) (by omega) (by decide) q1 (by omega)
  obtain ⟨l1, l2, l3⟩ := ln_facts (p := placesF a b (d + 10)) q1 (by omega)
  have hT : (0 : Int) < 10 ^ (placesF a b (d + 10)).toNat := Int.pow_pos (by decide)
  unfold logG logN
  rw [logP_places]
  generalize hp : placesF a b (d + 10) = p at *
  have hcn : cd ((logP a b (d + 10)).1 * lnT p + (logP a b (d + 10)).2.1).natAbs ≤ 3 + p.toNat := cd_of_scaled (T' := 0) (by omega) (by omega)
  have hk : cd (logP a b (d + 10)).1.natAbs ≤ 2 := cd_le (by omega)
  generalize hx : (logP a b (d + 10)).1 * lnT p + (logP a b (d + 10)).2.1 = x at *
  have hr : cd (rd x (-p) (2 * d + 10)).1.natAbs ≤ 51 ∧ -300 ≤ (rd x (-p) (2 * d + 10)).2 ∧ (rd x (-p) (2 * d + 10)).2 ≤ 300 := by
    by_cases hx0 : x = 0
    · rw [hx0, rd_zero (by omega)]; refine ⟨?_, by decide, by decide⟩; show cd 0 ≤ 51; rw [cd_zero]; omega
    · obtain ⟨j, e1, e2, e3, e4⟩ := rd_spec (m := x) (e := -p) (d := 2 * d + 10) hx0 (by omega)
      have hj : j ≤ 3 + p.toNat := by
        have h0 : 0 < (rd x (-p) (2 * d + 10)).1.natAbs := by
          have := Nat.pow_pos (n := cd x.natAbs) (show 0 < 10 by decide)
          rcases Nat.eq_zero_or_pos (rd x (-p) (2 * d + 10)).1.natAbs with h | h
          · rw [h] at e3; omega
          · exact h
        have h3 := Nat.le_mul_of_pos_left (10 ^ j) h0
        exact Nat.le_trans ((Nat.pow_le_pow_iff_right (a := 10) (by decide)).mp (Nat.le_trans h3 e2)) hcn
      refine ⟨?_, by omega, by omega⟩
      refine cd_le (Nat.lt_of_le_of_lt e4 (Nat.pow_lt_pow_right (by decide) (by omega)))
  obtain ⟨r1, r2, r3⟩ := hr
  refine ⟨by omega, by omega, mulOk_cd hk l3 (by decide), by omega, ?_, mulOk_cd r1 hc (by decide), by omega, by omega⟩
  rw [Int.natAbs_mul]; exact Nat.le_trans (cd_mul r1 hc) (by decide)
theorem check_neg_says (x : Addr) (a b : Int) (h : a ≤ 0) : Says w mean mg mb 6 173 [.ref x] (fun l => Tu l x a b) (fun _ _ => False) True := by
  unfold Says
  intro dp un gd cn cs ad ccd outer A₀ base h₀ L mm news s Q E B F X N T hk hpre hd hu hret hexc
  refine wpAny_call ?_
  k_dflt cell_enter
  k_steps
  all_goals exact hexc trivial _ _ _ _ _ _ (by assumption) (raisedS_mono (by assumption) (by k_extra "sub_up")) (by assumption)
theorem ln31 : True := by
  k_with "call ref" => (k_here; (with_reducible show wpAny _ _ (call (Value.ref 173) [Value.ref _]) _ _ _); k_dflt (refine' says_useI (check_neg_says _ _ _ ?h0r43) ?k1r43 ?k2r43 ?k3r43 ?k4r43 ?k5r43 ?kKr43 ?kpr43 ?kdr43 ?kur43 ?_ ?_; (case k1r43 => k_asm); (case k2r43 => k_asm); (case k3r43 => k_asm); (case k4r43 => k_asm); (case k5r43 => k_asm); (case kKr43 => first | exact rfl | assumption); (case kpr43 => k_extra "tu_up"); (case kdr43 => first | exact room3 (by assumption) rfl | exact room2 (by assumption) rfl | ktr_room); (case kur43 => first | exact room3 (by assumption) rfl | ktr_units); (case h0r43 => first | assumption | omega)); (intro r' tl' h' tk' F' N' P'; exact P'.elim); (intro c' e' t' vs' g' h' tk' F' R' U'; (try dsimp only); (try k_fold)))
  exact True.intro
theorem log_neg_says (x : Addr) (a b d top : Int) (t1 t2 : Tok) (h : a ≤ 0) : Says w mean mg mb 8 180 [.ref x, .int d t1, .int top t2] (fun l => Tu l x a b) (fun _ _ => False) True := by
  unfold Says
  intro dp un gd cn cs ad ccd outer A₀ base h₀ L mm news s Q E B F X N T hk hpre hd hu hret hexc
  refine wpAny_call ?_
  k_dflt cell_enter
  k_steps
  all_goals exact hexc trivial _ _ _ _ _ _ (by assumption) (raisedS_mono (by assumption) (by k_extra "sub_up")) (by assumption)
theorem log10_neg_says (x : Addr) (a b d top : Int) (t1 t2 : Tok) (h : a ≤ 0) : Says w mean mg mb 8 187 [.ref x, .int d t1, .int top t2] (fun l => Tu l x a b) (fun _ _ => False) True := by
  unfold Says
  intro dp un gd cn cs ad ccd outer A₀ base h₀ L mm news s Q E B F X N T hk hpre hd hu hret hexc
  refine wpAny_call ?_
  k_dflt cell_enter
  k_steps
  all_goals exact hexc trivial _ _ _ _ _ _ (by assumption) (raisedS_mono (by assumption) (by k_extra "sub_up")) (by assumption)
theorem ln32 : True := by
  k_with "call ref" => (k_here; (with_reducible show wpAny _ _ (call (Value.ref 180) [Value.ref _, Value.int _ _, Value.int _ _]) _ _ _); k_dflt (refine' says_useI (log_neg_says _ _ _ _ _ _ _ ?h0r44) ?k1r44 ?k2r44 ?k3r44 ?k4r44 ?k5r44 ?kKr44 ?kpr44 ?kdr44 ?kur44 ?_ ?_; (case k1r44 => k_asm); (case k2r44 => k_asm); (case k3r44 => k_asm); (case k4r44 => k_asm); (case k5r44 => k_asm); (case kKr44 => first | exact rfl | assumption); (case kpr44 => k_extra "tu_up"); (case kdr44 => first | exact room3 (by assumption) rfl | exact room2 (by assumption) rfl | ktr_room); (case kur44 => first | exact room3 (by assumption) rfl | ktr_units); (case h0r44 => first | assumption | omega)); (intro r' tl' h' tk' F' N' P'; exact P'.elim); (intro c' e' t' vs' g' h' tk' F' R' U'; (try dsimp only); (try k_fold)))
  exact True.intro
theorem ln33 : True := by
  k_with "call ref" => (k_here; (with_reducible show wpAny _ _ (call (Value.ref 187) [Value.ref _, Value.int _ _, Value.int _ _]) _ _ _); k_dflt (refine' says_useI (log10_neg_says _ _ _ _ _ _ _ ?h0r45) ?k1r45 ?k2r45 ?k3r45 ?k4r45 ?k5r45 ?kKr45 ?kpr45 ?kdr45 ?kur45 ?_ ?_; (case k1r45 => k_asm); (case k2r45 => k_asm); (case k3r45 => k_asm); (case k4r45 => k_asm); (case k5r45 => k_asm); (case kKr45 => first | exact rfl | assumption); (case kpr45 => k_extra "tu_up"); (case kdr45 => first | exact room3 (by assumption) rfl | exact room2 (by assumption) rfl | ktr_room); (case kur45 => first | exact room3 (by assumption) rfl | ktr_units); (case h0r45 => first | assumption | omega)); (intro r' tl' h' tk' F' N' P'; exact P'.elim); (intro c' e' t' vs' g' h' tk' F' R' U'; (try dsimp only); (try k_fold)))
  exact True.intro
theorem realR_bad1 {a b c e d top : Int} (h : a < 0) : realR a b c e d top = none := by unfold realR; rw [if_pos (.inl h)]
theorem realR_bad2 {a b c e d top : Int} (h : a = 0) (h' : c ≤ 0) : realR a b c e d top = none := by unfold realR; rw [if_pos (.inr ⟨h, h'⟩)]
theorem realR_zero {a b c e d top : Int} (h : a = 0) (h' : ¬ c ≤ 0) : realR a b c e d top = some (0, 0) := by
  unfold realR; rw [if_neg (fun x => x.elim (by (first | lia | omega)) (fun y => h' y.2)), if_pos h]
theorem realR_one {a b c e d top : Int} (h0 : ¬ a < 0) (h : a ≠ 0) (h' : c = 0) : realR a b c e d top = some (1, 0) := by
  unfold realR; rw [if_neg (by (first | lia | omega)), if_neg h, if_pos h']
theorem realR_flat {a b c e d top : Int} (h0 : ¬ a < 0) (h : a ≠ 0) (h' : c ≠ 0) (hg : (logG a b d).1 = 0) : realR a b c e d top = some (1, 0) := by
  unfold realR; rw [if_neg (by (first | lia | omega)), if_neg h, if_neg h', if_pos hg]
theorem realR_go {a b c e d top : Int} (h0 : ¬ a < 0) (h : a ≠ 0) (h' : c ≠ 0) (hg : (logG a b d).1 ≠ 0) : realR a b c e d top = expR ((logG a b d).1 * c) ((logG a b d).2 + e) d top := by
  unfold realR; rw [if_neg (by (first | lia | omega)), if_neg h, if_neg h', if_neg hg]
theorem real_says (x y : Addr) (a b c e d top : Int) (t1 t2 : Tok) (ha : cd a.natAbs ≤ 10) (hc : cd c.natAbs ≤ 10) (hb0 : -50 ≤ b) (hb1 : b ≤ 50) (he0 : -50 ≤ e) (he1 : e ≤ 50) (hd0 : 1 ≤ d) (hd1 : d ≤ 20) (ht : cd top.natAbs ≤ 10) :
    Says w mean mg mb 10 194 [.ref x, .ref y, .int d t1, .int top t2] (fun l => Tu l x a b ∧ Tu l y c e) (OptOut (realR a b c e d top)) (realR a b c e d top = none) := by
  unfold Says
  intro dp un gd cn cs ad ccd outer A₀ base h₀ L mm news s Q E B F X N T hk hpre hd hu hret hexc
  obtain ⟨hT1, hT2⟩ := hpre
  obtain ⟨f1, f2, f3, f4, f5, f6, f7, f8⟩ := logG_facts (e := e) ha hc hb0 hb1 he0 he1 hd0 hd1
  unfold logN at f4; unfold logG logN at f5 f6 f7 f8
  have ha' : cd a.natAbs ≤ 100 := by omega
  have hl : leadO a b ≤ 100 := by unfold leadO; omega
  have h2d : IntMulOk 2 d := mulOk_cd (j := 1) (k := 3) (cd_le (by decide)) (cd_le (by omega)) (by decide)
  refine wpAny_call ?_
  k_dflt cell_enter
  k_steps
  all_goals first
    | (exfalso; omega)
    | exact hret _ _ _ _ (by k_asm) (by k_asm) (by k_extra "sub_up") (OptOut.of (by k_extra "tu_up") (realR_zero (by assumption) (by assumption)))
    | exact hret _ _ _ _ (by k_asm) (by k_asm) (by k_extra "sub_up") (OptOut.of (by k_extra "tu_up") (realR_zero (by assumption) (by omega)))
    | exact hret _ _ _ _ (by k_asm) (by k_asm) (by k_extra "sub_up") (OptOut.of (by k_extra "tu_up") (realR_one (by assumption) (by assumption) (by assumption)))
    | exact hret _ _ _ _ (by k_asm) (by k_asm) (by k_extra "sub_up") (OptOut.of (by k_extra "tu_up") (realR_flat (by assumption) (by assumption) (by assumption) (by assumption)))
    | exact hret _ _ _ _ (by k_asm) (by k_asm) (by k_extra "sub_up") (OptOut.of (by k_extra "tu_up") ((realR_go (by assumption) (by assumption) (by assumption) (by assumption)).trans (by assumption)))
    | exact hexc (realR_bad1 (by assumption)) _ _ _ _ _ _ (by assumption) (raisedS_mono (by assumption) (by k_extra "sub_up")) (by assumption)
    | exact hexc (realR_bad2 (by assumption) (by assumption)) _ _ _ _ _ _ (by assumption) (raisedS_mono (by assumption) (by k_extra "sub_up")) (by assumption)
    | exact hexc ((realR_go (by assumption) (by assumption) (by assumption) (by assumption)).trans (by assumption)) _ _ _ _ _ _ (by assumption) (raisedS_mono (by assumption) (by k_extra "sub_up")) (by assumption)
theorem ln34 : True := by
  k_with "call ref" => (k_here; (with_reducible show wpAny _ _ (call (Value.ref 194) [Value.ref _, Value.ref _, Value.int _ _, Value.int _ _]) _ _ _); k_dflt (refine' says_useT (real_says _ _ _ _ _ _ _ _ _ _ ?har46 ?hcr46 ?hb0r46 ?hb1r46 ?he0r46 ?he1r46 ?hd0r46 ?hd1r46 ?htr46) ?k1r46 ?k2r46 ?k3r46 ?k4r46 ?k5r46 ?kKr46 ?kpr46 ?kdr46 ?kur46 (fun _ _ _ hs h => h.mono hs) ?_ ?_; (case k1r46 => k_asm); (case k2r46 => k_asm); (case k3r46 => k_asm); (case k4r46 => k_asm); (case k5r46 => k_asm); (case kKr46 => first | exact rfl | assumption); (case kpr46 => exact ⟨by k_extra "tu_up", by k_extra "tu_up"⟩); (case kdr46 => first | exact room3 (by assumption) rfl | exact room2 (by assumption) rfl | ktr_room); (case kur46 => first | exact room3 (by assumption) rfl | ktr_units); (case har46 => first | assumption | omega); (case hcr46 => first | assumption | omega); (case hb0r46 => first | assumption | omega); (case hb1r46 => first | assumption | omega); (case he0r46 => first | assumption | omega); (case he1r46 => first | assumption | omega); (case hd0r46 => first | assumption | omega); (case hd1r46 => first | assumption | omega); (case htr46 => first | assumption | omega)); (intro r' tl' h' tk' F' N' P'; obtain ⟨x', a', b', e', T', O'⟩ := P'; subst e'; (try dsimp only); (try k_fold); (try k_sweep)); rotate_left; (intro c' e' t' vs' g' h' tk' F' R' U'; (try dsimp only); (try k_fold)); rotate_left)
  exact True.intro
theorem ln35 : True := by
  k_with_none
  k_with "tu_up" => first | with_reducible assumption | exact Tu.of (List.Mem.head _) | exact Tu.nought | (apply Tu.cons; k_extra "tu_up") | (apply Tu.app; k_extra "tu_up")
  k_with "tu3_up" => first | with_reducible assumption | exact Tu3.of (List.Mem.head _) | (refine Tu3.cons ?_; k_extra "tu3_up") | (refine Tu3.app ?_; k_extra "tu3_up")
  k_with "tur_up" => first | with_reducible assumption | exact TuR.of (List.Mem.head _) | (apply TuR.cons; k_extra "tur_up") | (apply TuR.app; k_extra "tur_up")
  k_with "rv_up" => first | with_reducible assumption | (refine Rv.cons ?_; k_extra "rv_up") | (refine Rv.app ?_; k_extra "rv_up")
  k_with "sub_up" => first | with_reducible assumption | exact sub_id | (refine sub_cons ?_; k_extra "sub_up") | (refine sub_app ?_; k_extra "sub_up")
  k_with "subscriptTail" => (k_here; (with_reducible show wpAny _ _ (subscriptTail _ _ (Value.ref _) (Value.int 0 _)) _ _ _); k_dflt (first | (refine' tu_item0 ?Fr9 ?Xr9 ?Nr9 ?Tr9 ?_ ?hsr9; (case Fr9 => k_asm); (case Xr9 => k_asm); (case Nr9 => k_asm); (case Tr9 => k_extra "tu_up"); (case hsr9 => with_unfolding_all rfl); k_whole; intro _) | (refine' tu_ref0 ?Nr9 ?Tr9 ?_ ?hsr9; (case Nr9 => k_asm); (case Tr9 => k_extra "tur_up"); (case hsr9 => with_unfolding_all rfl); k_whole)))
  k_with "subscriptTail" => (k_here; (with_reducible show wpAny _ _ (subscriptTail _ _ (Value.ref _) (Value.int 1 _)) _ _ _); k_dflt (first | (refine' tu_item1 ?Fr10 ?Xr10 ?Nr10 ?Tr10 ?_ ?hsr10; (case Fr10 => k_asm); (case Xr10 => k_asm); (case Nr10 => k_asm); (case Tr10 => k_extra "tu_up"); (case hsr10 => with_unfolding_all rfl); k_whole; intro _) | (refine' tu_ref1 ?Nr10 ?Tr10 ?_ ?hsr10; (case Nr10 => k_asm); (case Tr10 => k_extra "tur_up"); (case hsr10 => with_unfolding_all rfl); k_whole)))
  k_with "assign Tuple" => (k_here; (with_reducible show wpAny _ _ (assign (Expr.Tuple _ _ _) _ (Value.ref _)) _ _ _); k_dflt (first | (refine' tu_unpack ?Fr11 ?Xr11 ?Nr11 ?Tr11 ?k4r11 ?k5r11 ?k6r11 ?_; (case Fr11 => k_asm); (case Xr11 => k_asm); (case Nr11 => k_asm); (case Tr11 => k_extra "tu_up"); (case k4r11 => exact rfl); (case k5r11 => exact rfl); (case k6r11 => exact rfl); k_whole; intro _ _ h' F' N') | (refine' tu_unpack3 ?Fr11 ?Nr11 ?Tr11 ?k4r11 ?k5r11 ?k6r11 ?_; (case Fr11 => k_asm); (case Nr11 => k_asm); (case Tr11 => k_extra "tu3_up"); (case k4r11 => exact rfl); (case k5r11 => exact rfl); (case k6r11 => exact rfl); k_whole; intro _ _ _ h' F' N')); (try k_sweep))
  k_with "binaryOp Mult int int" => (k_here; with_reducible refine mul_int ?_ (by assumption))
  k_with "binaryOp FloorDiv int int" => (k_here; (with_reducible refine floordiv_int ?h0r13 ?_ (Or.inl (PyProof.noPylong_of_log2 ?hlr13))); (case h0r13 => first | assumption | omega); (case hlr13 => assumption))
  k_with "inplaceOp FloorDiv int int" => (k_here; (with_reducible refine ifloordiv_int ?h0r14 ?_ (Or.inl (PyProof.noPylong_of_log2 ?hlr14))); (case h0r14 => first | assumption | omega); (case hlr14 => assumption))
  k_with "binaryOp Pow int int" => (k_here; (with_reducible refine pow_int_small ?ar15 ?br15 ?cr15 ?_); (case ar15 => omega); (case br15 => omega); (case cr15 => decide))
  k_with "call builtin:divmod" => (k_here; (with_reducible show wpAny _ _ (call (Value.builtin _) [Value.int _ _, Value.int _ _]) _ _ _); (refine divmod_N (by k_asm) (by k_asm) (by assumption) ?_ (Or.inl (PyProof.noPylong_of_log2 (by assumption)))); intro h' F' N'; (try k_sweep))
  k_with "exec Raise some none" => (k_here; refine raise44 rfl ?_)
  k_with "RaisePost" => (k_here; refine' raisePost ?Fr18 ?Xr18 ?Nr18 ?_; (case Fr18 => k_asm); (case Xr18 => k_asm); (case Nr18 => k_asm))
  k_with "call ref" => (k_here; (with_reducible show wpAny _ _ (call (Value.ref 44) [Value.str _ _]) _ _ _); k_dflt (refine' call_fault ?k1r19 ?k2r19 ?k3r19 ?k4r19 ?k5r19 ?kKr19 ?kdr19 ?_; (case k1r19 => k_asm); (case k2r19 => k_asm); (case k3r19 => k_asm); (case k4r19 => k_asm); (case k5r19 => k_asm); (case kKr19 => first | exact rfl | assumption); (case kdr19 => first | exact room3 (by assumption) rfl | exact room2 (by assumption) rfl | ktr_room); k_whole); intro h' e' t' d' tk' F' N' l1' l2' l3'; (try dsimp only); (try k_sweep))
  k_with "leaving ref" => (k_here; k_dflt (first | (refine' leave_fault ?Kr20 ?Fr20 ?Nr20 ?h1r20 ?h2r20 ?h3r20 sub_id ?_; (case Kr20 => assumption); (case Fr20 => k_asm); (case Nr20 => k_asm); (case h1r20 => assumption); (case h2r20 => assumption); (case h3r20 => assumption); k_whole; intro h' R' U') | (refine' leave_onS ?Kr20 ?Fr20 ?Rr20 ?Ur20 ?_; (case Rr20 => assumption); (case Fr20 => assumption); (case Kr20 => assumption); (case Ur20 => assumption); k_whole; intro h' R' K' U'; clear K')))
  k_with "execs cons" => (k_here; (with_reducible show wpAny _ _ _ _ _ (Shared.mk _ _ _ (_ + 1) _)); (with_reducible refine gen_toks (s := Shared.mk _ _ _ 0 _) ?_); intro tk'; (try dsimp only))
  k_with "execs nil" => (k_here; (with_reducible show wpAny _ _ _ _ _ (Shared.mk _ _ _ (_ + 1) _)); (with_reducible refine gen_toks (s := Shared.mk _ _ _ 0 _) ?_); intro tk'; (try dsimp only))
  k_with "newTuple" => (k_here; (with_reducible show wpAny _ _ (newTuple [Value.int _ _, Value.int _ _]) _ _ _); k_dflt (refine' newTuple_Tu ?Fr41 ?Nr41 ?_; (case Fr41 => k_asm); (case Nr41 => k_asm)); intro D' h' F' N' T' l1; (try k_lt l1); (try k_sweep))
  k_with "newTuple" => (k_here; (with_reducible show wpAny _ _ (newTuple [Value.ref _, Value.ref _]) _ _ _); k_dflt (refine' newTuple_TuR ?Fr42 ?Nr42 ?_; (case Fr42 => k_asm); (case Nr42 => k_asm)); intro D' h' F' N' T' l1; (try k_lt l1); (try k_sweep))
  k_with "call ref" => (k_here; (with_reducible show wpAny _ _ (call (Value.ref 54) [Value.int _ _]) _ _ _); k_dflt (refine' says_useI (count_digits_says _ _) ?k1r23 ?k2r23 ?k3r23 ?k4r23 ?k5r23 ?kKr23 ?kpr23 ?kdr23 ?kur23 ?_ (fun h => h.elim); (case k1r23 => k_asm); (case k2r23 => k_asm); (case k3r23 => k_asm); (case k4r23 => k_asm); (case k5r23 => k_asm); (case kKr23 => first | exact rfl | assumption); (case kpr23 => trivial); (case kdr23 => first | exact room3 (by assumption) rfl | exact room2 (by assumption) rfl | ktr_room); (case kur23 => first | exact room3 (by assumption) rfl | ktr_units)); intro r' tl' h' tk' F' N' P'; obtain ⟨t', e'⟩ := P'; subst e'; (try dsimp only); (try k_fold); (try k_sweep))
  k_with "call ref" => (k_here; (with_reducible show wpAny _ _ (call (Value.ref 61) [Value.int _ _, Value.int _ _]) _ _ _); k_dflt (refine' says_useT (strip_zeros_says _ _ _ _) ?k1r24 ?k2r24 ?k3r24 ?k4r24 ?k5r24 ?kKr24 ?kpr24 ?kdr24 ?kur24 (fun _ _ _ hs h => h.mono hs) ?_ (fun h => h.elim); (case k1r24 => k_asm); (case k2r24 => k_asm); (case k3r24 => k_asm); (case k4r24 => k_asm); (case k5r24 => k_asm); (case kKr24 => first | exact rfl | assumption); (case kpr24 => trivial); (case kdr24 => first | exact room3 (by assumption) rfl | exact room2 (by assumption) rfl | ktr_room); (case kur24 => first | exact room3 (by assumption) rfl | ktr_units)); intro r' tl' h' tk' F' N' P'; obtain ⟨x', e', T'⟩ := P'; subst e'; (try dsimp only); (try k_fold); (try k_sweep))
  k_with "call ref" => (k_here; (with_reducible show wpAny _ _ (call (Value.ref 68) [Value.int _ _, Value.int _ _, Value.int _ _]) _ _ _); k_dflt (refine' says_useT (round_digits_says _ _ _ _ _ _ (by first | assumption | omega) (by first | assumption | omega)) ?k1r25 ?k2r25 ?k3r25 ?k4r25 ?k5r25 ?kKr25 ?kpr25 ?kdr25 ?kur25 (fun _ _ _ hs h => h.mono hs) ?_ (fun h => h.elim); (case k1r25 => k_asm); (case k2r25 => k_asm); (case k3r25 => k_asm); (case k4r25 => k_asm); (case k5r25 => k_asm); (case kKr25 => first | exact rfl | assumption); (case kpr25 => trivial); (case kdr25 => first | exact room3 (by assumption) rfl | exact room2 (by assumption) rfl | ktr_room); (case kur25 => first | exact room3 (by assumption) rfl | ktr_units)); intro r' tl' h' tk' F' N' P'; obtain ⟨x', e', T'⟩ := P'; subst e'; (try dsimp only); (try k_fold); (try k_sweep))
  k_with "call ref" => (k_here; (with_reducible show wpAny _ _ (call (Value.ref 75) [Value.int _ _, Value.int _ _, Value.int _ _, Value.int _ _]) _ _ _); k_dflt (refine' says_useT (round_real_says _ _ _ _ _ _ _ _ (by first | assumption | omega | exact expP_cd (by assumption) (by assumption) (by assumption) (by assumption) (tooG_lead2 (by assumption) (by assumption))) (by first | assumption | omega)) ?k1r26 ?k2r26 ?k3r26 ?k4r26 ?k5r26 ?kKr26 ?kpr26 ?kdr26 ?kur26 (fun _ _ _ hs h => h.mono hs) ?_ ?_; (case k1r26 => k_asm); (case k2r26 => k_asm); (case k3r26 => k_asm); (case k4r26 => k_asm); (case k5r26 => k_asm); (case kKr26 => first | exact rfl | assumption); (case kpr26 => trivial); (case kdr26 => first | exact room3 (by assumption) rfl | exact room2 (by assumption) rfl | ktr_room); (case kur26 => first | exact room3 (by assumption) rfl | ktr_units)); (intro r' tl' h' tk' F' N' P'; obtain ⟨x', a', b', e', T', O'⟩ := P'; subst e'; (try dsimp only); (try k_fold); (try k_sweep)); rotate_left; (intro c' e' t' vs' g' h' tk' F' R' U'; (try dsimp only); (try k_fold)); rotate_left)
  k_with "call ref" => (k_here; (with_reducible show wpAny _ _ (call (Value.ref 82) [Value.ref _, Value.ref _]) _ _ _); k_dflt (refine' says_useT (exact_mul_says _ _ _ _ _ _ ?hmr27) ?k1r27 ?k2r27 ?k3r27 ?k4r27 ?k5r27 ?kKr27 ?kpr27 ?kdr27 ?kur27 (fun _ _ _ hs h => h.mono hs) ?_ (fun h => h.elim); (case k1r27 => k_asm); (case k2r27 => k_asm); (case k3r27 => k_asm); (case k4r27 => k_asm); (case k5r27 => k_asm); (case kKr27 => first | exact rfl | assumption); (case kpr27 => exact ⟨by k_extra "tu_up", by k_extra "tu_up"⟩); (case kdr27 => first | exact room3 (by assumption) rfl | exact room2 (by assumption) rfl | ktr_room); (case kur27 => first | exact room3 (by assumption) rfl | ktr_units); (case hmr27 => assumption)); intro r' tl' h' tk' F' N' P'; obtain ⟨x', e', T'⟩ := P'; subst e'; (try dsimp only); (try k_fold); (try k_sweep))
  k_with "call ref" => (k_here; (with_reducible show wpAny _ _ (call (Value.ref 89) [Value.ref _]) _ _ _); k_dflt (refine' says_useI (lead_of_says _ _ _) ?k1r28 ?k2r28 ?k3r28 ?k4r28 ?k5r28 ?kKr28 ?kpr28 ?kdr28 ?kur28 ?_ (fun h => h.elim); (case k1r28 => k_asm); (case k2r28 => k_asm); (case k3r28 => k_asm); (case k4r28 => k_asm); (case k5r28 => k_asm); (case kKr28 => first | exact rfl | assumption); (case kpr28 => k_extra "tu_up"); (case kdr28 => first | exact room3 (by assumption) rfl | exact room2 (by assumption) rfl | ktr_room); (case kur28 => first | exact room3 (by assumption) rfl | ktr_units)); intro r' tl' h' tk' F' N' P'; obtain ⟨t', e'⟩ := P'; subst e'; (try dsimp only); (try k_fold); (try k_sweep))
  k_with "call ref" => (k_here; (with_reducible show wpAny _ _ (call (Value.ref 96) [Value.ref _, Value.int _ _]) _ _ _); k_dflt (refine' says_useI (places_for_says _ _ _ _ _) ?k1r29 ?k2r29 ?k3r29 ?k4r29 ?k5r29 ?kKr29 ?kpr29 ?kdr29 ?kur29 ?_ (fun h => h.elim); (case k1r29 => k_asm); (case k2r29 => k_asm); (case k3r29 => k_asm); (case k4r29 => k_asm); (case k5r29 => k_asm); (case kKr29 => first | exact rfl | assumption); (case kpr29 => k_extra "tu_up"); (case kdr29 => first | exact room3 (by assumption) rfl | exact room2 (by assumption) rfl | ktr_room); (case kur29 => first | exact room3 (by assumption) rfl | ktr_units)); intro r' tl' h' tk' F' N' P'; obtain ⟨t', e'⟩ := P'; subst e'; (try dsimp only); (try k_fold); (try k_sweep))
  k_with "call ref" => (k_here; (with_reducible show wpAny _ _ (call (Value.ref 103) [Value.ref _, Value.int _ _]) _ _ _); k_dflt (refine' says_useI (fixed_says _ _ _ _ _ ?har30 ?h1r30 ?h2r30) ?k1r30 ?k2r30 ?k3r30 ?k4r30 ?k5r30 ?kKr30 ?kpr30 ?kdr30 ?kur30 ?_ (fun h => h.elim); (case k1r30 => k_asm); (case k2r30 => k_asm); (case k3r30 => k_asm); (case k4r30 => k_asm); (case k5r30 => k_asm); (case kKr30 => first | exact rfl | assumption); (case kpr30 => k_extra "tu_up"); (case kdr30 => first | exact room3 (by assumption) rfl | exact room2 (by assumption) rfl | ktr_room); (case kur30 => first | exact room3 (by assumption) rfl | ktr_units); (case har30 => assumption); (case h1r30 => first | assumption | omega); (case h2r30 => first | assumption | omega)); intro r' tl' h' tk' F' N' P'; obtain ⟨t', e'⟩ := P'; subst e'; (try dsimp only); (try k_fold); (try k_sweep))
  k_with "call ref" => (k_here; (with_reducible show wpAny _ _ (call (Value.ref 152) [Value.ref _, Value.int _ _]) _ _ _); k_dflt (refine' says_useI (is_too_great_says _ _ _ _ _) ?k1r31 ?k2r31 ?k3r31 ?k4r31 ?k5r31 ?kKr31 ?kpr31 ?kdr31 ?kur31 ?_ (fun h => h.elim); (case k1r31 => k_asm); (case k2r31 => k_asm); (case k3r31 => k_asm); (case k4r31 => k_asm); (case k5r31 => k_asm); (case kKr31 => first | exact rfl | assumption); (case kpr31 => k_extra "tu_up"); (case kdr31 => first | exact room3 (by assumption) rfl | exact room2 (by assumption) rfl | ktr_room); (case kur31 => first | exact room3 (by assumption) rfl | ktr_units)); intro r' tl' h' tk' F' N' P'; subst P'; (try dsimp only); (try k_fold); (try k_sweep))
  k_with "call ref" => (k_here; (with_reducible show wpAny _ _ (call (Value.ref 110) [Value.int _ _]) _ _ _); k_dflt (refine' says_useI (whole_root_says _ _ ?h0r32 ?hcr32) ?k1r32 ?k2r32 ?k3r32 ?k4r32 ?k5r32 ?kKr32 ?kpr32 ?kdr32 ?kur32 ?_ (fun h => h.elim); (case k1r32 => k_asm); (case k2r32 => k_asm); (case k3r32 => k_asm); (case k4r32 => k_asm); (case k5r32 => k_asm); (case kKr32 => first | exact rfl | assumption); (case kpr32 => trivial); (case kdr32 => first | exact room3 (by assumption) rfl | exact room2 (by assumption) rfl | ktr_room); (case kur32 => first | exact room3 (by assumption) rfl | ktr_units); (case h0r32 => first | assumption | omega); (case hcr32 => first | assumption | omega)); intro r' tl' h' tk' F' N' P'; obtain ⟨t', e'⟩ := P'; subst e'; (try dsimp only); (try k_fold); (try k_sweep))
  k_with "call ref" => (k_here; (with_reducible show wpAny _ _ (call (Value.ref 117) [Value.ref _, Value.int _ _, Value.int _ _]) _ _ _); k_dflt (refine' says_useT (sqrt_real_says _ _ _ _ _ _ _ ?h0r33 ?har33 ?hd0r33 ?hd1r33) ?k1r33 ?k2r33 ?k3r33 ?k4r33 ?k5r33 ?kKr33 ?kpr33 ?kdr33 ?kur33 (fun _ _ _ hs h => h.mono hs) ?_ ?_; (case k1r33 => k_asm); (case k2r33 => k_asm); (case k3r33 => k_asm); (case k4r33 => k_asm); (case k5r33 => k_asm); (case kKr33 => first | exact rfl | assumption); (case kpr33 => k_extra "tu_up"); (case kdr33 => first | exact room3 (by assumption) rfl | exact room2 (by assumption) rfl | ktr_room); (case kur33 => first | exact room3 (by assumption) rfl | ktr_units); (case h0r33 => first | assumption | omega); (case har33 => first | assumption | omega); (case hd0r33 => first | assumption | omega); (case hd1r33 => first | assumption | omega)); (intro r' tl' h' tk' F' N' P'; obtain ⟨x', a', b', e', T', O'⟩ := P'; subst e'; (try dsimp only); (try k_fold); (try k_sweep)); rotate_left; (intro c' e' t' vs' g' h' tk' F' R' U'; (try dsimp only); (try k_fold)); rotate_left)
  k_with "call ref" => (k_here; (with_reducible show wpAny _ _ (call (Value.ref 117) [Value.ref _, Value.int _ _, Value.int _ _]) _ _ _); k_dflt (refine' says_useI (sqrt_neg_says _ _ _ _ _ _ _ ?h0r34) ?k1r34 ?k2r34 ?k3r34 ?k4r34 ?k5r34 ?kKr34 ?kpr34 ?kdr34 ?kur34 ?_ ?_; (case k1r34 => k_asm); (case k2r34 => k_asm); (case k3r34 => k_asm); (case k4r34 => k_asm); (case k5r34 => k_asm); (case kKr34 => first | exact rfl | assumption); (case kpr34 => k_extra "tu_up"); (case kdr34 => first | exact room3 (by assumption) rfl | exact room2 (by assumption) rfl | ktr_room); (case kur34 => first | exact room3 (by assumption) rfl | ktr_units); (case h0r34 => first | assumption | omega)); (intro r' tl' h' tk' F' N' P'; exact P'.elim); (intro c' e' t' vs' g' h' tk' F' R' U'; (try dsimp only); (try k_fold)))
  k_with "call ref" => (k_here; (with_reducible show wpAny _ _ (call (Value.ref 124) [Value.int _ _, Value.int _ _, Value.int _ _]) _ _ _); k_dflt (refine' says_useI (inverse_series_says _ _ _ _ _ ?h2r35 ?h3r35 ?hp0r35 ?hpr35) ?k1r35 ?k2r35 ?k3r35 ?k4r35 ?k5r35 ?kKr35 ?kpr35 ?kdr35 ?kur35 ?_ (fun h => h.elim); (case k1r35 => k_asm); (case k2r35 => k_asm); (case k3r35 => k_asm); (case k4r35 => k_asm); (case k5r35 => k_asm); (case kKr35 => first | exact rfl | assumption); (case kpr35 => trivial); (case kdr35 => first | exact room3 (by assumption) rfl | exact room2 (by assumption) rfl | ktr_room); (case kur35 => first | exact room3 (by assumption) rfl | ktr_units); (case h2r35 => first | assumption | omega); (case h3r35 => first | assumption | omega); (case hp0r35 => first | assumption | omega); (case hpr35 => first | assumption | omega)); intro r' tl' h' tk' F' N' P'; obtain ⟨t', e'⟩ := P'; subst e'; (try dsimp only); (try k_fold); (try k_sweep))
  k_with "call ref" => (k_here; (with_reducible show wpAny _ _ (call (Value.ref 131) [Value.int _ _]) _ _ _); k_dflt (refine' says_useI (log_of_ten_says _ _ ?hp0r36 ?hpr36) ?k1r36 ?k2r36 ?k3r36 ?k4r36 ?k5r36 ?kKr36 ?kpr36 ?kdr36 ?kur36 ?_ (fun h => h.elim); (case k1r36 => k_asm); (case k2r36 => k_asm); (case k3r36 => k_asm); (case k4r36 => k_asm); (case k5r36 => k_asm); (case kKr36 => first | exact rfl | assumption); (case kpr36 => trivial); (case kdr36 => first | exact room3 (by assumption) rfl | exact room2 (by assumption) rfl | ktr_room); (case kur36 => first | exact room3 (by assumption) rfl | ktr_units); (case hp0r36 => first | assumption | omega); (case hpr36 => first | assumption | omega)); intro r' tl' h' tk' F' N' P'; obtain ⟨t', e'⟩ := P'; subst e'; (try dsimp only); (try k_fold); (try k_sweep))
  k_with "call ref" => (k_here; (with_reducible show wpAny _ _ (call (Value.ref 159) [Value.ref _, Value.int _ _, Value.int _ _]) _ _ _); k_dflt (refine' says_useT (exp_real_says _ _ _ _ _ _ _ ?har39 ?hd0r39 ?hd1r39 ?hb0r39 ?hb1r39 ?htr39) ?k1r39 ?k2r39 ?k3r39 ?k4r39 ?k5r39 ?kKr39 ?kpr39 ?kdr39 ?kur39 (fun _ _ _ hs h => h.mono hs) ?_ ?_; (case k1r39 => k_asm); (case k2r39 => k_asm); (case k3r39 => k_asm); (case k4r39 => k_asm); (case k5r39 => k_asm); (case kKr39 => first | exact rfl | assumption); (case kpr39 => k_extra "tu_up"); (case kdr39 => first | exact room3 (by assumption) rfl | exact room2 (by assumption) rfl | ktr_room); (case kur39 => first | exact room3 (by assumption) rfl | ktr_units); (case har39 => first | assumption | omega); (case hd0r39 => first | assumption | omega); (case hd1r39 => first | assumption | omega); (case hb0r39 => first | assumption | omega); (case hb1r39 => first | assumption | omega); (case htr39 => first | assumption | omega)); (intro r' tl' h' tk' F' N' P'; obtain ⟨x', a', b', e', T', O'⟩ := P'; subst e'; (try dsimp only); (try k_fold); (try k_sweep)); rotate_left; (intro c' e' t' vs' g' h' tk' F' R' U'; (try dsimp only); (try k_fold)); rotate_left)
  k_with "call ref" => (k_here; (with_reducible show wpAny _ _ (call (Value.ref 166) [Value.ref _, Value.int _ _]) _ _ _); k_dflt (refine' says_useT (log_parts_says _ _ _ _ _ ?h0r40 ?har40 ?hd0r40 ?hd1r40 ?hlr40) ?k1r40 ?k2r40 ?k3r40 ?k4r40 ?k5r40 ?kKr40 ?kpr40 ?kdr40 ?kur40 (fun _ _ _ hs h => h.mono hs) ?_ (fun h => h.elim); (case k1r40 => k_asm); (case k2r40 => k_asm); (case k3r40 => k_asm); (case k4r40 => k_asm); (case k5r40 => k_asm); (case kKr40 => first | exact rfl | assumption); (case kpr40 => k_extra "tu_up"); (case kdr40 => first | exact room3 (by assumption) rfl | exact room2 (by assumption) rfl | ktr_room); (case kur40 => first | exact room3 (by assumption) rfl | ktr_units); (case h0r40 => first | assumption | omega); (case har40 => first | assumption | omega); (case hd0r40 => first | assumption | omega); (case hd1r40 => first | assumption | omega); (case hlr40 => first | assumption | omega)); intro r' tl' h' tk' F' N' P'; obtain ⟨x', e', T'⟩ := P'; subst e'; (try dsimp only); (try k_fold); (try k_sweep))
  k_with "call ref" => (k_here; (with_reducible show wpAny _ _ (call (Value.ref 173) [Value.ref _]) _ _ _); k_dflt (refine' says_useI (check_neg_says _ _ _ ?h0r43) ?k1r43 ?k2r43 ?k3r43 ?k4r43 ?k5r43 ?kKr43 ?kpr43 ?kdr43 ?kur43 ?_ ?_; (case k1r43 => k_asm); (case k2r43 => k_asm); (case k3r43 => k_asm); (case k4r43 => k_asm); (case k5r43 => k_asm); (case kKr43 => first | exact rfl | assumption); (case kpr43 => k_extra "tu_up"); (case kdr43 => first | exact room3 (by assumption) rfl | exact room2 (by assumption) rfl | ktr_room); (case kur43 => first | exact room3 (by assumption) rfl | ktr_units); (case h0r43 => first | assumption | omega)); (intro r' tl' h' tk' F' N' P'; exact P'.elim); (intro c' e' t' vs' g' h' tk' F' R' U'; (try dsimp only); (try k_fold)))
  k_with "call ref" => (k_here; (with_reducible show wpAny _ _ (call (Value.ref 180) [Value.ref _, Value.int _ _, Value.int _ _]) _ _ _); k_dflt (refine' says_useI (log_neg_says _ _ _ _ _ _ _ ?h0r44) ?k1r44 ?k2r44 ?k3r44 ?k4r44 ?k5r44 ?kKr44 ?kpr44 ?kdr44 ?kur44 ?_ ?_; (case k1r44 => k_asm); (case k2r44 => k_asm); (case k3r44 => k_asm); (case k4r44 => k_asm); (case k5r44 => k_asm); (case kKr44 => first | exact rfl | assumption); (case kpr44 => k_extra "tu_up"); (case kdr44 => first | exact room3 (by assumption) rfl | exact room2 (by assumption) rfl | ktr_room); (case kur44 => first | exact room3 (by assumption) rfl | ktr_units); (case h0r44 => first | assumption | omega)); (intro r' tl' h' tk' F' N' P'; exact P'.elim); (intro c' e' t' vs' g' h' tk' F' R' U'; (try dsimp only); (try k_fold)))
  k_with "call ref" => (k_here; (with_reducible show wpAny _ _ (call (Value.ref 187) [Value.ref _, Value.int _ _, Value.int _ _]) _ _ _); k_dflt (refine' says_useI (log10_neg_says _ _ _ _ _ _ _ ?h0r45) ?k1r45 ?k2r45 ?k3r45 ?k4r45 ?k5r45 ?kKr45 ?kpr45 ?kdr45 ?kur45 ?_ ?_; (case k1r45 => k_asm); (case k2r45 => k_asm); (case k3r45 => k_asm); (case k4r45 => k_asm); (case k5r45 => k_asm); (case kKr45 => first | exact rfl | assumption); (case kpr45 => k_extra "tu_up"); (case kdr45 => first | exact room3 (by assumption) rfl | exact room2 (by assumption) rfl | ktr_room); (case kur45 => first | exact room3 (by assumption) rfl | ktr_units); (case h0r45 => first | assumption | omega)); (intro r' tl' h' tk' F' N' P'; exact P'.elim); (intro c' e' t' vs' g' h' tk' F' R' U'; (try dsimp only); (try k_fold)))
  k_with "call ref" => (k_here; (with_reducible show wpAny _ _ (call (Value.ref 194) [Value.ref _, Value.ref _, Value.int _ _, Value.int _ _]) _ _ _); k_dflt (refine' says_useT (real_says _ _ _ _ _ _ _ _ _ _ ?har46 ?hcr46 ?hb0r46 ?hb1r46 ?he0r46 ?he1r46 ?hd0r46 ?hd1r46 ?htr46) ?k1r46 ?k2r46 ?k3r46 ?k4r46 ?k5r46 ?kKr46 ?kpr46 ?kdr46 ?kur46 (fun _ _ _ hs h => h.mono hs) ?_ ?_; (case k1r46 => k_asm); (case k2r46 => k_asm); (case k3r46 => k_asm); (case k4r46 => k_asm); (case k5r46 => k_asm); (case kKr46 => first | exact rfl | assumption); (case kpr46 => exact ⟨by k_extra "tu_up", by k_extra "tu_up"⟩); (case kdr46 => first | exact room3 (by assumption) rfl | exact room2 (by assumption) rfl | ktr_room); (case kur46 => first | exact room3 (by assumption) rfl | ktr_units); (case har46 => first | assumption | omega); (case hcr46 => first | assumption | omega); (case hb0r46 => first | assumption | omega); (case hb1r46 => first | assumption | omega); (case he0r46 => first | assumption | omega); (case he1r46 => first | assumption | omega); (case hd0r46 => first | assumption | omega); (case hd1r46 => first | assumption | omega); (case htr46 => first | assumption | omega)); (intro r' tl' h' tk' F' N' P'; obtain ⟨x', a', b', e', T', O'⟩ := P'; subst e'; (try dsimp only); (try k_fold); (try k_sweep)); rotate_left; (intro c' e' t' vs' g' h' tk' F' R' U'; (try dsimp only); (try k_fold)); rotate_left)
  exact True.intro
/-- what a call that may catch keeps: the frames below may have been marked anew -/
def SaysT (w : World) (mean : ExcName → Option Value) (mg mb : Str → Option Value) (D : Nat) (f : Addr) (vs : List Value)
    (pre : List (Addr × Obj) → Prop) (post : List (Addr × Obj) → Value → Prop) : Prop :=
  ∀ (dp un : Nat) (gd : Option (List Code)) (cn : Str) (cs : Scope) (a : Addr) (ccd : Value) (outer : List Env) (A₀ : Around) (base g₀ h₀ : Heap) (L : Addr)
    (m : Str → Option Value) (news : List (Addr × Obj)) (s : Shared) (Q E : Value → Shared → Prop),
    Below A₀ base outer h₀ → Fr h₀ L s.heap m → (hd.heap_39 w.params).In h₀ → News h₀ L s.heap news → Top hd.view_39 (looseW hd.view_39 []) mean mg mb h₀ →
    (hd.heap_39 w.params).In base → Top hd.view_39 (looseW hd.view_39 []) mean mg mb base → KtsDicts (outer.filterMap (·.frame)) h₀ → KtsTurn (outer.filterMap (·.frame)) g₀ h₀ → cs.kind = .function →
    pre news → dp + 3 * D + 10 < recursionLimit → un + 30 * D + 200 < cLine →
    (∀ r news' h' tk' h₀', KtsTurn (outer.filterMap (·.frame)) g₀ h₀' → Fr h₀' L h' m → News h₀' L h' news' → (∀ p ∈ news, p ∈ news') → Below A₀ base outer h₀' → (hd.heap_39 w.params).In h₀' →
      Top hd.view_39 (looseW hd.view_39 []) mean mg mb h₀' → KtsDicts (outer.filterMap (·.frame)) h₀' → post news' r → Q r { s with heap := h', toks := tk' }) →
    wpAny (model PR w) (ktrTop dp un gd cn cs L a ccd [] outer) (call (.ref f) vs) Q E s
section
variable {D : Nat} {f : Addr} {vs : List Value} {pre : List (Addr × Obj) → Prop} {post : List (Addr × Obj) → Value → Prop}
  {dp un : Nat} {gd : Option (List Code)} {cn : Str} {cs : Scope} {a : Addr} {ccd : Value} {outer : List Env} {A₀ : Around} {base g₀ h₀ : Heap} {L : Addr}
  {m : Str → Option Value} {news : List (Addr × Obj)} {s : Shared} {Q E : Value → Shared → Prop}
theorem saysT_use (S : SaysT w mean mg mb D f vs pre post) (B : Below A₀ base outer h₀) (F : Fr h₀ L s.heap m) (X : (hd.heap_39 w.params).In h₀) (N : News h₀ L s.heap news)
    (T : Top hd.view_39 (looseW hd.view_39 []) mean mg mb h₀) (XB : (hd.heap_39 w.params).In base) (TB : Top hd.view_39 (looseW hd.view_39 []) mean mg mb base) (KD : KtsDicts (outer.filterMap (·.frame)) h₀) (T0 : KtsTurn (outer.filterMap (·.frame)) g₀ h₀)
    (hk : cs.kind = .function) (hp : pre news) (hd' : dp + 3 * D + 10 < recursionLimit) (hu : un + 30 * D + 200 < cLine) (hmono : ∀ l l' r, (∀ p ∈ l, p ∈ l') → post l r → post l' r)
    (ret : ∀ r tl h' tk' h₀', KtsTurn (outer.filterMap (·.frame)) g₀ h₀' → Fr h₀' L h' m → News h₀' L h' (tl ++ news) → Below A₀ base outer h₀' → (hd.heap_39 w.params).In h₀' →
      Top hd.view_39 (looseW hd.view_39 []) mean mg mb h₀' → KtsDicts (outer.filterMap (·.frame)) h₀' → post (tl ++ news) r → Q r { s with heap := h', toks := tk' }) :
    wpAny (model PR w) (ktrTop dp un gd cn cs L a ccd [] outer) (call (.ref f) vs) Q E s :=
  S _ _ _ _ _ _ _ _ _ _ _ _ _ _ _ _ _ _ B F X N T XB TB KD T0 hk hp hd' hu (fun r news' h' tk' h₀' kT F' N' hs B' X' T' D' hq => ret r news' h' tk' h₀' kT F'
    (fun p hp => (List.mem_append.mp hp).elim (N' p) fun h => N' p (hs p h)) B' X' T' D' (hmono _ _ _ (fun p hp => List.mem_append.mpr (.inl hp)) hq))
theorem turn_nil_up {g g' : Heap} (T : KtsTurn [] g g') {b : Addr} {o : Obj} (h : g.get? b = some o) : g'.get? b = some o := T.other b o h (fun q => nomatch q)
/-- with no frames below, the ground is as it was -/
theorem saysT_use0 (S : SaysT w mean mg mb D f vs pre post) (B : Below A₀ base [] h₀) (F : Fr h₀ L s.heap m) (X : (hd.heap_39 w.params).In h₀) (N : News h₀ L s.heap news)
    (T : Top hd.view_39 (looseW hd.view_39 []) mean mg mb h₀) (XB : (hd.heap_39 w.params).In base) (TB : Top hd.view_39 (looseW hd.view_39 []) mean mg mb base)
    (hk : cs.kind = .function) (hp : pre news) (hd' : dp + 3 * D + 10 < recursionLimit) (hu : un + 30 * D + 200 < cLine) (hmono : ∀ l l' r, (∀ p ∈ l, p ∈ l') → post l r → post l' r)
    (ret : ∀ r tl h' tk', Fr h₀ L h' m → News h₀ L h' (tl ++ news) → post (tl ++ news) r → Q r { s with heap := h', toks := tk' }) :
    wpAny (model PR w) (ktrTop dp un gd cn cs L a ccd [] []) (call (.ref f) vs) Q E s :=
  saysT_use S B F X N T XB TB (fun _ q => nomatch q) (g₀ := h₀) KtsTurn.refl hk hp hd' hu hmono fun r tl h' tk' h₀' kT F' N' _ _ _ _ hq =>
    ret r tl h' tk' ⟨F'.ns, fun b o e => F'.keep b o (turn_nil_up kT e), by have := F'.above; rw [show h₀'.objs.size = h₀.objs.size from kT.size] at this; exact this⟩
      (fun p hp => ⟨(N' p hp).1, (N' p hp).2.1, by
        cases q : h₀.get? p.1 with
        | none => rfl
        | some o => have := (N' p hp).2.2; rw [turn_nil_up kT q] at this; cases this⟩) hq
end
/-- what of an answer that may be none -/
theorem rv_some {news : List (Addr × Obj)} {v : Value} {a b : Int} (h : Rv news v (some (a, b))) : ∃ x, v = .ref x ∧ Tu news x a b := by
  rcases h with ⟨x, a', b', e, e', t⟩ | ⟨e, _⟩
  · cases e; exact ⟨x, e', t⟩
  · cases e
theorem rv_none {news : List (Addr × Obj)} {v : Value} (h : Rv news v none) : ∃ t, v = .str (Str.ofString "none") t := by
  rcases h with ⟨x, a', b', e, _⟩ | ⟨_, t, e⟩
  · cases e
  · exact ⟨t, e⟩
theorem rv_of {l : List (Addr × Obj)} {x : Addr} {a b : Int} {o : Option (Int × Int)} (h : Tu l x a b) (e : o = some (a, b)) : Rv l (.ref x) o := .inl ⟨x, a, b, e, rfl, h⟩
theorem rv_off {l : List (Addr × Obj)} {t : Tok} {o : Option (Int × Int)} (e : o = none) : Rv l (.str (Str.ofString "none") t) o := .inr ⟨e, t, rfl⟩
theorem law_exp_says (x : Addr) (a b d top : Int) (t1 t2 : Tok) (ha : cd a.natAbs ≤ 100) (hd0 : 0 ≤ d) (hd1 : d ≤ 60) (hb0 : -500 ≤ b) (hb1 : b ≤ 500) (ht : cd top.natAbs ≤ 10) :
    SaysT w mean mg mb 10 216 [.ref x, .int d t1, .int top t2] (fun l => Tu l x a b) (fun l r => Rv l r (expR a b d top)) := by
  unfold SaysT
  intro dp un gd cn cs ad ccd outer A₀ base g₀ h₀ L mm news s Q E B F X N T XB TB KD T0 hk hpre hd hu hret
  refine wpAny_call ?_
  k_dflt (refine' code_defS ?k1 ?k2 ?k3 ?k4 ?k5 ?XB ?TB ?D ?T0 ?kA ?k6 ?k7 ?k8 ?k9 ?kB ?_ ?cK ?c2 ?c3 ?c4 ?c5; (case kA => exact rfl); (case k2 => k_asm); (case k1 => k_asm); (case XB => assumption); (case TB => assumption); (case D => assumption); (case T0 => first | assumption | exact KtsTurn.refl); (case k3 => k_asm); (case k4 => k_asm); (case k5 => k_asm); (case k6 => k_is); (case k7 => k_is); (case k8 => first | exact room3 (by assumption) rfl | exact room2 (by assumption) rfl | ktr_room); (case k9 => exact BindsTo.of_eq rfl); (case kB => exact locs rfl); (case cK => first | assumption | exact rfl); (case c2 => exact rfl); (case c3 => exact rfl); (case c4 => exact rfl); (case c5 => decide); k_whole; intro g' L' h' FG' F' N' B' X' T' D'; (try dsimp only); (try k_lift B'); (try k_fold))
  k_steps
  all_goals first
    | exact hret _ _ _ _ _ (by assumption) (by k_asm) (by k_asm) (by k_extra "sub_up") (by assumption) (by assumption) (by assumption) (by assumption) (rv_of (by k_extra "tu_up") (by assumption))
    | exact hret _ _ _ _ _ (by assumption) (by k_asm) (by k_asm) (by k_extra "sub_up") (by assumption) (by assumption) (by assumption) (by assumption) (rv_off (by assumption))
theorem law_root_says (x : Addr) (a b d top : Int) (t1 t2 : Tok) (h0 : 0 ≤ a) (ha : cd a.natAbs ≤ 100) (hd0 : 0 ≤ d) (hd1 : d ≤ 100) :
    SaysT w mean mg mb 10 230 [.ref x, .int d t1, .int top t2] (fun l => Tu l x a b) (fun l r => Rv l r (sqrtR a b d top)) := by
  unfold SaysT
  intro dp un gd cn cs ad ccd outer A₀ base g₀ h₀ L mm news s Q E B F X N T XB TB KD T0 hk hpre hd hu hret
  refine wpAny_call ?_
  k_dflt (refine' code_defS ?k1 ?k2 ?k3 ?k4 ?k5 ?XB ?TB ?D ?T0 ?kA ?k6 ?k7 ?k8 ?k9 ?kB ?_ ?cK ?c2 ?c3 ?c4 ?c5; (case kA => exact rfl); (case k2 => k_asm); (case k1 => k_asm); (case XB => assumption); (case TB => assumption); (case D => assumption); (case T0 => first | assumption | exact KtsTurn.refl); (case k3 => k_asm); (case k4 => k_asm); (case k5 => k_asm); (case k6 => k_is); (case k7 => k_is); (case k8 => first | exact room3 (by assumption) rfl | exact room2 (by assumption) rfl | ktr_room); (case k9 => exact BindsTo.of_eq rfl); (case kB => exact locs rfl); (case cK => first | assumption | exact rfl); (case c2 => exact rfl); (case c3 => exact rfl); (case c4 => exact rfl); (case c5 => decide); k_whole; intro g' L' h' FG' F' N' B' X' T' D'; (try dsimp only); (try k_lift B'); (try k_fold))
  k_steps
  all_goals first
    | exact hret _ _ _ _ _ (by assumption) (by k_asm) (by k_asm) (by k_extra "sub_up") (by assumption) (by assumption) (by assumption) (by assumption) (rv_of (by k_extra "tu_up") (by assumption))
    | exact hret _ _ _ _ _ (by assumption) (by k_asm) (by k_asm) (by k_extra "sub_up") (by assumption) (by assumption) (by assumption) (by assumption) (rv_off (by assumption))
theorem law_root_neg_says (x : Addr) (a b d top : Int) (t1 t2 : Tok) (h0 : a < 0) :
    SaysT w mean mg mb 10 230 [.ref x, .int d t1, .int top t2] (fun l => Tu l x a b) (fun l r => Rv l r none) := by
  unfold SaysT
  intro dp un gd cn cs ad ccd outer A₀ base g₀ h₀ L mm news s Q E B F X N T XB TB KD T0 hk hpre hd hu hret
  refine wpAny_call ?_
  k_dflt (refine' code_defS ?k1 ?k2 ?k3 ?k4 ?k5 ?XB ?TB ?D ?T0 ?kA ?k6 ?k7 ?k8 ?k9 ?kB ?_ ?cK ?c2 ?c3 ?c4 ?c5; (case kA => exact rfl); (case k2 => k_asm); (case k1 => k_asm); (case XB => assumption); (case TB => assumption); (case D => assumption); (case T0 => first | assumption | exact KtsTurn.refl); (case k3 => k_asm); (case k4 => k_asm); (case k5 => k_asm); (case k6 => k_is); (case k7 => k_is); (case k8 => first | exact room3 (by assumption) rfl | exact room2 (by assumption) rfl | ktr_room); (case k9 => exact BindsTo.of_eq rfl); (case kB => exact locs rfl); (case cK => first | assumption | exact rfl); (case c2 => exact rfl); (case c3 => exact rfl); (case c4 => exact rfl); (case c5 => decide); k_whole; intro g' L' h' FG' F' N' B' X' T' D'; (try dsimp only); (try k_lift B'); (try k_fold))
  k_steps
  all_goals first
    | exact hret _ _ _ _ _ (by assumption) (by k_asm) (by k_asm) (by k_extra "sub_up") (by assumption) (by assumption) (by assumption) (by assumption) (rv_off rfl)
theorem law_power_says (x p q : Addr) (a b c e d top : Int) (t1 t2 : Tok) (ha : cd a.natAbs ≤ 10) (hc : cd c.natAbs ≤ 10) (hb0 : -50 ≤ b) (hb1 : b ≤ 50) (he0 : -50 ≤ e) (he1 : e ≤ 50) (hd0 : 1 ≤ d) (hd1 : d ≤ 20) (ht : cd top.natAbs ≤ 10) :
    SaysT w mean mg mb 12 223 [.ref x, .int d t1, .int top t2] (fun l => TuR l x p q ∧ Tu l p a b ∧ Tu l q c e) (fun l r => Rv l r (realR a b c e d top)) := by
  unfold SaysT
  intro dp un gd cn cs ad ccd outer A₀ base g₀ h₀ L mm news s Q E B F X N T XB TB KD T0 hk hpre hd hu hret
  obtain ⟨hR, hT1, hT2⟩ := hpre
  refine wpAny_call ?_
  k_dflt (refine' code_defS ?k1 ?k2 ?k3 ?k4 ?k5 ?XB ?TB ?D ?T0 ?kA ?k6 ?k7 ?k8 ?k9 ?kB ?_ ?cK ?c2 ?c3 ?c4 ?c5; (case kA => exact rfl); (case k2 => k_asm); (case k1 => k_asm); (case XB => assumption); (case TB => assumption); (case D => assumption); (case T0 => first | assumption | exact KtsTurn.refl); (case k3 => k_asm); (case k4 => k_asm); (case k5 => k_asm); (case k6 => k_is); (case k7 => k_is); (case k8 => first | exact room3 (by assumption) rfl | exact room2 (by assumption) rfl | ktr_room); (case k9 => exact BindsTo.of_eq rfl); (case kB => exact locs rfl); (case cK => first | assumption | exact rfl); (case c2 => exact rfl); (case c3 => exact rfl); (case c4 => exact rfl); (case c5 => decide); k_whole; intro g' L' h' FG' F' N' B' X' T' D'; (try dsimp only); (try k_lift B'); (try k_fold))
  k_steps
  all_goals first
    | exact hret _ _ _ _ _ (by assumption) (by k_asm) (by k_asm) (by k_extra "sub_up") (by assumption) (by assumption) (by assumption) (by assumption) (rv_of (by k_extra "tu_up") (by assumption))
    | exact hret _ _ _ _ _ (by assumption) (by k_asm) (by k_asm) (by k_extra "sub_up") (by assumption) (by assumption) (by assumption) (by assumption) (rv_off (by assumption))
section
/-- behind a turn's body -/
def TurnPost (next : Shared → Prop) (Q : Flow → Shared → Prop) (f : Flow) (s : Shared) : Prop := match f with
  | .next | .cont => next s
  | .brk => Q .next s
  | .ret v => Q (.ret v) s
/-- what is left of a loop over a tuple -/
def Rest (prog : Program) (w : World) (A : Around) (env : Env) (target : Expr) (body : List Stmt) (Q : Flow → Shared → Prop) (E : Value → Shared → Prop) (I ax : Addr) (vs : Array Value) : Nat → Nat → Shared → Prop
  | 0, i, s => s.heap.IsTupleIter I ax i ∧ s.heap.IsTuple ax vs ∧ i = vs.size ∧ ax ≠ I ∧ ∀ h' tk, (∀ b o, b ≠ I → s.heap.get? b = some o → h'.get? b = some o) → Q .next { s with heap := h', toks := tk }
  | k + 1, i, s => s.heap.IsTupleIter I ax i ∧ s.heap.IsTuple ax vs ∧ i < vs.size ∧ ax ≠ I ∧ ∀ v h' tk, vs[i]? = some v → h'.IsTupleIter I ax (i + 1) → (∀ b o, b ≠ I → s.heap.get? b = some o → h'.get? b = some o) →
      wpAny (model prog w) A (assign target env v) (fun _ s₂ => wpAny (model prog w) A (execs body env) (TurnPost (Rest prog w A env target body Q E I ax vs k (i + 1)) Q) E s₂) E { s with heap := h', toks := tk }
def RestAt (prog : Program) (w : World) (A : Around) (env : Env) (target : Expr) (body : List Stmt) (Q : Flow → Shared → Prop) (E : Value → Shared → Prop) (it : Value) (s : Shared) : Prop :=
  ∃ I ax vs k, it = .ref I ∧ Rest prog w A env target body Q E I ax vs k 0 s
def ItO (o : Obj) (ax : Addr) (i : Nat) : Prop := o.cls = .type "tuple_iterator" ∧ o.data = .fields #[.ref ax, .int i 0]
variable {prog : Program} {A : Around} {env : Env} {target : Expr} {body : List Stmt} {Q : Flow → Shared → Prop} {E : Value → Shared → Prop} {I ax : Addr} {vs : Array Value} {s : Shared} {g : Heap} {m : Str → Option Value}
  {news post : List (Addr × Obj)} {o : Obj} {i k c : Nat} {v : Value}
theorem rest_loop (hh : A.handled = none) (hE : PassesOwn (model prog w) A env E) (h : Rest prog w A env target body Q E I ax vs k i s) :
    codeAny (model prog w) A (.forLoop target (.ref I) body [] env) (fun r s' => match r with | .ok f => Q f s' | .error e => cameBackBy (model prog w) A env E e s') s := by
  refine codeAny_forLoop_any (fun n s' => ∃ k i, n = k ∧ Rest prog w A env target body Q E I ax vs k i s') ?_ k ⟨k, i, rfl, h⟩
  rintro n s' ⟨k, i, rfl, hr⟩
  cases n with
  | zero =>
    obtain ⟨h1, h2, rfl, h4, hq⟩ := hr
    refine (Walks.tuple hh I ax h4 vs).done _ _ _ ⟨h1, h2⟩ fun h' tk hk => wpAny_execs_nil ?_
    exact hq h' tk fun b o hb e => hk b o (fun q => hb (List.mem_singleton.mp q)) e
  | succ n =>
    obtain ⟨h1, h2, h3, h4, hq⟩ := hr
    refine (Walks.tuple hh I ax h4 vs).item i _ _ _ h3 ⟨h1, h2⟩ fun v h' tk hP st hk => letGo_tupleiter st.1 ?_
    refine wpAny_mono (hq v h' tk hP st.1 fun b o hb e => hk b o (fun q => hb (List.mem_singleton.mp q)) e) (fun _ s₂ x => wpAny_passesOwn hE (wpAny_mono x (fun f s₃ y => ?_) fun _ _ e => e)) hE
    cases f with
    | next => exact ⟨n, Nat.lt_succ_self _, n, i + 1, rfl, y⟩
    | cont => exact ⟨n, Nat.lt_succ_self _, n, i + 1, rfl, y⟩
    | brk => exact y
    | ret v => exact y
theorem for_rest {iter : Expr} {pos : Pos} (hh : A.handled = none)
    (h : wpAny (model prog w) A (eval iter env) (fun xv s₁ => wpAny (model prog w) A (pyIter xv) (fun it s₂ => RestAt prog w A env target body Q E it s₂) E s₁) E s)
    (hs : ∀ x, foldedSetIterable iter env x = pure x := by intro _; rfl)
    (hE : PassesOwn (model prog w) A env E := by passes_own) :
    wpAny (model prog w) A (exec (.For target iter body [] pos) env) Q E s := by
  refine wpAny_For (wpAny_mono h (fun xv s₁ h₁ => wpAny_mono h₁ (fun it s₂ h₂ => ?_) fun _ _ e => e) fun _ _ e => e) hs
  obtain ⟨I, ax, vs, k, rfl, hr⟩ := h₂
  exact rest_loop hh hE hr
/-- the loop begins -/
theorem rest_iter {L : Addr} (hL : env.locals = L) (F : Fr g L s.heap m) (N : News g L s.heap news) (hax : (ax, ({ cls := .type "tuple", data := .seq vs c } : Obj)) ∈ news)
    (h : ∀ I o h', ItO o ax 0 → Fr g L h' m → News g L h' ((I, o) :: news) → (∀ p ∈ news, p.1 < I) → Rest prog w A env target body Q E I ax vs vs.size 0 { s with heap := h' }) :
    wpAny (model prog w) A (pyIter (.ref ax)) (fun it s₂ => RestAt prog w A env target body Q E it s₂) E s :=
  wpAny_pyIter_tuple ⟨_, (N _ hax).1, rfl, c, rfl⟩ ⟨_, ax, vs, vs.size, rfl, h _ _ _ ⟨rfl, rfl⟩ (F.push _) (N.push F _) fun p hp => Heap.lt_size (N p hp).1⟩
theorem rest_step {L : Addr} (hL : env.locals = L) (F : Fr g L s.heap m) (N : News g L s.heap news) (hlt : ∀ p ∈ post, p.1 < I) (hsub : ∀ p ∈ (I, o) :: post, p ∈ news) (ho : ItO o ax i)
    (hax : (ax, ({ cls := .type "tuple", data := .seq vs c } : Obj)) ∈ post) (hi : i < vs.size) (hv : vs[i]? = some v)
    (h : ∀ o' h' tk, ItO o' ax (i + 1) → Fr g L h' m → News g L h' ((I, o') :: post) → (∀ p ∈ post, p.1 < I) →
      wpAny (model prog w) A (assign target env v) (fun _ s₂ => wpAny (model prog w) A (execs body env) (TurnPost (Rest prog w A env target body Q E I ax vs k (i + 1)) Q) E s₂) E { s with heap := h', toks := tk }) :
    Rest prog w A env target body Q E I ax vs (k + 1) i s := by
  have nI := N _ (hsub _ (.head _))
  have na := N _ (hsub _ (.tail _ hax))
  refine ⟨⟨_, nI.1, ho.1, ho.2⟩, ⟨_, na.1, rfl, c, rfl⟩, hi, Nat.ne_of_lt (hlt _ hax), fun v' h' tk hv' hit hk => ?_⟩
  obtain rfl : v = v' := Option.some.inj (hv.symm.trans hv')
  obtain ⟨o', ho', hc', hd'⟩ := hit
  refine h o' h' tk ⟨hc', hd'⟩ ⟨F.ns.at' fun o e => hk _ o (fun q => nI.2.1 q.symm) e, fun b o e => hk b o (fun q => by have := nI.2.2; rw [q, this] at e; cases e) (F.keep b o e), F.above⟩ (fun p hp => ?_) hlt
  rcases List.mem_cons.mp hp with rfl | hp
  · exact ⟨ho', nI.2⟩
  · have := N p (hsub _ (.tail _ hp))
    exact ⟨hk _ _ (Nat.ne_of_lt (hlt p hp)) this.1, this.2⟩
theorem rest_done {L : Addr} (hL : env.locals = L) (F : Fr g L s.heap m) (N : News g L s.heap news) (hlt : ∀ p ∈ post, p.1 < I) (hsub : ∀ p ∈ (I, o) :: post, p ∈ news) (ho : ItO o ax i)
    (hax : (ax, ({ cls := .type "tuple", data := .seq vs c } : Obj)) ∈ post) (hi : i = vs.size)
    (h : ∀ h' tk, Fr g L h' m → News g L h' post → Q .next { s with heap := h', toks := tk }) : Rest prog w A env target body Q E I ax vs 0 i s := by
  have nI := N _ (hsub _ (.head _))
  have na := N _ (hsub _ (.tail _ hax))
  refine ⟨⟨_, nI.1, ho.1, ho.2⟩, ⟨_, na.1, rfl, c, rfl⟩, hi, Nat.ne_of_lt (hlt _ hax), fun h' tk hk => ?_⟩
  refine h h' tk ⟨F.ns.at' fun o e => hk _ o (fun q => nI.2.1 q.symm) e, fun b o e => hk b o (fun q => by have := nI.2.2; rw [q, this] at e; cases e) (F.keep b o e), F.above⟩ (fun p hp => ?_)
  have := N p (hsub _ (.tail _ hp))
  exact ⟨hk _ _ (Nat.ne_of_lt (hlt p hp)) this.1, this.2⟩
theorem rest_stepN {L : Addr} (hL : env.locals = L) (F : Fr g L s.heap m) (N : News g L s.heap ((I, o) :: post)) (hlt : ∀ p ∈ post, p.1 < I) (ho : ItO o ax i)
    (hax : (ax, ({ cls := .type "tuple", data := .seq vs c } : Obj)) ∈ post) (hi : i < vs.size) (hv : vs[i]? = some v)
    (h : ∀ o' h' tk, ItO o' ax (i + 1) → Fr g L h' m → News g L h' ((I, o') :: post) → (∀ p ∈ post, p.1 < I) →
      wpAny (model prog w) A (assign target env v) (fun _ s₂ => wpAny (model prog w) A (execs body env) (TurnPost (Rest prog w A env target body Q E I ax vs k (i + 1)) Q) E s₂) E { s with heap := h', toks := tk }) :
    Rest prog w A env target body Q E I ax vs (k + 1) i s := rest_step hL F N hlt sub_id ho hax hi hv h
theorem rest_doneN {L : Addr} (hL : env.locals = L) (F : Fr g L s.heap m) (N : News g L s.heap ((I, o) :: post)) (hlt : ∀ p ∈ post, p.1 < I) (ho : ItO o ax i)
    (hax : (ax, ({ cls := .type "tuple", data := .seq vs c } : Obj)) ∈ post) (hi : i = vs.size)
    (h : ∀ h' tk, Fr g L h' m → News g L h' post → Q .next { s with heap := h', toks := tk }) : Rest prog w A env target body Q E I ax vs 0 i s := rest_done hL F N hlt sub_id ho hax hi h
theorem at2_0 {a b : Value} : (#[a, b] : Array Value)[0]? = some a := rfl
theorem at2_1 {a b : Value} : (#[a, b] : Array Value)[1]? = some b := rfl
theorem at4_0 {a b c d : Value} : (#[a, b, c, d] : Array Value)[0]? = some a := rfl
theorem at4_1 {a b c d : Value} : (#[a, b, c, d] : Array Value)[1]? = some b := rfl
theorem at4_2 {a b c d : Value} : (#[a, b, c, d] : Array Value)[2]? = some c := rfl
theorem at4_3 {a b c d : Value} : (#[a, b, c, d] : Array Value)[3]? = some d := rfl
theorem turnPost_next {next : Shared → Prop} (h : next s) : TurnPost next Q .next s := h
theorem turnPost_cont {next : Shared → Prop} (h : next s) : TurnPost next Q .cont s := h
theorem turnPost_ret {next : Shared → Prop} (h : Q (.ret v) s) : TurnPost next Q (.ret v) s := h
theorem lt_upd1 {q : Addr × Obj} {D : Addr} {x x' : Obj} {l : List (Addr × Obj)} (h : ∀ p ∈ q :: (D, x) :: l, p.1 < I) : ∀ p ∈ q :: (D, x') :: l, p.1 < I := fun p hp => by
  rcases List.mem_cons.mp hp with rfl | hp
  · exact h _ (.head _)
  · rcases List.mem_cons.mp hp with rfl | hp
    · exact h (D, x) (.tail _ (.head _))
    · exact h _ (.tail _ (.tail _ hp))
theorem append_here {L D : Addr} {t : Obj} {its : Array Value} {x : Value} {X1 : Prop} {QV : Value → Shared → Prop} {n : Nat} (F : Fr g L s.heap m) (N : News g L s.heap ((I, o) :: (ax, t) :: (D, listOf its n) :: post)) (hI : ∀ p ∈ (ax, t) :: (D, listOf its n) :: post, p.1 < I) (hA : D < ax ∧ X1) (hD : ∀ p ∈ post, p.1 < D) (hz : its.size ≤ 5)
    (h : ∀ h', Fr g L h' m → News g L h' ((I, o) :: (ax, t) :: (D, listOf (its.push x) (n + 1)) :: post) → (∀ p ∈ (ax, t) :: (D, listOf (its.push x) (n + 1)) :: post, p.1 < I) → QV .none { s with heap := h' }) :
    wpAny (model prog w) A (call (.builtin "list.append") [.ref D, x]) QV E s :=
  append_K F N (.tail (Nat.ne_of_gt (hI (D, listOf its n) (.tail _ (.head _)))) (.tail (Nat.ne_of_gt hA.1) (.head fun p hp => Nat.ne_of_lt (hD p hp))))
    (fun h' F' N' => h h' F' N' (lt_upd1 hI)) (Nat.le_trans hz (by decide))
end
theorem ln36 : True := by
  k_with_none
  k_with "tu_up" => first | with_reducible assumption | exact Tu.of (List.Mem.head _) | exact Tu.nought | (apply Tu.cons; k_extra "tu_up") | (apply Tu.app; k_extra "tu_up")
  k_with "tu3_up" => first | with_reducible assumption | exact Tu3.of (List.Mem.head _) | (refine Tu3.cons ?_; k_extra "tu3_up") | (refine Tu3.app ?_; k_extra "tu3_up")
  k_with "tur_up" => first | with_reducible assumption | exact TuR.of (List.Mem.head _) | (apply TuR.cons; k_extra "tur_up") | (apply TuR.app; k_extra "tur_up")
  k_with "rv_up" => first | with_reducible assumption | (refine Rv.cons ?_; k_extra "rv_up") | (refine Rv.app ?_; k_extra "rv_up")
  k_with "sub_up" => first | with_reducible assumption | exact sub_id | (refine sub_cons ?_; k_extra "sub_up") | (refine sub_app ?_; k_extra "sub_up")
  k_with "subscriptTail" => (k_here; (with_reducible show wpAny _ _ (subscriptTail _ _ (Value.ref _) (Value.int 0 _)) _ _ _); k_dflt (first | (refine' tu_item0 ?Fr9 ?Xr9 ?Nr9 ?Tr9 ?_ ?hsr9; (case Fr9 => k_asm); (case Xr9 => k_asm); (case Nr9 => k_asm); (case Tr9 => k_extra "tu_up"); (case hsr9 => with_unfolding_all rfl); k_whole; intro _) | (refine' tu_ref0 ?Nr9 ?Tr9 ?_ ?hsr9; (case Nr9 => k_asm); (case Tr9 => k_extra "tur_up"); (case hsr9 => with_unfolding_all rfl); k_whole)))
  k_with "subscriptTail" => (k_here; (with_reducible show wpAny _ _ (subscriptTail _ _ (Value.ref _) (Value.int 1 _)) _ _ _); k_dflt (first | (refine' tu_item1 ?Fr10 ?Xr10 ?Nr10 ?Tr10 ?_ ?hsr10; (case Fr10 => k_asm); (case Xr10 => k_asm); (case Nr10 => k_asm); (case Tr10 => k_extra "tu_up"); (case hsr10 => with_unfolding_all rfl); k_whole; intro _) | (refine' tu_ref1 ?Nr10 ?Tr10 ?_ ?hsr10; (case Nr10 => k_asm); (case Tr10 => k_extra "tur_up"); (case hsr10 => with_unfolding_all rfl); k_whole)))
  k_with "assign Tuple" => (k_here; (with_reducible show wpAny _ _ (assign (Expr.Tuple _ _ _) _ (Value.ref _)) _ _ _); k_dflt (first | (refine' tu_unpack ?Fr11 ?Xr11 ?Nr11 ?Tr11 ?k4r11 ?k5r11 ?k6r11 ?_; (case Fr11 => k_asm); (case Xr11 => k_asm); (case Nr11 => k_asm); (case Tr11 => k_extra "tu_up"); (case k4r11 => exact rfl); (case k5r11 => exact rfl); (case k6r11 => exact rfl); k_whole; intro _ _ h' F' N') | (refine' tu_unpack3 ?Fr11 ?Nr11 ?Tr11 ?k4r11 ?k5r11 ?k6r11 ?_; (case Fr11 => k_asm); (case Nr11 => k_asm); (case Tr11 => k_extra "tu3_up"); (case k4r11 => exact rfl); (case k5r11 => exact rfl); (case k6r11 => exact rfl); k_whole; intro _ _ _ h' F' N')); (try k_sweep))
  k_with "binaryOp Mult int int" => (k_here; with_reducible refine mul_int ?_ (by assumption))
  k_with "binaryOp FloorDiv int int" => (k_here; (with_reducible refine floordiv_int ?h0r13 ?_ (Or.inl (PyProof.noPylong_of_log2 ?hlr13))); (case h0r13 => first | assumption | omega); (case hlr13 => assumption))
  k_with "inplaceOp FloorDiv int int" => (k_here; (with_reducible refine ifloordiv_int ?h0r14 ?_ (Or.inl (PyProof.noPylong_of_log2 ?hlr14))); (case h0r14 => first | assumption | omega); (case hlr14 => assumption))
  k_with "binaryOp Pow int int" => (k_here; (with_reducible refine pow_int_small ?ar15 ?br15 ?cr15 ?_); (case ar15 => omega); (case br15 => omega); (case cr15 => decide))
  k_with "call builtin:divmod" => (k_here; (with_reducible show wpAny _ _ (call (Value.builtin _) [Value.int _ _, Value.int _ _]) _ _ _); (refine divmod_N (by k_asm) (by k_asm) (by assumption) ?_ (Or.inl (PyProof.noPylong_of_log2 (by assumption)))); intro h' F' N'; (try k_sweep))
  k_with "exec Raise some none" => (k_here; refine raise44 rfl ?_)
  k_with "RaisePost" => (k_here; refine' raisePost ?Fr18 ?Xr18 ?Nr18 ?_; (case Fr18 => k_asm); (case Xr18 => k_asm); (case Nr18 => k_asm))
  k_with "call ref" => (k_here; (with_reducible show wpAny _ _ (call (Value.ref 44) [Value.str _ _]) _ _ _); k_dflt (refine' call_fault ?k1r19 ?k2r19 ?k3r19 ?k4r19 ?k5r19 ?kKr19 ?kdr19 ?_; (case k1r19 => k_asm); (case k2r19 => k_asm); (case k3r19 => k_asm); (case k4r19 => k_asm); (case k5r19 => k_asm); (case kKr19 => first | exact rfl | assumption); (case kdr19 => first | exact room3 (by assumption) rfl | exact room2 (by assumption) rfl | ktr_room); k_whole); intro h' e' t' d' tk' F' N' l1' l2' l3'; (try dsimp only); (try k_sweep))
  k_with "leaving ref" => (k_here; k_dflt (first | (refine' leave_fault ?Kr20 ?Fr20 ?Nr20 ?h1r20 ?h2r20 ?h3r20 sub_id ?_; (case Kr20 => assumption); (case Fr20 => k_asm); (case Nr20 => k_asm); (case h1r20 => assumption); (case h2r20 => assumption); (case h3r20 => assumption); k_whole; intro h' R' U') | (refine' leave_onS ?Kr20 ?Fr20 ?Rr20 ?Ur20 ?_; (case Rr20 => assumption); (case Fr20 => assumption); (case Kr20 => assumption); (case Ur20 => assumption); k_whole; intro h' R' K' U'; clear K')))
  k_with "execs cons" => (k_here; (with_reducible show wpAny _ _ _ _ _ (Shared.mk _ _ _ (_ + 1) _)); (with_reducible refine gen_toks (s := Shared.mk _ _ _ 0 _) ?_); intro tk'; (try dsimp only))
  k_with "execs nil" => (k_here; (with_reducible show wpAny _ _ _ _ _ (Shared.mk _ _ _ (_ + 1) _)); (with_reducible refine gen_toks (s := Shared.mk _ _ _ 0 _) ?_); intro tk'; (try dsimp only))
  k_with "newTuple" => (k_here; (with_reducible show wpAny _ _ (newTuple [Value.int _ _, Value.int _ _]) _ _ _); k_dflt (refine' newTuple_Tu ?Fr41 ?Nr41 ?_; (case Fr41 => k_asm); (case Nr41 => k_asm)); intro D' h' F' N' T' l1; (try k_lt l1); (try k_sweep))
  k_with "newTuple" => (k_here; (with_reducible show wpAny _ _ (newTuple [Value.ref _, Value.ref _]) _ _ _); k_dflt (refine' newTuple_TuR ?Fr42 ?Nr42 ?_; (case Fr42 => k_asm); (case Nr42 => k_asm)); intro D' h' F' N' T' l1; (try k_lt l1); (try k_sweep))
  k_with "exec For Name Tuple cons nil" => (k_here; (with_unfolding_all refine' for_rest ?hr47 ?_; (case hr47 => exact rfl); k_whole))
  k_with "pyIter ref" => (k_here; (with_reducible show wpAny _ _ (pyIter (Value.ref _)) (fun it s₂ => RestAt _ _ _ _ _ _ _ _ it s₂) _ _); (refine' rest_iter ?eLr48 ?Fr48 ?Nr48 ?mr48 ?_; (case eLr48 => exact rfl); (case Fr48 => k_asm); (case Nr48 => k_asm); (case mr48 => exact List.Mem.head _)); intro I' o' h' io' F' N' l1')
  k_with "Rest" => (k_here; first | (refine' rest_step ?eLr49 ?Fr49 ?Nr49 ?lr49 ?sr49 ?or49 ?mr49 ?ir49 ?vr49 ?_; (case eLr49 => exact rfl); (case Fr49 => k_asm); (case Nr49 => k_asm); (case lr49 => assumption); (case or49 => assumption); (case sr49 => k_extra "sub_up"); (case mr49 => k_extra "mem_up"); (case ir49 => exact Nat.le_of_ble_eq_true rfl); (case vr49 => first | exact at2_0 | exact at2_1 | exact at4_0 | exact at4_1 | exact at4_2 | exact at4_3); intro o' h' tk' io' F' N' l1') | (refine' rest_done ?eLr49 ?Fr49 ?Nr49 ?lr49 ?sr49 ?or49 ?mr49 ?ir49 ?_; (case eLr49 => exact rfl); (case Fr49 => k_asm); (case Nr49 => k_asm); (case lr49 => assumption); (case or49 => assumption); (case sr49 => k_extra "sub_up"); (case mr49 => k_extra "mem_up"); (case ir49 => exact rfl); intro h' tk' F' N') | (refine' rest_stepN ?eLr49 ?Fr49 ?Nr49 ?lr49 ?or49 ?mr49 ?ir49 ?vr49 ?_; (case eLr49 => exact rfl); (case Fr49 => k_asm); (case Nr49 => k_asm); (case lr49 => exact lt_upd1 (by assumption)); (case or49 => assumption); (case mr49 => k_extra "mem_up"); (case ir49 => exact Nat.le_of_ble_eq_true rfl); (case vr49 => first | exact at2_0 | exact at2_1 | exact at4_0 | exact at4_1 | exact at4_2 | exact at4_3); intro o' h' tk' io' F' N' l1') | (refine' rest_doneN ?eLr49 ?Fr49 ?Nr49 ?lr49 ?or49 ?mr49 ?ir49 ?_; (case eLr49 => exact rfl); (case Fr49 => k_asm); (case Nr49 => k_asm); (case lr49 => exact lt_upd1 (by assumption)); (case or49 => assumption); (case mr49 => k_extra "mem_up"); (case ir49 => exact rfl); intro h' tk' F' N'))
  k_with "mem_up" => first | exact List.Mem.head _ | (refine List.Mem.tail _ ?_; k_extra "mem_up") | (refine List.mem_append_right _ ?_; k_extra "mem_up")
  k_with "TurnPost" => first | refine turnPost_next ?_ | refine turnPost_ret ?_ | refine turnPost_cont ?_
  k_with "call builtin:list.append" => (k_here; (refine' append_here ?Fr52 ?Nr52 ?hIr52 ?hAr52 ?hDr52 ?hzr52 ?_; (case Fr52 => k_asm); (case Nr52 => assumption); (case hIr52 => assumption); (case hAr52 => assumption); (case hDr52 => assumption); (case hzr52 => exact Nat.le_of_ble_eq_true rfl)); intro h' F' N' l1')
  k_with "call ref" => (k_here; (with_reducible show wpAny _ _ (call (Value.ref 54) [Value.int _ _]) _ _ _); k_dflt (refine' says_useI (count_digits_says _ _) ?k1r23 ?k2r23 ?k3r23 ?k4r23 ?k5r23 ?kKr23 ?kpr23 ?kdr23 ?kur23 ?_ (fun h => h.elim); (case k1r23 => k_asm); (case k2r23 => k_asm); (case k3r23 => k_asm); (case k4r23 => k_asm); (case k5r23 => k_asm); (case kKr23 => first | exact rfl | assumption); (case kpr23 => trivial); (case kdr23 => first | exact room3 (by assumption) rfl | exact room2 (by assumption) rfl | ktr_room); (case kur23 => first | exact room3 (by assumption) rfl | ktr_units)); intro r' tl' h' tk' F' N' P'; obtain ⟨t', e'⟩ := P'; subst e'; (try dsimp only); (try k_fold); (try k_sweep))
  k_with "call ref" => (k_here; (with_reducible show wpAny _ _ (call (Value.ref 61) [Value.int _ _, Value.int _ _]) _ _ _); k_dflt (refine' says_useT (strip_zeros_says _ _ _ _) ?k1r24 ?k2r24 ?k3r24 ?k4r24 ?k5r24 ?kKr24 ?kpr24 ?kdr24 ?kur24 (fun _ _ _ hs h => h.mono hs) ?_ (fun h => h.elim); (case k1r24 => k_asm); (case k2r24 => k_asm); (case k3r24 => k_asm); (case k4r24 => k_asm); (case k5r24 => k_asm); (case kKr24 => first | exact rfl | assumption); (case kpr24 => trivial); (case kdr24 => first | exact room3 (by assumption) rfl | exact room2 (by assumption) rfl | ktr_room); (case kur24 => first | exact room3 (by assumption) rfl | ktr_units)); intro r' tl' h' tk' F' N' P'; obtain ⟨x', e', T'⟩ := P'; subst e'; (try dsimp only); (try k_fold); (try k_sweep))
  k_with "call ref" => (k_here; (with_reducible show wpAny _ _ (call (Value.ref 68) [Value.int _ _, Value.int _ _, Value.int _ _]) _ _ _); k_dflt (refine' says_useT (round_digits_says _ _ _ _ _ _ (by first | assumption | omega) (by first | assumption | omega)) ?k1r25 ?k2r25 ?k3r25 ?k4r25 ?k5r25 ?kKr25 ?kpr25 ?kdr25 ?kur25 (fun _ _ _ hs h => h.mono hs) ?_ (fun h => h.elim); (case k1r25 => k_asm); (case k2r25 => k_asm); (case k3r25 => k_asm); (case k4r25 => k_asm); (case k5r25 => k_asm); (case kKr25 => first | exact rfl | assumption); (case kpr25 => trivial); (case kdr25 => first | exact room3 (by assumption) rfl | exact room2 (by assumption) rfl | ktr_room); (case kur25 => first | exact room3 (by assumption) rfl | ktr_units)); intro r' tl' h' tk' F' N' P'; obtain ⟨x', e', T'⟩ := P'; subst e'; (try dsimp only); (try k_fold); (try k_sweep))
  k_with "call ref" => (k_here; (with_reducible show wpAny _ _ (call (Value.ref 75) [Value.int _ _, Value.int _ _, Value.int _ _, Value.int _ _]) _ _ _); k_dflt (refine' says_useT (round_real_says _ _ _ _ _ _ _ _ (by first | assumption | omega | exact expP_cd (by assumption) (by assumption) (by assumption) (by assumption) (tooG_lead2 (by assumption) (by assumption))) (by first | assumption | omega)) ?k1r26 ?k2r26 ?k3r26 ?k4r26 ?k5r26 ?kKr26 ?kpr26 ?kdr26 ?kur26 (fun _ _ _ hs h => h.mono hs) ?_ ?_; (case k1r26 => k_asm); (case k2r26 => k_asm); (case k3r26 => k_asm); (case k4r26 => k_asm); (case k5r26 => k_asm); (case kKr26 => first | exact rfl | assumption); (case kpr26 => trivial); (case kdr26 => first | exact room3 (by assumption) rfl | exact room2 (by assumption) rfl | ktr_room); (case kur26 => first | exact room3 (by assumption) rfl | ktr_units)); (intro r' tl' h' tk' F' N' P'; obtain ⟨x', a', b', e', T', O'⟩ := P'; subst e'; (try dsimp only); (try k_fold); (try k_sweep)); rotate_left; (intro c' e' t' vs' g' h' tk' F' R' U'; (try dsimp only); (try k_fold)); rotate_left)
  k_with "call ref" => (k_here; (with_reducible show wpAny _ _ (call (Value.ref 82) [Value.ref _, Value.ref _]) _ _ _); k_dflt (refine' says_useT (exact_mul_says _ _ _ _ _ _ ?hmr27) ?k1r27 ?k2r27 ?k3r27 ?k4r27 ?k5r27 ?kKr27 ?kpr27 ?kdr27 ?kur27 (fun _ _ _ hs h => h.mono hs) ?_ (fun h => h.elim); (case k1r27 => k_asm); (case k2r27 => k_asm); (case k3r27 => k_asm); (case k4r27 => k_asm); (case k5r27 => k_asm); (case kKr27 => first | exact rfl | assumption); (case kpr27 => exact ⟨by k_extra "tu_up", by k_extra "tu_up"⟩); (case kdr27 => first | exact room3 (by assumption) rfl | exact room2 (by assumption) rfl | ktr_room); (case kur27 => first | exact room3 (by assumption) rfl | ktr_units); (case hmr27 => assumption)); intro r' tl' h' tk' F' N' P'; obtain ⟨x', e', T'⟩ := P'; subst e'; (try dsimp only); (try k_fold); (try k_sweep))
  k_with "call ref" => (k_here; (with_reducible show wpAny _ _ (call (Value.ref 89) [Value.ref _]) _ _ _); k_dflt (refine' says_useI (lead_of_says _ _ _) ?k1r28 ?k2r28 ?k3r28 ?k4r28 ?k5r28 ?kKr28 ?kpr28 ?kdr28 ?kur28 ?_ (fun h => h.elim); (case k1r28 => k_asm); (case k2r28 => k_asm); (case k3r28 => k_asm); (case k4r28 => k_asm); (case k5r28 => k_asm); (case kKr28 => first | exact rfl | assumption); (case kpr28 => k_extra "tu_up"); (case kdr28 => first | exact room3 (by assumption) rfl | exact room2 (by assumption) rfl | ktr_room); (case kur28 => first | exact room3 (by assumption) rfl | ktr_units)); intro r' tl' h' tk' F' N' P'; obtain ⟨t', e'⟩ := P'; subst e'; (try dsimp only); (try k_fold); (try k_sweep))
  k_with "call ref" => (k_here; (with_reducible show wpAny _ _ (call (Value.ref 96) [Value.ref _, Value.int _ _]) _ _ _); k_dflt (refine' says_useI (places_for_says _ _ _ _ _) ?k1r29 ?k2r29 ?k3r29 ?k4r29 ?k5r29 ?kKr29 ?kpr29 ?kdr29 ?kur29 ?_ (fun h => h.elim); (case k1r29 => k_asm); (case k2r29 => k_asm); (case k3r29 => k_asm); (case k4r29 => k_asm); (case k5r29 => k_asm); (case kKr29 => first | exact rfl | assumption); (case kpr29 => k_extra "tu_up"); (case kdr29 => first | exact room3 (by assumption) rfl | exact room2 (by assumption) rfl | ktr_room); (case kur29 => first | exact room3 (by assumption) rfl | ktr_units)); intro r' tl' h' tk' F' N' P'; obtain ⟨t', e'⟩ := P'; subst e'; (try dsimp only); (try k_fold); (try k_sweep))
  k_with "call ref" => (k_here; (with_reducible show wpAny _ _ (call (Value.ref 103) [Value.ref _, Value.int _ _]) _ _ _); k_dflt (refine' says_useI (fixed_says _ _ _ _ _ ?har30 ?h1r30 ?h2r30) ?k1r30 ?k2r30 ?k3r30 ?k4r30 ?k5r30 ?kKr30 ?kpr30 ?kdr30 ?kur30 ?_ (fun h => h.elim); (case k1r30 => k_asm); (case k2r30 => k_asm); (case k3r30 => k_asm); (case k4r30 => k_asm); (case k5r30 => k_asm); (case kKr30 => first | exact rfl | assumption); (case kpr30 => k_extra "tu_up"); (case kdr30 => first | exact room3 (by assumption) rfl | exact room2 (by assumption) rfl | ktr_room); (case kur30 => first | exact room3 (by assumption) rfl | ktr_units); (case har30 => assumption); (case h1r30 => first | assumption | omega); (case h2r30 => first | assumption | omega)); intro r' tl' h' tk' F' N' P'; obtain ⟨t', e'⟩ := P'; subst e'; (try dsimp only); (try k_fold); (try k_sweep))
  k_with "call ref" => (k_here; (with_reducible show wpAny _ _ (call (Value.ref 152) [Value.ref _, Value.int _ _]) _ _ _); k_dflt (refine' says_useI (is_too_great_says _ _ _ _ _) ?k1r31 ?k2r31 ?k3r31 ?k4r31 ?k5r31 ?kKr31 ?kpr31 ?kdr31 ?kur31 ?_ (fun h => h.elim); (case k1r31 => k_asm); (case k2r31 => k_asm); (case k3r31 => k_asm); (case k4r31 => k_asm); (case k5r31 => k_asm); (case kKr31 => first | exact rfl | assumption); (case kpr31 => k_extra "tu_up"); (case kdr31 => first | exact room3 (by assumption) rfl | exact room2 (by assumption) rfl | ktr_room); (case kur31 => first | exact room3 (by assumption) rfl | ktr_units)); intro r' tl' h' tk' F' N' P'; subst P'; (try dsimp only); (try k_fold); (try k_sweep))
  k_with "call ref" => (k_here; (with_reducible show wpAny _ _ (call (Value.ref 110) [Value.int _ _]) _ _ _); k_dflt (refine' says_useI (whole_root_says _ _ ?h0r32 ?hcr32) ?k1r32 ?k2r32 ?k3r32 ?k4r32 ?k5r32 ?kKr32 ?kpr32 ?kdr32 ?kur32 ?_ (fun h => h.elim); (case k1r32 => k_asm); (case k2r32 => k_asm); (case k3r32 => k_asm); (case k4r32 => k_asm); (case k5r32 => k_asm); (case kKr32 => first | exact rfl | assumption); (case kpr32 => trivial); (case kdr32 => first | exact room3 (by assumption) rfl | exact room2 (by assumption) rfl | ktr_room); (case kur32 => first | exact room3 (by assumption) rfl | ktr_units); (case h0r32 => first | assumption | omega); (case hcr32 => first | assumption | omega)); intro r' tl' h' tk' F' N' P'; obtain ⟨t', e'⟩ := P'; subst e'; (try dsimp only); (try k_fold); (try k_sweep))
  k_with "call ref" => (k_here; (with_reducible show wpAny _ _ (call (Value.ref 117) [Value.ref _, Value.int _ _, Value.int _ _]) _ _ _); k_dflt (refine' says_useT (sqrt_real_says _ _ _ _ _ _ _ ?h0r33 ?har33 ?hd0r33 ?hd1r33) ?k1r33 ?k2r33 ?k3r33 ?k4r33 ?k5r33 ?kKr33 ?kpr33 ?kdr33 ?kur33 (fun _ _ _ hs h => h.mono hs) ?_ ?_; (case k1r33 => k_asm); (case k2r33 => k_asm); (case k3r33 => k_asm); (case k4r33 => k_asm); (case k5r33 => k_asm); (case kKr33 => first | exact rfl | assumption); (case kpr33 => k_extra "tu_up"); (case kdr33 => first | exact room3 (by assumption) rfl | exact room2 (by assumption) rfl | ktr_room); (case kur33 => first | exact room3 (by assumption) rfl | ktr_units); (case h0r33 => first | assumption | omega); (case har33 => first | assumption | omega); (case hd0r33 => first | assumption | omega); (case hd1r33 => first | assumption | omega)); (intro r' tl' h' tk' F' N' P'; obtain ⟨x', a', b', e', T', O'⟩ := P'; subst e'; (try dsimp only); (try k_fold); (try k_sweep)); rotate_left; (intro c' e' t' vs' g' h' tk' F' R' U'; (try dsimp only); (try k_fold)); rotate_left)
  k_with "call ref" => (k_here; (with_reducible show wpAny _ _ (call (Value.ref 117) [Value.ref _, Value.int _ _, Value.int _ _]) _ _ _); k_dflt (refine' says_useI (sqrt_neg_says _ _ _ _ _ _ _ ?h0r34) ?k1r34 ?k2r34 ?k3r34 ?k4r34 ?k5r34 ?kKr34 ?kpr34 ?kdr34 ?kur34 ?_ ?_; (case k1r34 => k_asm); (case k2r34 => k_asm); (case k3r34 => k_asm); (case k4r34 => k_asm); (case k5r34 => k_asm); (case kKr34 => first | exact rfl | assumption); (case kpr34 => k_extra "tu_up"); (case kdr34 => first | exact room3 (by assumption) rfl | exact room2 (by assumption) rfl | ktr_room); (case kur34 => first | exact room3 (by assumption) rfl | ktr_units); (case h0r34 => first | assumption | omega)); (intro r' tl' h' tk' F' N' P'; exact P'.elim); (intro c' e' t' vs' g' h' tk' F' R' U'; (try dsimp only); (try k_fold)))
  k_with "call ref" => (k_here; (with_reducible show wpAny _ _ (call (Value.ref 124) [Value.int _ _, Value.int _ _, Value.int _ _]) _ _ _); k_dflt (refine' says_useI (inverse_series_says _ _ _ _ _ ?h2r35 ?h3r35 ?hp0r35 ?hpr35) ?k1r35 ?k2r35 ?k3r35 ?k4r35 ?k5r35 ?kKr35 ?kpr35 ?kdr35 ?kur35 ?_ (fun h => h.elim); (case k1r35 => k_asm); (case k2r35 => k_asm); (case k3r35 => k_asm); (case k4r35 => k_asm); (case k5r35 => k_asm); (case kKr35 => first | exact rfl | assumption); (case kpr35 => trivial); (case kdr35 => first | exact room3 (by assumption) rfl | exact room2 (by assumption) rfl | ktr_room); (case kur35 => first | exact room3 (by assumption) rfl | ktr_units); (case h2r35 => first | assumption | omega); (case h3r35 => first | assumption | omega); (case hp0r35 => first | assumption | omega); (case hpr35 => first | assumption | omega)); intro r' tl' h' tk' F' N' P'; obtain ⟨t', e'⟩ := P'; subst e'; (try dsimp only); (try k_fold); (try k_sweep))
  k_with "call ref" => (k_here; (with_reducible show wpAny _ _ (call (Value.ref 131) [Value.int _ _]) _ _ _); k_dflt (refine' says_useI (log_of_ten_says _ _ ?hp0r36 ?hpr36) ?k1r36 ?k2r36 ?k3r36 ?k4r36 ?k5r36 ?kKr36 ?kpr36 ?kdr36 ?kur36 ?_ (fun h => h.elim); (case k1r36 => k_asm); (case k2r36 => k_asm); (case k3r36 => k_asm); (case k4r36 => k_asm); (case k5r36 => k_asm); (case kKr36 => first | exact rfl | assumption); (case kpr36 => trivial); (case kdr36 => first | exact room3 (by assumption) rfl | exact room2 (by assumption) rfl | ktr_room); (case kur36 => first | exact room3 (by assumption) rfl | ktr_units); (case hp0r36 => first | assumption | omega); (case hpr36 => first | assumption | omega)); intro r' tl' h' tk' F' N' P'; obtain ⟨t', e'⟩ := P'; subst e'; (try dsimp only); (try k_fold); (try k_sweep))
  k_with "call ref" => (k_here; (with_reducible show wpAny _ _ (call (Value.ref 159) [Value.ref _, Value.int _ _, Value.int _ _]) _ _ _); k_dflt (refine' says_useT (exp_real_says _ _ _ _ _ _ _ ?har39 ?hd0r39 ?hd1r39 ?hb0r39 ?hb1r39 ?htr39) ?k1r39 ?k2r39 ?k3r39 ?k4r39 ?k5r39 ?kKr39 ?kpr39 ?kdr39 ?kur39 (fun _ _ _ hs h => h.mono hs) ?_ ?_; (case k1r39 => k_asm); (case k2r39 => k_asm); (case k3r39 => k_asm); (case k4r39 => k_asm); (case k5r39 => k_asm); (case kKr39 => first | exact rfl | assumption); (case kpr39 => k_extra "tu_up"); (case kdr39 => first | exact room3 (by assumption) rfl | exact room2 (by assumption) rfl | ktr_room); (case kur39 => first | exact room3 (by assumption) rfl | ktr_units); (case har39 => first | assumption | omega); (case hd0r39 => first | assumption | omega); (case hd1r39 => first | assumption | omega); (case hb0r39 => first | assumption | omega); (case hb1r39 => first | assumption | omega); (case htr39 => first | assumption | omega)); (intro r' tl' h' tk' F' N' P'; obtain ⟨x', a', b', e', T', O'⟩ := P'; subst e'; (try dsimp only); (try k_fold); (try k_sweep)); rotate_left; (intro c' e' t' vs' g' h' tk' F' R' U'; (try dsimp only); (try k_fold)); rotate_left)
  k_with "call ref" => (k_here; (with_reducible show wpAny _ _ (call (Value.ref 166) [Value.ref _, Value.int _ _]) _ _ _); k_dflt (refine' says_useT (log_parts_says _ _ _ _ _ ?h0r40 ?har40 ?hd0r40 ?hd1r40 ?hlr40) ?k1r40 ?k2r40 ?k3r40 ?k4r40 ?k5r40 ?kKr40 ?kpr40 ?kdr40 ?kur40 (fun _ _ _ hs h => h.mono hs) ?_ (fun h => h.elim); (case k1r40 => k_asm); (case k2r40 => k_asm); (case k3r40 => k_asm); (case k4r40 => k_asm); (case k5r40 => k_asm); (case kKr40 => first | exact rfl | assumption); (case kpr40 => k_extra "tu_up"); (case kdr40 => first | exact room3 (by assumption) rfl | exact room2 (by assumption) rfl | ktr_room); (case kur40 => first | exact room3 (by assumption) rfl | ktr_units); (case h0r40 => first | assumption | omega); (case har40 => first | assumption | omega); (case hd0r40 => first | assumption | omega); (case hd1r40 => first | assumption | omega); (case hlr40 => first | assumption | omega)); intro r' tl' h' tk' F' N' P'; obtain ⟨x', e', T'⟩ := P'; subst e'; (try dsimp only); (try k_fold); (try k_sweep))
  k_with "call ref" => (k_here; (with_reducible show wpAny _ _ (call (Value.ref 173) [Value.ref _]) _ _ _); k_dflt (refine' says_useI (check_neg_says _ _ _ ?h0r43) ?k1r43 ?k2r43 ?k3r43 ?k4r43 ?k5r43 ?kKr43 ?kpr43 ?kdr43 ?kur43 ?_ ?_; (case k1r43 => k_asm); (case k2r43 => k_asm); (case k3r43 => k_asm); (case k4r43 => k_asm); (case k5r43 => k_asm); (case kKr43 => first | exact rfl | assumption); (case kpr43 => k_extra "tu_up"); (case kdr43 => first | exact room3 (by assumption) rfl | exact room2 (by assumption) rfl | ktr_room); (case kur43 => first | exact room3 (by assumption) rfl | ktr_units); (case h0r43 => first | assumption | omega)); (intro r' tl' h' tk' F' N' P'; exact P'.elim); (intro c' e' t' vs' g' h' tk' F' R' U'; (try dsimp only); (try k_fold)))
  k_with "call ref" => (k_here; (with_reducible show wpAny _ _ (call (Value.ref 180) [Value.ref _, Value.int _ _, Value.int _ _]) _ _ _); k_dflt (refine' says_useI (log_neg_says _ _ _ _ _ _ _ ?h0r44) ?k1r44 ?k2r44 ?k3r44 ?k4r44 ?k5r44 ?kKr44 ?kpr44 ?kdr44 ?kur44 ?_ ?_; (case k1r44 => k_asm); (case k2r44 => k_asm); (case k3r44 => k_asm); (case k4r44 => k_asm); (case k5r44 => k_asm); (case kKr44 => first | exact rfl | assumption); (case kpr44 => k_extra "tu_up"); (case kdr44 => first | exact room3 (by assumption) rfl | exact room2 (by assumption) rfl | ktr_room); (case kur44 => first | exact room3 (by assumption) rfl | ktr_units); (case h0r44 => first | assumption | omega)); (intro r' tl' h' tk' F' N' P'; exact P'.elim); (intro c' e' t' vs' g' h' tk' F' R' U'; (try dsimp only); (try k_fold)))
  k_with "call ref" => (k_here; (with_reducible show wpAny _ _ (call (Value.ref 187) [Value.ref _, Value.int _ _, Value.int _ _]) _ _ _); k_dflt (refine' says_useI (log10_neg_says _ _ _ _ _ _ _ ?h0r45) ?k1r45 ?k2r45 ?k3r45 ?k4r45 ?k5r45 ?kKr45 ?kpr45 ?kdr45 ?kur45 ?_ ?_; (case k1r45 => k_asm); (case k2r45 => k_asm); (case k3r45 => k_asm); (case k4r45 => k_asm); (case k5r45 => k_asm); (case kKr45 => first | exact rfl | assumption); (case kpr45 => k_extra "tu_up"); (case kdr45 => first | exact room3 (by assumption) rfl | exact room2 (by assumption) rfl | ktr_room); (case kur45 => first | exact room3 (by assumption) rfl | ktr_units); (case h0r45 => first | assumption | omega)); (intro r' tl' h' tk' F' N' P'; exact P'.elim); (intro c' e' t' vs' g' h' tk' F' R' U'; (try dsimp only); (try k_fold)))
  k_with "call ref" => (k_here; (with_reducible show wpAny _ _ (call (Value.ref 194) [Value.ref _, Value.ref _, Value.int _ _, Value.int _ _]) _ _ _); k_dflt (refine' says_useT (real_says _ _ _ _ _ _ _ _ _ _ ?har46 ?hcr46 ?hb0r46 ?hb1r46 ?he0r46 ?he1r46 ?hd0r46 ?hd1r46 ?htr46) ?k1r46 ?k2r46 ?k3r46 ?k4r46 ?k5r46 ?kKr46 ?kpr46 ?kdr46 ?kur46 (fun _ _ _ hs h => h.mono hs) ?_ ?_; (case k1r46 => k_asm); (case k2r46 => k_asm); (case k3r46 => k_asm); (case k4r46 => k_asm); (case k5r46 => k_asm); (case kKr46 => first | exact rfl | assumption); (case kpr46 => exact ⟨by k_extra "tu_up", by k_extra "tu_up"⟩); (case kdr46 => first | exact room3 (by assumption) rfl | exact room2 (by assumption) rfl | ktr_room); (case kur46 => first | exact room3 (by assumption) rfl | ktr_units); (case har46 => first | assumption | omega); (case hcr46 => first | assumption | omega); (case hb0r46 => first | assumption | omega); (case hb1r46 => first | assumption | omega); (case he0r46 => first | assumption | omega); (case he1r46 => first | assumption | omega); (case hd0r46 => first | assumption | omega); (case hd1r46 => first | assumption | omega); (case htr46 => first | assumption | omega)); (intro r' tl' h' tk' F' N' P'; obtain ⟨x', a', b', e', T', O'⟩ := P'; subst e'; (try dsimp only); (try k_fold); (try k_sweep)); rotate_left; (intro c' e' t' vs' g' h' tk' F' R' U'; (try dsimp only); (try k_fold)); rotate_left)
  exact True.intro
def NN (l : List (Addr × Obj)) (r : Value) : Prop := ∃ x t1 t2 n, r = .ref x ∧ (x, listOf #[.str (Str.ofString "none") t1, .str (Str.ofString "none") t2] n) ∈ l
theorem law_logs_says (x : Addr) (a b d top : Int) (t1 t2 : Tok) (h0 : a ≤ 0) :
    SaysT w mean mg mb 10 237 [.ref x, .int d t1, .int top t2] (fun l => Tu l x a b) NN := by
  unfold SaysT
  intro dp un gd cn cs ad ccd outer A₀ base g₀ h₀ L mm news s Q E B F X N T XB TB KD T0 hk hpre hd hu hret
  refine wpAny_call ?_
  k_dflt (refine' code_defS ?k1 ?k2 ?k3 ?k4 ?k5 ?XB ?TB ?D ?T0 ?kA ?k6 ?k7 ?k8 ?k9 ?kB ?_ ?cK ?c2 ?c3 ?c4 ?c5; (case kA => exact rfl); (case k2 => k_asm); (case k1 => k_asm); (case XB => assumption); (case TB => assumption); (case D => assumption); (case T0 => first | assumption | exact KtsTurn.refl); (case k3 => k_asm); (case k4 => k_asm); (case k5 => k_asm); (case k6 => k_is); (case k7 => k_is); (case k8 => first | exact room3 (by assumption) rfl | exact room2 (by assumption) rfl | ktr_room); (case k9 => exact BindsTo.of_eq rfl); (case kB => exact locs rfl); (case cK => first | assumption | exact rfl); (case c2 => exact rfl); (case c3 => exact rfl); (case c4 => exact rfl); (case c5 => decide); k_whole; intro g' L' h' FG' F' N' B' X' T' D'; (try dsimp only); (try k_lift B'); (try k_fold))
  k_steps
  all_goals exact hret _ _ _ _ _ (by assumption) (by k_asm) (by k_asm) (by k_extra "sub_up") (by assumption) (by assumption) (by assumption) (by assumption) ⟨_, _, _, _, rfl, List.Mem.tail _ (List.Mem.head _)⟩
theorem ln37 : True := by
  k_with_none
  k_with "tu_up" => first | with_reducible assumption | exact Tu.of (List.Mem.head _) | exact Tu.nought | (apply Tu.cons; k_extra "tu_up") | (apply Tu.app; k_extra "tu_up")
  k_with "tu3_up" => first | with_reducible assumption | exact Tu3.of (List.Mem.head _) | (refine Tu3.cons ?_; k_extra "tu3_up") | (refine Tu3.app ?_; k_extra "tu3_up")
  k_with "tur_up" => first | with_reducible assumption | exact TuR.of (List.Mem.head _) | (apply TuR.cons; k_extra "tur_up") | (apply TuR.app; k_extra "tur_up")
  k_with "rv_up" => first | with_reducible assumption | (refine Rv.cons ?_; k_extra "rv_up") | (refine Rv.app ?_; k_extra "rv_up")
  k_with "sub_up" => first | with_reducible assumption | exact sub_id | (refine sub_cons ?_; k_extra "sub_up") | (refine sub_app ?_; k_extra "sub_up")
  k_with "subscriptTail" => (k_here; (with_reducible show wpAny _ _ (subscriptTail _ _ (Value.ref _) (Value.int 0 _)) _ _ _); k_dflt (first | (refine' tu_item0 ?Fr9 ?Xr9 ?Nr9 ?Tr9 ?_ ?hsr9; (case Fr9 => k_asm); (case Xr9 => k_asm); (case Nr9 => k_asm); (case Tr9 => k_extra "tu_up"); (case hsr9 => with_unfolding_all rfl); k_whole; intro _) | (refine' tu_ref0 ?Nr9 ?Tr9 ?_ ?hsr9; (case Nr9 => k_asm); (case Tr9 => k_extra "tur_up"); (case hsr9 => with_unfolding_all rfl); k_whole)))
  k_with "subscriptTail" => (k_here; (with_reducible show wpAny _ _ (subscriptTail _ _ (Value.ref _) (Value.int 1 _)) _ _ _); k_dflt (first | (refine' tu_item1 ?Fr10 ?Xr10 ?Nr10 ?Tr10 ?_ ?hsr10; (case Fr10 => k_asm); (case Xr10 => k_asm); (case Nr10 => k_asm); (case Tr10 => k_extra "tu_up"); (case hsr10 => with_unfolding_all rfl); k_whole; intro _) | (refine' tu_ref1 ?Nr10 ?Tr10 ?_ ?hsr10; (case Nr10 => k_asm); (case Tr10 => k_extra "tur_up"); (case hsr10 => with_unfolding_all rfl); k_whole)))
  k_with "assign Tuple" => (k_here; (with_reducible show wpAny _ _ (assign (Expr.Tuple _ _ _) _ (Value.ref _)) _ _ _); k_dflt (first | (refine' tu_unpack ?Fr11 ?Xr11 ?Nr11 ?Tr11 ?k4r11 ?k5r11 ?k6r11 ?_; (case Fr11 => k_asm); (case Xr11 => k_asm); (case Nr11 => k_asm); (case Tr11 => k_extra "tu_up"); (case k4r11 => exact rfl); (case k5r11 => exact rfl); (case k6r11 => exact rfl); k_whole; intro _ _ h' F' N') | (refine' tu_unpack3 ?Fr11 ?Nr11 ?Tr11 ?k4r11 ?k5r11 ?k6r11 ?_; (case Fr11 => k_asm); (case Nr11 => k_asm); (case Tr11 => k_extra "tu3_up"); (case k4r11 => exact rfl); (case k5r11 => exact rfl); (case k6r11 => exact rfl); k_whole; intro _ _ _ h' F' N')); (try k_sweep))
  k_with "binaryOp Mult int int" => (k_here; with_reducible refine mul_int ?_ (by assumption))
  k_with "binaryOp FloorDiv int int" => (k_here; (with_reducible refine floordiv_int ?h0r13 ?_ (Or.inl (PyProof.noPylong_of_log2 ?hlr13))); (case h0r13 => first | assumption | omega); (case hlr13 => assumption))
  k_with "inplaceOp FloorDiv int int" => (k_here; (with_reducible refine ifloordiv_int ?h0r14 ?_ (Or.inl (PyProof.noPylong_of_log2 ?hlr14))); (case h0r14 => first | assumption | omega); (case hlr14 => assumption))
  k_with "binaryOp Pow int int" => (k_here; (with_reducible refine pow_int_small ?ar15 ?br15 ?cr15 ?_); (case ar15 => omega); (case br15 => omega); (case cr15 => decide))
  k_with "call builtin:divmod" => (k_here; (with_reducible show wpAny _ _ (call (Value.builtin _) [Value.int _ _, Value.int _ _]) _ _ _); (refine divmod_N (by k_asm) (by k_asm) (by assumption) ?_ (Or.inl (PyProof.noPylong_of_log2 (by assumption)))); intro h' F' N'; (try k_sweep))
  k_with "exec Raise some none" => (k_here; refine raise44 rfl ?_)
  k_with "RaisePost" => (k_here; refine' raisePost ?Fr18 ?Xr18 ?Nr18 ?_; (case Fr18 => k_asm); (case Xr18 => k_asm); (case Nr18 => k_asm))
  k_with "call ref" => (k_here; (with_reducible show wpAny _ _ (call (Value.ref 44) [Value.str _ _]) _ _ _); k_dflt (refine' call_fault ?k1r19 ?k2r19 ?k3r19 ?k4r19 ?k5r19 ?kKr19 ?kdr19 ?_; (case k1r19 => k_asm); (case k2r19 => k_asm); (case k3r19 => k_asm); (case k4r19 => k_asm); (case k5r19 => k_asm); (case kKr19 => first | exact rfl | assumption); (case kdr19 => first | exact room3 (by assumption) rfl | exact room2 (by assumption) rfl | ktr_room); k_whole); intro h' e' t' d' tk' F' N' l1' l2' l3'; (try dsimp only); (try k_sweep))
  k_with "leaving ref" => (k_here; k_dflt (first | (refine' leave_fault ?Kr20 ?Fr20 ?Nr20 ?h1r20 ?h2r20 ?h3r20 sub_id ?_; (case Kr20 => assumption); (case Fr20 => k_asm); (case Nr20 => k_asm); (case h1r20 => assumption); (case h2r20 => assumption); (case h3r20 => assumption); k_whole; intro h' R' U') | (refine' leave_onS ?Kr20 ?Fr20 ?Rr20 ?Ur20 ?_; (case Rr20 => assumption); (case Fr20 => assumption); (case Kr20 => assumption); (case Ur20 => assumption); k_whole; intro h' R' K' U'; clear K')))
  k_with "execs cons" => (k_here; (with_reducible show wpAny _ _ _ _ _ (Shared.mk _ _ _ (_ + 1) _)); (with_reducible refine gen_toks (s := Shared.mk _ _ _ 0 _) ?_); intro tk'; (try dsimp only))
  k_with "execs nil" => (k_here; (with_reducible show wpAny _ _ _ _ _ (Shared.mk _ _ _ (_ + 1) _)); (with_reducible refine gen_toks (s := Shared.mk _ _ _ 0 _) ?_); intro tk'; (try dsimp only))
  k_with "newTuple" => (k_here; (with_reducible show wpAny _ _ (newTuple [Value.int _ _, Value.int _ _]) _ _ _); k_dflt (refine' newTuple_Tu ?Fr41 ?Nr41 ?_; (case Fr41 => k_asm); (case Nr41 => k_asm)); intro D' h' F' N' T' l1; (try k_lt l1); (try k_sweep))
  k_with "newTuple" => (k_here; (with_reducible show wpAny _ _ (newTuple [Value.ref _, Value.ref _]) _ _ _); k_dflt (refine' newTuple_TuR ?Fr42 ?Nr42 ?_; (case Fr42 => k_asm); (case Nr42 => k_asm)); intro D' h' F' N' T' l1; (try k_lt l1); (try k_sweep))
  exact True.intro
section
variable {prog : Program} {A : Around} {E : Value → Shared → Prop} {s : Shared} {h₀ : Heap} {L x y : Addr} {m : Str → Option Value} {news : List (Addr × Obj)} {a b c d : Int} {Q : Value → Shared → Prop}
theorem tu_reads (F : Fr h₀ L s.heap m) (X : (hd.heap_39 w.params).In h₀) (N : News h₀ L s.heap news) (T : Tu news x a b) : ∃ as, Reads s.heap (.ref x) (.tuple [.int a, .int b]) as := by
  obtain ⟨t1, t2, o, ho, hc, n, hd⟩ := tu_tup N (X.keeps F.keep) T
  exact ⟨_, .tuple ho hc hd (.cons (.int a t1) (.cons (.int b t2) .nil))⟩
theorem shaped_two : SeqAt.shaped (.tuple [.int a, .int b]) = true := by rfl
theorem eq_tt (F : Fr h₀ L s.heap m) (X : (hd.heap_39 w.params).In h₀) (N : News h₀ L s.heap news) (T1 : Tu news x a b) (T2 : Tu news y a b) (hu : A.units + 64 < cLine)
    (h : Q (.bool true) s) : wpAny (model prog w) A (compareOp .Eq (.ref x) (.ref y)) Q E s := by
  obtain ⟨as, r1⟩ := tu_reads F X N T1
  obtain ⟨bs, r2⟩ := tu_reads F X N T2
  refine eq_dataH r1 r2 shaped_two shaped_two hu ?_
  rw [show PyData.eqv (.tuple [.int a, .int b]) (.tuple [.int a, .int b]) = true from by simp [PyData.eqv, PyData.eqvAll]]
  exact h
theorem shaped_none : SeqAt.shaped (.str (Str.ofString "none")) = true := by decide +kernel
theorem eq_ts {t : Tok} (F : Fr h₀ L s.heap m) (X : (hd.heap_39 w.params).In h₀) (N : News h₀ L s.heap news) (T1 : Tu news x a b) (hu : A.units + 64 < cLine)
    (h : Q (.bool false) s) : wpAny (model prog w) A (compareOp .Eq (.ref x) (.str (Str.ofString "none") t)) Q E s := by
  obtain ⟨as, r1⟩ := tu_reads F X N T1
  refine eq_dataH r1 (.str (Str.ofString "none") t) shaped_two shaped_none hu ?_
  rw [show PyData.eqv (.tuple [.int a, .int b]) (.str (Str.ofString "none")) = false from by simp [PyData.eqv]]
  exact h
end
/-- the work that the range is tried with -/
def Work (w : World) (mean : ExcName → Option Value) (mg mb : Str → Option Value) (f x : Addr) (d top : Int) (pre : List (Addr × Obj) → Prop) (o : Int → Option (Int × Int)) : Prop :=
  ∀ (top' : Int) (t t' : Tok), (top' = top ∨ top' = 1000 * top + 1000) → SaysT w mean mg mb 12 f [.ref x, .int d t, .int top' t'] pre (fun l r => Rv l r (o top'))
theorem Work.use {f x : Addr} {d top : Int} {pre : List (Addr × Obj) → Prop} {o : Int → Option (Int × Int)} {top' : Int} {t t' : Tok} (h : Work w mean mg mb f x d top pre o) (p : top' = top ∨ top' = 1000 * top + 1000) :
    SaysT w mean mg mb 12 f [.ref x, .int d t, .int top' t'] pre (fun l r => Rv l r (o top')) := h _ _ _ p
def Mono (pre : List (Addr × Obj) → Prop) : Prop := ∀ l l', (∀ p ∈ l, p ∈ l') → pre l → pre l'
theorem Mono.up {pre : List (Addr × Obj) → Prop} {l l' : List (Addr × Obj)} (h : Mono pre) (p : pre l) (s : ∀ p ∈ l, p ∈ l') : pre l' := h _ _ s p
theorem rv_eq {l : List (Addr × Obj)} {v : Value} {o o' : Option (Int × Int)} (h : Rv l v o) (e : o = o') : Rv l v o' := e ▸ h
theorem rv_some' {l : List (Addr × Obj)} {v : Value} {o : Option (Int × Int)} {a b : Int} (h : Rv l v o) (e : o = some (a, b)) : ∃ x, v = .ref x ∧ Tu l x a b := rv_some (e ▸ h)
theorem rv_none' {l : List (Addr × Obj)} {v : Value} {o : Option (Int × Int)} (h : Rv l v o) (e : o = none) : ∃ t, v = .str (Str.ofString "none") t := rv_none (e ▸ h)
/-- the wide answer and the narrow one agree as the law asks -/
def Within (o : Int → Option (Int × Int)) (top : Int) : Prop := ∃ a b, o (1000 * top + 1000) = some (a, b) ∧
  ((a ≠ 0 ∧ top < b + (cd a.natAbs : Int) - 1 ∧ o top = none) ∨
   (¬ (a ≠ 0 ∧ top < b + (cd a.natAbs : Int) - 1) ∧ b + (cd a.natAbs : Int) - 1 < -top ∧ o top = some (0, 0)) ∨
   (¬ (a ≠ 0 ∧ top < b + (cd a.natAbs : Int) - 1) ∧ ¬ b + (cd a.natAbs : Int) - 1 < -top ∧ o top = some (a, b)))
theorem law_figures_says (n : Int) (t : Tok) : Says w mean mg mb 1 209 [.int n t] (fun _ => True) (fun _ r => ∃ t', r = .int (cd n.natAbs : Int) t') False := by
  unfold Says
  intro dp un gd cn cs a ccd outer A₀ base h₀ L m news s Q E B F X N T hk hpre hd hu hret hexc
  k_with "exec While Compare cons nil" => k_while (fun (_ : List Int) (x c : Int) => 0 ≤ x ∧ c + (cd x.toNat : Int) = (cd n.natAbs : Int)) (fun (_ : List Int) (x _ : Int) => x.toNat) "n" "many"
  k_with "state" => k_dflt (first | exact cd_start _ | exact ⟨by assumption, by assumption⟩ | exact cd_turn1 (by assumption) (by assumption) (by assumption))
  k_with "measure" => k_dflt (((rw [fdiv_pos_facts _ _ (by decide)]); omega))
  refine wpAny_call ?_
  k_dflt cell_enter
  k_steps
  all_goals exact hret _ _ _ _ (by k_asm) (by k_asm) (by k_extra "sub_up") (int_out (cd_end (by assumption) (by assumption) (by assumption)))
theorem ln38 : True := by
  k_with_none
  k_with "tu_up" => first | with_reducible assumption | exact Tu.of (List.Mem.head _) | exact Tu.nought | (apply Tu.cons; k_extra "tu_up") | (apply Tu.app; k_extra "tu_up")
  k_with "tu3_up" => first | with_reducible assumption | exact Tu3.of (List.Mem.head _) | (refine Tu3.cons ?_; k_extra "tu3_up") | (refine Tu3.app ?_; k_extra "tu3_up")
  k_with "tur_up" => first | with_reducible assumption | exact TuR.of (List.Mem.head _) | (apply TuR.cons; k_extra "tur_up") | (apply TuR.app; k_extra "tur_up")
  k_with "rv_up" => first | with_reducible assumption | (refine Rv.cons ?_; k_extra "rv_up") | (refine Rv.app ?_; k_extra "rv_up")
  k_with "sub_up" => first | with_reducible assumption | exact sub_id | (refine sub_cons ?_; k_extra "sub_up") | (refine sub_app ?_; k_extra "sub_up")
  k_with "subscriptTail" => (k_here; (with_reducible show wpAny _ _ (subscriptTail _ _ (Value.ref _) (Value.int 0 _)) _ _ _); k_dflt (first | (refine' tu_item0 ?Fr9 ?Xr9 ?Nr9 ?Tr9 ?_ ?hsr9; (case Fr9 => k_asm); (case Xr9 => k_asm); (case Nr9 => k_asm); (case Tr9 => k_extra "tu_up"); (case hsr9 => with_unfolding_all rfl); k_whole; intro _) | (refine' tu_ref0 ?Nr9 ?Tr9 ?_ ?hsr9; (case Nr9 => k_asm); (case Tr9 => k_extra "tur_up"); (case hsr9 => with_unfolding_all rfl); k_whole)))
  k_with "subscriptTail" => (k_here; (with_reducible show wpAny _ _ (subscriptTail _ _ (Value.ref _) (Value.int 1 _)) _ _ _); k_dflt (first | (refine' tu_item1 ?Fr10 ?Xr10 ?Nr10 ?Tr10 ?_ ?hsr10; (case Fr10 => k_asm); (case Xr10 => k_asm); (case Nr10 => k_asm); (case Tr10 => k_extra "tu_up"); (case hsr10 => with_unfolding_all rfl); k_whole; intro _) | (refine' tu_ref1 ?Nr10 ?Tr10 ?_ ?hsr10; (case Nr10 => k_asm); (case Tr10 => k_extra "tur_up"); (case hsr10 => with_unfolding_all rfl); k_whole)))
  k_with "assign Tuple" => (k_here; (with_reducible show wpAny _ _ (assign (Expr.Tuple _ _ _) _ (Value.ref _)) _ _ _); k_dflt (first | (refine' tu_unpack ?Fr11 ?Xr11 ?Nr11 ?Tr11 ?k4r11 ?k5r11 ?k6r11 ?_; (case Fr11 => k_asm); (case Xr11 => k_asm); (case Nr11 => k_asm); (case Tr11 => k_extra "tu_up"); (case k4r11 => exact rfl); (case k5r11 => exact rfl); (case k6r11 => exact rfl); k_whole; intro _ _ h' F' N') | (refine' tu_unpack3 ?Fr11 ?Nr11 ?Tr11 ?k4r11 ?k5r11 ?k6r11 ?_; (case Fr11 => k_asm); (case Nr11 => k_asm); (case Tr11 => k_extra "tu3_up"); (case k4r11 => exact rfl); (case k5r11 => exact rfl); (case k6r11 => exact rfl); k_whole; intro _ _ _ h' F' N')); (try k_sweep))
  k_with "binaryOp Mult int int" => (k_here; with_reducible refine mul_int ?_ (by assumption))
  k_with "binaryOp FloorDiv int int" => (k_here; (with_reducible refine floordiv_int ?h0r13 ?_ (Or.inl (PyProof.noPylong_of_log2 ?hlr13))); (case h0r13 => first | assumption | omega); (case hlr13 => assumption))
  k_with "inplaceOp FloorDiv int int" => (k_here; (with_reducible refine ifloordiv_int ?h0r14 ?_ (Or.inl (PyProof.noPylong_of_log2 ?hlr14))); (case h0r14 => first | assumption | omega); (case hlr14 => assumption))
  k_with "binaryOp Pow int int" => (k_here; (with_reducible refine pow_int_small ?ar15 ?br15 ?cr15 ?_); (case ar15 => omega); (case br15 => omega); (case cr15 => decide))
  k_with "call builtin:divmod" => (k_here; (with_reducible show wpAny _ _ (call (Value.builtin _) [Value.int _ _, Value.int _ _]) _ _ _); (refine divmod_N (by k_asm) (by k_asm) (by assumption) ?_ (Or.inl (PyProof.noPylong_of_log2 (by assumption)))); intro h' F' N'; (try k_sweep))
  k_with "exec Raise some none" => (k_here; refine raise44 rfl ?_)
  k_with "RaisePost" => (k_here; refine' raisePost ?Fr18 ?Xr18 ?Nr18 ?_; (case Fr18 => k_asm); (case Xr18 => k_asm); (case Nr18 => k_asm))
  k_with "call ref" => (k_here; (with_reducible show wpAny _ _ (call (Value.ref 44) [Value.str _ _]) _ _ _); k_dflt (refine' call_fault ?k1r19 ?k2r19 ?k3r19 ?k4r19 ?k5r19 ?kKr19 ?kdr19 ?_; (case k1r19 => k_asm); (case k2r19 => k_asm); (case k3r19 => k_asm); (case k4r19 => k_asm); (case k5r19 => k_asm); (case kKr19 => first | exact rfl | assumption); (case kdr19 => first | exact room3 (by assumption) rfl | exact room2 (by assumption) rfl | ktr_room); k_whole); intro h' e' t' d' tk' F' N' l1' l2' l3'; (try dsimp only); (try k_sweep))
  k_with "leaving ref" => (k_here; k_dflt (first | (refine' leave_fault ?Kr20 ?Fr20 ?Nr20 ?h1r20 ?h2r20 ?h3r20 sub_id ?_; (case Kr20 => assumption); (case Fr20 => k_asm); (case Nr20 => k_asm); (case h1r20 => assumption); (case h2r20 => assumption); (case h3r20 => assumption); k_whole; intro h' R' U') | (refine' leave_onS ?Kr20 ?Fr20 ?Rr20 ?Ur20 ?_; (case Rr20 => assumption); (case Fr20 => assumption); (case Kr20 => assumption); (case Ur20 => assumption); k_whole; intro h' R' K' U'; clear K')))
  k_with "execs cons" => (k_here; (with_reducible show wpAny _ _ _ _ _ (Shared.mk _ _ _ (_ + 1) _)); (with_reducible refine gen_toks (s := Shared.mk _ _ _ 0 _) ?_); intro tk'; (try dsimp only))
  k_with "execs nil" => (k_here; (with_reducible show wpAny _ _ _ _ _ (Shared.mk _ _ _ (_ + 1) _)); (with_reducible refine gen_toks (s := Shared.mk _ _ _ 0 _) ?_); intro tk'; (try dsimp only))
  k_with "newTuple" => (k_here; (with_reducible show wpAny _ _ (newTuple [Value.int _ _, Value.int _ _]) _ _ _); k_dflt (refine' newTuple_Tu ?Fr41 ?Nr41 ?_; (case Fr41 => k_asm); (case Nr41 => k_asm)); intro D' h' F' N' T' l1; (try k_lt l1); (try k_sweep))
  k_with "newTuple" => (k_here; (with_reducible show wpAny _ _ (newTuple [Value.ref _, Value.ref _]) _ _ _); k_dflt (refine' newTuple_TuR ?Fr42 ?Nr42 ?_; (case Fr42 => k_asm); (case Nr42 => k_asm)); intro D' h' F' N' T' l1; (try k_lt l1); (try k_sweep))
  exact True.intro
theorem ln39 : True := by
  k_with "call ref" => (k_here; (with_reducible show wpAny _ _ (call (Value.ref 209) [Value.int _ _]) _ _ _); k_dflt (refine' says_useI (law_figures_says _ _) ?k1r53 ?k2r53 ?k3r53 ?k4r53 ?k5r53 ?kKr53 ?kpr53 ?kdr53 ?kur53 ?_ (fun h => h.elim); (case k1r53 => k_asm); (case k2r53 => k_asm); (case k3r53 => k_asm); (case k4r53 => k_asm); (case k5r53 => k_asm); (case kKr53 => first | exact rfl | assumption); (case kpr53 => trivial); (case kdr53 => first | exact room3 (by assumption) rfl | exact room2 (by assumption) rfl | ktr_room); (case kur53 => first | exact room3 (by assumption) rfl | ktr_units)); intro r' tl' h' tk' F' N' P'; obtain ⟨t', e'⟩ := P'; subst e'; (try dsimp only); (try k_fold); (try k_sweep))
  exact True.intro
theorem ln40 : True := by
  k_with_none
  k_with "tu_up" => first | with_reducible assumption | exact Tu.of (List.Mem.head _) | exact Tu.nought | (apply Tu.cons; k_extra "tu_up") | (apply Tu.app; k_extra "tu_up")
  k_with "tu3_up" => first | with_reducible assumption | exact Tu3.of (List.Mem.head _) | (refine Tu3.cons ?_; k_extra "tu3_up") | (refine Tu3.app ?_; k_extra "tu3_up")
  k_with "tur_up" => first | with_reducible assumption | exact TuR.of (List.Mem.head _) | (apply TuR.cons; k_extra "tur_up") | (apply TuR.app; k_extra "tur_up")
  k_with "rv_up" => first | with_reducible assumption | (refine Rv.cons ?_; k_extra "rv_up") | (refine Rv.app ?_; k_extra "rv_up")
  k_with "sub_up" => first | with_reducible assumption | exact sub_id | (refine sub_cons ?_; k_extra "sub_up") | (refine sub_app ?_; k_extra "sub_up")
  k_with "subscriptTail" => (k_here; (with_reducible show wpAny _ _ (subscriptTail _ _ (Value.ref _) (Value.int 0 _)) _ _ _); k_dflt (first | (refine' tu_item0 ?Fr9 ?Xr9 ?Nr9 ?Tr9 ?_ ?hsr9; (case Fr9 => k_asm); (case Xr9 => k_asm); (case Nr9 => k_asm); (case Tr9 => k_extra "tu_up"); (case hsr9 => with_unfolding_all rfl); k_whole; intro _) | (refine' tu_ref0 ?Nr9 ?Tr9 ?_ ?hsr9; (case Nr9 => k_asm); (case Tr9 => k_extra "tur_up"); (case hsr9 => with_unfolding_all rfl); k_whole)))
  k_with "subscriptTail" => (k_here; (with_reducible show wpAny _ _ (subscriptTail _ _ (Value.ref _) (Value.int 1 _)) _ _ _); k_dflt (first | (refine' tu_item1 ?Fr10 ?Xr10 ?Nr10 ?Tr10 ?_ ?hsr10; (case Fr10 => k_asm); (case Xr10 => k_asm); (case Nr10 => k_asm); (case Tr10 => k_extra "tu_up"); (case hsr10 => with_unfolding_all rfl); k_whole; intro _) | (refine' tu_ref1 ?Nr10 ?Tr10 ?_ ?hsr10; (case Nr10 => k_asm); (case Tr10 => k_extra "tur_up"); (case hsr10 => with_unfolding_all rfl); k_whole)))
  k_with "assign Tuple" => (k_here; (with_reducible show wpAny _ _ (assign (Expr.Tuple _ _ _) _ (Value.ref _)) _ _ _); k_dflt (first | (refine' tu_unpack ?Fr11 ?Xr11 ?Nr11 ?Tr11 ?k4r11 ?k5r11 ?k6r11 ?_; (case Fr11 => k_asm); (case Xr11 => k_asm); (case Nr11 => k_asm); (case Tr11 => k_extra "tu_up"); (case k4r11 => exact rfl); (case k5r11 => exact rfl); (case k6r11 => exact rfl); k_whole; intro _ _ h' F' N') | (refine' tu_unpack3 ?Fr11 ?Nr11 ?Tr11 ?k4r11 ?k5r11 ?k6r11 ?_; (case Fr11 => k_asm); (case Nr11 => k_asm); (case Tr11 => k_extra "tu3_up"); (case k4r11 => exact rfl); (case k5r11 => exact rfl); (case k6r11 => exact rfl); k_whole; intro _ _ _ h' F' N')); (try k_sweep))
  k_with "binaryOp Mult int int" => (k_here; with_reducible refine mul_int ?_ (by assumption))
  k_with "binaryOp FloorDiv int int" => (k_here; (with_reducible refine floordiv_int ?h0r13 ?_ (Or.inl (PyProof.noPylong_of_log2 ?hlr13))); (case h0r13 => first | assumption | omega); (case hlr13 => assumption))
  k_with "inplaceOp FloorDiv int int" => (k_here; (with_reducible refine ifloordiv_int ?h0r14 ?_ (Or.inl (PyProof.noPylong_of_log2 ?hlr14))); (case h0r14 => first | assumption | omega); (case hlr14 => assumption))
  k_with "binaryOp Pow int int" => (k_here; (with_reducible refine pow_int_small ?ar15 ?br15 ?cr15 ?_); (case ar15 => omega); (case br15 => omega); (case cr15 => decide))
  k_with "call builtin:divmod" => (k_here; (with_reducible show wpAny _ _ (call (Value.builtin _) [Value.int _ _, Value.int _ _]) _ _ _); (refine divmod_N (by k_asm) (by k_asm) (by assumption) ?_ (Or.inl (PyProof.noPylong_of_log2 (by assumption)))); intro h' F' N'; (try k_sweep))
  k_with "exec Raise some none" => (k_here; refine raise44 rfl ?_)
  k_with "RaisePost" => (k_here; refine' raisePost ?Fr18 ?Xr18 ?Nr18 ?_; (case Fr18 => k_asm); (case Xr18 => k_asm); (case Nr18 => k_asm))
  k_with "call ref" => (k_here; (with_reducible show wpAny _ _ (call (Value.ref 44) [Value.str _ _]) _ _ _); k_dflt (refine' call_fault ?k1r19 ?k2r19 ?k3r19 ?k4r19 ?k5r19 ?kKr19 ?kdr19 ?_; (case k1r19 => k_asm); (case k2r19 => k_asm); (case k3r19 => k_asm); (case k4r19 => k_asm); (case k5r19 => k_asm); (case kKr19 => first | exact rfl | assumption); (case kdr19 => first | exact room3 (by assumption) rfl | exact room2 (by assumption) rfl | ktr_room); k_whole); intro h' e' t' d' tk' F' N' l1' l2' l3'; (try dsimp only); (try k_sweep))
  k_with "leaving ref" => (k_here; k_dflt (first | (refine' leave_fault ?Kr20 ?Fr20 ?Nr20 ?h1r20 ?h2r20 ?h3r20 sub_id ?_; (case Kr20 => assumption); (case Fr20 => k_asm); (case Nr20 => k_asm); (case h1r20 => assumption); (case h2r20 => assumption); (case h3r20 => assumption); k_whole; intro h' R' U') | (refine' leave_onS ?Kr20 ?Fr20 ?Rr20 ?Ur20 ?_; (case Rr20 => assumption); (case Fr20 => assumption); (case Kr20 => assumption); (case Ur20 => assumption); k_whole; intro h' R' K' U'; clear K')))
  k_with "execs cons" => (k_here; (with_reducible show wpAny _ _ _ _ _ (Shared.mk _ _ _ (_ + 1) _)); (with_reducible refine gen_toks (s := Shared.mk _ _ _ 0 _) ?_); intro tk'; (try dsimp only))
  k_with "execs nil" => (k_here; (with_reducible show wpAny _ _ _ _ _ (Shared.mk _ _ _ (_ + 1) _)); (with_reducible refine gen_toks (s := Shared.mk _ _ _ 0 _) ?_); intro tk'; (try dsimp only))
  k_with "newTuple" => (k_here; (with_reducible show wpAny _ _ (newTuple [Value.int _ _, Value.int _ _]) _ _ _); k_dflt (refine' newTuple_Tu ?Fr41 ?Nr41 ?_; (case Fr41 => k_asm); (case Nr41 => k_asm)); intro D' h' F' N' T' l1; (try k_lt l1); (try k_sweep))
  k_with "newTuple" => (k_here; (with_reducible show wpAny _ _ (newTuple [Value.ref _, Value.ref _]) _ _ _); k_dflt (refine' newTuple_TuR ?Fr42 ?Nr42 ?_; (case Fr42 => k_asm); (case Nr42 => k_asm)); intro D' h' F' N' T' l1; (try k_lt l1); (try k_sweep))
  k_with "call ref" => (k_here; (with_reducible show wpAny _ _ (call (Value.ref _) [Value.ref _, Value.int _ _, Value.int _ _]) _ _ _); k_dflt (refine' saysT_use (Work.use ?whr54 ?wpr54) ?k1r54 ?k2r54 ?k3r54 ?k4r54 ?k5r54 ?XBr54 ?TBr54 ?kDr54 ?T0r54 ?kKr54 ?kpr54 ?kdr54 ?kur54 (fun _ _ _ hs h => h.mono hs) ?_; (case whr54 => with_reducible assumption); (case wpr54 => first | exact Or.inl rfl | exact Or.inr rfl); (case k1r54 => k_asm); (case k2r54 => k_asm); (case k3r54 => k_asm); (case k4r54 => k_asm); (case k5r54 => k_asm); (case XBr54 => assumption); (case TBr54 => assumption); (case kDr54 => assumption); (case T0r54 => first | assumption | exact KtsTurn.refl); (case kKr54 => first | exact rfl | assumption); (case kpr54 => first | assumption | exact Mono.up (by assumption) (by assumption) (by k_extra "sub_up")); (case kdr54 => first | exact room3 (by assumption) rfl | exact room2 (by assumption) rfl | ktr_room); (case kur54 => first | exact room3 (by assumption) rfl | ktr_units)); intro r' tl' h' tk' kg' kT' F' N' B' X' T' D' P'; (have kX' := kFor F' X'); (try k_lift B'); (first | (refine' Exists.elim (rv_some' P' ?her54) ?_; (case her54 => with_reducible assumption); intro x' q'; obtain ⟨e', U'⟩ := q'; subst e') | (refine' Exists.elim (rv_none' P' ?her54) ?_; (case her54 => with_reducible assumption); intro t' e'; subst e')); (try dsimp only); (try k_fold); (try k_sweep))
  k_with "compareOp Eq ref ref" => (k_here; (with_reducible show wpAny _ _ (compareOp CmpOp.Eq (Value.ref _) (Value.ref _)) _ _ _); k_dflt (refine' eq_tt ?Fr55 ?Xr55 ?Nr55 ?T1r55 ?T2r55 ?ur55 ?_; (case Fr55 => k_asm); (case Xr55 => k_asm); (case Nr55 => k_asm); (case T1r55 => k_extra "tu_up"); (case T2r55 => k_extra "tu_up"); (case ur55 => first | exact room3 (by assumption) rfl | ktr_units)))
  k_with "compareOp Eq ref str" => (k_here; k_dflt (refine' eq_ts ?Fr56 ?Xr56 ?Nr56 ?T1r56 ?ur56 ?_; (case Fr56 => k_asm); (case Xr56 => k_asm); (case Nr56 => k_asm); (case T1r56 => k_extra "tu_up"); (case ur56 => first | exact room3 (by assumption) rfl | ktr_units)))
  k_with "call ref" => (k_here; (with_reducible show wpAny _ _ (call (Value.ref 54) [Value.int _ _]) _ _ _); k_dflt (refine' says_useI (count_digits_says _ _) ?k1r23 ?k2r23 ?k3r23 ?k4r23 ?k5r23 ?kKr23 ?kpr23 ?kdr23 ?kur23 ?_ (fun h => h.elim); (case k1r23 => k_asm); (case k2r23 => k_asm); (case k3r23 => k_asm); (case k4r23 => k_asm); (case k5r23 => k_asm); (case kKr23 => first | exact rfl | assumption); (case kpr23 => trivial); (case kdr23 => first | exact room3 (by assumption) rfl | exact room2 (by assumption) rfl | ktr_room); (case kur23 => first | exact room3 (by assumption) rfl | ktr_units)); intro r' tl' h' tk' F' N' P'; obtain ⟨t', e'⟩ := P'; subst e'; (try dsimp only); (try k_fold); (try k_sweep))
  k_with "call ref" => (k_here; (with_reducible show wpAny _ _ (call (Value.ref 61) [Value.int _ _, Value.int _ _]) _ _ _); k_dflt (refine' says_useT (strip_zeros_says _ _ _ _) ?k1r24 ?k2r24 ?k3r24 ?k4r24 ?k5r24 ?kKr24 ?kpr24 ?kdr24 ?kur24 (fun _ _ _ hs h => h.mono hs) ?_ (fun h => h.elim); (case k1r24 => k_asm); (case k2r24 => k_asm); (case k3r24 => k_asm); (case k4r24 => k_asm); (case k5r24 => k_asm); (case kKr24 => first | exact rfl | assumption); (case kpr24 => trivial); (case kdr24 => first | exact room3 (by assumption) rfl | exact room2 (by assumption) rfl | ktr_room); (case kur24 => first | exact room3 (by assumption) rfl | ktr_units)); intro r' tl' h' tk' F' N' P'; obtain ⟨x', e', T'⟩ := P'; subst e'; (try dsimp only); (try k_fold); (try k_sweep))
  k_with "call ref" => (k_here; (with_reducible show wpAny _ _ (call (Value.ref 68) [Value.int _ _, Value.int _ _, Value.int _ _]) _ _ _); k_dflt (refine' says_useT (round_digits_says _ _ _ _ _ _ (by first | assumption | omega) (by first | assumption | omega)) ?k1r25 ?k2r25 ?k3r25 ?k4r25 ?k5r25 ?kKr25 ?kpr25 ?kdr25 ?kur25 (fun _ _ _ hs h => h.mono hs) ?_ (fun h => h.elim); (case k1r25 => k_asm); (case k2r25 => k_asm); (case k3r25 => k_asm); (case k4r25 => k_asm); (case k5r25 => k_asm); (case kKr25 => first | exact rfl | assumption); (case kpr25 => trivial); (case kdr25 => first | exact room3 (by assumption) rfl | exact room2 (by assumption) rfl | ktr_room); (case kur25 => first | exact room3 (by assumption) rfl | ktr_units)); intro r' tl' h' tk' F' N' P'; obtain ⟨x', e', T'⟩ := P'; subst e'; (try dsimp only); (try k_fold); (try k_sweep))
  k_with "call ref" => (k_here; (with_reducible show wpAny _ _ (call (Value.ref 75) [Value.int _ _, Value.int _ _, Value.int _ _, Value.int _ _]) _ _ _); k_dflt (refine' says_useT (round_real_says _ _ _ _ _ _ _ _ (by first | assumption | omega | exact expP_cd (by assumption) (by assumption) (by assumption) (by assumption) (tooG_lead2 (by assumption) (by assumption))) (by first | assumption | omega)) ?k1r26 ?k2r26 ?k3r26 ?k4r26 ?k5r26 ?kKr26 ?kpr26 ?kdr26 ?kur26 (fun _ _ _ hs h => h.mono hs) ?_ ?_; (case k1r26 => k_asm); (case k2r26 => k_asm); (case k3r26 => k_asm); (case k4r26 => k_asm); (case k5r26 => k_asm); (case kKr26 => first | exact rfl | assumption); (case kpr26 => trivial); (case kdr26 => first | exact room3 (by assumption) rfl | exact room2 (by assumption) rfl | ktr_room); (case kur26 => first | exact room3 (by assumption) rfl | ktr_units)); (intro r' tl' h' tk' F' N' P'; obtain ⟨x', a', b', e', T', O'⟩ := P'; subst e'; (try dsimp only); (try k_fold); (try k_sweep)); rotate_left; (intro c' e' t' vs' g' h' tk' F' R' U'; (try dsimp only); (try k_fold)); rotate_left)
  k_with "call ref" => (k_here; (with_reducible show wpAny _ _ (call (Value.ref 209) [Value.int _ _]) _ _ _); k_dflt (refine' says_useI (law_figures_says _ _) ?k1r53 ?k2r53 ?k3r53 ?k4r53 ?k5r53 ?kKr53 ?kpr53 ?kdr53 ?kur53 ?_ (fun h => h.elim); (case k1r53 => k_asm); (case k2r53 => k_asm); (case k3r53 => k_asm); (case k4r53 => k_asm); (case k5r53 => k_asm); (case kKr53 => first | exact rfl | assumption); (case kpr53 => trivial); (case kdr53 => first | exact room3 (by assumption) rfl | exact room2 (by assumption) rfl | ktr_room); (case kur53 => first | exact room3 (by assumption) rfl | ktr_units)); intro r' tl' h' tk' F' N' P'; obtain ⟨t', e'⟩ := P'; subst e'; (try dsimp only); (try k_fold); (try k_sweep))
  exact True.intro
theorem within_216_says (x : Addr) (d top : Int) (t1 t2 : Tok) (pre : List (Addr × Obj) → Prop) (o : Int → Option (Int × Int)) (hm : Mono pre) (hw : Work w mean mg mb 216 x d top pre o) (hW : Within o top) (ht : cd top.natAbs ≤ 6) :
    SaysT w mean mg mb 15 244 [.ref 216, .ref x, .int d t1, .int top t2] pre (fun l r => r = .bool true) := by
  unfold SaysT
  intro dp un gd cn cs ad ccd outer A₀ base g₀ h₀ L mm news s Q E B F X N T XB TB KD T0 hk hpre hd hu hret
  have h1000 : IntMulOk 1000 top := mulOk_cd (j := 4) (cd_le (by decide)) ht (by decide)
  obtain ⟨a, b, e1, hc⟩ := hW
  rcases hc with ⟨c1, c2, e2⟩ | ⟨c1, c2, e2⟩ | ⟨c1, c2, e2⟩
  · refine wpAny_call ?_
    k_dflt (refine' code_defS ?k1 ?k2 ?k3 ?k4 ?k5 ?XB ?TB ?D ?T0 ?kA ?k6 ?k7 ?k8 ?k9 ?kB ?_ ?cK ?c2 ?c3 ?c4 ?c5; (case kA => exact rfl); (case k2 => k_asm); (case k1 => k_asm); (case XB => assumption); (case TB => assumption); (case D => assumption); (case T0 => first | assumption | exact KtsTurn.refl); (case k3 => k_asm); (case k4 => k_asm); (case k5 => k_asm); (case k6 => k_is); (case k7 => k_is); (case k8 => first | exact room3 (by assumption) rfl | exact room2 (by assumption) rfl | ktr_room); (case k9 => exact BindsTo.of_eq rfl); (case kB => exact locs rfl); (case cK => first | assumption | exact rfl); (case c2 => exact rfl); (case c3 => exact rfl); (case c4 => exact rfl); (case c5 => decide); k_whole; intro g' L' h' FG' F' N' B' X' T' D'; (try dsimp only); (try k_lift B'); (try k_fold))
    k_steps
    all_goals first
      | (exfalso; omega)
      | exact hret _ _ _ _ _ (by assumption) (by k_asm) (by k_asm) (by k_extra "sub_up") (by assumption) (by assumption) (by assumption) (by assumption) rfl
  · refine wpAny_call ?_
    k_dflt (refine' code_defS ?k1 ?k2 ?k3 ?k4 ?k5 ?XB ?TB ?D ?T0 ?kA ?k6 ?k7 ?k8 ?k9 ?kB ?_ ?cK ?c2 ?c3 ?c4 ?c5; (case kA => exact rfl); (case k2 => k_asm); (case k1 => k_asm); (case XB => assumption); (case TB => assumption); (case D => assumption); (case T0 => first | assumption | exact KtsTurn.refl); (case k3 => k_asm); (case k4 => k_asm); (case k5 => k_asm); (case k6 => k_is); (case k7 => k_is); (case k8 => first | exact room3 (by assumption) rfl | exact room2 (by assumption) rfl | ktr_room); (case k9 => exact BindsTo.of_eq rfl); (case kB => exact locs rfl); (case cK => first | assumption | exact rfl); (case c2 => exact rfl); (case c3 => exact rfl); (case c4 => exact rfl); (case c5 => decide); k_whole; intro g' L' h' FG' F' N' B' X' T' D'; (try dsimp only); (try k_lift B'); (try k_fold))
    k_steps
    all_goals first
      | (exfalso; omega)
      | exact hret _ _ _ _ _ (by assumption) (by k_asm) (by k_asm) (by k_extra "sub_up") (by assumption) (by assumption) (by assumption) (by assumption) rfl
  · refine wpAny_call ?_
    k_dflt (refine' code_defS ?k1 ?k2 ?k3 ?k4 ?k5 ?XB ?TB ?D ?T0 ?kA ?k6 ?k7 ?k8 ?k9 ?kB ?_ ?cK ?c2 ?c3 ?c4 ?c5; (case kA => exact rfl); (case k2 => k_asm); (case k1 => k_asm); (case XB => assumption); (case TB => assumption); (case D => assumption); (case T0 => first | assumption | exact KtsTurn.refl); (case k3 => k_asm); (case k4 => k_asm); (case k5 => k_asm); (case k6 => k_is); (case k7 => k_is); (case k8 => first | exact room3 (by assumption) rfl | exact room2 (by assumption) rfl | ktr_room); (case k9 => exact BindsTo.of_eq rfl); (case kB => exact locs rfl); (case cK => first | assumption | exact rfl); (case c2 => exact rfl); (case c3 => exact rfl); (case c4 => exact rfl); (case c5 => decide); k_whole; intro g' L' h' FG' F' N' B' X' T' D'; (try dsimp only); (try k_lift B'); (try k_fold))
    k_steps
    all_goals first
      | (exfalso; omega)
      | exact hret _ _ _ _ _ (by assumption) (by k_asm) (by k_asm) (by k_extra "sub_up") (by assumption) (by assumption) (by assumption) (by assumption) rfl
theorem within_223_says (x : Addr) (d top : Int) (t1 t2 : Tok) (pre : List (Addr × Obj) → Prop) (o : Int → Option (Int × Int)) (hm : Mono pre) (hw : Work w mean mg mb 223 x d top pre o) (hW : Within o top) (ht : cd top.natAbs ≤ 6) :
    SaysT w mean mg mb 15 244 [.ref 223, .ref x, .int d t1, .int top t2] pre (fun l r => r = .bool true) := by
  unfold SaysT
  intro dp un gd cn cs ad ccd outer A₀ base g₀ h₀ L mm news s Q E B F X N T XB TB KD T0 hk hpre hd hu hret
  have h1000 : IntMulOk 1000 top := mulOk_cd (j := 4) (cd_le (by decide)) ht (by decide)
  obtain ⟨a, b, e1, hc⟩ := hW
  rcases hc with ⟨c1, c2, e2⟩ | ⟨c1, c2, e2⟩ | ⟨c1, c2, e2⟩
  · refine wpAny_call ?_
    k_dflt (refine' code_defS ?k1 ?k2 ?k3 ?k4 ?k5 ?XB ?TB ?D ?T0 ?kA ?k6 ?k7 ?k8 ?k9 ?kB ?_ ?cK ?c2 ?c3 ?c4 ?c5; (case kA => exact rfl); (case k2 => k_asm); (case k1 => k_asm); (case XB => assumption); (case TB => assumption); (case D => assumption); (case T0 => first | assumption | exact KtsTurn.refl); (case k3 => k_asm); (case k4 => k_asm); (case k5 => k_asm); (case k6 => k_is); (case k7 => k_is); (case k8 => first | exact room3 (by assumption) rfl | exact room2 (by assumption) rfl | ktr_room); (case k9 => exact BindsTo.of_eq rfl); (case kB => exact locs rfl); (case cK => first | assumption | exact rfl); (case c2 => exact rfl); (case c3 => exact rfl); (case c4 => exact rfl); (case c5 => decide); k_whole; intro g' L' h' FG' F' N' B' X' T' D'; (try dsimp only); (try k_lift B'); (try k_fold))
    k_steps
    all_goals first
      | (exfalso; omega)
      | exact hret _ _ _ _ _ (by assumption) (by k_asm) (by k_asm) (by k_extra "sub_up") (by assumption) (by assumption) (by assumption) (by assumption) rfl
  · refine wpAny_call ?_
    k_dflt (refine' code_defS ?k1 ?k2 ?k3 ?k4 ?k5 ?XB ?TB ?D ?T0 ?kA ?k6 ?k7 ?k8 ?k9 ?kB ?_ ?cK ?c2 ?c3 ?c4 ?c5; (case kA => exact rfl); (case k2 => k_asm); (case k1 => k_asm); (case XB => assumption); (case TB => assumption); (case D => assumption); (case T0 => first | assumption | exact KtsTurn.refl); (case k3 => k_asm); (case k4 => k_asm); (case k5 => k_asm); (case k6 => k_is); (case k7 => k_is); (case k8 => first | exact room3 (by assumption) rfl | exact room2 (by assumption) rfl | ktr_room); (case k9 => exact BindsTo.of_eq rfl); (case kB => exact locs rfl); (case cK => first | assumption | exact rfl); (case c2 => exact rfl); (case c3 => exact rfl); (case c4 => exact rfl); (case c5 => decide); k_whole; intro g' L' h' FG' F' N' B' X' T' D'; (try dsimp only); (try k_lift B'); (try k_fold))
    k_steps
    all_goals first
      | (exfalso; omega)
      | exact hret _ _ _ _ _ (by assumption) (by k_asm) (by k_asm) (by k_extra "sub_up") (by assumption) (by assumption) (by assumption) (by assumption) rfl
  · refine wpAny_call ?_
    k_dflt (refine' code_defS ?k1 ?k2 ?k3 ?k4 ?k5 ?XB ?TB ?D ?T0 ?kA ?k6 ?k7 ?k8 ?k9 ?kB ?_ ?cK ?c2 ?c3 ?c4 ?c5; (case kA => exact rfl); (case k2 => k_asm); (case k1 => k_asm); (case XB => assumption); (case TB => assumption); (case D => assumption); (case T0 => first | assumption | exact KtsTurn.refl); (case k3 => k_asm); (case k4 => k_asm); (case k5 => k_asm); (case k6 => k_is); (case k7 => k_is); (case k8 => first | exact room3 (by assumption) rfl | exact room2 (by assumption) rfl | ktr_room); (case k9 => exact BindsTo.of_eq rfl); (case kB => exact locs rfl); (case cK => first | assumption | exact rfl); (case c2 => exact rfl); (case c3 => exact rfl); (case c4 => exact rfl); (case c5 => decide); k_whole; intro g' L' h' FG' F' N' B' X' T' D'; (try dsimp only); (try k_lift B'); (try k_fold))
    k_steps
    all_goals first
      | (exfalso; omega)
      | exact hret _ _ _ _ _ (by assumption) (by k_asm) (by k_asm) (by k_extra "sub_up") (by assumption) (by assumption) (by assumption) (by assumption) rfl
theorem within_230_says (x : Addr) (d top : Int) (t1 t2 : Tok) (pre : List (Addr × Obj) → Prop) (o : Int → Option (Int × Int)) (hm : Mono pre) (hw : Work w mean mg mb 230 x d top pre o) (hW : Within o top) (ht : cd top.natAbs ≤ 6) :
    SaysT w mean mg mb 15 244 [.ref 230, .ref x, .int d t1, .int top t2] pre (fun l r => r = .bool true) := by
  unfold SaysT
  intro dp un gd cn cs ad ccd outer A₀ base g₀ h₀ L mm news s Q E B F X N T XB TB KD T0 hk hpre hd hu hret
  have h1000 : IntMulOk 1000 top := mulOk_cd (j := 4) (cd_le (by decide)) ht (by decide)
  obtain ⟨a, b, e1, hc⟩ := hW
  rcases hc with ⟨c1, c2, e2⟩ | ⟨c1, c2, e2⟩ | ⟨c1, c2, e2⟩
  · refine wpAny_call ?_
    k_dflt (refine' code_defS ?k1 ?k2 ?k3 ?k4 ?k5 ?XB ?TB ?D ?T0 ?kA ?k6 ?k7 ?k8 ?k9 ?kB ?_ ?cK ?c2 ?c3 ?c4 ?c5; (case kA => exact rfl); (case k2 => k_asm); (case k1 => k_asm); (case XB => assumption); (case TB => assumption); (case D => assumption); (case T0 => first | assumption | exact KtsTurn.refl); (case k3 => k_asm); (case k4 => k_asm); (case k5 => k_asm); (case k6 => k_is); (case k7 => k_is); (case k8 => first | exact room3 (by assumption) rfl | exact room2 (by assumption) rfl | ktr_room); (case k9 => exact BindsTo.of_eq rfl); (case kB => exact locs rfl); (case cK => first | assumption | exact rfl); (case c2 => exact rfl); (case c3 => exact rfl); (case c4 => exact rfl); (case c5 => decide); k_whole; intro g' L' h' FG' F' N' B' X' T' D'; (try dsimp only); (try k_lift B'); (try k_fold))
    k_steps
    all_goals first
      | (exfalso; omega)
      | exact hret _ _ _ _ _ (by assumption) (by k_asm) (by k_asm) (by k_extra "sub_up") (by assumption) (by assumption) (by assumption) (by assumption) rfl
  · refine wpAny_call ?_
    k_dflt (refine' code_defS ?k1 ?k2 ?k3 ?k4 ?k5 ?XB ?TB ?D ?T0 ?kA ?k6 ?k7 ?k8 ?k9 ?kB ?_ ?cK ?c2 ?c3 ?c4 ?c5; (case kA => exact rfl); (case k2 => k_asm); (case k1 => k_asm); (case XB => assumption); (case TB => assumption); (case D => assumption); (case T0 => first | assumption | exact KtsTurn.refl); (case k3 => k_asm); (case k4 => k_asm); (case k5 => k_asm); (case k6 => k_is); (case k7 => k_is); (case k8 => first | exact room3 (by assumption) rfl | exact room2 (by assumption) rfl | ktr_room); (case k9 => exact BindsTo.of_eq rfl); (case kB => exact locs rfl); (case cK => first | assumption | exact rfl); (case c2 => exact rfl); (case c3 => exact rfl); (case c4 => exact rfl); (case c5 => decide); k_whole; intro g' L' h' FG' F' N' B' X' T' D'; (try dsimp only); (try k_lift B'); (try k_fold))
    k_steps
    all_goals first
      | (exfalso; omega)
      | exact hret _ _ _ _ _ (by assumption) (by k_asm) (by k_asm) (by k_extra "sub_up") (by assumption) (by assumption) (by assumption) (by assumption) rfl
  · refine wpAny_call ?_
    k_dflt (refine' code_defS ?k1 ?k2 ?k3 ?k4 ?k5 ?XB ?TB ?D ?T0 ?kA ?k6 ?k7 ?k8 ?k9 ?kB ?_ ?cK ?c2 ?c3 ?c4 ?c5; (case kA => exact rfl); (case k2 => k_asm); (case k1 => k_asm); (case XB => assumption); (case TB => assumption); (case D => assumption); (case T0 => first | assumption | exact KtsTurn.refl); (case k3 => k_asm); (case k4 => k_asm); (case k5 => k_asm); (case k6 => k_is); (case k7 => k_is); (case k8 => first | exact room3 (by assumption) rfl | exact room2 (by assumption) rfl | ktr_room); (case k9 => exact BindsTo.of_eq rfl); (case kB => exact locs rfl); (case cK => first | assumption | exact rfl); (case c2 => exact rfl); (case c3 => exact rfl); (case c4 => exact rfl); (case c5 => decide); k_whole; intro g' L' h' FG' F' N' B' X' T' D'; (try dsimp only); (try k_lift B'); (try k_fold))
    k_steps
    all_goals first
      | (exfalso; omega)
      | exact hret _ _ _ _ _ (by assumption) (by k_asm) (by k_asm) (by k_extra "sub_up") (by assumption) (by assumption) (by assumption) (by assumption) rfl
theorem ln41 : True := by
  k_with_none
  k_with "tu_up" => first | with_reducible assumption | exact Tu.of (List.Mem.head _) | exact Tu.nought | (apply Tu.cons; k_extra "tu_up") | (apply Tu.app; k_extra "tu_up")
  k_with "tu3_up" => first | with_reducible assumption | exact Tu3.of (List.Mem.head _) | (refine Tu3.cons ?_; k_extra "tu3_up") | (refine Tu3.app ?_; k_extra "tu3_up")
  k_with "tur_up" => first | with_reducible assumption | exact TuR.of (List.Mem.head _) | (apply TuR.cons; k_extra "tur_up") | (apply TuR.app; k_extra "tur_up")
  k_with "rv_up" => first | with_reducible assumption | (refine Rv.cons ?_; k_extra "rv_up") | (refine Rv.app ?_; k_extra "rv_up")
  k_with "sub_up" => first | with_reducible assumption | exact sub_id | (refine sub_cons ?_; k_extra "sub_up") | (refine sub_app ?_; k_extra "sub_up")
  k_with "subscriptTail" => (k_here; (with_reducible show wpAny _ _ (subscriptTail _ _ (Value.ref _) (Value.int 0 _)) _ _ _); k_dflt (first | (refine' tu_item0 ?Fr9 ?Xr9 ?Nr9 ?Tr9 ?_ ?hsr9; (case Fr9 => k_asm); (case Xr9 => k_asm); (case Nr9 => k_asm); (case Tr9 => k_extra "tu_up"); (case hsr9 => with_unfolding_all rfl); k_whole; intro _) | (refine' tu_ref0 ?Nr9 ?Tr9 ?_ ?hsr9; (case Nr9 => k_asm); (case Tr9 => k_extra "tur_up"); (case hsr9 => with_unfolding_all rfl); k_whole)))
  k_with "subscriptTail" => (k_here; (with_reducible show wpAny _ _ (subscriptTail _ _ (Value.ref _) (Value.int 1 _)) _ _ _); k_dflt (first | (refine' tu_item1 ?Fr10 ?Xr10 ?Nr10 ?Tr10 ?_ ?hsr10; (case Fr10 => k_asm); (case Xr10 => k_asm); (case Nr10 => k_asm); (case Tr10 => k_extra "tu_up"); (case hsr10 => with_unfolding_all rfl); k_whole; intro _) | (refine' tu_ref1 ?Nr10 ?Tr10 ?_ ?hsr10; (case Nr10 => k_asm); (case Tr10 => k_extra "tur_up"); (case hsr10 => with_unfolding_all rfl); k_whole)))
  k_with "assign Tuple" => (k_here; (with_reducible show wpAny _ _ (assign (Expr.Tuple _ _ _) _ (Value.ref _)) _ _ _); k_dflt (first | (refine' tu_unpack ?Fr11 ?Xr11 ?Nr11 ?Tr11 ?k4r11 ?k5r11 ?k6r11 ?_; (case Fr11 => k_asm); (case Xr11 => k_asm); (case Nr11 => k_asm); (case Tr11 => k_extra "tu_up"); (case k4r11 => exact rfl); (case k5r11 => exact rfl); (case k6r11 => exact rfl); k_whole; intro _ _ h' F' N') | (refine' tu_unpack3 ?Fr11 ?Nr11 ?Tr11 ?k4r11 ?k5r11 ?k6r11 ?_; (case Fr11 => k_asm); (case Nr11 => k_asm); (case Tr11 => k_extra "tu3_up"); (case k4r11 => exact rfl); (case k5r11 => exact rfl); (case k6r11 => exact rfl); k_whole; intro _ _ _ h' F' N')); (try k_sweep))
  k_with "binaryOp Mult int int" => (k_here; with_reducible refine mul_int ?_ (by assumption))
  k_with "binaryOp FloorDiv int int" => (k_here; (with_reducible refine floordiv_int ?h0r13 ?_ (Or.inl (PyProof.noPylong_of_log2 ?hlr13))); (case h0r13 => first | assumption | omega); (case hlr13 => assumption))
  k_with "inplaceOp FloorDiv int int" => (k_here; (with_reducible refine ifloordiv_int ?h0r14 ?_ (Or.inl (PyProof.noPylong_of_log2 ?hlr14))); (case h0r14 => first | assumption | omega); (case hlr14 => assumption))
  k_with "binaryOp Pow int int" => (k_here; (with_reducible refine pow_int_small ?ar15 ?br15 ?cr15 ?_); (case ar15 => omega); (case br15 => omega); (case cr15 => decide))
  k_with "call builtin:divmod" => (k_here; (with_reducible show wpAny _ _ (call (Value.builtin _) [Value.int _ _, Value.int _ _]) _ _ _); (refine divmod_N (by k_asm) (by k_asm) (by assumption) ?_ (Or.inl (PyProof.noPylong_of_log2 (by assumption)))); intro h' F' N'; (try k_sweep))
  k_with "exec Raise some none" => (k_here; refine raise44 rfl ?_)
  k_with "RaisePost" => (k_here; refine' raisePost ?Fr18 ?Xr18 ?Nr18 ?_; (case Fr18 => k_asm); (case Xr18 => k_asm); (case Nr18 => k_asm))
  k_with "call ref" => (k_here; (with_reducible show wpAny _ _ (call (Value.ref 44) [Value.str _ _]) _ _ _); k_dflt (refine' call_fault ?k1r19 ?k2r19 ?k3r19 ?k4r19 ?k5r19 ?kKr19 ?kdr19 ?_; (case k1r19 => k_asm); (case k2r19 => k_asm); (case k3r19 => k_asm); (case k4r19 => k_asm); (case k5r19 => k_asm); (case kKr19 => first | exact rfl | assumption); (case kdr19 => first | exact room3 (by assumption) rfl | exact room2 (by assumption) rfl | ktr_room); k_whole); intro h' e' t' d' tk' F' N' l1' l2' l3'; (try dsimp only); (try k_sweep))
  k_with "leaving ref" => (k_here; k_dflt (first | (refine' leave_fault ?Kr20 ?Fr20 ?Nr20 ?h1r20 ?h2r20 ?h3r20 sub_id ?_; (case Kr20 => assumption); (case Fr20 => k_asm); (case Nr20 => k_asm); (case h1r20 => assumption); (case h2r20 => assumption); (case h3r20 => assumption); k_whole; intro h' R' U') | (refine' leave_onS ?Kr20 ?Fr20 ?Rr20 ?Ur20 ?_; (case Rr20 => assumption); (case Fr20 => assumption); (case Kr20 => assumption); (case Ur20 => assumption); k_whole; intro h' R' K' U'; clear K')))
  k_with "execs cons" => (k_here; (with_reducible show wpAny _ _ _ _ _ (Shared.mk _ _ _ (_ + 1) _)); (with_reducible refine gen_toks (s := Shared.mk _ _ _ 0 _) ?_); intro tk'; (try dsimp only))
  k_with "execs nil" => (k_here; (with_reducible show wpAny _ _ _ _ _ (Shared.mk _ _ _ (_ + 1) _)); (with_reducible refine gen_toks (s := Shared.mk _ _ _ 0 _) ?_); intro tk'; (try dsimp only))
  exact True.intro
section
variable {d : Addr} {o : Obj} {l : List (Addr × Obj)} {g : Obj → List (Addr × Obj)} {q : Addr × Obj}
theorem updF_old (U : UpdF d o l g) : (d, o) ∈ l := by
  obtain ⟨pre, post, rfl, _⟩ := U.split
  exact List.mem_append_right _ (.head _)
theorem updF_new (U : UpdF d o l g) (o' : Obj) : (d, o') ∈ g o' := by
  obtain ⟨pre, post, _, e, _⟩ := U.split
  rw [e]; exact List.mem_append_right _ (.head _)
theorem updF_other (U : UpdF d o l g) (o' : Obj) (h : q ∈ l) (hq : q.1 ≠ d) : q ∈ g o' := by
  obtain ⟨pre, post, rfl, e, _⟩ := U.split
  rw [e]
  rcases List.mem_append.mp h with h | h
  · exact List.mem_append_left _ h
  · rcases List.mem_cons.mp h with rfl | h
    · exact absurd rfl hq
    · exact List.mem_append_right _ (.tail _ h)
theorem updF_again (U : UpdF d o l g) (o' : Obj) : UpdF d o' (g o') g := by
  induction U with
  | head h => exact .head h
  | tail h _ ih => exact .tail h ih
end
def PenO (w : World) (o : Obj) (R : Addr) (c : Int) : Prop := ∃ t, Obj.IsDictOf (PySem.strKind PR w) o [(Str.ofString "row", .ref R), (Str.ofString "count", .int c t)]
theorem fmod_bounds {a b : Int} (h : 0 < b) : 0 ≤ a.fmod b ∧ a.fmod b < b := by
  rw [fmod_pos_facts _ _ h]; exact ⟨Int.emod_nonneg _ (by omega), Int.emod_lt_of_pos _ h⟩
theorem dict_get {prog : Program} {A : Around} {E : Value → Shared → Prop} {s : Shared} {h₀ : Heap} {L d : Addr} {news : List (Addr × Obj)} {o : Obj} {kvs : List (Str × Value)} {k : Str} {tk : Tok} {v : Value} {Q : Value → Shared → Prop} (N : News h₀ L s.heap news) (hp : (d, o) ∈ news) (hd : o.IsDictOf (PySem.strKind prog w) kvs) (hl : valueAt kvs k = some v) (h : Q v { s with toks := s.toks + 1 }) :
    wpAny (model prog w) A (getItem (.ref d) (.str k tk)) Q E s := wpAny_getItem_of (strKind_is _ _ _ _) (kda_dict N hp hd).mapOf hl h
theorem stored_count {R : Value} {c : Value} {v : Value} : stored [(Str.ofString "row", R), (Str.ofString "count", c)] (Str.ofString "count") v = [(Str.ofString "row", R), (Str.ofString "count", v)] := by
  have h1 : ¬ Str.ofString "row" = Str.ofString "count" := by decide +kernel
  first | rfl | simp [stored, h1]
theorem pen_set {prog : Program} {A : Around} {E : Value → Shared → Prop} {s : Shared} {h₀ : Heap} {L d : Addr} {m : Str → Option Value} {news : List (Addr × Obj)} {g : Obj → List (Addr × Obj)} {o : Obj} {R c v : Value} {tk : Tok} {Q : Unit → Shared → Prop} (F : Fr h₀ L s.heap m) (N : News h₀ L s.heap news) (U : UpdF d o news g) (hd : o.IsDictOf (PySem.strKind prog w) [(Str.ofString "row", R), (Str.ofString "count", c)])
    (h : ∀ h' o', Fr h₀ L h' m → News h₀ L h' (g o') → o'.IsDictOf (PySem.strKind prog w) [(Str.ofString "row", R), (Str.ofString "count", v)] → Q () { s with heap := h', toks := s.toks + 1 }) : wpAny (model prog w) A (setItem (.ref d) (.str (Str.ofString "count") tk) v) Q E s :=
  kda_set F N U hd (strKind_is _ _ _ _) (show 2 ≤ sizeLine by decide) fun h' o' F' N' hd' => h h' o' F' N' (by rw [stored_count] at hd'; exact hd')
theorem ln42 : True := by
  k_with "getItem ref str" => (k_here; k_dflt (refine' dict_get ?Nr57 ?mr57 ?dr57 ?vr57 ?_; (case Nr57 => k_asm); (case mr57 => first | exact updF_old (by assumption) | exact updF_new (by assumption) _); (case dr57 => assumption); (case vr57 => exact rfl)))
  exact True.intro
theorem ln43 : True := by
  k_with "subscriptTail" => (k_here; (with_reducible show wpAny _ _ (subscriptTail _ _ (Value.ref _) (Value.str _ _)) _ _ _); k_dflt (refine' kda_item (knd := PySem.strKind _ _) ?Nr58 ?mr58 ?dr58 (strKind_is _ _ _ _) ?vr58 ?_; (case Nr58 => k_asm); (case mr58 => first | exact updF_old (by assumption) | exact updF_new (by assumption) _); (case dr58 => assumption); (case vr58 => exact rfl)))
  exact True.intro
theorem ln44 : True := by
  k_with "subscriptTail" => (k_here; (with_reducible show wpAny _ _ (subscriptTail _ _ (Value.ref _) (Value.int _ _)) _ _ _); k_dflt (refine' item_list_ints (News.isList ?Nr59 ?mr59) ?hir59 ?h0r59 ?h1r59 ?h2r59 ?_ ?hsr59; (case Nr59 => k_asm); (case mr59 => exact updF_other (by assumption) _ (by assumption) (by assumption)); (case hir59 => assumption); (case h0r59 => omega); (case h1r59 => omega); (case h2r59 => omega); (case hsr59 => with_unfolding_all rfl)); intro _)
  exact True.intro
theorem ln45 : True := by
  k_with "setItem ref str" => (k_here; k_dflt (refine' pen_set ?Fr60 ?Nr60 ?Ur60 ?dr60 ?_; (case Fr60 => k_asm); (case Nr60 => k_asm); (case Ur60 => assumption); (case dr60 => assumption)); intro h' o' F' N' hd')
  exact True.intro
theorem ln46 : True := by
  k_with "call builtin:len" => (k_here; (with_reducible show wpAny _ _ (call (Value.builtin "len") [Value.ref _]) _ _ _); k_dflt (refine' len_ints_fit (News.isList ?Nr61 ?mr61) ?hir61 ?h0r61 ?_; (case Nr61 => k_asm); (case mr61 => exact updF_other (by assumption) _ (by assumption) (by assumption)); (case hir61 => assumption); (case h0r61 => omega)))
  exact True.intro
theorem take_says {dp un : Nat} {gd : Option (List Code)} {cn : Str} {cs : Scope} {ad : Addr} {ccd : Value} {outer : List Env} {A₀ : Around} {base h₀ : Heap} {L : Addr} {mm : Str → Option Value} {news : List (Addr × Obj)} {s : Shared} {Q E : Value → Shared → Prop}
    {P R : Addr} {many c : Int} {t : Tok} {ws : List Value} {ns : List Int} {n : Nat} {o : Obj} {nf : Obj → List (Addr × Obj)}
    (B : Below A₀ base outer h₀) (F : Fr h₀ L s.heap mm) (X : (hd.heap_39 w.params).In h₀) (N : News h₀ L s.heap news) (T : Top hd.view_39 (looseW hd.view_39 []) mean mg mb h₀) (hk : cs.kind = .function)
    (U : UpdF P o news nf) (hP : PenO w o R c) (hR : (R, listOf ws.toArray n) ∈ news) (hne : R ≠ P) (hI : IntsAre ws ns) (hl : ns.length ≤ 100) (hc : 0 ≤ c) (hc' : c ≤ 100) (hm : 0 < many)
    (hd : dp + 30 < recursionLimit) (hu : un + 200 < cLine)
    (hret : ∀ v t o' h' tk', 0 ≤ v → v < many → PenO w o' R (c + 1) → UpdF P o' (nf o') nf → (R, listOf ws.toArray n) ∈ nf o' → Fr h₀ L h' mm → News h₀ L h' (nf o') → Q (.int v t) { s with heap := h', toks := tk' }) :
    wpAny (model PR w) (ktrTop dp un gd cn cs L ad ccd [] outer) (call (.ref 202) [.ref P, .int many t]) Q E s := by
  obtain ⟨tc, hP⟩ := hP
  have hne' : ((R, listOf ws.toArray n) : Addr × Obj).1 ≠ P := hne
  have hcc : IntMulOk (c + 1) (c + 1) := mulOk_cd (j := 3) (k := 3) (cd_le (by omega)) (cd_le (by omega)) (by decide)
  have hm0 : many ≠ 0 := by omega
  refine wpAny_call ?_
  k_dflt cell_enter
  k_steps
  all_goals exact hret _ _ _ _ _ (fmod_bounds hm).1 (fmod_bounds hm).2 ⟨_, by assumption⟩ (updF_again U _) (updF_other U _ hR hne') (by k_asm) (by k_asm)
theorem ln47 : True := by
  k_with_none
  k_with "tu_up" => first | with_reducible assumption | exact Tu.of (List.Mem.head _) | exact Tu.nought | (apply Tu.cons; k_extra "tu_up") | (apply Tu.app; k_extra "tu_up")
  k_with "tu3_up" => first | with_reducible assumption | exact Tu3.of (List.Mem.head _) | (refine Tu3.cons ?_; k_extra "tu3_up") | (refine Tu3.app ?_; k_extra "tu3_up")
  k_with "tur_up" => first | with_reducible assumption | exact TuR.of (List.Mem.head _) | (apply TuR.cons; k_extra "tur_up") | (apply TuR.app; k_extra "tur_up")
  k_with "rv_up" => first | with_reducible assumption | (refine Rv.cons ?_; k_extra "rv_up") | (refine Rv.app ?_; k_extra "rv_up")
  k_with "sub_up" => first | with_reducible assumption | exact sub_id | (refine sub_cons ?_; k_extra "sub_up") | (refine sub_app ?_; k_extra "sub_up")
  k_with "subscriptTail" => (k_here; (with_reducible show wpAny _ _ (subscriptTail _ _ (Value.ref _) (Value.int 0 _)) _ _ _); k_dflt (first | (refine' tu_item0 ?Fr9 ?Xr9 ?Nr9 ?Tr9 ?_ ?hsr9; (case Fr9 => k_asm); (case Xr9 => k_asm); (case Nr9 => k_asm); (case Tr9 => k_extra "tu_up"); (case hsr9 => with_unfolding_all rfl); k_whole; intro _) | (refine' tu_ref0 ?Nr9 ?Tr9 ?_ ?hsr9; (case Nr9 => k_asm); (case Tr9 => k_extra "tur_up"); (case hsr9 => with_unfolding_all rfl); k_whole)))
  k_with "subscriptTail" => (k_here; (with_reducible show wpAny _ _ (subscriptTail _ _ (Value.ref _) (Value.int 1 _)) _ _ _); k_dflt (first | (refine' tu_item1 ?Fr10 ?Xr10 ?Nr10 ?Tr10 ?_ ?hsr10; (case Fr10 => k_asm); (case Xr10 => k_asm); (case Nr10 => k_asm); (case Tr10 => k_extra "tu_up"); (case hsr10 => with_unfolding_all rfl); k_whole; intro _) | (refine' tu_ref1 ?Nr10 ?Tr10 ?_ ?hsr10; (case Nr10 => k_asm); (case Tr10 => k_extra "tur_up"); (case hsr10 => with_unfolding_all rfl); k_whole)))
  k_with "assign Tuple" => (k_here; (with_reducible show wpAny _ _ (assign (Expr.Tuple _ _ _) _ (Value.ref _)) _ _ _); k_dflt (first | (refine' tu_unpack ?Fr11 ?Xr11 ?Nr11 ?Tr11 ?k4r11 ?k5r11 ?k6r11 ?_; (case Fr11 => k_asm); (case Xr11 => k_asm); (case Nr11 => k_asm); (case Tr11 => k_extra "tu_up"); (case k4r11 => exact rfl); (case k5r11 => exact rfl); (case k6r11 => exact rfl); k_whole; intro _ _ h' F' N') | (refine' tu_unpack3 ?Fr11 ?Nr11 ?Tr11 ?k4r11 ?k5r11 ?k6r11 ?_; (case Fr11 => k_asm); (case Nr11 => k_asm); (case Tr11 => k_extra "tu3_up"); (case k4r11 => exact rfl); (case k5r11 => exact rfl); (case k6r11 => exact rfl); k_whole; intro _ _ _ h' F' N')); (try k_sweep))
  k_with "binaryOp Mult int int" => (k_here; with_reducible refine mul_int ?_ (by assumption))
  k_with "binaryOp FloorDiv int int" => (k_here; (with_reducible refine floordiv_int ?h0r13 ?_ (Or.inl (PyProof.noPylong_of_log2 ?hlr13))); (case h0r13 => first | assumption | omega); (case hlr13 => assumption))
  k_with "inplaceOp FloorDiv int int" => (k_here; (with_reducible refine ifloordiv_int ?h0r14 ?_ (Or.inl (PyProof.noPylong_of_log2 ?hlr14))); (case h0r14 => first | assumption | omega); (case hlr14 => assumption))
  k_with "binaryOp Pow int int" => (k_here; (with_reducible refine pow_int_small ?ar15 ?br15 ?cr15 ?_); (case ar15 => omega); (case br15 => omega); (case cr15 => decide))
  k_with "call builtin:divmod" => (k_here; (with_reducible show wpAny _ _ (call (Value.builtin _) [Value.int _ _, Value.int _ _]) _ _ _); (refine divmod_N (by k_asm) (by k_asm) (by assumption) ?_ (Or.inl (PyProof.noPylong_of_log2 (by assumption)))); intro h' F' N'; (try k_sweep))
  k_with "exec Raise some none" => (k_here; refine raise44 rfl ?_)
  k_with "RaisePost" => (k_here; refine' raisePost ?Fr18 ?Xr18 ?Nr18 ?_; (case Fr18 => k_asm); (case Xr18 => k_asm); (case Nr18 => k_asm))
  k_with "call ref" => (k_here; (with_reducible show wpAny _ _ (call (Value.ref 44) [Value.str _ _]) _ _ _); k_dflt (refine' call_fault ?k1r19 ?k2r19 ?k3r19 ?k4r19 ?k5r19 ?kKr19 ?kdr19 ?_; (case k1r19 => k_asm); (case k2r19 => k_asm); (case k3r19 => k_asm); (case k4r19 => k_asm); (case k5r19 => k_asm); (case kKr19 => first | exact rfl | assumption); (case kdr19 => first | exact room3 (by assumption) rfl | exact room2 (by assumption) rfl | ktr_room); k_whole); intro h' e' t' d' tk' F' N' l1' l2' l3'; (try dsimp only); (try k_sweep))
  k_with "leaving ref" => (k_here; k_dflt (first | (refine' leave_fault ?Kr20 ?Fr20 ?Nr20 ?h1r20 ?h2r20 ?h3r20 sub_id ?_; (case Kr20 => assumption); (case Fr20 => k_asm); (case Nr20 => k_asm); (case h1r20 => assumption); (case h2r20 => assumption); (case h3r20 => assumption); k_whole; intro h' R' U') | (refine' leave_onS ?Kr20 ?Fr20 ?Rr20 ?Ur20 ?_; (case Rr20 => assumption); (case Fr20 => assumption); (case Kr20 => assumption); (case Ur20 => assumption); k_whole; intro h' R' K' U'; clear K')))
  k_with "execs cons" => (k_here; (with_reducible show wpAny _ _ _ _ _ (Shared.mk _ _ _ (_ + 1) _)); (with_reducible refine gen_toks (s := Shared.mk _ _ _ 0 _) ?_); intro tk'; (try dsimp only))
  k_with "execs nil" => (k_here; (with_reducible show wpAny _ _ _ _ _ (Shared.mk _ _ _ (_ + 1) _)); (with_reducible refine gen_toks (s := Shared.mk _ _ _ 0 _) ?_); intro tk'; (try dsimp only))
  k_with "newTuple" => (k_here; (with_reducible show wpAny _ _ (newTuple [Value.int _ _, Value.int _ _]) _ _ _); k_dflt (refine' newTuple_Tu ?Fr41 ?Nr41 ?_; (case Fr41 => k_asm); (case Nr41 => k_asm)); intro D' h' F' N' T' l1; (try k_lt l1); (try k_sweep))
  k_with "newTuple" => (k_here; (with_reducible show wpAny _ _ (newTuple [Value.ref _, Value.ref _]) _ _ _); k_dflt (refine' newTuple_TuR ?Fr42 ?Nr42 ?_; (case Fr42 => k_asm); (case Nr42 => k_asm)); intro D' h' F' N' T' l1; (try k_lt l1); (try k_sweep))
  k_with "exec For Name Tuple cons nil" => (k_here; (with_unfolding_all refine' for_rest ?hr47 ?_; (case hr47 => exact rfl); k_whole))
  k_with "pyIter ref" => (k_here; (with_reducible show wpAny _ _ (pyIter (Value.ref _)) (fun it s₂ => RestAt _ _ _ _ _ _ _ _ it s₂) _ _); (refine' rest_iter ?eLr48 ?Fr48 ?Nr48 ?mr48 ?_; (case eLr48 => exact rfl); (case Fr48 => k_asm); (case Nr48 => k_asm); (case mr48 => exact List.Mem.head _)); intro I' o' h' io' F' N' l1')
  k_with "Rest" => (k_here; first | (refine' rest_step ?eLr49 ?Fr49 ?Nr49 ?lr49 ?sr49 ?or49 ?mr49 ?ir49 ?vr49 ?_; (case eLr49 => exact rfl); (case Fr49 => k_asm); (case Nr49 => k_asm); (case lr49 => assumption); (case or49 => assumption); (case sr49 => k_extra "sub_up"); (case mr49 => k_extra "mem_up"); (case ir49 => exact Nat.le_of_ble_eq_true rfl); (case vr49 => first | exact at2_0 | exact at2_1 | exact at4_0 | exact at4_1 | exact at4_2 | exact at4_3); intro o' h' tk' io' F' N' l1') | (refine' rest_done ?eLr49 ?Fr49 ?Nr49 ?lr49 ?sr49 ?or49 ?mr49 ?ir49 ?_; (case eLr49 => exact rfl); (case Fr49 => k_asm); (case Nr49 => k_asm); (case lr49 => assumption); (case or49 => assumption); (case sr49 => k_extra "sub_up"); (case mr49 => k_extra "mem_up"); (case ir49 => exact rfl); intro h' tk' F' N') | (refine' rest_stepN ?eLr49 ?Fr49 ?Nr49 ?lr49 ?or49 ?mr49 ?ir49 ?vr49 ?_; (case eLr49 => exact rfl); (case Fr49 => k_asm); (case Nr49 => k_asm); (case lr49 => exact lt_upd1 (by assumption)); (case or49 => assumption); (case mr49 => k_extra "mem_up"); (case ir49 => exact Nat.le_of_ble_eq_true rfl); (case vr49 => first | exact at2_0 | exact at2_1 | exact at4_0 | exact at4_1 | exact at4_2 | exact at4_3); intro o' h' tk' io' F' N' l1') | (refine' rest_doneN ?eLr49 ?Fr49 ?Nr49 ?lr49 ?or49 ?mr49 ?ir49 ?_; (case eLr49 => exact rfl); (case Fr49 => k_asm); (case Nr49 => k_asm); (case lr49 => exact lt_upd1 (by assumption)); (case or49 => assumption); (case mr49 => k_extra "mem_up"); (case ir49 => exact rfl); intro h' tk' F' N'))
  k_with "mem_up" => first | exact List.Mem.head _ | (refine List.Mem.tail _ ?_; k_extra "mem_up") | (refine List.mem_append_right _ ?_; k_extra "mem_up")
  k_with "TurnPost" => first | refine turnPost_next ?_ | refine turnPost_ret ?_ | refine turnPost_cont ?_
  k_with "call builtin:list.append" => (k_here; (refine' append_here ?Fr52 ?Nr52 ?hIr52 ?hAr52 ?hDr52 ?hzr52 ?_; (case Fr52 => k_asm); (case Nr52 => assumption); (case hIr52 => assumption); (case hAr52 => assumption); (case hDr52 => assumption); (case hzr52 => exact Nat.le_of_ble_eq_true rfl)); intro h' F' N' l1')
  k_with "call ref" => (k_here; (with_reducible show wpAny _ _ (call (Value.ref _) [Value.ref _, Value.int _ _, Value.int _ _]) _ _ _); k_dflt (refine' saysT_use (Work.use ?whr54 ?wpr54) ?k1r54 ?k2r54 ?k3r54 ?k4r54 ?k5r54 ?XBr54 ?TBr54 ?kDr54 ?T0r54 ?kKr54 ?kpr54 ?kdr54 ?kur54 (fun _ _ _ hs h => h.mono hs) ?_; (case whr54 => with_reducible assumption); (case wpr54 => first | exact Or.inl rfl | exact Or.inr rfl); (case k1r54 => k_asm); (case k2r54 => k_asm); (case k3r54 => k_asm); (case k4r54 => k_asm); (case k5r54 => k_asm); (case XBr54 => assumption); (case TBr54 => assumption); (case kDr54 => assumption); (case T0r54 => first | assumption | exact KtsTurn.refl); (case kKr54 => first | exact rfl | assumption); (case kpr54 => first | assumption | exact Mono.up (by assumption) (by assumption) (by k_extra "sub_up")); (case kdr54 => first | exact room3 (by assumption) rfl | exact room2 (by assumption) rfl | ktr_room); (case kur54 => first | exact room3 (by assumption) rfl | ktr_units)); intro r' tl' h' tk' kg' kT' F' N' B' X' T' D' P'; (have kX' := kFor F' X'); (try k_lift B'); (first | (refine' Exists.elim (rv_some' P' ?her54) ?_; (case her54 => with_reducible assumption); intro x' q'; obtain ⟨e', U'⟩ := q'; subst e') | (refine' Exists.elim (rv_none' P' ?her54) ?_; (case her54 => with_reducible assumption); intro t' e'; subst e')); (try dsimp only); (try k_fold); (try k_sweep))
  k_with "compareOp Eq ref ref" => (k_here; (with_reducible show wpAny _ _ (compareOp CmpOp.Eq (Value.ref _) (Value.ref _)) _ _ _); k_dflt (refine' eq_tt ?Fr55 ?Xr55 ?Nr55 ?T1r55 ?T2r55 ?ur55 ?_; (case Fr55 => k_asm); (case Xr55 => k_asm); (case Nr55 => k_asm); (case T1r55 => k_extra "tu_up"); (case T2r55 => k_extra "tu_up"); (case ur55 => first | exact room3 (by assumption) rfl | ktr_units)))
  k_with "compareOp Eq ref str" => (k_here; k_dflt (refine' eq_ts ?Fr56 ?Xr56 ?Nr56 ?T1r56 ?ur56 ?_; (case Fr56 => k_asm); (case Xr56 => k_asm); (case Nr56 => k_asm); (case T1r56 => k_extra "tu_up"); (case ur56 => first | exact room3 (by assumption) rfl | ktr_units)))
  exact True.intro
theorem cd10 {a : Int} (h1 : -1000000000 ≤ a) (h2 : a ≤ 1000000000) : cd a.natAbs ≤ 10 := cd_le (by (first | lia | omega))
theorem saysT_mono {D D' : Nat} {f : Addr} {vs : List Value} {pre : List (Addr × Obj) → Prop} {post : List (Addr × Obj) → Value → Prop} (h : SaysT w mean mg mb D f vs pre post) (hD : D ≤ D') : SaysT w mean mg mb D' f vs pre post := by
  unfold SaysT at h ⊢
  intro dp un gd cn cs ad ccd outer A₀ base g₀ h₀ L mm news s Q E B F X N T XB TB KD T0 hk hpre hd hu hret
  exact h dp un gd cn cs ad ccd outer A₀ base g₀ h₀ L mm news s Q E B F X N T XB TB KD T0 hk hpre (by (first | lia | omega)) (by (first | lia | omega)) hret
theorem saysT_weak {D : Nat} {f : Addr} {vs : List Value} {pre : List (Addr × Obj) → Prop} {post post' : List (Addr × Obj) → Value → Prop} (h : SaysT w mean mg mb D f vs pre post) (hq : ∀ l r, post l r → post' l r) : SaysT w mean mg mb D f vs pre post' := by
  unfold SaysT at h ⊢
  intro dp un gd cn cs ad ccd outer A₀ base g₀ h₀ L mm news s Q E B F X N T XB TB KD T0 hk hpre hd hu hret
  exact h dp un gd cn cs ad ccd outer A₀ base g₀ h₀ L mm news s Q E B F X N T XB TB KD T0 hk hpre hd hu fun r news' h' tk' h₀' a b c d e f g i j => hret r news' h' tk' h₀' a b c d e f g i (hq _ _ j)
def IsNone (r : Value) : Prop := ∃ t, r = .str (Str.ofString "none") t
theorem law_power_none (x p q : Addr) (a b c e d top : Int) (t1 t2 : Tok) (hbad : a < 0 ∨ (a = 0 ∧ c ≤ 0)) (ha : cd a.natAbs ≤ 10) (hc : cd c.natAbs ≤ 10) (hb0 : -50 ≤ b) (hb1 : b ≤ 50) (he0 : -50 ≤ e) (he1 : e ≤ 50) (hd0 : 1 ≤ d) (hd1 : d ≤ 20) (ht : cd top.natAbs ≤ 10) :
    SaysT w mean mg mb 12 223 [.ref x, .int d t1, .int top t2] (fun l => TuR l x p q ∧ Tu l p a b ∧ Tu l q c e) (fun _ r => IsNone r) :=
  saysT_weak (law_power_says x p q a b c e d top t1 t2 ha hc hb0 hb1 he0 he1 hd0 hd1 ht) fun l r h => rv_none' h (by unfold realR; rw [if_pos hbad])
theorem law_root_none (x : Addr) (a b d top : Int) (t1 t2 : Tok) (h0 : a < 0) : SaysT w mean mg mb 10 230 [.ref x, .int d t1, .int top t2] (fun l => Tu l x a b) (fun _ r => IsNone r) :=
  saysT_weak (law_root_neg_says x a b d top t1 t2 h0) fun l r h => rv_none h
theorem NN.mono {l l' : List (Addr × Obj)} {r : Value} (h : NN l r) (hs : ∀ p ∈ l, p ∈ l') : NN l' r := let ⟨x, t1, t2, n, e, m⟩ := h; ⟨x, t1, t2, n, e, hs _ m⟩
/-- use, when the answer is a plain value -/
theorem saysT_useI {D : Nat} {f : Addr} {vs : List Value} {pre : List (Addr × Obj) → Prop} {P : Value → Prop}
    {dp un : Nat} {gd : Option (List Code)} {cn : Str} {cs : Scope} {a : Addr} {ccd : Value} {outer : List Env} {A₀ : Around} {base g₀ h₀ : Heap} {L : Addr}
    {m : Str → Option Value} {news : List (Addr × Obj)} {s : Shared} {Q E : Value → Shared → Prop} (S : SaysT w mean mg mb D f vs pre (fun _ r => P r)) (B : Below A₀ base outer h₀) (F : Fr h₀ L s.heap m) (X : (hd.heap_39 w.params).In h₀) (N : News h₀ L s.heap news)
    (T : Top hd.view_39 (looseW hd.view_39 []) mean mg mb h₀) (XB : (hd.heap_39 w.params).In base) (TB : Top hd.view_39 (looseW hd.view_39 []) mean mg mb base) (KD : KtsDicts (outer.filterMap (·.frame)) h₀) (T0 : KtsTurn (outer.filterMap (·.frame)) g₀ h₀)
    (hk : cs.kind = .function) (hp : pre news) (hd' : dp + 3 * D + 10 < recursionLimit) (hu : un + 30 * D + 200 < cLine)
    (ret : ∀ r h' tk' h₀', KtsTurn (outer.filterMap (·.frame)) g₀ h₀' → Fr h₀' L h' m → News h₀' L h' news → Below A₀ base outer h₀' → (hd.heap_39 w.params).In h₀' →
      Top hd.view_39 (looseW hd.view_39 []) mean mg mb h₀' → KtsDicts (outer.filterMap (·.frame)) h₀' → P r → Q r { s with heap := h', toks := tk' }) :
    wpAny (model PR w) (ktrTop dp un gd cn cs L a ccd [] outer) (call (.ref f) vs) Q E s :=
  S _ _ _ _ _ _ _ _ _ _ _ _ _ _ _ _ _ _ B F X N T XB TB KD T0 hk hp hd' hu (fun r news' h' tk' h₀' kT F' N' hs B' X' T' D' hq => ret r h' tk' h₀' kT F' (fun p hp => N' p (hs p hp)) B' X' T' D' hq)
theorem ne_nn {A : Around} {E : Value → Shared → Prop} {s : Shared} {h₀ : Heap} {L x y : Addr} {news : List (Addr × Obj)} {t1 t2 t3 t4 : Tok} {n n' : Nat} {Q : Value → Shared → Prop} {prog : Program} (N : News h₀ L s.heap ((y, listOf #[.str (Str.ofString "none") t3, .str (Str.ofString "none") t4] n') :: news))
    (h1 : (x, listOf #[.str (Str.ofString "none") t1, .str (Str.ofString "none") t2] n) ∈ news) (hu : A.units + 64 < cLine)
    (h : Q (.bool false) s) : wpAny (model prog w) A (compareOp .NotEq (.ref x) (.ref y)) Q E s := by
  refine ne_dataH (.list (N _ (.tail _ h1)).1 rfl rfl (.cons (.str (Str.ofString "none") t1) (.cons (.str (Str.ofString "none") t2) .nil))) (.list (N _ (.head _)).1 rfl rfl (.cons (.str (Str.ofString "none") t3) (.cons (.str (Str.ofString "none") t4) .nil)))
    (by decide +kernel) (by decide +kernel) hu ?_
  rw [show (!PyData.eqv (.list [.str (Str.ofString "none"), .str (Str.ofString "none")]) (.list [.str (Str.ofString "none"), .str (Str.ofString "none")])) = false from by simp [PyData.eqv, PyData.eqvAll]]
  exact h
theorem ln48 : True := by
  k_with "call ref" => (k_here; (with_reducible show wpAny _ _ (call (Value.ref 223) [Value.ref _, Value.int _ _, Value.int _ _]) _ _ _); k_dflt (refine' saysT_useI (law_power_none _ _ _ _ _ _ _ _ _ _ _ ?hbadr62 ?har62 ?hcr62 ?hb0r62 ?hb1r62 ?he0r62 ?he1r62 ?hd0r62 ?hd1r62 ?htr62) ?k1r62 ?k2r62 ?k3r62 ?k4r62 ?k5r62 ?XBr62 ?TBr62 ?kDr62 ?T0r62 ?kKr62 ?kpr62 ?kdr62 ?kur62 ?_; (case k1r62 => k_asm); (case k2r62 => k_asm); (case k3r62 => k_asm); (case k4r62 => k_asm); (case k5r62 => k_asm); (case XBr62 => assumption); (case TBr62 => assumption); (case kDr62 => assumption); (case T0r62 => first | assumption | exact KtsTurn.refl); (case kKr62 => first | exact rfl | assumption); (case kpr62 => exact ⟨by k_extra "tur_up", by k_extra "tu_up", by k_extra "tu_up"⟩); (case kdr62 => first | exact room3 (by assumption) rfl | exact room2 (by assumption) rfl | ktr_room); (case kur62 => first | exact room3 (by assumption) rfl | ktr_units); (case hbadr62 => first | assumption | omega); (case har62 => first | assumption | omega | exact cd10 (by omega) (by omega)); (case hcr62 => first | assumption | omega | exact cd10 (by omega) (by omega)); (case hb0r62 => first | assumption | omega); (case hb1r62 => first | assumption | omega); (case he0r62 => first | assumption | omega); (case he1r62 => first | assumption | omega); (case hd0r62 => first | assumption | omega); (case hd1r62 => first | assumption | omega); (case htr62 => first | assumption | omega)); intro r' h' tk' kg' kT' F' N' B' X' T' D' P'; (have kX' := kFor F' X'); (try k_lift B'); obtain ⟨t', e'⟩ := P'; subst e'; (try dsimp only); (try k_fold); (try k_sweep))
  exact True.intro
theorem ln49 : True := by
  k_with "call ref" => (k_here; (with_reducible show wpAny _ _ (call (Value.ref 230) [Value.ref _, Value.int _ _, Value.int _ _]) _ _ _); k_dflt (refine' saysT_useI (law_root_none _ _ _ _ _ _ _ ?h0r63) ?k1r63 ?k2r63 ?k3r63 ?k4r63 ?k5r63 ?XBr63 ?TBr63 ?kDr63 ?T0r63 ?kKr63 ?kpr63 ?kdr63 ?kur63 ?_; (case k1r63 => k_asm); (case k2r63 => k_asm); (case k3r63 => k_asm); (case k4r63 => k_asm); (case k5r63 => k_asm); (case XBr63 => assumption); (case TBr63 => assumption); (case kDr63 => assumption); (case T0r63 => first | assumption | exact KtsTurn.refl); (case kKr63 => first | exact rfl | assumption); (case kpr63 => k_extra "tu_up"); (case kdr63 => first | exact room3 (by assumption) rfl | exact room2 (by assumption) rfl | ktr_room); (case kur63 => first | exact room3 (by assumption) rfl | ktr_units); (case h0r63 => first | assumption | omega)); intro r' h' tk' kg' kT' F' N' B' X' T' D' P'; (have kX' := kFor F' X'); (try k_lift B'); obtain ⟨t', e'⟩ := P'; subst e'; (try dsimp only); (try k_fold); (try k_sweep))
  exact True.intro
theorem ln50 : True := by
  k_with "call ref" => (k_here; (with_reducible show wpAny _ _ (call (Value.ref 237) [Value.ref _, Value.int _ _, Value.int _ _]) _ _ _); k_dflt (refine' saysT_use (law_logs_says _ _ _ _ _ _ _ ?h0r64) ?k1r64 ?k2r64 ?k3r64 ?k4r64 ?k5r64 ?XBr64 ?TBr64 ?kDr64 ?T0r64 ?kKr64 ?kpr64 ?kdr64 ?kur64 (fun _ _ _ hs h => h.mono hs) ?_; (case k1r64 => k_asm); (case k2r64 => k_asm); (case k3r64 => k_asm); (case k4r64 => k_asm); (case k5r64 => k_asm); (case XBr64 => assumption); (case TBr64 => assumption); (case kDr64 => assumption); (case T0r64 => first | assumption | exact KtsTurn.refl); (case kKr64 => first | exact rfl | assumption); (case kpr64 => k_extra "tu_up"); (case kdr64 => first | exact room3 (by assumption) rfl | exact room2 (by assumption) rfl | ktr_room); (case kur64 => first | exact room3 (by assumption) rfl | ktr_units); (case h0r64 => first | assumption | omega)); intro r' tl' h' tk' kg' kT' F' N' B' X' T' D' P'; (have kX' := kFor F' X'); (try k_lift B'); obtain ⟨x', t1', t2', n', e', m'⟩ := P'; subst e'; (try dsimp only); (try k_fold); (try k_sweep))
  exact True.intro
def PairLit (a b : Int) (l : List (Addr × Obj)) (r : Value) : Prop := ∃ x, r = .ref x ∧ Tu l x a b
theorem PairLit.mono {a b : Int} {l l' : List (Addr × Obj)} {r : Value} (h : PairLit a b l r) (hs : ∀ p ∈ l, p ∈ l') : PairLit a b l' r := let ⟨x, e, t⟩ := h; ⟨x, e, t.mono hs⟩
theorem says_plain {D : Nat} {f : Addr} {vs : List Value} {pre : List (Addr × Obj) → Prop} {post post' : List (Addr × Obj) → Value → Prop} {exc : Prop} (h : Says w mean mg mb D f vs pre post exc) (hq : ∀ l r, post l r → post' l r) (he : ¬ exc) : Says w mean mg mb D f vs pre post' False := by
  unfold Says at h ⊢
  intro dp un gd cn cs ad ccd outer A₀ base h₀ L mm news s Q E B F X N T hk hpre hd hu hret hexc
  exact h dp un gd cn cs ad ccd outer A₀ base h₀ L mm news s Q E B F X N T hk hpre hd hu (fun r news' h' tk' a b c d => hret r news' h' tk' a b c (hq _ _ d)) (fun x => (he x).elim)
theorem opt_pair {l : List (Addr × Obj)} {r : Value} {o : Option (Int × Int)} {a b : Int} (h : OptOut o l r) (e : o = some (a, b)) : PairLit a b l r := by
  obtain ⟨x, a', b', e1, t, e2⟩ := h
  rw [e] at e2; cases e2
  exact ⟨x, e1, t⟩
theorem says_pre {D : Nat} {f : Addr} {vs : List Value} {pre pre' : List (Addr × Obj) → Prop} {post : List (Addr × Obj) → Value → Prop} {exc : Prop} (h : Says w mean mg mb D f vs pre post exc) (hq : ∀ l, pre' l → pre l) : Says w mean mg mb D f vs pre' post exc := by
  unfold Says at h ⊢
  intro dp un gd cn cs ad ccd outer A₀ base h₀ L mm news s Q E B F X N T hk hpre hd hu hret hexc
  exact h dp un gd cn cs ad ccd outer A₀ base h₀ L mm news s Q E B F X N T hk (hq _ hpre) hd hu hret hexc
theorem real_zero_says (x y : Addr) (b c e d top : Int) (t1 t2 : Tok) (h0 : 0 < c) (hc : c ≤ 1000) (hb0 : -50 ≤ b) (hb1 : b ≤ 50) (he0 : -50 ≤ e) (he1 : e ≤ 50) (hd0 : 1 ≤ d) (hd1 : d ≤ 20) (ht : cd top.natAbs ≤ 10) :
    Says w mean mg mb 10 194 [.ref x, .ref y, .int d t1, .int top t2] (fun l => Tu l x 0 b ∧ Tu l y c e) (PairLit 0 0) False :=
  says_plain (real_says x y 0 b c e d top t1 t2 (cd10 (by decide) (by decide)) (cd10 (by omega) (by omega)) hb0 hb1 he0 he1 hd0 hd1 ht) (fun l r h => opt_pair h (realR_zero rfl (by omega))) (by rw [realR_zero rfl (by omega)]; exact fun h => nomatch h)
theorem real_one_says (x y : Addr) (a b d top : Int) (t1 t2 : Tok) (h0 : 0 < a) (ha : a ≤ 1000) (hb0 : -50 ≤ b) (hb1 : b ≤ 50) (hd0 : 1 ≤ d) (hd1 : d ≤ 20) (ht : cd top.natAbs ≤ 10) :
    Says w mean mg mb 10 194 [.ref x, .ref y, .int d t1, .int top t2] (fun l => Tu l x a b ∧ Tu l y 0 0) (PairLit 1 0) False :=
  says_plain (real_says x y a b 0 0 d top t1 t2 (cd10 (by omega) (by omega)) (cd10 (by decide) (by decide)) hb0 hb1 (by decide) (by decide) hd0 hd1 ht) (fun l r h => opt_pair h (realR_one (by omega) (by omega) rfl)) (by rw [realR_one (by omega) (by omega) rfl]; exact fun h => nomatch h)
theorem sqrt_zero_says (x : Addr) (b d top : Int) (t1 t2 : Tok) (hd0 : 0 ≤ d) (hd1 : d ≤ 100) :
    Says w mean mg mb 8 117 [.ref x, .int d t1, .int top t2] (fun l => Tu l x 0 b) (PairLit 0 0) False :=
  says_plain (sqrt_real_says x 0 b d top t1 t2 (by decide) (by show cd 0 ≤ 100; rw [cd_zero]; omega) hd0 hd1) (fun l r h => opt_pair h (by unfold sqrtR; rw [if_pos rfl])) (by unfold sqrtR; rw [if_pos rfl]; exact fun h => nomatch h)
theorem ln51 : True := by
  k_with "call ref" => (k_here; (with_reducible show wpAny _ _ (call (Value.ref 194) [Value.ref _, Value.ref _, Value.int _ _, Value.int _ _]) _ _ _); k_dflt (refine' says_useT (real_one_says _ _ _ _ _ _ _ _ ?h0r65 ?har65 ?hb0r65 ?hb1r65 ?hd0r65 ?hd1r65 ?htr65) ?k1r65 ?k2r65 ?k3r65 ?k4r65 ?k5r65 ?kKr65 ?kpr65 ?kdr65 ?kur65 (fun _ _ _ hs h => h.mono hs) ?_ (fun h => h.elim); (case k1r65 => k_asm); (case k2r65 => k_asm); (case k3r65 => k_asm); (case k4r65 => k_asm); (case k5r65 => k_asm); (case kKr65 => first | exact rfl | assumption); (case kpr65 => exact ⟨by k_extra "tu_up", by k_extra "tu_up"⟩); (case kdr65 => first | exact room3 (by assumption) rfl | exact room2 (by assumption) rfl | ktr_room); (case kur65 => first | exact room3 (by assumption) rfl | ktr_units); (case h0r65 => first | assumption | omega); (case har65 => first | assumption | omega); (case hb0r65 => first | assumption | omega); (case hb1r65 => first | assumption | omega); (case hd0r65 => first | assumption | omega); (case hd1r65 => first | assumption | omega); (case htr65 => first | assumption | omega)); intro r' tl' h' tk' F' N' P'; obtain ⟨x', e', T'⟩ := P'; subst e'; (try dsimp only); (try k_fold); (try k_sweep))
  exact True.intro
theorem ln52 : True := by
  k_with "call ref" => (k_here; (with_reducible show wpAny _ _ (call (Value.ref 194) [Value.ref _, Value.ref _, Value.int _ _, Value.int _ _]) _ _ _); k_dflt (refine' says_useT (real_zero_says _ _ _ _ _ _ _ _ _ ?h0r66 ?hcr66 ?hb0r66 ?hb1r66 ?he0r66 ?he1r66 ?hd0r66 ?hd1r66 ?htr66) ?k1r66 ?k2r66 ?k3r66 ?k4r66 ?k5r66 ?kKr66 ?kpr66 ?kdr66 ?kur66 (fun _ _ _ hs h => h.mono hs) ?_ (fun h => h.elim); (case k1r66 => k_asm); (case k2r66 => k_asm); (case k3r66 => k_asm); (case k4r66 => k_asm); (case k5r66 => k_asm); (case kKr66 => first | exact rfl | assumption); (case kpr66 => exact ⟨by k_extra "tu_up", by k_extra "tu_up"⟩); (case kdr66 => first | exact room3 (by assumption) rfl | exact room2 (by assumption) rfl | ktr_room); (case kur66 => first | exact room3 (by assumption) rfl | ktr_units); (case h0r66 => first | assumption | omega); (case hcr66 => first | assumption | omega); (case hb0r66 => first | assumption | omega); (case hb1r66 => first | assumption | omega); (case he0r66 => first | assumption | omega); (case he1r66 => first | assumption | omega); (case hd0r66 => first | assumption | omega); (case hd1r66 => first | assumption | omega); (case htr66 => first | assumption | omega)); intro r' tl' h' tk' F' N' P'; obtain ⟨x', e', T'⟩ := P'; subst e'; (try dsimp only); (try k_fold); (try k_sweep))
  exact True.intro
theorem ln53 : True := by
  k_with "call ref" => (k_here; (with_reducible show wpAny _ _ (call (Value.ref 117) [Value.ref _, Value.int _ _, Value.int _ _]) _ _ _); k_dflt (refine' says_useT (sqrt_zero_says _ _ _ _ _ _ ?hd0r67 ?hd1r67) ?k1r67 ?k2r67 ?k3r67 ?k4r67 ?k5r67 ?kKr67 ?kpr67 ?kdr67 ?kur67 (fun _ _ _ hs h => h.mono hs) ?_ (fun h => h.elim); (case k1r67 => k_asm); (case k2r67 => k_asm); (case k3r67 => k_asm); (case k4r67 => k_asm); (case k5r67 => k_asm); (case kKr67 => first | exact rfl | assumption); (case kpr67 => k_extra "tu_up"); (case kdr67 => first | exact room3 (by assumption) rfl | exact room2 (by assumption) rfl | ktr_room); (case kur67 => first | exact room3 (by assumption) rfl | ktr_units); (case hd0r67 => first | assumption | omega); (case hd1r67 => first | assumption | omega)); intro r' tl' h' tk' F' N' P'; obtain ⟨x', e', T'⟩ := P'; subst e'; (try dsimp only); (try k_fold); (try k_sweep))
  exact True.intro
theorem ln54 : True := by
  k_with_none
  k_with "tu_up" => first | with_reducible assumption | exact Tu.of (List.Mem.head _) | exact Tu.nought | (apply Tu.cons; k_extra "tu_up") | (apply Tu.app; k_extra "tu_up")
  k_with "tu3_up" => first | with_reducible assumption | exact Tu3.of (List.Mem.head _) | (refine Tu3.cons ?_; k_extra "tu3_up") | (refine Tu3.app ?_; k_extra "tu3_up")
  k_with "tur_up" => first | with_reducible assumption | exact TuR.of (List.Mem.head _) | (apply TuR.cons; k_extra "tur_up") | (apply TuR.app; k_extra "tur_up")
  k_with "rv_up" => first | with_reducible assumption | (refine Rv.cons ?_; k_extra "rv_up") | (refine Rv.app ?_; k_extra "rv_up")
  k_with "sub_up" => first | with_reducible assumption | exact sub_id | (refine sub_cons ?_; k_extra "sub_up") | (refine sub_app ?_; k_extra "sub_up")
  k_with "subscriptTail" => (k_here; (with_reducible show wpAny _ _ (subscriptTail _ _ (Value.ref _) (Value.int 0 _)) _ _ _); k_dflt (first | (refine' tu_item0 ?Fr9 ?Xr9 ?Nr9 ?Tr9 ?_ ?hsr9; (case Fr9 => k_asm); (case Xr9 => k_asm); (case Nr9 => k_asm); (case Tr9 => k_extra "tu_up"); (case hsr9 => with_unfolding_all rfl); k_whole; intro _) | (refine' tu_ref0 ?Nr9 ?Tr9 ?_ ?hsr9; (case Nr9 => k_asm); (case Tr9 => k_extra "tur_up"); (case hsr9 => with_unfolding_all rfl); k_whole)))
  k_with "subscriptTail" => (k_here; (with_reducible show wpAny _ _ (subscriptTail _ _ (Value.ref _) (Value.int 1 _)) _ _ _); k_dflt (first | (refine' tu_item1 ?Fr10 ?Xr10 ?Nr10 ?Tr10 ?_ ?hsr10; (case Fr10 => k_asm); (case Xr10 => k_asm); (case Nr10 => k_asm); (case Tr10 => k_extra "tu_up"); (case hsr10 => with_unfolding_all rfl); k_whole; intro _) | (refine' tu_ref1 ?Nr10 ?Tr10 ?_ ?hsr10; (case Nr10 => k_asm); (case Tr10 => k_extra "tur_up"); (case hsr10 => with_unfolding_all rfl); k_whole)))
  k_with "assign Tuple" => (k_here; (with_reducible show wpAny _ _ (assign (Expr.Tuple _ _ _) _ (Value.ref _)) _ _ _); k_dflt (first | (refine' tu_unpack ?Fr11 ?Xr11 ?Nr11 ?Tr11 ?k4r11 ?k5r11 ?k6r11 ?_; (case Fr11 => k_asm); (case Xr11 => k_asm); (case Nr11 => k_asm); (case Tr11 => k_extra "tu_up"); (case k4r11 => exact rfl); (case k5r11 => exact rfl); (case k6r11 => exact rfl); k_whole; intro _ _ h' F' N') | (refine' tu_unpack3 ?Fr11 ?Nr11 ?Tr11 ?k4r11 ?k5r11 ?k6r11 ?_; (case Fr11 => k_asm); (case Nr11 => k_asm); (case Tr11 => k_extra "tu3_up"); (case k4r11 => exact rfl); (case k5r11 => exact rfl); (case k6r11 => exact rfl); k_whole; intro _ _ _ h' F' N')); (try k_sweep))
  k_with "binaryOp Mult int int" => (k_here; with_reducible refine mul_int ?_ (by assumption))
  k_with "binaryOp FloorDiv int int" => (k_here; (with_reducible refine floordiv_int ?h0r13 ?_ (Or.inl (PyProof.noPylong_of_log2 ?hlr13))); (case h0r13 => first | assumption | omega); (case hlr13 => assumption))
  k_with "inplaceOp FloorDiv int int" => (k_here; (with_reducible refine ifloordiv_int ?h0r14 ?_ (Or.inl (PyProof.noPylong_of_log2 ?hlr14))); (case h0r14 => first | assumption | omega); (case hlr14 => assumption))
  k_with "binaryOp Pow int int" => (k_here; (with_reducible refine pow_int_small ?ar15 ?br15 ?cr15 ?_); (case ar15 => omega); (case br15 => omega); (case cr15 => decide))
  k_with "call builtin:divmod" => (k_here; (with_reducible show wpAny _ _ (call (Value.builtin _) [Value.int _ _, Value.int _ _]) _ _ _); (refine divmod_N (by k_asm) (by k_asm) (by assumption) ?_ (Or.inl (PyProof.noPylong_of_log2 (by assumption)))); intro h' F' N'; (try k_sweep))
  k_with "exec Raise some none" => (k_here; refine raise44 rfl ?_)
  k_with "RaisePost" => (k_here; refine' raisePost ?Fr18 ?Xr18 ?Nr18 ?_; (case Fr18 => k_asm); (case Xr18 => k_asm); (case Nr18 => k_asm))
  k_with "call ref" => (k_here; (with_reducible show wpAny _ _ (call (Value.ref 44) [Value.str _ _]) _ _ _); k_dflt (refine' call_fault ?k1r19 ?k2r19 ?k3r19 ?k4r19 ?k5r19 ?kKr19 ?kdr19 ?_; (case k1r19 => k_asm); (case k2r19 => k_asm); (case k3r19 => k_asm); (case k4r19 => k_asm); (case k5r19 => k_asm); (case kKr19 => first | exact rfl | assumption); (case kdr19 => first | exact room3 (by assumption) rfl | exact room2 (by assumption) rfl | ktr_room); k_whole); intro h' e' t' d' tk' F' N' l1' l2' l3'; (try dsimp only); (try k_sweep))
  k_with "leaving ref" => (k_here; k_dflt (first | (refine' leave_fault ?Kr20 ?Fr20 ?Nr20 ?h1r20 ?h2r20 ?h3r20 sub_id ?_; (case Kr20 => assumption); (case Fr20 => k_asm); (case Nr20 => k_asm); (case h1r20 => assumption); (case h2r20 => assumption); (case h3r20 => assumption); k_whole; intro h' R' U') | (refine' leave_onS ?Kr20 ?Fr20 ?Rr20 ?Ur20 ?_; (case Rr20 => assumption); (case Fr20 => assumption); (case Kr20 => assumption); (case Ur20 => assumption); k_whole; intro h' R' K' U'; clear K')))
  k_with "execs cons" => (k_here; (with_reducible show wpAny _ _ _ _ _ (Shared.mk _ _ _ (_ + 1) _)); (with_reducible refine gen_toks (s := Shared.mk _ _ _ 0 _) ?_); intro tk'; (try dsimp only))
  k_with "execs nil" => (k_here; (with_reducible show wpAny _ _ _ _ _ (Shared.mk _ _ _ (_ + 1) _)); (with_reducible refine gen_toks (s := Shared.mk _ _ _ 0 _) ?_); intro tk'; (try dsimp only))
  k_with "newTuple" => (k_here; (with_reducible show wpAny _ _ (newTuple [Value.int _ _, Value.int _ _]) _ _ _); k_dflt (refine' newTuple_Tu ?Fr41 ?Nr41 ?_; (case Fr41 => k_asm); (case Nr41 => k_asm)); intro D' h' F' N' T' l1; (try k_lt l1); (try k_sweep))
  k_with "newTuple" => (k_here; (with_reducible show wpAny _ _ (newTuple [Value.ref _, Value.ref _]) _ _ _); k_dflt (refine' newTuple_TuR ?Fr42 ?Nr42 ?_; (case Fr42 => k_asm); (case Nr42 => k_asm)); intro D' h' F' N' T' l1; (try k_lt l1); (try k_sweep))
  k_with "exec For Name Tuple cons nil" => (k_here; (with_unfolding_all refine' for_rest ?hr47 ?_; (case hr47 => exact rfl); k_whole))
  k_with "pyIter ref" => (k_here; (with_reducible show wpAny _ _ (pyIter (Value.ref _)) (fun it s₂ => RestAt _ _ _ _ _ _ _ _ it s₂) _ _); (refine' rest_iter ?eLr48 ?Fr48 ?Nr48 ?mr48 ?_; (case eLr48 => exact rfl); (case Fr48 => k_asm); (case Nr48 => k_asm); (case mr48 => exact List.Mem.head _)); intro I' o' h' io' F' N' l1')
  k_with "Rest" => (k_here; first | (refine' rest_step ?eLr49 ?Fr49 ?Nr49 ?lr49 ?sr49 ?or49 ?mr49 ?ir49 ?vr49 ?_; (case eLr49 => exact rfl); (case Fr49 => k_asm); (case Nr49 => k_asm); (case lr49 => assumption); (case or49 => assumption); (case sr49 => k_extra "sub_up"); (case mr49 => k_extra "mem_up"); (case ir49 => exact Nat.le_of_ble_eq_true rfl); (case vr49 => first | exact at2_0 | exact at2_1 | exact at4_0 | exact at4_1 | exact at4_2 | exact at4_3); intro o' h' tk' io' F' N' l1') | (refine' rest_done ?eLr49 ?Fr49 ?Nr49 ?lr49 ?sr49 ?or49 ?mr49 ?ir49 ?_; (case eLr49 => exact rfl); (case Fr49 => k_asm); (case Nr49 => k_asm); (case lr49 => assumption); (case or49 => assumption); (case sr49 => k_extra "sub_up"); (case mr49 => k_extra "mem_up"); (case ir49 => exact rfl); intro h' tk' F' N') | (refine' rest_stepN ?eLr49 ?Fr49 ?Nr49 ?lr49 ?or49 ?mr49 ?ir49 ?vr49 ?_; (case eLr49 => exact rfl); (case Fr49 => k_asm); (case Nr49 => k_asm); (case lr49 => exact lt_upd1 (by assumption)); (case or49 => assumption); (case mr49 => k_extra "mem_up"); (case ir49 => exact Nat.le_of_ble_eq_true rfl); (case vr49 => first | exact at2_0 | exact at2_1 | exact at4_0 | exact at4_1 | exact at4_2 | exact at4_3); intro o' h' tk' io' F' N' l1') | (refine' rest_doneN ?eLr49 ?Fr49 ?Nr49 ?lr49 ?or49 ?mr49 ?ir49 ?_; (case eLr49 => exact rfl); (case Fr49 => k_asm); (case Nr49 => k_asm); (case lr49 => exact lt_upd1 (by assumption)); (case or49 => assumption); (case mr49 => k_extra "mem_up"); (case ir49 => exact rfl); intro h' tk' F' N'))
  k_with "mem_up" => first | exact List.Mem.head _ | (refine List.Mem.tail _ ?_; k_extra "mem_up") | (refine List.mem_append_right _ ?_; k_extra "mem_up")
  k_with "TurnPost" => first | refine turnPost_next ?_ | refine turnPost_ret ?_ | refine turnPost_cont ?_
  k_with "call builtin:list.append" => (k_here; (refine' append_here ?Fr52 ?Nr52 ?hIr52 ?hAr52 ?hDr52 ?hzr52 ?_; (case Fr52 => k_asm); (case Nr52 => assumption); (case hIr52 => assumption); (case hAr52 => assumption); (case hDr52 => assumption); (case hzr52 => exact Nat.le_of_ble_eq_true rfl)); intro h' F' N' l1')
  k_with "call ref" => (k_here; (with_reducible show wpAny _ _ (call (Value.ref _) [Value.ref _, Value.int _ _, Value.int _ _]) _ _ _); k_dflt (refine' saysT_use (Work.use ?whr54 ?wpr54) ?k1r54 ?k2r54 ?k3r54 ?k4r54 ?k5r54 ?XBr54 ?TBr54 ?kDr54 ?T0r54 ?kKr54 ?kpr54 ?kdr54 ?kur54 (fun _ _ _ hs h => h.mono hs) ?_; (case whr54 => with_reducible assumption); (case wpr54 => first | exact Or.inl rfl | exact Or.inr rfl); (case k1r54 => k_asm); (case k2r54 => k_asm); (case k3r54 => k_asm); (case k4r54 => k_asm); (case k5r54 => k_asm); (case XBr54 => assumption); (case TBr54 => assumption); (case kDr54 => assumption); (case T0r54 => first | assumption | exact KtsTurn.refl); (case kKr54 => first | exact rfl | assumption); (case kpr54 => first | assumption | exact Mono.up (by assumption) (by assumption) (by k_extra "sub_up")); (case kdr54 => first | exact room3 (by assumption) rfl | exact room2 (by assumption) rfl | ktr_room); (case kur54 => first | exact room3 (by assumption) rfl | ktr_units)); intro r' tl' h' tk' kg' kT' F' N' B' X' T' D' P'; (have kX' := kFor F' X'); (try k_lift B'); (first | (refine' Exists.elim (rv_some' P' ?her54) ?_; (case her54 => with_reducible assumption); intro x' q'; obtain ⟨e', U'⟩ := q'; subst e') | (refine' Exists.elim (rv_none' P' ?her54) ?_; (case her54 => with_reducible assumption); intro t' e'; subst e')); (try dsimp only); (try k_fold); (try k_sweep))
  k_with "compareOp Eq ref ref" => (k_here; (with_reducible show wpAny _ _ (compareOp CmpOp.Eq (Value.ref _) (Value.ref _)) _ _ _); k_dflt (refine' eq_tt ?Fr55 ?Xr55 ?Nr55 ?T1r55 ?T2r55 ?ur55 ?_; (case Fr55 => k_asm); (case Xr55 => k_asm); (case Nr55 => k_asm); (case T1r55 => k_extra "tu_up"); (case T2r55 => k_extra "tu_up"); (case ur55 => first | exact room3 (by assumption) rfl | ktr_units)))
  k_with "compareOp Eq ref str" => (k_here; k_dflt (refine' eq_ts ?Fr56 ?Xr56 ?Nr56 ?T1r56 ?ur56 ?_; (case Fr56 => k_asm); (case Xr56 => k_asm); (case Nr56 => k_asm); (case T1r56 => k_extra "tu_up"); (case ur56 => first | exact room3 (by assumption) rfl | ktr_units)))
  k_with "call ref" => (k_here; (with_reducible show wpAny _ _ (call (Value.ref 223) [Value.ref _, Value.int _ _, Value.int _ _]) _ _ _); k_dflt (refine' saysT_useI (law_power_none _ _ _ _ _ _ _ _ _ _ _ ?hbadr62 ?har62 ?hcr62 ?hb0r62 ?hb1r62 ?he0r62 ?he1r62 ?hd0r62 ?hd1r62 ?htr62) ?k1r62 ?k2r62 ?k3r62 ?k4r62 ?k5r62 ?XBr62 ?TBr62 ?kDr62 ?T0r62 ?kKr62 ?kpr62 ?kdr62 ?kur62 ?_; (case k1r62 => k_asm); (case k2r62 => k_asm); (case k3r62 => k_asm); (case k4r62 => k_asm); (case k5r62 => k_asm); (case XBr62 => assumption); (case TBr62 => assumption); (case kDr62 => assumption); (case T0r62 => first | assumption | exact KtsTurn.refl); (case kKr62 => first | exact rfl | assumption); (case kpr62 => exact ⟨by k_extra "tur_up", by k_extra "tu_up", by k_extra "tu_up"⟩); (case kdr62 => first | exact room3 (by assumption) rfl | exact room2 (by assumption) rfl | ktr_room); (case kur62 => first | exact room3 (by assumption) rfl | ktr_units); (case hbadr62 => first | assumption | omega); (case har62 => first | assumption | omega | exact cd10 (by omega) (by omega)); (case hcr62 => first | assumption | omega | exact cd10 (by omega) (by omega)); (case hb0r62 => first | assumption | omega); (case hb1r62 => first | assumption | omega); (case he0r62 => first | assumption | omega); (case he1r62 => first | assumption | omega); (case hd0r62 => first | assumption | omega); (case hd1r62 => first | assumption | omega); (case htr62 => first | assumption | omega)); intro r' h' tk' kg' kT' F' N' B' X' T' D' P'; (have kX' := kFor F' X'); (try k_lift B'); obtain ⟨t', e'⟩ := P'; subst e'; (try dsimp only); (try k_fold); (try k_sweep))
  k_with "call ref" => (k_here; (with_reducible show wpAny _ _ (call (Value.ref 230) [Value.ref _, Value.int _ _, Value.int _ _]) _ _ _); k_dflt (refine' saysT_useI (law_root_none _ _ _ _ _ _ _ ?h0r63) ?k1r63 ?k2r63 ?k3r63 ?k4r63 ?k5r63 ?XBr63 ?TBr63 ?kDr63 ?T0r63 ?kKr63 ?kpr63 ?kdr63 ?kur63 ?_; (case k1r63 => k_asm); (case k2r63 => k_asm); (case k3r63 => k_asm); (case k4r63 => k_asm); (case k5r63 => k_asm); (case XBr63 => assumption); (case TBr63 => assumption); (case kDr63 => assumption); (case T0r63 => first | assumption | exact KtsTurn.refl); (case kKr63 => first | exact rfl | assumption); (case kpr63 => k_extra "tu_up"); (case kdr63 => first | exact room3 (by assumption) rfl | exact room2 (by assumption) rfl | ktr_room); (case kur63 => first | exact room3 (by assumption) rfl | ktr_units); (case h0r63 => first | assumption | omega)); intro r' h' tk' kg' kT' F' N' B' X' T' D' P'; (have kX' := kFor F' X'); (try k_lift B'); obtain ⟨t', e'⟩ := P'; subst e'; (try dsimp only); (try k_fold); (try k_sweep))
  k_with "call ref" => (k_here; (with_reducible show wpAny _ _ (call (Value.ref 237) [Value.ref _, Value.int _ _, Value.int _ _]) _ _ _); k_dflt (refine' saysT_use (law_logs_says _ _ _ _ _ _ _ ?h0r64) ?k1r64 ?k2r64 ?k3r64 ?k4r64 ?k5r64 ?XBr64 ?TBr64 ?kDr64 ?T0r64 ?kKr64 ?kpr64 ?kdr64 ?kur64 (fun _ _ _ hs h => h.mono hs) ?_; (case k1r64 => k_asm); (case k2r64 => k_asm); (case k3r64 => k_asm); (case k4r64 => k_asm); (case k5r64 => k_asm); (case XBr64 => assumption); (case TBr64 => assumption); (case kDr64 => assumption); (case T0r64 => first | assumption | exact KtsTurn.refl); (case kKr64 => first | exact rfl | assumption); (case kpr64 => k_extra "tu_up"); (case kdr64 => first | exact room3 (by assumption) rfl | exact room2 (by assumption) rfl | ktr_room); (case kur64 => first | exact room3 (by assumption) rfl | ktr_units); (case h0r64 => first | assumption | omega)); intro r' tl' h' tk' kg' kT' F' N' B' X' T' D' P'; (have kX' := kFor F' X'); (try k_lift B'); obtain ⟨x', t1', t2', n', e', m'⟩ := P'; subst e'; (try dsimp only); (try k_fold); (try k_sweep))
  k_with "compareOp NotEq ref ref" => (k_here; (with_reducible show wpAny _ _ (compareOp CmpOp.NotEq (Value.ref _) (Value.ref _)) _ _ _); k_dflt (refine' ne_nn ?Nr68 ?m1r68 ?ur68 ?_; (case Nr68 => with_reducible assumption); (case m1r68 => with_reducible assumption); (case ur68 => first | exact room3 (by assumption) rfl | ktr_units)))
  k_with "call ref" => (k_here; (with_reducible show wpAny _ _ (call (Value.ref 194) [Value.ref _, Value.ref _, Value.int _ _, Value.int _ _]) _ _ _); k_dflt (refine' says_useT (real_one_says _ _ _ _ _ _ _ _ ?h0r65 ?har65 ?hb0r65 ?hb1r65 ?hd0r65 ?hd1r65 ?htr65) ?k1r65 ?k2r65 ?k3r65 ?k4r65 ?k5r65 ?kKr65 ?kpr65 ?kdr65 ?kur65 (fun _ _ _ hs h => h.mono hs) ?_ (fun h => h.elim); (case k1r65 => k_asm); (case k2r65 => k_asm); (case k3r65 => k_asm); (case k4r65 => k_asm); (case k5r65 => k_asm); (case kKr65 => first | exact rfl | assumption); (case kpr65 => exact ⟨by k_extra "tu_up", by k_extra "tu_up"⟩); (case kdr65 => first | exact room3 (by assumption) rfl | exact room2 (by assumption) rfl | ktr_room); (case kur65 => first | exact room3 (by assumption) rfl | ktr_units); (case h0r65 => first | assumption | omega); (case har65 => first | assumption | omega); (case hb0r65 => first | assumption | omega); (case hb1r65 => first | assumption | omega); (case hd0r65 => first | assumption | omega); (case hd1r65 => first | assumption | omega); (case htr65 => first | assumption | omega)); intro r' tl' h' tk' F' N' P'; obtain ⟨x', e', T'⟩ := P'; subst e'; (try dsimp only); (try k_fold); (try k_sweep))
  k_with "call ref" => (k_here; (with_reducible show wpAny _ _ (call (Value.ref 194) [Value.ref _, Value.ref _, Value.int _ _, Value.int _ _]) _ _ _); k_dflt (refine' says_useT (real_zero_says _ _ _ _ _ _ _ _ _ ?h0r66 ?hcr66 ?hb0r66 ?hb1r66 ?he0r66 ?he1r66 ?hd0r66 ?hd1r66 ?htr66) ?k1r66 ?k2r66 ?k3r66 ?k4r66 ?k5r66 ?kKr66 ?kpr66 ?kdr66 ?kur66 (fun _ _ _ hs h => h.mono hs) ?_ (fun h => h.elim); (case k1r66 => k_asm); (case k2r66 => k_asm); (case k3r66 => k_asm); (case k4r66 => k_asm); (case k5r66 => k_asm); (case kKr66 => first | exact rfl | assumption); (case kpr66 => exact ⟨by k_extra "tu_up", by k_extra "tu_up"⟩); (case kdr66 => first | exact room3 (by assumption) rfl | exact room2 (by assumption) rfl | ktr_room); (case kur66 => first | exact room3 (by assumption) rfl | ktr_units); (case h0r66 => first | assumption | omega); (case hcr66 => first | assumption | omega); (case hb0r66 => first | assumption | omega); (case hb1r66 => first | assumption | omega); (case he0r66 => first | assumption | omega); (case he1r66 => first | assumption | omega); (case hd0r66 => first | assumption | omega); (case hd1r66 => first | assumption | omega); (case htr66 => first | assumption | omega)); intro r' tl' h' tk' F' N' P'; obtain ⟨x', e', T'⟩ := P'; subst e'; (try dsimp only); (try k_fold); (try k_sweep))
  k_with "call ref" => (k_here; (with_reducible show wpAny _ _ (call (Value.ref 117) [Value.ref _, Value.int _ _, Value.int _ _]) _ _ _); k_dflt (refine' says_useT (sqrt_zero_says _ _ _ _ _ _ ?hd0r67 ?hd1r67) ?k1r67 ?k2r67 ?k3r67 ?k4r67 ?k5r67 ?kKr67 ?kpr67 ?kdr67 ?kur67 (fun _ _ _ hs h => h.mono hs) ?_ (fun h => h.elim); (case k1r67 => k_asm); (case k2r67 => k_asm); (case k3r67 => k_asm); (case k4r67 => k_asm); (case k5r67 => k_asm); (case kKr67 => first | exact rfl | assumption); (case kpr67 => k_extra "tu_up"); (case kdr67 => first | exact room3 (by assumption) rfl | exact room2 (by assumption) rfl | ktr_room); (case kur67 => first | exact room3 (by assumption) rfl | ktr_units); (case hd0r67 => first | assumption | omega); (case hd1r67 => first | assumption | omega)); intro r' tl' h' tk' F' N' P'; obtain ⟨x', e', T'⟩ := P'; subst e'; (try dsimp only); (try k_fold); (try k_sweep))
  exact True.intro
theorem refusals_says (x : Addr) (a b d top : Int) (t1 t2 : Tok) (h0 : 0 < a) (h1 : a ≤ 1000) (hb0 : -50 ≤ b) (hb1 : b ≤ 50) (hd0 : 1 ≤ d) (hd1 : d ≤ 20) (ht : cd top.natAbs ≤ 10) :
    SaysT w mean mg mb 16 251 [.int d t1, .int top t2, .ref x] (fun l => Tu l x a b) (fun _ r => r = .bool true) := by
  unfold SaysT
  intro dp un gd cn cs ad ccd outer A₀ base g₀ h₀ L mm news s Q E B F X N T XB TB KD T0 hk hpre hd hu hret
  refine wpAny_call ?_
  k_dflt (refine' code_defS ?k1 ?k2 ?k3 ?k4 ?k5 ?XB ?TB ?D ?T0 ?kA ?k6 ?k7 ?k8 ?k9 ?kB ?_ ?cK ?c2 ?c3 ?c4 ?c5; (case kA => exact rfl); (case k2 => k_asm); (case k1 => k_asm); (case XB => assumption); (case TB => assumption); (case D => assumption); (case T0 => first | assumption | exact KtsTurn.refl); (case k3 => k_asm); (case k4 => k_asm); (case k5 => k_asm); (case k6 => k_is); (case k7 => k_is); (case k8 => first | exact room3 (by assumption) rfl | exact room2 (by assumption) rfl | ktr_room); (case k9 => exact BindsTo.of_eq rfl); (case kB => exact locs rfl); (case cK => first | assumption | exact rfl); (case c2 => exact rfl); (case c3 => exact rfl); (case c4 => exact rfl); (case c5 => decide); k_whole; intro g' L' h' FG' F' N' B' X' T' D'; (try dsimp only); (try k_lift B'); (try k_fold))
  k_steps
  all_goals exact hret _ _ _ _ _ (by assumption) (by k_asm) (by k_asm) (by k_extra "sub_up") (by assumption) (by assumption) (by assumption) (by assumption) rfl
theorem ln55 : True := by
  k_with_none
  k_with "tu_up" => first | with_reducible assumption | exact Tu.of (List.Mem.head _) | exact Tu.nought | (apply Tu.cons; k_extra "tu_up") | (apply Tu.app; k_extra "tu_up")
  k_with "tu3_up" => first | with_reducible assumption | exact Tu3.of (List.Mem.head _) | (refine Tu3.cons ?_; k_extra "tu3_up") | (refine Tu3.app ?_; k_extra "tu3_up")
  k_with "tur_up" => first | with_reducible assumption | exact TuR.of (List.Mem.head _) | (apply TuR.cons; k_extra "tur_up") | (apply TuR.app; k_extra "tur_up")
  k_with "rv_up" => first | with_reducible assumption | (refine Rv.cons ?_; k_extra "rv_up") | (refine Rv.app ?_; k_extra "rv_up")
  k_with "sub_up" => first | with_reducible assumption | exact sub_id | (refine sub_cons ?_; k_extra "sub_up") | (refine sub_app ?_; k_extra "sub_up")
  k_with "subscriptTail" => (k_here; (with_reducible show wpAny _ _ (subscriptTail _ _ (Value.ref _) (Value.int 0 _)) _ _ _); k_dflt (first | (refine' tu_item0 ?Fr9 ?Xr9 ?Nr9 ?Tr9 ?_ ?hsr9; (case Fr9 => k_asm); (case Xr9 => k_asm); (case Nr9 => k_asm); (case Tr9 => k_extra "tu_up"); (case hsr9 => with_unfolding_all rfl); k_whole; intro _) | (refine' tu_ref0 ?Nr9 ?Tr9 ?_ ?hsr9; (case Nr9 => k_asm); (case Tr9 => k_extra "tur_up"); (case hsr9 => with_unfolding_all rfl); k_whole)))
  k_with "subscriptTail" => (k_here; (with_reducible show wpAny _ _ (subscriptTail _ _ (Value.ref _) (Value.int 1 _)) _ _ _); k_dflt (first | (refine' tu_item1 ?Fr10 ?Xr10 ?Nr10 ?Tr10 ?_ ?hsr10; (case Fr10 => k_asm); (case Xr10 => k_asm); (case Nr10 => k_asm); (case Tr10 => k_extra "tu_up"); (case hsr10 => with_unfolding_all rfl); k_whole; intro _) | (refine' tu_ref1 ?Nr10 ?Tr10 ?_ ?hsr10; (case Nr10 => k_asm); (case Tr10 => k_extra "tur_up"); (case hsr10 => with_unfolding_all rfl); k_whole)))
  k_with "assign Tuple" => (k_here; (with_reducible show wpAny _ _ (assign (Expr.Tuple _ _ _) _ (Value.ref _)) _ _ _); k_dflt (first | (refine' tu_unpack ?Fr11 ?Xr11 ?Nr11 ?Tr11 ?k4r11 ?k5r11 ?k6r11 ?_; (case Fr11 => k_asm); (case Xr11 => k_asm); (case Nr11 => k_asm); (case Tr11 => k_extra "tu_up"); (case k4r11 => exact rfl); (case k5r11 => exact rfl); (case k6r11 => exact rfl); k_whole; intro _ _ h' F' N') | (refine' tu_unpack3 ?Fr11 ?Nr11 ?Tr11 ?k4r11 ?k5r11 ?k6r11 ?_; (case Fr11 => k_asm); (case Nr11 => k_asm); (case Tr11 => k_extra "tu3_up"); (case k4r11 => exact rfl); (case k5r11 => exact rfl); (case k6r11 => exact rfl); k_whole; intro _ _ _ h' F' N')); (try k_sweep))
  k_with "binaryOp Mult int int" => (k_here; with_reducible refine mul_int ?_ (by assumption))
  k_with "binaryOp FloorDiv int int" => (k_here; (with_reducible refine floordiv_int ?h0r13 ?_ (Or.inl (PyProof.noPylong_of_log2 ?hlr13))); (case h0r13 => first | assumption | omega); (case hlr13 => assumption))
  k_with "inplaceOp FloorDiv int int" => (k_here; (with_reducible refine ifloordiv_int ?h0r14 ?_ (Or.inl (PyProof.noPylong_of_log2 ?hlr14))); (case h0r14 => first | assumption | omega); (case hlr14 => assumption))
  k_with "binaryOp Pow int int" => (k_here; (with_reducible refine pow_int_small ?ar15 ?br15 ?cr15 ?_); (case ar15 => omega); (case br15 => omega); (case cr15 => decide))
  k_with "call builtin:divmod" => (k_here; (with_reducible show wpAny _ _ (call (Value.builtin _) [Value.int _ _, Value.int _ _]) _ _ _); (refine divmod_N (by k_asm) (by k_asm) (by assumption) ?_ (Or.inl (PyProof.noPylong_of_log2 (by assumption)))); intro h' F' N'; (try k_sweep))
  k_with "exec Raise some none" => (k_here; refine raise44 rfl ?_)
  k_with "RaisePost" => (k_here; refine' raisePost ?Fr18 ?Xr18 ?Nr18 ?_; (case Fr18 => k_asm); (case Xr18 => k_asm); (case Nr18 => k_asm))
  k_with "call ref" => (k_here; (with_reducible show wpAny _ _ (call (Value.ref 44) [Value.str _ _]) _ _ _); k_dflt (refine' call_fault ?k1r19 ?k2r19 ?k3r19 ?k4r19 ?k5r19 ?kKr19 ?kdr19 ?_; (case k1r19 => k_asm); (case k2r19 => k_asm); (case k3r19 => k_asm); (case k4r19 => k_asm); (case k5r19 => k_asm); (case kKr19 => first | exact rfl | assumption); (case kdr19 => first | exact room3 (by assumption) rfl | exact room2 (by assumption) rfl | ktr_room); k_whole); intro h' e' t' d' tk' F' N' l1' l2' l3'; (try dsimp only); (try k_sweep))
  k_with "leaving ref" => (k_here; k_dflt (first | (refine' leave_fault ?Kr20 ?Fr20 ?Nr20 ?h1r20 ?h2r20 ?h3r20 sub_id ?_; (case Kr20 => assumption); (case Fr20 => k_asm); (case Nr20 => k_asm); (case h1r20 => assumption); (case h2r20 => assumption); (case h3r20 => assumption); k_whole; intro h' R' U') | (refine' leave_onS ?Kr20 ?Fr20 ?Rr20 ?Ur20 ?_; (case Rr20 => assumption); (case Fr20 => assumption); (case Kr20 => assumption); (case Ur20 => assumption); k_whole; intro h' R' K' U'; clear K')))
  k_with "execs cons" => (k_here; (with_reducible show wpAny _ _ _ _ _ (Shared.mk _ _ _ (_ + 1) _)); (with_reducible refine gen_toks (s := Shared.mk _ _ _ 0 _) ?_); intro tk'; (try dsimp only))
  k_with "execs nil" => (k_here; (with_reducible show wpAny _ _ _ _ _ (Shared.mk _ _ _ (_ + 1) _)); (with_reducible refine gen_toks (s := Shared.mk _ _ _ 0 _) ?_); intro tk'; (try dsimp only))
  k_with "newTuple" => (k_here; (with_reducible show wpAny _ _ (newTuple [Value.int _ _, Value.int _ _]) _ _ _); k_dflt (refine' newTuple_Tu ?Fr41 ?Nr41 ?_; (case Fr41 => k_asm); (case Nr41 => k_asm)); intro D' h' F' N' T' l1; (try k_lt l1); (try k_sweep))
  k_with "newTuple" => (k_here; (with_reducible show wpAny _ _ (newTuple [Value.ref _, Value.ref _]) _ _ _); k_dflt (refine' newTuple_TuR ?Fr42 ?Nr42 ?_; (case Fr42 => k_asm); (case Nr42 => k_asm)); intro D' h' F' N' T' l1; (try k_lt l1); (try k_sweep))
  exact True.intro
theorem says_fact {D : Nat} {f : Addr} {vs : List Value} {pre : List (Addr × Obj) → Prop} {post post' : List (Addr × Obj) → Value → Prop} {exc : Prop} (h : Says w mean mg mb D f vs pre post exc) (hq : ∀ l r, post l r → post' l r) : Says w mean mg mb D f vs pre post' exc := by
  unfold Says at h ⊢
  intro dp un gd cn cs ad ccd outer A₀ base h₀ L mm news s Q E B F X N T hk hpre hd hu hret hexc
  exact h dp un gd cn cs ad ccd outer A₀ base h₀ L mm news s Q E B F X N T hk hpre hd hu (fun r news' h' tk' a b c d => hret r news' h' tk' a b c (hq _ _ d)) hexc
/-- the roots -/
theorem sq_le {a b : Int} (h0 : 0 ≤ a) (h : a ≤ b) : a * a ≤ b * b := Int.mul_le_mul h h h0 (by omega)
theorem wr_low {n h : Int} (hn : 0 < n) (h0 : 0 < h) : n < ((h + n.fdiv h).fdiv 2 + 1) * ((h + n.fdiv h).fdiv 2 + 1) := by
  rw [fdiv_pos_facts _ _ (by decide), fdiv_pos_facts _ _ h0]
  have h1 := Int.lt_ediv_add_one_mul_self n h0
  have hq : 0 ≤ n / h := Int.ediv_nonneg (by (first | lia | omega)) (by (first | lia | omega))
  generalize n / h = q at *
  -- y = (h + q) / 2, so 2 (y + 1) ≥ h + q + 1; 4 (y + 1)² ≥ (h + q + 1)² ≥ 4 h (q + 1) > 4 n - ...
  have h2 : h + q + 1 ≤ 2 * ((h + q) / 2 + 1) := by (first | lia | omega)
  generalize (h + q) / 2 + 1 = y at *
  have h3 := sq_le (by (first | lia | omega)) h2
  have e1 : (2 * y) * (2 * y) = 4 * (y * y) := sqk 2 y
  have e2 : (h + q + 1) * (h + q + 1) = (h - (q + 1)) * (h - (q + 1)) + 4 * ((q + 1) * h) := by
    have e : h + q + 1 = h + (q + 1) := by (first | lia | omega)
    rw [e]
    generalize q + 1 = z
    rw [Int.add_mul, Int.mul_add, Int.mul_add, Int.sub_mul, Int.mul_sub, Int.mul_sub, Int.mul_comm z h]
    (first | lia | omega)
  have h4 : 0 ≤ (h - (q + 1)) * (h - (q + 1)) := by
    rcases (show 0 ≤ h - (q + 1) ∨ h - (q + 1) ≤ 0 by (first | lia | omega)) with g | g
    · exact Int.mul_nonneg g g
    · exact Int.mul_nonneg_of_nonpos_of_nonpos g g
  (first | lia | omega)
theorem wrl_spec {n : Int} (hn : 0 < n) (f : Nat) : ∀ h : Int, 0 < h → h.toNat ≤ f → n < (h + 1) * (h + 1) → 0 < wrl f n h ∧ wrl f n h * wrl f n h ≤ n ∧ n < (wrl f n h + 1) * (wrl f n h + 1) := by
  induction f with
  | zero => intro h h0 hf; (first | lia | omega)
  | succ f ih =>
    intro h h0 hf hu
    show 0 < (if h ≤ (h + n.fdiv h).fdiv 2 then h else wrl f n ((h + n.fdiv h).fdiv 2)) ∧ _
    by_cases c : h ≤ (h + n.fdiv h).fdiv 2
    · have e : wrl (f + 1) n h = h := by show (if _ then _ else _) = _; rw [if_pos c]
      rw [e, if_pos c]
      refine ⟨h0, ?_, hu⟩
      rw [fdiv_pos_facts _ _ (by decide), fdiv_pos_facts _ _ h0] at c
      exact (Int.le_ediv_iff_mul_le h0).mp (by (first | lia | omega))
    · have e : wrl (f + 1) n h = wrl f n ((h + n.fdiv h).fdiv 2) := by show (if _ then _ else _) = _; rw [if_neg c]
      rw [e, if_neg c]
      exact ih _ (wr_half hn h0) (by have := wr_half hn h0; (first | lia | omega)) (wr_low hn h0)
theorem wroot_spec {n : Int} (h0 : 0 ≤ n) : 0 ≤ wroot n ∧ wroot n * wroot n ≤ n ∧ n < (wroot n + 1) * (wroot n + 1) := by
  by_cases hz : n = 0
  · subst hz; exact ⟨by decide, by decide, by decide⟩
  · have hn : 0 < n := by omega
    have hw0 : 0 < wr0 n := Int.pow_pos (by decide)
    have key : n < (wr0 n + 1) * (wr0 n + 1) := by
      have h1 := lt_pow_cd n.natAbs
      have h2 : cd n.natAbs ≤ (((cd n.natAbs : Int) + 1).fdiv 2).toNat + (((cd n.natAbs : Int) + 1).fdiv 2).toNat := by
        rw [fdiv_pos_facts _ _ (by decide)]; omega
      have h3 := Nat.pow_le_pow_right (n := 10) (by decide) h2
      rw [Nat.pow_add] at h3
      have e1 : ((10 ^ (((cd n.natAbs : Int) + 1).fdiv 2).toNat : Nat) : Int) = wr0 n := by unfold wr0; push_cast; rfl
      have h4 : n < wr0 n * wr0 n := by rw [← e1, ← Int.natCast_mul]; omega
      have h5 := sq_le (a := wr0 n) (b := wr0 n + 1) (by omega) (by omega)
      omega
    have := wrl_spec hn (wr0 n).toNat (wr0 n) hw0 (Nat.le_refl _) key
    unfold wroot
    rw [if_neg hz]
    exact ⟨by omega, this.2⟩
theorem root_small {v n : Int} (h : v * v ≤ n) (hn : n ≤ 100000000000) : v ≤ 1000000 := by
  rcases (show v ≤ 1000000 ∨ 1000001 ≤ v by (first | lia | omega)) with g | g
  · exact g
  · have := sq_le (by decide) g; (first | lia | omega)
theorem whole_law_says (n : Int) (t : Tok) (h0 : 0 ≤ n) (h1 : n ≤ 100000000000) : Says w mean mg mb 2 110 [.int n t] (fun _ => True) (fun _ r => ∃ v t, r = .int v t ∧ 0 ≤ v ∧ v ≤ 1000000 ∧ v * v ≤ n ∧ n < (v + 1) * (v + 1)) False :=
  says_fact (whole_root_says n t h0 (Nat.le_trans (cd_le (k := 20) (by omega)) (by decide))) fun l r ⟨t, e⟩ => ⟨_, t, e, (wroot_spec h0).1, root_small (wroot_spec h0).2.1 h1, (wroot_spec h0).2⟩
theorem lead_fact {a b : Int} (h0 : 0 < a) (h1 : a ≤ 99999) (hb0 : -9 ≤ b) (hb1 : b ≤ 9) : -8 ≤ leadO a b ∧ leadO a b ≤ 14 ∧ a * 10 ^ (b + 20).toNat < 10 ^ (leadO a b + 20).toNat ∧ 10 ^ (leadO a b + 19).toNat ≤ a * 10 ^ (b + 20).toNat := by
  have l1 := lt_pow_cd a.natAbs
  have l2 := pow_cd_le a.natAbs (by (first | lia | omega))
  have l3 : cd a.natAbs ≤ 5 := cd_le (by (first | lia | omega))
  have l4 : 1 ≤ cd a.natAbs := by rw [cd_pos (by (first | lia | omega))]; (first | lia | omega)
  obtain ⟨c, hc⟩ : ∃ c, cd a.natAbs = c + 1 := ⟨cd a.natAbs - 1, by (first | lia | omega)⟩
  obtain ⟨e, he⟩ : ∃ e : Nat, (b + 20).toNat = e := ⟨_, rfl⟩
  unfold leadO
  rw [hc] at l1 l2 l3 ⊢
  refine ⟨by (first | lia | omega), by (first | lia | omega), ?_, ?_⟩
  · rw [show (((c + 1 : Nat) : Int) + b + 20).toNat = (c + 1) + (b + 20).toNat from by (first | lia | omega), Int.pow_add]
    refine Int.mul_lt_mul_of_pos_right ?_ (Int.pow_pos (by decide))
    have e1 : ((10 ^ (c + 1) : Nat) : Int) = 10 ^ (c + 1) := by push_cast; rfl
    rw [← e1]; (first | lia | omega)
  · rw [show (((c + 1 : Nat) : Int) + b + 19).toNat = c + (b + 20).toNat from by (first | lia | omega), Int.pow_add]
    refine Int.mul_le_mul_of_nonneg_right ?_ (Int.le_of_lt (Int.pow_pos (by decide)))
    have e1 : ((10 ^ c : Nat) : Int) = 10 ^ c := by push_cast; rfl
    rw [Nat.pow_succ] at l2
    rw [← e1]; (first | lia | omega)
@[irreducible] def p10 (k : Int) : Int := 10 ^ k.toNat
theorem p10_is (k : Int) : p10 k = 10 ^ k.toNat := by unfold p10; rfl
theorem p10_20 : p10 20 = 10 ^ 20 := by rw [p10_is]; rfl
theorem p10_facts {k : Int} (h : k ≤ 1000) : p10 k ≠ 0 ∧ (p10 k).natAbs.log2 < 9000 := by rw [p10_is]; exact ⟨pow10_ne _, pow10_log (by (first | lia | omega))⟩
theorem p10_mul {a k : Int} (h0 : -1000000000000 ≤ a) (h1 : a ≤ 1000000000000) (h : k ≤ 1000) : IntMulOk a (p10 k) :=
  mulOk_cd (j := 20) (k := 1001) (cd_le (by (first | lia | omega))) (by rw [p10_is, Int.natAbs_pow]; exact Nat.le_trans (cd_pow _) (by (first | lia | omega))) (by decide)
theorem p10_pow {A : Around} {E : Value → Shared → Prop} {s : Shared} {prog : Program} {b : Int} {t u : Tok} {Q : Value → Shared → Prop} (h0 : 0 ≤ b) (h1 : b ≤ 1000) (h : Q (.int (p10 b) s.toks) { s with toks := s.toks + 1 }) :
    wpAny (model prog w) A (binaryOp .Pow (.int 10 t) (.int b u)) Q E s := by rw [p10_is] at h; exact pow_int_small h0 (by (first | lia | omega)) (by decide) h
theorem lead_law_says (x : Addr) (a b : Int) (h0 : 0 < a) (h1 : a ≤ 99999) (hb0 : -9 ≤ b) (hb1 : b ≤ 9) : Says w mean mg mb 2 89 [.ref x] (fun l => Tu l x a b) (fun _ r => ∃ v t, r = .int v t ∧ v = leadO a b ∧ -8 ≤ v ∧ v ≤ 14 ∧ a * p10 (b + 20) < p10 (v + 20) ∧ p10 (v + 19) ≤ a * p10 (b + 20)) False :=
  says_fact (lead_of_says x a b) fun l r ⟨t, e⟩ => ⟨_, t, e, rfl, by simp only [p10_is]; exact lead_fact h0 h1 hb0 hb1⟩
theorem lead_neg_says (x : Addr) (a b : Int) : Says w mean mg mb 2 89 [.ref x] (fun l => Tu l x (-a) b) (fun _ r => ∃ v t, r = .int v t ∧ v = leadO a b) False :=
  says_fact (lead_of_says x (-a) b) fun l r ⟨t, e⟩ => ⟨_, t, e, by unfold leadO; rw [Int.natAbs_neg]⟩
theorem fixed_fact {a b p : Int} (h0 : 0 < a) (hb0 : -9 ≤ b) (hp0 : 0 ≤ p) : fixedF a b p = (a * 10 ^ (b + p + 20).toNat).fdiv (10 ^ 20) ∧ fixedF (-a) b p = -(a * 10 ^ (b + p + 20).toNat).fdiv (10 ^ 20) := by
  have hP : (0 : Int) < 10 ^ 20 := Int.pow_pos (by decide)
  rw [fdiv_pos_facts _ _ hP]
  unfold fixedF
  by_cases c : 0 ≤ b + p
  · have e : a * 10 ^ (b + p + 20).toNat / 10 ^ 20 = a * 10 ^ (b + p).toNat := by
      rw [show (b + p + 20).toNat = (b + p).toNat + 20 from by (first | lia | omega), Int.pow_add, ← Int.mul_assoc]
      exact Int.mul_ediv_cancel _ (by (first | lia | omega))
    rw [if_pos c, if_pos c, e, Int.neg_mul]
    exact ⟨rfl, rfl⟩
  · obtain ⟨k, hk⟩ : ∃ k : Nat, (-(b + p)).toNat = k := ⟨_, rfl⟩
    have e : a * 10 ^ (b + p + 20).toNat / 10 ^ 20 = a / 10 ^ k := by
      have e2 : (10 : Int) ^ 20 = 10 ^ k * 10 ^ (b + p + 20).toNat := by rw [← Int.pow_add]; congr 1; (first | lia | omega)
      rw [e2]
      exact Int.mul_ediv_mul_of_pos_left _ _ (Int.pow_pos (by decide))
    rw [if_neg c, if_neg c, hk, e]
    rw [if_neg (show ¬ a < 0 by (first | lia | omega)), if_pos (show -a < 0 by (first | lia | omega)), fdiv_pos_facts _ _ (Int.pow_pos (by decide))]
    simp only [Int.neg_neg]
    rw [if_neg (show ¬ a < 0 by (first | lia | omega)), if_pos (show -a < 0 by (first | lia | omega)), fdiv_pos_facts _ _ (Int.pow_pos (by decide))]
    exact ⟨rfl, rfl⟩
theorem fixed_law_says (x : Addr) (a b p : Int) (t : Tok) (h0 : 0 < a) (h1 : a ≤ 99999) (hb0 : -9 ≤ b) (hb1 : b ≤ 9) (hp0 : 0 ≤ p) (hp1 : p ≤ 20) :
    Says w mean mg mb 1 103 [.ref x, .int p t] (fun l => Tu l x a b) (fun _ r => ∃ v t, r = .int v t ∧ v = (a * p10 (b + p + 20)).fdiv (p10 20)) False :=
  says_fact (fixed_says x a b p t (Nat.lt_of_lt_of_le (bits_of_cd (k := 5) (cd_le (by (first | lia | omega)))) (Nat.pow_le_pow_right (by decide) (by decide))) (by (first | lia | omega)) (by (first | lia | omega))) fun l r ⟨t, e⟩ => ⟨_, t, e, by simp only [p10_is]; exact (fixed_fact h0 hb0 hp0).1⟩
theorem fixed_neg_says (x : Addr) (a b p : Int) (t : Tok) (h0 : 0 < a) (h1 : a ≤ 99999) (hb0 : -9 ≤ b) (hb1 : b ≤ 9) (hp0 : 0 ≤ p) (hp1 : p ≤ 20) :
    Says w mean mg mb 1 103 [.ref x, .int p t] (fun l => Tu l x (-a) b) (fun _ r => ∃ v t, r = .int v t ∧ v = -(a * p10 (b + p + 20)).fdiv (p10 20)) False :=
  says_fact (fixed_says x (-a) b p t (Nat.lt_of_lt_of_le (bits_of_cd (k := 5) (cd_le (by omega))) (Nat.pow_le_pow_right (by decide) (by decide))) (by omega) (by omega)) fun l r ⟨t, e⟩ => ⟨_, t, e, by simp only [p10_is]; exact (fixed_fact h0 hb0 hp0).2⟩
theorem beq_out {x y : Int} {S : Shared} {Q : Value → Shared → Prop} (h : x = y) (q : Q (.bool true) S) : Q (.bool (x == y)) S := by
  subst h
  rw [show (x == x) = true from beq_iff_eq.mpr rfl]; exact q
theorem max_sq0 {v u : Int} : 0 ≤ (if v * v + u - 1 > 0 then v * v + u - 1 else 0) := by split <;> (first | lia | omega)
theorem max_sq {v u : Int} (h0 : 0 ≤ v) (h1 : v < 100000) (h2 : u < 3) : (if v * v + u - 1 > 0 then v * v + u - 1 else 0) ≤ 100000000000 := by
  have := sq_le h0 (show v ≤ 100000 by (first | lia | omega))
  split <;> (first | lia | omega)
theorem max_sq_N {prog : Program} {A : Around} {E : Value → Shared → Prop} {s : Shared} {h₀ : Heap} {L : Addr} {m : Str → Option Value} {news : List (Addr × Obj)} {v u : Int} {t t' : Tok} {Q : Value → Shared → Prop} (hh : A.handled = none) (F : Fr h₀ L s.heap m) (N : News h₀ L s.heap news)
    (h0 : 0 ≤ v) (h1 : v < 100000) (h2 : u < 3) (h : ∀ z zt h' tk, 0 ≤ z → z ≤ 100000000000 → Fr h₀ L h' m → News h₀ L h' news → Q (.int z zt) { s with heap := h', toks := tk }) :
    wpAny (model prog w) A (call (.builtin "max") [.int 0 t, .int (v * v + u - 1) t']) Q E s :=
  max_two_N hh F N fun h' tk F' N' => h _ _ h' tk max_sq0 (max_sq h0 h1 h2) F' N'
theorem ln56 : True := by
  k_with "call builtin:max" => (k_here; (with_reducible show wpAny _ _ (call (Value.builtin _) [Value.int _ _, Value.int _ _]) _ _ _); k_dflt (refine' max_sq_N ?hhr69 ?Fr69 ?Nr69 ?ar69 ?br69 ?cr69 ?_; (case hhr69 => with_unfolding_all rfl); (case Fr69 => k_asm); (case Nr69 => k_asm); (case ar69 => assumption); (case br69 => assumption); (case cr69 => assumption)); intro z' t' h' tk' z0' z1' F' N'; (try k_sweep))
  exact True.intro
theorem ln57 : True := by
  k_with "call ref" => (k_here; (with_reducible show wpAny _ _ (call (Value.ref 110) [Value.int _ _]) _ _ _); k_dflt (refine' says_useI (whole_law_says _ _ ?h0r70 ?hcr70) ?k1r70 ?k2r70 ?k3r70 ?k4r70 ?k5r70 ?kKr70 ?kpr70 ?kdr70 ?kur70 ?_ (fun h => h.elim); (case k1r70 => k_asm); (case k2r70 => k_asm); (case k3r70 => k_asm); (case k4r70 => k_asm); (case k5r70 => k_asm); (case kKr70 => first | exact rfl | assumption); (case kpr70 => trivial); (case kdr70 => first | exact room3 (by assumption) rfl | exact room2 (by assumption) rfl | ktr_room); (case kur70 => first | exact room3 (by assumption) rfl | ktr_units); (case h0r70 => first | assumption | exact max_sq0 | omega); (case hcr70 => first | assumption | exact max_sq (by assumption) (by assumption) (by assumption) | omega)); intro r' tl' h' tk' F' N' P'; obtain ⟨v', t', e', r1', r2', r3', r4'⟩ := P'; subst e'; (try dsimp only); (try k_fold); (try k_sweep))
  exact True.intro
theorem ln58 : True := by
  k_with "call ref" => (k_here; (with_reducible show wpAny _ _ (call (Value.ref 89) [Value.ref _]) _ _ _); k_dflt (refine' says_useI (lead_neg_says _ _ _) ?k1r71 ?k2r71 ?k3r71 ?k4r71 ?k5r71 ?kKr71 ?kpr71 ?kdr71 ?kur71 ?_ (fun h => h.elim); (case k1r71 => k_asm); (case k2r71 => k_asm); (case k3r71 => k_asm); (case k4r71 => k_asm); (case k5r71 => k_asm); (case kKr71 => first | exact rfl | assumption); (case kpr71 => k_extra "tu_up"); (case kdr71 => first | exact room3 (by assumption) rfl | exact room2 (by assumption) rfl | ktr_room); (case kur71 => first | exact room3 (by assumption) rfl | ktr_units)); intro r' tl' h' tk' F' N' P'; obtain ⟨v', t', e', r1'⟩ := P'; subst e'; (try dsimp only); (try k_fold); (try k_sweep))
  exact True.intro
theorem ln59 : True := by
  k_with "call ref" => (k_here; (with_reducible show wpAny _ _ (call (Value.ref 89) [Value.ref _]) _ _ _); k_dflt (refine' says_useI (lead_law_says _ _ _ ?h0r72 ?h1r72 ?h2r72 ?h3r72) ?k1r72 ?k2r72 ?k3r72 ?k4r72 ?k5r72 ?kKr72 ?kpr72 ?kdr72 ?kur72 ?_ (fun h => h.elim); (case k1r72 => k_asm); (case k2r72 => k_asm); (case k3r72 => k_asm); (case k4r72 => k_asm); (case k5r72 => k_asm); (case kKr72 => first | exact rfl | assumption); (case kpr72 => k_extra "tu_up"); (case kdr72 => first | exact room3 (by assumption) rfl | exact room2 (by assumption) rfl | ktr_room); (case kur72 => first | exact room3 (by assumption) rfl | ktr_units); (case h0r72 => omega); (case h1r72 => omega); (case h2r72 => omega); (case h3r72 => omega)); intro r' tl' h' tk' F' N' P'; obtain ⟨v', t', e', r1', r2', r3', r4', r5'⟩ := P'; subst e'; (try dsimp only); (try k_fold); (try k_sweep))
  exact True.intro
theorem ln60 : True := by
  k_with "call ref" => (k_here; (with_reducible show wpAny _ _ (call (Value.ref 103) [Value.ref _, Value.int _ _]) _ _ _); k_dflt (refine' says_useI (fixed_neg_says _ _ _ _ _ ?h0r73 ?h1r73 ?h2r73 ?h3r73 ?h4r73 ?h5r73) ?k1r73 ?k2r73 ?k3r73 ?k4r73 ?k5r73 ?kKr73 ?kpr73 ?kdr73 ?kur73 ?_ (fun h => h.elim); (case k1r73 => k_asm); (case k2r73 => k_asm); (case k3r73 => k_asm); (case k4r73 => k_asm); (case k5r73 => k_asm); (case kKr73 => first | exact rfl | assumption); (case kpr73 => k_extra "tu_up"); (case kdr73 => first | exact room3 (by assumption) rfl | exact room2 (by assumption) rfl | ktr_room); (case kur73 => first | exact room3 (by assumption) rfl | ktr_units); (case h0r73 => omega); (case h1r73 => omega); (case h2r73 => omega); (case h3r73 => omega); (case h4r73 => omega); (case h5r73 => omega)); intro r' tl' h' tk' F' N' P'; obtain ⟨v', t', e', r1'⟩ := P'; subst e'; (try dsimp only); (try k_fold); (try k_sweep))
  exact True.intro
theorem ln61 : True := by
  k_with "call ref" => (k_here; (with_reducible show wpAny _ _ (call (Value.ref 103) [Value.ref _, Value.int _ _]) _ _ _); k_dflt (refine' says_useI (fixed_law_says _ _ _ _ _ ?h0r74 ?h1r74 ?h2r74 ?h3r74 ?h4r74 ?h5r74) ?k1r74 ?k2r74 ?k3r74 ?k4r74 ?k5r74 ?kKr74 ?kpr74 ?kdr74 ?kur74 ?_ (fun h => h.elim); (case k1r74 => k_asm); (case k2r74 => k_asm); (case k3r74 => k_asm); (case k4r74 => k_asm); (case k5r74 => k_asm); (case kKr74 => first | exact rfl | assumption); (case kpr74 => k_extra "tu_up"); (case kdr74 => first | exact room3 (by assumption) rfl | exact room2 (by assumption) rfl | ktr_room); (case kur74 => first | exact room3 (by assumption) rfl | ktr_units); (case h0r74 => omega); (case h1r74 => omega); (case h2r74 => omega); (case h3r74 => omega); (case h4r74 => omega); (case h5r74 => omega)); intro r' tl' h' tk' F' N' P'; obtain ⟨v', t', e', r1'⟩ := P'; subst e'; (try dsimp only); (try k_fold); (try k_sweep))
  exact True.intro
theorem mul_pow_ok2 {a : Int} {n : Nat} (h0 : -1000000000000 ≤ a) (h1 : a ≤ 1000000000000) (h : n ≤ 1000) : IntMulOk a ((10 : Int) ^ n) :=
  mulOk_cd (j := 20) (k := 1001) (cd_le (by (first | lia | omega))) (by rw [Int.natAbs_pow]; exact Nat.le_trans (cd_pow _) (by (first | lia | omega))) (by decide)
theorem mul_small {a b : Int} (h0 : -1000000000000 ≤ a) (h1 : a ≤ 1000000000000) (h2 : -1000000000000 ≤ b) (h3 : b ≤ 1000000000000) : IntMulOk a b :=
  mulOk_cd (j := 20) (k := 20) (cd_le (by (first | lia | omega))) (cd_le (by (first | lia | omega))) (by decide)
theorem ln62 : True := by
  k_with "binaryOp Mult int int" => (k_here; (with_reducible refine mul_int ?_ ?mor75); (case mor75 => first | assumption | exact p10_mul (by omega) (by omega) (by omega) | exact mul_small (by omega) (by omega) (by omega) (by omega)))
  k_with "call ref" => (k_here; (with_reducible show wpAny _ _ (call (Value.ref 202) [Value.ref _, Value.int _ _]) _ _ _); k_dflt (refine' take_says ?k1r76 ?k2r76 ?k3r76 ?k4r76 ?k5r76 ?kKr76 ?Ur76 ?Pr76 ?Rr76 ?ner76 ?Ir76 ?lr76 ?c0r76 ?c1r76 ?mr76 ?kdr76 ?kur76 ?_; (case k1r76 => k_asm); (case k2r76 => k_asm); (case k3r76 => k_asm); (case k4r76 => k_asm); (case k5r76 => k_asm); (case kKr76 => first | exact rfl | assumption); (case Ur76 => first | with_reducible assumption | k_updF); (case Pr76 => assumption); (case Rr76 => first | with_reducible assumption | k_extra "mem_up"); (case ner76 => first | assumption | k_ne); (case Ir76 => assumption); (case lr76 => first | assumption | omega); (case c0r76 => omega); (case c1r76 => omega); (case mr76 => first | decide | omega); (case kdr76 => first | exact room3 (by assumption) rfl | exact room2 (by assumption) rfl | ktr_room); (case kur76 => first | exact room3 (by assumption) rfl | ktr_units)); intro v' t' o' h' tk' v0' v1' P' U' R' F' N'; (try dsimp only); (try k_fold); (try k_sweep))
  k_with "binaryOp Pow int int" => (k_here; (with_reducible refine p10_pow ?ar77 ?br77 ?_); (case ar77 => omega); (case br77 => omega))
  k_with "binaryOp FloorDiv int int" => (k_here; (with_reducible refine floordiv_int ?h0r78 ?_ (Or.inl (PyProof.noPylong_of_log2 ?hlr78))); (case h0r78 => exact (p10_facts (by decide)).1); (case hlr78 => exact (p10_facts (by decide)).2))
  k_with "execs cons" => (k_here; (with_reducible show wpAny _ _ _ _ _ (Shared.mk _ _ _ (_ + 1) _)); (with_reducible refine gen_toks (s := Shared.mk _ _ _ 0 _) ?_); intro tk'; (try dsimp only))
  k_with "execs nil" => (k_here; (with_reducible show wpAny _ _ _ _ _ (Shared.mk _ _ _ (_ + 1) _)); (with_reducible refine gen_toks (s := Shared.mk _ _ _ 0 _) ?_); intro tk'; (try dsimp only))
  exact True.intro
theorem whole_right_says {dp un : Nat} {gd : Option (List Code)} {cn : Str} {cs : Scope} {ad : Addr} {ccd : Value} {outer : List Env} {A₀ : Around} {base h₀ : Heap} {L : Addr} {mm : Str → Option Value} {news : List (Addr × Obj)} {s : Shared} {Q E : Value → Shared → Prop}
    {P R : Addr} {c : Int} {ws : List Value} {ns : List Int} {n : Nat} {o : Obj} {nf : Obj → List (Addr × Obj)}
    (B : Below A₀ base outer h₀) (F : Fr h₀ L s.heap mm) (X : (hd.heap_39 w.params).In h₀) (N : News h₀ L s.heap news) (T : Top hd.view_39 (looseW hd.view_39 []) mean mg mb h₀) (hk : cs.kind = .function)
    (U : UpdF P o news nf) (hP : PenO w o R c) (hR : (R, listOf ws.toArray n) ∈ news) (hne : R ≠ P) (hI : IntsAre ws ns) (hl : ns.length ≤ 100) (hc : 0 ≤ c) (hc' : c ≤ 50)
    (hd : dp + 60 < recursionLimit) (hu : un + 400 < cLine)
    (hret : ∀ h' tk', Fr h₀ L h' mm → Q (.bool true) { s with heap := h', toks := tk' }) :
    wpAny (model PR w) (ktrTop dp un gd cn cs L ad ccd [] outer) (call (.ref 258) [.ref P]) Q E s := by
  refine wpAny_call ?_
  k_dflt cell_enter
  k_steps
  all_goals first
    | exact beq_out (by assumption) (hret _ _ (by k_asm))
    | exact beq_out (Eq.trans (by assumption) (Eq.symm (by assumption))) (hret _ _ (by k_asm))
    | exact hret _ _ (by k_asm)
    | (exfalso; omega)
theorem expL_pos {n T : Int} (h1 : 0 < T) (hn : 5 * n ≤ 6 * T) (h0 : 0 ≤ n) (f : Nat) : ∀ k t total : Int, 2 ≤ k → 0 ≤ t → total ≤ expL f n T k t total ∧ 2 * expL f n T k t total ≤ 2 * total + 3 * t := by
  induction f with
  | zero => intro k t total hk ht; exact ⟨Int.le_refl _, by show 2 * total ≤ _; (first | lia | omega)⟩
  | succ f ih =>
    intro k t total hk ht
    show _ ≤ (if t ≠ 0 then expL f n T (k + 1) ((t * n).fdiv (T * k)) (total + (t * n).fdiv (T * k)) else total) ∧ 2 * (if t ≠ 0 then expL f n T (k + 1) ((t * n).fdiv (T * k)) (total + (t * n).fdiv (T * k)) else total) ≤ _
    by_cases c : t ≠ 0
    · rw [if_pos c]
      obtain ⟨x1, x2⟩ := (exp_small (t := t) (k := k) h1 hn (by (first | lia | omega)) hk).1 ht h0
      have := ih (k + 1) ((t * n).fdiv (T * k)) (total + (t * n).fdiv (T * k)) (by (first | lia | omega)) x1
      (first | lia | omega)
    · rw [if_neg c]; (first | lia | omega)
theorem expL_neg {n T : Int} (h1 : 0 < T) (hn : -(6 * T) ≤ 5 * n) (h0 : n < 0) (f : Nat) : ∀ k t total : Int, 2 ≤ k →
    (0 ≤ t → total - t ≤ expL f n T k t total ∧ expL f n T k t total ≤ total) ∧ (t < 0 → total ≤ expL f n T k t total ∧ expL f n T k t total ≤ total - t) := by
  induction f with
  | zero => intro k t total hk; exact ⟨fun h => by show total - t ≤ total ∧ total ≤ total; omega, fun h => by show total ≤ total ∧ total ≤ total - t; omega⟩
  | succ f ih =>
    intro k t total hk
    have e : expL (f + 1) n T k t total = if t ≠ 0 then expL f n T (k + 1) ((t * n).fdiv (T * k)) (total + (t * n).fdiv (T * k)) else total := rfl
    rw [e]
    by_cases c : t ≠ 0
    · rw [if_pos c]
      have sm := exp_small (t := t) (k := k) (n := n) h1 (by omega) hn hk
      have i1 := ih (k + 1) ((t * n).fdiv (T * k)) (total + (t * n).fdiv (T * k)) (by omega)
      refine ⟨fun h => ?_, fun h => ?_⟩
      · obtain ⟨x1, x2⟩ := sm.2.1 h h0
        generalize (t * n).fdiv (T * k) = t' at *
        rcases (show 0 ≤ t' ∨ t' < 0 by omega) with g | g
        · have := i1.1 g; omega
        · have := i1.2 g; omega
      · obtain ⟨x1, x2⟩ := sm.2.2 h h0
        generalize (t * n).fdiv (T * k) = t' at *
        have := i1.1 x1; omega
    · rw [if_neg c]; omega
/-- the series lies between a twentieth of one and four -/
theorem expF_bounds {n p : Int} (hp : 10 ≤ p) (hn : 5 * n ≤ 6 * 10 ^ p.toNat) (hn' : -(6 * 10 ^ p.toNat) ≤ 5 * n) : 10 ^ p.toNat ≤ 20 * expF n p ∧ expF n p ≤ 4 * 10 ^ p.toNat := by
  have hT10 := pow_ge10 hp
  unfold expF
  generalize (10 : Int) ^ p.toNat = T at *
  have h1 : 0 < T := by omega
  obtain ⟨f, hf⟩ : ∃ f, (12 * T).toNat = f + 3 := ⟨(12 * T).toNat - 3, by omega⟩
  rw [hf]
  have s1 : expL (f + 3) n T 1 T T = expL (f + 2) n T 2 n (T + n) := by
    show (if T ≠ 0 then expL (f + 2) n T (1 + 1) ((T * n).fdiv (T * 1)) (T + (T * n).fdiv (T * 1)) else T) = _
    rw [if_pos (by omega), exp_first h1]; rfl
  rw [s1]
  by_cases h0 : 0 ≤ n
  · have := expL_pos h1 hn h0 (f + 2) 2 n (T + n) (by decide) h0
    omega
  · have g := (expL_neg h1 hn' (by omega) (f + 2) 2 n (T + n) (by decide)).2 (by omega)
    refine ⟨?_, by omega⟩
    have s2 : expL (f + 2) n T 2 n (T + n) = expL (f + 1) n T 3 ((n * n).fdiv (T * 2)) (T + n + (n * n).fdiv (T * 2)) := by
      show (if n ≠ 0 then expL (f + 1) n T (2 + 1) ((n * n).fdiv (T * 2)) (T + n + (n * n).fdiv (T * 2)) else T + n) = _
      rw [if_pos (by omega)]; rfl
    rw [s2]
    have q0 : 0 ≤ (n * n).fdiv (T * 2) := by
      rw [fdiv_pos_facts _ _ (by omega)]
      exact Int.ediv_nonneg (Int.mul_nonneg_of_nonpos_of_nonpos (by omega) (by omega)) (by omega)
    have q1 : n * n < ((n * n).fdiv (T * 2) + 1) * (T * 2) := by rw [fdiv_pos_facts _ _ (by omega)]; exact Int.lt_ediv_add_one_mul_self _ (by omega)
    generalize (n * n).fdiv (T * 2) = t2 at *
    have key : 5 * (T + n) + 2 * t2 - 4 ≤ 5 * expL (f + 1) n T 3 t2 (T + n + t2) := by
      have e : expL (f + 1) n T 3 t2 (T + n + t2) = if t2 ≠ 0 then expL f n T (3 + 1) ((t2 * n).fdiv (T * 3)) (T + n + t2 + (t2 * n).fdiv (T * 3)) else T + n + t2 := rfl
      rw [e]
      by_cases c : t2 ≠ 0
      · rw [if_pos c]
        obtain ⟨x1, x2⟩ := (exp_small (t := t2) (k := 3) (n := n) h1 (by omega) hn' (by decide)).2.1 q0 (by omega)
        have i1 := expL_neg h1 hn' (by omega) f (3 + 1) ((t2 * n).fdiv (T * 3)) (T + n + t2 + (t2 * n).fdiv (T * 3)) (by decide)
        generalize (t2 * n).fdiv (T * 3) = t3 at *
        rcases (show 0 ≤ t3 ∨ t3 < 0 by omega) with g | g
        · have := i1.1 g; omega
        · have := i1.2 g; omega
      · rw [if_neg c]; omega
    generalize expL (f + 1) n T 3 t2 (T + n + t2) = r at *
    -- multiply by T
    have sq : 0 ≤ (5 * n + 6 * T) * (5 * n + 6 * T) := by
      rcases (show 0 ≤ 5 * n + 6 * T ∨ 5 * n + 6 * T ≤ 0 by omega) with g | g
      · exact Int.mul_nonneg g g
      · exact Int.mul_nonneg_of_nonpos_of_nonpos g g
    have sq2 : (5 * n + 6 * T) * (5 * n + 6 * T) = 25 * (n * n) + 60 * (n * T) + 36 * (T * T) := by
      rw [Int.add_mul, Int.mul_add, Int.mul_add, sqk, sqk, Int.mul_assoc 5 n, Int.mul_left_comm n 6 T, Int.mul_assoc 6 T, Int.mul_left_comm T 5 n, Int.mul_comm T n]
      omega
    have k2 := Int.mul_le_mul_of_nonneg_left key (Int.le_of_lt h1)
    have k3 : T * (5 * (T + n) + 2 * t2 - 4) = 5 * (T * T) + 5 * (n * T) + 2 * (t2 * T) - 4 * T := by
      rw [Int.mul_sub, Int.mul_add, Int.mul_left_comm T 5, Int.mul_add, Int.mul_left_comm T 2, Int.mul_comm T n, Int.mul_comm T t2, Int.mul_comm T 4]; omega
    have k4 : T * (5 * r) = 5 * (T * r) := Int.mul_left_comm _ _ _
    have k5 : (t2 + 1) * (T * 2) = 2 * (t2 * T) + 2 * T := by rw [Int.add_mul, Int.one_mul, Int.mul_comm T 2, Int.mul_left_comm]
    have k6 : T * (-(6 * T)) ≤ T * (5 * n) := Int.mul_le_mul_of_nonneg_left hn' (Int.le_of_lt h1)
    have k7 : T * (-(6 * T)) = -(6 * (T * T)) := by rw [Int.mul_neg, Int.mul_left_comm]
    have k8 : T * (5 * n) = 5 * (n * T) := by rw [Int.mul_left_comm, Int.mul_comm T n]
    refine Int.le_of_mul_le_mul_left (a := T) ?_ h1
    have k9 : T * (20 * r) = 20 * (T * r) := Int.mul_left_comm _ _ _
    have k10 : 1000 * T ≤ T * T := Int.mul_le_mul_of_nonneg_right (by omega) (by omega)
    rw [k9]
    rw [k3, k4] at k2
    rw [k5] at q1
    rw [k7, k8] at k6
    rw [sq2] at sq
    generalize T * T = TT at *
    generalize n * T = nT at *
    generalize n * n = nn at *
    generalize t2 * T = tT at *
    generalize T * r = Tr at *
    omega
/-- how many tens the exponential takes off -/
theorem k_bounds {n p : Int} (hp : 10 ≤ p) (hp3 : p ≤ 300) {M : Int} (k : Int) (hk : k = (2 * n + lnT p).fdiv (2 * lnT p)) :
    (n ≤ 3900 * 10 ^ p.toNat → k ≤ 1700) ∧ (-(3900 * 10 ^ p.toNat) ≤ n → -1700 ≤ k) ∧ (100 * 10 ^ p.toNat ≤ n → 42 ≤ k) ∧ (n ≤ -(100 * 10 ^ p.toNat) → k ≤ -42) ∧ (1000 * 10 ^ p.toNat ≤ n → 420 ≤ k) ∧ (n ≤ -(1000 * 10 ^ p.toNat) → k ≤ -420) := by
  have hT10 := pow_ge10 hp
  obtain ⟨l1, l2, _⟩ := ln_facts hp hp3
  have lb := lnT_bounds (p := p) (by omega)
  have r := red_bounds (n := n) (T := 10 ^ p.toNat) l1 l2 (by omega)
  rw [← hk] at r
  have up : ∀ c : Int, c ≤ k → c * lnT p ≤ k * lnT p := fun c h => Int.mul_le_mul_of_nonneg_right h (Int.le_of_lt l1)
  have dn : ∀ c : Int, k ≤ c → k * lnT p ≤ c * lnT p := fun c h => Int.mul_le_mul_of_nonneg_right h (Int.le_of_lt l1)
  have u1 := up 1701; have u2 := up (-41); have u3 := up (-419)
  have d1 := dn (-1701); have d2 := dn 41; have d3 := dn 419
  generalize k * lnT p = kl at *
  generalize (10 : Int) ^ p.toNat = T at *
  generalize lnT p = ten at *
  refine ⟨fun h => ?_, fun h => ?_, fun h => ?_, fun h => ?_, fun h => ?_, fun h => ?_⟩
  · rcases (show k ≤ 1700 ∨ 1701 ≤ k by omega) with g | g
    · exact g
    · have := u1 g; omega
  · rcases (show -1700 ≤ k ∨ k ≤ -1701 by omega) with g | g
    · exact g
    · have := d1 g; omega
  · rcases (show 42 ≤ k ∨ k ≤ 41 by omega) with g | g
    · exact g
    · have := d2 g; omega
  · rcases (show k ≤ -42 ∨ -41 ≤ k by omega) with g | g
    · exact g
    · have := u2 g; omega
  · rcases (show 420 ≤ k ∨ k ≤ 419 by omega) with g | g
    · exact g
    · have := d3 g; omega
  · rcases (show k ≤ -420 ∨ -419 ≤ k by omega) with g | g
    · exact g
    · have := u3 g; omega
/-- the first digit of what is rounded -/
theorem rd_lead {m e d : Int} (hm : m ≠ 0) (hd : 1 ≤ d) : (rd m e d).1 ≠ 0 ∧ e + (cd m.natAbs : Int) - 1 ≤ (rd m e d).2 + (cd (rd m e d).1.natAbs : Int) - 1 ∧ (rd m e d).2 + (cd (rd m e d).1.natAbs : Int) - 1 ≤ e + (cd m.natAbs : Int) := by
  obtain ⟨j, e1, e2, e3, _⟩ := rd_spec (m := m) (e := e) (d := d) hm hd
  generalize rd m e d = r at *
  have hc : 1 ≤ cd m.natAbs := by rw [cd_pos (by omega)]; omega
  have hp := Nat.pow_pos (n := cd m.natAbs) (show 0 < 10 by decide)
  have h0 : r.1.natAbs ≠ 0 := fun h => by rw [h] at e3; omega
  have l1 := lt_pow_cd r.1.natAbs
  have l2 := pow_cd_le r.1.natAbs h0
  -- 10 ^ (cd r + j) ≤ 10 * (r * 10 ^ j) ≤ 10 ^ (cd m + 1)
  have a1 : 10 ^ (cd r.1.natAbs + j) ≤ 10 ^ (cd m.natAbs + 1) := by
    rw [Nat.pow_add, Nat.pow_succ]
    exact Nat.le_trans (Nat.mul_le_mul_right _ l2) (by rw [Nat.mul_right_comm]; exact Nat.mul_le_mul_right _ e2)
  have a2 : 10 ^ cd m.natAbs < 10 ^ (cd r.1.natAbs + j + 1) := by
    rw [Nat.pow_succ, Nat.pow_add]
    have := Nat.mul_lt_mul_of_pos_right l1 (Nat.pow_pos (n := j) (show 0 < 10 by decide))
    omega
  have b1 := (Nat.pow_le_pow_iff_right (a := 10) (by decide)).mp a1
  have b2 := (Nat.pow_lt_pow_iff_right (a := 10) (by decide)).mp a2
  exact ⟨fun h => h0 (by rw [h]; rfl), by omega, by omega⟩
theorem fixed_low {a b p : Int} (h0 : a ≠ 0) (hl : 0 ≤ leadO a b - 1 + p) : (0 < a → 10 ^ (leadO a b - 1 + p).toNat ≤ fixedF a b p) ∧ (a < 0 → fixedF a b p ≤ -10 ^ (leadO a b - 1 + p).toNat) := by
  have l2 := pow_cd_le a.natAbs (by (first | lia | omega))
  obtain ⟨c, hc⟩ : ∃ c, cd a.natAbs = c + 1 := ⟨cd a.natAbs - 1, by rw [cd_pos (by (first | lia | omega))]; (first | lia | omega)⟩
  unfold leadO at hl ⊢
  rw [hc] at l2 hl ⊢
  rw [Nat.pow_succ] at l2
  have l3 : (10 : Int) ^ c ≤ (a.natAbs : Int) := by
    have e1 : ((10 ^ c : Nat) : Int) = 10 ^ c := by push_cast; rfl
    rw [← e1]; (first | lia | omega)
  have key : (10 : Int) ^ (((c + 1 : Nat) : Int) + b - 1 + p).toNat ≤ (if 0 ≤ b + p then (a.natAbs : Int) * 10 ^ (b + p).toNat else (a.natAbs : Int).fdiv (10 ^ (-(b + p)).toNat)) := by
    by_cases g : 0 ≤ b + p
    · rw [if_pos g, show (((c + 1 : Nat) : Int) + b - 1 + p).toNat = c + (b + p).toNat from by (first | lia | omega), Int.pow_add]
      exact Int.mul_le_mul_of_nonneg_right l3 (Int.le_of_lt (Int.pow_pos (by decide)))
    · rw [if_neg g, fdiv_pos_facts _ _ (Int.pow_pos (by decide))]
      rw [Int.le_ediv_iff_mul_le (Int.pow_pos (by decide)), ← Int.pow_add, show (((c + 1 : Nat) : Int) + b - 1 + p).toNat + (-(b + p)).toNat = c from by (first | lia | omega)]
      exact l3
  unfold fixedF
  by_cases g : 0 ≤ b + p
  · rw [if_pos g] at key
    rw [if_pos g]
    refine ⟨fun h => ?_, fun h => ?_⟩
    · rw [show (a.natAbs : Int) = a by (first | lia | omega)] at key; exact key
    · rw [show (a.natAbs : Int) = -a by (first | lia | omega), Int.neg_mul] at key; (first | lia | omega)
  · rw [if_neg g] at key
    rw [if_neg g]
    refine ⟨fun h => ?_, fun h => ?_⟩
    · rw [show (a.natAbs : Int) = a by (first | lia | omega)] at key
      simp only [if_neg (show ¬ a < 0 by (first | lia | omega))]; exact key
    · rw [show (a.natAbs : Int) = -a by (first | lia | omega)] at key
      simp only [if_pos h]; (first | lia | omega)
theorem exp_within {a b d top : Int} (ha : cd a.natAbs ≤ 100) (hd0 : 1 ≤ d) (hd1 : d ≤ 60) (hl : leadO a b ≤ 4) (ht0 : 1 ≤ top) (ht1 : top ≤ 300)
    (hx : fixedF a b (placesF a b d) ≤ 3900 * 10 ^ (placesF a b d).toNat) (hx' : -(3900 * 10 ^ (placesF a b d).toNat) ≤ fixedF a b (placesF a b d)) : Within (fun t => expR a b d t) top := by
  unfold Within
  by_cases hz : a = 0 ∨ leadO a b < -d
  · have e : ∀ t, expR a b d t = some (1, 0) := fun t => by unfold expR; rw [if_pos hz]
    refine ⟨1, 0, e _, .inr (.inr ⟨?_, ?_, e _⟩)⟩
    · rw [show cd (1 : Int).natAbs = 1 from by decide +kernel]; (first | lia | omega)
    · rw [show cd (1 : Int).natAbs = 1 from by decide +kernel]; (first | lia | omega)
  have h0 : a ≠ 0 := fun h => hz (.inl h)
  have hlow : ¬ leadO a b < -d := fun h => hz (.inr h)
  obtain ⟨q1, q2⟩ := places_bounds (a := a) (b := b) (d := d) (L := 4) (by (first | lia | omega)) hd1 ha hl (by decide)
  have hp3 : placesF a b d ≤ 300 := by (first | lia | omega)
  have hlp : 0 ≤ leadO a b - 1 + placesF a b d := by
    unfold placesF mx; split <;> split <;> (first | lia | omega)
  have fl := fixed_low (b := b) (p := placesF a b d) h0 hlp
  obtain ⟨l1, l2, _⟩ := ln_facts q1 hp3
  have hT10 := pow_ge10 q1
  have rb := red_bounds (n := fixedF a b (placesF a b d)) (T := 10 ^ (placesF a b d).toNat) l1 l2 (by (first | lia | omega))
  have fb := expF_bounds q1 rb.2.2.1 rb.2.2.2
  have kb := k_bounds (M := 0) (n := fixedF a b (placesF a b d)) q1 hp3 (expK a b (placesF a b d)) rfl
  have ef : (expP a b d).1 = expF (fixedF a b (placesF a b d) - expK a b (placesF a b d) * lnT (placesF a b d)) (placesF a b d) := rfl
  have ek : (expP a b d).2.1 = expK a b (placesF a b d) := rfl
  have ep : (expP a b d).2.2 = placesF a b d := rfl
  have fb' : 10 ^ (placesF a b d).toNat ≤ 20 * (expP a b d).1 ∧ (expP a b d).1 ≤ 4 * 10 ^ (placesF a b d).toNat := fb
  rw [← ek] at kb
  have k1 := kb.1 hx
  have k2 := kb.2.1 hx'
  have hf0 : (expP a b d).1 ≠ 0 := by (first | lia | omega)
  have hcf : (placesF a b d) - 2 ≤ (cd (expP a b d).1.natAbs : Int) ∧ (cd (expP a b d).1.natAbs : Int) ≤ placesF a b d + 1 := by
    have e1 : ((10 ^ (placesF a b d).toNat : Nat) : Int) = 10 ^ (placesF a b d).toNat := by push_cast; rfl
    obtain ⟨n, hn⟩ : ∃ n, (placesF a b d).toNat = n + 3 := ⟨(placesF a b d).toNat - 3, by (first | lia | omega)⟩
    rw [hn] at e1
    rw [hn] at fb'
    rw [← e1] at fb'
    have e2 : (10 : Nat) ^ (n + 3) = 1000 * 10 ^ n := by rw [Nat.pow_add, Nat.mul_comm]
    refine ⟨?_, ?_⟩
    · rcases (show placesF a b d - 2 ≤ (cd (expP a b d).1.natAbs : Int) ∨ cd (expP a b d).1.natAbs ≤ n by (first | lia | omega)) with g | g
      · exact g
      · have := lt_of_cd g; (first | lia | omega)
    · have : cd (expP a b d).1.natAbs ≤ n + 4 := cd_le (by rw [show n + 4 = (n + 3) + 1 from rfl, Nat.pow_succ]; (first | lia | omega))
      (first | lia | omega)
  obtain ⟨r0, r1, r2⟩ := rd_lead (e := (expP a b d).2.1 - (expP a b d).2.2) (d := d) hf0 hd0
  have hw : ¬ tooG a b (1000 * top + 1000) = true := fun h => by
    have h := of_decide_eq_true (show decide ((cd (1000 * top + 1000).natAbs : Int) + 1 < leadO a b) = true from h)
    rcases (show 4 ≤ cd (1000 * top + 1000).natAbs ∨ cd (1000 * top + 1000).natAbs ≤ 3 by (first | lia | omega)) with g | g
    · (first | lia | omega)
    · have := lt_of_cd g; (first | lia | omega)
  have ew : expR a b d (1000 * top + 1000) = some ((rd (expP a b d).1 ((expP a b d).2.1 - (expP a b d).2.2) d).1, (rd (expP a b d).1 ((expP a b d).2.1 - (expP a b d).2.2) d).2) :=
    (expR_go h0 hlow hw).trans (rr_in r0 (by (first | lia | omega)) (by (first | lia | omega)))
  refine ⟨_, _, ew, ?_⟩
  by_cases g : tooG a b top = true
  · have g' := of_decide_eq_true (show decide ((cd top.natAbs : Int) + 1 < leadO a b) = true from g)
    have c1 : 1 ≤ cd top.natAbs := by rw [cd_pos (by (first | lia | omega))]; (first | lia | omega)
    have e3 : (10 : Int) ^ ((placesF a b d).toNat + 2) = 100 * 10 ^ (placesF a b d).toNat := by rw [Int.pow_add, Int.mul_comm]; rfl
    have e4 : (10 : Int) ^ ((placesF a b d).toNat + 3) = 1000 * 10 ^ (placesF a b d).toNat := by rw [Int.pow_add, Int.mul_comm]; rfl
    have hc : (leadO a b = 3 ∧ cd top.natAbs ≤ 1) ∨ (leadO a b = 4 ∧ cd top.natAbs ≤ 2) := by (first | lia | omega)
    rcases hc with ⟨hl3, ht⟩ | ⟨hl3, ht⟩
    · have tb := lt_of_cd ht
      rw [hl3, show ((3 : Int) - 1 + placesF a b d).toNat = (placesF a b d).toNat + 2 from by (first | lia | omega), e3] at fl
      by_cases p : 0 < a
      · exact .inl ⟨r0, by have := kb.2.2.1 (fl.1 p); (first | lia | omega), expR_high h0 hlow g p⟩
      · exact .inr (.inl ⟨fun x => by have := kb.2.2.2.1 (fl.2 (by (first | lia | omega))); (first | lia | omega), by have := kb.2.2.2.1 (fl.2 (by (first | lia | omega))); (first | lia | omega), expR_deep h0 hlow g p⟩)
    · have tb := lt_of_cd ht
      rw [hl3, show ((4 : Int) - 1 + placesF a b d).toNat = (placesF a b d).toNat + 3 from by (first | lia | omega), e4] at fl
      by_cases p : 0 < a
      · exact .inl ⟨r0, by have := kb.2.2.2.2.1 (fl.1 p); (first | lia | omega), expR_high h0 hlow g p⟩
      · exact .inr (.inl ⟨fun x => by have := kb.2.2.2.2.2 (fl.2 (by (first | lia | omega))); (first | lia | omega), by have := kb.2.2.2.2.2 (fl.2 (by (first | lia | omega))); (first | lia | omega), expR_deep h0 hlow g p⟩)
  · have en := expR_go (d := d) h0 hlow g
    by_cases lo : (rd (expP a b d).1 ((expP a b d).2.1 - (expP a b d).2.2) d).2 + (cd (rd (expP a b d).1 ((expP a b d).2.1 - (expP a b d).2.2) d).1.natAbs : Int) - 1 < -top
    · exact .inr (.inl ⟨fun x => by (first | lia | omega), lo, en.trans (rr_low lo)⟩)
    · by_cases hi : top < (rd (expP a b d).1 ((expP a b d).2.1 - (expP a b d).2.2) d).2 + (cd (rd (expP a b d).1 ((expP a b d).2.1 - (expP a b d).2.2) d).1.natAbs : Int) - 1
      · exact .inl ⟨r0, hi, en.trans (rr_high r0 lo hi)⟩
      · exact .inr (.inr ⟨fun x => hi x.2, lo, en.trans (rr_in r0 lo hi)⟩)
theorem rr_within {m e d top : Int} (hm : m ≠ 0) (hd : 1 ≤ d) (ht0 : 1 ≤ top) (h1 : e + (cd m.natAbs : Int) ≤ 2000) (h2 : -2000 ≤ e + (cd m.natAbs : Int) - 1) (o : Int → Option (Int × Int)) (ho : ∀ t, o t = rr m e d t) : Within o top := by
  obtain ⟨r0, r1, r2⟩ := rd_lead (e := e) (d := d) hm hd
  refine ⟨_, _, (ho _).trans (rr_in r0 (by (first | lia | omega)) (by (first | lia | omega))), ?_⟩
  by_cases lo : (rd m e d).2 + (cd (rd m e d).1.natAbs : Int) - 1 < -top
  · exact .inr (.inl ⟨fun x => by (first | lia | omega), lo, (ho _).trans (rr_low lo)⟩)
  · by_cases hi : top < (rd m e d).2 + (cd (rd m e d).1.natAbs : Int) - 1
    · exact .inl ⟨r0, hi, (ho _).trans (rr_high r0 lo hi)⟩
    · exact .inr (.inr ⟨fun x => hi x.2, lo, (ho _).trans (rr_in r0 lo hi)⟩)
theorem sqrt_within {a b d top : Int} (h0 : 0 < a) (ha : cd a.natAbs ≤ 10) (hb0 : -700 ≤ b) (hb1 : b ≤ 700) (hd0 : 1 ≤ d) (hd1 : d ≤ 20) (ht0 : 1 ≤ top) : Within (fun t => sqrtR a b d t) top := by
  have hm : 0 ≤ sqMore a b d ∧ sqMore a b d ≤ 43 := by unfold sqMore; split <;> split <;> (first | lia | omega)
  obtain ⟨n, hn⟩ : ∃ n : Nat, (sqMore a b d).toNat = n := ⟨_, rfl⟩
  have hq : 0 < a * 10 ^ (sqMore a b d).toNat := Int.mul_pos h0 (Int.pow_pos (by decide))
  have hcq : cd (a * 10 ^ (sqMore a b d).toNat).natAbs ≤ 54 := by
    rw [Int.natAbs_mul, Int.natAbs_pow]
    exact Nat.le_trans (cd_mul ha (cd_pow _)) (by (first | lia | omega))
  have hw := wroot_spec (Int.le_of_lt hq)
  have hcw := cd_root (Int.le_of_lt hq) hcq
  have hr : 0 ≤ sqRest (a * 10 ^ (sqMore a b d).toNat) ∧ sqRest (a * 10 ^ (sqMore a b d).toNat) ≤ 1 := by unfold sqRest; split <;> (first | lia | omega)
  have hw1 : wroot (a * 10 ^ (sqMore a b d).toNat) ≠ 0 := fun h => by rw [h] at hw; (first | lia | omega)
  have e : ∀ t, sqrtR a b d t = rr (10 * wroot (a * 10 ^ (sqMore a b d).toNat) + sqRest (a * 10 ^ (sqMore a b d).toNat)) ((b - sqMore a b d).fdiv 2 - 1) d t := fun t => by unfold sqrtR; rw [if_neg (by (first | lia | omega))]
  have hdv : (b - sqMore a b d).fdiv 2 ≤ 350 ∧ -372 ≤ (b - sqMore a b d).fdiv 2 := by rw [fdiv_pos_facts _ _ (by decide)]; (first | lia | omega)
  generalize wroot (a * 10 ^ (sqMore a b d).toNat) = r at *
  generalize sqRest (a * 10 ^ (sqMore a b d).toNat) = z at *
  have hcM : cd (10 * r + z).natAbs ≤ 60 := by
    have := cd_add (a := (10 * r).natAbs) (b := z.natAbs) (j := 59) (by rw [Int.natAbs_mul]; exact Nat.le_trans (cd_mul (j := 2) (cd_le (by decide)) hcw) (by decide)) (cd_le (by (first | lia | omega)))
    exact Nat.le_trans (cd_mono (Int.natAbs_add_le _ _)) this
  exact rr_within (m := 10 * r + z) (by (first | lia | omega)) hd0 ht0 (by (first | lia | omega)) (by (first | lia | omega)) _ e
theorem fixed_upper {a b p : Int} {j q : Nat} (hp : 0 ≤ p) (hb : b = (j : Int) - q) (h : a.natAbs * 10 ^ j ≤ 3900 * 10 ^ q) : fixedF a b p ≤ 3900 * 10 ^ p.toNat ∧ -(3900 * 10 ^ p.toNat) ≤ fixedF a b p := by
  obtain ⟨n, hn⟩ : ∃ n : Nat, p.toNat = n := ⟨_, rfl⟩
  have key : (if 0 ≤ b + p then (a.natAbs : Int) * 10 ^ (b + p).toNat else (a.natAbs : Int).fdiv (10 ^ (-(b + p)).toNat)) ≤ 3900 * 10 ^ p.toNat := by
    have hi : (a.natAbs : Int) * 10 ^ j ≤ 3900 * 10 ^ q := by
      have e1 : ((a.natAbs * 10 ^ j : Nat) : Int) = (a.natAbs : Int) * 10 ^ j := by push_cast; rfl
      have e2 : ((3900 * 10 ^ q : Nat) : Int) = 3900 * 10 ^ q := by push_cast; rfl
      rw [← e1, ← e2]; exact Int.ofNat_le.mpr h
    by_cases g : 0 ≤ b + p
    · rw [if_pos g]
      refine Int.le_of_mul_le_mul_left (a := 10 ^ q) ?_ (Int.pow_pos (by decide))
      have e3 : (10 : Int) ^ q * ((a.natAbs : Int) * 10 ^ (b + p).toNat) = 10 ^ p.toNat * ((a.natAbs : Int) * 10 ^ j) := by
        rw [Int.mul_left_comm, ← Int.pow_add, Int.mul_left_comm (10 ^ p.toNat), ← Int.pow_add]
        congr 2; (first | lia | omega)
      rw [e3, Int.mul_left_comm, Int.mul_comm ((10 : Int) ^ q)]
      have hP0 : (0 : Int) < 10 ^ p.toNat := Int.pow_pos (by decide)
      have := Int.mul_le_mul_of_nonneg_left hi (Int.le_of_lt hP0)
      have e5 : 10 ^ p.toNat * (3900 * (10 : Int) ^ q) = 3900 * 10 ^ p.toNat * 10 ^ q := by rw [Int.mul_left_comm, Int.mul_assoc]
      rw [e5, Int.mul_left_comm] at this
      exact this
    · rw [if_neg g, fdiv_pos_facts _ _ (Int.pow_pos (by decide))]
      refine Int.le_of_lt_add_one ((Int.ediv_lt_iff_lt_mul (Int.pow_pos (by decide))).mpr ?_)
      have e4 : (10 : Int) ^ p.toNat * 10 ^ (-(b + p)).toNat * 10 ^ j = 10 ^ q := by
        rw [← Int.pow_add, ← Int.pow_add]; congr 1; (first | lia | omega)
      have hP : (0 : Int) < 10 ^ (-(b + p)).toNat := Int.pow_pos (by decide)
      have h5 : (a.natAbs : Int) ≤ 3900 * (10 ^ p.toNat * 10 ^ (-(b + p)).toNat) := by
        refine Int.le_of_mul_le_mul_right (a := 10 ^ j) ?_ (Int.pow_pos (by decide))
        rw [Int.mul_assoc, e4]; exact hi
      rw [Int.add_mul, Int.mul_assoc]; (first | lia | omega)
  have h0 : 0 ≤ (if 0 ≤ b + p then (a.natAbs : Int) * 10 ^ (b + p).toNat else (a.natAbs : Int).fdiv (10 ^ (-(b + p)).toNat)) := by
    split
    · exact Int.mul_nonneg (by (first | lia | omega)) (Int.le_of_lt (Int.pow_pos (by decide)))
    · exact (fdiv_le_self (by (first | lia | omega)) (Int.pow_pos (by decide))).1
  unfold fixedF
  by_cases g : 0 ≤ b + p
  · rw [if_pos g] at key h0; rw [if_pos g]
    rcases (show (a.natAbs : Int) = a ∨ (a.natAbs : Int) = -a by (first | lia | omega)) with e | e
    · rw [e] at key h0; (first | lia | omega)
    · rw [e, Int.neg_mul] at key h0; (first | lia | omega)
  · rw [if_neg g] at key h0; rw [if_neg g]
    by_cases s : a < 0
    · rw [show (a.natAbs : Int) = -a by (first | lia | omega)] at key h0; simp only [if_pos s]; (first | lia | omega)
    · rw [show (a.natAbs : Int) = a by (first | lia | omega)] at key h0; simp only [if_neg s]; (first | lia | omega)
theorem real_within {a b c d top : Int} (h0 : 0 < a) (ha1 : a ≤ 99) (hb0 : -3 ≤ b) (hb1 : b ≤ 3) (hc : c ≠ 0) (hc0 : -39 ≤ c) (hc1 : c ≤ 39) (hd0 : 1 ≤ d) (hd1 : d ≤ 20) (ht0 : 1 ≤ top) (ht1 : top ≤ 300) : Within (fun t => realR a b c 0 d t) top := by
  have hca : cd a.natAbs ≤ 2 := cd_le (by (first | lia | omega))
  have hca1 : 1 ≤ cd a.natAbs := by rw [cd_pos (by (first | lia | omega))]; (first | lia | omega)
  by_cases hg : (logG a b d).1 = 0
  · have e : ∀ t, realR a b c 0 d t = some (1, 0) := fun t => realR_flat (by (first | lia | omega)) (by (first | lia | omega)) hc hg
    refine ⟨1, 0, e _, .inr (.inr ⟨?_, ?_, e _⟩)⟩
    · rw [show cd (1 : Int).natAbs = 1 from by decide +kernel]; (first | lia | omega)
    · rw [show cd (1 : Int).natAbs = 1 from by decide +kernel]; (first | lia | omega)
  have e : (fun t => realR a b c 0 d t) = (fun t => expR ((logG a b d).1 * c) ((logG a b d).2 + 0) d t) := funext fun t => realR_go (by (first | lia | omega)) (by (first | lia | omega)) hc hg
  rw [e]
  obtain ⟨f1, f2, f3, f4, f5, f6, f7, f8⟩ := logG_facts (a := a) (b := b) (c := c) (e := 0) (d := d) (by (first | lia | omega)) (cd_le (k := 10) (by (first | lia | omega))) (by (first | lia | omega)) (by (first | lia | omega)) (by decide) (by decide) hd0 hd1
  have hl : leadO a b ≤ 60 := by unfold leadO; (first | lia | omega)
  obtain ⟨q1, q2⟩ := places_bounds (a := a) (b := b) (d := d + 10) (by (first | lia | omega)) (by (first | lia | omega)) (by (first | lia | omega)) hl (by decide)
  obtain ⟨b1, b2, b3, b4⟩ := logP_bounds (a := a) (b := b) (d := d + 10) (K := 5) (by (first | lia | omega)) (by (first | lia | omega)) (by decide) q1 (by (first | lia | omega))
  have hT : (0 : Int) < 10 ^ (placesF a b (d + 10)).toNat := Int.pow_pos (by decide)
  have hN : cd (logN a b d).natAbs ≤ 2 + (placesF a b (d + 10)).toNat := by
    unfold logN; rw [logP_places]; exact cd_of_scaled (T' := 0) (by (first | lia | omega)) (by (first | lia | omega))
  have hN0 : logN a b d ≠ 0 := fun h => hg (by unfold logG; rw [h, rd_zero (by (first | lia | omega))])
  obtain ⟨j, e1, e2, e3, e4⟩ := rd_spec (m := logN a b d) (e := -(logP a b (d + 10)).2.2) (d := 2 * d + 10) hN0 (by (first | lia | omega))
  rw [show rd (logN a b d) (-(logP a b (d + 10)).2.2) (2 * d + 10) = logG a b d from rfl] at e1 e2 e3 e4
  rw [logP_places] at e1 f1 f2
  obtain ⟨q, hq⟩ : ∃ q : Nat, (placesF a b (d + 10)).toNat = q := ⟨_, rfl⟩
  rw [hq] at hN
  have h3 : ((logG a b d).1 * c).natAbs * 10 ^ j ≤ 3900 * 10 ^ q := by
    have m1 := Nat.pow_le_pow_right (n := 10) (by decide) hN
    rw [Nat.pow_add] at m1
    rw [Int.natAbs_mul, Nat.mul_right_comm]
    have m2 := Nat.mul_le_mul (Nat.le_trans e2 m1) (show c.natAbs ≤ 39 by (first | lia | omega))
    (first | lia | omega)
  have hbq : (logG a b d).2 + 0 = (j : Int) - q := by (first | lia | omega)
  have hlead : leadO ((logG a b d).1 * c) ((logG a b d).2 + 0) ≤ 4 := by
    have hx0 : ((logG a b d).1 * c).natAbs ≠ 0 := by
      intro h; exact (Int.mul_ne_zero hg hc) (by (first | lia | omega))
    have l2 := pow_cd_le _ hx0
    unfold leadO
    have a1 : 10 ^ (cd ((logG a b d).1 * c).natAbs + j) < 10 ^ (q + 5) := by
      rw [Nat.pow_add, Nat.pow_add]
      have := Nat.mul_le_mul_right (10 ^ j) l2
      rw [Nat.mul_right_comm] at this
      have hp := Nat.pow_pos (n := q) (show 0 < 10 by decide)
      (first | lia | omega)
    have := (Nat.pow_lt_pow_iff_right (a := 10) (by decide)).mp a1
    (first | lia | omega)
  obtain ⟨p1, p2⟩ := places_bounds (a := (logG a b d).1 * c) (b := (logG a b d).2 + 0) (d := d) (L := 4) (by (first | lia | omega)) (by (first | lia | omega)) f5 hlead (by decide)
  obtain ⟨u1, u2⟩ := fixed_upper (p := placesF ((logG a b d).1 * c) ((logG a b d).2 + 0) d) (by (first | lia | omega)) hbq h3
  exact exp_within f5 hd0 (by (first | lia | omega)) hlead ht0 ht1 u1 u2
theorem exp_small_within {a b d top : Int} (ha0 : -999 ≤ a) (ha1 : a ≤ 999) (hb0 : -2 ≤ b) (hb1 : b ≤ 0) (hd0 : 1 ≤ d) (hd1 : d ≤ 20) (ht0 : 1 ≤ top) (ht1 : top ≤ 300) : Within (fun t => expR a b d t) top := by
  have hca : cd a.natAbs ≤ 3 := cd_le (by (first | lia | omega))
  have hl : leadO a b ≤ 4 := by unfold leadO; (first | lia | omega)
  obtain ⟨p1, p2⟩ := places_bounds (a := a) (b := b) (d := d) (L := 4) (by (first | lia | omega)) (by (first | lia | omega)) (by (first | lia | omega)) hl (by decide)
  obtain ⟨u1, u2⟩ := fixed_upper (a := a) (b := b) (p := placesF a b d) (j := 0) (q := (-b).toNat) (by (first | lia | omega)) (by (first | lia | omega)) (by have := Nat.pow_pos (n := (-b).toNat) (show 0 < 10 by decide); (first | lia | omega))
  exact exp_within (by (first | lia | omega)) hd0 (by (first | lia | omega)) hl ht0 ht1 u1 u2
section
variable {A : Around} {E : Value → Shared → Prop} {s : Shared} {h₀ : Heap} {L : Addr} {m : Str → Option Value}
theorem tops_at {h : Heap} (X : (hd.heap_39 w.params).In h) : IsTup h 195 [Value.int 1 474, Value.int 2 475, Value.int 5 476, Value.int 9 477, Value.int 10 478, Value.int 99 479, Value.int 100 480, Value.int 43 481, Value.int 30 482, Value.int 300 483].toArray :=
  ⟨_, X 195 _ rfl, rfl, 0, rfl⟩
theorem tops_item {value slice : Expr} {v : Int} {u : Tok} {Q : Value → Shared → Prop} (F : Fr h₀ L s.heap m) (X : (hd.heap_39 w.params).In h₀) (h0 : 0 ≤ v) (h1 : v < 10)
    (h : ∀ z t, 1 ≤ z → z ≤ 300 → Q (.int z t) s) (hs : subscripted slice false (.ref 195) (.int v u) = operate [.ref 195, .int v u] (getItem (.ref 195) (.int v u)) := by with_unfolding_all rfl) :
    wpAny (model PR w) A (subscriptTail value slice (.ref 195) (.int v u)) Q E s := by
  have hT := tops_at (w := w) (X.keeps F.keep)
  rcases (show v = 0 ∨ v = 1 ∨ v = 2 ∨ v = 3 ∨ v = 4 ∨ v = 5 ∨ v = 6 ∨ v = 7 ∨ v = 8 ∨ v = 9 by (first | lia | omega)) with rfl | rfl | rfl | rfl | rfl | rfl | rfl | rfl | rfl | rfl
  · exact item_tupleT (j := 0) hT (by decide) (by decide) rfl rfl (h _ _ (by decide) (by decide)) hs
  · exact item_tupleT (j := 1) hT (by decide) (by decide) rfl rfl (h _ _ (by decide) (by decide)) hs
  · exact item_tupleT (j := 2) hT (by decide) (by decide) rfl rfl (h _ _ (by decide) (by decide)) hs
  · exact item_tupleT (j := 3) hT (by decide) (by decide) rfl rfl (h _ _ (by decide) (by decide)) hs
  · exact item_tupleT (j := 4) hT (by decide) (by decide) rfl rfl (h _ _ (by decide) (by decide)) hs
  · exact item_tupleT (j := 5) hT (by decide) (by decide) rfl rfl (h _ _ (by decide) (by decide)) hs
  · exact item_tupleT (j := 6) hT (by decide) (by decide) rfl rfl (h _ _ (by decide) (by decide)) hs
  · exact item_tupleT (j := 7) hT (by decide) (by decide) rfl rfl (h _ _ (by decide) (by decide)) hs
  · exact item_tupleT (j := 8) hT (by decide) (by decide) rfl rfl (h _ _ (by decide) (by decide)) hs
  · exact item_tupleT (j := 9) hT (by decide) (by decide) rfl rfl (h _ _ (by decide) (by decide)) hs
end
section
variable {D : Nat} {f : Addr} {vs : List Value} {pre : List (Addr × Obj) → Prop}
  {dp un : Nat} {gd : Option (List Code)} {cn : Str} {cs : Scope} {a : Addr} {ccd : Value} {A₀ : Around} {base h₀ : Heap} {L : Addr}
  {m : Str → Option Value} {news : List (Addr × Obj)} {s : Shared} {Q E : Value → Shared → Prop}
/-- the law's own calls that answer True: the ledger stays -/
theorem saysT_true0 (S : SaysT w mean mg mb D f vs pre (fun _ r => r = .bool true)) (B : Below A₀ base [] h₀) (F : Fr h₀ L s.heap m) (X : (hd.heap_39 w.params).In h₀) (N : News h₀ L s.heap news)
    (T : Top hd.view_39 (looseW hd.view_39 []) mean mg mb h₀) (XB : (hd.heap_39 w.params).In base) (TB : Top hd.view_39 (looseW hd.view_39 []) mean mg mb base)
    (hk : cs.kind = .function) (hp : pre news) (hd' : dp + 3 * D + 10 < recursionLimit) (hu : un + 30 * D + 200 < cLine)
    (ret : ∀ h' tk', Fr h₀ L h' m → News h₀ L h' news → Q (.bool true) { s with heap := h', toks := tk' }) :
    wpAny (model PR w) (ktrTop dp un gd cn cs L a ccd [] []) (call (.ref f) vs) Q E s :=
  saysT_use0 S B F X N T XB TB hk hp hd' hu (fun _ _ _ _ h => h) fun r tl h' tk' F' N' e => by
    subst e; exact ret h' tk' F' fun p hp => N' p (List.mem_append_right _ hp)
end
theorem ite_join {c : Prop} [Decidable c] {M : Model} {A : Around} {x y : Sem Value} {Q : Value → Shared → Prop} {E : Value → Shared → Prop} {s : Shared} {lo hi : Int}
    (h1 : c → wpAny M A x (fun r s' => ∃ z t tk, r = .int z t ∧ (lo ≤ z ∧ z ≤ hi) ∧ s' = { s with toks := tk }) E s)
    (h2 : ¬ c → wpAny M A y (fun r s' => ∃ z t tk, r = .int z t ∧ (lo ≤ z ∧ z ≤ hi) ∧ s' = { s with toks := tk }) E s)
    (h : ∀ z t tk, lo ≤ z → z ≤ hi → Q (.int z t) { s with toks := tk }) : if c then wpAny M A x Q E s else wpAny M A y Q E s := by
  split
  · exact wpAny_mono (h1 (by assumption)) (fun r s' ⟨z, t, tk, e, ⟨l, u⟩, e'⟩ => by subst e; subst e'; exact h z t tk l u) (fun _ _ e => e)
  · exact wpAny_mono (h2 (by assumption)) (fun r s' ⟨z, t, tk, e, ⟨l, u⟩, e'⟩ => by subst e; subst e'; exact h z t tk l u) (fun _ _ e => e)
theorem law_w216 {x : Addr} {a b d top : Int} {t1 t2 : Tok} (ha0 : -999 ≤ a) (ha1 : a ≤ 999) (hb0 : -2 ≤ b) (hb1 : b ≤ 0) (hd0 : 1 ≤ d) (hd1 : d ≤ 20) (ht0 : 1 ≤ top) (ht1 : top ≤ 300) :
    SaysT w mean mg mb 15 244 [.ref 216, .ref x, .int d t1, .int top t2] (fun l => Tu l x a b) (fun l r => r = .bool true) :=
  within_216_says x d top t1 t2 _ (fun t => expR a b d t) (fun _ _ s h => h.mono s)
    (fun top' t t' h => saysT_mono (law_exp_says x a b d top' t t' (cd_le (Nat.lt_of_lt_of_le (show a.natAbs < 10 ^ 10 by (first | lia | omega)) (Nat.pow_le_pow_right (by decide) (by decide)))) (by (first | lia | omega)) (by (first | lia | omega)) (by (first | lia | omega)) (by (first | lia | omega)) (cd_le (by (first | lia | omega)))) (by decide))
    (exp_small_within ha0 ha1 hb0 hb1 hd0 hd1 ht0 ht1) (cd_le (by (first | lia | omega)))
theorem law_w223 {x p q : Addr} {a b c d top : Int} {t1 t2 : Tok} (h0 : 0 < a) (ha1 : a ≤ 99) (hb0 : -3 ≤ b) (hb1 : b ≤ 3) (hc : c ≠ 0) (hc0 : -39 ≤ c) (hc1 : c ≤ 39) (hd0 : 1 ≤ d) (hd1 : d ≤ 20) (ht0 : 1 ≤ top) (ht1 : top ≤ 300) :
    SaysT w mean mg mb 15 244 [.ref 223, .ref x, .int d t1, .int top t2] (fun l => TuR l x p q ∧ Tu l p a b ∧ Tu l q c 0) (fun l r => r = .bool true) :=
  within_223_says x d top t1 t2 _ (fun t => realR a b c 0 d t) (fun _ _ s h => ⟨h.1.mono s, h.2.1.mono s, h.2.2.mono s⟩)
    (fun top' t t' h => law_power_says x p q a b c 0 d top' t t' (cd_le (by (first | lia | omega))) (cd_le (by (first | lia | omega))) (by (first | lia | omega)) (by (first | lia | omega)) (by decide) (by decide) hd0 hd1 (cd_le (by (first | lia | omega))))
    (real_within h0 ha1 hb0 hb1 hc hc0 hc1 hd0 hd1 ht0 ht1) (cd_le (by (first | lia | omega)))
theorem law_w230 {x : Addr} {a b d top : Int} {t1 t2 : Tok} (h0 : 0 < a) (ha1 : a ≤ 9999) (hb0 : -700 ≤ b) (hb1 : b ≤ 700) (hd0 : 1 ≤ d) (hd1 : d ≤ 20) (ht0 : 1 ≤ top) (ht1 : top ≤ 300) :
    SaysT w mean mg mb 15 244 [.ref 230, .ref x, .int d t1, .int top t2] (fun l => Tu l x a b) (fun l r => r = .bool true) :=
  within_230_says x d top t1 t2 _ (fun t => sqrtR a b d t) (fun _ _ s h => h.mono s)
    (fun top' t t' h => saysT_mono (law_root_says x a b d top' t t' (by (first | lia | omega)) (cd_le (Nat.lt_of_lt_of_le (show a.natAbs < 10 ^ 10 by (first | lia | omega)) (Nat.pow_le_pow_right (by decide) (by decide)))) (by (first | lia | omega)) (by (first | lia | omega))) (by decide))
    (sqrt_within h0 (cd_le (by (first | lia | omega))) hb0 hb1 hd0 hd1 ht0) (cd_le (by (first | lia | omega)))
theorem law_w251 {x : Addr} {a b d top : Int} {t1 t2 : Tok} (h0 : 0 < a) (h1 : a ≤ 1000) (hb0 : -50 ≤ b) (hb1 : b ≤ 50) (hd0 : 1 ≤ d) (hd1 : d ≤ 20) (ht0 : 1 ≤ top) (ht1 : top ≤ 300) :
    SaysT w mean mg mb 16 251 [.int d t1, .int top t2, .ref x] (fun l => Tu l x a b) (fun _ r => r = .bool true) := refusals_says x a b d top t1 t2 h0 h1 hb0 hb1 hd0 hd1 (cd_le (by (first | lia | omega)))
theorem ln63 : True := by
  k_with_none
  k_with "tu_up" => first | with_reducible assumption | exact Tu.of (List.Mem.head _) | exact Tu.nought | (apply Tu.cons; k_extra "tu_up") | (apply Tu.app; k_extra "tu_up")
  k_with "tu3_up" => first | with_reducible assumption | exact Tu3.of (List.Mem.head _) | (refine Tu3.cons ?_; k_extra "tu3_up") | (refine Tu3.app ?_; k_extra "tu3_up")
  k_with "tur_up" => first | with_reducible assumption | exact TuR.of (List.Mem.head _) | (apply TuR.cons; k_extra "tur_up") | (apply TuR.app; k_extra "tur_up")
  k_with "rv_up" => first | with_reducible assumption | (refine Rv.cons ?_; k_extra "rv_up") | (refine Rv.app ?_; k_extra "rv_up")
  k_with "sub_up" => first | with_reducible assumption | exact sub_id | (refine sub_cons ?_; k_extra "sub_up") | (refine sub_app ?_; k_extra "sub_up")
  k_with "subscriptTail" => (k_here; (with_reducible show wpAny _ _ (subscriptTail _ _ (Value.ref _) (Value.int 0 _)) _ _ _); k_dflt (first | (refine' tu_item0 ?Fr9 ?Xr9 ?Nr9 ?Tr9 ?_ ?hsr9; (case Fr9 => k_asm); (case Xr9 => k_asm); (case Nr9 => k_asm); (case Tr9 => k_extra "tu_up"); (case hsr9 => with_unfolding_all rfl); k_whole; intro _) | (refine' tu_ref0 ?Nr9 ?Tr9 ?_ ?hsr9; (case Nr9 => k_asm); (case Tr9 => k_extra "tur_up"); (case hsr9 => with_unfolding_all rfl); k_whole)))
  k_with "subscriptTail" => (k_here; (with_reducible show wpAny _ _ (subscriptTail _ _ (Value.ref _) (Value.int 1 _)) _ _ _); k_dflt (first | (refine' tu_item1 ?Fr10 ?Xr10 ?Nr10 ?Tr10 ?_ ?hsr10; (case Fr10 => k_asm); (case Xr10 => k_asm); (case Nr10 => k_asm); (case Tr10 => k_extra "tu_up"); (case hsr10 => with_unfolding_all rfl); k_whole; intro _) | (refine' tu_ref1 ?Nr10 ?Tr10 ?_ ?hsr10; (case Nr10 => k_asm); (case Tr10 => k_extra "tur_up"); (case hsr10 => with_unfolding_all rfl); k_whole)))
  k_with "assign Tuple" => (k_here; (with_reducible show wpAny _ _ (assign (Expr.Tuple _ _ _) _ (Value.ref _)) _ _ _); k_dflt (first | (refine' tu_unpack ?Fr11 ?Xr11 ?Nr11 ?Tr11 ?k4r11 ?k5r11 ?k6r11 ?_; (case Fr11 => k_asm); (case Xr11 => k_asm); (case Nr11 => k_asm); (case Tr11 => k_extra "tu_up"); (case k4r11 => exact rfl); (case k5r11 => exact rfl); (case k6r11 => exact rfl); k_whole; intro _ _ h' F' N') | (refine' tu_unpack3 ?Fr11 ?Nr11 ?Tr11 ?k4r11 ?k5r11 ?k6r11 ?_; (case Fr11 => k_asm); (case Nr11 => k_asm); (case Tr11 => k_extra "tu3_up"); (case k4r11 => exact rfl); (case k5r11 => exact rfl); (case k6r11 => exact rfl); k_whole; intro _ _ _ h' F' N')); (try k_sweep))
  k_with "binaryOp Mult int int" => (k_here; with_reducible refine mul_int ?_ (by assumption))
  k_with "binaryOp FloorDiv int int" => (k_here; (with_reducible refine floordiv_int ?h0r13 ?_ (Or.inl (PyProof.noPylong_of_log2 ?hlr13))); (case h0r13 => first | assumption | omega); (case hlr13 => assumption))
  k_with "inplaceOp FloorDiv int int" => (k_here; (with_reducible refine ifloordiv_int ?h0r14 ?_ (Or.inl (PyProof.noPylong_of_log2 ?hlr14))); (case h0r14 => first | assumption | omega); (case hlr14 => assumption))
  k_with "binaryOp Pow int int" => (k_here; (with_reducible refine pow_int_small ?ar15 ?br15 ?cr15 ?_); (case ar15 => omega); (case br15 => omega); (case cr15 => decide))
  k_with "call builtin:divmod" => (k_here; (with_reducible show wpAny _ _ (call (Value.builtin _) [Value.int _ _, Value.int _ _]) _ _ _); (refine divmod_N (by k_asm) (by k_asm) (by assumption) ?_ (Or.inl (PyProof.noPylong_of_log2 (by assumption)))); intro h' F' N'; (try k_sweep))
  k_with "exec Raise some none" => (k_here; refine raise44 rfl ?_)
  k_with "RaisePost" => (k_here; refine' raisePost ?Fr18 ?Xr18 ?Nr18 ?_; (case Fr18 => k_asm); (case Xr18 => k_asm); (case Nr18 => k_asm))
  k_with "call ref" => (k_here; (with_reducible show wpAny _ _ (call (Value.ref 44) [Value.str _ _]) _ _ _); k_dflt (refine' call_fault ?k1r19 ?k2r19 ?k3r19 ?k4r19 ?k5r19 ?kKr19 ?kdr19 ?_; (case k1r19 => k_asm); (case k2r19 => k_asm); (case k3r19 => k_asm); (case k4r19 => k_asm); (case k5r19 => k_asm); (case kKr19 => first | exact rfl | assumption); (case kdr19 => first | exact room3 (by assumption) rfl | exact room2 (by assumption) rfl | ktr_room); k_whole); intro h' e' t' d' tk' F' N' l1' l2' l3'; (try dsimp only); (try k_sweep))
  k_with "leaving ref" => (k_here; k_dflt (first | (refine' leave_fault ?Kr20 ?Fr20 ?Nr20 ?h1r20 ?h2r20 ?h3r20 sub_id ?_; (case Kr20 => assumption); (case Fr20 => k_asm); (case Nr20 => k_asm); (case h1r20 => assumption); (case h2r20 => assumption); (case h3r20 => assumption); k_whole; intro h' R' U') | (refine' leave_onS ?Kr20 ?Fr20 ?Rr20 ?Ur20 ?_; (case Rr20 => assumption); (case Fr20 => assumption); (case Kr20 => assumption); (case Ur20 => assumption); k_whole; intro h' R' K' U'; clear K')))
  k_with "execs cons" => (k_here; (with_reducible show wpAny _ _ _ _ _ (Shared.mk _ _ _ (_ + 1) _)); (with_reducible refine gen_toks (s := Shared.mk _ _ _ 0 _) ?_); intro tk'; (try dsimp only))
  k_with "execs nil" => (k_here; (with_reducible show wpAny _ _ _ _ _ (Shared.mk _ _ _ (_ + 1) _)); (with_reducible refine gen_toks (s := Shared.mk _ _ _ 0 _) ?_); intro tk'; (try dsimp only))
  k_with "newTuple" => (k_here; (with_reducible show wpAny _ _ (newTuple [Value.int _ _, Value.int _ _]) _ _ _); k_dflt (refine' newTuple_Tu ?Fr41 ?Nr41 ?_; (case Fr41 => k_asm); (case Nr41 => k_asm)); intro D' h' F' N' T' l1; (try k_lt l1); (try k_sweep))
  k_with "newTuple" => (k_here; (with_reducible show wpAny _ _ (newTuple [Value.ref _, Value.ref _]) _ _ _); k_dflt (refine' newTuple_TuR ?Fr42 ?Nr42 ?_; (case Fr42 => k_asm); (case Nr42 => k_asm)); intro D' h' F' N' T' l1; (try k_lt l1); (try k_sweep))
  k_with "subscriptTail" => (k_here; (with_reducible show wpAny _ _ (subscriptTail _ _ (Value.ref 195) (Value.int _ _)) _ _ _); k_dflt (refine' tops_item ?Fr79 ?Xr79 ?ar79 ?br79 ?_ ?hsr79; (case Fr79 => k_asm); (case Xr79 => k_asm); (case ar79 => assumption); (case br79 => assumption); (case hsr79 => with_unfolding_all rfl)); intro z' t' z0' z1')
  k_with "call ref" => (k_here; (with_reducible show wpAny _ _ (call (Value.ref 202) [Value.ref _, Value.int _ _]) _ _ _); k_dflt (refine' take_says ?k1r80 ?k2r80 ?k3r80 ?k4r80 ?k5r80 ?kKr80 ?Ur80 ?Pr80 ?Rr80 ?ner80 ?Ir80 ?lr80 ?c0r80 ?c1r80 ?mr80 ?kdr80 ?kur80 ?_; (case k1r80 => k_asm); (case k2r80 => k_asm); (case k3r80 => k_asm); (case k4r80 => k_asm); (case k5r80 => k_asm); (case kKr80 => first | exact rfl | assumption); (case Ur80 => first | with_reducible assumption | k_updF); (case Pr80 => first | assumption | exact ⟨_, by assumption⟩); (case Rr80 => first | with_reducible assumption | k_extra "mem_up"); (case ner80 => first | assumption | k_ne); (case Ir80 => assumption); (case lr80 => first | assumption | omega); (case c0r80 => omega); (case c1r80 => omega); (case mr80 => first | decide | omega); (case kdr80 => first | exact room3 (by assumption) rfl | exact room2 (by assumption) rfl | ktr_room); (case kur80 => first | exact room3 (by assumption) rfl | ktr_units)); intro v' t' o' h' tk' v0' v1' P' U' R' F' N'; (try dsimp only); (try k_fold); (try k_sweep))
  k_with "mem_up" => first | exact List.Mem.head _ | (refine List.Mem.tail _ ?_; k_extra "mem_up") | (refine List.mem_append_right _ ?_; k_extra "mem_up")
  k_with "execs cons" => (k_here; (with_reducible show wpAny _ _ _ _ _ (Shared.mk _ _ _ (_ + 1) _)); (with_reducible refine gen_toks (s := Shared.mk _ _ _ 0 _) ?_); intro tk'; (try dsimp only))
  k_with "execs nil" => (k_here; (with_reducible show wpAny _ _ _ _ _ (Shared.mk _ _ _ (_ + 1) _)); (with_reducible refine gen_toks (s := Shared.mk _ _ _ 0 _) ?_); intro tk'; (try dsimp only))
  k_with "call ref" => (k_here; (with_reducible show wpAny _ _ (call (Value.ref 244) [Value.ref 216, Value.ref _, Value.int _ _, Value.int _ _]) _ _ _); k_dflt (refine' saysT_true0 (law_w216 ?ha0r81 ?ha1r81 ?hb0r81 ?hb1r81 ?hd0r81 ?hd1r81 ?ht0r81 ?ht1r81) ?k1r81 ?k2r81 ?k3r81 ?k4r81 ?k5r81 ?XBr81 ?TBr81 ?kKr81 ?kpr81 ?kdr81 ?kur81 ?_; (case k1r81 => k_asm); (case k2r81 => k_asm); (case k3r81 => k_asm); (case k4r81 => k_asm); (case k5r81 => k_asm); (case XBr81 => assumption); (case TBr81 => assumption); (case kKr81 => first | exact rfl | assumption); (case kpr81 => k_extra "tu_up"); (case kdr81 => first | exact room3 (by assumption) rfl | exact room2 (by assumption) rfl | ktr_room); (case kur81 => first | exact room3 (by assumption) rfl | ktr_units); (case ha0r81 => omega); (case ha1r81 => omega); (case hb0r81 => omega); (case hb1r81 => omega); (case hd0r81 => omega); (case hd1r81 => omega); (case ht0r81 => omega); (case ht1r81 => omega)); intro h' tk' F' N'; (try dsimp only); (try k_fold); (try k_sweep))
  k_with "call ref" => (k_here; (with_reducible show wpAny _ _ (call (Value.ref 244) [Value.ref 223, Value.ref _, Value.int _ _, Value.int _ _]) _ _ _); k_dflt (refine' saysT_true0 (law_w223 ?h0r82 ?ha1r82 ?hb0r82 ?hb1r82 ?hcr82 ?hc0r82 ?hc1r82 ?hd0r82 ?hd1r82 ?ht0r82 ?ht1r82) ?k1r82 ?k2r82 ?k3r82 ?k4r82 ?k5r82 ?XBr82 ?TBr82 ?kKr82 ?kpr82 ?kdr82 ?kur82 ?_; (case k1r82 => k_asm); (case k2r82 => k_asm); (case k3r82 => k_asm); (case k4r82 => k_asm); (case k5r82 => k_asm); (case XBr82 => assumption); (case TBr82 => assumption); (case kKr82 => first | exact rfl | assumption); (case kpr82 => exact ⟨by k_extra "tur_up", by k_extra "tu_up", by k_extra "tu_up"⟩); (case kdr82 => first | exact room3 (by assumption) rfl | exact room2 (by assumption) rfl | ktr_room); (case kur82 => first | exact room3 (by assumption) rfl | ktr_units); (case h0r82 => omega); (case ha1r82 => omega); (case hb0r82 => omega); (case hb1r82 => omega); (case hcr82 => omega); (case hc0r82 => omega); (case hc1r82 => omega); (case hd0r82 => omega); (case hd1r82 => omega); (case ht0r82 => omega); (case ht1r82 => omega)); intro h' tk' F' N'; (try dsimp only); (try k_fold); (try k_sweep))
  k_with "call ref" => (k_here; (with_reducible show wpAny _ _ (call (Value.ref 244) [Value.ref 230, Value.ref _, Value.int _ _, Value.int _ _]) _ _ _); k_dflt (refine' saysT_true0 (law_w230 ?h0r83 ?ha1r83 ?hb0r83 ?hb1r83 ?hd0r83 ?hd1r83 ?ht0r83 ?ht1r83) ?k1r83 ?k2r83 ?k3r83 ?k4r83 ?k5r83 ?XBr83 ?TBr83 ?kKr83 ?kpr83 ?kdr83 ?kur83 ?_; (case k1r83 => k_asm); (case k2r83 => k_asm); (case k3r83 => k_asm); (case k4r83 => k_asm); (case k5r83 => k_asm); (case XBr83 => assumption); (case TBr83 => assumption); (case kKr83 => first | exact rfl | assumption); (case kpr83 => k_extra "tu_up"); (case kdr83 => first | exact room3 (by assumption) rfl | exact room2 (by assumption) rfl | ktr_room); (case kur83 => first | exact room3 (by assumption) rfl | ktr_units); (case h0r83 => omega); (case ha1r83 => omega); (case hb0r83 => omega); (case hb1r83 => omega); (case hd0r83 => omega); (case hd1r83 => omega); (case ht0r83 => omega); (case ht1r83 => omega)); intro h' tk' F' N'; (try dsimp only); (try k_fold); (try k_sweep))
  k_with "call ref" => (k_here; (with_reducible show wpAny _ _ (call (Value.ref 251) [Value.int _ _, Value.int _ _, Value.ref _]) _ _ _); k_dflt (refine' saysT_true0 (law_w251 ?h0r84 ?h1r84 ?hb0r84 ?hb1r84 ?hd0r84 ?hd1r84 ?ht0r84 ?ht1r84) ?k1r84 ?k2r84 ?k3r84 ?k4r84 ?k5r84 ?XBr84 ?TBr84 ?kKr84 ?kpr84 ?kdr84 ?kur84 ?_; (case k1r84 => k_asm); (case k2r84 => k_asm); (case k3r84 => k_asm); (case k4r84 => k_asm); (case k5r84 => k_asm); (case XBr84 => assumption); (case TBr84 => assumption); (case kKr84 => first | exact rfl | assumption); (case kpr84 => k_extra "tu_up"); (case kdr84 => first | exact room3 (by assumption) rfl | exact room2 (by assumption) rfl | ktr_room); (case kur84 => first | exact room3 (by assumption) rfl | ktr_units); (case h0r84 => omega); (case h1r84 => omega); (case hb0r84 => omega); (case hb1r84 => omega); (case hd0r84 => omega); (case hd1r84 => omega); (case ht0r84 => omega); (case ht1r84 => omega)); intro h' tk' F' N'; (try dsimp only); (try k_fold); (try k_sweep))
  k_with "call ref" => (k_here; (with_reducible show wpAny _ _ (call (Value.ref 258) [Value.ref _]) _ _ _); k_dflt (refine' whole_right_says ?k1r85 ?k2r85 ?k3r85 ?k4r85 ?k5r85 ?kKr85 ?Ur85 ?Pr85 ?Rr85 ?ner85 ?Ir85 ?lr85 ?c0r85 ?c1r85 ?kdr85 ?kur85 ?_; (case k1r85 => k_asm); (case k2r85 => k_asm); (case k3r85 => k_asm); (case k4r85 => k_asm); (case k5r85 => k_asm); (case kKr85 => first | exact rfl | assumption); (case Ur85 => first | with_reducible assumption | k_updF); (case Pr85 => first | assumption | exact ⟨_, by assumption⟩); (case Rr85 => first | with_reducible assumption | k_extra "mem_up"); (case ner85 => first | assumption | k_ne); (case Ir85 => assumption); (case lr85 => first | assumption | omega); (case c0r85 => omega); (case c1r85 => omega); (case kdr85 => first | exact room3 (by assumption) rfl | exact room2 (by assumption) rfl | ktr_room); (case kur85 => first | exact room3 (by assumption) rfl | ktr_units)); intro h' tk' F'; (try dsimp only); (try k_fold); (try k_sweep))
  k_with "ite" => ((with_reducible show ite _ (wpAny _ _ (eval (Expr.Name _ _) _) _ _ _) (wpAny _ _ (eval (Expr.UnaryOp _ _ _) _) _ _ _)); (refine' ite_join (lo := -999) (hi := 999) (fun _ => ?_) (fun _ => ?_) (fun z' t' tk' z0' z1' => ?_)); all_goals (try dsimp only))
  k_with "Exists" => exact ⟨_, _, _, rfl, ⟨by omega, by omega⟩, rfl⟩
  exact True.intro
theorem law_holds : PySem.Challenge.rw_pf0119_01.Holds := by
  w_on
  refine holds_law said39 fun said => ?_
  refine holds_open (q := hd.view_39) (loose := []) (Xt := fun s => xlAt hd.view_39 [] s && recOk (RowW.records PySem.Challenge.rw_pf0119_01.row.toRowW) s) (XP := XL hd.view_39 []) (Yf := Hook.obs H39) (Ya := Hook.val H39) (YP := Hook.says H39) (N := 3202) left39 (Hook.of H39) (Hook.keeps H39) (fun s e => xl_of s (Bool.and_eq_true_iff.mp e).1) XL.keeps (by rfl) (by rfl) (by rfl) (fun s e => recFacts_of (Bool.and_eq_true_iff.mp e).2) (by rfl) (by assumption) (by decide +kernel) ⟨rfl, rfl, rfl, rfl, rfl, by decide +kernel⟩ ?hw ?hc
  case hw => w_witness2
  k_go0
  (all_goals try k_fold)
  k_steps
end
end Mine
set_option maxRecDepth 100000 in
set_option maxHeartbeats 8000000 in
theorem PySem.Challenge.cw_pf0119_01_holds : PySem.Challenge.rw_pf0119_01.Holds :=
  Mine.law_holds

