import PyProof.Rows.All
import Wide.All
import OpenK.AllK
import Wide.FinOn
import PySem.Challenge.RW_pq1123_01
open PySem PySem.W PyProof.Rows
set_option Elab.async false
set_option maxRecDepth 100000
set_option maxHeartbeats 8000000
set_option linter.unusedVariables false
namespace Mine
/-- the program's view: the statements of its top that the walk reads -/
noncomputable def hd.view_39 : Program := by
  refine' (?f : ∀ {s0 s1 s2 s3 s4 s5 s6 s7 s8 s9 s10 s11 s12 s13 s14 s15 s16 s17 s18 s19 s20 s21 s22 s23 : Stmt}, (OpenRow.toRowW (OpenLaw.row PySem.Challenge.rw_pq1123_01)).1.main.body = [s0, s1, s2, s3, s4, s5, s6, s7, s8, s9, s10, s11, s12, s13, s14, s15, s16, s17, s18, s19, s20, s21, s22, s23] → Program) rfl
  exact fun {s0} {s1} {s2} {s3} {s4} {s5} {s6} {s7} {s8} {s9} {s10} {s11} {s12} {s13} {s14} {s15} {s16} {s17} {s18} {s19} {s20} {s21} {s22} {s23} _ => { (OpenRow.toRowW (OpenLaw.row PySem.Challenge.rw_pq1123_01)).1 with main := { (OpenRow.toRowW (OpenLaw.row PySem.Challenge.rw_pq1123_01)).1.main with body := [s1, s3, s4, s5, s6, s7, s8, s9, s10, s11, s12, s13, s14, s15, s17, s19, s20, s21, s22, s23] } }
/-- the heap's part that stands when the law is called -/
noncomputable def hd.heap_39 : Params → Frag := by
  refine' (?f : ∀ {s0 : Stmt} {n1 : Str} {p1 : List Expr} {k1 : List Keyword} {d1 : List Expr} {t1 : List TypeParam} {c1 : Scope} {o1 : Option Scope} {q1 : Str} {l1 : List Str} {z1 : Pos} {n1m : Str} {p1m : Arguments} {b1m : List Stmt} {d1m : List Expr} {r1m : Option Expr} {t1m : List TypeParam} {c1m : Scope} {o1m : Option Scope} {q1m : Str} {z1m : Pos} {s2 : Stmt} {n3 : Str} {p3 : List Expr} {k3 : List Keyword} {d3 : List Expr} {t3 : List TypeParam} {c3 : Scope} {o3 : Option Scope} {q3 : Str} {l3 : List Str} {z3 : Pos} {n3m : Str} {p3m : Arguments} {b3m : List Stmt} {d3m : List Expr} {r3m : Option Expr} {t3m : List TypeParam} {c3m : Scope} {o3m : Option Scope} {q3m : Str} {z3m : Pos} {n4 : Str} {p4 : List Expr} {k4 : List Keyword} {d4 : List Expr} {t4 : List TypeParam} {c4 : Scope} {o4 : Option Scope} {q4 : Str} {l4 : List Str} {z4 : Pos} {n4m : Str} {p4m : Arguments} {b4m : List Stmt} {d4m : List Expr} {r4m : Option Expr} {t4m : List TypeParam} {c4m : Scope} {o4m : Option Scope} {q4m : Str} {z4m : Pos} {n5 : Str} {p5 : Arguments} {b5 : List Stmt} {d5 : List Expr} {r5 : Option Expr} {t5 : List TypeParam} {c5 : Scope} {o5 : Option Scope} {q5 : Str} {z5 : Pos} {n6 : Str} {p6 : Arguments} {b6 : List Stmt} {d6 : List Expr} {r6 : Option Expr} {t6 : List TypeParam} {c6 : Scope} {o6 : Option Scope} {q6 : Str} {z6 : Pos} {n7 : Str} {p7 : Arguments} {b7 : List Stmt} {d7 : List Expr} {r7 : Option Expr} {t7 : List TypeParam} {c7 : Scope} {o7 : Option Scope} {q7 : Str} {z7 : Pos} {n8 : Str} {p8 : Arguments} {b8 : List Stmt} {d8 : List Expr} {r8 : Option Expr} {t8 : List TypeParam} {c8 : Scope} {o8 : Option Scope} {q8 : Str} {z8 : Pos} {n9 : Str} {p9 : Arguments} {b9 : List Stmt} {d9 : List Expr} {r9 : Option Expr} {t9 : List TypeParam} {c9 : Scope} {o9 : Option Scope} {q9 : Str} {z9 : Pos} {n10 : Str} {p10 : Arguments} {b10 : List Stmt} {d10 : List Expr} {r10 : Option Expr} {t10 : List TypeParam} {c10 : Scope} {o10 : Option Scope} {q10 : Str} {z10 : Pos} {n11 : Str} {p11 : Arguments} {b11 : List Stmt} {d11 : List Expr} {r11 : Option Expr} {t11 : List TypeParam} {c11 : Scope} {o11 : Option Scope} {q11 : Str} {z11 : Pos} {n12 : Str} {p12 : Arguments} {b12 : List Stmt} {d12 : List Expr} {r12 : Option Expr} {t12 : List TypeParam} {c12 : Scope} {o12 : Option Scope} {q12 : Str} {z12 : Pos} {n13 : Str} {p13 : Arguments} {b13 : List Stmt} {d13 : List Expr} {r13 : Option Expr} {t13 : List TypeParam} {c13 : Scope} {o13 : Option Scope} {q13 : Str} {z13 : Pos} {n14 : Str} {p14 : Arguments} {b14 : List Stmt} {d14 : List Expr} {r14 : Option Expr} {t14 : List TypeParam} {c14 : Scope} {o14 : Option Scope} {q14 : Str} {z14 : Pos} {n15 : Str} {p15 : Arguments} {b15 : List Stmt} {d15 : List Expr} {r15 : Option Expr} {t15 : List TypeParam} {c15 : Scope} {o15 : Option Scope} {q15 : Str} {z15 : Pos} {s16 : Stmt} {n17 : Str} {p17 : List Expr} {k17 : List Keyword} {d17 : List Expr} {t17 : List TypeParam} {c17 : Scope} {o17 : Option Scope} {q17 : Str} {l17 : List Str} {z17 : Pos} {n17m : Str} {p17m : Arguments} {b17m : List Stmt} {d17m : List Expr} {r17m : Option Expr} {t17m : List TypeParam} {c17m : Scope} {o17m : Option Scope} {q17m : Str} {z17m : Pos} {s18 : Stmt} {n19 : Str} {p19 : Arguments} {b19 : List Stmt} {d19 : List Expr} {r19 : Option Expr} {t19 : List TypeParam} {c19 : Scope} {o19 : Option Scope} {q19 : Str} {z19 : Pos} {n20 : Str} {p20 : Arguments} {b20 : List Stmt} {d20 : List Expr} {r20 : Option Expr} {t20 : List TypeParam} {c20 : Scope} {o20 : Option Scope} {q20 : Str} {z20 : Pos} {n21 : Str} {p21 : Arguments} {b21 : List Stmt} {d21 : List Expr} {r21 : Option Expr} {t21 : List TypeParam} {c21 : Scope} {o21 : Option Scope} {q21 : Str} {z21 : Pos} {n22 : Str} {p22 : Arguments} {b22 : List Stmt} {d22 : List Expr} {r22 : Option Expr} {t22 : List TypeParam} {c22 : Scope} {o22 : Option Scope} {q22 : Str} {z22 : Pos} {n23 : Str} {p23 : Arguments} {b23 : List Stmt} {d23 : List Expr} {r23 : Option Expr} {t23 : List TypeParam} {c23 : Scope} {o23 : Option Scope} {q23 : Str} {z23 : Pos}, (OpenRow.toRowW (OpenLaw.row PySem.Challenge.rw_pq1123_01)).1.main.body = [s0,
    .ClassDef n1 p1 k1 [.FunctionDef n1m p1m b1m d1m r1m t1m c1m o1m q1m z1m] d1 t1 c1 o1 q1 l1 z1,
    s2,
    .ClassDef n3 p3 k3 [.FunctionDef n3m p3m b3m d3m r3m t3m c3m o3m q3m z3m] d3 t3 c3 o3 q3 l3 z3,
    .ClassDef n4 p4 k4 [.FunctionDef n4m p4m b4m d4m r4m t4m c4m o4m q4m z4m] d4 t4 c4 o4 q4 l4 z4,
    .FunctionDef n5 p5 b5 d5 r5 t5 c5 o5 q5 z5,
    .FunctionDef n6 p6 b6 d6 r6 t6 c6 o6 q6 z6,
    .FunctionDef n7 p7 b7 d7 r7 t7 c7 o7 q7 z7,
    .FunctionDef n8 p8 b8 d8 r8 t8 c8 o8 q8 z8,
    .FunctionDef n9 p9 b9 d9 r9 t9 c9 o9 q9 z9,
    .FunctionDef n10 p10 b10 d10 r10 t10 c10 o10 q10 z10,
    .FunctionDef n11 p11 b11 d11 r11 t11 c11 o11 q11 z11,
    .FunctionDef n12 p12 b12 d12 r12 t12 c12 o12 q12 z12,
    .FunctionDef n13 p13 b13 d13 r13 t13 c13 o13 q13 z13,
    .FunctionDef n14 p14 b14 d14 r14 t14 c14 o14 q14 z14,
    .FunctionDef n15 p15 b15 d15 r15 t15 c15 o15 q15 z15,
    s16,
    .ClassDef n17 p17 k17 [.FunctionDef n17m p17m b17m d17m r17m t17m c17m o17m q17m z17m] d17 t17 c17 o17 q17 l17 z17,
    s18,
    .FunctionDef n19 p19 b19 d19 r19 t19 c19 o19 q19 z19,
    .FunctionDef n20 p20 b20 d20 r20 t20 c20 o20 q20 z20,
    .FunctionDef n21 p21 b21 d21 r21 t21 c21 o21 q21 z21,
    .FunctionDef n22 p22 b22 d22 r22 t22 c22 o22 q22 z22,
    .FunctionDef n23 p23 b23 d23 r23 t23 c23 o23 q23 z23] → Params → Frag) rfl
  exact fun {_} {_} {_} {_} {_} {_} {_} {_} {_} {_} {_} {_} {p1m} {b1m} {_} {_} {_} {c1m} {_} {_} {_} {_} {_} {_} {_} {_} {_} {_} {_} {_} {_} {_} {_} {p3m} {b3m} {_} {_} {_} {c3m} {_} {_} {_} {_} {_} {_} {_} {_} {_} {_} {_} {_} {_} {_} {p4m} {b4m} {_} {_} {_} {c4m} {_} {_} {_} {_} {p5} {b5} {_} {_} {_} {c5} {_} {_} {_} {_} {p6} {b6} {_} {_} {_} {c6} {_} {_} {_} {_} {p7} {b7} {_} {_} {_} {c7} {_} {_} {_} {_} {p8} {b8} {_} {_} {_} {c8} {_} {_} {_} {_} {p9} {b9} {_} {_} {_} {c9} {_} {_} {_} {_} {p10} {b10} {_} {_} {_} {c10} {_} {_} {_} {_} {p11} {b11} {_} {_} {_} {c11} {_} {_} {_} {_} {p12} {b12} {_} {_} {_} {c12} {_} {_} {_} {_} {p13} {b13} {_} {_} {_} {c13} {_} {_} {_} {_} {p14} {b14} {_} {_} {_} {c14} {_} {_} {_} {_} {p15} {b15} {_} {_} {_} {c15} {_} {_} {_} {_} {_} {_} {_} {_} {_} {_} {_} {_} {_} {_} {_} {p17m} {b17m} {_} {_} {_} {c17m} {_} {_} {_} {_} {_} {p19} {b19} {_} {_} {_} {c19} {_} {_} {_} {_} {p20} {b20} {_} {_} {_} {c20} {_} {_} {_} {_} {p21} {b21} {_} {_} {_} {c21} {_} {_} {_} {_} {p22} {b22} {_} {_} {_} {c22} {_} {_} {_} {_} {p23} {b23} {_} {_} {_} {c23} {_} {_} {_} _ P => (nat_lit 2, { cls := PySem.Value.none, data := PySem.Data.dict #[{ hash := PySem.PyData.keyHash P (PySem.Str.ofString "type.__subclasses__.Exception.0"), key := PySem.Value.str (PySem.Str.ofString "type.__subclasses__.Exception.0") 219, val := PySem.Value.int 34 0 }, { hash := PySem.PyData.keyHash P (PySem.Str.ofString "type.__subclasses__.Exception.n"), key := PySem.Value.str (PySem.Str.ofString "type.__subclasses__.Exception.n") 220, val := PySem.Value.int 1 0 }] 2 }) ::
    (nat_lit 3, { cls := PySem.Value.type "dict", data := PySem.Data.dict #[{ hash := PySem.PyData.keyHash P (PySem.Str.ofString "__name__"), key := PySem.Value.str (PySem.Str.ofString "__name__") 165, val := PySem.Value.str (PySem.Str.ofString "law_pq1123_01") 424 }, { hash := PySem.PyData.keyHash P (PySem.Str.ofString "__doc__"), key := PySem.Value.str (PySem.Str.ofString "__doc__") 166, val := PySem.Value.none }, { hash := PySem.PyData.keyHash P (PySem.Str.ofString "__package__"), key := PySem.Value.str (PySem.Str.ofString "__package__") 167, val := PySem.Value.none }, { hash := PySem.PyData.keyHash P (PySem.Str.ofString "__loader__"), key := PySem.Value.str (PySem.Str.ofString "__loader__") 168, val := PySem.Value.builtin "__main__.__loader__#opaque" }, { hash := PySem.PyData.keyHash P (PySem.Str.ofString "__spec__"), key := PySem.Value.str (PySem.Str.ofString "__spec__") 169, val := PySem.Value.none }, { hash := PySem.PyData.keyHash P (PySem.Str.ofString "__annotations__"), key := PySem.Value.str (PySem.Str.ofString "__annotations__") 170, val := PySem.Value.ref 6 }, { hash := PySem.PyData.keyHash P (PySem.Str.ofString "__builtins__"), key := PySem.Value.str (PySem.Str.ofString "__builtins__") 171, val := PySem.Value.ref 4 }, { hash := PySem.PyData.keyHash P (PySem.Str.ofString "__file__"), key := PySem.Value.str (PySem.Str.ofString "__file__") 173, val := PySem.Value.str (PySem.Str.ofString "/claim/cut.py") 172 }, { hash := PySem.PyData.keyHash P (PySem.Str.ofString "__cached__"), key := PySem.Value.str (PySem.Str.ofString "__cached__") 174, val := PySem.Value.none }, { hash := PySem.PyData.keyHash P (PySem.Str.ofString "SnobolError"), key := PySem.Value.str (PySem.Str.ofString "SnobolError") 222, val := PySem.Value.ref 34 }, { hash := PySem.PyData.keyHash P (PySem.Str.ofString "Compiled"), key := PySem.Value.str (PySem.Str.ofString "Compiled") 261, val := PySem.Value.ref 54 }, { hash := PySem.PyData.keyHash P (PySem.Str.ofString "Unit"), key := PySem.Value.str (PySem.Str.ofString "Unit") 294, val := PySem.Value.ref 75 }, { hash := PySem.PyData.keyHash P (PySem.Str.ofString "value_orders"), key := PySem.Value.str (PySem.Str.ofString "value_orders") 302, val := PySem.Value.ref 86 }, { hash := PySem.PyData.keyHash P (PySem.Str.ofString "row_orders"), key := PySem.Value.str (PySem.Str.ofString "row_orders") 311, val := PySem.Value.ref 93 }, { hash := PySem.PyData.keyHash P (PySem.Str.ofString "unary_orders"), key := PySem.Value.str (PySem.Str.ofString "unary_orders") 320, val := PySem.Value.ref 100 }, { hash := PySem.PyData.keyHash P (PySem.Str.ofString "binary_orders"), key := PySem.Value.str (PySem.Str.ofString "binary_orders") 329, val := PySem.Value.ref 107 }, { hash := PySem.PyData.keyHash P (PySem.Str.ofString "name_orders"), key := PySem.Value.str (PySem.Str.ofString "name_orders") 337, val := PySem.Value.ref 114 }, { hash := PySem.PyData.keyHash P (PySem.Str.ofString "body_orders"), key := PySem.Value.str (PySem.Str.ofString "body_orders") 345, val := PySem.Value.ref 121 }, { hash := PySem.PyData.keyHash P (PySem.Str.ofString "goto_orders"), key := PySem.Value.str (PySem.Str.ofString "goto_orders") 354, val := PySem.Value.ref 128 }, { hash := PySem.PyData.keyHash P (PySem.Str.ofString "compile_statement"), key := PySem.Value.str (PySem.Str.ofString "compile_statement") 364, val := PySem.Value.ref 135 }, { hash := PySem.PyData.keyHash P (PySem.Str.ofString "compile_program"), key := PySem.Value.str (PySem.Str.ofString "compile_program") 370, val := PySem.Value.ref 140 }, { hash := PySem.PyData.keyHash P (PySem.Str.ofString "show_order"), key := PySem.Value.str (PySem.Str.ofString "show_order") 376, val := PySem.Value.ref 145 }, { hash := PySem.PyData.keyHash P (PySem.Str.ofString "show_unit"), key := PySem.Value.str (PySem.Str.ofString "show_unit") 382, val := PySem.Value.ref 150 }, { hash := PySem.PyData.keyHash P (PySem.Str.ofString "Statement"), key := PySem.Value.str (PySem.Str.ofString "Statement") 423, val := PySem.Value.ref 167 }, { hash := PySem.PyData.keyHash P (PySem.Str.ofString "_law_pull"), key := PySem.Value.str (PySem.Str.ofString "_law_pull") 433, val := PySem.Value.ref 178 }, { hash := PySem.PyData.keyHash P (PySem.Str.ofString "_law_statement"), key := PySem.Value.str (PySem.Str.ofString "_law_statement") 444, val := PySem.Value.ref 185 }, { hash := PySem.PyData.keyHash P (PySem.Str.ofString "_law_is_refused"), key := PySem.Value.str (PySem.Str.ofString "_law_is_refused") 452, val := PySem.Value.ref 192 }, { hash := PySem.PyData.keyHash P (PySem.Str.ofString "_law_compiles"), key := PySem.Value.str (PySem.Str.ofString "_law_compiles") 462, val := PySem.Value.ref 199 }, { hash := PySem.PyData.keyHash P (PySem.Str.ofString "law"), key := PySem.Value.str (PySem.Str.ofString "law") 468, val := PySem.Value.ref 204 }] 29 }) ::
    (nat_lit 15, { cls := PySem.Value.type "tuple", data := PySem.Data.seq #[PySem.Value.type "Exception"] }) ::
    (nat_lit 18, { cls := PySem.Value.type "cell", data := PySem.Data.cell (some (PySem.Value.ref 34)) }) ::
    (nat_lit 23, { cls := PySem.Value.type "tuple", data := PySem.Data.seq #[PySem.Value.str (PySem.Str.ofString "") 201] }) ::
    (nat_lit 24, { cls := PySem.Value.type "tuple", data := PySem.Data.seq #[PySem.Value.ref 18] }) ::
    (nat_lit 25, { cls := PySem.Value.type "tuple", data := PySem.Data.seq #[PySem.Value.str (PySem.Str.ofString "__class__") 205] }) ::
    (nat_lit 27, { cls := PySem.Value.type "tuple", data := PySem.Data.seq #[PySem.Value.str (PySem.Str.ofString "self") 206, PySem.Value.str (PySem.Str.ofString "number") 207, PySem.Value.str (PySem.Str.ofString "told") 208] }) ::
    (nat_lit 28, { cls := PySem.Value.type "tuple", data := PySem.Data.seq #[] }) ::
    (nat_lit 30, { cls := PySem.Value.type "code", data := PySem.Data.fields #[PySem.Value.str (PySem.Str.ofString "__init__") 202, PySem.Value.str (PySem.Str.ofString "SnobolError.__init__") 203, PySem.Value.str (PySem.Str.ofString "/claim/cut.py") 204, PySem.Value.int 4 0, PySem.Value.int 3 0, PySem.Value.int 0 0, PySem.Value.int 0 0, PySem.Value.int 3 0, PySem.Value.ref 25, PySem.Value.bool true, PySem.Value.int 181 0, PySem.Value.ref 26, PySem.Value.none, PySem.Value.ref 27, PySem.Value.ref 28, PySem.Value.ref 29, PySem.Value.int 209 0, PySem.Value.int 4 0, PySem.Value.str (PySem.Str.ofString "/claim/cut.py") 210] }) ::
    (nat_lit 31, { cls := PySem.Value.type "function", data := PySem.Data.func { name := PySem.Str.ofString "__init__", qualname := PySem.Str.ofString "SnobolError.__init__", params := p1m, body := PySem.FuncBody.stmts b1m, scope := c1m, globals := 3, closure := [(PySem.Str.ofString "__class__", 18)], defaults := PySem.Value.ref 23, kwdefaults := PySem.Value.none, pyModule := PySem.Value.str (PySem.Str.ofString "snobol.values") 187, code := PySem.Value.ref 30, closureTuple := PySem.Value.ref 24 } }) ::
    (nat_lit 32, { cls := PySem.Value.type "tuple", data := PySem.Data.seq #[PySem.Value.str (PySem.Str.ofString "number") 212, PySem.Value.str (PySem.Str.ofString "told") 213] }) ::
    (nat_lit 33, { cls := PySem.Value.type "dict", data := PySem.Data.dict #[{ hash := PySem.PyData.keyHash P (PySem.Str.ofString "__module__"), key := PySem.Value.str (PySem.Str.ofString "__module__") 196, val := PySem.Value.str (PySem.Str.ofString "snobol.values") 187 }, { hash := PySem.PyData.keyHash P (PySem.Str.ofString "__firstlineno__"), key := PySem.Value.str (PySem.Str.ofString "__firstlineno__") 200, val := PySem.Value.int 2 199 }, { hash := PySem.PyData.keyHash P (PySem.Str.ofString "__init__"), key := PySem.Value.str (PySem.Str.ofString "__init__") 211, val := PySem.Value.ref 31 }, { hash := PySem.PyData.keyHash P (PySem.Str.ofString "__static_attributes__"), key := PySem.Value.str (PySem.Str.ofString "__static_attributes__") 214, val := PySem.Value.ref 32 }, { hash := PySem.PyData.keyHash P (PySem.Str.ofString "__weakref__"), key := PySem.Value.str (PySem.Str.ofString "__weakref__") 217, val := PySem.Value.ref 35 }, { hash := PySem.PyData.keyHash P (PySem.Str.ofString "__doc__"), key := PySem.Value.str (PySem.Str.ofString "__doc__") 218, val := PySem.Value.none }] 4 }) ::
    (nat_lit 34, { cls := PySem.Value.type "type", data := PySem.Data.cls { name := PySem.Str.ofString "SnobolError", bases := [PySem.Value.type "Exception"], mro := [PySem.Value.ref 34, PySem.Value.type "Exception", PySem.Value.type "BaseException", PySem.Value.type "object"], ns := 33, qualname := PySem.Str.ofString "SnobolError" }, slots := #[some (PySem.Value.ref 15), none, some (PySem.Value.str (PySem.Str.ofString "SnobolError") 189), some (PySem.Value.str (PySem.Str.ofString "SnobolError") 197), some (PySem.Value.builtin "Exception.__new__"), some (PySem.Value.bool true)] }) ::
    (nat_lit 35, { cls := PySem.Value.type "getset_descriptor", data := PySem.Data.fields #[PySem.Value.str (PySem.Str.ofString "__weakref__") 216, PySem.Value.ref 34, PySem.Value.builtin "ExceptionGroup.__weakref__", PySem.Value.none] }) ::
    (nat_lit 45, { cls := PySem.Value.type "tuple", data := PySem.Data.seq #[] }) ::
    (nat_lit 47, { cls := PySem.Value.type "tuple", data := PySem.Data.seq #[PySem.Value.str (PySem.Str.ofString "self") 240, PySem.Value.str (PySem.Str.ofString "label") 241, PySem.Value.str (PySem.Str.ofString "body") 242, PySem.Value.str (PySem.Str.ofString "success") 243, PySem.Value.str (PySem.Str.ofString "failure") 244, PySem.Value.str (PySem.Str.ofString "line") 245] }) ::
    (nat_lit 48, { cls := PySem.Value.type "tuple", data := PySem.Data.seq #[] }) ::
    (nat_lit 50, { cls := PySem.Value.type "code", data := PySem.Data.fields #[PySem.Value.str (PySem.Str.ofString "__init__") 237, PySem.Value.str (PySem.Str.ofString "Compiled.__init__") 238, PySem.Value.str (PySem.Str.ofString "/claim/cut.py") 239, PySem.Value.int 11 0, PySem.Value.int 6 0, PySem.Value.int 0 0, PySem.Value.int 0 0, PySem.Value.int 3 0, PySem.Value.ref 45, PySem.Value.bool true, PySem.Value.int 181 0, PySem.Value.ref 46, PySem.Value.none, PySem.Value.ref 47, PySem.Value.ref 48, PySem.Value.ref 49, PySem.Value.int 246 0, PySem.Value.int 11 0, PySem.Value.str (PySem.Str.ofString "/claim/cut.py") 247] }) ::
    (nat_lit 51, { cls := PySem.Value.type "function", data := PySem.Data.func { name := PySem.Str.ofString "__init__", qualname := PySem.Str.ofString "Compiled.__init__", params := p3m, body := PySem.FuncBody.stmts b3m, scope := c3m, globals := 3, closure := [], defaults := PySem.Value.none, kwdefaults := PySem.Value.none, pyModule := PySem.Value.str (PySem.Str.ofString "snobol.compiler") 223, code := PySem.Value.ref 50 } }) ::
    (nat_lit 52, { cls := PySem.Value.type "tuple", data := PySem.Data.seq #[PySem.Value.str (PySem.Str.ofString "body") 249, PySem.Value.str (PySem.Str.ofString "failure") 250, PySem.Value.str (PySem.Str.ofString "label") 251, PySem.Value.str (PySem.Str.ofString "line") 252, PySem.Value.str (PySem.Str.ofString "success") 253] }) ::
    (nat_lit 53, { cls := PySem.Value.type "dict", data := PySem.Data.dict #[{ hash := PySem.PyData.keyHash P (PySem.Str.ofString "__module__"), key := PySem.Value.str (PySem.Str.ofString "__module__") 232, val := PySem.Value.str (PySem.Str.ofString "snobol.compiler") 223 }, { hash := PySem.PyData.keyHash P (PySem.Str.ofString "__firstlineno__"), key := PySem.Value.str (PySem.Str.ofString "__firstlineno__") 236, val := PySem.Value.int 9 235 }, { hash := PySem.PyData.keyHash P (PySem.Str.ofString "__init__"), key := PySem.Value.str (PySem.Str.ofString "__init__") 248, val := PySem.Value.ref 51 }, { hash := PySem.PyData.keyHash P (PySem.Str.ofString "__static_attributes__"), key := PySem.Value.str (PySem.Str.ofString "__static_attributes__") 254, val := PySem.Value.ref 52 }, { hash := PySem.PyData.keyHash P (PySem.Str.ofString "__dict__"), key := PySem.Value.str (PySem.Str.ofString "__dict__") 256, val := PySem.Value.ref 55 }, { hash := PySem.PyData.keyHash P (PySem.Str.ofString "__weakref__"), key := PySem.Value.str (PySem.Str.ofString "__weakref__") 258, val := PySem.Value.ref 56 }, { hash := PySem.PyData.keyHash P (PySem.Str.ofString "__doc__"), key := PySem.Value.str (PySem.Str.ofString "__doc__") 259, val := PySem.Value.none }] 4 }) ::
    (nat_lit 54, { cls := PySem.Value.type "type", data := PySem.Data.cls { name := PySem.Str.ofString "Compiled", bases := [PySem.Value.type "object"], mro := [PySem.Value.ref 54, PySem.Value.type "object"], ns := 53, qualname := PySem.Str.ofString "Compiled" }, slots := #[none, none, some (PySem.Value.str (PySem.Str.ofString "Compiled") 225), some (PySem.Value.str (PySem.Str.ofString "Compiled") 233), some (PySem.Value.builtin "object.__new__"), some (PySem.Value.bool true)] }) ::
    (nat_lit 55, { cls := PySem.Value.type "getset_descriptor", data := PySem.Data.fields #[PySem.Value.str (PySem.Str.ofString "__dict__") 255, PySem.Value.ref 54, PySem.Value.builtin "function.__dict__", PySem.Value.builtin "function.__dict__#set"] }) ::
    (nat_lit 56, { cls := PySem.Value.type "getset_descriptor", data := PySem.Data.fields #[PySem.Value.str (PySem.Str.ofString "__weakref__") 257, PySem.Value.ref 54, PySem.Value.builtin "ExceptionGroup.__weakref__", PySem.Value.none] }) ::
    (nat_lit 66, { cls := PySem.Value.type "tuple", data := PySem.Data.seq #[] }) ::
    (nat_lit 68, { cls := PySem.Value.type "tuple", data := PySem.Data.seq #[PySem.Value.str (PySem.Str.ofString "self") 277, PySem.Value.str (PySem.Str.ofString "number") 278, PySem.Value.str (PySem.Str.ofString "statements") 279, PySem.Value.str (PySem.Str.ofString "labels") 280] }) ::
    (nat_lit 69, { cls := PySem.Value.type "tuple", data := PySem.Data.seq #[] }) ::
    (nat_lit 71, { cls := PySem.Value.type "code", data := PySem.Data.fields #[PySem.Value.str (PySem.Str.ofString "__init__") 274, PySem.Value.str (PySem.Str.ofString "Unit.__init__") 275, PySem.Value.str (PySem.Str.ofString "/claim/cut.py") 276, PySem.Value.int 19 0, PySem.Value.int 4 0, PySem.Value.int 0 0, PySem.Value.int 0 0, PySem.Value.int 3 0, PySem.Value.ref 66, PySem.Value.bool true, PySem.Value.int 181 0, PySem.Value.ref 67, PySem.Value.none, PySem.Value.ref 68, PySem.Value.ref 69, PySem.Value.ref 70, PySem.Value.int 281 0, PySem.Value.int 19 0, PySem.Value.str (PySem.Str.ofString "/claim/cut.py") 282] }) ::
    (nat_lit 72, { cls := PySem.Value.type "function", data := PySem.Data.func { name := PySem.Str.ofString "__init__", qualname := PySem.Str.ofString "Unit.__init__", params := p4m, body := PySem.FuncBody.stmts b4m, scope := c4m, globals := 3, closure := [], defaults := PySem.Value.none, kwdefaults := PySem.Value.none, pyModule := PySem.Value.str (PySem.Str.ofString "snobol.compiler") 223, code := PySem.Value.ref 71 } }) ::
    (nat_lit 73, { cls := PySem.Value.type "tuple", data := PySem.Data.seq #[PySem.Value.str (PySem.Str.ofString "labels") 284, PySem.Value.str (PySem.Str.ofString "number") 285, PySem.Value.str (PySem.Str.ofString "statements") 286] }) ::
    (nat_lit 74, { cls := PySem.Value.type "dict", data := PySem.Data.dict #[{ hash := PySem.PyData.keyHash P (PySem.Str.ofString "__module__"), key := PySem.Value.str (PySem.Str.ofString "__module__") 269, val := PySem.Value.str (PySem.Str.ofString "snobol.compiler") 223 }, { hash := PySem.PyData.keyHash P (PySem.Str.ofString "__firstlineno__"), key := PySem.Value.str (PySem.Str.ofString "__firstlineno__") 273, val := PySem.Value.int 17 272 }, { hash := PySem.PyData.keyHash P (PySem.Str.ofString "__init__"), key := PySem.Value.str (PySem.Str.ofString "__init__") 283, val := PySem.Value.ref 72 }, { hash := PySem.PyData.keyHash P (PySem.Str.ofString "__static_attributes__"), key := PySem.Value.str (PySem.Str.ofString "__static_attributes__") 287, val := PySem.Value.ref 73 }, { hash := PySem.PyData.keyHash P (PySem.Str.ofString "__dict__"), key := PySem.Value.str (PySem.Str.ofString "__dict__") 289, val := PySem.Value.ref 76 }, { hash := PySem.PyData.keyHash P (PySem.Str.ofString "__weakref__"), key := PySem.Value.str (PySem.Str.ofString "__weakref__") 291, val := PySem.Value.ref 77 }, { hash := PySem.PyData.keyHash P (PySem.Str.ofString "__doc__"), key := PySem.Value.str (PySem.Str.ofString "__doc__") 292, val := PySem.Value.none }] 4 }) ::
    (nat_lit 75, { cls := PySem.Value.type "type", data := PySem.Data.cls { name := PySem.Str.ofString "Unit", bases := [PySem.Value.type "object"], mro := [PySem.Value.ref 75, PySem.Value.type "object"], ns := 74, qualname := PySem.Str.ofString "Unit" }, slots := #[none, none, some (PySem.Value.str (PySem.Str.ofString "Unit") 262), some (PySem.Value.str (PySem.Str.ofString "Unit") 270), some (PySem.Value.builtin "object.__new__"), some (PySem.Value.bool true)] }) ::
    (nat_lit 76, { cls := PySem.Value.type "getset_descriptor", data := PySem.Data.fields #[PySem.Value.str (PySem.Str.ofString "__dict__") 288, PySem.Value.ref 75, PySem.Value.builtin "function.__dict__", PySem.Value.builtin "function.__dict__#set"] }) ::
    (nat_lit 77, { cls := PySem.Value.type "getset_descriptor", data := PySem.Data.fields #[PySem.Value.str (PySem.Str.ofString "__weakref__") 290, PySem.Value.ref 75, PySem.Value.builtin "ExceptionGroup.__weakref__", PySem.Value.none] }) ::
    (nat_lit 80, { cls := PySem.Value.type "tuple", data := PySem.Data.seq #[] }) ::
    (nat_lit 82, { cls := PySem.Value.type "tuple", data := PySem.Data.seq #[PySem.Value.str (PySem.Str.ofString "tree") 298, PySem.Value.str (PySem.Str.ofString "kind") 299] }) ::
    (nat_lit 83, { cls := PySem.Value.type "tuple", data := PySem.Data.seq #[] }) ::
    (nat_lit 85, { cls := PySem.Value.type "code", data := PySem.Data.fields #[PySem.Value.str (PySem.Str.ofString "value_orders") 295, PySem.Value.str (PySem.Str.ofString "value_orders") 296, PySem.Value.str (PySem.Str.ofString "/claim/cut.py") 297, PySem.Value.int 23 0, PySem.Value.int 1 0, PySem.Value.int 0 0, PySem.Value.int 0 0, PySem.Value.int 3 0, PySem.Value.ref 80, PySem.Value.bool true, PySem.Value.int 181 0, PySem.Value.ref 81, PySem.Value.none, PySem.Value.ref 82, PySem.Value.ref 83, PySem.Value.ref 84, PySem.Value.int 300 0, PySem.Value.int 23 0, PySem.Value.str (PySem.Str.ofString "/claim/cut.py") 301] }) ::
    (nat_lit 86, { cls := PySem.Value.type "function", data := PySem.Data.func { name := PySem.Str.ofString "value_orders", qualname := PySem.Str.ofString "value_orders", params := p5, body := PySem.FuncBody.stmts b5, scope := c5, globals := 3, closure := [], defaults := PySem.Value.none, kwdefaults := PySem.Value.none, pyModule := PySem.Value.str (PySem.Str.ofString "snobol.compiler") 223, code := PySem.Value.ref 85 } }) ::
    (nat_lit 87, { cls := PySem.Value.type "tuple", data := PySem.Data.seq #[] }) ::
    (nat_lit 89, { cls := PySem.Value.type "tuple", data := PySem.Data.seq #[PySem.Value.str (PySem.Str.ofString "trees") 306, PySem.Value.str (PySem.Str.ofString "found") 307, PySem.Value.str (PySem.Str.ofString "tree") 308] }) ::
    (nat_lit 90, { cls := PySem.Value.type "tuple", data := PySem.Data.seq #[] }) ::
    (nat_lit 92, { cls := PySem.Value.type "code", data := PySem.Data.fields #[PySem.Value.str (PySem.Str.ofString "row_orders") 303, PySem.Value.str (PySem.Str.ofString "row_orders") 304, PySem.Value.str (PySem.Str.ofString "/claim/cut.py") 305, PySem.Value.int 40 0, PySem.Value.int 1 0, PySem.Value.int 0 0, PySem.Value.int 0 0, PySem.Value.int 3 0, PySem.Value.ref 87, PySem.Value.bool true, PySem.Value.int 181 0, PySem.Value.ref 88, PySem.Value.none, PySem.Value.ref 89, PySem.Value.ref 90, PySem.Value.ref 91, PySem.Value.int 309 0, PySem.Value.int 40 0, PySem.Value.str (PySem.Str.ofString "/claim/cut.py") 310] }) ::
    (nat_lit 93, { cls := PySem.Value.type "function", data := PySem.Data.func { name := PySem.Str.ofString "row_orders", qualname := PySem.Str.ofString "row_orders", params := p6, body := PySem.FuncBody.stmts b6, scope := c6, globals := 3, closure := [], defaults := PySem.Value.none, kwdefaults := PySem.Value.none, pyModule := PySem.Value.str (PySem.Str.ofString "snobol.compiler") 223, code := PySem.Value.ref 92 } }) ::
    (nat_lit 94, { cls := PySem.Value.type "tuple", data := PySem.Data.seq #[] }) ::
    (nat_lit 96, { cls := PySem.Value.type "tuple", data := PySem.Data.seq #[PySem.Value.str (PySem.Str.ofString "op") 315, PySem.Value.str (PySem.Str.ofString "tree") 316, PySem.Value.str (PySem.Str.ofString "inner") 317] }) ::
    (nat_lit 97, { cls := PySem.Value.type "tuple", data := PySem.Data.seq #[] }) ::
    (nat_lit 99, { cls := PySem.Value.type "code", data := PySem.Data.fields #[PySem.Value.str (PySem.Str.ofString "unary_orders") 312, PySem.Value.str (PySem.Str.ofString "unary_orders") 313, PySem.Value.str (PySem.Str.ofString "/claim/cut.py") 314, PySem.Value.int 45 0, PySem.Value.int 2 0, PySem.Value.int 0 0, PySem.Value.int 0 0, PySem.Value.int 3 0, PySem.Value.ref 94, PySem.Value.bool true, PySem.Value.int 181 0, PySem.Value.ref 95, PySem.Value.none, PySem.Value.ref 96, PySem.Value.ref 97, PySem.Value.ref 98, PySem.Value.int 318 0, PySem.Value.int 45 0, PySem.Value.str (PySem.Str.ofString "/claim/cut.py") 319] }) ::
    (nat_lit 100, { cls := PySem.Value.type "function", data := PySem.Data.func { name := PySem.Str.ofString "unary_orders", qualname := PySem.Str.ofString "unary_orders", params := p7, body := PySem.FuncBody.stmts b7, scope := c7, globals := 3, closure := [], defaults := PySem.Value.none, kwdefaults := PySem.Value.none, pyModule := PySem.Value.str (PySem.Str.ofString "snobol.compiler") 223, code := PySem.Value.ref 99 } }) ::
    (nat_lit 101, { cls := PySem.Value.type "tuple", data := PySem.Data.seq #[] }) ::
    (nat_lit 103, { cls := PySem.Value.type "tuple", data := PySem.Data.seq #[PySem.Value.str (PySem.Str.ofString "op") 324, PySem.Value.str (PySem.Str.ofString "left") 325, PySem.Value.str (PySem.Str.ofString "right") 326] }) ::
    (nat_lit 104, { cls := PySem.Value.type "tuple", data := PySem.Data.seq #[] }) ::
    (nat_lit 106, { cls := PySem.Value.type "code", data := PySem.Data.fields #[PySem.Value.str (PySem.Str.ofString "binary_orders") 321, PySem.Value.str (PySem.Str.ofString "binary_orders") 322, PySem.Value.str (PySem.Str.ofString "/claim/cut.py") 323, PySem.Value.int 62 0, PySem.Value.int 3 0, PySem.Value.int 0 0, PySem.Value.int 0 0, PySem.Value.int 3 0, PySem.Value.ref 101, PySem.Value.bool true, PySem.Value.int 181 0, PySem.Value.ref 102, PySem.Value.none, PySem.Value.ref 103, PySem.Value.ref 104, PySem.Value.ref 105, PySem.Value.int 327 0, PySem.Value.int 62 0, PySem.Value.str (PySem.Str.ofString "/claim/cut.py") 328] }) ::
    (nat_lit 107, { cls := PySem.Value.type "function", data := PySem.Data.func { name := PySem.Str.ofString "binary_orders", qualname := PySem.Str.ofString "binary_orders", params := p8, body := PySem.FuncBody.stmts b8, scope := c8, globals := 3, closure := [], defaults := PySem.Value.none, kwdefaults := PySem.Value.none, pyModule := PySem.Value.str (PySem.Str.ofString "snobol.compiler") 223, code := PySem.Value.ref 106 } }) ::
    (nat_lit 108, { cls := PySem.Value.type "tuple", data := PySem.Data.seq #[] }) ::
    (nat_lit 110, { cls := PySem.Value.type "tuple", data := PySem.Data.seq #[PySem.Value.str (PySem.Str.ofString "tree") 333, PySem.Value.str (PySem.Str.ofString "kind") 334] }) ::
    (nat_lit 111, { cls := PySem.Value.type "tuple", data := PySem.Data.seq #[] }) ::
    (nat_lit 113, { cls := PySem.Value.type "code", data := PySem.Data.fields #[PySem.Value.str (PySem.Str.ofString "name_orders") 330, PySem.Value.str (PySem.Str.ofString "name_orders") 331, PySem.Value.str (PySem.Str.ofString "/claim/cut.py") 332, PySem.Value.int 66 0, PySem.Value.int 1 0, PySem.Value.int 0 0, PySem.Value.int 0 0, PySem.Value.int 3 0, PySem.Value.ref 108, PySem.Value.bool true, PySem.Value.int 181 0, PySem.Value.ref 109, PySem.Value.none, PySem.Value.ref 110, PySem.Value.ref 111, PySem.Value.ref 112, PySem.Value.int 335 0, PySem.Value.int 66 0, PySem.Value.str (PySem.Str.ofString "/claim/cut.py") 336] }) ::
    (nat_lit 114, { cls := PySem.Value.type "function", data := PySem.Data.func { name := PySem.Str.ofString "name_orders", qualname := PySem.Str.ofString "name_orders", params := p9, body := PySem.FuncBody.stmts b9, scope := c9, globals := 3, closure := [], defaults := PySem.Value.none, kwdefaults := PySem.Value.none, pyModule := PySem.Value.str (PySem.Str.ofString "snobol.compiler") 223, code := PySem.Value.ref 113 } }) ::
    (nat_lit 115, { cls := PySem.Value.type "tuple", data := PySem.Data.seq #[] }) ::
    (nat_lit 117, { cls := PySem.Value.type "tuple", data := PySem.Data.seq #[PySem.Value.str (PySem.Str.ofString "statement") 341, PySem.Value.str (PySem.Str.ofString "found") 342] }) ::
    (nat_lit 118, { cls := PySem.Value.type "tuple", data := PySem.Data.seq #[] }) ::
    (nat_lit 120, { cls := PySem.Value.type "code", data := PySem.Data.fields #[PySem.Value.str (PySem.Str.ofString "body_orders") 338, PySem.Value.str (PySem.Str.ofString "body_orders") 339, PySem.Value.str (PySem.Str.ofString "/claim/cut.py") 340, PySem.Value.int 79 0, PySem.Value.int 1 0, PySem.Value.int 0 0, PySem.Value.int 0 0, PySem.Value.int 3 0, PySem.Value.ref 115, PySem.Value.bool true, PySem.Value.int 181 0, PySem.Value.ref 116, PySem.Value.none, PySem.Value.ref 117, PySem.Value.ref 118, PySem.Value.ref 119, PySem.Value.int 343 0, PySem.Value.int 79 0, PySem.Value.str (PySem.Str.ofString "/claim/cut.py") 344] }) ::
    (nat_lit 121, { cls := PySem.Value.type "function", data := PySem.Data.func { name := PySem.Str.ofString "body_orders", qualname := PySem.Str.ofString "body_orders", params := p10, body := PySem.FuncBody.stmts b10, scope := c10, globals := 3, closure := [], defaults := PySem.Value.none, kwdefaults := PySem.Value.none, pyModule := PySem.Value.str (PySem.Str.ofString "snobol.compiler") 223, code := PySem.Value.ref 120 } }) ::
    (nat_lit 122, { cls := PySem.Value.type "tuple", data := PySem.Data.seq #[] }) ::
    (nat_lit 124, { cls := PySem.Value.type "tuple", data := PySem.Data.seq #[PySem.Value.str (PySem.Str.ofString "go") 349, PySem.Value.str (PySem.Str.ofString "kind") 350, PySem.Value.str (PySem.Str.ofString "tree") 351] }) ::
    (nat_lit 125, { cls := PySem.Value.type "tuple", data := PySem.Data.seq #[] }) ::
    (nat_lit 127, { cls := PySem.Value.type "code", data := PySem.Data.fields #[PySem.Value.str (PySem.Str.ofString "goto_orders") 346, PySem.Value.str (PySem.Str.ofString "goto_orders") 347, PySem.Value.str (PySem.Str.ofString "/claim/cut.py") 348, PySem.Value.int 91 0, PySem.Value.int 1 0, PySem.Value.int 0 0, PySem.Value.int 0 0, PySem.Value.int 3 0, PySem.Value.ref 122, PySem.Value.bool true, PySem.Value.int 181 0, PySem.Value.ref 123, PySem.Value.none, PySem.Value.ref 124, PySem.Value.ref 125, PySem.Value.ref 126, PySem.Value.int 352 0, PySem.Value.int 91 0, PySem.Value.str (PySem.Str.ofString "/claim/cut.py") 353] }) ::
    (nat_lit 128, { cls := PySem.Value.type "function", data := PySem.Data.func { name := PySem.Str.ofString "goto_orders", qualname := PySem.Str.ofString "goto_orders", params := p11, body := PySem.FuncBody.stmts b11, scope := c11, globals := 3, closure := [], defaults := PySem.Value.none, kwdefaults := PySem.Value.none, pyModule := PySem.Value.str (PySem.Str.ofString "snobol.compiler") 223, code := PySem.Value.ref 127 } }) ::
    (nat_lit 129, { cls := PySem.Value.type "tuple", data := PySem.Data.seq #[] }) ::
    (nat_lit 131, { cls := PySem.Value.type "tuple", data := PySem.Data.seq #[PySem.Value.str (PySem.Str.ofString "statement") 358, PySem.Value.str (PySem.Str.ofString "always") 359, PySem.Value.str (PySem.Str.ofString "success") 360, PySem.Value.str (PySem.Str.ofString "failure") 361] }) ::
    (nat_lit 132, { cls := PySem.Value.type "tuple", data := PySem.Data.seq #[] }) ::
    (nat_lit 134, { cls := PySem.Value.type "code", data := PySem.Data.fields #[PySem.Value.str (PySem.Str.ofString "compile_statement") 355, PySem.Value.str (PySem.Str.ofString "compile_statement") 356, PySem.Value.str (PySem.Str.ofString "/claim/cut.py") 357, PySem.Value.int 102 0, PySem.Value.int 1 0, PySem.Value.int 0 0, PySem.Value.int 0 0, PySem.Value.int 3 0, PySem.Value.ref 129, PySem.Value.bool true, PySem.Value.int 181 0, PySem.Value.ref 130, PySem.Value.none, PySem.Value.ref 131, PySem.Value.ref 132, PySem.Value.ref 133, PySem.Value.int 362 0, PySem.Value.int 102 0, PySem.Value.str (PySem.Str.ofString "/claim/cut.py") 363] }) ::
    (nat_lit 135, { cls := PySem.Value.type "function", data := PySem.Data.func { name := PySem.Str.ofString "compile_statement", qualname := PySem.Str.ofString "compile_statement", params := p12, body := PySem.FuncBody.stmts b12, scope := c12, globals := 3, closure := [], defaults := PySem.Value.none, kwdefaults := PySem.Value.none, pyModule := PySem.Value.str (PySem.Str.ofString "snobol.compiler") 223, code := PySem.Value.ref 134 } }) ::
    (nat_lit 136, { cls := PySem.Value.type "tuple", data := PySem.Data.seq #[] }) ::
    (nat_lit 139, { cls := PySem.Value.type "code", data := PySem.Data.fields #[PySem.Value.str (PySem.Str.ofString "compile_program") 365, PySem.Value.str (PySem.Str.ofString "compile_program") 366, PySem.Value.str (PySem.Str.ofString "/claim/cut.py") 367, PySem.Value.int 107 0, PySem.Value.int 2 0, PySem.Value.int 0 0, PySem.Value.int 0 0, PySem.Value.int 3 0, PySem.Value.ref 136, PySem.Value.bool true, PySem.Value.int 181 0, PySem.Value.ref 137, PySem.Value.none, PySem.Value.none, PySem.Value.none, PySem.Value.ref 138, PySem.Value.int 368 0, PySem.Value.int 107 0, PySem.Value.str (PySem.Str.ofString "/claim/cut.py") 369] }) ::
    (nat_lit 140, { cls := PySem.Value.type "function", data := PySem.Data.func { name := PySem.Str.ofString "compile_program", qualname := PySem.Str.ofString "compile_program", params := p13, body := PySem.FuncBody.stmts b13, scope := c13, globals := 3, closure := [], defaults := PySem.Value.none, kwdefaults := PySem.Value.none, pyModule := PySem.Value.str (PySem.Str.ofString "snobol.compiler") 223, code := PySem.Value.ref 139 } }) ::
    (nat_lit 141, { cls := PySem.Value.type "tuple", data := PySem.Data.seq #[] }) ::
    (nat_lit 144, { cls := PySem.Value.type "code", data := PySem.Data.fields #[PySem.Value.str (PySem.Str.ofString "show_order") 371, PySem.Value.str (PySem.Str.ofString "show_order") 372, PySem.Value.str (PySem.Str.ofString "/claim/cut.py") 373, PySem.Value.int 114 0, PySem.Value.int 1 0, PySem.Value.int 0 0, PySem.Value.int 0 0, PySem.Value.int 3 0, PySem.Value.ref 141, PySem.Value.bool true, PySem.Value.int 181 0, PySem.Value.ref 142, PySem.Value.none, PySem.Value.none, PySem.Value.none, PySem.Value.ref 143, PySem.Value.int 374 0, PySem.Value.int 114 0, PySem.Value.str (PySem.Str.ofString "/claim/cut.py") 375] }) ::
    (nat_lit 145, { cls := PySem.Value.type "function", data := PySem.Data.func { name := PySem.Str.ofString "show_order", qualname := PySem.Str.ofString "show_order", params := p14, body := PySem.FuncBody.stmts b14, scope := c14, globals := 3, closure := [], defaults := PySem.Value.none, kwdefaults := PySem.Value.none, pyModule := PySem.Value.str (PySem.Str.ofString "snobol.compiler") 223, code := PySem.Value.ref 144 } }) ::
    (nat_lit 146, { cls := PySem.Value.type "tuple", data := PySem.Data.seq #[] }) ::
    (nat_lit 149, { cls := PySem.Value.type "code", data := PySem.Data.fields #[PySem.Value.str (PySem.Str.ofString "show_unit") 377, PySem.Value.str (PySem.Str.ofString "show_unit") 378, PySem.Value.str (PySem.Str.ofString "/claim/cut.py") 379, PySem.Value.int 116 0, PySem.Value.int 1 0, PySem.Value.int 0 0, PySem.Value.int 0 0, PySem.Value.int 3 0, PySem.Value.ref 146, PySem.Value.bool true, PySem.Value.int 181 0, PySem.Value.ref 147, PySem.Value.none, PySem.Value.none, PySem.Value.none, PySem.Value.ref 148, PySem.Value.int 380 0, PySem.Value.int 116 0, PySem.Value.str (PySem.Str.ofString "/claim/cut.py") 381] }) ::
    (nat_lit 150, { cls := PySem.Value.type "function", data := PySem.Data.func { name := PySem.Str.ofString "show_unit", qualname := PySem.Str.ofString "show_unit", params := p15, body := PySem.FuncBody.stmts b15, scope := c15, globals := 3, closure := [], defaults := PySem.Value.none, kwdefaults := PySem.Value.none, pyModule := PySem.Value.str (PySem.Str.ofString "snobol.compiler") 223, code := PySem.Value.ref 149 } }) ::
    (nat_lit 158, { cls := PySem.Value.type "tuple", data := PySem.Data.seq #[] }) ::
    (nat_lit 160, { cls := PySem.Value.type "tuple", data := PySem.Data.seq #[PySem.Value.str (PySem.Str.ofString "self") 400, PySem.Value.str (PySem.Str.ofString "line") 401, PySem.Value.str (PySem.Str.ofString "text") 402] }) ::
    (nat_lit 161, { cls := PySem.Value.type "tuple", data := PySem.Data.seq #[] }) ::
    (nat_lit 163, { cls := PySem.Value.type "code", data := PySem.Data.fields #[PySem.Value.str (PySem.Str.ofString "__init__") 397, PySem.Value.str (PySem.Str.ofString "Statement.__init__") 398, PySem.Value.str (PySem.Str.ofString "/claim/cut.py") 399, PySem.Value.int 127 0, PySem.Value.int 3 0, PySem.Value.int 0 0, PySem.Value.int 0 0, PySem.Value.int 3 0, PySem.Value.ref 158, PySem.Value.bool true, PySem.Value.int 181 0, PySem.Value.ref 159, PySem.Value.none, PySem.Value.ref 160, PySem.Value.ref 161, PySem.Value.ref 162, PySem.Value.int 403 0, PySem.Value.int 127 0, PySem.Value.str (PySem.Str.ofString "/claim/cut.py") 404] }) ::
    (nat_lit 164, { cls := PySem.Value.type "function", data := PySem.Data.func { name := PySem.Str.ofString "__init__", qualname := PySem.Str.ofString "Statement.__init__", params := p17m, body := PySem.FuncBody.stmts b17m, scope := c17m, globals := 3, closure := [], defaults := PySem.Value.none, kwdefaults := PySem.Value.none, pyModule := PySem.Value.str (PySem.Str.ofString "snobol.reader") 383, code := PySem.Value.ref 163 } }) ::
    (nat_lit 165, { cls := PySem.Value.type "tuple", data := PySem.Data.seq #[PySem.Value.str (PySem.Str.ofString "go_always") 406, PySem.Value.str (PySem.Str.ofString "go_failure") 407, PySem.Value.str (PySem.Str.ofString "go_success") 408, PySem.Value.str (PySem.Str.ofString "is_replaced") 409, PySem.Value.str (PySem.Str.ofString "label") 410, PySem.Value.str (PySem.Str.ofString "line") 411, PySem.Value.str (PySem.Str.ofString "pattern") 412, PySem.Value.str (PySem.Str.ofString "replacement") 413, PySem.Value.str (PySem.Str.ofString "subject") 414, PySem.Value.str (PySem.Str.ofString "text") 415] }) ::
    (nat_lit 166, { cls := PySem.Value.type "dict", data := PySem.Data.dict #[{ hash := PySem.PyData.keyHash P (PySem.Str.ofString "__module__"), key := PySem.Value.str (PySem.Str.ofString "__module__") 392, val := PySem.Value.str (PySem.Str.ofString "snobol.reader") 383 }, { hash := PySem.PyData.keyHash P (PySem.Str.ofString "__firstlineno__"), key := PySem.Value.str (PySem.Str.ofString "__firstlineno__") 396, val := PySem.Value.int 125 395 }, { hash := PySem.PyData.keyHash P (PySem.Str.ofString "__init__"), key := PySem.Value.str (PySem.Str.ofString "__init__") 405, val := PySem.Value.ref 164 }, { hash := PySem.PyData.keyHash P (PySem.Str.ofString "__static_attributes__"), key := PySem.Value.str (PySem.Str.ofString "__static_attributes__") 416, val := PySem.Value.ref 165 }, { hash := PySem.PyData.keyHash P (PySem.Str.ofString "__dict__"), key := PySem.Value.str (PySem.Str.ofString "__dict__") 418, val := PySem.Value.ref 168 }, { hash := PySem.PyData.keyHash P (PySem.Str.ofString "__weakref__"), key := PySem.Value.str (PySem.Str.ofString "__weakref__") 420, val := PySem.Value.ref 169 }, { hash := PySem.PyData.keyHash P (PySem.Str.ofString "__doc__"), key := PySem.Value.str (PySem.Str.ofString "__doc__") 421, val := PySem.Value.none }] 4 }) ::
    (nat_lit 167, { cls := PySem.Value.type "type", data := PySem.Data.cls { name := PySem.Str.ofString "Statement", bases := [PySem.Value.type "object"], mro := [PySem.Value.ref 167, PySem.Value.type "object"], ns := 166, qualname := PySem.Str.ofString "Statement" }, slots := #[none, none, some (PySem.Value.str (PySem.Str.ofString "Statement") 385), some (PySem.Value.str (PySem.Str.ofString "Statement") 393), some (PySem.Value.builtin "object.__new__"), some (PySem.Value.bool true)] }) ::
    (nat_lit 168, { cls := PySem.Value.type "getset_descriptor", data := PySem.Data.fields #[PySem.Value.str (PySem.Str.ofString "__dict__") 417, PySem.Value.ref 167, PySem.Value.builtin "function.__dict__", PySem.Value.builtin "function.__dict__#set"] }) ::
    (nat_lit 169, { cls := PySem.Value.type "getset_descriptor", data := PySem.Data.fields #[PySem.Value.str (PySem.Str.ofString "__weakref__") 419, PySem.Value.ref 167, PySem.Value.builtin "ExceptionGroup.__weakref__", PySem.Value.none] }) ::
    (nat_lit 172, { cls := PySem.Value.type "tuple", data := PySem.Data.seq #[] }) ::
    (nat_lit 174, { cls := PySem.Value.type "tuple", data := PySem.Data.seq #[PySem.Value.str (PySem.Str.ofString "box") 429, PySem.Value.str (PySem.Str.ofString "many") 430] }) ::
    (nat_lit 175, { cls := PySem.Value.type "tuple", data := PySem.Data.seq #[] }) ::
    (nat_lit 177, { cls := PySem.Value.type "code", data := PySem.Data.fields #[PySem.Value.str (PySem.Str.ofString "_law_pull") 426, PySem.Value.str (PySem.Str.ofString "_law_pull") 427, PySem.Value.str (PySem.Str.ofString "/claim/cut.py") 428, PySem.Value.int 139 0, PySem.Value.int 2 0, PySem.Value.int 0 0, PySem.Value.int 0 0, PySem.Value.int 3 0, PySem.Value.ref 172, PySem.Value.bool true, PySem.Value.int 181 0, PySem.Value.ref 173, PySem.Value.none, PySem.Value.ref 174, PySem.Value.ref 175, PySem.Value.ref 176, PySem.Value.int 431 0, PySem.Value.int 139 0, PySem.Value.str (PySem.Str.ofString "/claim/cut.py") 432] }) ::
    (nat_lit 178, { cls := PySem.Value.type "function", data := PySem.Data.func { name := PySem.Str.ofString "_law_pull", qualname := PySem.Str.ofString "_law_pull", params := p19, body := PySem.FuncBody.stmts b19, scope := c19, globals := 3, closure := [], defaults := PySem.Value.none, kwdefaults := PySem.Value.none, pyModule := PySem.Value.str (PySem.Str.ofString "law_pq1123_01") 424, code := PySem.Value.ref 177 } }) ::
    (nat_lit 179, { cls := PySem.Value.type "tuple", data := PySem.Data.seq #[] }) ::
    (nat_lit 181, { cls := PySem.Value.type "tuple", data := PySem.Data.seq #[PySem.Value.str (PySem.Str.ofString "label") 437, PySem.Value.str (PySem.Str.ofString "line") 438, PySem.Value.str (PySem.Str.ofString "form") 439, PySem.Value.str (PySem.Str.ofString "word") 440, PySem.Value.str (PySem.Str.ofString "found") 441] }) ::
    (nat_lit 182, { cls := PySem.Value.type "tuple", data := PySem.Data.seq #[] }) ::
    (nat_lit 184, { cls := PySem.Value.type "code", data := PySem.Data.fields #[PySem.Value.str (PySem.Str.ofString "_law_statement") 434, PySem.Value.str (PySem.Str.ofString "_law_statement") 435, PySem.Value.str (PySem.Str.ofString "/claim/cut.py") 436, PySem.Value.int 144 0, PySem.Value.int 4 0, PySem.Value.int 0 0, PySem.Value.int 0 0, PySem.Value.int 3 0, PySem.Value.ref 179, PySem.Value.bool true, PySem.Value.int 181 0, PySem.Value.ref 180, PySem.Value.none, PySem.Value.ref 181, PySem.Value.ref 182, PySem.Value.ref 183, PySem.Value.int 442 0, PySem.Value.int 144 0, PySem.Value.str (PySem.Str.ofString "/claim/cut.py") 443] }) ::
    (nat_lit 185, { cls := PySem.Value.type "function", data := PySem.Data.func { name := PySem.Str.ofString "_law_statement", qualname := PySem.Str.ofString "_law_statement", params := p20, body := PySem.FuncBody.stmts b20, scope := c20, globals := 3, closure := [], defaults := PySem.Value.none, kwdefaults := PySem.Value.none, pyModule := PySem.Value.str (PySem.Str.ofString "law_pq1123_01") 424, code := PySem.Value.ref 184 } }) ::
    (nat_lit 186, { cls := PySem.Value.type "tuple", data := PySem.Data.seq #[] }) ::
    (nat_lit 188, { cls := PySem.Value.type "tuple", data := PySem.Data.seq #[PySem.Value.str (PySem.Str.ofString "tree") 448, PySem.Value.str (PySem.Str.ofString "error") 449] }) ::
    (nat_lit 189, { cls := PySem.Value.type "tuple", data := PySem.Data.seq #[] }) ::
    (nat_lit 191, { cls := PySem.Value.type "code", data := PySem.Data.fields #[PySem.Value.str (PySem.Str.ofString "_law_is_refused") 445, PySem.Value.str (PySem.Str.ofString "_law_is_refused") 446, PySem.Value.str (PySem.Str.ofString "/claim/cut.py") 447, PySem.Value.int 157 0, PySem.Value.int 1 0, PySem.Value.int 0 0, PySem.Value.int 0 0, PySem.Value.int 3 0, PySem.Value.ref 186, PySem.Value.bool true, PySem.Value.int 181 0, PySem.Value.ref 187, PySem.Value.none, PySem.Value.ref 188, PySem.Value.ref 189, PySem.Value.ref 190, PySem.Value.int 450 0, PySem.Value.int 157 0, PySem.Value.str (PySem.Str.ofString "/claim/cut.py") 451] }) ::
    (nat_lit 192, { cls := PySem.Value.type "function", data := PySem.Data.func { name := PySem.Str.ofString "_law_is_refused", qualname := PySem.Str.ofString "_law_is_refused", params := p21, body := PySem.FuncBody.stmts b21, scope := c21, globals := 3, closure := [], defaults := PySem.Value.none, kwdefaults := PySem.Value.none, pyModule := PySem.Value.str (PySem.Str.ofString "law_pq1123_01") 424, code := PySem.Value.ref 191 } }) ::
    (nat_lit 193, { cls := PySem.Value.type "tuple", data := PySem.Data.seq #[] }) ::
    (nat_lit 195, { cls := PySem.Value.type "tuple", data := PySem.Data.seq #[PySem.Value.str (PySem.Str.ofString "place") 456, PySem.Value.str (PySem.Str.ofString "tree") 457, PySem.Value.str (PySem.Str.ofString "found") 458, PySem.Value.str (PySem.Str.ofString "error") 459] }) ::
    (nat_lit 196, { cls := PySem.Value.type "tuple", data := PySem.Data.seq #[] }) ::
    (nat_lit 198, { cls := PySem.Value.type "code", data := PySem.Data.fields #[PySem.Value.str (PySem.Str.ofString "_law_compiles") 453, PySem.Value.str (PySem.Str.ofString "_law_compiles") 454, PySem.Value.str (PySem.Str.ofString "/claim/cut.py") 455, PySem.Value.int 163 0, PySem.Value.int 2 0, PySem.Value.int 0 0, PySem.Value.int 0 0, PySem.Value.int 3 0, PySem.Value.ref 193, PySem.Value.bool true, PySem.Value.int 181 0, PySem.Value.ref 194, PySem.Value.none, PySem.Value.ref 195, PySem.Value.ref 196, PySem.Value.ref 197, PySem.Value.int 460 0, PySem.Value.int 163 0, PySem.Value.str (PySem.Str.ofString "/claim/cut.py") 461] }) ::
    (nat_lit 199, { cls := PySem.Value.type "function", data := PySem.Data.func { name := PySem.Str.ofString "_law_compiles", qualname := PySem.Str.ofString "_law_compiles", params := p22, body := PySem.FuncBody.stmts b22, scope := c22, globals := 3, closure := [], defaults := PySem.Value.none, kwdefaults := PySem.Value.none, pyModule := PySem.Value.str (PySem.Str.ofString "law_pq1123_01") 424, code := PySem.Value.ref 198 } }) ::
    (nat_lit 200, { cls := PySem.Value.type "tuple", data := PySem.Data.seq #[] }) ::
    (nat_lit 203, { cls := PySem.Value.type "code", data := PySem.Data.fields #[PySem.Value.str (PySem.Str.ofString "law") 463, PySem.Value.str (PySem.Str.ofString "law") 464, PySem.Value.str (PySem.Str.ofString "/claim/cut.py") 465, PySem.Value.int 177 0, PySem.Value.int 1 0, PySem.Value.int 0 0, PySem.Value.int 0 0, PySem.Value.int 3 0, PySem.Value.ref 200, PySem.Value.bool true, PySem.Value.int 181 0, PySem.Value.ref 201, PySem.Value.none, PySem.Value.none, PySem.Value.none, PySem.Value.ref 202, PySem.Value.int 466 0, PySem.Value.int 177 0, PySem.Value.str (PySem.Str.ofString "/claim/cut.py") 467] }) ::
    (nat_lit 204, { cls := PySem.Value.type "function", data := PySem.Data.func { name := PySem.Str.ofString "law", qualname := PySem.Str.ofString "law", params := p23, body := PySem.FuncBody.stmts b23, scope := c23, globals := 3, closure := [], defaults := PySem.Value.none, kwdefaults := PySem.Value.none, pyModule := PySem.Value.str (PySem.Str.ofString "law_pq1123_01") 424, code := PySem.Value.ref 203 } }) ::
    []
noncomputable def hd.hook : Hook := kHook hd.heap_39
  [2, 3, 15, 18, 23, 24, 25, 27, 28, 30, 31, 32, 33, 34, 35, 45, 47, 48, 50, 51, 52, 53, 54, 55, 56, 66, 68, 69, 71, 72, 73, 74, 75, 76, 77, 80, 82, 83, 85, 86, 87, 89, 90, 92, 93, 94, 96, 97, 99, 100, 101, 103, 104, 106, 107, 108, 110, 111, 113, 114, 115, 117, 118, 120, 121, 122, 124, 125, 127, 128, 129, 131, 132, 134, 135, 136, 139, 140, 141, 144, 145, 146, 149, 150, 158, 160, 161, 163, 164, 165, 166, 167, 168, 169, 172, 174, 175, 177, 178, 179, 181, 182, 184, 185, 186, 188, 189, 191, 192, 193, 195, 196, 198, 199, 200, 203, 204] (fun _ => by kernel_rfl)
theorem hd.left : LeftO PySem.Challenge.rw_pq1123_01.row.toRowW.prog hd.view_39 [Str.ofString "SnobolError"] (fun s => xlAt hd.view_39 [] s && recOk (RowW.records PySem.Challenge.rw_pq1123_01.row.toRowW) s) (Hook.obs hd.hook) (Hook.val hd.hook) 3020 := fun w => by kernel_rfl

theorem gtk {M : Model} {A : Around} {α : Type} {c : Sem α} {Q : α → Shared → Prop} {E : Value → Shared → Prop} {h : Heap} {g : Array GenState} {d : Drawn} {o : OsState} {t n : Nat} (k : ∀ tk, wpAny M A c Q E ⟨h, g, d, tk, o⟩) : wpAny M A c Q E ⟨h, g, d, t + n, o⟩ := k _
theorem gtk2 {M : Model} {A : Around} {α : Type} {c : Sem α} {Q : α → Shared → Prop} {E : Value → Shared → Prop} {h : Heap} {g : Array GenState} {d : Drawn} {o : OsState} {t a n : Nat} (k : wpAny M A c Q E ⟨h, g, d, t + (a + OfNat.ofNat n), o⟩) : wpAny M A c Q E ⟨h, g, d, t + a + OfNat.ofNat n, o⟩ := by rw [Nat.add_assoc]; exact k
theorem gtkl {M : Model} {A : Around} {α β : Type} {c : Sem α} {Q : α → Shared → Prop} {E : Value → Shared → Prop} {h : Heap} {g : Array GenState} {d : Drawn} {o : OsState} {t : Nat} {l : List β} (k : ∀ tk, wpAny M A c Q E ⟨h, g, d, tk, o⟩) : wpAny M A c Q E ⟨h, g, d, t + l.length, o⟩ := k _
theorem iteT {b : Bool} {A B : Prop} (h : b = true) (k : A) : if b = true then A else B := by rw [if_pos h]; exact k
theorem iteF {b : Bool} {A B : Prop} (h : b = false) (k : B) : if b = true then A else B := by rw [if_neg (by rw [h]; exact Bool.false_ne_true)]; exact k
theorem rm1 {u a K R : Nat} (h : u + K < R) (le : Nat.ble (a) K = true) : u + a < R := by have := Nat.le_of_ble_eq_true le; omega
theorem rm2 {u a b K R : Nat} (h : u + K < R) (le : Nat.ble (a + b) K = true) : u + a + b < R := by have := Nat.le_of_ble_eq_true le; omega
theorem rm3 {u a b c K R : Nat} (h : u + K < R) (le : Nat.ble (a + b + c) K = true) : u + a + b + c < R := by have := Nat.le_of_ble_eq_true le; omega
theorem rm4 {u a b c d K R : Nat} (h : u + K < R) (le : Nat.ble (a + b + c + d) K = true) : u + a + b + c + d < R := by have := Nat.le_of_ble_eq_true le; omega
theorem rm5 {u a b c d e K R : Nat} (h : u + K < R) (le : Nat.ble (a + b + c + d + e) K = true) : u + a + b + c + d + e < R := by have := Nat.le_of_ble_eq_true le; omega
theorem rm6 {u a b c d e f K R : Nat} (h : u + K < R) (le : Nat.ble (a + b + c + d + e + f) K = true) : u + a + b + c + d + e + f < R := by have := Nat.le_of_ble_eq_true le; omega
theorem rm7 {u a b c d e f g K R : Nat} (h : u + K < R) (le : Nat.ble (a + b + c + d + e + f + g) K = true) : u + a + b + c + d + e + f + g < R := by have := Nat.le_of_ble_eq_true le; omega
theorem na1 {x d : Nat} {q : Prop} (h : x < d ∧ q) : @Ne Nat x d := Nat.ne_of_lt h.1
theorem nb1 {x d : Nat} {q : Prop} (h : x < d ∧ q) : @Ne Nat d x := Nat.ne_of_gt h.1
theorem na2 {x d : Nat} {p1 q : Prop} (h : p1 ∧ x < d ∧ q) : @Ne Nat x d := Nat.ne_of_lt h.2.1
theorem nb2 {x d : Nat} {p1 q : Prop} (h : p1 ∧ x < d ∧ q) : @Ne Nat d x := Nat.ne_of_gt h.2.1
theorem na3 {x d : Nat} {p1 p2 q : Prop} (h : p1 ∧ p2 ∧ x < d ∧ q) : @Ne Nat x d := Nat.ne_of_lt h.2.2.1
theorem nb3 {x d : Nat} {p1 p2 q : Prop} (h : p1 ∧ p2 ∧ x < d ∧ q) : @Ne Nat d x := Nat.ne_of_gt h.2.2.1
theorem na4 {x d : Nat} {p1 p2 p3 q : Prop} (h : p1 ∧ p2 ∧ p3 ∧ x < d ∧ q) : @Ne Nat x d := Nat.ne_of_lt h.2.2.2.1
theorem nb4 {x d : Nat} {p1 p2 p3 q : Prop} (h : p1 ∧ p2 ∧ p3 ∧ x < d ∧ q) : @Ne Nat d x := Nat.ne_of_gt h.2.2.2.1
theorem na5 {x d : Nat} {p1 p2 p3 p4 q : Prop} (h : p1 ∧ p2 ∧ p3 ∧ p4 ∧ x < d ∧ q) : @Ne Nat x d := Nat.ne_of_lt h.2.2.2.2.1
theorem nb5 {x d : Nat} {p1 p2 p3 p4 q : Prop} (h : p1 ∧ p2 ∧ p3 ∧ p4 ∧ x < d ∧ q) : @Ne Nat d x := Nat.ne_of_gt h.2.2.2.2.1
theorem na6 {x d : Nat} {p1 p2 p3 p4 p5 q : Prop} (h : p1 ∧ p2 ∧ p3 ∧ p4 ∧ p5 ∧ x < d ∧ q) : @Ne Nat x d := Nat.ne_of_lt h.2.2.2.2.2.1
theorem nb6 {x d : Nat} {p1 p2 p3 p4 p5 q : Prop} (h : p1 ∧ p2 ∧ p3 ∧ p4 ∧ p5 ∧ x < d ∧ q) : @Ne Nat d x := Nat.ne_of_gt h.2.2.2.2.2.1
theorem na7 {x d : Nat} {p1 p2 p3 p4 p5 p6 q : Prop} (h : p1 ∧ p2 ∧ p3 ∧ p4 ∧ p5 ∧ p6 ∧ x < d ∧ q) : @Ne Nat x d := Nat.ne_of_lt h.2.2.2.2.2.2.1
theorem nb7 {x d : Nat} {p1 p2 p3 p4 p5 p6 q : Prop} (h : p1 ∧ p2 ∧ p3 ∧ p4 ∧ p5 ∧ p6 ∧ x < d ∧ q) : @Ne Nat d x := Nat.ne_of_gt h.2.2.2.2.2.2.1
theorem na8 {x d : Nat} {p1 p2 p3 p4 p5 p6 p7 q : Prop} (h : p1 ∧ p2 ∧ p3 ∧ p4 ∧ p5 ∧ p6 ∧ p7 ∧ x < d ∧ q) : @Ne Nat x d := Nat.ne_of_lt h.2.2.2.2.2.2.2.1
theorem nb8 {x d : Nat} {p1 p2 p3 p4 p5 p6 p7 q : Prop} (h : p1 ∧ p2 ∧ p3 ∧ p4 ∧ p5 ∧ p6 ∧ p7 ∧ x < d ∧ q) : @Ne Nat d x := Nat.ne_of_gt h.2.2.2.2.2.2.2.1
theorem na9 {x d : Nat} {p1 p2 p3 p4 p5 p6 p7 p8 q : Prop} (h : p1 ∧ p2 ∧ p3 ∧ p4 ∧ p5 ∧ p6 ∧ p7 ∧ p8 ∧ x < d ∧ q) : @Ne Nat x d := Nat.ne_of_lt h.2.2.2.2.2.2.2.2.1
theorem nb9 {x d : Nat} {p1 p2 p3 p4 p5 p6 p7 p8 q : Prop} (h : p1 ∧ p2 ∧ p3 ∧ p4 ∧ p5 ∧ p6 ∧ p7 ∧ p8 ∧ x < d ∧ q) : @Ne Nat d x := Nat.ne_of_gt h.2.2.2.2.2.2.2.2.1
theorem na10 {x d : Nat} {p1 p2 p3 p4 p5 p6 p7 p8 p9 q : Prop} (h : p1 ∧ p2 ∧ p3 ∧ p4 ∧ p5 ∧ p6 ∧ p7 ∧ p8 ∧ p9 ∧ x < d ∧ q) : @Ne Nat x d := Nat.ne_of_lt h.2.2.2.2.2.2.2.2.2.1
theorem nb10 {x d : Nat} {p1 p2 p3 p4 p5 p6 p7 p8 p9 q : Prop} (h : p1 ∧ p2 ∧ p3 ∧ p4 ∧ p5 ∧ p6 ∧ p7 ∧ p8 ∧ p9 ∧ x < d ∧ q) : @Ne Nat d x := Nat.ne_of_gt h.2.2.2.2.2.2.2.2.2.1
theorem na0 {x d : Nat} (h : x < d) : @Ne Nat x d := Nat.ne_of_lt h
theorem nb0 {x d : Nat} (h : x < d) : @Ne Nat d x := Nat.ne_of_gt h
/-- a call's contract: what comes back, and what was made -/
def Con (k : Nat) (w : World) (mean : ExcName → Option Value) (mg mb : Str → Option Value) (f : Addr) (vs : List Value) (need : List (Addr × Obj) → Prop) (out : List (Addr × Obj) → List (Addr × Obj) → Value → Prop) : Prop :=
  ∀ (dp un : Nat) (gd : Option (List Code)) (cn : Str) (cs : Scope) (a : Addr) (ccd : Value) (cl : List (Str × Addr)) (outer : List Env) (A₀ : Around) (base h₀ : Heap) (L : Addr) (m : Str → Option Value) (news : List (Addr × Obj)) (s : Shared) (Q E : Value → Shared → Prop),
    Below A₀ base outer h₀ → Fr h₀ L s.heap m → (hd.heap_39 w.params).In h₀ → News h₀ L s.heap news → Top hd.view_39 (looseW hd.view_39 [Str.ofString "SnobolError"]) mean mg mb h₀ → cs.kind = .function →
    need news → dp + k < recursionLimit → un + 20 * k < cLine →
    (∀ r tl h' tk', Fr h₀ L h' m → News h₀ L h' (news ++ tl) → (∀ q ∈ news, ∀ p ∈ tl, @Ne Nat q.1 p.1) → out news tl r → Q r { s with heap := h', toks := tk' }) →
    wpAny (model PySem.Challenge.rw_pq1123_01.row.prog w) (ktrTop dp un gd cn cs L a ccd cl outer) (call (.ref f) vs) Q E s

/-- what lies in a ledger above the one that was handed in -/
inductive Made (news : List (Addr × Obj)) : List (Addr × Obj) → List (Addr × Obj) → Prop
  | nil : Made news news []
  | app {tl : List (Addr × Obj)} : (∀ q ∈ news, ∀ p ∈ tl, @Ne Nat q.1 p.1) → Made news (news ++ tl) tl
  | cons {p : Addr × Obj} {l tl : List (Addr × Obj)} : (∀ q ∈ news, q.1 ≠ p.1) → Made news l tl → Made news (p :: l) (p :: tl)
theorem Made.mem {news l tl : List (Addr × Obj)} (h : Made news l tl) : ∀ p ∈ news ++ tl, p ∈ l := by
  induction h with
  | nil => intro p hp; simpa using hp
  | app _ => intro p hp; exact hp
  | cons _ _ ih =>
    intro p hp
    rcases List.mem_append.mp hp with hp | hp
    · exact .tail _ (ih p (List.mem_append.mpr (.inl hp)))
    · rcases List.mem_cons.mp hp with rfl | hp
      · exact .head _
      · exact .tail _ (ih p (List.mem_append.mpr (.inr hp)))
theorem Made.news {news l tl : List (Addr × Obj)} {h₀ h' : Heap} {L : Addr} (h : Made news l tl) (N : News h₀ L h' l) : News h₀ L h' (news ++ tl) := fun p hp => N p (h.mem p hp)
theorem allLt_mem {d : Addr} : ∀ {l : List (Addr × Obj)}, AllLt d l → ∀ p ∈ l, p.1 < d
  | [], _, _, hp => (nomatch hp)
  | q :: r, h, p, hp => by
    rcases List.mem_cons.mp hp with rfl | hp
    · exact h.1
    · exact allLt_mem h.2 p hp
theorem Made.ord {news l tl : List (Addr × Obj)} (h : Made news l tl) : ∀ q ∈ news, ∀ p ∈ tl, @Ne Nat q.1 p.1 := by
  induction h with
  | nil => intro q _ p hp; exact nomatch hp
  | app h => exact h
  | cons h _ ih =>
    intro q hq p hp
    rcases List.mem_cons.mp hp with rfl | hp
    · exact h q hq
    · exact ih q hq p hp
theorem ne_lt {d : Addr} {l : List (Addr × Obj)} (h : AllLt d l) : ∀ q ∈ l, q.1 ≠ d := fun q hq => Nat.ne_of_lt (allLt_mem h q hq)
theorem ne_ltl {d : Addr} {l l' : List (Addr × Obj)} (h : AllLt d (l ++ l')) : ∀ q ∈ l, q.1 ≠ d := fun q hq => Nat.ne_of_lt (allLt_mem h q (List.mem_append.mpr (.inl hq)))
theorem ne_up {d b : Addr} {l : List (Addr × Obj)} (k : @LT.lt Nat _ b d) (h : AllLt b l) : ∀ q ∈ l, q.1 ≠ d := fun q hq => Nat.ne_of_lt (Nat.lt_trans (allLt_mem h q hq) k)
theorem ne_upl {d b : Addr} {l l' : List (Addr × Obj)} (k : @LT.lt Nat _ b d) (h : AllLt b (l ++ l')) : ∀ q ∈ l, q.1 ≠ d := fun q hq => Nat.ne_of_lt (Nat.lt_trans (allLt_mem h q (List.mem_append.mpr (.inl hq))) k)
theorem off1_mem {d : Addr} : ∀ {l : List (Addr × Obj)}, LCg.Off1 d l → ∀ q ∈ l, q.1 ≠ d
  | [], _, _, hp => (nomatch hp)
  | q :: r, h, p, hp => by
    rcases List.mem_cons.mp hp with rfl | hp
    · exact h.1
    · exact off1_mem h.2 p hp
theorem ne_off {d : Addr} {l : List (Addr × Obj)} (h : LCg.Off1 d l) : ∀ q ∈ l, q.1 ≠ d := off1_mem h
theorem ne_offl {d : Addr} {l l' : List (Addr × Obj)} (h : LCg.Off1 d (l ++ l')) : ∀ q ∈ l, q.1 ≠ d := fun q hq => off1_mem h q (List.mem_append.mpr (.inl hq))
theorem ne_offS {d : Addr} {l l' : List (Addr × Obj)} (h : LCg.Off1 d l') (s : ∀ q ∈ l, q ∈ l') : ∀ q ∈ l, q.1 ≠ d := fun q hq => off1_mem h q (s q hq)
theorem con_ret {news l tl : List (Addr × Obj)} {h₀ h' : Heap} {L : Addr} {m : Str → Option Value} {s : Shared} {tk' : Nat} {Q : Value → Shared → Prop} {out : List (Addr × Obj) → List (Addr × Obj) → Value → Prop} {r : Value}
    (hret : ∀ r tl h' tk', Fr h₀ L h' m → News h₀ L h' (news ++ tl) → (∀ q ∈ news, ∀ p ∈ tl, @Ne Nat q.1 p.1) → out news tl r → Q r { s with heap := h', toks := tk' })
    (F : Fr h₀ L h' m) (N : News h₀ L h' l) (M : Made news l tl) (O : out news tl r) : Q r { s with heap := h', toks := tk' } := hret r tl h' tk' F (M.news N) M.ord O

/-- the labels that the law hands out -/
inductive Lb where
  | n | l1 | l2 | e
def Lb.dat : Lb → Dat
  | .n => .none
  | .l1 => .str (Str.ofString "L1")
  | .l2 => .str (Str.ofString "L2")
  | .e => .str (Str.ofString "")
inductive LbV : Lb → Value → Prop
  | n : LbV .n .none
  | l1 {t : Tok} : LbV .l1 (.str (Str.ofString "L1") t)
  | l2 {t : Tok} : LbV .l2 (.str (Str.ofString "L2") t)
  | e {t : Tok} : LbV .e (.str (Str.ofString "") t)
theorem LbV.handed {l : Lb} {v : Value} (h : LbV l v) : handedIn v = true := by cases h <;> rfl
theorem LbV.datIn {l : Lb} {v : Value} {led : List (Addr × Obj)} (h : LbV l v) : DatIn led v l.dat := by cases h <;> constructor

abbrev tup (vs : List Value) (n : Nat) : Obj := { cls := .type "tuple", data := .seq vs.toArray n }
abbrev ent (w : World) (k : String) (t : Tok) (v : Value) : DictEntry := { hash := PyData.keyHash w.params (Str.ofString k), key := .str (Str.ofString k) t, val := v }
abbrev stD (w : World) (t0 t1 t2 t3 t4 t5 t6 t7 t8 t9 : Tok) (lab sub pat rep repl gs gf ga line text : Value) (n : Nat) : Obj :=
  dictOf [ent w "label" t0 lab, ent w "subject" t1 sub, ent w "pattern" t2 pat, ent w "is_replaced" t3 rep, ent w "replacement" t4 repl, ent w "go_success" t5 gs, ent w "go_failure" t6 gf, ent w "go_always" t7 ga, ent w "line" t8 line, ent w "text" t9 text] n

/-- a statement that the law has written, in a ledger -/
inductive StIn (w : World) (led : List (Addr × Obj)) (lb : Lb) (line : Int) (x : Str) : Int → Value → Prop
  | f0 {a d : Addr} {t0 t1 t2 t3 t4 t5 t6 t7 t8 t9 tl tt : Tok} {lv : Value} {n : Nat} {s1 : Addr} {n1 : Nat} {k1 k2 : Tok} : LbV lb lv → (a, instObj 167 d) ∈ led →
      (d, stD w t0 t1 t2 t3 t4 t5 t6 t7 t8 t9 lv (.ref s1) .none (.bool false) .none .none .none .none (.int line tl) (.str (Str.ofString "") tt) n) ∈ led →
      (s1, tup [.str (Str.ofString "name") k1, .str x k2] n1) ∈ led → StIn w led lb line x 0 (.ref a)
  | f1 {a d : Addr} {t0 t1 t2 t3 t4 t5 t6 t7 t8 t9 tl tt : Tok} {lv : Value} {n : Nat} {s1 s2 s3 s4 : Addr} {n1 n2 n3 n4 : Nat} {k1 k2 k3 k4 k5 k6 k7 : Tok} : LbV lb lv → (a, instObj 167 d) ∈ led →
      (d, stD w t0 t1 t2 t3 t4 t5 t6 t7 t8 t9 lv (.ref s1) .none (.bool true) (.ref s2) .none (.ref s3) .none (.int line tl) (.str (Str.ofString "") tt) n) ∈ led →
      (s1, tup [.str (Str.ofString "name") k1, .str x k2] n1) ∈ led → (s2, tup [.str (Str.ofString "text") k3, .str (Str.ofString "t") k4] n2) ∈ led →
      (s3, tup [.str (Str.ofString "goto") k5, .ref s4] n3) ∈ led → (s4, tup [.str (Str.ofString "name") k6, .str (Str.ofString "L9") k7] n4) ∈ led → StIn w led lb line x 1 (.ref a)
  | f2 {a d : Addr} {t0 t1 t2 t3 t4 t5 t6 t7 t8 t9 tl tt : Tok} {lv : Value} {n : Nat} {s1 s2 s3 s4 : Addr} {n1 n2 n3 n4 : Nat} {k1 k2 k3 k4 k5 k6 k7 : Tok} : LbV lb lv → (a, instObj 167 d) ∈ led →
      (d, stD w t0 t1 t2 t3 t4 t5 t6 t7 t8 t9 lv (.ref s1) (.ref s2) (.bool false) .none (.ref s3) .none .none (.int line tl) (.str (Str.ofString "") tt) n) ∈ led →
      (s1, tup [.str (Str.ofString "name") k1, .str x k2] n1) ∈ led → (s2, tup [.str (Str.ofString "whole") k3, .int 7 k4] n2) ∈ led →
      (s3, tup [.str (Str.ofString "direct") k5, .ref s4] n3) ∈ led → (s4, tup [.str (Str.ofString "name") k6, .str (Str.ofString "C") k7] n4) ∈ led → StIn w led lb line x 2 (.ref a)
  | f3 {a d : Addr} {t0 t1 t2 t3 t4 t5 t6 t7 t8 t9 tl tt : Tok} {lv : Value} {n : Nat} {s2 s3 s4 : Addr} {n2 n3 n4 : Nat} {k3 k4 k5 k6 k7 : Tok} : LbV lb lv → (a, instObj 167 d) ∈ led →
      (d, stD w t0 t1 t2 t3 t4 t5 t6 t7 t8 t9 lv .none .none (.bool false) .none .none .none (.ref s2) (.int line tl) (.str (Str.ofString "") tt) n) ∈ led →
      (s2, tup [.str (Str.ofString "goto") k3, .ref s3] n2) ∈ led → (s3, tup [.str (Str.ofString "unary") k4, .str (Str.ofString "$") k5, .ref s4] n3) ∈ led →
      (s4, tup [.str (Str.ofString "name") k6, .str x k7] n4) ∈ led → StIn w led lb line x 3 (.ref a)
theorem StIn.mono {w : World} {led led' : List (Addr × Obj)} {lb : Lb} {line : Int} {x : Str} {f : Int} {v : Value} (h : StIn w led lb line x f v) (s : ∀ p ∈ led, p ∈ led') : StIn w led' lb line x f v := by
  cases h with
  | f0 h a b c => exact .f0 h (s _ a) (s _ b) (s _ c)
  | f1 h a b c d e f => exact .f1 h (s _ a) (s _ b) (s _ c) (s _ d) (s _ e) (s _ f)
  | f2 h a b c d e f => exact .f2 h (s _ a) (s _ b) (s _ c) (s _ d) (s _ e) (s _ f)
  | f3 h a b c d e => exact .f3 h (s _ a) (s _ b) (s _ c) (s _ d) (s _ e)
/-- the rows that the law writes for a statement -/
def tell (f : Int) (x : Str) : List Str :=
  if f = 0 then [Str.ofString "  VAR " ++ x, Str.ofString "  DROP"]
  else if f = 1 then [Str.ofString "  REF " ++ x, Str.ofString "  PUSH t", Str.ofString "  ASSIGN", Str.ofString "  F LABEL L9"]
  else if f = 2 then [Str.ofString "  VAR " ++ x, Str.ofString "  PUSH 7", Str.ofString "  MATCH", Str.ofString "  S VAR C", Str.ofString "  S TO CODE"]
  else [Str.ofString "  S VAR " ++ x, Str.ofString "  S TO", Str.ofString "  F VAR " ++ x, Str.ofString "  F TO"]
/-- what _law_statement hands back -/
structure StOut (w : World) (led : List (Addr × Obj)) (lb : Lb) (line form : Int) (x : Str) (r : Value) (ta sa ra : Addr) (n1 n2 : Nat) (vs : List Value) : Prop where
  val : r = .ref ta
  pair : (ta, tup [.ref sa, .ref ra] n1) ∈ led
  rows : (ra, listOf vs.toArray n2) ∈ led
  told : DatAll led vs ((tell form x).map .str)
  stat : StIn w led lb line x form (.ref sa)
abbrev statOut (w : World) (lb : Lb) (line form : Int) (x : Str) (_news led : List (Addr × Obj)) (r : Value) : Prop := ∃ (ta sa ra : Addr) (n1 n2 : Nat) (vs : List Value), StOut w led lb line form x r ta sa ra n1 n2 vs
abbrev coD (w : World) (t0 t1 t2 t3 t4 : Tok) (lab body succ fail line : Value) (n : Nat) : Obj :=
  dictOf [ent w "label" t0 lab, ent w "body" t1 body, ent w "success" t2 succ, ent w "failure" t3 fail, ent w "line" t4 line] n
/-- a compiled statement, in a ledger -/
inductive CoIn (w : World) (led : List (Addr × Obj)) (lb : Lb) (line : Int) (x : Str) : Int → Value → Prop
  | f0 {a d b s f : Addr} {t0 t1 t2 t3 t4 tl : Tok} {lv : Value} {n n0 n1 n2 m0 m1 : Nat} {o0 o1 : Addr} {k0 k1 k2 : Tok} : LbV lb lv → (a, instObj 54 d) ∈ led →
      (d, coD w t0 t1 t2 t3 t4 lv (.ref b) (.ref s) (.ref f) (.int line tl) n) ∈ led → (b, listOf #[.ref o0, .ref o1] n0) ∈ led → (s, listOf #[] n1) ∈ led → (f, listOf #[] n2) ∈ led →
      (o0, tup [.str (Str.ofString "VAR") k0, .str x k1] m0) ∈ led → (o1, tup [.str (Str.ofString "DROP") k2] m1) ∈ led → CoIn w led lb line x 0 (.ref a)
  | f1 {a d b s f : Addr} {t0 t1 t2 t3 t4 tl : Tok} {lv : Value} {n n0 n1 n2 m0 m1 m2 m3 : Nat} {o0 o1 o2 o3 : Addr} {k0 k1 k2 k3 k4 k5 k6 : Tok} : LbV lb lv → (a, instObj 54 d) ∈ led →
      (d, coD w t0 t1 t2 t3 t4 lv (.ref b) (.ref s) (.ref f) (.int line tl) n) ∈ led → (b, listOf #[.ref o0, .ref o1, .ref o2] n0) ∈ led → (s, listOf #[] n1) ∈ led → (f, listOf #[.ref o3] n2) ∈ led →
      (o0, tup [.str (Str.ofString "REF") k0, .str x k1] m0) ∈ led → (o1, tup [.str (Str.ofString "PUSH") k2, .str (Str.ofString "t") k3] m1) ∈ led → (o2, tup [.str (Str.ofString "ASSIGN") k4] m2) ∈ led →
      (o3, tup [.str (Str.ofString "LABEL") k5, .str (Str.ofString "L9") k6] m3) ∈ led → CoIn w led lb line x 1 (.ref a)
  | f2 {a d b s f : Addr} {t0 t1 t2 t3 t4 tl : Tok} {lv : Value} {n n0 n1 n2 m0 m1 m2 m3 m4 : Nat} {o0 o1 o2 o3 o4 : Addr} {k0 k1 k2 k3 k4 k5 k6 k7 : Tok} : LbV lb lv → (a, instObj 54 d) ∈ led →
      (d, coD w t0 t1 t2 t3 t4 lv (.ref b) (.ref s) (.ref f) (.int line tl) n) ∈ led → (b, listOf #[.ref o0, .ref o1, .ref o2] n0) ∈ led → (s, listOf #[.ref o3, .ref o4] n1) ∈ led → (f, listOf #[] n2) ∈ led →
      (o0, tup [.str (Str.ofString "VAR") k0, .str x k1] m0) ∈ led → (o1, tup [.str (Str.ofString "PUSH") k2, .int 7 k3] m1) ∈ led → (o2, tup [.str (Str.ofString "MATCH") k4] m2) ∈ led →
      (o3, tup [.str (Str.ofString "VAR") k5, .str (Str.ofString "C") k6] m3) ∈ led → (o4, tup [.str (Str.ofString "TO CODE") k7] m4) ∈ led → CoIn w led lb line x 2 (.ref a)
  | f3 {a d b s : Addr} {t0 t1 t2 t3 t4 tl : Tok} {lv : Value} {n n0 n1 m0 m1 : Nat} {o0 o1 : Addr} {k0 k1 k2 : Tok} : LbV lb lv → (a, instObj 54 d) ∈ led →
      (d, coD w t0 t1 t2 t3 t4 lv (.ref b) (.ref s) (.ref s) (.int line tl) n) ∈ led → (b, listOf #[] n0) ∈ led → (s, listOf #[.ref o0, .ref o1] n1) ∈ led →
      (o0, tup [.str (Str.ofString "VAR") k0, .str x k1] m0) ∈ led → (o1, tup [.str (Str.ofString "TO") k2] m1) ∈ led → CoIn w led lb line x 3 (.ref a)
theorem CoIn.mono {w : World} {led led' : List (Addr × Obj)} {lb : Lb} {line : Int} {x : Str} {f : Int} {v : Value} (h : CoIn w led lb line x f v) (s : ∀ p ∈ led, p ∈ led') : CoIn w led' lb line x f v := by
  cases h with
  | f0 h a b c d e f g => exact .f0 h (s _ a) (s _ b) (s _ c) (s _ d) (s _ e) (s _ f) (s _ g)
  | f1 h a b c d e f g i j => exact .f1 h (s _ a) (s _ b) (s _ c) (s _ d) (s _ e) (s _ f) (s _ g) (s _ i) (s _ j)
  | f2 h a b c d e f g i j k => exact .f2 h (s _ a) (s _ b) (s _ c) (s _ d) (s _ e) (s _ f) (s _ g) (s _ i) (s _ j) (s _ k)
  | f3 h a b c d e f => exact .f3 h (s _ a) (s _ b) (s _ c) (s _ d) (s _ e) (s _ f)
abbrev compOut (w : World) (lb : Lb) (line form : Int) (x : Str) (_news led : List (Addr × Obj)) (r : Value) : Prop := CoIn w led lb line x form r
theorem con_use {k : Nat} {w : World} {mean : ExcName → Option Value} {mg mb : Str → Option Value} {f : Addr} {vs : List Value} {need : List (Addr × Obj) → Prop} {out : List (Addr × Obj) → List (Addr × Obj) → Value → Prop}
    {dp un : Nat} {gd : Option (List Code)} {cn : Str} {cs : Scope} {a : Addr} {ccd : Value} {cl : List (Str × Addr)} {outer : List Env} {A₀ : Around} {base h₀ : Heap} {L : Addr} {m : Str → Option Value} {news : List (Addr × Obj)} {s : Shared} {Q E : Value → Shared → Prop}
    (C : Con k w mean mg mb f vs need out) (hn : need news)
    (h : ∀ r tl h' tk', Fr h₀ L h' m → News h₀ L h' (news ++ tl) → (∀ q ∈ news, ∀ p ∈ tl, @Ne Nat q.1 p.1) → out news tl r → Q r { s with heap := h', toks := tk' })
    (B : Below A₀ base outer h₀ := by k_asm) (F : Fr h₀ L s.heap m := by k_asm) (X : (hd.heap_39 w.params).In h₀ := by k_asm) (N : News h₀ L s.heap news := by k_asm) (T : Top hd.view_39 (looseW hd.view_39 [Str.ofString "SnobolError"]) mean mg mb h₀ := by k_asm) (hk : cs.kind = .function := by first | exact rfl | assumption)
    (hd : dp + k < recursionLimit := by ktr_room) (hu : un + 20 * k < cLine := by ktr_units) :
    wpAny (model PySem.Challenge.rw_pq1123_01.row.prog w) (ktrTop dp un gd cn cs L a ccd cl outer) (call (.ref f) vs) Q E s := C _ _ _ _ _ _ _ _ _ _ _ _ _ _ _ _ _ _ B F X N T hk hn hd hu h

/-- a statement's row of data -/
structure Row where
  lb : Lb
  line : Int
  form : Int
  x : Str
structure Row.Ok (r : Row) : Prop where
  x : r.x.length ≤ 1
  l0 : 0 ≤ r.line
  l1 : r.line ≤ 100
inductive Each (P : Value → Row → Prop) : List Value → List Row → Prop
  | nil : Each P [] []
  | cons {v : Value} {r : Row} {vs : List Value} {rs : List Row} : P v r → Each P vs rs → Each P (v :: vs) (r :: rs)
theorem Each.mono {P P' : Value → Row → Prop} {vs : List Value} {rs : List Row} (h : Each P vs rs) (k : ∀ v r, P v r → P' v r) : Each P' vs rs := by
  induction h with
  | nil => exact .nil
  | cons a _ ih => exact .cons (k _ _ a) ih
theorem Each.length {P : Value → Row → Prop} {vs : List Value} {rs : List Row} (h : Each P vs rs) : vs.length = rs.length := by
  induction h with
  | nil => rfl
  | cons _ _ ih => simp [ih]
theorem Each.snoc {P : Value → Row → Prop} {vs : List Value} {rs : List Row} {v : Value} {r : Row} (h : Each P vs rs) (k : P v r) : Each P (vs ++ [v]) (rs ++ [r]) := by
  induction h with
  | nil => exact .cons k .nil
  | cons a _ ih => exact .cons a ih
theorem Each.get {P : Value → Row → Prop} {vs : List Value} {rs : List Row} (h : Each P vs rs) {i : Nat} {v : Value} (e : vs[i]? = some v) : ∃ r, rs[i]? = some r ∧ P v r := by
  induction h generalizing i with
  | nil => simp at e
  | cons a _ ih =>
    cases i with
    | zero =>
      simp only [List.getElem?_cons_zero, Option.some.injEq] at e
      subst e
      exact ⟨_, rfl, a⟩
    | succ i => exact ih (by simpa using e)
abbrev StP (w : World) (led : List (Addr × Obj)) (v : Value) (r : Row) : Prop := StIn w led r.lb r.line r.x r.form v
abbrev CoP (w : World) (led : List (Addr × Obj)) (v : Value) (r : Row) : Prop := CoIn w led r.lb r.line r.x r.form v

section
variable {prog : Program} {w : World} {A : Around} {h₀ : Heap} {L : Addr} {m : Str → Option Value} {env : Env} {elt : Expr} {x : Str} {scope : Scope} {cl : List (Str × Addr)} {s : Shared} {S : List (Addr × Obj) → Prop} {P : Nat → Value → Prop} {Fin : List Value → List (Addr × Obj) → Prop}
/-- a comprehension by what holds of what was made -/
theorem comp_inv (J : Nat → List Value → List (Addr × Obj) → Prop) {n : Nat}
    (turn : ∀ i v I oI C oC D m₂ ys news h tk (E' : Value → Shared → Prop), i < n → P i v → J i ys news → LCg.NsObj oC m₂ → m₂ x = some v → Fr h₀ L h m → News h₀ L h ((I, oI) :: (C, oC) :: (D, LCg.lst ys) :: news) → LCg.Off3 I C D news → ((@Ne Nat I C) ∧ (@Ne Nat I D) ∧ (@Ne Nat C D)) →
      wpAny (model prog w) A (eval elt (compEnvC scope cl C env)) (LCg.CompEnd h₀ L m { s with heap := h, toks := tk } I oI C oC D (LCg.lst ys) S (fun y news' => J (i + 1) (ys ++ [y]) news')) E' { s with heap := h, toks := tk })
    (fin : ∀ ys news, J n ys news → Fin ys news) {news : List (Addr × Obj)} (h0 : J 0 [] news) : LCg.CompRest prog w A h₀ L m env elt x scope cl s S P Fin n 0 [] news := by
  have key : ∀ (j i : Nat) (ys : List Value) (news : List (Addr × Obj)), i + j = n → J i ys news → LCg.CompRest prog w A h₀ L m env elt x scope cl s S P Fin j i ys news := by
    intro j
    induction j with
    | zero =>
      intro i ys news hi hy
      obtain rfl : i = n := by omega
      exact LCg.CompRest.zero (fin ys news hy)
    | succ j ih =>
      intro i ys news hi hy
      refine LCg.CompRest.succ ?_
      intro v I oI C oC D m₂ h tk E' hv hC hx F N off ne
      refine wpAny_mono (turn i v I oI C oC D m₂ ys news h tk E' (by omega) hv hy hC hx F N off ne) (fun y s₂ hq => ?_) fun _ _ e => e
      obtain ⟨h', tk', nw, e, F', N', off', hS, hj⟩ := hq
      exact ⟨h', tk', nw, e, F', N', off', hS, ih (i + 1) _ nw (by omega) hj⟩
  exact key n 0 [] news (by omega) h0
end
section
variable {prog : Program} {w : World} {A : Around} {E : Value → Shared → Prop} {s : Shared} {env : Env} {h₀ : Heap} {target : Expr} {body : List Stmt} {Q : Flow → Shared → Prop}
theorem unrPostW_mono {L : Addr} {s₁ : Shared} {its : List (Addr × Obj)} {r r' : (Str → Option Value) → List (Addr × Obj) → Prop} (h : ∀ m n, r m n → r' m n) {f : Flow} {s₂ : Shared} (p : UnrPostW h₀ L s₁ its r Q f s₂) : UnrPostW h₀ L s₁ its r' Q f s₂ := by
  have k : UnrEndW h₀ L s₁ its r s₂ → UnrEndW h₀ L s₁ its r' s₂ := by
    rintro ⟨h', tk, m', nw, e, F, N, off, x⟩
    exact ⟨h', tk, m', nw, e, F, N, off, h _ _ x⟩
  cases f with
  | ret v => exact p
  | brk => exact p
  | next => exact k p
  | cont => exact k p
theorem allObj_mono : ∀ {ws : List (Addr × String)} {k k' : List (Addr × Obj) → Prop}, (∀ l, k l → k' l) → AllObj ws k → AllObj ws k'
  | [], _, _, h, x => h _ x
  | _ :: _, _, _, h, x => fun o ho => allObj_mono (fun l y => h _ y) (x o ho)
/-- a loop over known items by an invariant -/
theorem items_inv {ws : List (Addr × String)} {keep : List (Addr × Obj)} {xs : List Itm} (J : Nat → (Str → Option Value) → List (Addr × Obj) → Prop)
    (turn : ∀ i a m news v h tk, xs[i]? = some a → J i m news → a.Is v h → Fr h₀ env.locals h m → AllObj ws (fun its => News h₀ env.locals h (its ++ news) →
      wpAny (model prog w) A (assign target env v) (fun _ s₂ => wpAny (model prog w) A (execs body env) (UnrPostW h₀ env.locals { s with heap := h, toks := tk } its (fun m' n' => SubL keep n' ∧ J (i + 1) m' n') Q) E s₂) E { s with heap := h, toks := tk }))
    (done : ∀ m news h tk, J xs.length m news → Fr h₀ env.locals h m → News h₀ env.locals h news → Q .next { s with heap := h, toks := tk })
    {m : Str → Option Value} {news : List (Addr × Obj)} (h0 : J 0 m news) : ItemsRest prog w A E h₀ env target body Q s ws keep xs m news := by
  have key : ∀ (post : List Itm) (i : Nat), xs.drop i = post → i + post.length = xs.length → ∀ m news, J i m news → ItemsRest prog w A E h₀ env target body Q s ws keep post m news := by
    intro post
    induction post with
    | nil =>
      intro i _ hl m news hj h tk F N
      obtain rfl : i = xs.length := by simpa using hl
      exact done m news h tk hj F N
    | cons a r ih =>
      intro i hd hl m news hj
      have hx : xs[i]? = some a := by
        have := congrArg (fun l => l[0]?) hd
        simpa using this
      have hr : xs.drop (i + 1) = r := by
        rw [← List.drop_drop, hd]; rfl
      intro v h tk hv F
      refine allObj_mono (fun l k N => ?_) (turn i a m news v h tk hx hj hv F)
      refine wpAny_mono (k N) (fun _ s₂ h₂ => wpAny_mono h₂ (fun f s₃ p => ?_) fun _ _ e => e) fun _ _ e => e
      exact unrPostW_mono (fun m' n' q => ⟨q.1, ih (i + 1) hr (by simp at hl; omega) m' n' q.2⟩) p
  exact key xs 0 (by simp) (by simp) m news h0
/-- a loop over a range by an invariant -/
theorem range_inv {x : Str} {I : Addr} {a : Int} {n : Nat} (J : Nat → (Str → Option Value) → List (Addr × Obj) → Prop)
    (turn : ∀ i m news t h tk, i < n → J i m news → Fr h₀ env.locals h (fun y => if y = x then some (.int (a + (i : Int)) t) else m y) → News h₀ env.locals h ((I, itR (a + ((i + 1 : Nat) : Int)) ((n : Int) - ((i + 1 : Nat) : Int))) :: news) →
      wpAny (model prog w) A (execs body env) (UnrPost h₀ env.locals { s with heap := h, toks := tk } I (itR (a + ((i + 1 : Nat) : Int)) ((n : Int) - ((i + 1 : Nat) : Int))) (J (i + 1)) Q) E { s with heap := h, toks := tk })
    (done : ∀ m news h tk, J n m news → Fr h₀ env.locals h m → News h₀ env.locals h news → Q .next { s with heap := h, toks := tk })
    {m : Str → Option Value} {news : List (Addr × Obj)} (h0 : J 0 m news) : RangeRest prog w A E h₀ env x body Q s I a n n 0 m news := by
  have key : ∀ (k i : Nat), i + k = n → ∀ m news, J i m news → RangeRest prog w A E h₀ env x body Q s I a n k i m news := by
    intro k
    induction k with
    | zero =>
      intro i hi m news hj h tk F N
      obtain rfl : i = n := by omega
      exact done m news h tk hj F N
    | succ k ih =>
      intro i hi m news hj t h tk F N
      refine wpAny_mono (turn i m news t h tk (by omega) hj F N) (fun f s₃ p => ?_) fun _ _ e => e
      have g : UnrEnd h₀ env.locals { s with heap := h, toks := tk } I (itR (a + ((i + 1 : Nat) : Int)) ((n : Int) - ((i + 1 : Nat) : Int))) (J (i + 1)) s₃ →
          UnrEnd h₀ env.locals { s with heap := h, toks := tk } I (itR (a + ((i + 1 : Nat) : Int)) ((n : Int) - ((i + 1 : Nat) : Int))) (RangeRest prog w A E h₀ env x body Q s I a n k (i + 1)) s₃ := by
        rintro ⟨h', tk', m', nw, e, F', N', off, hj'⟩
        exact ⟨h', tk', m', nw, e, F', N', off, ih (i + 1) (by omega) m' nw hj'⟩
      cases f with
      | ret v => exact p
      | brk => exact p
      | next => exact g p
      | cont => exact g p
  exact key n 0 (by omega) m news h0
end
/-- a comprehension's turn that ends behind a contract's call -/
theorem comp_end {h₀ h9 : Heap} {L : Addr} {m : Str → Option Value} {s₁ : Shared} {I C D : Addr} {oI oC oD : Obj} {S : List (Addr × Obj) → Prop} {rest : Value → List (Addr × Obj) → Prop} {y : Value} {tk9 : Nat} {news tl tl9 : List (Addr × Obj)}
    (F : Fr h₀ L h9 m) (N : News h₀ L h9 (((I, oI) :: (C, oC) :: (D, oD) :: (news ++ tl)) ++ tl9)) (off : LCg.Off3 I C D (news ++ tl)) (hl : ∀ q ∈ (I, oI) :: (C, oC) :: (D, oD) :: (news ++ tl), ∀ p ∈ tl9, @Ne Nat q.1 p.1)
    (hS : S (news ++ (tl ++ tl9))) (r : rest y (news ++ (tl ++ tl9))) : LCg.CompEnd h₀ L m s₁ I oI C oC D oD S rest y { s₁ with heap := h9, toks := tk9 } := by
  refine LCg.CompEnd.intro F N (news ++ (tl ++ tl9)) ?_ ?_ hS r
  · intro p hp
    rcases List.mem_cons.mp hp with rfl | hp
    · exact .head _
    · rcases List.mem_cons.mp hp with rfl | hp
      · exact .tail _ (.head _)
      · rcases List.mem_cons.mp hp with rfl | hp
        · exact .tail _ (.tail _ (.head _))
        · refine .tail _ (.tail _ (.tail _ ?_))
          show p ∈ (news ++ tl) ++ tl9
          rw [List.append_assoc]
          exact hp
  · refine LCg.Off3.of fun p hp => ?_
    rw [← List.append_assoc] at hp
    rcases List.mem_append.mp hp with hp | hp
    · exact off.mem p hp
    · exact ⟨(hl _ (.head _) p hp).symm, (hl _ (.tail _ (.head _)) p hp).symm, (hl _ (.tail _ (.tail _ (.head _))) p hp).symm⟩
theorem ord_app {news tl tl9 : List (Addr × Obj)} (h : ∀ q ∈ news, ∀ p ∈ tl, @Ne Nat q.1 p.1) (k : ∀ q ∈ news ++ tl, ∀ p ∈ tl9, @Ne Nat q.1 p.1) : ∀ q ∈ news, ∀ p ∈ tl ++ tl9, @Ne Nat q.1 p.1 := by
  intro q hq p hp
  rcases List.mem_append.mp hp with hp | hp
  · exact h q hq p hp
  · exact k q (List.mem_append.mpr (.inl hq)) p hp
theorem ord_tail3 {a b c : Addr × Obj} {l tl9 : List (Addr × Obj)} (k : ∀ q ∈ a :: b :: c :: l, ∀ p ∈ tl9, @Ne Nat q.1 p.1) : ∀ q ∈ l, ∀ p ∈ tl9, @Ne Nat q.1 p.1 := fun q hq => k q (.tail _ (.tail _ (.tail _ hq)))
theorem CoP.monoE {w : World} {l l' : List (Addr × Obj)} {vs : List Value} {rs : List Row} (h : Each (CoP w l) vs rs) (s : ∀ p ∈ l, p ∈ l') : Each (CoP w l') vs rs := h.mono fun _ _ k => k.mono s
theorem StP.monoE {w : World} {l l' : List (Addr × Obj)} {vs : List Value} {rs : List Row} (h : Each (StP w l) vs rs) (s : ∀ p ∈ l, p ∈ l') : Each (StP w l') vs rs := h.mono fun _ _ k => k.mono s
theorem sub_l {a b : List (Addr × Obj)} : ∀ p ∈ a, p ∈ a ++ b := fun _ h => List.mem_append.mpr (.inl h)
theorem sub_r {a b : List (Addr × Obj)} : ∀ p ∈ b, p ∈ a ++ b := fun _ h => List.mem_append.mpr (.inr h)
theorem take_snoc {ds : List Row} {i : Nat} {r : Row} (h : ds[i]? = some r) : ds.take (i + 1) = ds.take i ++ [r] := by rw [List.take_add_one, h]; rfl
/-- a frame's names that a loop turns, the others as they stood -/
def FixOf (names : List Str) (m m0 : Str → Option Value) : Prop := ∀ z, names.contains z = false → m z = m0 z
theorem FixOf.rfl' {names : List Str} {m : Str → Option Value} : FixOf names m m := fun _ _ => rfl
theorem FixOf.base {names : List Str} {m m0 : Str → Option Value} : FixOf names (fun z => if names.contains z = true then m z else m0 z) m0 := fun z hz => by
  show (if names.contains z = true then m z else m0 z) = m0 z
  rw [hz]; rfl
theorem FixOf.step {names : List Str} {m m0 : Str → Option Value} {y : Str} {v : Value} (h : FixOf names m m0) (hy : names.contains y = true) : FixOf names (fun z => if z = y then some v else m z) m0 := fun z hz => by
  show (if z = y then some v else m z) = m0 z
  have : z ≠ y := fun e => by rw [e, hy] at hz; cases hz
  rw [if_neg this]
  exact h z hz
theorem FixOf.fr {names : List Str} {h₀ h : Heap} {L : Addr} {m m0 : Str → Option Value} (k : FixOf names m m0) (F : Fr h₀ L h m) : Fr h₀ L h (fun z => if names.contains z = true then m z else m0 z) := by
  have e : (fun z => if names.contains z = true then m z else m0 z) = m := by
    funext z
    by_cases hz : names.contains z = true
    · rw [if_pos hz]
    · rw [if_neg hz]
      exact (k z (by simpa using hz)).symm
  rw [e]; exact F
theorem unr_end2 {h₀ : Heap} {L : Addr} {s₁ : Shared} {e1 e2 : Addr × Obj} {rest : (Str → Option Value) → List (Addr × Obj) → Prop} {h' : Heap} {tk : Nat} {m' : Str → Option Value} {nw : List (Addr × Obj)}
    (F : Fr h₀ L h' m') (N : News h₀ L h' (e1 :: e2 :: nw)) (off : ∀ p ∈ nw, p.1 ≠ e2.1 ∧ p.1 ≠ e1.1) (r : rest m' nw) : UnrEndW h₀ L s₁ [e1, e2] rest { s₁ with heap := h', toks := tk } :=
  ⟨h', tk, m', nw, rfl, F, N, fun p hp q hq => by
    rcases List.mem_cons.mp hq with rfl | hq
    · exact (off p hp).2
    · rw [List.mem_singleton.mp hq]; exact (off p hp).1, r⟩
theorem enumItems_inv {ys : List Value} {i : Nat} {a : Itm} (h : (enumItems 0 ys)[i]? = some a) : ∃ v, ys[i]? = some v ∧ a = .pair (fun t => .int ((i : Nat) : Int) t) v := by
  have hi : i < ys.length := by
    have := (List.getElem?_eq_some_iff.mp h).1
    rwa [enumItems_length] at this
  refine ⟨ys[i], List.getElem?_eq_getElem hi, ?_⟩
  have := enumItems_get ys 0 i (List.getElem?_eq_getElem hi)
  rw [h] at this
  simpa using Option.some.inj this
theorem CoIn.head {w : World} {led : List (Addr × Obj)} {lb : Lb} {line : Int} {x : Str} {f : Int} {v : Value} (h : CoIn w led lb line x f v) : ∃ (a d b s g : Addr) (t0 t1 t2 t3 t4 tl : Tok) (lv : Value) (n : Nat), v = .ref a ∧ LbV lb lv ∧ (a, instObj 54 d) ∈ led ∧ (d, coD w t0 t1 t2 t3 t4 lv (.ref b) (.ref s) (.ref g) (.int line tl) n) ∈ led := by
  cases h with
  | f0 h a b => exact ⟨_, _, _, _, _, _, _, _, _, _, _, _, _, rfl, h, a, b⟩
  | f1 h a b => exact ⟨_, _, _, _, _, _, _, _, _, _, _, _, _, rfl, h, a, b⟩
  | f2 h a b => exact ⟨_, _, _, _, _, _, _, _, _, _, _, _, _, rfl, h, a, b⟩
  | f3 h a b => exact ⟨_, _, _, _, _, _, _, _, _, _, _, _, _, rfl, h, a, b⟩
open Classical in
/-- where the first label "L2" stands -/
noncomputable def l2at (ds : List Row) : Option Nat := ds.findIdx? fun r => decide (r.lb = .l2)
abbrev kndS (w : World) := PySem.strKind PySem.Challenge.rw_pq1123_01.row.prog w
/-- the table of labels behind some statements, the first of which has the label "L1" -/
inductive LabD (w : World) (o : Obj) (ds : List Row) : Prop
  | nil : o.IsDictOf (kndS w) [] → PyProof.V.FlatPairs PyData.str [] [] → ds = [] → LabD w o ds
  | one {t : Tok} : o.IsDictOf (kndS w) [(Str.ofString "L1", .int 0 t)] → PyProof.V.FlatPairs PyData.str [(Str.ofString "L1", .int 0 t)] [(.str (Str.ofString "L1"), .int 0)] → ds ≠ [] → l2at ds = none → LabD w o ds
  | two {t t' : Tok} {k : Nat} : o.IsDictOf (kndS w) [(Str.ofString "L1", .int 0 t), (Str.ofString "L2", .int (k : Int) t')] →
      PyProof.V.FlatPairs PyData.str [(Str.ofString "L1", .int 0 t), (Str.ofString "L2", .int (k : Int) t')] [(.str (Str.ofString "L1"), .int 0), (.str (Str.ofString "L2"), .int (k : Int))] → ds ≠ [] → l2at ds = some k → LabD w o ds
section
variable {w : World} {ds : List Row} {i : Nat} {r : Row} {o : Obj} {t t' : Tok} {k : Nat}
open Classical in
theorem l2at_snoc {p : List Row} : l2at (p ++ [r]) = (l2at p).or (if r.lb = .l2 then some p.length else none) := by
  unfold l2at
  rw [List.findIdx?_append]
  by_cases h : r.lb = .l2 <;> simp [h, List.findIdx?_cons]
theorem take_ne {h : ds[i]? = some r} : ds.take (i + 1) ≠ [] := by
  rw [take_snoc h]; simp
theorem lab_first (hr : ds[0]? = some r) (h1 : r.lb = .l1) (hd : o.IsDictOf (kndS w) (stored [] (Str.ofString "L1") (.int ((0 : Nat) : Int) t))) : LabD w o (ds.take (0 + 1)) := by
  refine .one (t := t) hd (.cons (PyProof.V.Flat.int _ _) .nil) (take_ne (h := hr)) ?_
  rw [take_snoc hr, l2at_snoc, h1]
  simp [l2at]
theorem lab_keep1 (hr : ds[i]? = some r) (hn : r.lb ≠ .l2) (hd : o.IsDictOf (kndS w) [(Str.ofString "L1", .int 0 t)]) (hf : PyProof.V.FlatPairs PyData.str [(Str.ofString "L1", .int 0 t)] [(.str (Str.ofString "L1"), .int 0)]) (h2 : l2at (ds.take i) = none) : LabD w o (ds.take (i + 1)) := by
  refine .one hd hf (take_ne (h := hr)) ?_
  rw [take_snoc hr, l2at_snoc, h2, if_neg hn]; rfl
theorem lab_add (hr : ds[i]? = some r) (hn : r.lb = .l2) (h2 : l2at (ds.take i) = none) (hd : o.IsDictOf (kndS w) (stored [(Str.ofString "L1", .int 0 t)] (Str.ofString "L2") (.int (i : Int) t'))) : LabD w o (ds.take (i + 1)) := by
  have hi := (List.getElem?_eq_some_iff.mp hr).1
  refine .two (t := t) (t' := t') (k := i) hd (.cons (PyProof.V.Flat.int _ _) (.cons (PyProof.V.Flat.int _ _) .nil)) (take_ne (h := hr)) ?_
  rw [take_snoc hr, l2at_snoc, h2, if_pos hn]
  simp [Nat.min_eq_left (Nat.le_of_lt hi)]
theorem lab_keep2 (hr : ds[i]? = some r) (hd : o.IsDictOf (kndS w) [(Str.ofString "L1", .int 0 t), (Str.ofString "L2", .int (k : Int) t')])
    (hf : PyProof.V.FlatPairs PyData.str [(Str.ofString "L1", .int 0 t), (Str.ofString "L2", .int (k : Int) t')] [(.str (Str.ofString "L1"), .int 0), (.str (Str.ofString "L2"), .int (k : Int))]) (h2 : l2at (ds.take i) = some k) : LabD w o (ds.take (i + 1)) := by
  refine .two hd hf (take_ne (h := hr)) ?_
  rw [take_snoc hr, l2at_snoc, h2]; rfl
theorem off_put {P : Addr → Prop} {a : Addr} {o o' : Obj} {l : List (Addr × Obj)} (h : ∀ p ∈ (a, o) :: l, P p.1) : ∀ p ∈ (a, o') :: l, P p.1 := by
  intro p hp
  rcases List.mem_cons.mp hp with rfl | hp
  · exact h (a, o) (.head _)
  · exact h p (.tail _ hp)
end
/-- a unit, in a ledger -/
structure UnIn (w : World) (led : List (Addr × Obj)) (ds : List Row) (num : Int) (r : Value) (u ud sa da : Addr) (t0 t1 t2 tn : Tok) (n ns : Nat) (cvs : List Value) (od : Obj) : Prop where
  val : r = .ref u
  inst : (u, instObj 75 ud) ∈ led
  dict : (ud, dictOf [ent w "number" t0 (.int num tn), ent w "statements" t1 (.ref sa), ent w "labels" t2 (.ref da)] n) ∈ led
  stats : (sa, LCg.lst cvs) ∈ led
  each : Each (CoP w led) cvs ds
  labs : (da, od) ∈ led
  notM : (da == sysModules) = false
  lab : LabD w od ds
abbrev progOut (w : World) (ds : List Row) (num : Int) (_news led : List (Addr × Obj)) (r : Value) : Prop := ∃ (u ud sa da : Addr) (t0 t1 t2 tn : Tok) (n ns : Nat) (cvs : List Value) (od : Obj), UnIn w led ds num r u ud sa da t0 t1 t2 tn n ns cvs od
section
open PySem.Calls PySem.Spec
variable {prog : Program} {w : World} {A : Around} {E : Value → Shared → Prop} {s : Shared} {h₀ : Heap} {L : Addr} {m : Str → Option Value} {env : Env} {news' : List (Addr × Obj)}
/-- a comprehension over a tuple of the ledger -/
def SrcTu (prog : Program) (w : World) (A : Around) (h₀ : Heap) (L : Addr) (m : Str → Option Value) (env : Env) (elt : Expr) (x : Str) (scope : Scope) (cl : List (Str × Addr)) (Fin : Shared → List Value → List (Addr × Obj) → Prop) (xv : Value) (s₁ : Shared) : Prop :=
  ∃ (ax : Addr) (vs : List Value) (k : Nat) (news : List (Addr × Obj)), xv = .ref ax ∧ A.handled = none ∧ Fr h₀ L s₁.heap m ∧ News h₀ L s₁.heap news ∧ (ax, tup vs k) ∈ news ∧ vs.toArray.size ≤ sizeLine ∧
    ∀ s₂ : Shared, (∃ h, s₂ = { s₁ with heap := h }) → LCg.CompRest prog w A h₀ L m env elt x scope cl s₂ (fun nw => (ax, tup vs k) ∈ nw) (fun i v => vs.toArray[i]? = some v) (Fin s₂) vs.toArray.size 0 [] news
theorem tup_st {ax I : Addr} {vs : List Value} {k : Nat} : ∀ i (h h' : Heap) (o : Obj) (nw : List (Addr × Obj)), (h.IsTupleIter I ax i ∧ h.IsTuple ax vs.toArray) → h.get? I = some o → h'.get? I = some o → (∀ b o, h₀.get? b = some o → h'.get? b = some o) → News h₀ L h' nw → (ax, tup vs k) ∈ nw → (h'.IsTupleIter I ax i ∧ h'.IsTuple ax vs.toArray) :=
  fun i h h' o nw st e e' _ N S => ⟨by obtain ⟨o', q, r⟩ := st.1; rw [e] at q; cases q; exact ⟨o, e', r⟩, ⟨_, (N _ S).1, rfl, k, rfl⟩⟩
theorem ListComp_Tu {elt iter : Expr} {x : Str} {px : Pos} {scope : Scope} {cl : List (Str × Addr)} {pos : Pos} {Q : Value → Shared → Prop} (F₀ : Fr h₀ L s.heap m)
    (hclos : closureFor scope env = pure cl) (hcell : ∀ y ∈ scope.names, y.2 ≠ .cell) (hkind : scope.kind = .function)
    (hnames : ∀ y ∈ scope.names, y.2 = .local → scope.names.lookup y.1 = some .local) (hx : scope.names.lookup x = some .local)
    (h : wpAny (model prog w) A (eval iter env) (SrcTu prog w A h₀ L m env elt x scope cl (fun s₂ => LCg.FinE h₀ L m s₂ Q)) E s)
    (hs : ∀ x, foldedSetIterable iter env x = pure x := by intro _; rfl) :
    wpAny (model prog w) A (eval (.ListComp elt [⟨.Name x px, iter, [], 0⟩] scope pos) env) Q E s := by
  rw [eval_ListComp]
  refine wpAny_comprehension_free (use := none) rfl hs hclos hkind hnames (wpAny_mono h (fun xv s₁ h₁ => ?_) fun _ _ e => e)
  obtain ⟨ax, vs, k, news, rfl, hh, F, N, S, hsz, R⟩ := h₁
  have hl : s₁.heap.IsTuple ax vs.toArray := ⟨_, (N _ S).1, rfl, k, rfl⟩
  have hlt : ax < s₁.heap.objs.size := Heap.lt_size (N _ S).1
  refine wpAny_pyIter_tuple hl ?_
  have up : ∀ b o, s₁.heap.get? b = some o → (s₁.heap.push { cls := .type "tuple_iterator", data := .fields #[.ref ax, .int 0 0] }).get? b = some o := fun b o e => Heap.get?_push_of_some _ e
  refine LCg.block_U (S := fun nw => (ax, tup vs k) ∈ nw) (Walks.tuple hh s₁.heap.objs.size ax (Nat.ne_of_lt hlt) vs.toArray) hsz (fun i h st => by obtain ⟨o, e, _⟩ := st.1; exact ⟨o, e⟩) tup_st hcell hkind hx ⟨⟨_, Heap.get?_push_size _ rfl, rfl, rfl⟩, hl.at fun o e => Heap.get?_push_of_some _ e⟩ (fun b hb => ?_)
    (F.keeps up) (N.grown up) (Nat.ne_of_lt F.ns.lt) (next_is_new F) (fun p hp => Nat.ne_of_lt (Heap.lt_size (N p hp).1)) S (R _ ⟨_, rfl⟩) ?_
  · show b < (s₁.heap.push _).objs.size
    rw [Heap.size_push]
    rcases List.mem_cons.mp hb with rfl | hb
    · exact Nat.lt_succ_self _
    · rw [List.mem_singleton.mp hb]; exact Nat.lt_succ_of_lt hlt
  · intro D C h tk m' ys news' F' N' o1 hn hC₀ hD₀ hCL hDL hCD offC fin
    refine ⟨m', hn, fun h'' hs'' => fin D h'' tk (F'.change hs'' hCL hC₀) (fun p hp => ?_) o1⟩
    refine ⟨hs''.extBut _ _ ?_ (N' p hp).1, (N' p hp).2⟩
    rcases List.mem_cons.mp hp with rfl | hp
    · exact Ne.symm hCD
    · exact offC p hp
theorem SrcTu.intro {elt : Expr} {x : Str} {scope : Scope} {cl : List (Str × Addr)} {Fin : Shared → List Value → List (Addr × Obj) → Prop} {ax : Addr} {vs : List Value} {k : Nat} {news : List (Addr × Obj)} {s₁ : Shared}
    (hh : A.handled = none) (F : Fr h₀ L s₁.heap m) (N : News h₀ L s₁.heap news) (hm : (ax, tup vs k) ∈ news) (hsz : vs.toArray.size ≤ sizeLine)
    (h : ∀ g, LCg.CompRest prog w A h₀ L m env elt x scope cl { s₁ with heap := g } (fun nw => (ax, tup vs k) ∈ nw) (fun i v => vs.toArray[i]? = some v) (Fin { s₁ with heap := g }) vs.toArray.size 0 [] news) :
    SrcTu prog w A h₀ L m env elt x scope cl Fin (.ref ax) s₁ := ⟨ax, vs, k, news, rfl, hh, F, N, hm, hsz, fun _ ⟨g, e⟩ => e ▸ h g⟩
/-- a tuple's end, from a written place on -/
theorem slice_tup {value slice : Expr} {t : Addr} {vs zs : List Value} {a n : Nat} {u : Tok} {Q : Value → Shared → Prop}
    (F : Fr h₀ L s.heap m) (N : News h₀ L s.heap news') (ht : (t, tup vs n) ∈ news') (h1 : 1 ≤ a) (ha : a ≤ vs.length) (e : vs.drop a = zs)
    (h : ∀ D h', Fr h₀ L h' m → News h₀ L h' ((D, tup zs 0) :: news') → (∀ p ∈ news', p.1 < D) → Q (.ref D) { s with heap := h' })
    (hs : subscripted slice false (.ref t) (.ref s.heap.objs.size) = operate [.ref s.heap.objs.size, .ref t] (getItem (.ref t) (.ref s.heap.objs.size)))
    (hg : ∀ r, letTemporaryGo value (.ref t) r = pure ())
    (hsz : vs.toArray.size ≤ sizeLine) :
    wpAny (model prog w) A (subscriptTail value slice (.ref t) (.ref s.heap.objs.size)) Q E { s with heap := s.heap.push { cls := .type "slice", data := .fields #[.int a u, .none, .none] } } := by
  subst e
  exact slice_tuple_from F N (News.isTup N ht) h1 (by simpa using ha) (fun h' F' N' => h _ h' F' (by simpa using N') fun p hp => Nat.lt_succ_of_lt (Heap.lt_size (N p hp).1)) hs hg hsz
end
/-- a comprehension's turn that makes nothing -/
theorem comp_same {h₀ h9 : Heap} {L : Addr} {m : Str → Option Value} {s₁ : Shared} {I C D : Addr} {oI oC oD : Obj} {S : List (Addr × Obj) → Prop} {rest : Value → List (Addr × Obj) → Prop} {y : Value} {tk9 : Nat} {nw : List (Addr × Obj)}
    (F : Fr h₀ L h9 m) (N : News h₀ L h9 ((I, oI) :: (C, oC) :: (D, oD) :: nw)) (off : LCg.Off3 I C D nw) (hS : S nw) (r : rest y nw) : LCg.CompEnd h₀ L m s₁ I oI C oC D oD S rest y { s₁ with heap := h9, toks := tk9 } :=
  LCg.CompEnd.intro F N nw (fun _ hp => hp) off hS r
/-- an order, in a ledger, and its text -/
inductive OrdIn (led : List (Addr × Obj)) : Value → Str → Prop
  | one {o : Addr} {a : Str} {k0 : Tok} {n : Nat} : (o, tup [.str a k0] n) ∈ led → a.length ≤ 20 → OrdIn led (.ref o) (Txt.join (Str.ofString " ") [a])
  | two {o : Addr} {a b : Str} {k0 k1 : Tok} {n : Nat} : (o, tup [.str a k0, .str b k1] n) ∈ led → a.length ≤ 20 → b.length ≤ 20 → OrdIn led (.ref o) (Txt.join (Str.ofString " ") [a, b])
  | num {o : Addr} {a : Str} {k0 k1 : Tok} {n : Nat} : (o, tup [.str a k0, .int 7 k1] n) ∈ led → a.length ≤ 20 → OrdIn led (.ref o) (Txt.join (Str.ofString " ") [a, Str.ofString (toString (7 : Int))])
theorem OrdIn.mono {led led' : List (Addr × Obj)} {v : Value} {x : Str} (h : OrdIn led v x) (s : ∀ p ∈ led, p ∈ led') : OrdIn led' v x := by
  cases h with
  | one h a => exact .one (s _ h) a
  | two h a b => exact .two (s _ h) a b
  | num h a => exact .num (s _ h) a
abbrev showOut (x : Str) (_news _led : List (Addr × Obj)) (r : Value) : Prop := ∃ t, r = .str x t
theorem len7 : (Str.ofString (toString (7 : Int))).length = 1 := by decide +kernel
section
open PySem.Calls
variable {prog : Program} {w : World} {A : Around} {E : Value → Shared → Prop} {s : Shared} {h₀ h : Heap} {L D b : Addr} {m : Str → Option Value} {news news' : List (Addr × Obj)} {vs ws : List Value} {n n2 : Nat} {x : Value} {Q : Value → Shared → Prop}
theorem app_K (F : Fr h₀ L s.heap m) (N : News h₀ L s.heap news) (U : Upd D (listOf vs.toArray n) (listOf (List.toArray (vs ++ [x])) (n + 1)) news news') (hz : vs.length ≤ 1000)
    (h : ∀ h', Fr h₀ L h' m → News h₀ L h' news' → Q .none { s with heap := h' }) : wpAny (model prog w) A (call (.builtin "list.append") [.ref D, x]) Q E s := by
  have e : vs.toArray.push x = List.toArray (vs ++ [x]) := by simp
  exact append_K (its := vs.toArray) (n := n) F N (by rw [e]; exact U) h (by rw [sizeLine_eq, List.size_toArray]; omega)
theorem ext_K (F : Fr h₀ L s.heap m) (N : News h₀ L s.heap news) (hb : (b, listOf ws.toArray n2) ∈ news) (hne : ws.length ≠ 0)
    (U : Upd D (listOf vs.toArray n) (listOf (List.toArray (vs ++ ws)) (n + 1)) news news') (hz : vs.length ≤ 1000) (hy : ws.length ≤ 100)
    (h : ∀ h', Fr h₀ L h' m → News h₀ L h' news' → Q .none { s with heap := h' }) : wpAny (model prog w) A (call (.builtin "list.extend") [.ref D, .ref b]) Q E s := by
  refine kl_extend (its := vs.toArray) (its2 := ws.toArray) F N hb (by simp) (by simpa using hne) U ?_ (by rw [sizeLine_eq]; simp; omega) (by rw [sizeLine_eq]; simp; omega) h
  have : Builtin.List.listTooLong (vs.toArray.size + ws.toArray.size) = false := by
    unfold Builtin.List.listTooLong
    rw [sizeLine_eq]
    simp
    omega
  rw [this]; simp
theorem ext_K0 (F : Fr h₀ L s.heap m) (N : News h₀ L s.heap news) (hb : (b, listOf #[] n2) ∈ news)
    (U : Upd D (listOf vs.toArray n) (listOf vs.toArray n) news news') (hz : vs.length ≤ 1000)
    (h : ∀ h', Fr h₀ L h' m → News h₀ L h' news' → Q .none { s with heap := h' }) : wpAny (model prog w) A (call (.builtin "list.extend") [.ref D, .ref b]) Q E s := by
  refine kxn_extend (its := vs.toArray) (its2 := #[]) F N hb rfl U ?_ (by rw [sizeLine_eq]; simp; omega) (by rw [sizeLine_eq]; simp; omega) h
  have : Builtin.List.listTooLong (vs.toArray.size + (#[] : Array Value).size) = false := by
    unfold Builtin.List.listTooLong
    rw [sizeLine_eq]
    simp
    omega
  rw [this]; simp
end
theorem news_sub {h₀ h : Heap} {L : Addr} {l l' : List (Addr × Obj)} (N : News h₀ L h l') (s : ∀ p ∈ l, p ∈ l') : News h₀ L h l := fun p hp => N p (s p hp)
/-- the head of a statement's rows -/
def headS (i : Nat) (lb : Lb) : Str := Str.ofString (toString (i : Int)) ++ (match lb with | .l1 => Str.ofString " " ++ Str.ofString "L1" | .l2 => Str.ofString " " ++ Str.ofString "L2" | _ => Str.ofString "") ++ Str.ofString ":"
def rowsAll : Nat → List Row → List Str
  | _, [] => []
  | i, r :: rs => headS i r.lb :: tell r.form r.x ++ rowsAll (i + 1) rs
theorem rowsAll_snoc : ∀ (i : Nat) (rs : List Row) (r : Row), rowsAll i (rs ++ [r]) = rowsAll i rs ++ (headS (i + rs.length) r.lb :: tell r.form r.x)
  | i, [], r => by simp [rowsAll]
  | i, a :: rs, r => by
    simp only [List.cons_append, rowsAll, rowsAll_snoc (i + 1) rs r, List.length_cons, List.append_assoc]
    rw [show i + 1 + rs.length = i + (rs.length + 1) by omega]
theorem rowsAll_take {ds : List Row} {i : Nat} {r : Row} (h : ds[i]? = some r) : rowsAll 0 (ds.take (i + 1)) = rowsAll 0 (ds.take i) ++ (headS i r.lb :: tell r.form r.x) := by
  rw [take_snoc h, rowsAll_snoc]
  have := (List.getElem?_eq_some_iff.mp h).1
  rw [show 0 + (ds.take i).length = i by rw [List.length_take]; omega]
theorem jn (l : List Str) : Txt.join (Str.ofString " ") l = Str.join (Str.ofString " ") l := eq_of_beq (join_plain_closes _ _)
theorem OrdIn.len {led : List (Addr × Obj)} {v : Value} {x : Str} (h : OrdIn led v x) : x.length ≤ 60 := by
  have h1 : (Str.ofString " ").length = 1 := by decide +kernel
  have h7 := len7
  cases h with
  | one _ a => rw [jn]; simp only [Str.join]; omega
  | two _ a b => rw [jn]; simp only [Str.join, PySem.Str.length_append]; omega
  | num _ a => rw [jn]; simp only [Str.join, PySem.Str.length_append]; omega
theorem head_len {i : Nat} (h : i < 10) : (Str.ofString (toString (i : Int))).length = 1 := by
  match i, h with
  | 0, _ => decide +kernel
  | 1, _ => decide +kernel
  | 2, _ => decide +kernel
  | 3, _ => decide +kernel
  | 4, _ => decide +kernel
  | 5, _ => decide +kernel
  | 6, _ => decide +kernel
  | 7, _ => decide +kernel
  | 8, _ => decide +kernel
  | 9, _ => decide +kernel
theorem joins2 (p a b : Str) : p ++ Txt.join (Str.ofString " ") [a, b] = p ++ (a ++ Str.ofString " " ++ b) := by rw [jn]; rfl
theorem joins1 (p a : Str) : p ++ Txt.join (Str.ofString " ") [a] = p ++ a := by rw [jn]; rfl
theorem datStr {led : List (Addr × Obj)} {x y : Str} {t : Tok} (h : x = y) : DatIn led (.str x t) (.str y) := by subst h; constructor
section
variable {M : Model} {A : Around} {E : Value → Shared → Prop} {s : Shared} {env : Env} {h₀ : Heap} {L D : Addr} {m : Str → Option Value} {st : Stmt} {rest : List Stmt} {Q : Flow → Shared → Prop} {e1 e2 : Addr × Obj} {o0 : Obj} {news : List (Addr × Obj)}
/-- behind a statement: the frame, and the ledger that it leaves -/
def Staged (h₀ : Heap) (L : Addr) (m : Str → Option Value) (g : Tok → List (Addr × Obj)) (s : Shared) (f : Flow) (s₂ : Shared) : Prop := f = .next ∧ ∃ h tk t, s₂ = { s with heap := h, toks := tk } ∧ Fr h₀ L h m ∧ News h₀ L h (g t)
theorem staged {g : Tok → List (Addr × Obj)} {h : Heap} {tk : Nat} (k : Fr h₀ L h m ∧ ∃ t, News h₀ L h (g t)) : Staged h₀ L m g s .next { s with heap := h, toks := tk } := by
  obtain ⟨F, t, N⟩ := k
  exact ⟨rfl, h, tk, t, rfl, F, N⟩
theorem stageG (g : Tok → List (Addr × Obj)) (h1 : wpAny M A (exec st env) (Staged h₀ L m g s) E s)
    (h2 : ∀ h tk t, Fr h₀ L h m → News h₀ L h (g t) → wpAny M A (execs rest env) Q E { s with heap := h, toks := tk }) : wpAny M A (execs (st :: rest) env) Q E s := by
  refine wpAny_execs_cons (wpAny_mono h1 (fun f s₂ k => ?_) fun _ _ e => e)
  obtain ⟨rfl, h, tk, t, rfl, F, N⟩ := k
  exact h2 h tk t F N
theorem stageF (o : Tok → Obj) (_F : Fr h₀ L s.heap m) (_N : News h₀ L s.heap (e1 :: e2 :: (D, o0) :: news))
    (h1 : wpAny M A (exec st env) (Staged h₀ L m (fun t => e1 :: e2 :: (D, o t) :: news) s) E s)
    (h2 : ∀ h tk t, Fr h₀ L h m → News h₀ L h (e1 :: e2 :: (D, o t) :: news) → wpAny M A (execs rest env) Q E { s with heap := h, toks := tk }) : wpAny M A (execs (st :: rest) env) Q E s := stageG _ h1 h2
end
theorem joinsX {p a q : Str} (x : Str) (h : p ++ (a ++ Str.ofString " ") = q) : p ++ Txt.join (Str.ofString " ") [a, x] = q ++ x := by
  rw [jn, ← h]
  show p ++ (a ++ Str.ofString " " ++ x) = p ++ (a ++ Str.ofString " ") ++ x
  rw [PySem.Str.append_assoc p]
theorem joinsA {p a q : Str} (h : p ++ a = q) : p ++ Txt.join (Str.ofString " ") [a] = q := by rw [jn]; exact h
theorem joinsB {p a b q : Str} (h : p ++ (a ++ Str.ofString " " ++ b) = q) : p ++ Txt.join (Str.ofString " ") [a, b] = q := by rw [jn]; exact h
theorem tell0 (x : Str) : tell 0 x = [Str.ofString "  VAR " ++ x, Str.ofString "  DROP"] := rfl
theorem tell1 (x : Str) : tell 1 x = [Str.ofString "  REF " ++ x, Str.ofString "  PUSH t", Str.ofString "  ASSIGN", Str.ofString "  F LABEL L9"] := rfl
theorem tell2 (x : Str) : tell 2 x = [Str.ofString "  VAR " ++ x, Str.ofString "  PUSH 7", Str.ofString "  MATCH", Str.ofString "  S VAR C", Str.ofString "  S TO CODE"] := rfl
theorem tell3 (x : Str) : tell 3 x = [Str.ofString "  S VAR " ++ x, Str.ofString "  S TO", Str.ofString "  F VAR " ++ x, Str.ofString "  F TO"] := rfl
theorem rows_end {rvs zs : List Value} {old new add : List Str} (h : DatAll [] rvs (old.map .str)) (e : new = old ++ add) (k : DatAll [] zs (add.map .str)) : DatAll [] (rvs ++ zs) (new.map .str) := by
  rw [e, List.map_append]; exact h.append k
/-- the rows that show_unit hands back -/
abbrev showuOut (ds : List Row) (_news led : List (Addr × Obj)) (r : Value) : Prop := ∃ (la : Addr) (rvs : List Value) (nr : Nat), r = .ref la ∧ (la, listOf (List.toArray rvs) nr) ∈ led ∧ DatAll [] rvs ((rowsAll 0 ds).map .str)
theorem len_end {rvs : List Value} (h : rvs.length ≤ 400) : rvs.length ≤ 1000 := Nat.le_trans h (by decide)
theorem len_grow {rvs zs : List Value} (h : rvs.length ≤ 400) (k : zs.length ≤ 600) : (rvs ++ zs).length ≤ 1000 := by rw [List.length_append]; omega
theorem unr_end2s {h₀ : Heap} {L D : Addr} {o : Obj} {s₁ : Shared} {e1 e2 : Addr × Obj} {rest : (Str → Option Value) → List (Addr × Obj) → Prop} {h' : Heap} {tk : Nat} {m' : Str → Option Value} {news l' : List (Addr × Obj)}
    (F : Fr h₀ L h' m') (N : News h₀ L h' l') (m1 : e1 ∈ l') (m2 : e2 ∈ l') (m3 : (D, o) ∈ l') (m4 : ∀ p ∈ news, p ∈ l') (off : ∀ p ∈ (D, o) :: news, p.1 ≠ e2.1 ∧ p.1 ≠ e1.1) (r : rest m' ((D, o) :: news)) : UnrEndW h₀ L s₁ [e1, e2] rest { s₁ with heap := h', toks := tk } :=
  unr_end2 F (nw := (D, o) :: news) (news_sub N (fun p hp => by
    rcases List.mem_cons.mp hp with rfl | hp
    · exact m1
    rcases List.mem_cons.mp hp with rfl | hp
    · exact m2
    rcases List.mem_cons.mp hp with rfl | hp
    · exact m3
    · exact m4 p hp)) off r
/-- where the walk is to stop -/
def Stop (P : Prop) : Prop := P
theorem stop_here {P : Prop} (h : Stop P) : P := h
theorem Stop.on {P : Prop} (h : P) : Stop P := h
/-- the law's body and scope -/
noncomputable def lawD.body : List Stmt := by
  refine' (?f : ∀ {s0 s1 s2 s3 s4 s5 s6 s7 s8 s9 s10 s11 s12 s13 s14 s15 s16 s17 s18 s19 s20 s21 s22 : Stmt} {n : Str} {p : Arguments} {b : List Stmt} {d : List Expr} {r : Option Expr} {t : List TypeParam} {c : Scope} {o : Option Scope} {q : Str} {z : Pos}, (OpenRow.toRowW (OpenLaw.row PySem.Challenge.rw_pq1123_01)).1.main.body = [s0, s1, s2, s3, s4, s5, s6, s7, s8, s9, s10, s11, s12, s13, s14, s15, s16, s17, s18, s19, s20, s21, s22, .FunctionDef n p b d r t c o q z] → List Stmt) rfl
  exact fun {s0} {s1} {s2} {s3} {s4} {s5} {s6} {s7} {s8} {s9} {s10} {s11} {s12} {s13} {s14} {s15} {s16} {s17} {s18} {s19} {s20} {s21} {s22} {n} {p} {b} {d} {r} {t} {c} {o} {q} {z} _ => b
noncomputable def lawD.scope : Scope := by
  refine' (?f : ∀ {s0 s1 s2 s3 s4 s5 s6 s7 s8 s9 s10 s11 s12 s13 s14 s15 s16 s17 s18 s19 s20 s21 s22 : Stmt} {n : Str} {p : Arguments} {b : List Stmt} {d : List Expr} {r : Option Expr} {t : List TypeParam} {c : Scope} {o : Option Scope} {q : Str} {z : Pos}, (OpenRow.toRowW (OpenLaw.row PySem.Challenge.rw_pq1123_01)).1.main.body = [s0, s1, s2, s3, s4, s5, s6, s7, s8, s9, s10, s11, s12, s13, s14, s15, s16, s17, s18, s19, s20, s21, s22, .FunctionDef n p b d r t c o q z] → Scope) rfl
  exact fun {s0} {s1} {s2} {s3} {s4} {s5} {s6} {s7} {s8} {s9} {s10} {s11} {s12} {s13} {s14} {s15} {s16} {s17} {s18} {s19} {s20} {s21} {s22} {n} {p} {b} {d} {r} {t} {c} {o} {q} {z} _ => c
noncomputable def lawD.turn : List Stmt := by
  refine' (?f : ∀ {s0 s1 : Stmt} {x i : Expr} {b e : List Stmt} {p : Pos} {r : List Stmt}, lawD.body = s0 :: s1 :: .For x i b e p :: r → List Stmt) rfl
  exact fun {s0} {s1} {x} {i} {b} {e} {p} {r} _ => b
-- our own lines for the walk (local)
local macro_rules | `(tactic| ktr_room) => `(tactic| first | exact rm1 (by assumption) rfl | exact rm2 (by assumption) rfl | exact rm3 (by assumption) rfl | exact rm4 (by assumption) rfl | exact rm5 (by assumption) rfl)
local macro_rules | `(tactic| ktr_units) => `(tactic| ktr_room)
local macro_rules | `(tactic| k_room) => `(tactic| ktr_room)
local macro_rules | `(tactic| k_units) => `(tactic| ktr_units)
-- membership in a ledger, written in part
local macro_rules | `(tactic| tb_rel) => `(tactic| first
  | exact List.Mem.head _
  | (refine' List.Mem.tail _ ?_; tb_rel)
  | assumption
  | (refine List.mem_append_left _ ?_; tb_rel)
  | (refine List.mem_append_right _ ?_; tb_rel))
local macro_rules | `(tactic| k_mem) => `(tactic| tb_rel)
local macro_rules | `(tactic| walk_at "getAttr ref") => `(tactic| (k_here; k_dflt (refine' get_own ?k1 ?k2 ?k3 ?k4 ?k5 ?k6 ?k7 ?k8 ?k9 ?_; (case k1 => k_asm); (case k2 => k_asm); (case k3 => k_inst); (case k4 => k_is); (case k5 => k_is); (case k6 => k_is); (case k7 => k_is); (case k8 => k_get); (case k9 => first | k_handed | assumption); k_whole)))
local macro_rules | `(tactic| walk_at "subscriptTail Name Constant ref int") => `(tactic| (k_here; k_dflt (refine' item_tupleT ?t ?a ?b ?c ?d ?_; (case t => exact News.isTup (by k_asm) (by k_mem)); (case a => decide); (case b => decide); (case c => rfl); (case d => rfl); k_whole)))
local macro_rules | `(tactic| walk_at "ite") => `(tactic| first | refine iteT (by decide +kernel) ?_ | refine iteF (by decide +kernel) ?_ | refine iteT (by with_reducible_and_instances rfl) ?_ | k_dflt (refine iteF (by rfl) ?_) | k_dflt (refine iteT (by rfl) ?_))
local macro_rules | `(tactic| walk_at "FinE") => `(tactic| ((unfold LCg.FinE); intro D' h' tk' F' N' o1'; (have o2' := o1'); (try simp only [LCg.Off1, and_true] at o1'); (repeat (obtain ⟨_, o1'⟩ := o1')); (try simp only [List.nil_append, List.cons_append] at N'); (try dsimp only)))
local macro_rules | `(tactic| walk_at "FinA") => `(tactic| ((unfold LCg.FinA); intro D' h' tk' F' N' o1'; (have o2' := o1'); (try simp only [LCg.Off1, and_true] at o1'); (repeat (obtain ⟨_, o1'⟩ := o1')); (try simp only [List.nil_append, List.cons_append] at N'); (try dsimp only)))
-- the ledger's rest, what was made (Made)
local macro_rules | `(tactic| tbn_conj) => `(tactic| first
  | exact ne_lt (by tbn_find)
  | exact ne_lt (allLt_of (by assumption))
  | exact ne_ltl (by tbn_find)
  | exact ne_ltl (allLt_of (by assumption))
  | exact ne_off (by assumption)
  | exact ne_offl (by assumption)
  | exact ne_offS (by assumption) (by intro p hp; tb_rel)
  | (refine' ne_up ?h ?k; (case k => first | exact allLt_of (by assumption) | tbn_find); (case h => omega))
  | (refine' ne_upl ?h ?k; (case k => first | exact allLt_of (by assumption) | tbn_find); (case h => omega)))
local macro_rules | `(tactic| ktr_unf) => `(tactic| first
  | exact Made.nil
  | (refine' Made.app ?_; assumption)
  | (refine' Made.cons ?a ?b; (case a => tbn_conj); (case b => ktr_unf)))
-- a contract's end
local macro_rules | `(tactic| tb_start) => `(tactic| (refine' con_ret ?R ?F ?N ?M ?O; (case R => assumption); (case F => k_asm); (case N => k_asm); (case M => ktr_unf)))
-- two addresses apart, as it stands
local macro_rules | `(tactic| k_ne) => `(tactic| with_reducible first
  | exact Ne.symm (by assumption)
  | assumption
  | exact na0 (by assumption)
  | exact nb0 (by assumption)
  | exact na1 (by assumption)
  | exact nb1 (by assumption)
  | exact na2 (by assumption)
  | exact nb2 (by assumption)
  | exact na3 (by assumption)
  | exact nb3 (by assumption)
  | exact na4 (by assumption)
  | exact nb4 (by assumption)
  | exact na5 (by assumption)
  | exact nb5 (by assumption)
  | exact na6 (by assumption)
  | exact nb6 (by assumption)
  | exact na7 (by assumption)
  | exact nb7 (by assumption)
  | exact na8 (by assumption)
  | exact nb8 (by assumption)
  | exact na9 (by assumption)
  | exact nb9 (by assumption)
  | exact na10 (by assumption)
  | exact nb10 (by assumption))
local macro_rules | `(tactic| k_all) => `(tactic| first | assumption | exact ne_lt (allLt_of (by assumption)))
local macro_rules | `(tactic| k_lt $h:ident) => `(tactic| (replace $h := allLt_of $h; dsimp only [AllLt] at $h:ident))
-- the walk, with the tokens' count taken away where it grew
local macro_rules | `(tactic| k_steps) => `(tactic| repeat' (first | (k_unfold; (try dsimp only)) | (k_end; wrow_close) | with_reducible refine gtk2 ?_ | (with_reducible (refine gtkl ?_); intro tkg) | walk1 | (dsimp only; walk1) | (leave1; walk_say "STEP leave1"; try dsimp only) | fail "no step"))

section
abbrev exc0 (t : Addr) : Obj := { cls := .ref 34, data := .fields #[.ref t, .none, .none, .none, .bool false, .none] }
section
open PySem.Calls
variable {prog : Program} {w : World} {A : Around} {E : Value → Shared → Prop} {s : Shared} {h₀ : Heap} {L : Addr} {m : Str → Option Value} {news : List (Addr × Obj)} {Q : Value → Shared → Prop}
theorem snob_ns {h : Heap} (X : (hd.heap_39 w.params).In h) : ∃ mN, h.Ns 33 mN ∧ mN (Str.ofString "__init__") = some (.ref 31) := by
  refine ⟨_, .of_isNs (isNs_of_in X (by kernel_rfl)), ?_⟩
  unfold Heap.nsMap
  rw [X 33 _ rfl]
  rfl
theorem snob_call {rest : List Value} (X : (hd.heap_39 w.params).In s.heap) (hl : rest.length ≤ 10) (hq : ∀ h' e, Heap.MadeExcOf s.heap h' e (.ref 34) rest → wpAny (model prog w) (A.under (.builtin "type.__call__" ⟨.ref 34 :: rest, []⟩)) (call (.ref 31) (.ref e :: rest)) (fun r s' => r = .none ∧ Q (.ref e) s') E { s with heap := h' }) :
    wpAny (model prog w) A (call (.ref 34) rest) Q E s := by
  obtain ⟨h, g, d, t, os⟩ := s
  obtain ⟨mN, hn, hi⟩ := snob_ns X
  refine wpAny_call_exc_init (fI := 31) F.excBase_Exception (X 34 _ rfl) hn hi (X 31 _ rfl) rfl hq (by rw [sizeLine_eq]; omega)
theorem snob_K {rest : List Value} (F : Fr h₀ L s.heap m) (X : (hd.heap_39 w.params).In h₀) (N : News h₀ L s.heap news) (hl : rest.length ≤ 10)
    (hq : ∀ e t h', Fr h₀ L h' m → News h₀ L h' ((e, exc0 t) :: (t, tup rest 0) :: news) → (@Ne Nat t e) → (∀ p ∈ news, p.1 ≠ e) → (∀ p ∈ news, p.1 ≠ t) → wpAny (model prog w) (A.under (.builtin "type.__call__" ⟨.ref 34 :: rest, []⟩)) (call (.ref 31) (.ref e :: rest)) (fun r s' => r = .none ∧ Q (.ref e) s') E { s with heap := h' }) :
    wpAny (model prog w) A (call (.ref 34) rest) Q E s := by
  refine snob_call (X.keeps F.keep) hl fun h' e hm => ?_
  obtain ⟨k, en, t, he, tn, ht⟩ := hm
  have F' : Fr h₀ L h' m := F.keeps k
  have N' := N.grown k
  have e0 : h₀.get? e = none := by
    cases q : h₀.get? e with
    | none => rfl
    | some o => have := F.keep _ _ q; rw [en] at this; cases this
  have t0 : h₀.get? t = none := by
    cases q : h₀.get? t with
    | none => rfl
    | some o => have := F.keep _ _ q; rw [tn] at this; cases this
  obtain ⟨oL, _, _, hL, _⟩ := F.ns
  refine hq e t h' F' ?_ ?_ ?_ ?_
  · intro p hp
    rcases List.mem_cons.mp hp with rfl | hp
    · exact ⟨he, fun q => by (dsimp only at q; rw [q, hL] at en; cases en), e0⟩
    · rcases List.mem_cons.mp hp with rfl | hp
      · exact ⟨ht, fun q => by (dsimp only at q; rw [q, hL] at tn; cases tn), t0⟩
      · exact N' p hp
  · intro q
    rw [q, he] at ht
    cases ht
  · intro p hp q
    have := (N p hp).1
    rw [q, en] at this
    cases this
  · intro p hp q
    have := (N p hp).1
    rw [q, tn] at this
    cases this
end
abbrev excD (t d : Addr) : Obj := { cls := .ref 34, dict := some d, data := .fields #[.ref t, .none, .none, .none, .bool false, .none] }
section
open PySem.Calls
variable {prog : Program} {w : World} {A : Around} {E : Value → Shared → Prop} {s : Shared} {env : Env} {Q : Flow → Shared → Prop}
theorem excCls {h : Heap} (X : (hd.heap_39 w.params).In h) : h.get? 34 = some (excClassObj (Str.ofString "SnobolError") (Str.ofString "SnobolError") 34 33 [.type "Exception"] [.type "Exception", .type "BaseException", .type "object"] true [] [] false none none (some (.ref 15)) none (some (.str (Str.ofString "SnobolError") 189)) (some (.str (Str.ofString "SnobolError") 197)) (some (.bool true)) "Exception.__new__") := X 34 _ rfl
theorem raise_D {x : Expr} {pos : Pos} (hh : A.handled = none)
    (h : wpAny (model prog w) A (eval x env) (fun v s₁ => ∃ e t d, v = .ref e ∧ (hd.heap_39 w.params).In s₁.heap ∧ s₁.heap.get? e = some (excD t d) ∧ E (.ref e) s₁) E s) :
    wpAny (model prog w) A (exec (.Raise (some x) none pos) env) Q E s := by
  rw [arm_exec_Raise]
  refine wpAny_bind (wpAny_standAt ?_)
  show wpAny _ _ (raiseStmt env (some (do let v ← eval x env; standAt pos; pure v)) none) _ _ _
  unfold raiseStmt
  refine wpAny_bind (wpAny_bind (wpAny_mono h (fun v s₁ h₁ => wpAny_bind (wpAny_standAt (wpAny_pure ?_))) fun _ _ x => x))
  obtain ⟨e, t, d, rfl, X, he, hE⟩ := h₁
  have hC := excCls X
  have hcB : (Value.ref 34 :: [Value.type "Exception", .type "BaseException", .type "object"]).contains (.type "BaseException") = true := by decide +kernel
  obtain ⟨hp, g, dr, tk, os⟩ := s₁
  repeat (first | with_reducible refine wpAny_loadPart_at he ?_ | with_reducible refine wpAny_loadPart_at hC ?_ | (with_reducible refine wpAny_isSubtype_exc hC ?_; rw [hcB]) | wp_step)
  exact wpAny_raiseNew_none hh hE
end

end

section
set_option maxHeartbeats 400000
abbrev mwObj (e : Addr) : Obj := { cls := .type "method-wrapper", data := .fields #[.builtin "Exception.__init__", .ref e] }
theorem wd_slot : Slot "wrapper_descriptor" "__get__" "wrapper_descriptor.__get__" :=
  .of (owner := "wrapper_descriptor") (n := "__get__") (by rw [typeLookup_type, builtinLookup_eq_fast]; kernel_rfl) (by decide +kernel) (by decide +kernel) (by decide +kernel)
    (by first | exact .inl (by decide +kernel) | exact .inr (by decide +kernel)) (by rw [isSubtype_type]; kernel_rfl)
theorem wd_entry : entryFor table "wrapper_descriptor.__get__" = some Builtin.«wrapper_descriptor.__get__» := entryFor_of_tree (by kernel_rfl)
theorem wd_args (a b c : Value) : argsOk "wrapper_descriptor.__get__" ⟨[a, b, c], []⟩ := by unfold argsOk; kernel_rfl
theorem ei_type : typeOf (.builtin "Exception.__init__") = pure (.type "wrapper_descriptor") := by show builtinType _ = _; rw [builtinType_eq_fast]; kernel_rfl
theorem ei_own : fastBuiltinOwn "Exception" (Str.ofString "__init__") = some (.builtin "Exception.__init__") := by kernel_rfl
section
open PySem.Calls
variable {prog : Program} {w : World} {M : Model} {A : Around} {E : Value → Shared → Prop} {h : Heap} {g : Array GenState} {d : Drawn} {t : Nat} {os : OsState}
theorem wd_run {e : Addr} {oe : Obj} {P : Fin → Shared → Prop} (X : (hd.heap_39 w.params).In h) (he : h.get? e = some oe) (hc : oe.cls = .ref 34)
    (k : P (.done (.ret (.ref h.objs.size))) ⟨h.push (mwObj e), g, d, t, os⟩) : wpAny M A (Builtin.«wrapper_descriptor.__get__» ⟨[.builtin "Exception.__init__", .ref e, .ref 34], []⟩) P E ⟨h, g, d, t, os⟩ := by
  have hC := excCls X
  have hcB : (Value.ref 34 :: [Value.type "Exception", .type "BaseException", .type "object"]).contains (.type "Exception") = true := by decide +kernel
  unfold Builtin.«wrapper_descriptor.__get__»
  refine wpAny_bind (wpAny_of_eq (a := (.builtin "Exception.__init__", some (.ref e), some (.ref 34))) (by first | rfl | kernel_rfl) ?_)
  refine wpAny_bind (wpAny_bind (wpAny_of_eq (a := (Str.ofString "__init__", .type "Exception")) (by first | rfl | kernel_rfl) ?_))
  dsimp only
  unfold isInstance
  repeat (first | (with_reducible refine wpAny_loadPart_at he ?_; rw [hc]) | (with_reducible refine wpAny_isSubtype_exc hC ?_; rw [hcB]) | wp_step)
  exact k
theorem sup_run {so e : Addr} {oe : Obj} {tk : Tok} {P : Fin → Shared → Prop} (X : (hd.heap_39 w.params).In h) (hso : h.get? so = some (ks_superObj 34 e 34)) (he : h.get? e = some oe) (hc : oe.cls = .ref 34) (ne : (e == (34 : Addr)) = false)
    (k : P (.done (.ret (.ref h.objs.size))) ⟨h.push (mwObj e), g, d, t, os⟩) : wpAny (model prog w) A (Builtin.«super.__getattribute__» ⟨[.ref so, .str (Str.ofString "__init__") tk], []⟩) P E ⟨h, g, d, t, os⟩ := by
  have hC := excCls X
  have hno : Looks (model prog w) h (opaqueClassAbove (.ref 34)) none := looks_opaque X (by rfl)
  have hlk := wd_slot.lookup
  have hne : (Value.ref e == Value.ref 34) = false := by simp at ne ⊢; exact ne
  have hdt : (ks_superObj 34 e 34).data = .fields #[.ref 34, .ref e, .ref 34] := rfl
  have f0 : (#[.ref 34, .ref e, .ref 34] : Array Value)[0]? = some (.ref 34) := rfl
  have f1 : (#[.ref 34, .ref e, .ref 34] : Array Value)[1]? = some (.ref e) := rfl
  have f2 : (#[.ref 34, .ref e, .ref 34] : Array Value)[2]? = some (.ref 34) := rfl
  have hl : (([Value.ref 34, Value.type "Exception", Value.type "BaseException", Value.type "object"]).dropWhile (· != Value.ref 34)).drop 1 = [Value.type "Exception", Value.type "BaseException", Value.type "object"] := by rfl
  have hf : alongIn (hd.heap_39 w.params) (Str.ofString "__init__") [.type "Exception", .type "BaseException", .type "object"] = some (some (.builtin "Exception.__init__")) := by
    simp only [alongIn, ownIn, ei_own]
  unfold Builtin.«super.__getattribute__»
  repeat (first
    | (with_reducible refine wpAny_field hso hdt f0 ?_) | (with_reducible refine wpAny_field hso hdt f1 ?_) | (with_reducible refine wpAny_field hso hdt f2 ?_)
    | (with_reducible refine ks_wpAny_notOpaque hno ?_)
    | (with_reducible refine wpAny_mroOf_exc hC ?_; rw [hl])
    | (with_reducible refine ks_forIn_along (K := hd.heap_39 w.params) (name := Str.ofString "__init__") (v := .builtin "Exception.__init__") X (fun _ _ => by rfl) (by rfl) ?_ hf)
    | (with_reducible refine wpAny_of_eq ei_type ?_)
    | (with_reducible refine wpAny_of_eq hlk ?_)
    | ((with_reducible show wpAny _ _ (call (Value.builtin "wrapper_descriptor.__get__") _) _ _ _); refine wpAny_call_entry wd_slot ei_type wd_entry ?_ (wd_args _ _ _))
    | (with_reducible refine wd_run X he hc ?_)
    | (with_reducible refine ⟨_, rfl, ?_⟩)
    | (simp only [hne, Bool.false_eq_true, if_false])
    | wp_step)
  exact k
theorem sup_getm {so e : Addr} {oe : Obj} {pl : Sem Bool} {Q : Value × List Value → Shared → Prop} (X : (hd.heap_39 w.params).In h) (hso : h.get? so = some (ks_superObj 34 e 34)) (he : h.get? e = some oe) (hc : oe.cls = .ref 34) (ne : (e == (34 : Addr)) = false)
    (hq : Q (.ref h.objs.size, []) ⟨h.push (mwObj e), g, d, t + 1, os⟩) : wpAny (model prog w) A (getMethod (.ref so) (Str.ofString "__init__") pl) Q E ⟨h, g, d, t, os⟩ := by
  have hT : ∀ t', (⟨h, g, d, t', os⟩ : Shared).TypeIs (.ref so) "super" := fun _ => ⟨_, hso, rfl⟩
  have hlk := F.ks_slot_super_ga.lookup
  unfold getMethod
  refine wpAny_bind (wpAny_specialOf (hT _) hlk ?_)
  dsimp only
  rw [if_pos F.ks_canon_super_ga]
  unfold getAttr getAttrBy
  refine wpAny_bind (wpAny_bind (wpAny_mkText (wpAny_holding (wpAny_bind (wpAny_typeOf (hT _) (wpAny_bind (wpAny_of_eq hlk ?_)))))))
  dsimp only
  unfold getAttrByItsOwn hookBefore callGetattribute boundAndCalled
  refine wpAny_bind (wpAny_of_eq (show (if onTheHeap (.type "super") then typeLookup (.type "super") "__getattr__" else pure none) = pure none from rfl) ?_)
  refine wpAny_bind (wpAny_attempt (wpAny_holding ?_))
  refine wpAny_bind (wpAny_of_eq (F.ks_slot_super_ga.bind _) ?_)
  refine wpAny_mono (Q := fun v s' => v = .ref h.objs.size ∧ s' = ⟨h.push (mwObj e), g, d, t + 1, os⟩) (E := fun _ _ => False)
    (wpAny_call_entry F.ks_slot_super_ga (hT _) F.ks_entry_super_ga (sup_run X hso he hc ne ⟨_, rfl, rfl, rfl⟩) (F.ks_gaArgs_super _ _)) (fun v s' hv => ?_) fun _ _ z => z.elim
  obtain ⟨rfl, rfl⟩ := hv
  exact wpAny_pure (wpAny_pure hq)
end

end

section
section
open PySem.Calls
variable {prog : Program} {w : World} {M : Model} {A : Around} {E : Value → Shared → Prop} {h : Heap} {g : Array GenState} {d : Drawn} {t : Nat} {os : OsState}
theorem ei_check {e t0 : Addr} {x : Value} {Q : Unit → Shared → Prop} (X : (hd.heap_39 w.params).In h) (he : h.get? e = some (exc0 t0)) (hq : Q () ⟨h, g, d, t, os⟩) :
    wpAny M A (checkBoundCall "Exception.__init__" ⟨[.ref e, x], []⟩) Q E ⟨h, g, d, t, os⟩ := by
  have hC := excCls X
  have FB := F.excBase_Exception
  have hcB : (Value.ref 34 :: [Value.type "Exception", .type "BaseException", .type "object"]).contains (.type "Exception") = true := by decide +kernel
  simp only [checkBoundCall, FB.initKind, FB.initRow]
  refine KFB.if_so (by decide) ?_
  unfold Bind.checkArgs
  repeat (first | (with_reducible refine wpAny_loadPart_at he ?_) | with_reducible refine wpAny_loadPart_at hC ?_ | (with_reducible refine wpAny_isSubtype_exc hC ?_; rw [hcB]) | wp_step)
  exact hq
theorem mw_call {u e t0 : Addr} {x : Value} {Q : Value → Shared → Prop} (X : (hd.heap_39 w.params).In h) (hu : h.get? u = some (mwObj e)) (he : h.get? e = some (exc0 t0))
    (k : Q .none ⟨(h.push (tup [x] 0)).update e (Obj.mapFields (·.setIfInBounds 0 (.ref h.objs.size))), g, d, t, os⟩) : wpAny (model prog w) A (call (.ref u) [x]) Q E ⟨h, g, d, t, os⟩ := by
  have hC := excCls X
  refine wpAny_call (codeAny_of_tree ?_)
  show wpAny _ A.in1 (callAny (.ref u) ⟨[x], []⟩) _ _ _
  simp only [callAny]
  refine wpAny_bind (wpAny_load hu ?_)
  simp only [show (Value.type "method-wrapper" == Value.type "method" || Value.type "method-wrapper" == Value.type "builtin_function_or_method" || Value.type "method-wrapper" == Value.type "method-wrapper") = true by decide, if_true]
  refine KFB.if_so (by decide) ?_
  refine wpAny_bind (ei_check X he ?_)
  refine wpAny_bind (wpAny_pure (wpAny_pure ?_))
  refine ⟨Code.quiet_builtin _ (by decide +kernel), codeAny_builtin F.excBase_Exception.initEntry ?_⟩
  wp_walk
  exact k
theorem mw_with {u e : Addr} {s : Shared} {pos : Pos} {first : List Value} {args : List (Bool × Sem Value)} {Q : Value → Shared → Prop} (hplain : args.any (·.1) = false)
    (h : wpAny M A (evalArgs (.ref u) true args []) (fun x s₁ => s₁.heap.get? u = some (mwObj e) ∧ wpAny M A (call (.ref u) (first ++ x.pos) x.kw) Q E s₁) E s) : wpAny M A (callWith pos (.ref u) first args []) Q E s := by
  unfold callWith
  refine wpAny_bind (wpAny_holding (wpAny_mono h (fun x s₁ h₁ => wpAny_bind (wpAny_standAt ?_)) fun _ _ x => x))
  obtain ⟨ho, hcall⟩ := h₁
  simp only [hplain, List.any_nil, Bool.or_false]
  refine wpAny_bind (m := keeperOf (.ref u)) ?_
  unfold keeperOf
  refine wpAny_bind (wpAny_load ho ?_)
  simp only [show (Value.type "method-wrapper" != Value.type "method") = true by decide, show (Value.type "method-wrapper" == Value.type "builtin_function_or_method" || Value.type "method-wrapper" == Value.type "method-wrapper") = true by decide, if_true]
  refine wpAny_pure ?_
  exact wpAny_bind (wpAny_mono hcall (fun r s₂ hr => wpAny_bind (wpAny_holding (wpAny_point (wpAny_pure hr)))) fun _ _ x => x)
theorem mw_withK {u x : Addr} {s : Shared} {h₀ : Heap} {L : Addr} {news : List (Addr × Obj)} {pos : Pos} {first : List Value} {env : Env} {e : Expr} {rest : List Expr} {Q : Value → Shared → Prop} (_N : News h₀ L s.heap news) (_hm : (u, mwObj x) ∈ news)
    (h : wpAny M A (spliced (backTo pos (starEach (e :: rest) env))) (fun vs s₁ => s₁.heap.get? u = some (mwObj x) ∧ wpAny M A (call (.ref u) (first ++ vs)) Q E s₁) E s)
    (he : starEach (e :: rest) env = (false, eval e env) :: starEach rest env := by rfl) (hplain : (backTo pos (starEach rest env)).any (·.1) = false := by rfl) :
    wpAny M A (callWith pos (.ref u) first (backTo pos (starEach (e :: rest) env)) []) Q E s := by
  rw [he] at h ⊢
  exact mw_with (e := x) (by show (false || (backTo pos (starEach rest env)).any (·.1)) = false; rw [hplain]; rfl) (evalArgs_plain h)
theorem sup_K {so e t0 : Addr} {s : Shared} {h₀ : Heap} {L : Addr} {m : Str → Option Value} {news : List (Addr × Obj)} {pl : Sem Bool} {Q : Value × List Value → Shared → Prop} (F : Fr h₀ L s.heap m) (X₀ : (hd.heap_39 w.params).In h₀) (N : News h₀ L s.heap news) (hso : (so, ks_superObj 34 e 34) ∈ news) (he : (e, exc0 t0) ∈ news)
    (k : ∀ u h', Fr h₀ L h' m → News h₀ L h' ((u, mwObj e) :: news) → (∀ p ∈ news, p.1 < u) → Q (.ref u, []) { s with heap := h', toks := s.toks + 1 }) : wpAny (model prog w) A (getMethod (.ref so) (Str.ofString "__init__") pl) Q E s := by
  obtain ⟨h, g, d, t, os⟩ := s
  have X := X₀.keeps F.keep
  have e34 : (e == (34 : Addr)) = false := by
    have := (N _ he).1
    have hC := excCls X
    cases q : (e == (34 : Addr))
    · rfl
    · rw [beq_iff_eq.mp q, hC] at this; cases this
  refine sup_getm X (N _ hso).1 (N _ he).1 rfl e34 ?_
  exact k _ _ (F.push _) (News.push F N _) fun p hp => Heap.lt_size (N p hp).1
theorem mw_K {u e t0 : Addr} {x : Value} {s : Shared} {h₀ : Heap} {L : Addr} {m : Str → Option Value} {news : List (Addr × Obj)} {up : Obj → List (Addr × Obj)} {Q : Value → Shared → Prop} (F : Fr h₀ L s.heap m) (X₀ : (hd.heap_39 w.params).In h₀) (N : News h₀ L s.heap news) (hu : (u, mwObj e) ∈ news)
    (U : UpdF e (exc0 t0) news up)
    (k : ∀ t1 h', Fr h₀ L h' m → News h₀ L h' ((t1, tup [x] 0) :: up (exc0 t1)) → (∀ p ∈ news, p.1 < t1) → Q .none { s with heap := h' }) : wpAny (model prog w) A (call (.ref u) [x]) Q E s := by
  obtain ⟨h, g, d, t, os⟩ := s
  obtain ⟨pre, post, rfl, hup, a, c⟩ := U.split
  have X := X₀.keeps F.keep
  have he := N (e, exc0 t0) (List.mem_append.mpr (.inr (.head _)))
  refine mw_call X (N _ hu).1 he.1 ?_
  have F1 : Fr h₀ L (h.push (tup [x] 0)) m := F.push _
  have N1 := News.push F N (tup [x] 0)
  have e1 : (h.push (tup [x] 0)).get? e = some (exc0 t0) := Heap.get?_push_of_some _ he.1
  have hs : Heap.SameBut e (h.push (tup [x] 0)) ((h.push (tup [x] 0)).update e (Obj.mapFields (·.setIfInBounds 0 (.ref h.objs.size)))) := Heap.SameBut.update ..
  refine k h.objs.size _ (F1.change hs he.2.1 he.2.2) ?_ (fun p hp => Heap.lt_size (N p hp).1)
  rw [hup]
  have e2 : ((h.push (tup [x] 0)).update e (Obj.mapFields (·.setIfInBounds 0 (.ref h.objs.size)))).get? e = some (exc0 h.objs.size) := by
    rw [Heap.get?_update_self _ e1 rfl]; rfl
  exact news_set (pre := (h.objs.size, tup [x] 0) :: pre) (o := exc0 t0) N1 (fun p hp => by
    rcases List.mem_cons.mp hp with rfl | hp
    · exact Nat.ne_of_gt (Heap.lt_size he.1)
    · exact a p hp) c hs e2
end

end

section
/-- a dict object, by its names -/
def NsO (o : Obj) (m : Str → Option Value) : Prop := ∀ h : Heap, ∀ a, h.get? a = some o → h.Ns1 a m
theorem NsO.of {h : Heap} {a : Addr} {o : Obj} {m : Str → Option Value} (e : h.get? a = some o) (x : h.Ns1 a m) : NsO o m := by
  obtain ⟨o', es, ep, e1, r⟩ := x
  rw [e] at e1
  cases e1
  exact fun h' a' e' => ⟨o, es, ep, e', r⟩
section
open PySem.Calls
variable {prog : Program} {w : World} {A : Around} {E : Value → Shared → Prop} {h : Heap} {g : Array GenState} {d : Drawn} {t : Nat} {os : OsState}
theorem snob_free {n : Str} {h : Heap} (X : (hd.heap_39 w.params).In h) (e : nsIn (hd.heap_39 w.params) 33 n = some none) (e2 : nsIn (hd.heap_39 w.params) 33 (Str.ofString "__setattr__") = some none) : ∃ mN, h.Ns 33 mN ∧ mN (Str.ofString "__setattr__") = none ∧ mN n = none :=
  ⟨_, .of_isNs (isNs_of_in X (by kernel_rfl)), nsMap_none_of_in X (by kernel_rfl) e2, nsMap_none_of_in X (by kernel_rfl) e⟩
theorem put1_run {e t0 : Addr} {name : Str} {v : Value} {tk : Tok} {mN : Str → Option Value} {Q : Fin → Shared → Prop} (X : (hd.heap_39 w.params).In h) (hx : h.get? e = some (exc0 t0)) (hn : h.Ns 33 mN) (hna : mN name = none) (hB : typeLookup (.type "Exception") name = pure none)
    (hq : ∀ h' tk' oD, h'.get? e = some (excD t0 h.objs.size) → h'.get? h.objs.size = some oD → NsO oD (fun y => if y = name then some v else none) → (∀ b o, b ≠ e → h.get? b = some o → h'.get? b = some o) → Q (.done (.ret .none)) ⟨h', g, d, tk', os⟩) :
    wpAny (model prog w) A (Builtin.«object.__setattr__» ⟨[.ref e, .str name tk, v], []⟩) Q E ⟨h, g, d, t, os⟩ := by
  have hC := excCls X
  have SF := F.store_Exception
  have hpass := SF.passes (.ref e)
  have hx₁ : (h.push { cls := .type "dict", data := .dict #[] }).get? e = some (exc0 t0) := Heap.get?_push_of_some _ hx
  have hxs : e ≠ h.objs.size := Nat.ne_of_lt (Heap.lt_size hx)
  have hgd : ((h.push { cls := .type "dict", data := .dict #[] }).update e fun o => { cls := o.cls, dict := some h.objs.size, data := o.data, slots := o.slots }).get? h.objs.size = some { cls := .type "dict", data := .dict #[] } :=
    (Heap.get?_update_ne _ _ _ _ hxs.symm).trans (Heap.get?_push_at rfl rfl)
  have hge : ((h.push { cls := .type "dict", data := .dict #[] }).update e fun o => { cls := o.cls, dict := some h.objs.size, data := o.data, slots := o.slots }).get? e = some (excD t0 h.objs.size) := Heap.get?_update_self _ hx₁ rfl
  have hnd : ((h.push { cls := .type "dict", data := .dict #[] }).update e fun o => { cls := o.cls, dict := some h.objs.size, data := o.data, slots := o.slots }).Ns1 h.objs.size (fun _ => none) :=
    .of_empty ⟨_, #[], _, hgd, rfl, fun e he => absurd he (by simp), fun _ => rfl⟩
  unfold Builtin.«object.__setattr__»
  repeat (first | rw [refuse_eq] | (rw [refuseLoop_ref, hpass]) | (with_reducible refine wpAny_loadPart_at hx ?_) | with_reducible refine wpAny_mroOf_exc hC ?_ | (with_reducible refine wpAny_typeLookup_exc hC hn SF.mro hB ?_; rw [hna]) | ((with_reducible show wpAny _ _ (nsSet _ _ _) _ _ _); refine wpAny_nsSet1 hnd fun h' hn' hs => ?_) | wp_step)
  obtain ⟨oD, esD, epD, hoD, hdD, hcD⟩ := hn'.count (Within.cons name v Within.nil)
  refine wpAny_loadPart hoD ?_
  rw [hdD, pastItsLine_dict (Nat.le_trans hcD (by rw [List.length_cons, List.length_nil, sizeLine_eq]; omega))]
  refine wpAny_pure (wpAny_pure ?_)
  refine hq h' _ oD ((hs.2 e hxs).trans hge) hoD (.of hoD hn') fun b o hb ho => (hs.2 b (Nat.ne_of_lt (Heap.lt_size ho))).trans ((Heap.get?_update_ne _ _ _ _ hb).trans (Heap.get?_push_of_some _ ho))
theorem put1 {e t0 : Addr} {name : Str} {v : Value} {mN : Str → Option Value} {Q : Unit → Shared → Prop} (X : (hd.heap_39 w.params).In h) (hx : h.get? e = some (exc0 t0)) (hn : h.Ns 33 mN) (hns : mN (Str.ofString "__setattr__") = none) (hna : mN name = none) (hB : typeLookup (.type "Exception") name = pure none)
    (hq : ∀ h' tk' oD, h'.get? e = some (excD t0 h.objs.size) → h'.get? h.objs.size = some oD → NsO oD (fun y => if y = name then some v else none) → (∀ b o, b ≠ e → h.get? b = some o → h'.get? b = some o) → Q () ⟨h', g, d, tk', os⟩) :
    wpAny (model prog w) A (setAttr (.ref e) name v) Q E ⟨h, g, d, t, os⟩ := by
  have hC := excCls X
  have SF := F.store_Exception
  have f3 := SF.slot.bind (.ref e)
  unfold setAttr callSpecial? specialOf
  repeat (first | (with_reducible refine wpAny_loadPart_at hx ?_) | (with_reducible refine wpAny_typeLookup_exc hC hn SF.mro SF.slot.lookup ?_; rw [hns]) | (with_reducible refine wpAny_of_eq f3 ?_) | wp_step)
  refine codeAny_call_builtin SF.slot.plain SF.entry ?_
  simp only [List.cons_append, List.nil_append]
  refine @wpAny_check_sa _ _ h g d (t + 1) os (Str.ofString "SnobolError") (Str.ofString "SnobolError") 34 33 e [.type "Exception"] [.type "Exception", .type "BaseException", .type "object"] [] [] false none none (some (.ref 15)) none (some (.str (Str.ofString "SnobolError") 189)) (some (.str (Str.ofString "SnobolError") 197)) (some (.bool true)) "Exception" "Exception.__new__" "object.__setattr__" "object" v (model prog w) (exc0 t0) (.str name t) _ SF hC hx rfl ?_
  refine put1_run X hx hn hna hB fun h' tk' oD a1 a2 a3 a4 => ?_
  repeat wp_step
  exact hq h' tk' oD a1 a2 a3 a4
theorem put1_K {e t0 L : Addr} {h₀ : Heap} {m : Str → Option Value} {news : List (Addr × Obj)} {up : Obj → List (Addr × Obj)} {name : Str} {v : Value} {s : Shared} {Q : Unit → Shared → Prop} (F : Fr h₀ L s.heap m) (X₀ : (hd.heap_39 w.params).In h₀) (N : News h₀ L s.heap news) (U : UpdF e (exc0 t0) news up)
    (e1 : nsIn (hd.heap_39 w.params) 33 name = some none) (hB : typeLookup (.type "Exception") name = pure none)
    (k : ∀ dx oD h' tk', Fr h₀ L h' m → News h₀ L h' ((dx, oD) :: up (excD t0 dx)) → NsO oD (fun y => if y = name then some v else none) → (∀ p ∈ news, p.1 < dx) → Q () { s with heap := h', toks := tk' }) :
    wpAny (model prog w) A (setAttr (.ref e) name v) Q E s := by
  obtain ⟨h, g, d, t, os⟩ := s
  obtain ⟨pre, post, rfl, hup, a, c⟩ := U.split
  have X := X₀.keeps F.keep
  have he := N (e, exc0 t0) (List.mem_append.mpr (.inr (.head _)))
  obtain ⟨mN, hn, hns, hna⟩ := snob_free X e1 (by rfl)
  have lt : ∀ p ∈ pre ++ (e, exc0 t0) :: post, p.1 < h.objs.size := fun p hp => Heap.lt_size (N p hp).1
  refine put1 X he.1 hn hns hna hB fun h' tk' oD b1 b2 b3 b4 => ?_
  have fresh : ∀ {g' : Heap}, (∀ b o, g'.get? b = some o → h.get? b = some o) → g'.get? h.objs.size = none := fun {g'} q => by
    cases z : g'.get? h.objs.size with
    | none => rfl
    | some o => exact absurd (Heap.lt_size (q _ _ z)) (Nat.lt_irrefl _)
  obtain ⟨oL, es, ep, hL, r⟩ := F.ns
  have eL : L ≠ e := fun q => he.2.1 q.symm
  refine k h.objs.size oD h' tk' ⟨⟨oL, es, ep, b4 _ _ eL hL, r⟩, fun b o q => b4 b o (fun z => by rw [z, he.2.2] at q; cases q) (F.keep b o q), F.above⟩ (fun p hp => ?_) b3 lt
  rcases List.mem_cons.mp hp with rfl | hp
  · exact ⟨b2, fun q => absurd (Heap.lt_size hL) (by rw [← q]; exact Nat.lt_irrefl _), fresh F.keep⟩
  rw [hup] at hp
  rcases List.mem_append.mp hp with hp | hp
  · have z := N p (List.mem_append.mpr (.inl hp))
    exact ⟨b4 _ _ (a p hp) z.1, z.2⟩
  · rcases List.mem_cons.mp hp with rfl | hp
    · exact ⟨b1, he.2⟩
    · have z := N p (List.mem_append.mpr (.inr (.tail _ hp)))
      exact ⟨b4 _ _ (c p hp) z.1, z.2⟩
theorem put2_K {e t0 dx L : Addr} {h₀ : Heap} {m : Str → Option Value} {news : List (Addr × Obj)} {up : Obj → List (Addr × Obj)} {name : Str} {v : Value} {s : Shared} {oD : Obj} {mA : Str → Option Value} {ns : List Str} {Q : Unit → Shared → Prop} (F : Fr h₀ L s.heap m) (X₀ : (hd.heap_39 w.params).In h₀) (N : News h₀ L s.heap news) (he : (e, excD t0 dx) ∈ news) (ho : NsO oD mA) (U : UpdF dx oD news up)
    (e1 : nsIn (hd.heap_39 w.params) 33 name = some none) (hB : typeLookup (.type "Exception") name = pure none) (ne : @Ne Nat e dx) (hw : Within mA ns) (hz : ns.length ≤ 10)
    (k : ∀ oD' h' tk', Fr h₀ L h' m → News h₀ L h' (up oD') → NsO oD' (fun y => if y = name then some v else mA y) → Q () { s with heap := h', toks := tk' }) :
    wpAny (model prog w) A (setAttr (.ref e) name v) Q E s := by
  obtain ⟨h, g, d, t, os⟩ := s
  obtain ⟨pre, post, rfl, hup, a, c⟩ := U.split
  have X := X₀.keeps F.keep
  have hd' := N (dx, oD) (List.mem_append.mpr (.inr (.head _)))
  have he' := N _ he
  obtain ⟨mN, hn, hns, hna⟩ := snob_free X e1 (by rfl)
  have e34 : e ≠ 34 := fun q => by
    have := he'.1
    rw [q, excCls X] at this; cases this
  have I : h.Inst e 34 mA := ⟨_, he'.1, rfl, (fun c z => by cases z), .inr ⟨dx, rfl, fun z => ne z.symm, ho _ _ hd'.1⟩⟩
  refine @store_attr prog w A E h g d t os (Str.ofString "SnobolError") (Str.ofString "SnobolError") 34 33 e [.type "Exception"] [.type "Exception", .type "BaseException", .type "object"] [] [] false none none (some (.ref 15)) none (some (.str (Str.ofString "SnobolError") 189)) (some (.str (Str.ofString "SnobolError") 197)) (some (.bool true)) "Exception" "Exception.__new__" "object.__setattr__" "object" mN mA name v _ ns PySem.F.store_Exception (excCls X) hn hns hna hB e34 I (fun h' tk' I' b4 b5 => ?_) hw (by rw [sizeLine_eq]; omega)
  have keep : ∀ b o, b ≠ dx → h.get? b = some o → h'.get? b = some o := fun b o hb hq => by
    by_cases z : b = e
    · subst z
      obtain ⟨o1, q1, q2, q3, q4, q5⟩ := b5 _ he'.1
      rw [he'.1] at hq
      cases hq
      obtain ⟨oc, od, oda, osl⟩ := o1
      dsimp only at q2 q3 q4
      have := q5 dx rfl
      dsimp only at this
      subst q2 q3 q4 this
      exact q1
    · exact b4 b o z (fun o₀ d' q1 q2 => by rw [he'.1] at q1; cases q1; cases q2; exact hb) hq
  obtain ⟨o2, q1, _, _, q4⟩ := I'
  rw [keep e _ ne he'.1] at q1
  cases q1
  obtain ⟨d2, z1, _, z3⟩ := q4.resolve_left (fun z => by cases z.1)
  cases z1
  obtain ⟨oD', es', ep', y1, y2⟩ := id z3
  obtain ⟨oL, es, ep, hL, r⟩ := F.ns
  refine k oD' h' tk' ⟨⟨oL, es, ep, keep _ _ (fun q => hd'.2.1 q.symm) hL, r⟩, fun b o q => keep b o (fun z => by rw [z, hd'.2.2] at q; cases q) (F.keep b o q), F.above⟩ (fun p hp => ?_) (.of y1 z3)
  rw [hup] at hp
  rcases List.mem_append.mp hp with hp | hp
  · have z := N p (List.mem_append.mpr (.inl hp))
    exact ⟨keep _ _ (a p hp) z.1, z.2⟩
  · rcases List.mem_cons.mp hp with rfl | hp
    · exact ⟨y1, hd'.2⟩
    · have z := N p (List.mem_append.mpr (.inr (.tail _ hp)))
      exact ⟨keep _ _ (c p hp) z.1, z.2⟩
end

end

section
/-- the object at e has the dict D -/
def DtAt (e D : Addr) (h : Heap) : Prop := ∃ o, h.get? e = some o ∧ o.dict = some D
/-- a tree that leaves the dict of the object at e -/
def Keeps (e D : Addr) {α : Type} (t : Sem α) : Prop := ∀ (M : Model) (Γ : Ctx) (Q : α → Pos → Shared → Prop) (E : Value → Pos → Shared → Prop) (p : Pos) (s : Shared), DtAt e D s.heap → Sem.wp M Γ t Q E p s →
  Sem.wp M Γ t (fun a p s => Q a p s ∧ DtAt e D s.heap) (fun x p s => E x p s ∧ DtAt e D s.heap) p s
section
variable {e D : Addr} {α β : Type}
theorem keeps_pure (a : α) : Keeps e D (pure a : Sem α) := fun M Γ Q E p s d h => by
  rw [Sem.wp_pure'] at h ⊢
  exact ⟨h, d⟩
theorem keeps_bind {m : Sem α} {f : α → Sem β} (k : Keeps e D m) (l : ∀ a, Keeps e D (f a)) : Keeps e D (m >>= f) := fun M Γ Q E p s d h => by
  rw [Sem.wp_bind'] at h ⊢
  exact Sem.wp_mono M Γ m (fun a p s x => l a M Γ Q E p s x.2 x.1) (fun x p s y => y) p s (k M Γ _ E p s d h)
theorem keeps_unsup (w : String) : Keeps e D (unsupported w : Sem α) := fun M Γ Q E p s d h => by
  have : Sem.wp M Γ (Sem.unsupported w : Sem α) Q E p s := h
  rw [Sem.wp_unsupported] at this
  exact this.elim
theorem keeps_load (a : Addr) (part : Option Value) : Keeps e D (loadPart a part) := fun M Γ Q E p s d h => by
  have h : Sem.wp M Γ (Sem.load a part .pure) Q E p s := h
  show Sem.wp M Γ (Sem.load a part .pure) _ _ p s
  rw [Sem.wp_load] at h ⊢
  obtain ⟨o, ho, h⟩ := h
  rw [Sem.wp_pure] at h
  exact ⟨o, ho, by rw [Sem.wp_pure]; exact ⟨h, d⟩⟩
theorem keeps_stack : Keeps e D stack := fun M Γ Q E p s d h => by
  have h : Sem.wp M Γ (Sem.stack .pure) Q E p s := h
  show Sem.wp M Γ (Sem.stack .pure) _ _ p s
  rw [Sem.wp_stack] at h ⊢
  rw [Sem.wp_pure] at h ⊢
  exact ⟨h, d⟩
theorem keeps_alloc (o : Obj) : Keeps e D (alloc o) := fun M Γ Q E p s d h => by
  have h : Sem.wp M Γ (Sem.alloc o .pure) Q E p s := h
  show Sem.wp M Γ (Sem.alloc o .pure) _ _ p s
  rw [Sem.wp_alloc] at h ⊢
  rw [Sem.wp_pure] at h ⊢
  obtain ⟨oe, h1, h2⟩ := d
  exact ⟨h, oe, Heap.get?_push_of_some _ h1, h2⟩
theorem keeps_update (a : Addr) (f : Obj → Obj) (hf : ∀ o, (f o).dict = o.dict ∧ (f o).isFreed = o.isFreed) : Keeps e D (update a f) := fun M Γ Q E p s d h => by
  have h : Sem.wp M Γ (Sem.update a none f .pure) Q E p s := h
  show Sem.wp M Γ (Sem.update a none f .pure) _ _ p s
  rw [Sem.wp_update] at h ⊢
  rw [Sem.wp_pure] at h ⊢
  refine ⟨h.1, h.2, ?_⟩
  obtain ⟨oe, h1, h2⟩ := d
  by_cases q : e = a
  · subst q
    refine ⟨f oe, Heap.get?_update_self f h1 ?_, (hf oe).1.trans h2⟩
    rw [(hf oe).2]
    exact (Heap.get?_some_iff.mp h1).2
  · exact ⟨oe, (Heap.get?_update_ne _ _ _ _ q).trans h1, h2⟩
theorem wpAny_keeps {M : Model} {A : Around} {t : Sem α} {Q : α → Shared → Prop} {E : Value → Shared → Prop} {s : Shared} (k : Keeps e D t) (d : DtAt e D s.heap) (h : wpAny M A t Q E s) :
    wpAny M A t (fun a s => Q a s ∧ DtAt e D s.heap) (fun x s => E x s ∧ DtAt e D s.heap) s := fun Γ p hΓ => k M Γ _ _ p s d (h Γ p hΓ)
theorem mapFields_ok (f : Array Value → Array Value) (o : Obj) : (Obj.mapFields f o).dict = o.dict ∧ (Obj.mapFields f o).isFreed = o.isFreed := by
  obtain ⟨c, d, da, sl⟩ := o
  cases da <;> exact ⟨rfl, rfl⟩
theorem slots_ok (f : Obj → Array (Option Value)) (o : Obj) : ({ o with slots := f o } : Obj).dict = o.dict ∧ ({ o with slots := f o } : Obj).isFreed = o.isFreed := by
  obtain ⟨c, d, da, sl⟩ := o
  cases da <;> exact ⟨rfl, rfl⟩
theorem keeps_fieldsOf (v : Value) : Keeps e D (fieldsOf v) := by
  unfold fieldsOf
  repeat (first | exact keeps_pure _ | exact keeps_unsup _ | exact keeps_load _ _ | refine keeps_bind ?_ fun _ => ?_ | split)
theorem keeps_field (v : Value) (i : Nat) : Keeps e D (field v i) := by
  unfold field
  repeat (first | exact keeps_pure _ | exact keeps_unsup _ | exact keeps_fieldsOf _ | refine keeps_bind ?_ fun _ => ?_ | split)
theorem keeps_setField (v : Value) (i : Nat) (x : Value) : Keeps e D (setField v i x) := by
  unfold setField updateField
  repeat (first | exact keeps_pure _ | exact keeps_unsup _ | exact keeps_load _ _ | exact keeps_update _ _ (mapFields_ok _) | refine keeps_bind ?_ fun _ => ?_ | split)
theorem keeps_ready : ∀ l : List Env, Keeps e D (readyFrames l)
  | [] => keeps_pure _
  | env :: outer => by
    unfold readyFrames behindIsImport keptBack underTheClaimsCaller
    repeat (first | exact keeps_pure _ | exact keeps_unsup _ | exact keeps_ready outer | exact keeps_load _ _ | exact keeps_stack | exact keeps_field _ _ | exact keeps_update _ _ (slots_ok _) | refine keeps_bind ?_ fun _ => ?_ | split | dsimp only)
theorem keeps_frameOf (env : Env) : Keeps e D (PySem.frameOf env) := by
  unfold PySem.frameOf frameEnvs frameObject
  repeat (first | exact keeps_pure _ | exact keeps_unsup _ | exact keeps_ready _ | exact keeps_stack | refine keeps_bind ?_ fun _ => ?_ | split)
theorem keeps_entry (f : Addr) (b : Bool) : Keeps e D (entryPlaceOf f b) := by
  unfold entryPlaceOf
  repeat (first | exact keeps_pure _ | exact keeps_unsup _ | exact keeps_stack | refine keeps_bind ?_ fun _ => ?_ | split)
theorem keeps_newEntry (a b c d x : Value) (l : List Value) : Keeps e D (EntryCells.newEntry a b c d x l) := by
  unfold EntryCells.newEntry newFields newObj newObjAsIs
  dsimp only
  repeat (first | exact keeps_pure _ | exact keeps_unsup _ | exact keeps_alloc _ | refine keeps_bind ?_ fun _ => ?_ | split)
theorem keeps_note (x : Value) (env : Env) : Keeps e D (noteFrame x env) := by
  unfold noteFrame
  repeat (first | exact keeps_pure _ | exact keeps_unsup _ | exact keeps_field _ _ | exact keeps_setField _ _ _ | exact keeps_frameOf _ | exact keeps_entry _ _ | exact keeps_newEntry _ _ _ _ _ _ | refine keeps_bind ?_ fun _ => ?_ | split)
theorem keeps_flight (x : Value) (f : Option Addr) : Keeps e D (setFlight x f) := by
  unfold setFlight
  repeat (first | exact keeps_pure _ | exact keeps_unsup _ | exact keeps_field _ _ | exact keeps_setField _ _ _ | refine keeps_bind ?_ fun _ => ?_ | split)
theorem keeps_leaving (env : Env) (x : Value) : Keeps e D (leaving env x) := by
  unfold leaving
  exact keeps_bind (keeps_note _ _) fun _ => keeps_flight _ _
end

end

section
/-- an exception of our class in flight, with its dict -/
structure RzD (base G : Heap) (l : List Env) (e d : Addr) (news : List (Addr × Obj)) (h : Heap) : Prop where
  r : RaisedSN base G l e (.ref 34) news h
  dt : DtAt e d h
section
variable {M : Model} {A : Around} {E : Value → Shared → Prop} {s' : Shared} {base g g₂ : Heap} {outer : List Env} {L a e t d : Addr} {m : Str → Option Value} {name : Str} {scope : Scope} {cd : Value} {Q : Unit → Shared → Prop} {news all : List (Addr × Obj)}
theorem leave_D (K : Below A base outer g) (F : Fr g L s'.heap m) (N : News g L s'.heap all) (he : (e, excD t d) ∈ all) (hs : ∀ p ∈ news, p ∈ all ∧ p.1 ≠ e)
    (hQ : ∀ h', RzD base g outer e d news h' → g.UpToSlots h' → Q () { s' with heap := h' }) (hk : scope.kind = .function := by rfl) :
    wpAny M (A.deeper (envOf name scope L a cd)) (leaving (envOf name scope L a cd) (.ref e)) Q E s' := by
  have K' := K.push (name := name) (a := a) (cd := cd) F hk
  have hE := N _ he
  have hin : ∀ env ∈ (envOf name scope L a cd :: outer), ∀ b, env.frame = some b → b ∈ e :: (envOf name scope L a cd :: outer).filterMap (·.frame) := fun env q b hb => .tail _ (List.mem_filterMap.mpr ⟨env, q, hb⟩)
  have nb : base.get? e = none := fresh_of_stays K.stays hE.2.2
  have st : base.StaysIn (hideAll s'.heap (e :: (envOf name scope L a cd :: outer).filterMap (·.frame))) := fun b o q => hideAll_get _ (K'.stays b o q) fun hm => by
    rcases List.mem_cons.mp hm with rfl | hm
    · rw [nb] at q; cases q
    · rw [(K'.frames.mem hm).1] at q; cases q
  have sg : ∀ b o, g.get? b = some o → b ∉ outer.filterMap (·.frame) → (hideAll s'.heap (e :: (envOf name scope L a cd :: outer).filterMap (·.frame))).get? b = some o := fun b o q nm => hideAll_get _ (F.keep b o q) fun hm => by
    rcases List.mem_cons.mp hm with rfl | hm
    · rw [hE.2.2] at q; cases q
    · rcases kts_mem hm with z | z
      · rw [z, kts_self F] at q
        cases q
      · exact nm z
  have hl : ∀ q ∈ news, (hideAll s'.heap (e :: (envOf name scope L a cd :: outer).filterMap (·.frame))).get? q.1 = some q.2 ∧ g.get? q.1 = none ∧ base.get? q.1 = none := fun q hq => by
    have N' := N q (hs q hq).1
    refine ⟨hideAll_get _ N'.1 fun hm => ?_, N'.2.2, fresh_of_stays K.stays N'.2.2⟩
    rcases List.mem_cons.mp hm with z | hm
    · exact (hs q hq).2 z
    obtain ⟨env, he, hf⟩ := List.mem_filterMap.mp hm
    rcases List.mem_cons.mp he with rfl | he
    · exact N'.2.1 (Option.some.inj hf).symm
    · obtain ⟨o, ho, _⟩ := (K.frames.mem (List.mem_filterMap.mpr ⟨env, he, hf⟩)).2
      rw [N'.2.2] at ho; cases ho
  have hen : (hideAll s'.heap (e :: (envOf name scope L a cd :: outer).filterMap (·.frame))).get? e = none := hideAll_none _ (.head _)
  refine wpAny_mono (Q := fun _ s => (RaisedSN base g outer e (.ref 34) news s.heap ∧ g.UpToSlots s.heap ∧ ∃ h', s = { s' with heap := h' }) ∧ DtAt e d s.heap) (wpAny_keeps (keeps_leaving _ _) ⟨_, hE.1, rfl⟩ ?_) (fun _ s x => ?_) fun _ _ x => x.1
  · refine wpAny_leaving_firstW (a0 := .ref t) K'.stack (funFrames_hide K'.frames hin) rfl hE.1 (fun b o hb => of_hideAll _ hb) hen rfl rfl rfl fun h' hL => ?_
    obtain ⟨k1, ⟨_, _, k2⟩, k3, k4⟩ := hL
    exact ⟨⟨_, .ref t, st, sg, hl, k1, hen, k2, k3⟩, (Heap.UpToSlots.of_keeps F.keep).trans k4, h', rfl⟩
  · obtain ⟨⟨x1, x2, h', rfl⟩, x3⟩ := x
    exact hQ h' ⟨x1, x3⟩ x2
theorem leave_onD (K : Below A base outer g) (F : Fr g L g₂ m) (R : RzD base g₂ (envOf name scope L a cd :: outer) e d news s'.heap) (hsm : g₂.UpToSlots s'.heap)
    (hQ : ∀ h', RzD base g outer e d news h' → g.UpToSlots h' → Q () { s' with heap := h' }) :
    wpAny M (A.deeper (envOf name scope L a cd)) (leaving (envOf name scope L a cd) (.ref e)) Q E s' := by
  refine wpAny_mono (wpAny_keeps (keeps_leaving _ _) R.dt (leave_onSN K F R.r hsm (Q := fun _ s => RaisedSN base g outer e (.ref 34) news s.heap ∧ g.UpToSlots s.heap ∧ ∃ h', s = { s' with heap := h' }) fun h' x1 _ x2 => ⟨x1, x2, h', rfl⟩)) (fun _ s x => ?_) fun _ _ x => x.1
  obtain ⟨⟨x1, x2, h', rfl⟩, x3⟩ := x
  exact hQ h' ⟨x1, x3⟩ x2
end
theorem RzD.sub {base G : Heap} {l : List Env} {e d : Addr} {news news' : List (Addr × Obj)} {h : Heap} (R : RzD base G l e d news h) (s : ∀ p ∈ news', p ∈ news) : RzD base G l e d news' h := by
  obtain ⟨⟨B, a0, x1, x2, x3, x4⟩, dt⟩ := R
  exact ⟨⟨B, a0, x1, x2, fun q hq => x3 q (s q hq), x4⟩, dt⟩
/-- a call that raises: what flies -/
def ConX (k : Nat) (w : World) (mean : ExcName → Option Value) (mg mb : Str → Option Value) (f : Addr) (vs : List Value) (need : List (Addr × Obj) → Prop) : Prop :=
  ∀ (dp un : Nat) (gd : Option (List Code)) (cn : Str) (cs : Scope) (a : Addr) (ccd : Value) (cl : List (Str × Addr)) (outer : List Env) (A₀ : Around) (base h₀ : Heap) (L : Addr) (m : Str → Option Value) (news : List (Addr × Obj)) (s : Shared) (Q E : Value → Shared → Prop),
    Below A₀ base outer h₀ → Fr h₀ L s.heap m → (hd.heap_39 w.params).In h₀ → News h₀ L s.heap news → Top hd.view_39 (looseW hd.view_39 [Str.ofString "SnobolError"]) mean mg mb h₀ → cs.kind = .function →
    need news → dp + k < recursionLimit → un + 20 * k < cLine →
    (∀ e d g oD tk v h' tk', Fr h₀ L g m → g.UpToSlots h' → RzD base g (envX cn cs L a ccd cl :: outer) e d ((d, oD) :: news) h' → (∀ q ∈ news, @Ne Nat q.1 d) → NsO oD (fun y => if y = Str.ofString "told" then some v else if y = Str.ofString "number" then some (.int 8 tk) else none) → E (.ref e) { s with heap := h', toks := tk' }) →
    wpAny (model PySem.Challenge.rw_pq1123_01.row.prog w) (ktrTop dp un gd cn cs L a ccd cl outer) (call (.ref f) vs) Q E s
/-- a tree that name_orders refuses -/
inductive BadIn (led : List (Addr × Obj)) : Value → Prop
  | whole {a : Addr} {k0 k1 : Tok} {n : Nat} : (a, tup [.str (Str.ofString "whole") k0, .int 1 k1] n) ∈ led → BadIn led (.ref a)
  | text {a : Addr} {k0 k1 : Tok} {n : Nat} : (a, tup [.str (Str.ofString "text") k0, .str (Str.ofString "A") k1] n) ∈ led → BadIn led (.ref a)
  | null {a : Addr} {k0 : Tok} {n : Nat} : (a, tup [.str (Str.ofString "null") k0] n) ∈ led → BadIn led (.ref a)
  | join {a b c : Addr} {k0 : Tok} {n : Nat} : (a, tup [.str (Str.ofString "join") k0, .ref b, .ref c] n) ∈ led → BadIn led (.ref a)
  | binary {a b c : Addr} {k0 k1 : Tok} {n : Nat} : (a, tup [.str (Str.ofString "binary") k0, .str (Str.ofString ".") k1, .ref b, .ref c] n) ∈ led → BadIn led (.ref a)
  | minus {a b : Addr} {k0 k1 : Tok} {n : Nat} : (a, tup [.str (Str.ofString "unary") k0, .str (Str.ofString "-") k1, .ref b] n) ∈ led → BadIn led (.ref a)
  | star {a b : Addr} {k0 k1 : Tok} {n : Nat} : (a, tup [.str (Str.ofString "unary") k0, .str (Str.ofString "*") k1, .ref b] n) ∈ led → BadIn led (.ref a)
  | dot {a b : Addr} {k0 k1 : Tok} {n : Nat} : (a, tup [.str (Str.ofString "unary") k0, .str (Str.ofString ".") k1, .ref b] n) ∈ led → BadIn led (.ref a)
  | amp {a b : Addr} {k0 k1 k2 k3 : Tok} {n n2 : Nat} : (a, tup [.str (Str.ofString "unary") k0, .str (Str.ofString "&") k1, .ref b] n) ∈ led → (b, tup [.str (Str.ofString "text") k2, .str (Str.ofString "A") k3] n2) ∈ led → BadIn led (.ref a)
theorem BadIn.mono {led led' : List (Addr × Obj)} {v : Value} (h : BadIn led v) (s : ∀ p ∈ led, p ∈ led') : BadIn led' v := by
  cases h with
  | whole a => exact .whole (s _ a)
  | text a => exact .text (s _ a)
  | null a => exact .null (s _ a)
  | join a => exact .join (s _ a)
  | binary a => exact .binary (s _ a)
  | minus a => exact .minus (s _ a)
  | star a => exact .star (s _ a)
  | dot a => exact .dot (s _ a)
  | amp a b => exact .amp (s _ a) (s _ b)
section
variable {M : Model} {A : Around} {E : Value → Shared → Prop} {s : Shared} {env : Env} {Q : Flow → Shared → Prop}
/-- behind some statements: what holds of the heap -/
def StagedP (P : Heap → Prop) (s : Shared) (f : Flow) (s₂ : Shared) : Prop := f = .next ∧ ∃ h tk, s₂ = { s with heap := h, toks := tk } ∧ P h
theorem stagedP {P : Heap → Prop} {h : Heap} {tk : Nat} (k : P h) : StagedP P s .next { s with heap := h, toks := tk } := ⟨rfl, h, tk, rfl, k⟩
theorem execs_append (r : List Stmt) : ∀ l : List Stmt, execs (l ++ r) env = (execs l env >>= fun f => match f with | .next => execs r env | f => pure f)
  | [] => by
    have e : execs [] env = (pure .next : Sem Flow) := by unfold execs; rfl
    rw [e, List.nil_append, pure_bind]
  | x :: l => by
    rw [List.cons_append, execs_cons, execs_cons, execs_append r l, bind_assoc]
    congr 1
    funext f
    cases f <;> first | rfl | rw [pure_bind]
theorem execs_stage {l r : List Stmt} (P : Heap → Prop) (h1 : wpAny M A (execs l env) (StagedP P s) E s) (h2 : ∀ h tk, P h → wpAny M A (execs r env) Q E { s with heap := h, toks := tk }) : wpAny M A (execs (l ++ r) env) Q E s := by
  rw [execs_append]
  refine wpAny_bind (wpAny_mono h1 (fun f s₂ k => ?_) fun _ _ e => e)
  obtain ⟨rfl, h, tk, rfl, p⟩ := k
  exact h2 h tk p
theorem execs_stageK {l r : List Stmt} {g : Heap} {L : Addr} {m1 : Str → Option Value} {news : List (Addr × Obj)} (x0 : Str) (_F : Fr g L s.heap m1) (_N : News g L s.heap news)
    (h1 : wpAny M A (execs l env) (StagedP (fun h => ∃ x t, Fr g L h (fun y => if y = x0 then some (.str x t) else m1 y) ∧ News g L h news) s) E s)
    (h2 : ∀ h tk x t, Fr g L h (fun y => if y = x0 then some (.str x t) else m1 y) → News g L h news → wpAny M A (execs r env) Q E { s with heap := h, toks := tk }) : wpAny M A (execs (l ++ r) env) Q E s :=
  execs_stage _ h1 fun h tk ⟨x, t, F, N⟩ => h2 h tk x t F N
end
/-- a tree that name_orders takes -/
inductive GoodIn (led : List (Addr × Obj)) : Value → Prop
  | name {a : Addr} {k0 k1 : Tok} {n : Nat} : (a, tup [.str (Str.ofString "name") k0, .str (Str.ofString "A") k1] n) ∈ led → GoodIn led (.ref a)
  | call {a b : Addr} {k0 k1 : Tok} {n n2 : Nat} : (a, tup [.str (Str.ofString "call") k0, .str (Str.ofString "F") k1, .ref b] n) ∈ led → (b, tup [] n2) ∈ led → GoodIn led (.ref a)
  | item {a b c : Addr} {k0 k1 k2 : Tok} {n n2 n3 : Nat} : (a, tup [.str (Str.ofString "item") k0, .ref b, .ref c] n) ∈ led → (b, tup [.str (Str.ofString "name") k1, .str (Str.ofString "A") k2] n2) ∈ led → (c, tup [.ref b] n3) ∈ led → GoodIn led (.ref a)
  | ind {a b : Addr} {k0 k1 k2 k3 : Tok} {n n2 : Nat} : (a, tup [.str (Str.ofString "unary") k0, .str (Str.ofString "$") k1, .ref b] n) ∈ led → (b, tup [.str (Str.ofString "text") k2, .str (Str.ofString "") k3] n2) ∈ led → GoodIn led (.ref a)
  | amp {a b : Addr} {k0 k1 k2 k3 : Tok} {n n2 : Nat} : (a, tup [.str (Str.ofString "unary") k0, .str (Str.ofString "&") k1, .ref b] n) ∈ led → (b, tup [.str (Str.ofString "name") k2, .str (Str.ofString "A") k3] n2) ∈ led → GoodIn led (.ref a)
theorem GoodIn.mono {led led' : List (Addr × Obj)} {v : Value} (h : GoodIn led v) (s : ∀ p ∈ led, p ∈ led') : GoodIn led' v := by
  cases h with
  | name a => exact .name (s _ a)
  | call a b => exact .call (s _ a) (s _ b)
  | item a b c => exact .item (s _ a) (s _ b) (s _ c)
  | ind a b => exact .ind (s _ a) (s _ b)
  | amp a b => exact .amp (s _ a) (s _ b)
abbrev nameOut (_news led : List (Addr × Obj)) (r : Value) : Prop := ∃ (la : Addr) (vs : List Value) (n : Nat), r = .ref la ∧ (la, listOf (List.toArray vs) n) ∈ led ∧ vs.length ≤ 4

end

section
section
open PySem.Calls
variable {prog : Program} {w : World} {A : Around} {E : Value → Shared → Prop} {s : Shared} {env : Env} {h₀ : Heap} {target : Expr} {body : List Stmt} {Q : Flow → Shared → Prop}
/-- a loop over a tuple of the ledger -/
theorem iter_tupL {ax : Addr} {vs : List Value} {n : Nat} {m₀ : Str → Option Value} {news : List (Addr × Obj)}
    (hh : A.handled = none) (F : Fr h₀ env.locals s.heap m₀) (N : News h₀ env.locals s.heap news) (hm : (ax, tup vs n) ∈ news)
    (rest₀ : ∀ I : Addr, (∀ p ∈ news, p.1 < I) → ItemsRest prog w A E h₀ env target body Q s [(I, "tuple_iterator")] [(ax, tup vs n)] (vs.map .val) m₀ news) :
    wpAny (model prog w) A (pyIter (.ref ax)) (fun it s₂ => TurnsAt prog w A h₀ env target body Q E it s₂) E s := by
  have hax := (N _ hm).1
  have hl : s.heap.IsTuple ax vs.toArray := ⟨_, hax, rfl, n, rfl⟩
  have hne : ax ≠ s.heap.objs.size := Nat.ne_of_lt (Heap.lt_size hax)
  refine wpAny_pyIter_tuple hl ?_
  refine ktu_core (tk0 := s.toks) (keep := [(ax, tup vs n)]) (KTurns.ofWalks (Walks.tuple hh s.heap.objs.size ax hne vs.toArray) fun i v s Q E st q => letGo_tupleiter st.1 q) (by simp) (fun i v h hp => ⟨.val v, ?_, rfl⟩) (fun i h st => ?_) (fun b hb => ?_) (fun b hb => by simpa using hb) (fun b hb => ?_) ?_ (fun p hp hI => ?_) ?_ (F.push _) (fun p hp => ⟨Heap.get?_push_of_some _ (N p hp).1, (N p hp).2⟩) ⟨hm, trivial⟩ (rest₀ _ fun p hp => Heap.lt_size (N p hp).1)
  · have hp' : vs.toArray[i]? = some v := hp
    simpa using hp'
  · obtain ⟨it, hit, hic, _⟩ := st.1
    exact ⟨[(s.heap.objs.size, it)], ⟨⟨rfl, hic⟩, trivial⟩, fun p hp => by rw [List.mem_singleton.mp hp]; exact hit⟩
  · have hb' : b = s.heap.objs.size := by simpa using hb
    rw [hb']
    exact ⟨List.mem_cons_self .., next_is_new F⟩
  · have hb' : b = s.heap.objs.size ∨ b = ax := by simpa using hb
    rcases hb' with e | e
    · exact .inl (by simp [e])
    · exact .inr ⟨tup vs n, by rw [e]; exact .head _⟩
  · intro hI
    rcases List.mem_cons.mp hI with e | hI
    · exact absurd F.ns.lt (e ▸ Nat.lt_irrefl _)
    · have e : env.locals = ax := List.mem_singleton.mp hI
      exact (N _ hm).2.1 e.symm
  · exact absurd (Heap.lt_size (N p hp).1) ((List.mem_singleton.mp hI) ▸ Nat.lt_irrefl _)
  · exact ⟨⟨_, Heap.get?_push_size _ rfl, rfl, rfl⟩, hl.at fun o e => Heap.get?_push_of_some _ e⟩
theorem unr_end1 {L : Addr} {s₁ : Shared} {e1 : Addr × Obj} {rest : (Str → Option Value) → List (Addr × Obj) → Prop} {h' : Heap} {tk : Nat} {m' : Str → Option Value} {nw l' : List (Addr × Obj)}
    (F : Fr h₀ L h' m') (N : News h₀ L h' l') (m1 : e1 ∈ l') (m2 : ∀ p ∈ nw, p ∈ l') (off : ∀ p ∈ nw, p.1 ≠ e1.1) (r : rest m' nw) : UnrEndW h₀ L s₁ [e1] rest { s₁ with heap := h', toks := tk } :=
  ⟨h', tk, m', nw, rfl, F, fun p hp => by
    rcases List.mem_cons.mp hp with rfl | hp
    · exact N _ m1
    · exact N _ (m2 p hp), fun p hp q hq => by rw [List.mem_singleton.mp hq]; exact off p hp, r⟩
theorem unr_end1b {L I : Addr} {o : Obj} {a b : Addr × Obj} {s₁ : Shared} {rest : (Str → Option Value) → List (Addr × Obj) → Prop} {h' : Heap} {tk : Nat} {m' : Str → Option Value} {nw : List (Addr × Obj)}
    (F : Fr h₀ L h' m') (N : News h₀ L h' (a :: b :: (I, o) :: nw)) (off : AllLt I nw) (r : rest m' nw) : UnrEndW h₀ L s₁ [(I, o)] rest { s₁ with heap := h', toks := tk } :=
  unr_end1 F N (.tail _ (.tail _ (.head _))) (fun p hp => .tail _ (.tail _ (.tail _ hp))) (fun p hp => Nat.ne_of_lt (allLt_mem off p hp)) r
end

end

section
abbrev excA (d : Addr) (ws : Array Value) (sl : Array (Option Value)) : Obj := { cls := .ref 34, dict := some d, data := .fields ws, slots := sl }
section
variable {M : Model} {A : Around} {E : Value → Shared → Prop} {s : Shared} {base : Heap} {env : Env} {l outer : List Env} {L e d : Addr} {cls a0 : Value} {Q : Unit → Shared → Prop}
theorem looks_D (hfr : A.frames = some (env :: outer)) (hf : env.frame = some L) (hfl : Heap.FlyingW base (env :: outer) e cls a0 s.heap) (dt : DtAt e d s.heap)
    (hQ : ∀ h', Heap.HeldW base (env :: outer) e cls a0 L h' → s.heap.UpToSlots h' → DtAt e d h' → Q () { s with heap := h' }) : wpAny M A (noteFrame (.ref e) env) Q E s := by
  refine wpAny_mono (wpAny_keeps (keeps_note _ _) dt (wpAny_looks_onW (Q := fun _ s' => ∃ h', s' = { s with heap := h' } ∧ Heap.HeldW base (env :: outer) e cls a0 L h' ∧ s.heap.UpToSlots h') hfr hf hfl fun h' a b => ⟨h', rfl, a, b⟩)) (fun _ s' x => ?_) fun _ _ x => x.1
  obtain ⟨⟨h', rfl, a, b⟩, c⟩ := x
  exact hQ h' a b c
theorem lands_D (hh : Heap.HeldW base l e cls a0 L s.heap) (dt : DtAt e d s.heap)
    (hQ : ∀ h', Heap.FlyingW base l e cls a0 h' → s.heap.UpToSlots h' → DtAt e d h' → Q () { s with heap := h' }) : wpAny M A (setFlight (.ref e) none) Q E s := by
  refine wpAny_mono (wpAny_keeps (keeps_flight _ _) dt (wpAny_landsW (Q := fun _ s' => ∃ h', s' = { s with heap := h' } ∧ Heap.FlyingW base l e cls a0 h' ∧ s.heap.UpToSlots h') hh fun h' a b => ⟨h', rfl, a, b⟩)) (fun _ s' x => ?_) fun _ _ x => x.1
  obtain ⟨⟨h', rfl, a, b⟩, c⟩ := x
  exact hQ h' a b c
theorem again_D (hh : Heap.FlyingW base l e cls a0 s.heap) (dt : DtAt e d s.heap)
    (hQ : ∀ h', Heap.FlyingW base l e cls a0 h' → s.heap.UpToSlots h' → DtAt e d h' → Q () { s with heap := h' }) : wpAny M A (setFlight (.ref e) none) Q E s := by
  refine wpAny_mono (wpAny_keeps (keeps_flight _ _) dt (lands_againW (Q := fun _ s' => ∃ h', s' = { s with heap := h' } ∧ Heap.FlyingW base l e cls a0 h' ∧ s.heap.UpToSlots h') hh fun h' a b => ⟨h', rfl, a, b⟩)) (fun _ s' x => ?_) fun _ _ x => x.1
  obtain ⟨⟨h', rfl, a, b⟩, c⟩ := x
  exact hQ h' a b c
end
section
variable {prog : Program} {w : World} {A₀ : Around} {E : Value → Shared → Prop} {s' : Shared} {base g g₀ G : Heap} {outer : List Env} {L a e d : Addr} {m : Str → Option Value} {name : Str} {scope : Scope} {cd : Value}
  {n : Str} {b₀ : Stmt} {suite : List Stmt} {pos np : Pos} {rest : List ExceptHandler} {Q : Flow → Shared → Prop} {news : List (Addr × Obj)} {p : Program} {loose : List Str} {mean : ExcName → Option Value} {mg mb : Str → Option Value} {x : Str}
theorem caught_D (R : RzD base G (envOf name scope L a cd :: outer) e d news s'.heap) (F : Fr g L G m) (K : Below A₀ base outer g) (hsm : G.UpToSlots s'.heap) (XB : (hd.heap_39 w.params).In base) (TB : Top p loose mean mg mb base)
    (D : KtsDicts (outer.filterMap (·.frame)) g) (T0 : KtsTurn (outer.filterMap (·.frame)) g₀ g) (ex : nsIn (hd.heap_39 w.params) mainGlobals x = some (some (.ref 34)))
    (k : ∀ h' g' tk ws sl, KtsTurn (outer.filterMap (·.frame)) g₀ g' → Fr g' L h' (fun y => if y = n then some (.ref e) else m y) → News g' L h' ((e, excA d ws sl) :: news) → Below A₀ base outer g' → (hd.heap_39 w.params).In g' → Top p loose mean mg mb g' → KtsDicts (outer.filterMap (·.frame)) g' →
      wpAny (model prog w) ((A₀.deeper (envOf name scope L a cd)).mark (some (.ref e))) (execs (b₀ :: suite) (envOf name scope L a cd))
        (fun f s₄ => wpAny (model prog w) (A₀.deeper (envOf name scope L a cd)) (do bindName (envOf name scope L a cd) n .none; unbindBehindTheSuite (envOf name scope L a cd) n pos) (fun _ s₅ => Q f s₅) E s₄)
        (AsSuiteRaised (model prog w) ((A₀.deeper (envOf name scope L a cd)).mark (some (.ref e))) (envOf name scope L a cd) n pos (notedBy (model prog w) ((A₀.deeper (envOf name scope L a cd)).mark (some (.ref e))) (envOf name scope L a cd) (cameBackBy (model prog w) (A₀.deeper (envOf name scope L a cd)) (envOf name scope L a cd) E)))
        { s' with heap := h', toks := tk })
    (hk : scope.kind = .function := by rfl) (hlo : (envOf name scope L a cd).kindOf n = some .local := by rfl) (hx : (envOf name scope L a cd).kindOf x = some .globalImplicit := by rfl) (hd' : (x == ("__debug__" : Str)) = false := by decide) :
    wpAny (model prog w) (A₀.deeper (envOf name scope L a cd)) (noteFrame (.ref e) (envOf name scope L a cd))
      (fun _ s₂ => wpAny (model prog w) (A₀.deeper (envOf name scope L a cd)) (setFlight (.ref e) none) (fun _ s₃ =>
        wpAny (model prog w) (A₀.deeper (envOf name scope L a cd)) (handleBy (.ref e) (envOf name scope L a cd) (.ExceptHandler (some (.Name x np)) (some n) (b₀ :: suite) pos :: rest)) Q E s₃) E s₂) E s' := by
  obtain ⟨⟨B, a0, hB, hBG, hl, hfl⟩, dt⟩ := R
  have hL : B.get? L = none := by
    obtain ⟨_, ⟨L', _, hf, hn', _⟩, _⟩ := hfl.2.2.1
    obtain rfl : L = L' := Option.some.inj hf
    exact hn'
  refine looks_D (Around.frames_deeper K.stack) rfl hfl dt fun h₄ hheld₄ hsm₄ dt₄ => ?_
  refine lands_D hheld₄ dt₄ fun h₅ hheld hsm₅' dt₅ => ?_
  have hsm₅ := hsm₄.trans hsm₅'
  obtain ⟨g₅, T₅, F₅, K₅⟩ := kts_ground K F hBG hheld.1 (hsm.trans hsm₅)
  have X₅ : (hd.heap_39 w.params).In g₅ := XB.keeps K₅.stays
  have P₅ : TopRead p loose mg mb g₅ := topRead_of (TB.keeps K₅.stays)
  obtain ⟨ob, hob, hobc⟩ := hheld.there
  have hC₅ := excCls (X₅.keeps F₅.keep)
  refine wpAny_handleBy_cons (codeAny_handlers_test (name_K F₅ X₅ P₅ ex ?_ hk hx hd')) (by intro q; cases q)
  refine wpAny_excMatches_sub_self hC₅ hob hobc (by decide +kernel) (codeAny_handlers_suite_as ?_)
  refine again_D hheld dt₅ fun h₆ hfl₆ hsm₆ dt₆ => ?_
  obtain ⟨g₆, T₆, F₆, K₆⟩ := kts_ground K F hBG hfl₆.1 ((hsm.trans hsm₅).trans hsm₆)
  obtain ⟨oe, ws, hoe, hoec, hoed, hoe0⟩ := hfl₆.first
  obtain ⟨oe', q1, q2⟩ := dt₆
  rw [hoe] at q1
  cases q1
  have ne₆ : g₆.get? e = none := T₆.none_ _ (kts_fresh F hBG hfl₆.2.1 fun o ho m => by
    obtain ⟨_, o', ho', hd⟩ := K.frames.mem m
    rw [ho] at ho'
    cases ho'
    obtain ⟨sl, hs⟩ := ((hsm.trans hsm₅).trans hsm₆) _ _ (F.keep _ _ ho) hd
    rw [hoe] at hs
    cases hs
    exact hd _ hoed)
  obtain ⟨oc, od, oda, osl⟩ := oe
  dsimp only at hoec hoed q2
  subst hoec hoed q2
  have N₆ := News.more F₆ News.nil hoe (fun es n q => by cases q) ne₆
  have Nl : News g₆ L h₆ news := fun q hq => ⟨hfl₆.1 _ _ (hl q hq).1, (fun z => by have := (hl q hq).1; rw [z, hL] at this; cases this), T₆.none_ _ (kts_none F.keep (hl q hq).2.1)⟩
  have X₆ : (hd.heap_39 w.params).In g₆ := XB.keeps K₆.stays
  have P₆ : Top p loose mean mg mb g₆ := TB.keeps K₆.stays
  have D₆ : KtsDicts (outer.filterMap (·.frame)) g₆ := D.turn T₆
  refine stN F₆ (news := (e, excA d ws osl) :: news) (fun q hq => (List.mem_cons.mp hq).elim (fun z => N₆ q (z ▸ .head _)) (Nl q)) (fun h₇ F₇ N₇ => ?_) hk hlo
  exact k h₇ g₆ _ ws osl (T0.trans T₆) F₇ N₇ K₆ X₆ P₆ D₆
end

end

section
section
open PySem.Calls
variable {prog : Program} {w : World} {A : Around} {E : Value → Shared → Prop} {h : Heap} {g : Array GenState} {d : Drawn} {t : Nat} {os : OsState} {e dx : Addr} {ws : Array Value} {sl : Array (Option Value)} {oD : Obj} {mA mN : Str → Option Value} {v : Value}
theorem num_entry {tk : Tok} {Q : Fin → Shared → Prop} (X : (hd.heap_39 w.params).In h) (hx : h.get? e = some (excA dx ws sl)) (hns : h.Ns dx mA) (hv : mA (Str.ofString "number") = some v) (hn : h.Ns 33 mN) (hna : mN (Str.ofString "number") = none) (hB : typeLookup (.type "Exception") (Str.ofString "number") = pure none)
    (hq : Q (.done (.ret v)) ⟨h, g, d, t, os⟩) : wpAny (model prog w) A (Builtin.«object.__getattribute__» ⟨[.ref e, .str (Str.ofString "number") tk], []⟩) Q E ⟨h, g, d, t, os⟩ := by
  have hC := excCls X
  have FB := PySem.F.attrBase_Exception
  unfold Builtin.«object.__getattribute__»
  repeat (first | (with_reducible refine wpAny_loadPart_at hx ?_) | (with_reducible refine wpAny_loadPart_at hC ?_) | ((with_reducible refine wpAny_typeLookup_exc hC hn FB.mro hB ?_); rw [hna]) | ((with_reducible refine wpAny_nsGet hns ?_); rw [hv]) | wp_step)
  exact hq
theorem ga_check {nameV : Value} {M : Model} {Q : Unit → Shared → Prop} (X : (hd.heap_39 w.params).In h) (hx : h.get? e = some (excA dx ws sl)) (hq : Q () ⟨h, g, d, t, os⟩) : wpAny M A (checkBuiltinCall "BaseException.__getattribute__" ⟨[.ref e, nameV], []⟩) Q E ⟨h, g, d, t, os⟩ := by
  have hC := excCls X
  have hk : builtinKind "BaseException.__getattribute__" = some .slot := by decide +kernel
  have hsplit : splitId "BaseException.__getattribute__" = some ("BaseException", "__getattribute__") := by decide +kernel
  have hcB : (Value.ref 34 :: [Value.type "Exception", .type "BaseException", .type "object"]).contains (.type "BaseException") = true := by decide +kernel
  have ha := PySem.F.args_bexc_ga (.ref e) nameV
  simp only [checkBuiltinCall, hk, hsplit]
  refine wpAny_bind ?_
  unfold isInstance
  repeat (first | (with_reducible refine wpAny_loadPart_at hx ?_) | (with_reducible refine wpAny_isSubtype_exc hC ?_; rw [hcB]) | wp_step)
  exact hq
theorem num_attr {expr : Bool} {Q : Value → Shared → Prop} (X : (hd.heap_39 w.params).In h) (hx : h.get? e = some (excA dx ws sl)) (hns : h.Ns dx mA) (hv : mA (Str.ofString "number") = some v) (hn : h.Ns 33 mN) (hna : mN (Str.ofString "number") = none) (hng : mN (Str.ofString "__getattribute__") = none) (hnh : mN (Str.ofString "__getattr__") = none) (hB : typeLookup (.type "Exception") (Str.ofString "number") = pure none) (hh : handedOut v = pure v)
    (hq : Q v ⟨h, g, d, t + 1, os⟩) : wpAny (model prog w) A (getAttr (.ref e) (Str.ofString "number") expr) Q E ⟨h, g, d, t, os⟩ := by
  have hC := excCls X
  have FB := PySem.F.attrBase_Exception
  have f3 := FB.ga.bind (.ref e)
  have hx0 : (expr && onTheHeap (Value.builtin "BaseException.__getattribute__")) = false := by cases expr <;> rfl
  have hx2 : (Value.builtin "BaseException.__getattribute__" == Value.builtin "object.__getattribute__") = false := by decide +kernel
  unfold getAttr getAttrBy
  repeat (first | (with_reducible refine wpAny_loadPart_at hx ?_) | ((with_reducible refine wpAny_typeLookup_exc hC hn FB.mro FB.ga.lookup ?_); rw [hng]) | ((with_reducible refine wpAny_typeLookup_exc hC hn FB.mro FB.noGetattr ?_); rw [hnh]) | (with_reducible refine wpAny_of_eq f3 ?_) | (simp only [hx0, hx2, Bool.false_eq_true, if_false]) | wp_step)
  simp only [List.cons_append, List.nil_append]
  refine codeAny_call_builtin FB.ga.plain PySem.F.entry_bexc_ga (ga_check X hx (num_entry X hx hns hv hn hna hB ?_))
  show wpAny _ _ (handedOut v) _ _ _
  rw [hh]
  exact wpAny_pure hq
theorem num_K {h₀ : Heap} {L : Addr} {m : Str → Option Value} {news : List (Addr × Obj)} {s : Shared} {tk : Tok} {expr : Bool} {Q : Value → Shared → Prop} (F : Fr h₀ L s.heap m) (X₀ : (hd.heap_39 w.params).In h₀) (N : News h₀ L s.heap news) (he : (e, excA dx ws sl) ∈ news) (hd' : (dx, oD) ∈ news) (ho : NsO oD mA) (hv : mA (Str.ofString "number") = some (.int 8 tk))
    (hq : Q (.int 8 tk) { s with toks := s.toks + 1 }) : wpAny (model prog w) A (getAttr (.ref e) (Str.ofString "number") expr) Q E s := by
  obtain ⟨h, g, d, t, os⟩ := s
  have X := X₀.keeps F.keep
  exact num_attr X (N _ he).1 (ho _ _ (N _ hd').1).ns hv (.of_isNs (isNs_of_in X (by kernel_rfl))) (nsMap_none_of_in X (by kernel_rfl) (by rfl)) (nsMap_none_of_in X (by kernel_rfl) (by rfl)) (nsMap_none_of_in X (by kernel_rfl) (by rfl)) (by rw [typeLookup_type, builtinLookup_eq_fast]; kernel_rfl) rfl hq
end

end

section
section
variable {prog : Program} {w : World} {A₀ A : Around} {s : Shared} {base h₀ : Heap} {L : Addr} {env : Env} {m : Str → Option Value} {news : List (Addr × Obj)} {K : Frag} {p : Program} {loose : List Str} {mean : ExcName → Option Value} {mg mb : Str → Option Value}
    {R : Result → Shared → Prop} {name qual : Str} {params : Arguments} {body : List Stmt} {scope : Scope} {dV kV doc pm cdv ct oc : Value} {an od : Option Addr} {osl : Array (Option Value)} {f : Addr} {args : Args} {binds : List (Str × Value)}
theorem one_frame {b : Addr} (hf : env.frame = some L) (hm : b ∈ [env].filterMap (·.frame)) : b = L := by
  simpa [hf] using hm
/-- a def that catches, called from the law's own frame -/
theorem code_T (B : Below A₀ base [] h₀) (F : Fr h₀ L s.heap m) (X₀ : K.In h₀) (N : News h₀ L s.heap news) (T : Top p loose mean mg mb h₀) (hA : A.frames = some [env]) (hf : env.frame = some L) (hke : env.scope.kind = .function)
    (ho : K.lookup f = some ⟨oc, od, .func (fnOf name qual params body scope dV kV doc pm an cdv ct), osl⟩) (hcd : codeIn K cdv qual = true) (hroom : A.depth < recursionLimit)
    (hbind : BindsTo s (fnOf name qual params body scope dV kV doc pm an cdv ct) args binds) (hloc : ∀ y ∈ binds, scope.names.lookup y.1 = some .local)
    (h : ∀ g L' h₁, Fr h₀ L g m → Fr g L' h₁ (fun y => binds.reverse.lookup y) → News g L' h₁ news → Below A base [env] g → K.In g → Top p loose mean mg mb g → KtsDicts ([env].filterMap (·.frame)) g →
      wpAny (model prog w) (A.deeper (envOf qual scope L' f cdv)) (execs body (envOf qual scope L' f cdv))
        (fun fl s' => LeaveS0 ([env].filterMap (·.frame)) h₀ L m g R (match fl with | .ret v => v | _ => .none) s')
        (fun e s' => wpAny (model prog w) (A.deeper (envOf qual scope L' f cdv)) (leaving (envOf qual scope L' f cdv) e) (fun _ s'' => R (.error e) s'') (fun e' s'' => R (.error e') s'') s')
        { s with heap := h₁, toks := s.toks + binds.length })
    (hco : scope.isCoroutine = false) (hgen : scope.isGenerator = false) (hk : scope.kind = .function) (hcell : ∀ x ∈ scope.names, x.2 ≠ .cell) : codeAny (model prog w) A (.call (.ref f) args) R s := by
  have X := X₀.keeps F.keep
  obtain ⟨FG, BG, st, _⟩ := groundX (R := R) B F N hA hf hke
  refine codeAny_call_def (fd := fnOf name qual params body scope dV kV doc pm an cdv ct) (body := body) (binds := binds) hroom (X _ _ ho) rfl (T.nolimit.keeps F.keep) (codeRec_of X hcd) rfl hbind hcell hloc (fun h₁ hns hk₁ => ?_) hco hgen hk
  obtain ⟨oL, es, ep, hL, hLd, hLr⟩ := id FG.ns
  refine wpAny_mono (h _ s.heap.objs.size h₁ FG ⟨hns, fun b o e => hk₁ b o (of_hideAll _ e), Nat.le_of_eq (hideAll_size _ _)⟩
    (fun p hp => ⟨hk₁ _ _ (N p hp).1, Nat.ne_of_lt (Heap.lt_size (N p hp).1), hideAll_none _ (List.mem_map_of_mem hp)⟩) BG (X₀.keeps st) (T.keeps st) (fun b hb => by
      rw [one_frame hf hb]
      exact ⟨oL, es, ep, hL, hLd⟩)) (fun fl s' hl => ?_) fun _ _ y => y
  obtain ⟨g', L', m', news', T', F', N', k⟩ := hl
  have nL₀ : h₀.get? L = none := kts_self F
  obtain ⟨sl, hs⟩ := T'.up hL
  refine k ⟨⟨_, es, ep, F'.keep _ _ hs, hLd, hLr⟩, fun b o e => F'.keep b o (T'.other b o (st b o e) (fun q => by
    rw [one_frame hf q, nL₀] at e
    cases e)), F.above⟩ fun p hp => ⟨(N' p hp).1, fun q => ?_, ?_⟩
  · have := (N' p hp).2.2; rw [q, hs] at this; cases this
  · cases q : h₀.get? p.1 with
    | none => rfl
    | some o =>
      obtain ⟨sl', hs'⟩ := T'.up (st _ _ q)
      have := (N' p hp).2.2
      rw [hs'] at this
      cases this
end
/-- a call from the law's own frame -/
def ConT (k : Nat) (w : World) (mean : ExcName → Option Value) (mg mb : Str → Option Value) (f : Addr) (vs : List Value) (need : List (Addr × Obj) → Prop) (ret : Value) : Prop :=
  ∀ (dp un : Nat) (gd : Option (List Code)) (cn : Str) (cs : Scope) (a : Addr) (ccd : Value) (cl : List (Str × Addr)) (A₀ : Around) (base h₀ : Heap) (L : Addr) (m : Str → Option Value) (news : List (Addr × Obj)) (s : Shared) (Q E : Value → Shared → Prop),
    Below A₀ base [] h₀ → Fr h₀ L s.heap m → (hd.heap_39 w.params).In h₀ → News h₀ L s.heap news → Top hd.view_39 (looseW hd.view_39 [Str.ofString "SnobolError"]) mean mg mb h₀ → cs.kind = .function →
    (hd.heap_39 w.params).In base → Top hd.view_39 (looseW hd.view_39 [Str.ofString "SnobolError"]) mean mg mb base → need news → dp + k < recursionLimit → un + 20 * k < cLine →
    (∀ h' tk', Fr h₀ L h' m → News h₀ L h' news → Q ret { s with heap := h', toks := tk' }) →
    wpAny (model PySem.Challenge.rw_pq1123_01.row.prog w) (ktrTop dp un gd cn cs L a ccd cl []) (call (.ref f) vs) Q E s
theorem conx_use {k : Nat} {w : World} {mean : ExcName → Option Value} {mg mb : Str → Option Value} {f : Addr} {vs : List Value} {need : List (Addr × Obj) → Prop}
    {dp un : Nat} {gd : Option (List Code)} {cn : Str} {cs : Scope} {a : Addr} {ccd : Value} {cl : List (Str × Addr)} {outer : List Env} {A₀ : Around} {base h₀ : Heap} {L : Addr} {m : Str → Option Value} {news : List (Addr × Obj)} {s : Shared} {Q E : Value → Shared → Prop}
    (C : ConX k w mean mg mb f vs need) (hn : need news)
    (h : ∀ e d g oD tk v h' tk', Fr h₀ L g m → g.UpToSlots h' → RzD base g (envX cn cs L a ccd cl :: outer) e d ((d, oD) :: news) h' → (∀ q ∈ news, @Ne Nat q.1 d) → NsO oD (fun y => if y = Str.ofString "told" then some v else if y = Str.ofString "number" then some (.int 8 tk) else none) → E (.ref e) { s with heap := h', toks := tk' })
    (B : Below A₀ base outer h₀ := by k_asm) (F : Fr h₀ L s.heap m := by k_asm) (X : (hd.heap_39 w.params).In h₀ := by k_asm) (N : News h₀ L s.heap news := by k_asm) (T : Top hd.view_39 (looseW hd.view_39 [Str.ofString "SnobolError"]) mean mg mb h₀ := by k_asm) (hk : cs.kind = .function := by first | exact rfl | assumption)
    (hd : dp + k < recursionLimit := by ktr_room) (hu : un + 20 * k < cLine := by ktr_units) :
    wpAny (model PySem.Challenge.rw_pq1123_01.row.prog w) (ktrTop dp un gd cn cs L a ccd cl outer) (call (.ref f) vs) Q E s := C _ _ _ _ _ _ _ _ _ _ _ _ _ _ _ _ _ _ B F X N T hk hn hd hu h
section
open PySem.Calls
variable {prog : Program} {w : World} {A : Around} {E : Value → Shared → Prop} {s : Shared} {h₀ : Heap} {L la lb : Addr} {m : Str → Option Value} {news : List (Addr × Obj)} {xs ys : List Value} {n1 n2 : Nat} {Q : Value → Shared → Prop}
theorem cat_K (F : Fr h₀ L s.heap m) (N : News h₀ L s.heap news) (ma : (la, listOf (List.toArray xs) n1) ∈ news) (mb : (lb, listOf (List.toArray ys) n2) ∈ news) (hz : xs.length + ys.length ≤ 1000)
    (h : ∀ D h', Fr h₀ L h' m → News h₀ L h' ((D, listOf (List.toArray (xs ++ ys)) 0) :: news) → (∀ p ∈ news, p.1 < D) → Q (.ref D) { s with heap := h' }) : wpAny (model prog w) A (binaryOp .Add (.ref la) (.ref lb)) Q E s :=
  kmk_add_lit F N ⟨_, (N _ ma).1, rfl, n1, rfl⟩ ⟨_, (N _ mb).1, rfl, n2, rfl⟩ rfl h (by simp [sizeLine_eq]; omega)
end
/-- the statement that _law_compiles writes -/
inductive SuIn (w : World) (led : List (Addr × Obj)) (tv : Value) : Int → Value → Prop
  | p0 {a d : Addr} {t0 t1 t2 t3 t4 t5 t6 t7 t8 t9 tl tt : Tok} {n : Nat} {s1 : Addr} {n1 : Nat} {k1 : Tok} : (a, instObj 167 d) ∈ led →
      (d, stD w t0 t1 t2 t3 t4 t5 t6 t7 t8 t9 .none tv .none (.bool true) (.ref s1) .none .none .none (.int 1 tl) (.str (Str.ofString "") tt) n) ∈ led → (s1, tup [.str (Str.ofString "null") k1] n1) ∈ led → SuIn w led tv 0 (.ref a)
  | p1 {a d : Addr} {t0 t1 t2 t3 t4 t5 t6 t7 t8 t9 tl tt : Tok} {n : Nat} {s1 s2 s3 : Addr} {n1 n2 n3 : Nat} {k1 k2 k3 k4 k5 k6 : Tok} : (a, instObj 167 d) ∈ led →
      (d, stD w t0 t1 t2 t3 t4 t5 t6 t7 t8 t9 .none (.ref s1) (.ref s2) (.bool false) .none .none .none .none (.int 1 tl) (.str (Str.ofString "") tt) n) ∈ led →
      (s1, tup [.str (Str.ofString "name") k1, .str (Str.ofString "S") k2] n1) ∈ led → (s2, tup [.str (Str.ofString "binary") k3, .str (Str.ofString ".") k4, .ref s3, tv] n2) ∈ led → (s3, tup [.str (Str.ofString "name") k5, .str (Str.ofString "P") k6] n3) ∈ led → SuIn w led tv 1 (.ref a)
  | p2 {a d : Addr} {t0 t1 t2 t3 t4 t5 t6 t7 t8 t9 tl tt : Tok} {n : Nat} {s1 s2 : Addr} {n1 n2 : Nat} {k1 k2 k3 k4 : Tok} : (a, instObj 167 d) ∈ led →
      (d, stD w t0 t1 t2 t3 t4 t5 t6 t7 t8 t9 .none (.ref s1) (.ref s2) (.bool false) .none .none .none .none (.int 1 tl) (.str (Str.ofString "") tt) n) ∈ led →
      (s1, tup [.str (Str.ofString "name") k1, .str (Str.ofString "S") k2] n1) ∈ led → (s2, tup [.str (Str.ofString "unary") k3, .str (Str.ofString "@") k4, tv] n2) ∈ led → SuIn w led tv 2 (.ref a)
theorem SuIn.mono {w : World} {led led' : List (Addr × Obj)} {tv v : Value} {i : Int} (h : SuIn w led tv i v) (s : ∀ p ∈ led, p ∈ led') : SuIn w led' tv i v := by
  cases h with
  | p0 a b c => exact .p0 (s _ a) (s _ b) (s _ c)
  | p1 a b c d e => exact .p1 (s _ a) (s _ b) (s _ c) (s _ d) (s _ e)
  | p2 a b c d => exact .p2 (s _ a) (s _ b) (s _ c) (s _ d)
abbrev coOut (w : World) (_news led : List (Addr × Obj)) (r : Value) : Prop := ∃ (a d b sc f : Addr) (t0 t1 t2 t3 t4 tl : Tok) (n : Nat), r = .ref a ∧ (a, instObj 54 d) ∈ led ∧ (d, coD w t0 t1 t2 t3 t4 .none (.ref b) (.ref sc) (.ref f) (.int 1 tl) n) ∈ led
theorem con_retS {news l tl : List (Addr × Obj)} {h₀ h' : Heap} {L : Addr} {m : Str → Option Value} {s : Shared} {tk' : Nat} {Q : Value → Shared → Prop} {out : List (Addr × Obj) → List (Addr × Obj) → Value → Prop} {r : Value}
    (hret : ∀ r tl h' tk', Fr h₀ L h' m → News h₀ L h' (news ++ tl) → (∀ q ∈ news, ∀ p ∈ tl, @Ne Nat q.1 p.1) → out news tl r → Q r { s with heap := h', toks := tk' })
    (F : Fr h₀ L h' m) (N : News h₀ L h' l) (hs : ∀ p ∈ news, p ∈ l) (ht : ∀ p ∈ tl, p ∈ l) (ap : ∀ q ∈ news, ∀ p ∈ tl, @Ne Nat q.1 p.1) (O : out news tl r) : Q r { s with heap := h', toks := tk' } :=
  hret r tl h' tk' F (fun p hp => (List.mem_append.mp hp).elim (fun z => N p (hs p z)) (fun z => N p (ht p z))) ap O
theorem ap2 {news : List (Addr × Obj)} {x d : Addr} {ox od : Obj} (hx : @LT.lt Nat _ d x) (hd : ∀ q ∈ news, @LT.lt Nat _ q.1 d) : ∀ q ∈ news, ∀ p ∈ [(x, ox), (d, od)], @Ne Nat q.1 p.1 := by
  intro q hq p hp
  have := hd q hq
  rcases List.mem_cons.mp hp with rfl | hp
  · exact Nat.ne_of_lt (Nat.lt_trans this hx)
  · rw [List.mem_singleton.mp hp]; exact Nat.ne_of_lt this
theorem ht2 {l : List (Addr × Obj)} {p1 p2 : Addr × Obj} (h1 : p1 ∈ l) (h2 : p2 ∈ l) : ∀ p ∈ [p1, p2], p ∈ l := by
  intro p hp
  rcases List.mem_cons.mp hp with rfl | hp
  · exact h1
  · rw [List.mem_singleton.mp hp]; exact h2
theorem comp_end0 {h₀ h9 : Heap} {L : Addr} {m : Str → Option Value} {s₁ : Shared} {I C D : Addr} {oI oC oD : Obj} {S : List (Addr × Obj) → Prop} {rest : Value → List (Addr × Obj) → Prop} {y : Value} {tk9 : Nat} {news tl9 : List (Addr × Obj)}
    (F : Fr h₀ L h9 m) (N : News h₀ L h9 (((I, oI) :: (C, oC) :: (D, oD) :: news) ++ tl9)) (off : LCg.Off3 I C D news) (hl : ∀ q ∈ (I, oI) :: (C, oC) :: (D, oD) :: news, ∀ p ∈ tl9, @Ne Nat q.1 p.1)
    (hS : S (news ++ tl9)) (r : rest y (news ++ tl9)) : LCg.CompEnd h₀ L m s₁ I oI C oC D oD S rest y { s₁ with heap := h9, toks := tk9 } := by
  refine comp_end (news := news) (tl := []) (tl9 := tl9) F (by simpa using N) (by simpa using off) ?_ (by simpa using hS) (by simpa using r)
  simpa using hl
theorem offI2 {I : Addr} {nw : List (Addr × Obj)} (h : ∀ p ∈ nw, @LT.lt Nat _ p.1 I) : ∀ p ∈ nw, (@Ne Nat p.1 I) ∧ (@Ne Nat p.1 (I + 1)) := fun p hp => ⟨Nat.ne_of_lt (h p hp), Nat.ne_of_lt (Nat.lt_succ_of_lt (h p hp))⟩

end

section
/-- an exception of our class, noted in the frame that it leaves -/
structure RhD (base G : Heap) (l : List Env) (L e d : Addr) (news : List (Addr × Obj)) (h : Heap) : Prop where
  r : RaisedHN base G l L e (.ref 34) news h
  dt : DtAt e d h
theorem funFrames_but {B h h' : Heap} {C : Addr} (hs : Heap.SameBut C h h') : ∀ {l : List Env}, h.FunFrames B l → C ∉ l.filterMap (·.frame) → h'.FunFrames (B.hide C) l
  | [], _, _ => trivial
  | env :: r, ⟨hk, ⟨L, o, hf, hn, ho, hd⟩, hr⟩, hc => by
    have h1 : L ≠ C := fun q => hc (List.mem_filterMap.mpr ⟨env, .head _, q ▸ hf⟩)
    have h2 : C ∉ r.filterMap (·.frame) := fun q => by
      obtain ⟨e', he, hf'⟩ := List.mem_filterMap.mp q
      exact hc (List.mem_filterMap.mpr ⟨e', .tail _ he, hf'⟩)
    exact ⟨hk, ⟨L, o, hf, (Heap.hide_ne B h1).trans hn, (hs.2 L h1).trans ho, hd⟩, funFrames_but hs hr h2⟩
theorem held_but {B h h' : Heap} {l : List Env} {e L C : Addr} {cls a0 : Value} {oC : Obj} (hh : Heap.HeldW B l e cls a0 L h) (hs : Heap.SameBut C h h') (hC : h.get? C = some oC) (hd : ∀ vs, oC.data ≠ .fields vs) (hcl : C ∉ l.filterMap (·.frame)) : Heap.HeldW (B.hide C) l e cls a0 L h' := by
  obtain ⟨h1, h2, h3, oe, vs, T, oT, ts, t1, t2, t3, t4, t5, t6, t7, t8, t9⟩ := hh
  have eC : e ≠ C := fun q => by rw [q, hC] at t1; cases t1; exact hd _ t3
  have TC : T ≠ C := fun q => by rw [q, hC] at t7; cases t7; exact hd _ t8
  refine ⟨fun b o q => ?_, (Heap.hide_ne B eC).trans h2, funFrames_but hs h3 hcl, oe, vs, T, oT, ts, (hs.2 e eC).trans t1, t2, t3, t4, (Heap.hide_ne B TC).trans t5, t6, (hs.2 T TC).trans t7, t8, t9⟩
  have bC : b ≠ C := fun z => by rw [z, Heap.hide_self] at q; cases q
  exact (hs.2 b bC).trans (h1 b o (Heap.of_hide q))
theorem upto_but {g h h' : Heap} {C : Addr} (x : g.UpToSlots h) (hs : Heap.SameBut C h h') (hC : g.get? C = none) : g.UpToSlots h' := fun b o e hn => by
  have bC : b ≠ C := fun z => by rw [z, hC] at e; cases e
  obtain ⟨sl, q⟩ := x b o e hn
  exact ⟨sl, (hs.2 b bC).trans q⟩
section
variable {M : Model} {A : Around} {E : Value → Shared → Prop} {s : Shared} {base : Heap} {l : List Env} {L e d : Addr} {cls a0 : Value} {Q : Unit → Shared → Prop}
theorem onflight_D (hh : Heap.HeldW base l e cls a0 L s.heap) (dt : DtAt e d s.heap)
    (hQ : ∀ h', Heap.HeldW base l e cls a0 L h' → s.heap.UpToSlots h' → DtAt e d h' → Q () { s with heap := h' }) : wpAny M A (setFlight (.ref e) (some L)) Q E s := by
  refine wpAny_mono (wpAny_keeps (keeps_flight _ _) dt (Q := fun _ s' => ∃ h', s' = { s with heap := h' } ∧ Heap.HeldW base l e cls a0 L h' ∧ s.heap.UpToSlots h') ?_) (fun _ s' x => ?_) fun _ _ x => x.1
  · obtain ⟨hkb, hen, hl, oe, vs, T, oT, ts, he, hcls, hd, h1, hnT, hTe, hT, hdT, h3⟩ := hh
    have hsz3 : 3 < ts.size := (Array.getElem?_eq_some_iff.mp h3).1
    have other : ∀ b, b ≠ T → (s.heap.update T (Obj.mapFields (·.setIfInBounds 3 ((some L).elim Value.none fun f => rawInt f)))).get? b = s.heap.get? b := fun b hb => Heap.get?_update_other _ _ (Ne.symm hb)
    have noR : ∀ b o, s.heap.get? b = some o → (∀ vs, o.data ≠ .fields vs) → b ≠ T := fun b o hb hnf q => by
      rw [q, hT] at hb; injection hb with hb; subst hb; exact hnf ts hdT
    unfold setFlight
    refine wpAny_bind (wpAny_field he hd h1 ?_)
    rw [if_pos (show (Value.ref T != Value.none) = true from by simp)]
    refine wpAny_setField hT hdT hsz3 ⟨_, rfl, ⟨fun b o hbo => (other b fun q => by rw [q, hnT] at hbo; cases hbo).trans (hkb b o hbo), hen, hl.of_keeps fun b o hb hnf => ⟨o, (other b (noR b o hb hnf)).trans hb, rfl⟩, ?_⟩, fun b o hb hnf => ⟨o.slots, (other b (noR b o hb hnf)).trans hb⟩⟩
    exact ⟨oe, vs, T, _, _, (other e (Ne.symm hTe)).trans he, hcls, hd, h1, hnT, hTe, Heap.get?_update_self _ hT (Obj.isFreed_of_fields (Obj.data_mapFields hdT _)), Obj.data_mapFields hdT _, by simp [hsz3]⟩
  · obtain ⟨⟨h', rfl, a, b⟩, c⟩ := x
    exact hQ h' a b c
theorem passOn_D {α : Type} {what : String} {env : Env} {Q : α → Shared → Prop} (hf : env.frame = some L) (hh : Heap.HeldW base l e cls a0 L s.heap) (dt : DtAt e d s.heap)
    (hE : ∀ h', Heap.HeldW base l e cls a0 L h' → s.heap.UpToSlots h' → DtAt e d h' → E (.ref e) { s with heap := h' }) : wpAny M A (PySem.passOn what (.ref e) env : Sem α) Q E s := by
  obtain ⟨_, _, _, oe, vs, T, oT, ts, he, hcls, hd, h1, _⟩ := id hh
  unfold PySem.passOn
  refine wpAny_bind (wpAny_field he hd h1 ?_)
  rw [if_neg (show ¬ ((Value.ref T == Value.none) = true) from by simp), hf]
  first
    | exact wpAny_bind (wpAny_pure (wpAny_bind (onflight_D hh dt fun h' a b c => wpAny_throw (hE h' a b c))))
    | exact wpAny_bind (onflight_D hh dt fun h' a b c => wpAny_throw (hE h' a b c))
end
section
variable {M : Model} {A : Around} {E : Value → Shared → Prop} {s' : Shared} {base g G : Heap} {outer : List Env} {L a e d : Addr} {m : Str → Option Value} {name : Str} {scope : Scope} {cd : Value} {Q1 : Unit → Shared → Prop} {news : List (Addr × Obj)}
theorem leave_heldD {prog : Program} {w : World} {A₀ : Around} (R : RhD base G (envOf name scope L a cd :: outer) L e d news s'.heap) (F : Fr g L G m) (hsm : G.UpToSlots s'.heap)
    (hQ : ∀ h', RzD base g outer e d news h' → g.UpToSlots h' → Q1 () { s' with heap := h' }) :
    wpAny (model prog w) (A₀.deeper (envOf name scope L a cd)) (leaving (envOf name scope L a cd) (.ref e)) Q1 E s' := by
  refine wpAny_mono (wpAny_keeps (keeps_leaving _ _) R.dt (leave_heldSN R.r F hsm (Q1 := fun _ s => RaisedSN base g outer e (.ref 34) news s.heap ∧ g.UpToSlots s.heap ∧ ∃ h', s = { s' with heap := h' }) fun h' x1 _ x2 => ⟨x1, x2, h', rfl⟩)) (fun _ s x => ?_) fun _ _ x => x.1
  obtain ⟨⟨x1, x2, h', rfl⟩, x3⟩ := x
  exact hQ h' ⟨x1, x3⟩ x2
end
section
open PySem.Calls
variable {prog : Program} {w : World} {A : Around} {E : Value → Shared → Prop} {s : Shared} {env : Env}
theorem compX_free {M : Model} {e : Expr} {scope : Scope} {pos : Pos} {newAcc first : Sem Value} {g : Comprehension} {gs : List Comprehension} {cl : List (Str × Addr)} {use : Option (Value → Sem Unit)} {Q : Value → Shared → Prop}
    (hcl : clausesOf e = g :: gs) (hs : ∀ x, foldedSetIterable g.iter env x = pure x) (hclos : closureFor scope env = pure cl)
    (hkind : scope.kind = .function) (hnames : ∀ x ∈ scope.names, x.2 = .local → scope.names.lookup x.1 = some .local)
    (h : wpAny M A first (fun x s₁ => wpAny M A (pyIter x) (fun it s₂ => wpAny M A newAcc (fun acc s₃ =>
      wpAny M A (newFunctionEnv scope env.globals cl [] env.qual none .none (some env)) (fun cenv s₄ =>
        codeAny M A (.compStart e 0 it acc { cenv with scope := relabel scope env }) (fun r s' => match r with
          | .ok _ => False
          | .error x => ∃ m, s'.heap.Ns cenv.locals m ∧ ∀ h', Heap.SameBut cenv.locals s'.heap h' → wpAny M A (PySem.passOn "comprehension.variables-let-go" x { cenv with scope := relabel scope env } : Sem Value) (fun _ _ => False) E { s' with heap := h' }) s₄) E s₃) E s₂) E s₁) E s) :
    wpAny M A (comprehension e scope env pos newAcc false first use) Q E s := by
  unfold comprehension
  rw [hclos, hcl]
  refine wpAny_bind (wpAny_mono h (fun x s₁ h₁ => wpAny_bind (wpAny_standAt (wpAny_bind (wpAny_of_eq (hs x) (wpAny_bind (wpAny_holding (wpAny_mono h₁ (fun it s₂ h₂ =>
    wpAny_standIf (wpAny_bind (wpAny_mono h₂ (fun acc s₃ h₃ => wpAny_bind (wpAny_pure (wpAny_bind (wpAny_mono h₃ (fun cenv s₄ h₄ => ?_) fun _ _ h' => h')))) fun _ _ h' => h')))
      fun _ _ h' => h'))))))) fun _ _ h' => h')
  dsimp only
  have hv : ∀ x ∈ (scope.names.filter fun x => (x.2 == .local || x.2 == .cell) && x.1 != (".0" : Str)).reverse, x.2 = .local →
      Env.kindOf { cenv with scope := relabel scope env } x.1 = some .local := fun x hx hl => lookup_relabel_local (hnames x (List.mem_filter.mp (List.mem_reverse.mp hx)).1 hl)
  refine wpAny_holding (wpAny_bind (wpAny_attempt (wpAny_holding (wpAny_run (codeAny_mono h₄ fun r s' hr => ?_)))))
  cases r with
  | ok f => exact hr.elim
  | error x =>
    obtain ⟨m, hn, hr⟩ := hr
    cases use <;>
      exact wpAny_bind (wpAny_holding (wpAny_comp_letGo (cenv := { cenv with scope := relabel scope env }) hkind _ s' m hv hn fun h' m' _ hs' => wpAny_mono (hr h' hs') (fun _ _ f => f.elim) fun _ _ y => y))
end
section
open PySem.Calls
variable {prog : Program} {w : World} {A A₀ : Around} {E : Value → Shared → Prop} {s : Shared} {env : Env} {outer : List Env} {base h₀ : Heap} {L : Addr} {m : Str → Option Value}
abbrev exM (tk : Tok) (u : Value) : Str → Option Value := fun y => if y = Str.ofString "told" then some u else if y = Str.ofString "number" then some (.int 8 tk) else none
def RaiseSrc (prog : Program) (w : World) (A : Around) (base h₀ : Heap) (L : Addr) (m : Str → Option Value) (env : Env) (outer : List Env) (elt : Expr) (x : Str) (scope : Scope) (cl : List (Str × Addr)) (v : Value) (E : Value → Shared → Prop) (xv : Value) (s₁ : Shared) : Prop :=
  ∃ ax n news, xv = .ref ax ∧ A.handled = none ∧ Fr h₀ L s₁.heap m ∧ News h₀ L s₁.heap news ∧ (ax, listOf #[v] n) ∈ news ∧
    (∀ I oI C oC D m₂ h tk E', LCg.NsObj oC m₂ → m₂ x = some v → Fr h₀ L h m → News h₀ L h ((I, oI) :: (C, oC) :: (D, LCg.lst []) :: news) → LCg.Off3 I C D news → ((@Ne Nat I C) ∧ (@Ne Nat I D) ∧ (@Ne Nat C D)) →
      (∀ e d g oD tk u h' tk', Fr h₀ L g m → g.UpToSlots h' → RzD base g (env :: outer) e d ((d, oD) :: (I, oI) :: (C, oC) :: (D, LCg.lst []) :: news) h' → (∀ q ∈ (I, oI) :: (C, oC) :: (D, LCg.lst []) :: news, @Ne Nat q.1 d) → NsO oD (exM tk u) → E' (.ref e) { s₁ with heap := h', toks := tk' }) →
      wpAny (model prog w) A (eval elt (compEnvC scope cl C env)) (fun _ _ => False) E' { s₁ with heap := h, toks := tk }) ∧
    (∀ e d g oD tk u h' tk', Fr h₀ L g m → g.UpToSlots h' → RhD base g (env :: outer) L e d ((d, oD) :: news) h' → (∀ q ∈ news, @Ne Nat q.1 d) → NsO oD (exM tk u) → E (.ref e) { s₁ with heap := h', toks := tk' })
theorem comp_raise {elt iter : Expr} {x : Str} {px : Pos} {scope : Scope} {cl : List (Str × Addr)} {pos cpos : Pos} {use : Option (Value → Sem Unit)} {v : Value} {Q : Value → Shared → Prop} (_F₀ : Fr h₀ L s.heap m) (Bl : Below A₀ base outer h₀)
    (hclos : closureFor scope env = pure cl) (hcell : ∀ y ∈ scope.names, y.2 ≠ .cell) (hkind : scope.kind = .function) (hnames : ∀ y ∈ scope.names, y.2 = .local → scope.names.lookup y.1 = some .local) (hx : scope.names.lookup x = some .local)
    (hfr : A.frames = some (env :: outer)) (hf : env.frame = some L)
    (h : wpAny (model prog w) A (eval iter env) (RaiseSrc prog w A base h₀ L m env outer elt x scope cl v E) E s)
    (hs : ∀ x, foldedSetIterable iter env x = pure x := by intro _; rfl) :
    wpAny (model prog w) A (comprehension (.ListComp elt [⟨.Name x px, iter, [], 0⟩] scope pos) scope env cpos (newList []) false (eval iter env) use) Q E s := by
  refine compX_free rfl hs hclos hkind hnames (wpAny_mono h (fun xv s₁ h₁ => ?_) fun _ _ e => e)
  obtain ⟨ax, n, news, rfl, hh, F, N, hm, turn, fin⟩ := h₁
  have hl : s₁.heap.IsList ax #[v] := ⟨_, (N _ hm).1, rfl, n, rfl⟩
  have hlt : ax < s₁.heap.objs.size := Heap.lt_size (N _ hm).1
  have hne : ax ≠ s₁.heap.objs.size := Nat.ne_of_lt hlt
  have W := Walks.list (prog := prog) (w := w) hh s₁.heap.objs.size ax hne #[v]
  refine wpAny_pyIter_list hl ?_
  have up0 : ∀ b o, s₁.heap.get? b = some o → (s₁.heap.push { cls := .type "list_iterator", data := .fields #[.ref ax, .int 0 0] }).get? b = some o := fun b o e => Heap.get?_push_of_some _ e
  have st0 : (s₁.heap.push { cls := .type "list_iterator", data := .fields #[.ref ax, .int 0 0] }).IsListIter s₁.heap.objs.size ax 0 ∧ (s₁.heap.push { cls := .type "list_iterator", data := .fields #[.ref ax, .int 0 0] }).IsList ax #[v] :=
    ⟨⟨_, Heap.get?_push_size _ rfl, rfl, rfl⟩, hl.at fun o e => up0 _ o e⟩
  have hI₀ : h₀.get? s₁.heap.objs.size = none := next_is_new F
  have hIL : L ≠ s₁.heap.objs.size := Nat.ne_of_lt F.ns.lt
  have offI : ∀ p ∈ news, p.1 ≠ s₁.heap.objs.size := fun p hp => Nat.ne_of_lt (Heap.lt_size (N p hp).1)
  generalize hI : s₁.heap.objs.size = I at *
  generalize hH1 : s₁.heap.push { cls := .type "list_iterator", data := .fields #[.ref ax, .int 0 0] } = H1 at *
  have hI1 : I < H1.objs.size := by rw [← hH1, Heap.size_push, hI]; exact Nat.lt_succ_self _
  refine wpAny_newObj_type (wpAny_newFunctionEnv hcell (by intro y hy; simp at hy) (fun h₁ hns₁ hsb₁ => ?_) hkind)
  dsimp only at hns₁ hsb₁ ⊢
  generalize hH2 : H1.push { cls := .type "list", dict := none, data := .seq ([] : List Value).toArray } = H2 at hns₁ hsb₁ ⊢
  have hC : H2.objs.size = H1.objs.size + 1 := by rw [← hH2, Heap.size_push]
  have hDC : H1.objs.size ≠ H2.objs.size := by rw [hC]; exact Nat.ne_of_lt (Nat.lt_succ_self _)
  have below : ∀ b, b < H1.objs.size → b ≠ H2.objs.size ∧ b ≠ H1.objs.size := fun b hb => ⟨by rw [hC]; exact Nat.ne_of_lt (Nat.lt_succ_of_lt hb), Nat.ne_of_lt hb⟩
  have old : ∀ b o, H1.get? b = some o → h₁.get? b = some o := fun b o e => hsb₁.extBut b o (below b (Heap.lt_size e)).1 (Heap.get?_push_of_some _ (hH2 ▸ Heap.get?_push_of_some _ e))
  have hacc : h₁.get? H1.objs.size = some (LCg.lst []) := hsb₁.extBut _ _ hDC (Heap.get?_push_of_some _ (hH2 ▸ Heap.get?_push_size _ rfl))
  have st1 : h₁.IsListIter I ax 0 ∧ h₁.IsList ax #[v] := W.frame _ _ _ st0 fun b _ o e => old b o e
  have F1 : Fr h₀ L H1 m := F.keeps up0
  have N1 : News h₀ L H1 news := N.grown up0
  have fresh₀ : ∀ a, H1.objs.size ≤ a → h₀.get? a = none := fun a ha => by
    cases e : h₀.get? a with
    | none => rfl
    | some o' => exact absurd (Heap.lt_size (F1.keep a o' e)) (Nat.not_lt.mpr ha)
  have hD₀ : h₀.get? H1.objs.size = none := fresh₀ _ (Nat.le_refl _)
  have hC₀ : h₀.get? H2.objs.size = none := fresh₀ _ (by rw [hC]; exact Nat.le_succ _)
  have hLlt : L < H1.objs.size := F1.ns.lt
  have hDL : H1.objs.size ≠ L := Ne.symm (below L hLlt).2
  have hCL : H2.objs.size ≠ L := Ne.symm (below L hLlt).1
  have hCI : I ≠ H2.objs.size := (below I hI1).1
  have hDI : I ≠ H1.objs.size := (below I hI1).2
  have off₀ : LCg.Off3 I H2.objs.size H1.objs.size news := LCg.Off3.of fun p hp => ⟨offI p hp, (below _ (Heap.lt_size (N1 p hp).1)).1, (below _ (Heap.lt_size (N1 p hp).1)).2⟩
  have hCfr : H2.objs.size ∉ (env :: outer).filterMap (·.frame) := fun q => by
    obtain ⟨e', he, hf'⟩ := List.mem_filterMap.mp q
    rcases List.mem_cons.mp he with rfl | he
    · rw [hf] at hf'; exact hCL (Option.some.inj hf').symm
    · obtain ⟨_, o, ho, _⟩ := Bl.frames.mem (List.mem_filterMap.mpr ⟨e', he, hf'⟩)
      rw [hC₀] at ho; cases ho
  have loop : ∀ s₃ : Shared, s₃ = { s₁ with heap := h₁, toks := s₁.toks + ([] : List (Str × Value)).length } →
      codeAny (model prog w) A (.compLoop (.ListComp elt [⟨.Name x px, iter, [], 0⟩] scope pos) 0 (.ref I) (.ref H1.objs.size) (compEnvC scope cl H2.objs.size env))
        (fun r s' => match r with
          | .ok _ => False
          | .error x => ∃ m, s'.heap.Ns H2.objs.size m ∧ ∀ h', Heap.SameBut H2.objs.size s'.heap h' → wpAny (model prog w) A (PySem.passOn "comprehension.variables-let-go" x (compEnvC scope cl H2.objs.size env) : Sem Value) (fun _ _ => False) E { s' with heap := h' }) s₃ := by
    rintro s₃ rfl
    refine codeAny_compLoop_tests (fun k s' => k = 1 ∧ s' = { s₁ with heap := h₁, toks := s₁.toks + ([] : List (Str × Value)).length }) ?_ 1 ⟨rfl, rfl⟩
    rintro k s' ⟨rfl, rfl⟩
    refine W.item 0 _ _ _ (Nat.lt_succ_self 0) st1 fun v' h₂ tk₂ hPv hst₂ hk₂ => ?_
    obtain rfl : v = v' := by simpa using hPv
    refine wpAny_assign_Name (wpAny_storeName_local (lookup_relabel_local hx) (hns₁.at' fun o e => hk₂ _ o (by simpa using Ne.symm hCI) e) (fun h₃ hn₃ hs₃ => ?_) (by simp [compEnvC, relabel, hkind]))
    refine wpAny_tests_nil ?_
    simp only [if_true]
    have axH : ax < H1.objs.size := Heap.lt_size (N1 _ hm).1
    have hst₃ : h₃.IsListIter I ax 1 ∧ h₃.IsList ax #[v] := W.frame _ _ _ hst₂ fun b hb o e => hs₃.extBut b o (fun q => by
      have q' : b = H2.objs.size := q
      rcases List.mem_cons.mp hb with z | hb
      · exact hCI (z.symm.trans q')
      · exact (below ax axH).1 ((List.mem_singleton.mp hb).symm.trans q')) e
    obtain ⟨oI, heI, _⟩ := hst₃.1
    obtain ⟨oC, heC, hoC⟩ := LCg.ns_obj hn₃
    have F₂ : Fr h₀ L h₁ m := F1.keeps old
    have F₃ : Fr h₀ L h₃ m := (LCg.fr_but F₂ hk₂ hIL hI₀).change hs₃ hCL hC₀
    have N₁' : News h₀ L h₁ ((H1.objs.size, LCg.lst []) :: news) := fun p hp => by
      rcases List.mem_cons.mp hp with rfl | hp
      · exact ⟨hacc, hDL, hD₀⟩
      · exact ⟨old _ _ (N1 p hp).1, (N1 p hp).2⟩
    have N₂ : News h₀ L h₂ ((H1.objs.size, LCg.lst []) :: news) := LCg.news_but N₁' hk₂ fun p hp => by
      rcases List.mem_cons.mp hp with rfl | hp
      · exact Ne.symm hDI
      · exact (off₀.mem p hp).1
    have N₃ : News h₀ L h₃ ((I, oI) :: (H2.objs.size, oC) :: (H1.objs.size, LCg.lst []) :: news) := fun p hp => by
      rcases List.mem_cons.mp hp with rfl | hp
      · exact ⟨heI, Ne.symm hIL, hI₀⟩
      · rcases List.mem_cons.mp hp with rfl | hp
        · exact ⟨heC, hCL, hC₀⟩
        · have z := N₂ p hp
          refine ⟨hs₃.extBut _ _ ?_ z.1, z.2⟩
          rcases List.mem_cons.mp hp with rfl | hp
          · exact hDC
          · exact (off₀.mem p hp).2.1
    refine wpAny_mono (turn I oI H2.objs.size oC H1.objs.size _ h₃ _ _ hoC (by simp) F₃ N₃ off₀ ⟨hCI, hDI, Ne.symm hDC⟩ ?_) (fun _ _ f => f.elim) fun _ _ e => e
    intro e d g oD tk u h' tk' Fg U R z o
    obtain ⟨⟨B, a0, hB, hBG, hl', hfl⟩, dt⟩ := R
    show wpAny (model prog w) A (noteFrame (.ref e) env) _ _ _
    refine looks_D hfr hf hfl dt fun h4 hheld up4 dt4 => ?_
    have kC := hl' (H2.objs.size, oC) (.tail _ (.tail _ (.head _)))
    have hC4 : h4.get? H2.objs.size = some oC := hheld.1 _ _ kC.1
    obtain ⟨esC, epC, hdC, hrC⟩ := id hoC
    have nfC : ∀ vs, oC.data ≠ .fields vs := fun vs q => by rw [hdC] at q; cases q
    refine ⟨_, hoC.ns hC4, fun h5 hs5 => ?_⟩
    have eC : e ≠ H2.objs.size := fun q => by
      obtain ⟨_, _, _, oe, ws, _, _, _, t1, _, t3, _⟩ := id hheld
      rw [q, hC4] at t1
      cases t1
      exact nfC _ t3
    have hh5 := held_but hheld hs5 hC4 nfC hCfr
    have dt5 : DtAt e d h5 := by
      obtain ⟨oe, q1, q2⟩ := dt4
      exact ⟨oe, (hs5.2 e eC).trans q1, q2⟩
    refine passOn_D (env := compEnvC scope cl H2.objs.size env) hf hh5 dt5 fun h6 hh6 up6 dt6 => ?_
    refine fin e d g oD tk u h6 _ Fg ((upto_but (U.trans up4) hs5 kC.2.1).trans up6) ⟨⟨B.hide H2.objs.size, a0, fun b oo q => ?_, fun b oo q nm => ?_, fun q hq => ?_, hh6⟩, dt6⟩ (fun q hq => z q (.tail _ (.tail _ (.tail _ hq)))) o
    · have bC : b ≠ H2.objs.size := fun y => by rw [y, kC.2.2] at q; cases q
      exact (Heap.hide_ne B bC).trans (hB b oo q)
    · have bC : b ≠ H2.objs.size := fun y => by rw [y, kC.2.1] at q; cases q
      exact (Heap.hide_ne B bC).trans (hBG b oo q nm)
    · rcases List.mem_cons.mp hq with rfl | hq
      · have k2 := hl' (d, oD) (.head _)
        exact ⟨(Heap.hide_ne B (fun y => z (H2.objs.size, oC) (.tail _ (.head _)) y.symm)).trans k2.1, k2.2⟩
      · have k2 := hl' q (.tail _ (.tail _ (.tail _ (.tail _ hq))))
        exact ⟨(Heap.hide_ne B (off₀.mem q hq).2.1).trans k2.1, k2.2⟩
  exact codeAny_compStart_list (loop _ rfl) (W.self 0 _ _ _ st1 (loop _ rfl))
theorem assign_raise {elt iter : Expr} {x y : Str} {px py : Pos} {scope : Scope} {cl : List (Str × Addr)} {pos spos : Pos} {v : Value} {Q : Flow → Shared → Prop} (F₀ : Fr h₀ L s.heap m) (Bl : Below A₀ base outer h₀)
    (hsw : swapsWith (.ListComp elt [⟨.Name x px, iter, [], 0⟩] scope pos) (some (.Name y py)) spos.line env = pure true)
    (hclos : closureFor scope env = pure cl) (hcell : ∀ y ∈ scope.names, y.2 ≠ .cell) (hkind : scope.kind = .function) (hnames : ∀ y ∈ scope.names, y.2 = .local → scope.names.lookup y.1 = some .local) (hx : scope.names.lookup x = some .local)
    (hfr : A.frames = some (env :: outer)) (hf : env.frame = some L)
    (h : wpAny (model prog w) A (eval iter env) (RaiseSrc prog w A base h₀ L m env outer elt x scope cl v E) E s)
    (hs : ∀ x, foldedSetIterable iter env x = pure x := by intro _; rfl) :
    wpAny (model prog w) A (exec (.Assign [.Name y py] (.ListComp elt [⟨.Name x px, iter, [], 0⟩] scope pos) spos) env) Q E s := by
  rw [exec_Assign_Name_used _ _ _ _ hsw]
  refine wpAny_bind (wpAny_standAt (wpAny_bind ?_))
  show wpAny _ A (do let _ ← comprehension (.ListComp elt [⟨.Name x px, iter, [], 0⟩] scope pos) scope env _ (newList []) false (eval iter env) (some (assign (.Name y py) env))) _ _ s
  exact wpAny_bind (wpAny_mono (comp_raise (use := some (assign (.Name y py) env)) (Q := fun _ _ => False) F₀ Bl hclos hcell hkind hnames hx hfr hf h hs) (fun _ _ f => f.elim) fun _ _ e => e)
end

end

section
section
open PySem.Calls PyProof.V PySem.Spec PyProof.Rows.LCg
/-- behind such a turn: one object more -/
def EnEnd (h₀ : Heap) (L : Addr) (m : Str → Option Value) (led mk : List (Addr × Obj)) (J : Value → List (Addr × Obj) → Prop) (s₁ : Shared) (y : Value) (s₂ : Shared) : Prop :=
  ∃ h' tk' T ot, s₂ = { s₁ with heap := h', toks := tk' } ∧ Fr h₀ L h' m ∧ News h₀ L h' ((T, ot) :: led) ∧ (∀ p ∈ led, p.1 ≠ T) ∧ J y ((T, ot) :: mk)
theorem EnEnd.intro {h₀ h' : Heap} {L : Addr} {m : Str → Option Value} {led mk : List (Addr × Obj)} {J : Value → List (Addr × Obj) → Prop} {s₁ : Shared} {y : Value} {tk' : Nat} {T : Addr} {ot : Obj} (F : Fr h₀ L h' m) (N : News h₀ L h' ((T, ot) :: led)) (off : ∀ p ∈ led, p.1 ≠ T) (j : J y ((T, ot) :: mk)) :
    EnEnd h₀ L m led mk J s₁ y { s₁ with heap := h', toks := tk' } := ⟨h', tk', T, ot, rfl, F, N, off, j⟩
/-- a turn of a comprehension over enumerate(list): what the element's value makes -/
def EnTurn (prog : Program) (w : World) (A : Around) (h₀ : Heap) (L : Addr) (m : Str → Option Value) (env : Env) (elt : PySem.Expr) (a b : Str) (scope : Scope) (cl : List (Str × Addr)) (vs : List Value) (news : List (Addr × Obj)) (J : Nat → List Value → List (Addr × Obj) → Prop) (s : Shared) : Prop :=
  ∀ (i : Nat) (v : Value) (t : Tok) (e : Addr) (oe : Obj) (I : Addr) (oI : Obj) (C : Addr) (oC : Obj) (D : Addr) (m₂ : Str → Option Value) (ys : List Value) (mk : List (Addr × Obj)) (h : Heap) (tk : Nat) (E' : Value → Shared → Prop), vs[i]? = some v → J i ys mk → NsObj oC m₂ → m₂ a = some (.int (i : Int) t) → m₂ b = some v → Fr h₀ L h m →
    News h₀ L h ((e, oe) :: (I, oI) :: (C, oC) :: (D, lst ys) :: (mk ++ news)) →
    wpAny (model prog w) A (eval elt (compEnvC scope cl C env)) (EnEnd h₀ L m ((e, oe) :: (I, oI) :: (C, oC) :: (D, lst ys) :: (mk ++ news)) mk (fun y mk' => J (i + 1) (ys ++ [y]) mk') { s with heap := h, toks := tk }) E' { s with heap := h, toks := tk }
variable {prog : Program} {w : World} {A : Around} {E : Value → Shared → Prop} {s : Shared} {h₀ : Heap} {L : Addr} {m : Str → Option Value} {env : Env}
theorem en_block {elt iter : PySem.Expr} {a b : Str} {pa pb tp : Pos} {kk : Nat} {scope : Scope} {cl : List (Str × Addr)} {pos : Pos} {s₂ : Shared} {e it l : Addr} {lo : Obj} {nn : Nat} {vs : List Value} {news : List (Addr × Obj)} {J : Nat → List Value → List (Addr × Obj) → Prop} {old₀ : Value}
    {RR : Value → Addr → Result → Shared → Prop}
    (hh : A.handled = none) (hsz : vs.length ≤ sizeLine) (hE : IsEnum s₂.heap e it 0 old₀) (hI : s₂.heap.IsListIter it l 0) (hl : (l, lo) ∈ news) (hlc : lo.cls = .type "list") (hld : lo.data = .seq vs.toArray nn)
    (hcell : ∀ y ∈ scope.names, y.2 ≠ .cell) (hkind : scope.kind = .function) (hxa : scope.names.lookup a = some .local) (hxb : scope.names.lookup b = some .local) (hab : ¬ a = b)
    (F : Fr h₀ L s₂.heap m) (N : News h₀ L s₂.heap news) (hei : e ≠ it) (hLe : L ≠ e) (hLi : L ≠ it) (he₀ : h₀.get? e = none) (hi₀ : h₀.get? it = none) (off : ∀ p ∈ news, p.1 ≠ e ∧ p.1 ≠ it)
    (T : EnTurn prog w A h₀ L m env elt a b scope cl vs news J s₂) (j0 : J 0 [] [])
    (hRR : ∀ D C h tk m' ys mk, Fr h₀ L h m → News h₀ L h ((D, lst ys) :: (mk ++ news)) → (∀ p ∈ mk ++ news, p.1 ≠ D) → h.Ns C m' → h₀.get? C = none → h₀.get? D = none → C ≠ L → D ≠ L → C ≠ D → (∀ p ∈ mk ++ news, p.1 ≠ C) → J vs.length ys mk → RR (.ref D) C (.ok .next) { s₂ with heap := h, toks := tk }) :
    wpAny (model prog w) A (newList []) (fun acc s₃ => wpAny (model prog w) A (newFunctionEnv scope env.globals cl [] env.qual none .none (some env)) (fun cenv s₄ =>
      codeAny (model prog w) A (.compStart (.ListComp elt [⟨.Tuple [.Name a pa, .Name b pb] kk tp, iter, [], 0⟩] scope pos) 0 (.ref e) acc { cenv with scope := relabel scope env }) (RR acc cenv.locals) s₄) E s₃) E s₂ := by
  refine wpAny_newObj_type (wpAny_newFunctionEnv hcell (by intro y hy; simp at hy) (fun h₁ hns₁ hsb₁ => ?_) hkind)
  dsimp only at hns₁ hsb₁ ⊢
  generalize hH2 : s₂.heap.push { cls := .type "list", dict := none, data := .seq ([] : List Value).toArray } = H2 at hns₁ hsb₁ ⊢
  have hC : H2.objs.size = s₂.heap.objs.size + 1 := by rw [← hH2, Heap.size_push]
  have hDC : s₂.heap.objs.size ≠ H2.objs.size := by rw [hC]; exact Nat.ne_of_lt (Nat.lt_succ_self _)
  have below : ∀ b, b < s₂.heap.objs.size → b ≠ H2.objs.size ∧ b ≠ s₂.heap.objs.size := fun b hb => ⟨by rw [hC]; exact Nat.ne_of_lt (Nat.lt_succ_of_lt hb), Nat.ne_of_lt hb⟩
  have helt : e < s₂.heap.objs.size := Heap.lt_size hE
  have hIlt : it < s₂.heap.objs.size := by obtain ⟨o, q, _⟩ := hI; exact Heap.lt_size q
  have old : ∀ b o, s₂.heap.get? b = some o → h₁.get? b = some o := fun b o q => hsb₁.extBut b o (below b (Heap.lt_size q)).1 (Heap.get?_push_of_some _ (hH2 ▸ Heap.get?_push_of_some _ q))
  have hacc : h₁.get? s₂.heap.objs.size = some (lst []) := hsb₁.extBut _ _ hDC (Heap.get?_push_of_some _ (hH2 ▸ Heap.get?_push_size _ rfl))
  have hE₁ : IsEnum h₁ e it 0 old₀ := old _ _ hE
  have hI₁ : h₁.IsListIter it l 0 := by obtain ⟨o, q, r⟩ := hI; exact ⟨o, old _ _ q, r⟩
  have fresh₀ : ∀ a, s₂.heap.objs.size ≤ a → h₀.get? a = none := fun a ha => by
    cases q : h₀.get? a with
    | none => rfl
    | some o' => exact absurd (Heap.lt_size (F.keep a o' q)) (Nat.not_lt.mpr ha)
  have hD₀ : h₀.get? s₂.heap.objs.size = none := fresh₀ _ (Nat.le_refl _)
  have hC₀ : h₀.get? H2.objs.size = none := fresh₀ _ (by rw [hC]; exact Nat.le_succ _)
  have hLlt : L < s₂.heap.objs.size := F.ns.lt
  have hDL : s₂.heap.objs.size ≠ L := Ne.symm (below L hLlt).2
  have hCL : H2.objs.size ≠ L := Ne.symm (below L hLlt).1
  have hCe : e ≠ H2.objs.size := (below e helt).1
  have hDe : e ≠ s₂.heap.objs.size := (below e helt).2
  have hCI : it ≠ H2.objs.size := (below it hIlt).1
  have hDI : it ≠ s₂.heap.objs.size := (below it hIlt).2
  have hle : l ≠ e := (off _ hl).1
  have hli : l ≠ it := (off _ hl).2
  have W := KTurns.ofWalksU (elts := [.Name a pa, .Name b pb]) (k := kk) (pos := tp) (WalksT.enumerate (prog := prog) (w := w) hh e it l hei hle hli vs.toArray).toU
  have loop : ∀ s₃ : Shared, s₃ = { s₂ with heap := h₁, toks := s₂.toks + ([] : List (Str × Value)).length } →
      codeAny (model prog w) A (.compLoop (.ListComp elt [⟨.Tuple [.Name a pa, .Name b pb] kk tp, iter, [], 0⟩] scope pos) 0 (.ref e) (.ref s₂.heap.objs.size) (compEnvC scope cl H2.objs.size env))
        (RR (.ref s₂.heap.objs.size) H2.objs.size) s₃ := by
    rintro s₃ rfl
    refine kcp_loop
      (fun k s' => ∃ h' tk i ys m' mk, s' = { s₂ with heap := h', toks := tk } ∧ i ≤ vs.length ∧ k = vs.length + 1 - i ∧ ys.length = i ∧ (∃ old, IsEnum h' e it (i : Nat) old) ∧ h'.IsListIter it l i ∧ Fr h₀ L h' m ∧ h'.Ns H2.objs.size m' ∧
        News h₀ L h' ((s₂.heap.objs.size, lst ys) :: (mk ++ news)) ∧ (∀ p ∈ mk ++ news, p.1 ≠ e ∧ p.1 ≠ it ∧ p.1 ≠ H2.objs.size ∧ p.1 ≠ s₂.heap.objs.size) ∧ J i ys mk) ?_ (vs.length + 1)
      ⟨h₁, _, 0, [], _, [], rfl, Nat.zero_le _, rfl, rfl, ⟨_, hE₁⟩, hI₁, F.keeps old, hns₁, fun p hp => ?_, fun p hp => ?_, j0⟩
    · rintro k s' ⟨h', tk, i, ys, m', mk, rfl, hi, rfl, hyl, ⟨oldv, hE'⟩, hI', F', hn', N', off', j'⟩
      have hl' : h'.IsList l vs.toArray := ⟨lo, (N' _ (List.mem_cons_of_mem _ (List.mem_append_right _ hl))).1, hlc, _, hld⟩
      by_cases hlt : i < vs.length
      · refine W.item i _ _ _ (by simpa using hlt) ⟨⟨oldv, hE'⟩, hI', hl'⟩ fun v h₂ tk₂ hMd hk₂ => ?_
        refine W.go i v _ _ _ hMd fun h₃ hP hst₃ hk₃ => ?_
        obtain ⟨Tt, vals, rfl, ⟨t, x, hx, rfl⟩, hT⟩ := hP
        have hx' : vs[i]? = some x := by simpa using hx
        have up₃ : ∀ c o, c ≠ e → c ≠ it → h'.get? c = some o → h₃.get? c = some o := fun c o h1 h2 q => hk₃ c o (by simp [h1, h2]) (hk₂ c o (by simp [h1, h2]) q)
        refine kcp_assign (env := compEnvC scope cl H2.objs.size env) hh hT (lookup_relabel_local hxa) (lookup_relabel_local hxb) (by simp [compEnvC, relabel, hkind]) (hn'.at' fun o q => up₃ _ o (Ne.symm hCe) (Ne.symm hCI) q) fun h₄ tk₄ hn₄ hs₄ => ?_
        have up : ∀ c o, c ≠ e → c ≠ it → c ≠ H2.objs.size → h'.get? c = some o → h₄.get? c = some o := fun c o h1 h2 h3 q => hs₄ c o h3 (up₃ c o h1 h2 q)
        obtain ⟨⟨oldw, hE₃⟩, hI₃, _⟩ := hst₃
        obtain ⟨oe, hee, hoe⟩ : ∃ oe : Obj, h₄.get? e = some oe ∧ ∀ h : Heap, h.get? e = some oe → ∃ old, IsEnum h e it ((i + 1 : Nat) : Int) old := ⟨_, hs₄ e _ hCe hE₃, fun _ q => ⟨_, q⟩⟩
        obtain ⟨oI, heI, hoI⟩ : ∃ oI : Obj, h₄.get? it = some oI ∧ ∀ h : Heap, h.get? it = some oI → h.IsListIter it l (i + 1) := by obtain ⟨o, q, r⟩ := hI₃; exact ⟨o, hs₄ it _ hCI q, fun _ q' => ⟨o, q', r⟩⟩
        obtain ⟨oC, heC, hoC⟩ := ns_obj hn₄
        have F₄ : Fr h₀ L h₄ m := ⟨F'.ns.at' fun o q => up _ o hLe hLi (Ne.symm hCL) q, fun c o q => up c o (fun z => by rw [z, he₀] at q; cases q) (fun z => by rw [z, hi₀] at q; cases q) (fun z => by rw [z, hC₀] at q; cases q) (F'.keep c o q), F'.above⟩
        have N₄ : News h₀ L h₄ ((e, oe) :: (it, oI) :: (H2.objs.size, oC) :: (s₂.heap.objs.size, lst ys) :: (mk ++ news)) := fun q hq => by
          rcases List.mem_cons.mp hq with rfl | hq
          · exact ⟨hee, Ne.symm hLe, he₀⟩
          rcases List.mem_cons.mp hq with rfl | hq
          · exact ⟨heI, Ne.symm hLi, hi₀⟩
          rcases List.mem_cons.mp hq with rfl | hq
          · exact ⟨heC, hCL, hC₀⟩
          have z := N' q hq
          refine ⟨up _ _ ?_ ?_ ?_ z.1, z.2⟩
          · rcases List.mem_cons.mp hq with rfl | hq
            · exact Ne.symm hDe
            · exact (off' q hq).1
          · rcases List.mem_cons.mp hq with rfl | hq
            · exact Ne.symm hDI
            · exact (off' q hq).2.1
          · rcases List.mem_cons.mp hq with rfl | hq
            · exact hDC
            · exact (off' q hq).2.2.1
        refine wpAny_mono (T i x t e oe it oI H2.objs.size oC s₂.heap.objs.size _ ys mk h₄ _ _ hx' j' hoC (by simp [hab]) (by simp) F₄ N₄) (fun y s₅ h₅ => ?_) fun _ _ q => q
        obtain ⟨h₅, tk₅, Tn, ot, rfl, F₅, N₅, off₅, j₅⟩ := h₅
        have zD := (N₅ (s₂.heap.objs.size, lst ys) (.tail _ (.tail _ (.tail _ (.tail _ (.head _)))))).1
        have zE := (N₅ (e, oe) (.tail _ (.head _))).1
        have zI := (N₅ (it, oI) (.tail _ (.tail _ (.head _)))).1
        have zC := (N₅ (H2.objs.size, oC) (.tail _ (.tail _ (.tail _ (.head _))))).1
        refine append_at (hsz := by show ys.toArray.size ≤ sizeLine; rw [List.size_toArray, hyl]; exact Nat.le_trans hi hsz) zD fun h₆ hs₆ hD₆ => ?_
        have off6 : ∀ p ∈ (Tn, ot) :: (mk ++ news), p.1 ≠ e ∧ p.1 ≠ it ∧ p.1 ≠ H2.objs.size ∧ p.1 ≠ s₂.heap.objs.size := by
          intro p hp
          rcases List.mem_cons.mp hp with rfl | hp
          · exact ⟨(off₅ _ (.head _)).symm, (off₅ _ (.tail _ (.head _))).symm, (off₅ _ (.tail _ (.tail _ (.head _)))).symm, (off₅ _ (.tail _ (.tail _ (.tail _ (.head _))))).symm⟩
          · exact off' p hp
        refine ⟨vs.length + 1 - (i + 1), by omega, h₆, tk₅, i + 1, ys ++ [y], _, (Tn, ot) :: mk, rfl, hlt, rfl, by rw [List.length_append, List.length_singleton, hyl], hoe h₆ (hs₆.extBut e oe hDe zE), hoI h₆ (hs₆.extBut it oI hDI zI), F₅.change hs₆ hDL hD₀,
          (hoC.ns zC).sameBut hs₆ (Ne.symm hDC), fun q hq => ?_, off6, j₅⟩
        rcases List.mem_cons.mp hq with rfl | hq
        · exact ⟨hD₆.trans (congrArg some (lst_snoc ys y)), hDL, hD₀⟩
        · have z : News h₀ L h₅ ((Tn, ot) :: (mk ++ news)) := news_sub N₅ fun p hp => by
            rcases List.mem_cons.mp hp with rfl | hp
            · exact .head _
            · exact .tail _ (.tail _ (.tail _ (.tail _ (.tail _ hp))))
          exact ⟨hs₆.extBut _ _ (off6 q hq).2.2.2 (z q hq).1, (z q hq).2⟩
      · have hin : i = vs.length := Nat.le_antisymm hi (Nat.not_lt.mp hlt)
        subst hin
        refine W.done _ _ _ ⟨⟨oldv, by simpa using hE'⟩, by simpa using hI', hl'⟩ fun h₂ tk₂ hk₂ => ?_
        have up : ∀ c o, c ≠ e → c ≠ it → h'.get? c = some o → h₂.get? c = some o := fun c o h1 h2 q => hk₂ c o (by simp [h1, h2]) q
        exact hRR _ _ h₂ tk₂ _ ys mk ⟨F'.ns.at' fun o q => up _ o hLe hLi q, fun c o q => up c o (fun z => by rw [z, he₀] at q; cases q) (fun z => by rw [z, hi₀] at q; cases q) (F'.keep c o q), F'.above⟩
          (fun p hp => ⟨up _ _ (by
            rcases List.mem_cons.mp hp with rfl | hp
            · exact Ne.symm hDe
            · exact (off' p hp).1) (by
            rcases List.mem_cons.mp hp with rfl | hp
            · exact Ne.symm hDI
            · exact (off' p hp).2.1) (N' p hp).1, (N' p hp).2⟩) (fun p hp => (off' p hp).2.2.2) (hn'.at' fun o q => up _ o (Ne.symm hCe) (Ne.symm hCI) q) hC₀ hD₀ hCL hDL (Ne.symm hDC) (fun p hp => (off' p hp).2.2.1) j'
    · rcases List.mem_cons.mp hp with rfl | hp
      · exact ⟨hacc, hDL, hD₀⟩
      · exact ⟨old _ _ (N p hp).1, (N p hp).2⟩
    · exact ⟨(off p hp).1, (off p hp).2, (below _ (Heap.lt_size (N p hp).1)).1, (below _ (Heap.lt_size (N p hp).1)).2⟩
  exact codeAny_compStart_list (loop _ rfl) (wpAny_pyIter_enum hE₁ (loop _ rfl))
end
section
open PySem.Calls PyProof.V PySem.Spec PyProof.Rows.LCg
variable {prog : Program} {w : World} {A : Around} {E : Value → Shared → Prop} {s : Shared} {h₀ : Heap} {L : Addr} {m : Str → Option Value} {env : Env}
/-- what stands when enumerate(list) has been called for a comprehension -/
def EnSrc (prog : Program) (w : World) (A : Around) (h₀ : Heap) (L : Addr) (m : Str → Option Value) (env : Env) (elt : PySem.Expr) (a b : Str) (scope : Scope) (cl : List (Str × Addr)) (Q : Value → Shared → Prop) (xv : Value) (s₁ : Shared) : Prop :=
  ∃ (l : Addr) (lo : Obj) (nn : Nat) (vs : List Value) (news : List (Addr × Obj)) (J : Nat → List Value → List (Addr × Obj) → Prop) (e it : Addr) (old₀ : Value), xv = .ref e ∧ A.handled = none ∧ vs.length ≤ sizeLine ∧ IsEnum s₁.heap e it 0 old₀ ∧ s₁.heap.IsListIter it l 0 ∧ (l, lo) ∈ news ∧ lo.cls = .type "list" ∧ lo.data = .seq vs.toArray nn ∧
    Fr h₀ L s₁.heap m ∧ News h₀ L s₁.heap news ∧ e ≠ it ∧ L ≠ e ∧ L ≠ it ∧ h₀.get? e = none ∧ h₀.get? it = none ∧ (∀ p ∈ news, p.1 ≠ e ∧ p.1 ≠ it) ∧ EnTurn prog w A h₀ L m env elt a b scope cl vs news J s₁ ∧ J 0 [] [] ∧
    ∀ D h tk ys mk, Fr h₀ L h m → News h₀ L h ((D, lst ys) :: (mk ++ news)) → (∀ p ∈ mk ++ news, p.1 ≠ D) → J vs.length ys mk → Q (.ref D) { s₁ with heap := h, toks := tk }
theorem en_ListComp {elt iter : PySem.Expr} {a b : Str} {pa pb tp : Pos} {kk : Nat} {scope : Scope} {cl : List (Str × Addr)} {pos : Pos} {Q : Value → Shared → Prop} (_F₀ : Fr h₀ L s.heap m)
    (hclos : closureFor scope env = pure cl) (hcell : ∀ y ∈ scope.names, y.2 ≠ .cell) (hkind : scope.kind = .function)
    (hnames : ∀ y ∈ scope.names, y.2 = .local → scope.names.lookup y.1 = some .local) (hxa : scope.names.lookup a = some .local) (hxb : scope.names.lookup b = some .local) (hab : ¬ a = b)
    (h : wpAny (model prog w) A (eval iter env) (EnSrc prog w A h₀ L m env elt a b scope cl Q) E s)
    (hs : ∀ x, foldedSetIterable iter env x = pure x := by intro _; rfl) :
    wpAny (model prog w) A (eval (.ListComp elt [⟨.Tuple [.Name a pa, .Name b pb] kk tp, iter, [], 0⟩] scope pos) env) Q E s := by
  rw [eval_ListComp]
  refine wpAny_comprehension_free (use := none) rfl hs hclos hkind hnames (wpAny_mono h (fun xv s₁ h₁ => ?_) fun _ _ e => e)
  obtain ⟨l, lo, nn, vs, news, J, e, it, old₀, rfl, hh, hsz, hE, hI, hl, hlc, hld, F, N, hei, hLe, hLi, he₀, hi₀, off, T, j0, fin⟩ := h₁
  refine wpAny_pyIter_enum hE ?_
  refine en_block hh hsz hE hI hl hlc hld hcell hkind hxa hxb hab F N hei hLe hLi he₀ hi₀ off T j0 ?_
  intro D C h tk m' ys mk F' N' o1 hn hC₀ hD₀ hCL hDL hCD offC j
  refine ⟨m', hn, fun h'' hs'' => fin D h'' tk ys mk (F'.change hs'' hCL hC₀) (fun p hp => ?_) o1 j⟩
  refine ⟨hs''.extBut _ _ ?_ (N' p hp).1, (N' p hp).2⟩
  rcases List.mem_cons.mp hp with rfl | hp
  · exact Ne.symm hCD
  · exact offC p hp
theorem en_src {elt : PySem.Expr} {a b : Str} {scope : Scope} {cl : List (Str × Addr)} {Q : Value → Shared → Prop} {l : Addr} {lo : Obj} {nn : Nat} {vs : List Value} {news : List (Addr × Obj)} (J : Nat → List Value → List (Addr × Obj) → Prop)
    (hh : A.handled = none) (F : Fr h₀ L s.heap m) (N : News h₀ L s.heap news) (hl : (l, lo) ∈ news) (hlc : lo.cls = .type "list") (hld : lo.data = .seq vs.toArray nn) (hsz : vs.length ≤ sizeLine)
    (T : ∀ g, EnTurn prog w A h₀ L m env elt a b scope cl vs news J { s with heap := g }) (j0 : J 0 [] [])
    (fin : ∀ D h tk ys mk, Fr h₀ L h m → News h₀ L h ((D, lst ys) :: (mk ++ news)) → (∀ p ∈ mk ++ news, p.1 ≠ D) → J vs.length ys mk → Q (.ref D) { s with heap := h, toks := tk }) :
    wpAny (model prog w) A (call (.type "enumerate") [.ref l]) (EnSrc prog w A h₀ L m env elt a b scope cl Q) E s := by
  have fresh₀ : ∀ a, s.heap.objs.size ≤ a → h₀.get? a = none := fun a ha => by
    cases q : h₀.get? a with
    | none => rfl
    | some o' => exact absurd (Heap.lt_size (F.keep a o' q)) (Nat.not_lt.mpr ha)
  have hLs : L < s.heap.objs.size := F.ns.lt
  refine call_enumerate_list ⟨lo, (N _ hl).1, hlc, nn, hld⟩ fun h' hE hI hsz' hk => ?_
  exact ⟨l, lo, nn, vs, news, J, _, _, _, rfl, hh, hsz, hE, hI, hl, hlc, hld, F.keeps hk, N.grown hk, Nat.succ_ne_self _, Nat.ne_of_lt (Nat.lt_succ_of_lt hLs), Nat.ne_of_lt hLs, fresh₀ _ (Nat.le_succ _), fresh₀ _ (Nat.le_refl _),
    fun p hp => ⟨Nat.ne_of_lt (Nat.lt_succ_of_lt (Heap.lt_size (N p hp).1)), Nat.ne_of_lt (Heap.lt_size (N p hp).1)⟩, T _, j0, fin⟩
end

end

section
/-- a tree whose value is one order, in a ledger -/
inductive ValIn (led : List (Addr × Obj)) : Value → String → (Tok → Value) → Prop
  | null {a : Addr} {n : Nat} {k : Tok} : (a, tup [.str (Str.ofString "null") k] n) ∈ led → ValIn led (.ref a) "PUSH" (fun k => .str (Str.ofString "") k)
  | text {a : Addr} {n : Nat} {k k' : Tok} {x : Str} : (a, tup [.str (Str.ofString "text") k, .str x k'] n) ∈ led → ValIn led (.ref a) "PUSH" (fun k => .str x k)
  | whole {a : Addr} {n : Nat} {k k' : Tok} {i : Int} : (a, tup [.str (Str.ofString "whole") k, .int i k'] n) ∈ led → ValIn led (.ref a) "PUSH" (fun k => .int i k)
  | name {a : Addr} {n : Nat} {k k' : Tok} {x : Str} : (a, tup [.str (Str.ofString "name") k, .str x k'] n) ∈ led → ValIn led (.ref a) "VAR" (fun k => .str x k)
abbrev noneOut (news tl : List (Addr × Obj)) (r : Value) : Prop := ∃ a n, tl = [(a, listOf #[] n)] ∧ r = .ref a ∧ AllLt a news
abbrev valOut (op : String) (y : Tok → Value) (news tl : List (Addr × Obj)) (r : Value) : Prop := ∃ a n o m k k', tl = [(a, listOf #[.ref o] n), (o, tup [.str (Str.ofString op) k, y k'] m)] ∧ r = .ref a ∧ AllLt a ((o, tup [.str (Str.ofString op) k, y k'] m) :: news) ∧ AllLt o news
abbrev cdOut (w : World) (lv b sc f li : Value) (news tl : List (Addr × Obj)) (r : Value) : Prop := ∃ a d t0 t1 t2 t3 t4 n, tl = [(a, instObj 54 d), (d, coD w t0 t1 t2 t3 t4 lv b sc f li n)] ∧ r = .ref a ∧ @LT.lt Nat _ d a ∧ AllLt d news
theorem go_none (w : World) (mean : ExcName → Option Value) (mg mb : Str → Option Value) : Con 3 w mean mg mb 128 [.none] (fun _ => True) noneOut := by
  unfold Con
  k_fill
  intro dp un gd cn cs a ccd cl outer A₀ base h₀ L m news s Q E B F X N T hk hst hd hu hret
  refine wpAny_call ?_
  k_dflt ktr_enter
  k_steps
  all_goals tb_start
  all_goals exact ⟨_, _, rfl, rfl, by first | assumption | exact allLt_of (by assumption)⟩
theorem val_con (w : World) (mean : ExcName → Option Value) (mg mb : Str → Option Value) (v : Value) (op : String) (y : Tok → Value) : Con 3 w mean mg mb 86 [v] (fun news => ValIn news v op y) (valOut op y) := by
  unfold Con
  k_fill
  intro dp un gd cn cs a ccd cl outer A₀ base h₀ L m news s Q E B F X N T hk hst hd hu hret
  refine wpAny_call ?_
  cases hst
  all_goals k_dflt ktr_enter
  all_goals k_steps
  all_goals tb_start
  all_goals exact ⟨_, _, _, _, _, _, rfl, rfl, by first | assumption | exact allLt_of (by assumption), by first | assumption | exact allLt_of (by assumption)⟩
theorem co_con (w : World) (mean : ExcName → Option Value) (mg mb : Str → Option Value) (lv b sc f li : Value) (h0 : handedIn lv = true) (h1 : handedIn b = true) (h2 : handedIn sc = true) (h3 : handedIn f = true) (h4 : handedIn li = true) : Con 3 w mean mg mb 54 [lv, b, sc, f, li] (fun _ => True) (cdOut w lv b sc f li) := by
  unfold Con
  k_fill
  intro dp un gd cn cs a ccd cl outer A₀ base h₀ L m news s Q E B F X N T hk hst hd hu hret
  k_dflt (refine' call_cls ?k1 ?k2 ?k3 ?k4 ?k5 ?k6 ?_; (case k1 => k_asm); (case k2 => k_asm); (case k3 => k_asm); (case k4 => k_is); (case k5 => k_is); (case k6 => k_is); k_whole; intro x' d' h' F' N' l1 l2; (try k_lt l1); (try k_lt2 l2); ktr_enter)
  k_steps
  all_goals tb_start
  all_goals exact ⟨_, _, _, _, _, _, _, _, rfl, rfl, by first | assumption | exact allLt_of (by assumption), by first | assumption | exact allLt_of (by assumption)⟩

abbrev sdOut (w : World) (li tx : Value) (news tl : List (Addr × Obj)) (r : Value) : Prop := ∃ a d t0 t1 t2 t3 t4 t5 t6 t7 t8 t9, tl = [(a, instObj 167 d), (d, stD w t0 t1 t2 t3 t4 t5 t6 t7 t8 t9 .none .none .none (.bool false) .none .none .none .none li tx 10)] ∧ r = .ref a ∧ @LT.lt Nat _ d a ∧ AllLt d news
theorem sd_con (w : World) (mean : ExcName → Option Value) (mg mb : Str → Option Value) (li tx : Value) (h0 : handedIn li = true) (h1 : handedIn tx = true) : Con 3 w mean mg mb 167 [li, tx] (fun _ => True) (sdOut w li tx) := by
  unfold Con
  k_fill
  intro dp un gd cn cs a ccd cl outer A₀ base h₀ L m news s Q E B F X N T hk hst hd hu hret
  k_dflt (refine' call_cls ?k1 ?k2 ?k3 ?k4 ?k5 ?k6 ?_; (case k1 => k_asm); (case k2 => k_asm); (case k3 => k_asm); (case k4 => k_is); (case k5 => k_is); (case k6 => k_is); k_whole; intro x' d' h' F' N' l1 l2; (try k_lt l1); (try k_lt2 l2); ktr_enter)
  k_steps
  all_goals tb_start
  all_goals exact ⟨_, _, _, _, _, _, _, _, _, _, _, _, rfl, rfl, by first | assumption | exact allLt_of (by assumption), by first | assumption | exact allLt_of (by assumption)⟩
section
variable {w : World} {mean : ExcName → Option Value} {mg mb : Str → Option Value} {dp un : Nat} {gd : Option (List Code)} {cn : Str} {cs : Scope} {a : Addr} {ccd : Value} {cl : List (Str × Addr)} {outer : List Env} {A₀ : Around} {base h₀ : Heap} {L : Addr} {m : Str → Option Value} {news : List (Addr × Obj)} {s : Shared} {Q E : Value → Shared → Prop}
theorem news1 {h : Heap} {p : Addr × Obj} (N : News h₀ L h (news ++ [p])) : News h₀ L h (p :: news) := fun q hq => N q (by
  rcases List.mem_cons.mp hq with rfl | hq
  · exact List.mem_append.mpr (.inr (.head _))
  · exact List.mem_append.mpr (.inl hq))
theorem news2 {h : Heap} {p p' : Addr × Obj} (N : News h₀ L h (news ++ [p, p'])) : News h₀ L h (p :: p' :: news) := fun q hq => N q (by
  rcases List.mem_cons.mp hq with rfl | hq
  · exact List.mem_append.mpr (.inr (.head _))
  · rcases List.mem_cons.mp hq with rfl | hq
    · exact List.mem_append.mpr (.inr (.tail _ (.head _)))
    · exact List.mem_append.mpr (.inl hq))
theorem none_use (h : ∀ a n h' tk', Fr h₀ L h' m → News h₀ L h' ((a, listOf #[] n) :: news) → AllLt a news → Q (.ref a) { s with heap := h', toks := tk' })
    (B : Below A₀ base outer h₀ := by k_asm) (F : Fr h₀ L s.heap m := by k_asm) (X : (hd.heap_39 w.params).In h₀ := by k_asm) (N : News h₀ L s.heap news := by k_asm) (T : Top hd.view_39 (looseW hd.view_39 [Str.ofString "SnobolError"]) mean mg mb h₀ := by k_asm) (hk : cs.kind = .function := by first | exact rfl | assumption) (hd : dp + 3 < recursionLimit := by ktr_room) (hu : un + 20 * 3 < cLine := by ktr_units) : wpAny (model PySem.Challenge.rw_pq1123_01.row.prog w) (ktrTop dp un gd cn cs L a ccd cl outer) (call (.ref 128) [.none]) Q E s :=
  con_use (go_none _ _ _ _) trivial (fun r tl h' tk' F N o e => by
    obtain ⟨a, n, rfl, rfl, l⟩ := e
    exact h a n h' tk' F (news1 N) l) B F X N T hk hd hu
theorem val_use {v : Value} {op : String} {y : Tok → Value} (hv : ValIn news v op y) (h : ∀ a n o p k k' h' tk', Fr h₀ L h' m → News h₀ L h' ((a, listOf #[.ref o] n) :: (o, tup [.str (Str.ofString op) k, y k'] p) :: news) → AllLt a ((o, tup [.str (Str.ofString op) k, y k'] p) :: news) → AllLt o news → Q (.ref a) { s with heap := h', toks := tk' })
    (B : Below A₀ base outer h₀ := by k_asm) (F : Fr h₀ L s.heap m := by k_asm) (X : (hd.heap_39 w.params).In h₀ := by k_asm) (N : News h₀ L s.heap news := by k_asm) (T : Top hd.view_39 (looseW hd.view_39 [Str.ofString "SnobolError"]) mean mg mb h₀ := by k_asm) (hk : cs.kind = .function := by first | exact rfl | assumption) (hd : dp + 3 < recursionLimit := by ktr_room) (hu : un + 20 * 3 < cLine := by ktr_units) : wpAny (model PySem.Challenge.rw_pq1123_01.row.prog w) (ktrTop dp un gd cn cs L a ccd cl outer) (call (.ref 86) [v]) Q E s :=
  con_use (val_con _ _ _ _ _ _ _) hv (fun r tl h' tk' F N o e => by
    obtain ⟨a, n, b, p, k, k', rfl, rfl, l, l'⟩ := e
    exact h a n b p k k' h' tk' F (news2 N) l l') B F X N T hk hd hu
theorem co_use {lv b sc f li : Value} (h0 : handedIn lv = true) (h1 : handedIn b = true) (h2 : handedIn sc = true) (h3 : handedIn f = true) (h4 : handedIn li = true) (h : ∀ a d t0 t1 t2 t3 t4 n h' tk', Fr h₀ L h' m → News h₀ L h' ((a, instObj 54 d) :: (d, coD w t0 t1 t2 t3 t4 lv b sc f li n) :: news) → @LT.lt Nat _ d a → AllLt d news → Q (.ref a) { s with heap := h', toks := tk' })
    (B : Below A₀ base outer h₀ := by k_asm) (F : Fr h₀ L s.heap m := by k_asm) (X : (hd.heap_39 w.params).In h₀ := by k_asm) (N : News h₀ L s.heap news := by k_asm) (T : Top hd.view_39 (looseW hd.view_39 [Str.ofString "SnobolError"]) mean mg mb h₀ := by k_asm) (hk : cs.kind = .function := by first | exact rfl | assumption) (hd : dp + 3 < recursionLimit := by ktr_room) (hu : un + 20 * 3 < cLine := by ktr_units) : wpAny (model PySem.Challenge.rw_pq1123_01.row.prog w) (ktrTop dp un gd cn cs L a ccd cl outer) (call (.ref 54) [lv, b, sc, f, li]) Q E s :=
  con_use (co_con _ _ _ _ _ _ _ _ _ h0 h1 h2 h3 h4) trivial (fun r tl h' tk' F N o e => by
    obtain ⟨a, d, t0, t1, t2, t3, t4, n, rfl, rfl, l, l'⟩ := e
    exact h a d t0 t1 t2 t3 t4 n h' tk' F (news2 N) l l') B F X N T hk hd hu
theorem sd_use {li tx : Value} (h0 : handedIn li = true) (h1 : handedIn tx = true) (h : ∀ a d t0 t1 t2 t3 t4 t5 t6 t7 t8 t9 h' tk', Fr h₀ L h' m → News h₀ L h' ((a, instObj 167 d) :: (d, dictOf [ent w "label" t0 .none, ent w "subject" t1 .none, ent w "pattern" t2 .none, ent w "is_replaced" t3 (.bool false), ent w "replacement" t4 .none, ent w "go_success" t5 .none, ent w "go_failure" t6 .none, ent w "go_always" t7 .none, ent w "line" t8 li, ent w "text" t9 tx] 10) :: news) → @LT.lt Nat _ d a → AllLt d news → Q (.ref a) { s with heap := h', toks := tk' })
    (B : Below A₀ base outer h₀ := by k_asm) (F : Fr h₀ L s.heap m := by k_asm) (X : (hd.heap_39 w.params).In h₀ := by k_asm) (N : News h₀ L s.heap news := by k_asm) (T : Top hd.view_39 (looseW hd.view_39 [Str.ofString "SnobolError"]) mean mg mb h₀ := by k_asm) (hk : cs.kind = .function := by first | exact rfl | assumption) (hd : dp + 3 < recursionLimit := by ktr_room) (hu : un + 20 * 3 < cLine := by ktr_units) : wpAny (model PySem.Challenge.rw_pq1123_01.row.prog w) (ktrTop dp un gd cn cs L a ccd cl outer) (call (.ref 167) [li, tx]) Q E s :=
  con_use (sd_con _ _ _ _ _ _ h0 h1) trivial (fun r tl h' tk' F N o e => by
    obtain ⟨a, d, t0, t1, t2, t3, t4, t5, t6, t7, t8, t9, rfl, rfl, l, l'⟩ := e
    exact h a d t0 t1 t2 t3 t4 t5 t6 t7 t8 t9 h' tk' F (news2 N) l l') B F X N T hk hd hu
end

end
local macro_rules | `(tactic| walk_at "call ref") => `(tactic| (k_here; k_dflt (first
  | ((with_reducible show wpAny _ _ (call (Value.ref 128) [Value.none]) _ _ _); refine' none_use ?_; intro a9 n9 h9 tk9 F9 N9 o9)
  | ((with_reducible show wpAny _ _ (call (Value.ref 86) _) _ _ _); refine' val_use ?n ?_; (case n => first | exact .name (by tb_rel) | exact .text (by tb_rel) | exact .whole (by tb_rel) | exact .null (by tb_rel)); intro a9 n9 p9 m9 k9 j9 h9 tk9 F9 N9 o9 q9)
  | ((with_reducible show wpAny _ _ (call (Value.ref 54) _) _ _ _); refine' co_use (by first | rfl | assumption) rfl rfl rfl rfl ?_; intro a9 d9 u0 u1 u2 u3 u4 n9 h9 tk9 F9 N9 o9 q9)
  | ((with_reducible show wpAny _ _ (call (Value.ref 167) _) _ _ _); refine' sd_use rfl rfl ?_; intro a9 d9 u0 u1 u2 u3 u4 u5 u6 u7 u8 u9 h9 tk9 F9 N9 o9 q9)); (try dsimp only [AllLt] at o9); (try dsimp only [AllLt] at q9); (try dsimp only); (try k_fold)))

section
theorem pull_con (w : World) (mean : ExcName → Option Value) (mg mb : Str → Option Value) : ∀ (dp un : Nat) (gd : Option (List Code)) (cn : Str) (cs : Scope) (a : Addr) (ccd : Value) (cl : List (Str × Addr)) (outer : List Env) (A₀ : Around) (base h₀ : Heap) (L : Addr) (m : Str → Option Value)
    (b l : Addr) (nb : Nat) (c many : Int) (tc tm : Tok) (ys : List Value) (zs : List Int) (tl : List (Addr × Obj)) (s : Shared) (Q E : Value → Shared → Prop),
    Below A₀ base outer h₀ → Fr h₀ L s.heap m → (hd.heap_39 w.params).In h₀ → News h₀ L s.heap ((b, listOf #[.ref l, .int c tc] nb) :: (l, LCg.lst ys) :: tl) →
    Top hd.view_39 (looseW hd.view_39 [Str.ofString "SnobolError"]) mean mg mb h₀ → cs.kind = .function →
    IntsAre ys zs → (@Ne Nat b l) → OwnOff tl [b] → 0 ≤ c → c ≤ 100 → zs.length ≤ 40 → 2 ≤ many → many ≤ 9 → dp + 1 < recursionLimit → un + 8 < cLine →
    (∀ (r : Int) (t tb : Tok) h' tk', 0 ≤ r → r < many → Fr h₀ L h' m → News h₀ L h' ((b, listOf #[.ref l, .int (c + 1) tb] nb) :: (l, LCg.lst ys) :: tl) → Q (.int r t) { s with heap := h', toks := tk' }) →
    wpAny (model PySem.Challenge.rw_pq1123_01.row.prog w) (ktrTop dp un gd cn cs L a ccd cl outer) (call (.ref 178) [.ref b, .int many tm]) Q E s := by
  k_fill
  intro dp un gd cn cs a ccd cl outer A₀ base h₀ L m b l nb c many tc tm ys zs tl s Q E B F X N T hk hI hbl hoff hc0 hc1 hz hm0 hm1 hd hu hret
  refine wpAny_call ?_
  k_dflt ktr_enter
  k_steps
  all_goals exact hret _ _ _ _ _ (Int.fmod_nonneg_of_pos _ (by omega)) (Int.fmod_lt_of_pos _ (by omega)) (by k_asm) (by k_asm)

end

section
theorem stat_con (w : World) (mean : ExcName → Option Value) (mg mb : Str → Option Value) (lb : Lb) (lv : Value) (line form : Int) (x : Str) (t1 t2 t3 : Tok)
    (hlb : LbV lb lv) (hl0 : 0 ≤ line) (hl1 : line ≤ 100) (hf0 : 0 ≤ form) (hf1 : form < 4) (hx : x.length ≤ 1) :
    Con 10 w mean mg mb 185 [lv, .int line t1, .int form t2, .str x t3] (fun _ => True)
      (statOut w lb line form x) := by
  unfold Con
  k_fill
  intro dp un gd cn cs a ccd cl outer A₀ base h₀ L m news s Q E B F X N T hk _ hd hu hret
  have hlv := hlb.handed
  refine wpAny_call ?_
  k_dflt ktr_enter
  k_steps
  all_goals tb_start
  all_goals (refine' ⟨_, _, _, _, _, _, ⟨rfl, by k_mem, by k_mem, ?_, ?_⟩⟩)
  · rename form = 0 => e; subst e; dsimp only [tell, List.map]; kqd_all
  · rename form = 0 => e; subst e; refine' StIn.f0 hlb ?fa0 ?fa1 ?fa2; (case fa0 => k_mem); (case fa1 => k_mem); (case fa2 => k_mem)
  · rename form = 1 => e; subst e; dsimp only [tell, List.map]; kqd_all
  · rename form = 1 => e; subst e; refine' StIn.f1 hlb ?fb0 ?fb1 ?fb2 ?fb3 ?fb4 ?fb5; (case fb0 => k_mem); (case fb1 => k_mem); (case fb2 => k_mem); (case fb3 => k_mem); (case fb4 => k_mem); (case fb5 => k_mem)
  · rename form = 2 => e; subst e; dsimp only [tell, List.map]; kqd_all
  · rename form = 2 => e; subst e; refine' StIn.f2 hlb ?fc0 ?fc1 ?fc2 ?fc3 ?fc4 ?fc5; (case fc0 => k_mem); (case fc1 => k_mem); (case fc2 => k_mem); (case fc3 => k_mem); (case fc4 => k_mem); (case fc5 => k_mem)
  · obtain rfl : form = 3 := by omega
    dsimp only [tell, List.map]; kqd_all
  · obtain rfl : form = 3 := by omega
    refine' StIn.f3 hlb ?fd0 ?fd1 ?fd2 ?fd3 ?fd4; (case fd0 => k_mem); (case fd1 => k_mem); (case fd2 => k_mem); (case fd3 => k_mem); (case fd4 => k_mem)

end

section
theorem comp_con (w : World) (mean : ExcName → Option Value) (mg mb : Str → Option Value) (lb : Lb) (line form : Int) (x : Str) (v : Value) (hx : x.length ≤ 1) :
    Con 10 w mean mg mb 135 [v] (fun news => StIn w news lb line x form v) (compOut w lb line form x) := by
  unfold Con
  k_fill
  intro dp un gd cn cs a ccd cl outer A₀ base h₀ L m news s Q E B F X N T hk hst hd hu hret
  refine wpAny_call ?_
  cases hst
  · rename_i hlb h1 h2 h3
    have hlv := hlb.handed
    k_dflt ktr_enter
    k_steps
    all_goals tb_start
    refine' CoIn.f0 hlb ?ca0 ?ca1 ?ca2 ?ca3 ?ca4 ?ca5 ?ca6; (case ca0 => k_mem); (case ca1 => k_mem); (case ca2 => k_mem); (case ca3 => k_mem); (case ca4 => k_mem); (case ca5 => k_mem); (case ca6 => k_mem)
  · rename_i hlb h1 h2 h3 h4 h5 h6
    have hlv := hlb.handed
    k_dflt ktr_enter
    k_steps
    all_goals tb_start
    refine' CoIn.f1 hlb ?cb0 ?cb1 ?cb2 ?cb3 ?cb4 ?cb5 ?cb6 ?cb7 ?cb8; (case cb0 => k_mem); (case cb1 => k_mem); (case cb2 => k_mem); (case cb3 => k_mem); (case cb4 => k_mem); (case cb5 => k_mem); (case cb6 => k_mem); (case cb7 => k_mem); (case cb8 => k_mem)
  · rename_i hlb h1 h2 h3 h4 h5 h6
    have hlv := hlb.handed
    k_dflt ktr_enter
    k_steps
    all_goals tb_start
    refine' CoIn.f2 hlb ?cc0 ?cc1 ?cc2 ?cc3 ?cc4 ?cc5 ?cc6 ?cc7 ?cc8 ?cc9; (case cc0 => k_mem); (case cc1 => k_mem); (case cc2 => k_mem); (case cc3 => k_mem); (case cc4 => k_mem); (case cc5 => k_mem); (case cc6 => k_mem); (case cc7 => k_mem); (case cc8 => k_mem); (case cc9 => k_mem)
  · rename_i hlb h1 h2 h3 h4 h5
    have hlv := hlb.handed
    k_dflt ktr_enter
    k_steps
    all_goals tb_start
    refine' CoIn.f3 hlb ?cd0 ?cd1 ?cd2 ?cd3 ?cd4 ?cd5; (case cd0 => k_mem); (case cd1 => k_mem); (case cd2 => k_mem); (case cd3 => k_mem); (case cd4 => k_mem); (case cd5 => k_mem)

end

section
local macro_rules | `(tactic| walk_at "CompSrc") => `(tactic| refine stop_here ?_)
local macro_rules | `(tactic| walk_at "call ref") => `(tactic| ((with_reducible show wpAny _ _ (call (Value.ref 135) _) _ _ _); refine stop_here ?_))
local macro_rules | `(tactic| walk_at "exec For Tuple Call cons nil") => `(tactic| refine stop_here ?_)
local macro_rules | `(tactic| walk_at "call type:enumerate") => `(tactic| refine stop_here ?_)
local macro_rules | `(tactic| walk_at "setItem ref str") => `(tactic| refine stop_here ?_)
theorem prog_con (w : World) (mean : ExcName → Option Value) (mg mb : Str → Option Value) (la : Addr) (nl : Nat) (vs : List Value) (ds : List Row) (num : Int) (t : Tok) (hlen : ds.length ≤ 5) (hok : ∀ d ∈ ds, Row.Ok d) (hhead : ∃ r, ds[0]? = some r ∧ r.lb = .l1) :
    Con 20 w mean mg mb 140 [.ref la, .int num t] (fun news => (la, listOf vs.toArray nl) ∈ news ∧ Each (StP w news) vs ds) (progOut w ds num) := by
  unfold Con
  k_fill
  intro dp un gd cn cs a ccd cl outer A₀ base h₀ L m news s Q E B F X N T hk hst hd hu hret
  obtain ⟨hla, heach⟩ := hst
  have hvl := heach.length
  refine wpAny_call ?_
  k_dflt ktr_enter
  repeat walk1
  refine Stop.on ?_
  k_dflt (refine LCg.CompSrc.ledger (by rfl) (by k_asm) (by k_asm) (by k_mem) (by (rw [PySem.sizeLine_eq]; simp only [List.size_toArray]; omega)) ?_; intro g')
  repeat walk1
  refine comp_inv (fun i ys nw => ∃ tl, nw = news ++ tl ∧ (∀ q ∈ news, ∀ p ∈ tl, @Ne Nat q.1 p.1) ∧ Each (CoP w tl) ys (ds.take i)) ?_ ?_ ⟨[], by simp, fun _ _ _ h9 => (List.not_mem_nil h9).elim, by simpa using Each.nil (P := CoP w [])⟩
  · rintro i v I oI C oC D m₂ ys nw h tk E' hi hP ⟨tl, rfl, hlt, he⟩ hC hx F1 N1 off ne
    obtain ⟨r, hr, hst⟩ := heach.get (by simpa using hP)
    have hrx := (hok r (List.mem_of_getElem? hr)).x
    (try k_fold)
    k_steps
    refine Stop.on ?_
    (k_dflt (refine' con_use (comp_con _ _ _ _ _ _ _ _ _ ?q9x) ?q9n ?_; (case q9n => (refine' StIn.mono (by assumption) ?_; intro p hp; tb_rel)); (case q9x => assumption)); intro r9 tl9 h9 tk9 F9 N9 hl9 ho9; (try dsimp only); (try k_fold))
    k_steps
    refine comp_end F9 N9 off hl9 (Or.inr ⟨_, List.mem_append_left _ hla, rfl, _, rfl⟩) ⟨_, rfl, ord_app hlt (ord_tail3 hl9), ?_⟩
    rw [take_snoc hr]
    exact (CoP.monoE he sub_l).snoc (CoIn.mono ho9 sub_r)
  · rintro ys nw ⟨tl, rfl, hlt, he⟩
    have he' : Each (CoP w tl) ys ds := by simpa [hvl] using he
    clear he
    repeat (first | walk1 | (dsimp only; walk1) | (k_unfold; (try dsimp only)))
    refine Stop.on ?_
    (rename Fr _ _ _ _ => lF'); (with_unfolding_all refine' For_turns lF' ?_; k_whole)
    repeat (first | walk1 | (dsimp only; walk1) | (k_unfold; (try dsimp only)))
    refine Stop.on ?_
    (k_dflt (refine ktu_enum (by rfl) (by k_asm) (by k_asm) (by k_mem) rfl rfl rfl ?_); intro I hI)
    repeat (first | walk1 | (dsimp only; walk1) | (k_unfold; (try dsimp only)))
    refine items_inv (fun i m nw => FixOf [Str.ofString "at", Str.ofString "one"] m _ ∧ ∃ o, nw = (_, o) :: (_, LCg.lst ys) :: (news ++ tl) ∧ LabD w o (ds.take i) ∧ ∀ p ∈ nw, (@Ne Nat p.1 I) ∧ (@Ne Nat p.1 (I + 1))) ?_ ?_ ⟨FixOf.rfl', _, rfl, .nil (by assumption) (by assumption) (by simp), fun p hp => ⟨Nat.ne_of_lt (hI p hp), Nat.ne_of_lt (Nat.lt_succ_of_lt (hI p hp))⟩⟩
    · rintro i a m1 nw v h tk ha ⟨hfix, o, rfl, hlab, hoffI⟩ hv F1
      obtain ⟨cv, hcv, rfl⟩ := enumItems_inv ha
      obtain ⟨T, t, rfl, htup⟩ := hv
      obtain ⟨r, hr, hco⟩ := he'.get hcv
      obtain ⟨ca, cd, cb, cs', cf, t0, t1, t2, t3, t4, tl1, lv, cn', rfl, hlv, hc1, hc2⟩ := hco.head
      have F2 := hfix.fr F1
      clear F1
      refine AllObj.cons fun o1 ho1 => ?_
      refine AllObj.cons fun o2 ho2 => ?_
      refine AllObj.nil fun N2 => ?_
      simp only [List.cons_append, List.nil_append] at N2
      dsimp only at htup ho1 ho2 ⊢
      have hoff0 := hoffI _ (.head _)
      have hoff1 := hoffI _ (.tail _ (.head _))
      dsimp only at hoff0 hoff1
      (try k_fold)
      obtain ⟨lb, line, form, x⟩ := r
      dsimp only at hlv
      rcases hlab with ⟨hd0, hf0, hz⟩ | ⟨hd0, hf0, hz, h2⟩ | ⟨hd0, hf0, hz, h2⟩
      · obtain rfl : i = 0 := by
          rcases Nat.eq_zero_or_pos i with h0 | h0
          · exact h0
          · have : (ds.take i).length = 0 := by rw [hz]; rfl
            rw [List.length_take] at this
            have := (List.getElem?_eq_some_iff.mp hr).1
            omega
        obtain ⟨r0, hr0, hl1⟩ := hhead
        rw [hr] at hr0
        cases hr0
        dsimp only at hl1
        subst hl1
        cases hlv
        k_steps
        refine Stop.on ?_
        (k_dflt (refine kda_set (knd := PySem.strKind _ _) (by k_asm) (by k_asm) (by k_updF) (by k_asm) (strKind_is _ _ _ _) (by rw [sizeLine_eq]; exact Nat.le_of_ble_eq_true (by with_unfolding_all rfl)) ?_); intro h' o' F' N' hd'; (try dsimp only at N'))
        k_steps
        (rename Obj.IsDictOf _ _ _ => kD)
        refine unr_end2 (by k_asm) (by k_asm) (off_put (P := fun a => (@Ne Nat a I) ∧ (@Ne Nat a (I + 1))) hoffI) ⟨⟨.tail _ (.head _), trivial⟩, (FixOf.base.step (by decide +kernel)).step (by decide +kernel), _, rfl, lab_first hr rfl kD, off_put (P := fun a => (@Ne Nat a I) ∧ (@Ne Nat a (I + 1))) hoffI⟩
      · cases hlv
        · k_steps
          refine unr_end2 (by k_asm) (by k_asm) (off_put (P := fun a => (@Ne Nat a I) ∧ (@Ne Nat a (I + 1))) hoffI) ⟨⟨.tail _ (.head _), trivial⟩, (FixOf.base.step (by decide +kernel)).step (by decide +kernel), _, rfl, lab_keep1 hr (by simp) hd0 hf0 h2, off_put (P := fun a => (@Ne Nat a I) ∧ (@Ne Nat a (I + 1))) hoffI⟩
        · k_steps
          refine unr_end2 (by k_asm) (by k_asm) (off_put (P := fun a => (@Ne Nat a I) ∧ (@Ne Nat a (I + 1))) hoffI) ⟨⟨.tail _ (.head _), trivial⟩, (FixOf.base.step (by decide +kernel)).step (by decide +kernel), _, rfl, lab_keep1 hr (by simp) hd0 hf0 h2, off_put (P := fun a => (@Ne Nat a I) ∧ (@Ne Nat a (I + 1))) hoffI⟩
        · k_steps
          refine Stop.on ?_
          (k_dflt (refine kda_set (knd := PySem.strKind _ _) (by k_asm) (by k_asm) (by k_updF) (by k_asm) (strKind_is _ _ _ _) (by rw [sizeLine_eq]; exact Nat.le_of_ble_eq_true (by with_unfolding_all rfl)) ?_); intro h' o' F' N' hd'; (try dsimp only at N'))
          k_steps
          (rename Obj.IsDictOf _ _ _ => kD)
          refine unr_end2 (by k_asm) (by k_asm) (off_put (P := fun a => (@Ne Nat a I) ∧ (@Ne Nat a (I + 1))) hoffI) ⟨⟨.tail _ (.head _), trivial⟩, (FixOf.base.step (by decide +kernel)).step (by decide +kernel), _, rfl, lab_add hr rfl h2 kD, off_put (P := fun a => (@Ne Nat a I) ∧ (@Ne Nat a (I + 1))) hoffI⟩
        · k_steps
          refine unr_end2 (by k_asm) (by k_asm) (off_put (P := fun a => (@Ne Nat a I) ∧ (@Ne Nat a (I + 1))) hoffI) ⟨⟨.tail _ (.head _), trivial⟩, (FixOf.base.step (by decide +kernel)).step (by decide +kernel), _, rfl, lab_keep1 hr (by simp) hd0 hf0 h2, off_put (P := fun a => (@Ne Nat a I) ∧ (@Ne Nat a (I + 1))) hoffI⟩
      · cases hlv <;> k_steps
        all_goals refine unr_end2 (by k_asm) (by k_asm) (off_put (P := fun a => (@Ne Nat a I) ∧ (@Ne Nat a (I + 1))) hoffI) ⟨⟨.tail _ (.head _), trivial⟩, (FixOf.base.step (by decide +kernel)).step (by decide +kernel), _, rfl, lab_keep2 hr hd0 hf0 h2, off_put (P := fun a => (@Ne Nat a I) ∧ (@Ne Nat a (I + 1))) hoffI⟩
    · rintro m1 nw h tk ⟨hfix, o, rfl, hlab, hoffI⟩ F1 N1
      have F2 := hfix.fr F1
      clear F1
      rw [show (enumItems 0 ys).length = ds.length by rw [enumItems_length, he'.length], List.take_length] at hlab
      k_steps
      all_goals tb_start
      refine' ⟨_, _, _, _, _, _, _, _, _, 0, _, _, ⟨rfl, ?pu0, ?pu1, ?pu2, CoP.monoE he' ?pu5, ?pu3, ?pu4, hlab⟩⟩; (case pu0 => k_mem); (case pu1 => k_mem); (case pu2 => k_mem); (case pu3 => k_mem); (case pu4 => k_asm); (case pu5 => (intro p hp; tb_rel))

end

section
local macro_rules | `(tactic| walk_at "eval ListComp") => `(tactic| refine stop_here ?_)
local macro_rules | `(tactic| walk_at "subscriptTail Name Slice ref ref") => `(tactic| refine stop_here ?_)
local macro_rules | `(tactic| walk_at "SrcTu") => `(tactic| refine stop_here ?_)
local macro_rules | `(tactic| walk_at "CompEnd") => `(tactic| refine stop_here ?_)
local macro_rules | `(tactic| lcg_src) => `(tactic| k_mem)
theorem show_con (w : World) (mean : ExcName → Option Value) (mg mb : Str → Option Value) (v : Value) (x : Str) :
    Con 10 w mean mg mb 145 [v] (fun news => OrdIn news v x) (showOut x) := by
  unfold Con
  k_fill
  intro dp un gd cn cs a ccd cl outer A₀ base h₀ L m news s Q E B F X N T hk hst hd hu hret
  refine wpAny_call ?_
  cases hst
  all_goals (k_dflt ktr_enter; have h7 := len7; k_steps)
  all_goals repeat
      refine Stop.on ?_
      first
      | k_dflt (refine ListComp_Tu (F₀ := by k_asm) (by with_unfolding_all rfl) (by decide) (by rfl) (by decide) (by rfl) ?_)
      | (k_dflt (refine slice_tup (a := 1) (by k_asm) (by k_asm) (by k_mem) (by decide) (by exact Nat.le_of_ble_eq_true rfl) (by exact rfl) ?_ (by with_unfolding_all rfl) (by intro _; with_unfolding_all rfl) (by exact Nat.le_of_ble_eq_true rfl)); intro D' h' F' N' l1; (try k_lt l1))
      | (k_dflt (refine SrcTu.intro (by rfl) (by k_asm) (by k_asm) (by k_mem) (by exact Nat.le_of_ble_eq_true rfl) ?_); intro g'; lcg_lit)
      | k_dflt (refine comp_same (by k_asm) (by k_asm) (by first | assumption | (simp only [LCg.Off3, and_true]; assumption)) (by lcg_src) ?_)
      k_steps
  all_goals tb_start
  all_goals exact ⟨_, rfl⟩

end

section
theorem show_use (w : World) (mean : ExcName → Option Value) (mg mb : Str → Option Value) {v : Value} {x : Str}
    {dp un : Nat} {gd : Option (List Code)} {cn : Str} {cs : Scope} {a : Addr} {ccd : Value} {cl : List (Str × Addr)} {outer : List Env} {A₀ : Around} {base h₀ : Heap} {L : Addr} {m : Str → Option Value} {news : List (Addr × Obj)} {s : Shared} {Q E : Value → Shared → Prop}
    (ho : OrdIn news v x) (h : ∀ t h' tk', Fr h₀ L h' m → News h₀ L h' news → x.length ≤ 60 → Q (.str x t) { s with heap := h', toks := tk' })
    (B : Below A₀ base outer h₀ := by k_asm) (F : Fr h₀ L s.heap m := by k_asm) (X : (hd.heap_39 w.params).In h₀ := by k_asm) (N : News h₀ L s.heap news := by k_asm) (T : Top hd.view_39 (looseW hd.view_39 [Str.ofString "SnobolError"]) mean mg mb h₀ := by k_asm) (hk : cs.kind = .function := by first | exact rfl | assumption)
    (hd : dp + 10 < recursionLimit := by ktr_room) (hu : un + 20 * 10 < cLine := by ktr_units) :
    wpAny (model PySem.Challenge.rw_pq1123_01.row.prog w) (ktrTop dp un gd cn cs L a ccd cl outer) (call (.ref 145) [v]) Q E s :=
  con_use (show_con w mean mg mb v x) ho (fun r tl h' tk' F' N' _ ⟨t, e⟩ => by
    subst e
    exact h t h' tk' F' (news_sub N' sub_l) ho.len) B F X N T hk hd hu
/-- orders, in a ledger, and their texts -/
inductive OrdAll (led : List (Addr × Obj)) : List Value → List Str → Prop
  | nil : OrdAll led [] []
  | cons {v : Value} {t : Str} {vs : List Value} {ts : List Str} : OrdIn led v t → OrdAll led vs ts → OrdAll led (v :: vs) (t :: ts)
theorem OrdAll.mono {led led' : List (Addr × Obj)} {vs : List Value} {ts : List Str} (h : OrdAll led vs ts) (s : ∀ p ∈ led, p ∈ led') : OrdAll led' vs ts := by
  induction h with
  | nil => exact .nil
  | cons a _ ih => exact .cons (a.mono s) ih
theorem OrdAll.length {led : List (Addr × Obj)} {vs : List Value} {ts : List Str} (h : OrdAll led vs ts) : vs.length = ts.length := by
  induction h with
  | nil => rfl
  | cons _ _ ih => simp [ih]
theorem OrdAll.get {led : List (Addr × Obj)} {vs : List Value} {ts : List Str} (h : OrdAll led vs ts) {i : Nat} {v : Value} (e : vs[i]? = some v) : ∃ t, ts[i]? = some t ∧ OrdIn led v t := by
  induction h generalizing i with
  | nil => simp at e
  | cons a _ ih =>
    cases i with
    | zero =>
      simp only [List.getElem?_cons_zero, Option.some.injEq] at e
      subst e
      exact ⟨_, rfl, a⟩
    | succ i => exact ih (by simpa using e)
theorem CoIn.orders {w : World} {led : List (Addr × Obj)} {lb : Lb} {line : Int} {x : Str} {f : Int} {v : Value} (h : CoIn w led lb line x f v) (hx : x.length ≤ 20) :
    ∃ (a d b s g : Addr) (t0 t1 t2 t3 t4 tl : Tok) (lv : Value) (n nb ns nf : Nat) (bvs svs fvs : List Value) (bt st ft : List Str), v = .ref a ∧ LbV lb lv ∧ (a, instObj 54 d) ∈ led ∧ (d, coD w t0 t1 t2 t3 t4 lv (.ref b) (.ref s) (.ref g) (.int line tl) n) ∈ led ∧
      (b, listOf bvs.toArray nb) ∈ led ∧ (s, listOf svs.toArray ns) ∈ led ∧ (g, listOf fvs.toArray nf) ∈ led ∧ OrdAll led bvs bt ∧ OrdAll led svs st ∧ OrdAll led fvs ft ∧ bvs.length ≤ 5 ∧ svs.length ≤ 5 ∧ fvs.length ≤ 5 ∧
      tell f x = bt.map (Str.ofString "  " ++ ·) ++ (st.map (Str.ofString "  S " ++ ·) ++ ft.map (Str.ofString "  F " ++ ·)) := by
  cases h with
  | f0 h a b c d e f g =>
    exact ⟨_, _, _, _, _, _, _, _, _, _, _, _, _, _, _, _, [_, _], [], [], [_, _], [], [], rfl, h, a, b, c, d, e, .cons (.two f (by decide +kernel) hx) (.cons (.one g (by decide +kernel)) .nil), .nil, .nil, by simp, by simp, by simp,
      by rw [tell0, ← joinsX x (by decide +kernel : Str.ofString "  " ++ (Str.ofString "VAR" ++ Str.ofString " ") = Str.ofString "  VAR "), ← joinsA (by decide +kernel : Str.ofString "  " ++ Str.ofString "DROP" = Str.ofString "  DROP")]; rfl⟩
  | f1 h a b c d e f g i j =>
    exact ⟨_, _, _, _, _, _, _, _, _, _, _, _, _, _, _, _, [_, _, _], [], [_], [_, _, _], [], [_], rfl, h, a, b, c, d, e, .cons (.two f (by decide +kernel) hx) (.cons (.two g (by decide +kernel) (by decide +kernel)) (.cons (.one i (by decide +kernel)) .nil)), .nil, .cons (.two j (by decide +kernel) (by decide +kernel)) .nil, by simp, by simp, by simp,
      by rw [tell1, ← joinsX x (by decide +kernel : Str.ofString "  " ++ (Str.ofString "REF" ++ Str.ofString " ") = Str.ofString "  REF "), ← joinsB (by decide +kernel : Str.ofString "  " ++ (Str.ofString "PUSH" ++ Str.ofString " " ++ Str.ofString "t") = Str.ofString "  PUSH t"), ← joinsA (by decide +kernel : Str.ofString "  " ++ Str.ofString "ASSIGN" = Str.ofString "  ASSIGN"), ← joinsB (by decide +kernel : Str.ofString "  F " ++ (Str.ofString "LABEL" ++ Str.ofString " " ++ Str.ofString "L9") = Str.ofString "  F LABEL L9")]; rfl⟩
  | f2 h a b c d e f g i j k =>
    exact ⟨_, _, _, _, _, _, _, _, _, _, _, _, _, _, _, _, [_, _, _], [_, _], [], [_, _, _], [_, _], [], rfl, h, a, b, c, d, e, .cons (.two f (by decide +kernel) hx) (.cons (.num g (by decide +kernel)) (.cons (.one i (by decide +kernel)) .nil)), .cons (.two j (by decide +kernel) (by decide +kernel)) (.cons (.one k (by decide +kernel)) .nil), .nil, by simp, by simp, by simp,
      by rw [tell2, ← joinsX x (by decide +kernel : Str.ofString "  " ++ (Str.ofString "VAR" ++ Str.ofString " ") = Str.ofString "  VAR "), ← joinsB (by decide +kernel : Str.ofString "  " ++ (Str.ofString "PUSH" ++ Str.ofString " " ++ (Str.ofString (toString (7 : Int)))) = Str.ofString "  PUSH 7"), ← joinsA (by decide +kernel : Str.ofString "  " ++ Str.ofString "MATCH" = Str.ofString "  MATCH"), ← joinsB (by decide +kernel : Str.ofString "  S " ++ (Str.ofString "VAR" ++ Str.ofString " " ++ Str.ofString "C") = Str.ofString "  S VAR C"), ← joinsA (by decide +kernel : Str.ofString "  S " ++ Str.ofString "TO CODE" = Str.ofString "  S TO CODE")]; rfl⟩
  | f3 h a b c d e f =>
    exact ⟨_, _, _, _, _, _, _, _, _, _, _, _, _, _, _, _, [], [_, _], [_, _], [], [_, _], [_, _], rfl, h, a, b, c, d, d, .nil, .cons (.two e (by decide +kernel) hx) (.cons (.one f (by decide +kernel)) .nil), .cons (.two e (by decide +kernel) hx) (.cons (.one f (by decide +kernel)) .nil), by simp, by simp, by simp,
      by rw [tell3, ← joinsX x (by decide +kernel : Str.ofString "  S " ++ (Str.ofString "VAR" ++ Str.ofString " ") = Str.ofString "  S VAR "), ← joinsA (by decide +kernel : Str.ofString "  S " ++ Str.ofString "TO" = Str.ofString "  S TO"), ← joinsX x (by decide +kernel : Str.ofString "  F " ++ (Str.ofString "VAR" ++ Str.ofString " ") = Str.ofString "  F VAR "), ← joinsA (by decide +kernel : Str.ofString "  F " ++ Str.ofString "TO" = Str.ofString "  F TO")]; rfl⟩
section
variable {prog : Program} {w : World} {A : Around} {h₀ : Heap} {L : Addr} {m : Str → Option Value} {env : Env} {elt : Expr} {x : Str} {scope : Scope} {cl : List (Str × Addr)} {s : Shared} {S : List (Addr × Obj) → Prop} {Fin : List Value → List (Addr × Obj) → Prop}
/-- a comprehension over orders that makes their rows -/
theorem ord_inv (p : Str) {led : List (Addr × Obj)} {vs : List Value} {ts : List Str} (ho : OrdAll led vs ts)
    (turn : ∀ v t I oI C oC D m₂ ys h tk (rest : Value → List (Addr × Obj) → Prop) (E' : Value → Shared → Prop), OrdIn led v t → LCg.NsObj oC m₂ → m₂ x = some v → Fr h₀ L h m → News h₀ L h ((I, oI) :: (C, oC) :: (D, LCg.lst ys) :: led) → LCg.Off3 I C D led → ((@Ne Nat I C) ∧ (@Ne Nat I D) ∧ (@Ne Nat C D)) → (∀ tk, rest (.str (p ++ t) tk) led) →
      wpAny (model prog w) A (eval elt (compEnvC scope cl C env)) (LCg.CompEnd h₀ L m { s with heap := h, toks := tk } I oI C oC D (LCg.lst ys) S rest) E' { s with heap := h, toks := tk })
    (fin : ∀ ys, DatAll [] ys ((ts.map (p ++ ·)).map .str) → ys.length = vs.length → Fin ys led) : LCg.CompRest prog w A h₀ L m env elt x scope cl s S (fun i v => vs.toArray[i]? = some v) Fin vs.toArray.size 0 [] led := by
  refine comp_inv (fun i ys nw => nw = led ∧ DatAll [] ys (((ts.take i).map (p ++ ·)).map .str) ∧ ys.length = i) ?_ ?_ ⟨rfl, by simpa using .nil, rfl⟩
  · rintro i v I oI C oC D m₂ ys nw h tk E' hi hP ⟨rfl, hd, hl⟩ hC hx F1 N1 off ne
    obtain ⟨t, ht, hot⟩ := ho.get (by simpa using hP)
    refine turn v t I oI C oC D m₂ ys h tk _ E' hot hC hx F1 N1 off ne fun tk => ⟨rfl, ?_, by simp [hl]⟩
    rw [List.take_add_one, ht]
    simp only [Option.toList_some, List.map_append, List.map_cons, List.map_nil]
    exact hd.append (.cons (.str _ _) .nil)
  · rintro ys nw ⟨rfl, hd, hl⟩
    have e : vs.toArray.size = ts.length := by rw [List.size_toArray, ho.length]
    rw [e, List.take_length] at hd
    exact fin ys hd (by rw [hl, List.size_toArray])
end
section
open PySem.Calls
variable {prog : Program} {w : World} {A : Around} {E : Value → Shared → Prop} {s : Shared} {h₀ : Heap} {L D b : Addr} {m : Str → Option Value} {news : List (Addr × Obj)} {g : Obj → List (Addr × Obj)} {vs ws : List Value} {n n2 : Nat} {Q : Value → Shared → Prop}
theorem updF_upd {d : Addr} {o : Obj} {l : List (Addr × Obj)} {g : Obj → List (Addr × Obj)} (h : UpdF d o l g) (o' : Obj) : Upd d o o' l (g o') := by
  induction h with
  | head a => exact .head a
  | tail a _ ih => exact .tail a ih
theorem ext_any (F : Fr h₀ L s.heap m) (N : News h₀ L s.heap news) (hb : (b, listOf ws.toArray n2) ∈ news) (U : UpdF D (listOf vs.toArray n) news g) (hz : vs.length ≤ 1000) (hy : ws.length ≤ 100)
    (h : ∀ h' n', Fr h₀ L h' m → News h₀ L h' (g (listOf (List.toArray (vs ++ ws)) n')) → Q .none { s with heap := h' }) : wpAny (model prog w) A (call (.builtin "list.extend") [.ref D, .ref b]) Q E s := by
  cases ws with
  | nil =>
    refine ext_K0 F N hb (updF_upd U _) hz fun h' F' N' => h h' n F' ?_
    rw [List.append_nil]; exact N'
  | cons a l => exact ext_K F N hb (by simp) (updF_upd U _) hz hy fun h' F' N' => h h' (n + 1) F' N'
end
local macro_rules | `(tactic| walk_at "call ref") => `(tactic| refine stop_here ?_)
local macro_rules | `(tactic| walk_at "CompSrc") => `(tactic| refine stop_here ?_)
local macro_rules | `(tactic| walk_at "exec For Tuple Call cons nil") => `(tactic| refine stop_here ?_)
local macro_rules | `(tactic| walk_at "call type:enumerate") => `(tactic| refine stop_here ?_)
local macro_rules | `(tactic| walk_at "call builtin:list.append") => `(tactic| refine stop_here ?_)
local macro_rules | `(tactic| walk_at "call builtin:list.extend") => `(tactic| refine stop_here ?_)
theorem showu_con (w : World) (mean : ExcName → Option Value) (mg mb : Str → Option Value) (r : Value) (u ud sa da : Addr) (t0 t1 t2 tn : Tok) (n ns : Nat) (cvs : List Value) (od : Obj) (ds : List Row) (num : Int) (hlen : ds.length ≤ 5) (hok : ∀ d ∈ ds, Row.Ok d) :
    Con 20 w mean mg mb 150 [r] (fun news => UnIn w news ds num r u ud sa da t0 t1 t2 tn n ns cvs od) (showuOut ds) := by
  unfold Con
  k_fill
  intro dp un gd cn cs a ccd cl outer A₀ base h₀ L m news s Q E B F X N T hk hst hd hu hret
  obtain ⟨rfl, hi1, hi2, hi3, heach, hi4, hi5, hi6⟩ := hst
  have hvl := heach.length
  refine wpAny_call ?_
  k_dflt ktr_enter
  repeat (first | walk1 | (dsimp only; walk1) | (k_unfold; (try dsimp only)))
  refine Stop.on ?_
  (rename Fr _ _ _ _ => lF'); (with_unfolding_all refine' For_turns lF' ?_; k_whole)
  repeat (first | walk1 | (dsimp only; walk1) | (k_unfold; (try dsimp only)))
  refine Stop.on ?_
  (k_dflt (refine ktu_enum (by rfl) (by k_asm) (by k_asm) (by k_mem) rfl rfl rfl ?_); intro I hI)
  repeat (first | walk1 | (dsimp only; walk1) | (k_unfold; (try dsimp only)))
  refine items_inv (fun i m nw => FixOf [Str.ofString "at", Str.ofString "one"] m _ ∧ ∃ rvs nr, nw = (_, listOf (List.toArray rvs) nr) :: news ∧ DatAll [] rvs ((rowsAll 0 (ds.take i)).map .str) ∧ rvs.length ≤ 100 * i ∧ ∀ p ∈ nw, (@Ne Nat p.1 I) ∧ (@Ne Nat p.1 (I + 1))) ?_ ?_ ⟨FixOf.rfl', [], _, rfl, DatAll.nil, by simp, fun p hp => ⟨Nat.ne_of_lt (hI p hp), Nat.ne_of_lt (Nat.lt_succ_of_lt (hI p hp))⟩⟩
  · rintro i a m1 nw v h tk ha ⟨hfix, rvs, nr, rfl, hrows, hrl, hoffI⟩ hv F1
    obtain ⟨cv, hcv, rfl⟩ := enumItems_inv ha
    obtain ⟨T, t, rfl, htup⟩ := hv
    obtain ⟨r, hr, hco⟩ := heach.get hcv
    have hil := (List.getElem?_eq_some_iff.mp hr).1
    have hrx := (hok r (List.mem_of_getElem? hr)).x
    have hil5 : i < 5 := by omega
    have hrx20 : r.x.length ≤ 20 := by omega
    have hrl4 : rvs.length ≤ 400 := by omega
    obtain ⟨ca, cd, cb, cs', cf, u0, u1, u2, u3, u4, tl1, lv, cn', nb', ns', nf', bvs, svs, fvs, bt, st, ft, rfl, hlv, hc1, hc2, hb1, hb2, hb3, ob1, ob2, ob3, l51, l52, l53, et⟩ := hco.orders hrx20
    have F2 := hfix.fr F1
    clear F1
    refine AllObj.cons fun o1 ho1 => ?_
    refine AllObj.cons fun o2 ho2 => ?_
    refine AllObj.nil fun N2 => ?_
    simp only [List.cons_append, List.nil_append] at N2
    dsimp only at htup ho1 ho2 ⊢
    have hoff0 := hoffI _ (.head _)
    have hofft := fun p hp => hoffI p (.tail _ hp)
    dsimp only at hoff0
    obtain ⟨hoff1, hoff2⟩ := hoff0
    (try k_fold)
    iterate 9 (first | (k_unfold; (try dsimp only)) | walk1 | (dsimp only; walk1))
    rename_i hF9 hN9
    have hhl := head_len (i := i) (by omega)
    refine stageF (fun t' => listOf (List.toArray (rvs ++ [Value.str (headS i r.lb) t'])) (nr + 1)) hF9 hN9 ?_ ?_
    · obtain ⟨lb, line, form, x⟩ := r
      dsimp only at hlv
      cases hlv
      all_goals k_steps
      all_goals refine Stop.on ?_
      all_goals (k_dflt (refine app_K (by k_asm) (by k_asm) (by k_upd) (len_end (by assumption)) ?_); intro h' F' N'; (try k_sweep))
      all_goals k_steps
      all_goals exact staged ⟨by k_asm, _, by k_asm⟩
    · intro h3 tk3 t3 F3 N3
      clear hF9 hN9
      have hco' := hco
      clear hco
      k_steps
      refine Stop.on ?_
      k_dflt (refine LCg.CompSrc.ledger (by rfl) (by k_asm) (by k_asm) (by k_mem) (by (rw [PySem.sizeLine_eq]; simp only [List.size_toArray]; omega)) ?_; intro g')
      refine ord_inv (Str.ofString "  ") (OrdAll.mono ob1 (by intro p hp; tb_rel)) ?turn1 ?fin1
      case turn1 =>
        intro v t I9 oI9 C9 oC9 D9 m9 ys9 h9 tk9 rest9 E9 hot hC9 hx9 F9 N9 off9 ne9 hr9
        (try k_fold)
        k_steps
        refine Stop.on ?_
        (k_dflt (refine' show_use _ _ _ _ ?s1o ?_; (case s1o => refine' OrdIn.mono (by assumption) ?_; intro p hp; tb_rel)); intro t9 h9 tk9 F9 N9 x9; (try dsimp only); (try k_fold))
        k_steps
        refine comp_same (by k_asm) (by k_asm) off9 ?_ (hr9 _)
        exact Or.inr ⟨_, (.tail _ (.tail _ (.tail _ (hb1)))), rfl, _, rfl⟩
      intro y1 hy1 hl1
      have hz1 : (rvs ++ [Value.str (headS i r.lb) t3]).length ≤ 1000 := by simp only [List.length_append, List.length_cons, List.length_nil]; omega
      have hw1 : y1.length ≤ 100 := by omega
      k_steps
      refine Stop.on ?_
      (k_dflt (refine ext_any (by k_asm) (by k_asm) (by k_mem) (by k_updF) (by assumption) (by assumption) ?_); intro h' n' F' N'; (try dsimp only at N'); (try k_sweep))
      k_steps
      refine Stop.on ?_
      k_dflt (refine LCg.CompSrc.ledger (by rfl) (by k_asm) (by k_asm) (by k_mem) (by (rw [PySem.sizeLine_eq]; simp only [List.size_toArray]; omega)) ?_; intro g')
      refine ord_inv (Str.ofString "  S ") (OrdAll.mono ob2 (by intro p hp; tb_rel)) ?turn2 ?fin2
      case turn2 =>
        intro v t I9 oI9 C9 oC9 D9 m9 ys9 h9 tk9 rest9 E9 hot hC9 hx9 F9 N9 off9 ne9 hr9
        (try k_fold)
        k_steps
        refine Stop.on ?_
        (k_dflt (refine' show_use _ _ _ _ ?s2o ?_; (case s2o => refine' OrdIn.mono (by assumption) ?_; intro p hp; tb_rel)); intro t9 h9 tk9 F9 N9 x9; (try dsimp only); (try k_fold))
        k_steps
        refine comp_same (by k_asm) (by k_asm) off9 ?_ (hr9 _)
        exact Or.inr ⟨_, (.tail _ (.tail _ (.tail _ (.tail _ (hb2))))), rfl, _, rfl⟩
      intro y2 hy2 hl2
      have hz2 : (rvs ++ [Value.str (headS i r.lb) t3] ++ y1).length ≤ 1000 := by simp only [List.length_append, List.length_cons, List.length_nil]; omega
      have hw2 : y2.length ≤ 100 := by omega
      k_steps
      refine Stop.on ?_
      (k_dflt (refine ext_any (by k_asm) (by k_asm) (by k_mem) (by k_updF) (by assumption) (by assumption) ?_); intro h' n' F' N'; (try dsimp only at N'); (try k_sweep))
      k_steps
      refine Stop.on ?_
      k_dflt (refine LCg.CompSrc.ledger (by rfl) (by k_asm) (by k_asm) (by k_mem) (by (rw [PySem.sizeLine_eq]; simp only [List.size_toArray]; omega)) ?_; intro g')
      refine ord_inv (Str.ofString "  F ") (OrdAll.mono ob3 (by intro p hp; tb_rel)) ?turn3 ?fin3
      case turn3 =>
        intro v t I9 oI9 C9 oC9 D9 m9 ys9 h9 tk9 rest9 E9 hot hC9 hx9 F9 N9 off9 ne9 hr9
        (try k_fold)
        k_steps
        refine Stop.on ?_
        (k_dflt (refine' show_use _ _ _ _ ?s3o ?_; (case s3o => refine' OrdIn.mono (by assumption) ?_; intro p hp; tb_rel)); intro t9 h9 tk9 F9 N9 x9; (try dsimp only); (try k_fold))
        k_steps
        refine comp_same (by k_asm) (by k_asm) off9 ?_ (hr9 _)
        exact Or.inr ⟨_, (.tail _ (.tail _ (.tail _ (.tail _ (.tail _ (hb3)))))), rfl, _, rfl⟩
      intro y3 hy3 hl3
      have hz3 : (rvs ++ [Value.str (headS i r.lb) t3] ++ y1 ++ y2).length ≤ 1000 := by simp only [List.length_append, List.length_cons, List.length_nil]; omega
      have hw3 : y3.length ≤ 100 := by omega
      k_steps
      refine Stop.on ?_
      (k_dflt (refine ext_any (by k_asm) (by k_asm) (by k_mem) (by k_updF) (by assumption) (by assumption) ?_); intro h' n' F' N'; (try dsimp only at N'); (try k_sweep))
      k_steps
      refine unr_end2s (news := news) (by k_asm) (by k_asm) (by tb_rel) (by tb_rel) (by tb_rel) (by intro p hp; tb_rel) (off_put (P := fun a => (@Ne Nat a I) ∧ (@Ne Nat a (I + 1))) hoffI) ⟨⟨.tail _ hi3, trivial⟩, (FixOf.base.step (by decide +kernel)).step (by decide +kernel), _, _, rfl, ?_, ?_, off_put (P := fun a => (@Ne Nat a I) ∧ (@Ne Nat a (I + 1))) hoffI⟩
      · simp only [List.append_assoc, List.cons_append, List.nil_append]
        refine rows_end hrows (rowsAll_take hr) ?_
        rw [et]
        simp only [List.map_cons, List.map_append]
        exact .cons (.str _ _) (hy1.append (hy2.append hy3))
      · simp only [List.length_append, List.length_cons, List.length_nil]; omega
  · rintro m1 nw h tk ⟨hfix, rvs, nr, rfl, hrows, hrl, hoffI⟩ F1 N1
    have F2 := hfix.fr F1
    clear F1
    rw [show (enumItems 0 cvs).length = ds.length by rw [enumItems_length, heach.length], List.take_length] at hrows
    k_steps
    all_goals tb_start
    all_goals exact ⟨_, _, _, rfl, .head _, hrows⟩

end

section
-- this walk names its facts by their places: no tokens taken away here
local macro_rules | `(tactic| k_steps) => `(tactic| repeat' (first | (k_unfold; (try dsimp only)) | (k_end; wrow_close) | walk1 | (dsimp only; walk1) | (leave1; walk_say "STEP leave1"; try dsimp only) | fail "no step"))
theorem inst_exc {h₀ h : Heap} {L e t : Addr} {news : List (Addr × Obj)} (N : News h₀ L h news) (hm : (e, exc0 t) ∈ news) : InstAt h e (exc0 t) 34 none := ⟨N.get hm, rfl, rfl, trivial⟩
local macro_rules | `(tactic| walk_at "wpAt") => `(tactic| (ks_step "attributeBase Call"; refine stop_here ?_))
local macro_rules | `(tactic| walk_at "getMethod ref") => `(tactic| refine stop_here ?_)
local macro_rules | `(tactic| walk_at "callWith ref") => `(tactic| (k_here; k_dflt (refine' mw_withK ?N ?m ?_; (case N => k_asm); (case m => k_mem))))
local macro_rules | `(tactic| walk_at "Eq") => `(tactic| exact News.get (by k_asm) (by k_mem))
local macro_rules | `(tactic| walk_at "call ref") => `(tactic| refine stop_here ?_)
local macro_rules | `(tactic| walk_at "exec Raise some none") => `(tactic| (k_here; k_dflt (refine raise_D (by rfl) ?_)))
theorem ex_number : typeLookup (.type "Exception") (Str.ofString "number") = pure none := by rw [typeLookup_type, builtinLookup_eq_fast]; kernel_rfl
theorem ex_told : typeLookup (.type "Exception") (Str.ofString "told") = pure none := by rw [typeLookup_type, builtinLookup_eq_fast]; kernel_rfl
local macro_rules | `(tactic| walk_at "setAttr ref") => `(tactic| refine stop_here ?_)
theorem name_bad (w : World) (mean : ExcName → Option Value) (mg mb : Str → Option Value) (v : Value) : ConX 6 w mean mg mb 114 [v] (fun news => BadIn news v) := by
  unfold ConX
  k_fill
  intro dp un gd cn cs a ccd cl outer A₀ base h₀ L m news s Q E B F X N T hk hst hd hu hret
  refine wpAny_call ?_
  obtain ⟨va, rfl⟩ : ∃ a, v = .ref a := by cases hst <;> exact ⟨_, rfl⟩
  k_dflt ktr_enter
  rename_i g1 L1 h1 FG1 F1 N1 B1 X1 T1
  refine execs_stageK (l := [_, _, _, _, _, _]) (r := [_]) (Str.ofString "kind") F1 N1 ?_ ?_
  · cases hst
    all_goals k_steps
    all_goals exact stagedP ⟨_, _, by k_asm, by k_asm⟩
  · intro h2 tk2 x t F2 N2
    k_steps
    refine Stop.on ?_
    k_dflt (refine' snob_K ?F ?X ?N ?l ?_; (case F => k_asm); (case X => k_asm); (case N => k_asm); (case l => exact Nat.le_of_ble_eq_true rfl)); intro e9 t9 h9 F9 N9 ne9 off9 off8; (try dsimp only)
    k_steps
    refine Stop.on ?_
    refine wpAny_call ?_; k_dflt (refine' ks_code_super ?k1 ?k2 ?k3 ?k4 ?k5 ?kA ?kF ?kK ?k6 ?k7 ?k8 ?k9 ?kB ?_ ?c1 ?c2 ?c3 ?c4; (case kA => exact rfl); (case kF => exact rfl); (case kK => exact rfl); (case k1 => k_asm); (case k2 => k_asm); (case k3 => k_asm); (case k4 => k_asm); (case k5 => k_asm); (case k6 => k_is); (case k7 => k_is); (case k8 => k_room); (case k9 => exact binds_K (by k_in) rfl (by k_is) rfl rfl rfl); (case kB => exact locs rfl); (case c1 => decide); (case c2 => exact rfl); (case c3 => exact rfl); (case c4 => exact rfl)); intro g' L' h' FG' F' N' B' X' T' l1; (try k_lt l1); (try dsimp only); (try k_lift B')
    k_steps
    refine Stop.on ?_
    k_dflt (refine ks_node (x := _) (ox := exc0 _) (odx := none) (by k_asm) (by k_asm) (by k_asm) (by k_asm) (by k_is) (by rfl) (by rfl) (inst_exc (t := _) (by k_asm) (by k_mem)) (by k_is) (by rfl) (by first | rfl | decide +kernel) (by k_is) (by k_is) (by k_is) (by k_is) (by decide) (by rfl) (by rfl) (by rfl) (by rfl) (by decide +kernel) (by first | boot_by_name | rfl | kernel_rfl) ?_; intro so' h' F' N' l1; (try k_lt l1))
    k_steps
    refine Stop.on ?_
    k_dflt (refine' sup_K ?F ?X ?N ?s ?e ?_; (case F => k_asm); (case X => k_asm); (case N => k_asm); (case s => k_mem); (case e => k_mem)); intro u' h' F' N' l1; (try k_lt l1)
    k_steps
    refine Stop.on ?_
    k_dflt (refine' mw_K ?F ?X ?N ?u ?U ?_; (case F => k_asm); (case X => k_asm); (case N => k_asm); (case u => k_mem); (case U => k_updF)); intro t8 h' F' N' l1; (try dsimp only at N'); (try k_lt l1)
    k_steps
    refine Stop.on ?_
    k_dflt (refine' put1_K ?F ?X ?N ?U ?e ?B ?_; (case F => k_asm); (case X => k_asm); (case N => k_asm); (case U => k_updF); (case e => k_is); (case B => first | exact ex_number | exact ex_told)); intro dx9 _ h' tk' F' N' ho' l9; (try dsimp only at N'); (try k_lt l9)
    k_steps
    refine Stop.on ?_
    k_dflt (refine' put2_K ?F ?X ?N ?he ?ho ?U ?e ?B ?ne ?w ?z ?_; (case F => k_asm); (case X => k_asm); (case N => k_asm); (case he => k_mem); (case ho => assumption); (case U => k_updF); (case e => k_is); (case B => first | exact ex_number | exact ex_told); (case ne => k_ne); (case w => exact Within.cons _ _ Within.nil); (case z => exact Nat.le_of_ble_eq_true rfl)); intro oD9 h' tk' F' N' ho9; (try dsimp only at N')
    k_steps
    rename_i kF9 kN9 Tc9 kX9
    refine leave_D (t := t8) (d := dx9) (news := (dx9, oD9) :: news) B1 kF9 kN9 (by tb_rel) ?_ (fun h3 R3 U3 => ?_)
    · intro p hp
      rcases List.mem_cons.mp hp with rfl | hp
      · exact ⟨.head _, Nat.ne_of_gt l9.2.2.2.1⟩
      · exact ⟨by tb_rel, off9 p hp⟩
    · exact hret _ _ _ _ _ _ _ _ FG1 U3 R3 (fun q hq => Nat.ne_of_lt (allLt_mem l9.2.2.2.2.2 q hq)) ho9

end

section
local macro_rules | `(tactic| walk_at "exec For Name Name cons nil") => `(tactic| refine stop_here ?_)
local macro_rules | `(tactic| walk_at "pyIter ref") => `(tactic| refine stop_here ?_)
local macro_rules | `(tactic| walk_at "UnrEndW") => `(tactic| refine stop_here ?_)
theorem name_good (w : World) (mean : ExcName → Option Value) (mg mb : Str → Option Value) (v : Value) : Con 10 w mean mg mb 114 [v] (fun news => GoodIn news v) nameOut := by
  unfold Con
  k_fill
  intro dp un gd cn cs a ccd cl outer A₀ base h₀ L m news s Q E B F X N T hk hst hd hu hret
  refine wpAny_call ?_
  cases hst
  all_goals k_dflt ktr_enter
  all_goals k_steps
  all_goals repeat
      refine Stop.on ?_
      first
      | ((rename Fr _ _ _ _ => lF'); with_unfolding_all refine For_turns lF' ?_)
      | (k_dflt (refine iter_tupL (by rfl) (by k_asm) (by k_asm) (by k_mem) ?_); intro I' l1'; (try k_lt l1'))
      | k_dflt (refine unr_end1b (by k_asm) (by k_asm) (by assumption) ⟨⟨by tb_rel, trivial⟩, ?_⟩)
      k_steps
  all_goals tb_start
  all_goals exact ⟨_, _, _, rfl, by k_mem, Nat.le_of_ble_eq_true rfl⟩

end

section
local macro_rules | `(tactic| walk_at "idle") => `(tactic| skip)
local macro_rules | `(tactic| walk_at "call ref") => `(tactic| refine stop_here ?_)
local macro_rules | `(tactic| walk_at "noteFrame ref") => `(tactic| refine stop_here ?_)
local macro_rules | `(tactic| walk_at "getAttr ref") => `(tactic| refine stop_here ?_)
theorem ref_bad (w : World) (mean : ExcName → Option Value) (mg mb : Str → Option Value) (v : Value) : ConT 20 w mean mg mb 192 [v] (fun news => BadIn news v) (.bool true) := by
  unfold ConT
  k_fill
  intro dp un gd cn cs a ccd cl A₀ base h₀ L m news s Q E B F X N T hk XB TB hst hd hu hret
  refine wpAny_call ?_
  k_dflt (refine' code_T ?k1 ?k2 ?k3 ?k4 ?k5 ?kA ?kF ?kK ?k6 ?k7 ?k8 ?k9 ?kB ?_ ?c2 ?c3 ?c4 ?c5; (case kA => exact rfl); (case kF => exact rfl); (case kK => assumption); (case k1 => k_asm); (case k2 => k_asm); (case k3 => k_asm); (case k4 => k_asm); (case k5 => k_asm); (case k6 => k_is); (case k7 => k_is); (case k8 => ktr_room); (case k9 => exact BindsTo.of_eq rfl); (case c5 => decide); (case kB => exact locs rfl); (case c2 => exact rfl); (case c3 => exact rfl); (case c4 => exact rfl); k_whole; intro g' L' h' FG' F' N' B' X' T' D'; (try dsimp only); (try k_fold))
  k_steps
  refine Stop.on ?_
  k_dflt (refine' conx_use (name_bad _ _ _ _ _) ?_ ?_; assumption); intro e9 d9 g9 oD9 tk9 v9 h9 tk8 F9 U9 R9 z9 o9; (try dsimp only); (try k_fold)
  k_steps
  refine Stop.on ?_
  (k_dflt (refine caught_D (by assumption) (by assumption) (by assumption) (by assumption) (by assumption) (by assumption) (by assumption) KtsTurn.refl (by k_is) ?_); intro h' g' tk' ws' sl' T' F' N' K' X' P' D'; (try k_lift K'))
  k_steps
  refine Stop.on ?_
  k_dflt (refine num_K (by k_asm) (by k_asm) (by k_asm) (by k_mem) (by k_mem) (by assumption) rfl ?_)
  k_steps
  all_goals exact hret _ _ (by k_asm) (news_sub (by k_asm) (by intro p hp; tb_rel))
theorem ref_good (w : World) (mean : ExcName → Option Value) (mg mb : Str → Option Value) (v : Value) : ConT 20 w mean mg mb 192 [v] (fun news => GoodIn news v) (.bool false) := by
  unfold ConT
  k_fill
  intro dp un gd cn cs a ccd cl A₀ base h₀ L m news s Q E B F X N T hk XB TB hst hd hu hret
  refine wpAny_call ?_
  k_dflt (refine' code_T ?k1 ?k2 ?k3 ?k4 ?k5 ?kA ?kF ?kK ?k6 ?k7 ?k8 ?k9 ?kB ?_ ?c2 ?c3 ?c4 ?c5; (case kA => exact rfl); (case kF => exact rfl); (case kK => assumption); (case k1 => k_asm); (case k2 => k_asm); (case k3 => k_asm); (case k4 => k_asm); (case k5 => k_asm); (case k6 => k_is); (case k7 => k_is); (case k8 => ktr_room); (case k9 => exact BindsTo.of_eq rfl); (case c5 => decide); (case kB => exact locs rfl); (case c2 => exact rfl); (case c3 => exact rfl); (case c4 => exact rfl); k_whole; intro g' L' h' FG' F' N' B' X' T' D'; (try dsimp only); (try k_fold))
  k_steps
  refine Stop.on ?_
  k_dflt (refine' con_use (name_good _ _ _ _ _) ?_ ?_; assumption); intro r9 tl9 h9 tk9 F9 N9 hl9 ho9; (try dsimp only); (try k_fold)
  k_steps
  all_goals exact hret _ _ (by k_asm) (news_sub (by k_asm) (by intro p hp; tb_rel))

end

section
local macro_rules | `(tactic| walk_at "call ref") => `(tactic| ((with_reducible show wpAny _ _ (call (Value.ref 114) _) _ _ _); refine stop_here ?_))
local macro_rules | `(tactic| walk_at "binaryOp Add ref ref") => `(tactic| refine stop_here ?_)
theorem compG (w : World) (mean : ExcName → Option Value) (mg mb : Str → Option Value) (i : Int) (v tv : Value) : Con 25 w mean mg mb 135 [v] (fun news => SuIn w news tv i v ∧ GoodIn news tv) (coOut w) := by
  unfold Con
  k_fill
  intro dp un gd cn cs a ccd cl outer A₀ base h₀ L m news s Q E B F X N T hk hst hd hu hret
  obtain ⟨hsu, hgd⟩ := hst
  obtain ⟨va, rfl⟩ : ∃ a, tv = .ref a := by cases hgd <;> exact ⟨_, rfl⟩
  refine wpAny_call ?_
  cases hsu
  all_goals k_dflt ktr_enter
  all_goals k_steps
  all_goals repeat
      refine Stop.on ?_
      first
      | (k_dflt (refine' con_use (name_good _ _ _ _ _) ?_ ?_; exact GoodIn.mono (by assumption) (by intro p hp; tb_rel)); intro r9 tl9 h9 tk9 F9 N9 hl9 ho9; (obtain ⟨la9, vs9, n9, e9, m9, z9⟩ := ho9); (subst e9); (try dsimp only); (try k_fold))
      | (k_dflt (refine cat_K (by k_asm) (by k_asm) (by k_mem) (by k_mem) (by first | exact Nat.le_of_ble_eq_true rfl | (simp only [List.length_append, List.length_cons, List.length_nil]; omega)) ?_); intro D' h' F' N' l1; (try k_lt l1))
      k_steps
  all_goals refine con_retS (tl := [(_, _), (_, _)]) hret (by k_asm) (by k_asm) (by intro p hp; tb_rel) (ht2 (by tb_rel) (by tb_rel)) ?_ ⟨_, _, _, _, _, _, _, _, _, _, _, _, rfl, .head _, .tail _ (.head _)⟩
  all_goals refine ap2 (by with_reducible assumption) (fun q hq => ?_)
  all_goals first
    | exact allLt_mem (And.right (And.right (And.right (And.right (And.right (And.right (by with_reducible assumption))))))) q (by tb_rel)
    | exact allLt_mem (And.right (And.right (And.right (And.right (And.right (And.right (And.right (by with_reducible assumption)))))))) q (by tb_rel)
    | exact allLt_mem (And.right (And.right (And.right (And.right (And.right (And.right (And.right (And.right (by with_reducible assumption))))))))) q (by tb_rel)
    | exact allLt_mem (And.right (And.right (And.right (And.right (And.right (And.right (And.right (And.right (And.right (by with_reducible assumption)))))))))) q (by tb_rel)
    | exact allLt_mem (And.right (And.right (And.right (And.right (And.right (by with_reducible assumption)))))) q (by tb_rel)

end

section
local macro_rules | `(tactic| walk_at "idle") => `(tactic| skip)
local macro_rules | `(tactic| walk_at "call ref") => `(tactic| ((with_reducible show wpAny _ _ (call (Value.ref 114) _) _ _ _); refine stop_here ?_))
local macro_rules | `(tactic| walk_at "leaving ref") => `(tactic| refine stop_here ?_)
theorem compX (w : World) (mean : ExcName → Option Value) (mg mb : Str → Option Value) (i : Int) (v tv : Value) : ConX 15 w mean mg mb 135 [v] (fun news => SuIn w news tv i v ∧ BadIn news tv) := by
  unfold ConX
  k_fill
  intro dp un gd cn cs a ccd cl outer A₀ base h₀ L m news s Q E B F X N T hk hst hd hu hret
  obtain ⟨hsu, hgd⟩ := hst
  obtain ⟨va, rfl⟩ : ∃ a, tv = .ref a := by cases hgd <;> exact ⟨_, rfl⟩
  refine wpAny_call ?_
  cases hsu
  all_goals k_dflt ktr_enter
  all_goals k_steps
  all_goals repeat
      refine Stop.on ?_
      first
      | (k_dflt (refine' conx_use (name_bad _ _ _ _ _) ?_ ?_; exact BadIn.mono (by assumption) (by intro p hp; tb_rel)); intro e9 d9 g9 oD9 tk9 v9 h9 tk8 F9 U9 R9 z9 o9; (try dsimp only); (try k_fold))
      | (k_dflt (refine leave_onD (by assumption) (by assumption) (by assumption) (by assumption) ?_); intro h' R' U')
      k_steps
  all_goals exact hret _ _ _ _ _ _ _ _ (by assumption) (by assumption) (RzD.sub (by assumption) (by intro p hp; rcases List.mem_cons.mp hp with rfl | hp; exact .head _; exact .tail _ (by tb_rel))) (fun q hq => (by assumption : ∀ q ∈ _, @Ne Nat q.1 _) q (by tb_rel)) (by assumption)

end

section
local macro_rules | `(tactic| walk_at "CompSrc") => `(tactic| refine stop_here ?_)
local macro_rules | `(tactic| walk_at "call ref") => `(tactic| ((with_reducible show wpAny _ _ (call (Value.ref 135) _) _ _ _); refine stop_here ?_))
local macro_rules | `(tactic| walk_at "exec For Tuple Call cons nil") => `(tactic| refine stop_here ?_)
local macro_rules | `(tactic| walk_at "call type:enumerate") => `(tactic| refine stop_here ?_)
local macro_rules | `(tactic| walk_at "CompEnd") => `(tactic| refine stop_here ?_)
local macro_rules | `(tactic| walk_at "UnrEndW") => `(tactic| refine stop_here ?_)
theorem progG (w : World) (mean : ExcName → Option Value) (mg mb : Str → Option Value) (la : Addr) (nl : Nat) (i : Int) (v tv : Value) (num : Int) (t : Tok) :
    Con 40 w mean mg mb 140 [.ref la, .int num t] (fun news => (la, listOf #[v] nl) ∈ news ∧ SuIn w news tv i v ∧ GoodIn news tv) (fun _ _ _ => True) := by
  unfold Con
  k_fill
  intro dp un gd cn cs a ccd cl outer A₀ base h₀ L m news s Q E B F X N T hk hst hd hu hret
  obtain ⟨hla, hsu, hgd⟩ := hst
  refine wpAny_call ?_
  k_dflt ktr_enter
  k_steps
  refine Stop.on ?_
  k_dflt (refine LCg.CompSrc.ledger (by rfl) (by k_asm) (by k_asm) (by k_mem) (by exact Nat.le_of_ble_eq_true rfl) ?_; intro g')
  k_steps
  refine Stop.on ?_
  (k_dflt (refine' con_use (compG _ _ _ _ _ _ _) ?n ?_; (case n => exact ⟨SuIn.mono (by assumption) (by intro p hp; tb_rel), GoodIn.mono (by assumption) (by intro p hp; tb_rel)⟩)); intro r9 tl9 h9 tk9 F9 N9 hl9 ho9; (obtain ⟨a1, a2, a3, a4, a5, a6, a7, a8, a9, b1, b2, b3, b4, b5, b6⟩ := ho9); (subst b4); (try dsimp only); (try k_fold))
  k_steps
  refine Stop.on ?_
  (k_dflt (refine comp_end0 (by assumption) (by assumption) (by assumption) (by assumption) (by exact Or.inr ⟨_, by k_mem, rfl, _, rfl⟩) ?_))
  k_steps
  refine Stop.on ?_
  (rename Fr _ _ _ _ => lF'); (with_unfolding_all refine' For_turns lF' ?_; k_whole)
  k_steps
  refine Stop.on ?_
  (k_dflt (refine ktu_enum (by rfl) (by k_asm) (by k_asm) (by k_mem) rfl rfl rfl ?_); intro I' l1')
  k_steps
  refine Stop.on ?_
  (k_dflt (refine unr_end2 (by k_asm) (by k_asm) (offI2 (by assumption)) ⟨⟨by tb_rel, trivial⟩, ?_⟩))
  k_steps
  all_goals exact con_retS (tl := []) (out := fun _ _ _ => True) hret (by k_asm) (by k_asm) (by intro p hp; tb_rel) (fun _ h => nomatch h) (fun _ _ _ h => nomatch h) trivial

end

section
local macro_rules | `(tactic| walk_at "call ref") => `(tactic| refine stop_here ?_)
theorem progX (w : World) (mean : ExcName → Option Value) (mg mb : Str → Option Value) (la : Addr) (nl : Nat) (i : Int) (v tv : Value) (num : Int) (t : Tok) :
    ConX 30 w mean mg mb 140 [.ref la, .int num t] (fun news => (la, listOf #[v] nl) ∈ news ∧ SuIn w news tv i v ∧ BadIn news tv) := by
  unfold ConX
  k_fill
  intro dp un gd cn cs a ccd cl outer A₀ base h₀ L m news s Q E B F X N T hk hst hd hu hret
  obtain ⟨hla, hsu, hgd⟩ := hst
  refine wpAny_call ?_
  k_dflt ktr_enter
  rename_i g1 L1 h1 FG1 F1 N1 B1 X1 T1
  refine wpAny_execs_cons ?_
  k_dflt (refine assign_raise (v := v) F1 B1 (by with_unfolding_all rfl) (by with_unfolding_all rfl) (by decide) (by rfl) (by decide) (by rfl) (by rfl) (by rfl) ?_)
  repeat walk1
  refine ⟨la, nl, news, rfl, rfl, by k_asm, by k_asm, hla, ?_, ?_⟩
  · intro I oI C oC D m₂ h tk E' hC' hx' F' N' off' ne' hr
    have cE' := InElt.start h
    (try k_fold)
    k_steps
    refine Stop.on ?_
    (k_dflt (refine' conx_use (compX _ _ _ _ i v tv) ?_ ?_; exact ⟨SuIn.mono (by assumption) (by intro p hp; tb_rel), BadIn.mono (by assumption) (by intro p hp; tb_rel)⟩); intro e9 d9 g9 oD9 tk9 v9 h9 tk8 F9 U9 R9 z9 o9; (try dsimp only); (try k_fold))
    k_steps
    exact hr _ _ _ _ _ _ _ _ F9 U9 R9 z9 o9
  · intro e d g oD tk u h' tk' Fg U R z o
    k_unfold
    try dsimp only
    refine leave_heldD R Fg U (fun h3 R3 U3 => ?_)
    exact hret _ _ _ _ _ _ _ _ FG1 U3 R3 z o

end

section
def Pl (_ : Int) : Prop := True
local macro_rules | `(tactic| walk_at "noteFrame ref") => `(tactic| refine stop_here ?_)
local macro_rules | `(tactic| walk_at "getAttr ref") => `(tactic| refine stop_here ?_)
local macro_rules | `(tactic| walk_at "exec If") => `(tactic| (k_here; (rename (_ = _ ∨ _) => hq9); refine stop_here ?_))
local macro_rules | `(tactic| walk_at "call ref") => `(tactic| ((with_reducible show wpAny _ _ (call (Value.ref 140) _) _ _ _); refine stop_here ?_))
theorem lc_bad (w : World) (mean : ExcName → Option Value) (mg mb : Str → Option Value) (i : Int) (t : Tok) (v : Value) (hi : i = 0 ∨ i = 1 ∨ i = 2) : ConT 45 w mean mg mb 199 [.int i t, v] (fun news => BadIn news v) (.bool false) := by
  unfold ConT
  k_fill
  intro dp un gd cn cs a ccd cl A₀ base h₀ L m news s Q E B F X N T hk XB TB hst hd hu hret
  obtain ⟨va, rfl⟩ : ∃ a, v = .ref a := by cases hst <;> exact ⟨_, rfl⟩
  have pl9 : Pl i := trivial
  refine wpAny_call ?_
  k_dflt (refine' code_T ?k1 ?k2 ?k3 ?k4 ?k5 ?kA ?kF ?kK ?k6 ?k7 ?k8 ?k9 ?kB ?_ ?c2 ?c3 ?c4 ?c5; (case kA => exact rfl); (case kF => exact rfl); (case kK => assumption); (case k1 => k_asm); (case k2 => k_asm); (case k3 => k_asm); (case k4 => k_asm); (case k5 => k_asm); (case k6 => k_is); (case k7 => k_is); (case k8 => ktr_room); (case k9 => exact BindsTo.of_eq rfl); (case c5 => decide); (case kB => exact locs rfl); (case c2 => exact rfl); (case c3 => exact rfl); (case c4 => exact rfl); k_whole; intro g' L' h' FG' F' N' B' X' T' D'; (try dsimp only); (try k_fold))
  k_steps
  refine Stop.on ?_
  rename (_ = _ ∨ _) => hi
  rcases hi with rfl | rfl | rfl
  all_goals k_steps
  · refine Stop.on ?_
    (k_dflt (refine' conx_use (progX _ _ _ _ _ _ _ _ _ _ _) ?an ?_; (case an => (refine' ⟨?an1, ?an2, ?an3⟩; (case an3 => exact BadIn.mono (by assumption) (by intro p hp; tb_rel)); (case an1 => k_mem); (case an2 => first | ((have := (by with_reducible assumption : Pl 0)); refine' SuIn.p0 ?am1 ?am2 ?am3; (case am1 => k_mem); (case am2 => k_mem); (case am3 => k_mem)) | ((have := (by with_reducible assumption : Pl 1)); refine' SuIn.p1 ?am1 ?am2 ?am3 ?am4 ?am5; (case am1 => k_mem); (case am2 => k_mem); (case am3 => k_mem); (case am4 => k_mem); (case am5 => k_mem)) | ((have := (by with_reducible assumption : Pl 2)); refine' SuIn.p2 ?am1 ?am2 ?am3 ?am4; (case am1 => k_mem); (case am2 => k_mem); (case am3 => k_mem); (case am4 => k_mem)))))); intro e9 d9 g9 oD9 tk9 v9 h9 tk8 F9 U9 R9 z9 o9; (try dsimp only); (try k_fold))
    k_steps
    refine Stop.on ?_
    (k_dflt (refine caught_D (by assumption) (by assumption) (by assumption) (by assumption) (by assumption) (by assumption) (by assumption) KtsTurn.refl (by k_is) ?_); intro h' g' tk' ws' sl' T' F' N' K' X' P' D'; (try k_lift K'))
    k_steps
    refine Stop.on ?_
    k_dflt (refine num_K (by k_asm) (by k_asm) (by k_asm) (by k_mem) (by k_mem) (by assumption) rfl ?_)
    k_steps
    all_goals exact hret _ _ (by k_asm) (news_sub (by k_asm) (by intro p hp; tb_rel))
  · refine Stop.on ?_
    (k_dflt (refine' conx_use (progX _ _ _ _ _ _ _ _ _ _ _) ?bn ?_; (case bn => (refine' ⟨?bn1, ?bn2, ?bn3⟩; (case bn3 => exact BadIn.mono (by assumption) (by intro p hp; tb_rel)); (case bn1 => k_mem); (case bn2 => first | ((have := (by with_reducible assumption : Pl 0)); refine' SuIn.p0 ?bm1 ?bm2 ?bm3; (case bm1 => k_mem); (case bm2 => k_mem); (case bm3 => k_mem)) | ((have := (by with_reducible assumption : Pl 1)); refine' SuIn.p1 ?bm1 ?bm2 ?bm3 ?bm4 ?bm5; (case bm1 => k_mem); (case bm2 => k_mem); (case bm3 => k_mem); (case bm4 => k_mem); (case bm5 => k_mem)) | ((have := (by with_reducible assumption : Pl 2)); refine' SuIn.p2 ?bm1 ?bm2 ?bm3 ?bm4; (case bm1 => k_mem); (case bm2 => k_mem); (case bm3 => k_mem); (case bm4 => k_mem)))))); intro e9 d9 g9 oD9 tk9 v9 h9 tk8 F9 U9 R9 z9 o9; (try dsimp only); (try k_fold))
    k_steps
    refine Stop.on ?_
    (k_dflt (refine caught_D (by assumption) (by assumption) (by assumption) (by assumption) (by assumption) (by assumption) (by assumption) KtsTurn.refl (by k_is) ?_); intro h' g' tk' ws' sl' T' F' N' K' X' P' D'; (try k_lift K'))
    k_steps
    refine Stop.on ?_
    k_dflt (refine num_K (by k_asm) (by k_asm) (by k_asm) (by k_mem) (by k_mem) (by assumption) rfl ?_)
    k_steps
    all_goals exact hret _ _ (by k_asm) (news_sub (by k_asm) (by intro p hp; tb_rel))
  · refine Stop.on ?_
    (k_dflt (refine' conx_use (progX _ _ _ _ _ _ _ _ _ _ _) ?cn ?_; (case cn => (refine' ⟨?cn1, ?cn2, ?cn3⟩; (case cn3 => exact BadIn.mono (by assumption) (by intro p hp; tb_rel)); (case cn1 => k_mem); (case cn2 => first | ((have := (by with_reducible assumption : Pl 0)); refine' SuIn.p0 ?cm1 ?cm2 ?cm3; (case cm1 => k_mem); (case cm2 => k_mem); (case cm3 => k_mem)) | ((have := (by with_reducible assumption : Pl 1)); refine' SuIn.p1 ?cm1 ?cm2 ?cm3 ?cm4 ?cm5; (case cm1 => k_mem); (case cm2 => k_mem); (case cm3 => k_mem); (case cm4 => k_mem); (case cm5 => k_mem)) | ((have := (by with_reducible assumption : Pl 2)); refine' SuIn.p2 ?cm1 ?cm2 ?cm3 ?cm4; (case cm1 => k_mem); (case cm2 => k_mem); (case cm3 => k_mem); (case cm4 => k_mem)))))); intro e9 d9 g9 oD9 tk9 v9 h9 tk8 F9 U9 R9 z9 o9; (try dsimp only); (try k_fold))
    k_steps
    refine Stop.on ?_
    (k_dflt (refine caught_D (by assumption) (by assumption) (by assumption) (by assumption) (by assumption) (by assumption) (by assumption) KtsTurn.refl (by k_is) ?_); intro h' g' tk' ws' sl' T' F' N' K' X' P' D'; (try k_lift K'))
    k_steps
    refine Stop.on ?_
    k_dflt (refine num_K (by k_asm) (by k_asm) (by k_asm) (by k_mem) (by k_mem) (by assumption) rfl ?_)
    k_steps
    all_goals exact hret _ _ (by k_asm) (news_sub (by k_asm) (by intro p hp; tb_rel))
theorem lc_good (w : World) (mean : ExcName → Option Value) (mg mb : Str → Option Value) (i : Int) (t : Tok) (v : Value) (hi : i = 0 ∨ i = 1 ∨ i = 2) : ConT 45 w mean mg mb 199 [.int i t, v] (fun news => GoodIn news v) (.bool true) := by
  unfold ConT
  k_fill
  intro dp un gd cn cs a ccd cl A₀ base h₀ L m news s Q E B F X N T hk XB TB hst hd hu hret
  obtain ⟨va, rfl⟩ : ∃ a, v = .ref a := by cases hst <;> exact ⟨_, rfl⟩
  have pl9 : Pl i := trivial
  refine wpAny_call ?_
  k_dflt (refine' code_T ?k1 ?k2 ?k3 ?k4 ?k5 ?kA ?kF ?kK ?k6 ?k7 ?k8 ?k9 ?kB ?_ ?c2 ?c3 ?c4 ?c5; (case kA => exact rfl); (case kF => exact rfl); (case kK => assumption); (case k1 => k_asm); (case k2 => k_asm); (case k3 => k_asm); (case k4 => k_asm); (case k5 => k_asm); (case k6 => k_is); (case k7 => k_is); (case k8 => ktr_room); (case k9 => exact BindsTo.of_eq rfl); (case c5 => decide); (case kB => exact locs rfl); (case c2 => exact rfl); (case c3 => exact rfl); (case c4 => exact rfl); k_whole; intro g' L' h' FG' F' N' B' X' T' D'; (try dsimp only); (try k_fold))
  k_steps
  refine Stop.on ?_
  rename (_ = _ ∨ _) => hi
  rcases hi with rfl | rfl | rfl
  all_goals k_steps
  · refine Stop.on ?_
    (k_dflt (refine' con_use (progG _ _ _ _ _ _ _ _ _ _ _) ?dn ?_; (case dn => (refine' ⟨?dn1, ?dn2, ?dn3⟩; (case dn3 => exact GoodIn.mono (by assumption) (by intro p hp; tb_rel)); (case dn1 => k_mem); (case dn2 => first | ((have := (by with_reducible assumption : Pl 0)); refine' SuIn.p0 ?dm1 ?dm2 ?dm3; (case dm1 => k_mem); (case dm2 => k_mem); (case dm3 => k_mem)) | ((have := (by with_reducible assumption : Pl 1)); refine' SuIn.p1 ?dm1 ?dm2 ?dm3 ?dm4 ?dm5; (case dm1 => k_mem); (case dm2 => k_mem); (case dm3 => k_mem); (case dm4 => k_mem); (case dm5 => k_mem)) | ((have := (by with_reducible assumption : Pl 2)); refine' SuIn.p2 ?dm1 ?dm2 ?dm3 ?dm4; (case dm1 => k_mem); (case dm2 => k_mem); (case dm3 => k_mem); (case dm4 => k_mem)))))); intro r9 tl9 h9 tk9 F9 N9 hl9 ho9; (try dsimp only); (try k_fold))
    k_steps
    all_goals exact hret _ _ (by k_asm) (news_sub (by k_asm) (by intro p hp; tb_rel))
  · refine Stop.on ?_
    (k_dflt (refine' con_use (progG _ _ _ _ _ _ _ _ _ _ _) ?en ?_; (case en => (refine' ⟨?en1, ?en2, ?en3⟩; (case en3 => exact GoodIn.mono (by assumption) (by intro p hp; tb_rel)); (case en1 => k_mem); (case en2 => first | ((have := (by with_reducible assumption : Pl 0)); refine' SuIn.p0 ?em1 ?em2 ?em3; (case em1 => k_mem); (case em2 => k_mem); (case em3 => k_mem)) | ((have := (by with_reducible assumption : Pl 1)); refine' SuIn.p1 ?em1 ?em2 ?em3 ?em4 ?em5; (case em1 => k_mem); (case em2 => k_mem); (case em3 => k_mem); (case em4 => k_mem); (case em5 => k_mem)) | ((have := (by with_reducible assumption : Pl 2)); refine' SuIn.p2 ?em1 ?em2 ?em3 ?em4; (case em1 => k_mem); (case em2 => k_mem); (case em3 => k_mem); (case em4 => k_mem)))))); intro r9 tl9 h9 tk9 F9 N9 hl9 ho9; (try dsimp only); (try k_fold))
    k_steps
    all_goals exact hret _ _ (by k_asm) (news_sub (by k_asm) (by intro p hp; tb_rel))
  · refine Stop.on ?_
    (k_dflt (refine' con_use (progG _ _ _ _ _ _ _ _ _ _ _) ?fn ?_; (case fn => (refine' ⟨?fn1, ?fn2, ?fn3⟩; (case fn3 => exact GoodIn.mono (by assumption) (by intro p hp; tb_rel)); (case fn1 => k_mem); (case fn2 => first | ((have := (by with_reducible assumption : Pl 0)); refine' SuIn.p0 ?fm1 ?fm2 ?fm3; (case fm1 => k_mem); (case fm2 => k_mem); (case fm3 => k_mem)) | ((have := (by with_reducible assumption : Pl 1)); refine' SuIn.p1 ?fm1 ?fm2 ?fm3 ?fm4 ?fm5; (case fm1 => k_mem); (case fm2 => k_mem); (case fm3 => k_mem); (case fm4 => k_mem); (case fm5 => k_mem)) | ((have := (by with_reducible assumption : Pl 2)); refine' SuIn.p2 ?fm1 ?fm2 ?fm3 ?fm4; (case fm1 => k_mem); (case fm2 => k_mem); (case fm3 => k_mem); (case fm4 => k_mem)))))); intro r9 tl9 h9 tk9 F9 N9 hl9 ho9; (try dsimp only); (try k_fold))
    k_steps
    all_goals exact hret _ _ (by k_asm) (news_sub (by k_asm) (by intro p hp; tb_rel))

end

section
theorem pull_use (w : World) (mean : ExcName → Option Value) (mg mb : Str → Option Value) {dp un : Nat} {gd : Option (List Code)} {cn : Str} {cs : Scope} {a : Addr} {ccd : Value} {cl : List (Str × Addr)} {outer : List Env} {A₀ : Around} {base h₀ : Heap} {L : Addr} {m : Str → Option Value}
    {b l : Addr} {nb : Nat} {c many : Int} {tc tm : Tok} {ys : List Value} {zs : List Int} {news : List (Addr × Obj)} {g : Obj → List (Addr × Obj)} {s : Shared} {Q E : Value → Shared → Prop}
    (h : ∀ (r : Int) (t tb : Tok) h' tk', 0 ≤ r → r < many → Fr h₀ L h' m → News h₀ L h' (g (listOf #[.ref l, .int (c + 1) tb] nb)) → Q (.int r t) { s with heap := h', toks := tk' })
    (B : Below A₀ base outer h₀ := by k_asm) (F : Fr h₀ L s.heap m := by k_asm) (X : (hd.heap_39 w.params).In h₀ := by k_asm) (N : News h₀ L s.heap news := by k_asm) (T : Top hd.view_39 (looseW hd.view_39 [Str.ofString "SnobolError"]) mean mg mb h₀ := by k_asm) (hk : cs.kind = .function := by first | exact rfl | assumption)
    (U : UpdF b (listOf #[.ref l, .int c tc] nb) news g := by k_updF) (hl : (l, LCg.lst ys) ∈ news := by k_mem) (hI : IntsAre ys zs := by assumption) (hbl : @Ne Nat b l := by first | assumption | k_ne) (hc0 : 0 ≤ c := by omega) (hc1 : c ≤ 100 := by omega)
    (hz : zs.length ≤ 40 := by first | assumption | (rw [List.length_map, List.length_take]; exact Nat.min_le_left _ _)) (hm0 : 2 ≤ many := by decide) (hm1 : many ≤ 9 := by decide) (hd : dp + 1 < recursionLimit := by ktr_room) (hu : un + 8 < cLine := by ktr_units) :
    wpAny (model PySem.Challenge.rw_pq1123_01.row.prog w) (ktrTop dp un gd cn cs L a ccd cl outer) (call (.ref 178) [.ref b, .int many tm]) Q E s := by
  obtain ⟨own, rest, rfl, hg, h1, h2⟩ := U.split
  have hl' : (l, LCg.lst ys) ∈ own ++ rest := by
    rcases List.mem_append.mp hl with q | q
    · exact List.mem_append_left _ q
    · rcases List.mem_cons.mp q with q | q
      · injection q with q1 q2; exact absurd q1.symm hbl
      · exact List.mem_append_right _ q
  refine pull_con w mean mg mb dp un gd cn cs a ccd cl outer A₀ base h₀ L m b l nb c many tc tm ys zs (own ++ rest) s Q E B F X (news_sub (l := _) N ?_) T hk hI hbl ?_ hc0 hc1 hz hm0 hm1 hd hu ?_
  · intro p hp
    rcases List.mem_cons.mp hp with rfl | hp
    · exact List.mem_append_right _ (.head _)
    rcases List.mem_cons.mp hp with rfl | hp
    · exact hl
    rcases List.mem_append.mp hp with hp | hp
    · exact List.mem_append_left _ hp
    · exact List.mem_append_right _ (.tail _ hp)
  · intro p hp x hx
    rw [List.mem_singleton.mp hx]
    rcases List.mem_append.mp hp with hp | hp
    · exact h1 p hp
    · exact h2 p hp
  · intro r t tb h' tk' r0 r1 F' N'
    refine h r t tb h' tk' r0 r1 F' ?_
    rw [hg]
    refine news_sub N' fun p hp => ?_
    rcases List.mem_append.mp hp with hp | hp
    · exact .tail _ (.tail _ (List.mem_append_left _ hp))
    rcases List.mem_cons.mp hp with rfl | hp
    · exact .head _
    · exact .tail _ (.tail _ (List.mem_append_right _ hp))
section
open PySem.Calls
variable {M : Model} {A : Around} {E : Value → Shared → Prop} {s : Shared} {K : Frag} {h₀ : Heap} {L : Addr} {m mg mb : Str → Option Value} {p : Program} {loose : List Str} {env : Env} {x : Str} {pos : Pos} {v : Value} {Q : Value → Shared → Prop}
theorem nGB (F : Fr h₀ L s.heap m) (h : Q v s) (X : K.In h₀ := by k_asm) (T : TopRead p loose mg mb h₀ := by k_asm) (e : nsIn K mainGlobals x = some none := by k_is) (hv : bootBuiltins x = some v := by boot_by_name) (hn : x ≠ "__name__" := by decide)
    (hg : env.globals = mainGlobals := by rfl) (hbl : env.builtins = builtinsNs := by rfl) (hk : env.scope.kind = .function := by rfl) (hx : env.kindOf x = some .globalImplicit := by rfl) (hd : (x == ("__debug__" : Str)) = false := by decide) :
    wpAny M A (eval (.Name x pos) env) Q E s :=
  Name_function_global hk hx (loadGlobal_builtin (env := env) (by rw [hg]; exact T.g.keeps F.keep) (mg_none_of X T.g e) (by rw [hbl]; exact T.b.keeps F.keep) ((T.builtins x hn).trans hv) h) hd
theorem nGK (F : Fr h₀ L s.heap m) (h : Q v s) (X : K.In h₀ := by k_asm) (T : TopRead p loose mg mb h₀ := by k_asm) (e : nsIn K mainGlobals x = some (some v) := by k_is)
    (hg : env.globals = mainGlobals := by rfl) (hk : env.scope.kind = .function := by rfl) (hx : env.kindOf x = some .globalImplicit := by rfl) (hd : (x == ("__debug__" : Str)) = false := by decide) :
    wpAny M A (eval (.Name x pos) env) Q E s := nameG_K F X T e h hg hk hx hd
end
section
open PySem.Calls
variable {prog : Program} {w : World} {A : Around} {E : Value → Shared → Prop} {s : Shared} {h₀ : Heap} {L : Addr} {news : List (Addr × Obj)}
/-- one of a written list's items, by what holds of all of them -/
theorem pick_any (P : Value → Prop) {value slice : PySem.Expr} {D : Addr} {vs : List Value} {n : Nat} {k : Int} {u : Tok} {Q : Value → Shared → Prop} (N : News h₀ L s.heap news) (hm : (D, listOf vs.toArray n) ∈ news) (h0 : 0 ≤ k) (h1 : k < vs.length) (hz : vs.length ≤ 100)
    (hall : ∀ v ∈ vs, P v) (h : ∀ v, P v → Q v s)
    (hs : subscripted slice false (.ref D) (.int k u) = operate [.ref D, .int k u] (getItem (.ref D) (.int k u)) := by with_unfolding_all rfl) :
    wpAny (model prog w) A (subscriptTail value slice (.ref D) (.int k u)) Q E s := by
  have hk : k.toNat < vs.length := by omega
  exact item_litK (v := vs[k.toNat]) (News.isList N hm) h0 (by omega) (List.getElem?_eq_getElem hk) (h _ (hall _ (List.getElem_mem hk))) hs
end
section
variable {prog : Program} {w : World} {A : Around} {E : Value → Shared → Prop} {s : Shared} {h₀ : Heap} {L : Addr} {news : List (Addr × Obj)}
theorem pick_bad {value slice : PySem.Expr} {D : Addr} {vs : List Value} {n : Nat} {k : Int} {u : Tok} {Q : Value → Shared → Prop} (N : News h₀ L s.heap news) (hm : (D, listOf vs.toArray n) ∈ news) (h0 : 0 ≤ k) (h1 : k < vs.length) (hz : vs.length ≤ 100)
    (hall : ∀ v ∈ vs, BadIn news v) (h : ∀ v, BadIn news v → Q v s)
    (hs : subscripted slice false (.ref D) (.int k u) = operate [.ref D, .int k u] (getItem (.ref D) (.int k u)) := by with_unfolding_all rfl) :
    wpAny (model prog w) A (subscriptTail value slice (.ref D) (.int k u)) Q E s := pick_any (BadIn news) N hm h0 h1 hz hall h hs
theorem pick_good {value slice : PySem.Expr} {D : Addr} {vs : List Value} {n : Nat} {k : Int} {u : Tok} {Q : Value → Shared → Prop} (N : News h₀ L s.heap news) (hm : (D, listOf vs.toArray n) ∈ news) (h0 : 0 ≤ k) (h1 : k < vs.length) (hz : vs.length ≤ 100)
    (hall : ∀ v ∈ vs, GoodIn news v) (h : ∀ v, GoodIn news v → Q v s)
    (hs : subscripted slice false (.ref D) (.int k u) = operate [.ref D, .int k u] (getItem (.ref D) (.int k u)) := by with_unfolding_all rfl) :
    wpAny (model prog w) A (subscriptTail value slice (.ref D) (.int k u)) Q E s := pick_any (GoodIn news) N hm h0 h1 hz hall h hs
end
section
open PySem.Calls PySem.Spec
variable {M : Model} {A : Around} {E : Value → Shared → Prop} {s : Shared} {h₀ : Heap} {L a : Addr} {m : Str → Option Value} {cn : Str} {cs : Scope} {ccd : Value} {cl : List (Str × Addr)}
  {x : Str} {v : Value} {news : List (Addr × Obj)} {g : Obj → List (Addr × Obj)} {c : Addr} {o : Obj} {v₀ : Option Value}
theorem storeX_C {Q : Unit → Shared → Prop} (h : ∀ h' o', Fr h₀ L h' m → News h₀ L h' (g o') → o'.data = .cell (some v) → Q () { s with heap := h' })
    (F : Fr h₀ L s.heap m := by k_asm) (N : News h₀ L s.heap news := by k_asm) (hc : cl.lookup x = some c := by rfl) (U : UpdF c o news g := by k_updF) (hd : o.data = .cell v₀ := by k_asm)
    (hk : cs.kind = .function := by rfl) (hx : (envX cn cs L a ccd cl).kindOf x = some .cell := by rfl) : wpAny M A (storeName (envX cn cs L a ccd cl) x v) Q E s := by
  obtain ⟨own, rest, rfl, hg, h1, h2⟩ := U.split
  have hmem := N (c, o) (List.mem_append_right _ (.head _))
  unfold storeName
  simp only [hx, hk]
  refine wpAny_bind (wpAny_cellOf hc (wpAny_cellSet ⟨o, hmem.1, hd⟩ fun h' hv hs => ?_))
  obtain ⟨o', ho', hd'⟩ := hv
  refine h h' o' ⟨F.ns.sameBut hs (Ne.symm hmem.2.1), fun b ob e => (hs.2 b (fun q => ?_)).trans (F.keep b ob e), F.above⟩ (hg o' ▸ N.setAt h1 h2 hs ho') hd'
  rw [q, hmem.2.2] at e; cases e
end
theorem conT_use {k : Nat} {w : World} {mean : ExcName → Option Value} {mg mb : Str → Option Value} {f : Addr} {vs : List Value} {need : List (Addr × Obj) → Prop} {ret : Value}
    {dp un : Nat} {gd : Option (List Code)} {cn : Str} {cs : Scope} {a : Addr} {ccd : Value} {cl : List (Str × Addr)} {A₀ : Around} {base h₀ : Heap} {L : Addr} {m : Str → Option Value} {news : List (Addr × Obj)} {s : Shared} {Q E : Value → Shared → Prop}
    (C : ConT k w mean mg mb f vs need ret) (hn : need news) (h : ∀ h' tk', Fr h₀ L h' m → News h₀ L h' news → Q ret { s with heap := h', toks := tk' })
    (B : Below A₀ base [] h₀ := by k_asm) (F : Fr h₀ L s.heap m := by k_asm) (X : (hd.heap_39 w.params).In h₀ := by k_asm) (N : News h₀ L s.heap news := by k_asm) (T : Top hd.view_39 (looseW hd.view_39 [Str.ofString "SnobolError"]) mean mg mb h₀ := by k_asm) (hk : cs.kind = .function := by first | exact rfl | assumption)
    (XB : (hd.heap_39 w.params).In base := by k_asm) (TB : Top hd.view_39 (looseW hd.view_39 [Str.ofString "SnobolError"]) mean mg mb base := by k_asm) (hd : dp + k < recursionLimit := by ktr_room) (hu : un + 20 * k < cLine := by ktr_units) :
    wpAny (model PySem.Challenge.rw_pq1123_01.row.prog w) (ktrTop dp un gd cn cs L a ccd cl []) (call (.ref f) vs) Q E s := C _ _ _ _ _ _ _ _ _ _ _ _ _ _ _ _ _ B F X N T hk XB TB hn hd hu h
/-- what is no tuple -/
def NoTup (o : Obj) : Prop := ∀ vs n, o ≠ tup vs n
theorem NoTup.cell {o : Obj} {c : Option Value} (h : o.data = .cell c) : NoTup o := fun vs n e => by rw [e] at h; cases h
theorem NoTup.list {vs : Array Value} {n : Nat} : NoTup (listOf vs n) := fun _ _ e => by injection e with e; injection e with e; exact absurd e (by decide)
def cut4 (l : List (Addr × Obj)) : List (Addr × Obj) := l.dropLast.dropLast.dropLast.dropLast
theorem tup_front {F R R' : List (Addr × Obj)} {a : Addr} {vs : List Value} {n : Nat} (h : (a, tup vs n) ∈ F ++ R) (k : ∀ p ∈ R, NoTup p.2) : (a, tup vs n) ∈ F ++ R' := by
  rcases List.mem_append.mp h with h | h
  · exact List.mem_append_left _ h
  · exact absurd rfl (k _ h vs n)
theorem noTup4 {a b c d : Addr × Obj} (ha : NoTup a.2) (hb : NoTup b.2) (hc : NoTup c.2) (hd : NoTup d.2) : ∀ p ∈ [a, b, c, d], NoTup p.2 := by
  intro p hp
  rcases List.mem_cons.mp hp with rfl | hp
  · exact ha
  rcases List.mem_cons.mp hp with rfl | hp
  · exact hb
  rcases List.mem_cons.mp hp with rfl | hp
  · exact hc
  rw [List.mem_singleton.mp hp]; exact hd
theorem BadIn.cells {old new : List (Addr × Obj)} {v : Value} {a b c d a' b' c' d' : Addr × Obj} (h : BadIn old v) (e : old = cut4 old ++ [a, b, c, d]) (s : ∀ p ∈ cut4 old ++ [a', b', c', d'], p ∈ new) (ha : NoTup a.2) (hb : NoTup b.2) (hc : NoTup c.2) (hd : NoTup d.2) : BadIn new v := by
  have k := noTup4 ha hb hc hd
  rw [e] at h
  refine BadIn.mono (led := cut4 old ++ [a', b', c', d']) ?_ s
  cases h with
  | whole a => exact .whole (tup_front a k)
  | text a => exact .text (tup_front a k)
  | null a => exact .null (tup_front a k)
  | join a => exact .join (tup_front a k)
  | binary a => exact .binary (tup_front a k)
  | minus a => exact .minus (tup_front a k)
  | star a => exact .star (tup_front a k)
  | dot a => exact .dot (tup_front a k)
  | amp a b => exact .amp (tup_front a k) (tup_front b k)
theorem GoodIn.cells {old new : List (Addr × Obj)} {v : Value} {a b c d a' b' c' d' : Addr × Obj} (h : GoodIn old v) (e : old = cut4 old ++ [a, b, c, d]) (s : ∀ p ∈ cut4 old ++ [a', b', c', d'], p ∈ new) (ha : NoTup a.2) (hb : NoTup b.2) (hc : NoTup c.2) (hd : NoTup d.2) : GoodIn new v := by
  have k := noTup4 ha hb hc hd
  rw [e] at h
  refine GoodIn.mono (led := cut4 old ++ [a', b', c', d']) ?_ s
  cases h with
  | name a => exact .name (tup_front a k)
  | call a b => exact .call (tup_front a k) (tup_front b k)
  | item a b c => exact .item (tup_front a k) (tup_front b k) (tup_front c k)
  | ind a b => exact .ind (tup_front a k) (tup_front b k)
  | amp a b => exact .amp (tup_front a k) (tup_front b k)
section
open PySem.Calls PySem.Spec PyProof.V
variable {prog : Program} {w : World} {A : Around} {E : Value → Shared → Prop} {s : Shared} {env : Env} {h₀ : Heap} {x : Str} {body : List Stmt} {Q : Flow → Shared → Prop}
theorem fix_one {m₁ m₀ : Str → Option Value} {v : Value} (k : FixOf [x] m₁ m₀) : (fun y => if y = x then some v else m₁ y) = fun y => if y = x then some v else m₀ y := by
  funext y
  by_cases e : y = x
  · rw [if_pos e, if_pos e]
  · rw [if_neg e, if_neg e]
    refine k y ?_
    show (match y == x with | true => true | false => false) = false
    rw [beq_false_of_ne e]
theorem fix_rest {m₁ m₀ : Str → Option Value} (k : FixOf [x] m₁ m₀) : m₁ = fun y => if y = x then m₁ y else m₀ y := by
  funext y
  by_cases e : y = x
  · rw [if_pos e]
  · rw [if_neg e]
    refine k y ?_
    show (match y == x with | true => true | false => false) = false
    rw [beq_false_of_ne e]
/-- behind a turn of such a loop -/
def DownEnd (h₀ : Heap) (L : Addr) (x : Str) (D : Addr) (l : List (Addr × Obj)) (m₀ : Str → Option Value) (i : Nat) (P : Nat → Obj → Prop) (s₁ : Shared) (f : Flow) (s₂ : Shared) : Prop :=
  f = .next ∧ ∃ h' tk' o' t', s₂ = { s₁ with heap := h', toks := tk' } ∧ Fr h₀ L h' (fun y => if y = x then some (.int (i : Int) t') else m₀ y) ∧ News h₀ L h' ((D, o') :: l) ∧ P i o'
theorem DownEnd.intro {L : Addr} {x : Str} {D : Addr} {l : List (Addr × Obj)} {m₀ : Str → Option Value} {i : Nat} {P : Nat → Obj → Prop} {s₁ : Shared} {h' : Heap} {tk' : Nat} {o' : Obj} {t' : Tok} (F : Fr h₀ L h' (fun y => if y = x then some (.int (i : Int) t') else m₀ y)) (N : News h₀ L h' ((D, o') :: l)) (p : P i o') : DownEnd h₀ L x D l m₀ i P s₁ .next { s₁ with heap := h', toks := tk' } :=
  ⟨rfl, h', tk', o', t', rfl, F, N, p⟩
/-- a loop down to 0 that turns one object of the ledger -/
theorem down_inv {r D : Addr} {t₀ u₀ v₀ : Tok} {n : Nat} {a₀ b₀ : Int} {m₀ : Str → Option Value} {o₀ : Obj} {rest : List (Addr × Obj)} (P : Nat → Obj → Prop) (hn : n ≤ 100) (ha : a₀ = (n : Int) - 1) (hb : b₀ = -1)
    (hh : A.handled = none) (hr : IsRange s.heap r a₀ b₀ (-1) t₀ u₀ v₀) (F : Fr h₀ env.locals s.heap m₀) (N : News h₀ env.locals s.heap ((D, o₀) :: rest)) (hoff : ∀ p ∈ rest, p.1 ≠ D) (hp : P n o₀)
    (turn : ∀ i o t h tk own, i < n → P (i + 1) o → Fr h₀ env.locals h (fun y => if y = x then some (.int (i : Int) t) else m₀ y) → News h₀ env.locals h ((D, o) :: (rest ++ own)) → (∀ p ∈ rest ++ own, p.1 ≠ D) →
      wpAny (model prog w) A (execs body env) (DownEnd h₀ env.locals x D (rest ++ own) m₀ i P { s with heap := h, toks := tk }) E { s with heap := h, toks := tk })
    (done : ∀ (m : Str → Option Value) o h tk, P 0 o → Fr h₀ env.locals h (fun y => if y = x then m y else m₀ y) → News h₀ env.locals h ((D, o) :: rest) → Q .next { s with heap := h, toks := tk }) :
    wpAny (model prog w) A (pyIter (.ref r)) (fun it s₂ => LoopAtV prog w A h₀ env x body Q E it s₂) E s := by
  subst ha hb
  have hsmall : Builtin.Range.small ((n : Int) - 1) (-1) (-1) = true := small_down (by omega) (by omega) (by omega) (by omega)
  have hsz : Builtin.Range.rangeSize ((n : Int) - 1) (-1) (-1) = (n : Int) := by rw [rangeSize_downNat]; omega
  refine wpAny_pyIter_range hr hsmall ?_
  have W : Walks prog w A s.heap.objs.size [s.heap.objs.size] [s.heap.objs.size] n (fun i v => i < n ∧ ∃ t, v = .int (((n : Int) - 1) + i * (-1)) t)
      (fun i h => IsRangeIter h s.heap.objs.size (((n : Int) - 1) + (i : Nat) * (-1)) ((n : Int) - (i : Nat)) (-1)) := (Walks.range hh _ ((n : Int) - 1) (-1) n).bound
  refine loop_invN (fun i m nx => FixOf [x] m m₀ ∧ ∃ o, nx = (D, o) :: rest ∧ P (n - i) o) W ?_ ?_ ?_ ?_ (by show IsRangeIter _ _ _ _ _; rw [hsz]; simpa using Heap.get?_push_size _ rfl) (F.push _) (fun p hp => ⟨Heap.get?_push_of_some _ (N p hp).1, (N p hp).2⟩) ⟨FixOf.rfl', o₀, rfl, hp⟩ ?_ ?_
  · intro hm
    exact absurd F.ns.lt ((List.mem_singleton.mp hm) ▸ Nat.lt_irrefl _)
  · intro b hb
    rw [List.mem_singleton.mp hb]
    exact next_is_new F
  · intro p hp hI
    exact absurd (Heap.lt_size (N p hp).1) ((List.mem_singleton.mp hI) ▸ Nat.lt_irrefl _)
  · intro p hp hI
    exact absurd (Heap.lt_size (N p hp).1) ((List.mem_singleton.mp hI) ▸ Nat.lt_irrefl _)
  · rintro i v m₁ nx h tk own hi ⟨_, t, rfl⟩ _ hown ⟨hfix, o, rfl, hp'⟩ F₁ N₁
    have e1 : ((n : Int) - 1) + (i : Int) * (-1) = ((n - 1 - i : Nat) : Int) := by omega
    rw [e1, fix_one hfix] at F₁
    have off2 : ∀ p ∈ rest ++ own, p.1 ≠ D := by
      intro p hp
      rcases List.mem_append.mp hp with hp | hp
      · exact hoff p hp
      · exact hown p hp D (.head _)
    have hp2 : P (n - 1 - i + 1) o := by rw [show n - 1 - i + 1 = n - i by omega]; exact hp'
    refine wpAny_mono (turn (n - 1 - i) o t h tk own (by omega) hp2 F₁ N₁ off2) (fun f s₂ k => ?_) fun _ _ e => e
    obtain ⟨rfl, h', tk', o', t', e, F', N', q⟩ := k
    refine ⟨h', tk', _, _, (D, o') :: rest, e, F', N', ?_, ?_, rfl, ?_, o', rfl, ?_⟩
    · intro p hp
      rcases List.mem_cons.mp hp with rfl | hp
      · exact .head _
      · exact .tail _ (List.mem_append_left _ hp)
    · intro p hp
      exact .tail _ (List.mem_append_right _ hp)
    · intro y hy
      have : y ≠ x := fun e => by simp [e, List.contains, List.elem] at hy
      show (if y = x then _ else m₀ y) = m₀ y
      rw [if_neg this]
    · rw [show n - (i + 1) = n - 1 - i by omega]; exact q
  · rintro m₁ nx h tk ⟨hfix, o, rfl, hp'⟩ F₁ N₁
    rw [Nat.sub_self] at hp'
    rw [fix_rest hfix] at F₁
    exact done m₁ o h tk hp' F₁ N₁
end
open Classical in
/-- where a label first stands, from a place on -/
noncomputable def fstAt (b : Lb) (ds : List Row) (i : Nat) : Option Nat := ((ds.drop i).findIdx? fun r => decide (r.lb = b)).map (· + i)
open Classical in
theorem fstAt_step {b : Lb} {ds : List Row} {i : Nat} {r : Row} (h : ds[i]? = some r) : fstAt b ds i = if r.lb = b then some i else fstAt b ds (i + 1) := by
  obtain ⟨hi, hr⟩ := List.getElem?_eq_some_iff.mp h
  unfold fstAt
  rw [List.drop_eq_getElem_cons hi, hr, List.findIdx?_cons]
  by_cases e : r.lb = b
  · simp [e]
  · rw [if_neg e]
    cases h2 : (ds.drop (i + 1)).findIdx? (fun r => decide (r.lb = b)) with
    | none => simp [e]
    | some k => simp [e]; omega
theorem fstAt_end {b : Lb} {ds : List Row} : fstAt b ds ds.length = none := by
  unfold fstAt; rw [List.drop_length]; rfl
/-- the table that the law expects, from a place on -/
inductive DueP (ds : List Row) (i : Nat) : List (Str × Value) → Prop
  | n0 : fstAt .l1 ds i = none → fstAt .l2 ds i = none → DueP ds i []
  | n1 {a : Nat} {t : Tok} : fstAt .l1 ds i = some a → fstAt .l2 ds i = none → DueP ds i [(Str.ofString "L1", .int (a : Int) t)]
  | n2 {b : Nat} {t : Tok} : fstAt .l1 ds i = none → fstAt .l2 ds i = some b → DueP ds i [(Str.ofString "L2", .int (b : Int) t)]
  | n12 {a b : Nat} {t u : Tok} : fstAt .l1 ds i = some a → fstAt .l2 ds i = some b → DueP ds i [(Str.ofString "L1", .int (a : Int) t), (Str.ofString "L2", .int (b : Int) u)]
  | n21 {a b : Nat} {t u : Tok} : fstAt .l1 ds i = some a → fstAt .l2 ds i = some b → DueP ds i [(Str.ofString "L2", .int (b : Int) t), (Str.ofString "L1", .int (a : Int) u)]
theorem DueP.len {ds : List Row} {i : Nat} {p : List (Str × Value)} (h : DueP ds i p) : p.length ≤ 2 := by cases h <;> exact Nat.le_of_ble_eq_true rfl
theorem DueP.skip {ds : List Row} {i : Nat} {p : List (Str × Value)} {r : Row} (hr : ds[i]? = some r) (h1 : r.lb ≠ .l1) (h2 : r.lb ≠ .l2) (h : DueP ds (i + 1) p) : DueP ds i p := by
  have e1 := fstAt_step (b := .l1) hr
  have e2 := fstAt_step (b := .l2) hr
  rw [if_neg h1] at e1
  rw [if_neg h2] at e2
  cases h with
  | n0 a b => exact .n0 (e1.trans a) (e2.trans b)
  | n1 a b => exact .n1 (e1.trans a) (e2.trans b)
  | n2 a b => exact .n2 (e1.trans a) (e2.trans b)
  | n12 a b => exact .n12 (e1.trans a) (e2.trans b)
  | n21 a b => exact .n21 (e1.trans a) (e2.trans b)
theorem DueP.put1 {ds : List Row} {i : Nat} {p : List (Str × Value)} {r : Row} {t : Tok} (hr : ds[i]? = some r) (h1 : r.lb = .l1) (h : DueP ds (i + 1) p) : DueP ds i (stored p (Str.ofString "L1") (.int (i : Int) t)) := by
  have e1 := fstAt_step (b := .l1) hr
  have e2 := fstAt_step (b := .l2) hr
  rw [if_pos h1] at e1
  rw [if_neg (by rw [h1]; intro e; cases e)] at e2
  cases h with
  | n0 a b => exact .n1 e1 (e2.trans b)
  | n1 a b => exact .n1 e1 (e2.trans b)
  | n2 a b => exact .n21 e1 (e2.trans b)
  | n12 a b => exact .n12 e1 (e2.trans b)
  | n21 a b => exact .n21 e1 (e2.trans b)
theorem DueP.put2 {ds : List Row} {i : Nat} {p : List (Str × Value)} {r : Row} {t : Tok} (hr : ds[i]? = some r) (h1 : r.lb = .l2) (h : DueP ds (i + 1) p) : DueP ds i (stored p (Str.ofString "L2") (.int (i : Int) t)) := by
  have e1 := fstAt_step (b := .l1) hr
  have e2 := fstAt_step (b := .l2) hr
  rw [if_neg (by rw [h1]; intro e; cases e)] at e1
  rw [if_pos h1] at e2
  cases h with
  | n0 a b => exact .n2 (e1.trans a) e2
  | n1 a b => exact .n12 (e1.trans a) e2
  | n2 a b => exact .n2 (e1.trans a) e2
  | n12 a b => exact .n12 (e1.trans a) e2
  | n21 a b => exact .n21 (e1.trans a) e2
open Classical in
theorem fst0 {ds : List Row} : fstAt .l2 ds 0 = l2at ds := by
  unfold fstAt l2at
  rw [List.drop_zero]
  cases ds.findIdx? fun r => decide (r.lb = .l2) <;> rfl
section
open PySem.Calls PySem.Spec PyProof.V
variable {w : World} {A : Around} {E : Value → Shared → Prop} {s : Shared} {h₀ : Heap} {L a b : Addr} {oa ob : Obj} {news : List (Addr × Obj)} {p : List (Str × Value)} {ds : List Row} {Q : Value → Shared → Prop}
theorem hit_int {i : Int} {t u : Tok} {k : Str} {kb r : List (Str × Value)} (e : valueAt kb k = some (.int i u)) (h : KeqHits A s kb r true) : KeqHits A s kb ((k, .int i t) :: r) true := by
  have := KeqHits.hit (v := .int i t) e (keq_flat (Flat.int i t) (Flat.int i u)) h
  rwa [show PyData.eqv (.int i) (.int i) = true by simp [PyData.eqv], Bool.and_self] at this
/-- the table of labels is the one that the law expects -/
theorem labs_ne (N : News h₀ L s.heap news) (pa : (a, oa) ∈ news) (pb : (b, ob) ∈ news) (la : (a == sysModules) = false) (lb : (b == sysModules) = false) (hu : A.units < cLine) (hl : LabD w oa ds) (hb : ob.IsDictOf (kndS w) p) (hp : DueP ds 0 p)
    (hh : ∃ r, ds[0]? = some r ∧ r.lb = .l1) (h : Q (.bool false) s) : wpAny (model PySem.Challenge.rw_pq1123_01.row.prog w) A (compareOp .NotEq (.ref a) (.ref b)) Q E s := by
  obtain ⟨r, hr, h1⟩ := hh
  have e1 : fstAt .l1 ds 0 = some 0 := by rw [fstAt_step hr, if_pos h1]
  have e2 : fstAt .l2 ds 0 = l2at ds := fst0
  rcases hl with ⟨_, _, hz⟩ | ⟨hd, hf, hz, h2⟩ | ⟨hd, hf, hz, h2⟩
  · rw [hz] at hr; simp at hr
  · rw [h2] at e2
    cases hp with
    | n0 x y => rw [e1] at x; cases x
    | n1 x y => rw [e1] at x; cases x; exact kne_pairs N pa pb hd hb la lb rfl hu (hit_int rfl .nil) h
    | n2 x y => rw [e1] at x; cases x
    | n12 x y => rw [e2] at y; cases y
    | n21 x y => rw [e2] at y; cases y
  · rw [h2] at e2
    cases hp with
    | n0 x y => rw [e1] at x; cases x
    | n1 x y => rw [e2] at y; cases y
    | n2 x y => rw [e1] at x; cases x
    | n12 x y => rw [e1] at x; cases x; rw [e2] at y; cases y; exact kne_pairs N pa pb hd hb la lb rfl hu (hit_int rfl (hit_int rfl .nil)) h
    | n21 x y => rw [e1] at x; cases x; rw [e2] at y; cases y; exact kne_pairs N pa pb hd hb la lb rfl hu (hit_int rfl (hit_int rfl .nil)) h
end
theorem UnIn.mono {w : World} {led led' : List (Addr × Obj)} {ds : List Row} {num : Int} {r : Value} {u ud sa da : Addr} {t0 t1 t2 tn : Tok} {n ns : Nat} {cvs : List Value} {od : Obj} (h : UnIn w led ds num r u ud sa da t0 t1 t2 tn n ns cvs od) (s : ∀ p ∈ led, p ∈ led') : UnIn w led' ds num r u ud sa da t0 t1 t2 tn n ns cvs od :=
  ⟨h.val, s _ h.inst, s _ h.dict, s _ h.stats, CoP.monoE h.each s, s _ h.labs, h.notM, h.lab⟩
theorem Each.at {P : Value → Row → Prop} {vs : List Value} {rs : List Row} (h : Each P vs rs) {i : Nat} (hi : i < rs.length) : ∃ v r, vs[i]? = some v ∧ rs[i]? = some r ∧ P v r := by
  have hi' : i < vs.length := by rw [h.length]; exact hi
  obtain ⟨r, hr, hp⟩ := h.get (List.getElem?_eq_getElem hi')
  exact ⟨_, r, List.getElem?_eq_getElem hi', hr, hp⟩
theorem ok_app {a b : Str} (h : PyData.strOk a = true) (k : PyData.strOk b = true) : PyData.strOk (a ++ b) = true := by
  unfold PyData.strOk at *
  rw [show (a ++ b).cps = a.cps ++ b.cps from rfl, Array.all_append, h, k]; rfl
theorem tell_ok {f : Int} {x y : Str} (hx : PyData.strOk x = true) (h : y ∈ tell f x) : PyData.strOk y = true := by
  unfold tell at h
  split at h
  · simp only [List.mem_cons, List.not_mem_nil, or_false] at h
    rcases h with rfl | rfl
    · exact ok_app (by decide +kernel) hx
    · decide +kernel
  split at h
  · simp only [List.mem_cons, List.not_mem_nil, or_false] at h
    rcases h with rfl | rfl | rfl | rfl
    · exact ok_app (by decide +kernel) hx
    · decide +kernel
    · decide +kernel
    · decide +kernel
  split at h
  · simp only [List.mem_cons, List.not_mem_nil, or_false] at h
    rcases h with rfl | rfl | rfl | rfl | rfl
    · exact ok_app (by decide +kernel) hx
    · decide +kernel
    · decide +kernel
    · decide +kernel
    · decide +kernel
  · simp only [List.mem_cons, List.not_mem_nil, or_false] at h
    rcases h with rfl | rfl | rfl | rfl
    · exact ok_app (by decide +kernel) hx
    · decide +kernel
    · exact ok_app (by decide +kernel) hx
    · decide +kernel
theorem num_ok {i : Nat} (h : i < 10) : PyData.strOk (Str.ofString (toString (i : Int))) = true := by
  match i, h with
  | 0, _ => decide +kernel
  | 1, _ => decide +kernel
  | 2, _ => decide +kernel
  | 3, _ => decide +kernel
  | 4, _ => decide +kernel
  | 5, _ => decide +kernel
  | 6, _ => decide +kernel
  | 7, _ => decide +kernel
  | 8, _ => decide +kernel
  | 9, _ => decide +kernel
theorem headS_ok {i : Nat} {lb : Lb} (h : i < 10) : PyData.strOk (headS i lb) = true := by
  unfold headS
  refine ok_app (ok_app (num_ok h) ?_) (by decide +kernel)
  cases lb <;> decide +kernel
theorem rowsAll_ok : ∀ {ds : List Row} {i : Nat}, i + ds.length ≤ 10 → (∀ d ∈ ds, PyData.strOk d.x = true) → ∀ y ∈ rowsAll i ds, PyData.strOk y = true
  | [], _, _, _, y, hy => by simp [rowsAll] at hy
  | r :: rs, i, hi, hok, y, hy => by
    rw [rowsAll] at hy
    rcases List.mem_append.mp hy with h | h
    · rcases List.mem_cons.mp h with rfl | h
      · exact headS_ok (by simp at hi; omega)
      · exact tell_ok (hok r (.head _)) h
    · exact rowsAll_ok (by simp at hi ⊢; omega) (fun d hd => hok d (.tail _ hd)) y h
section
open PySem.Calls PySem.Spec PyProof.V
variable {prog : Program} {w : World} {A : Around} {E : Value → Shared → Prop} {s : Shared} {h₀ : Heap} {L a b : Addr} {news : List (Addr × Obj)} {va vb : List Value} {na nb : Nat} {l : List Str} {Q : Value → Shared → Prop}
theorem rows_ne (N : News h₀ L s.heap news) (ma : (a, listOf va.toArray na) ∈ news) (mb : (b, listOf vb.toArray nb) ∈ news) (ha : DatAll [] va (l.map .str)) (hb : DatAll [] vb (l.map .str)) (hl : ∀ y ∈ l, PyData.strOk y = true) (hu : A.units + 64 < cLine) (h : Q (.bool false) s) :
    wpAny (model prog w) A (compareOp .NotEq (.ref a) (.ref b)) Q E s := by
  have ok : ∀ d ∈ l.map Dat.str, kqdOk 8 d = true := by
    intro d hd
    obtain ⟨x, hx, rfl⟩ := List.mem_map.mp hd
    exact hl x hx
  refine kqd_ne N ma rfl rfl ha (fun p hp => nomatch hp) mb rfl rfl hb (fun p hp => nomatch hp) ok ok hu ?_
  simp only [eq_self, decide_true, Bool.not_true]; exact h
end
/-- the pairs of labels and lines that the law compares -/
def pairD (r : Row) : Dat := .tuple [r.lb.dat, .int r.line]
theorem pairD_ok (r : Row) : kqdOk 8 (pairD r) = true := by
  obtain ⟨lb, line, form, x⟩ := r
  have a : PyData.strOk (Str.ofString "L1") = true := by decide +kernel
  have b : PyData.strOk (Str.ofString "L2") = true := by decide +kernel
  have c : PyData.strOk (Str.ofString "") = true := by decide +kernel
  cases lb <;> simp [pairD, Lb.dat, kqdOk, a, b, c]
section
open PySem.Calls PySem.Spec PyProof.V
variable {prog : Program} {w : World} {A : Around} {E : Value → Shared → Prop} {s : Shared} {h₀ : Heap} {L a b : Addr} {news n₁ n₂ : List (Addr × Obj)} {va vb : List Value} {na nb : Nat} {ds : List Row} {Q : Value → Shared → Prop}
theorem pairs_ne (N : News h₀ L s.heap news) (ma : (a, listOf va.toArray na) ∈ news) (mb : (b, listOf vb.toArray nb) ∈ news) (ha : DatAll n₁ va (ds.map pairD)) (hb : DatAll n₂ vb (ds.map pairD)) (sa : ∀ p ∈ n₁, p ∈ news) (sb : ∀ p ∈ n₂, p ∈ news) (hu : A.units + 64 < cLine) (h : Q (.bool false) s) :
    wpAny (model prog w) A (compareOp .NotEq (.ref a) (.ref b)) Q E s := by
  have ok : ∀ d ∈ ds.map pairD, kqdOk 8 d = true := by
    intro d hd
    obtain ⟨x, hx, rfl⟩ := List.mem_map.mp hd
    exact pairD_ok x
  refine kqd_ne N ma rfl rfl ha sa mb rfl rfl hb sb ok ok hu ?_
  simp only [eq_self, decide_true, Bool.not_true]; exact h
end
theorem Fr.know {h₀ h : Heap} {L : Addr} {m : Str → Option Value} {x : Str} {v : Value} (F : Fr h₀ L h m) (e : m x = some v) : Fr h₀ L h (fun y => if y = x then some v else m y) := by
  have : (fun y => if y = x then some v else m y) = m := by
    funext y
    by_cases q : y = x
    · rw [if_pos q, q, e]
    · rw [if_neg q]
  rw [this]; exact F
theorem pair_snoc {mk : List (Addr × Obj)} {zs : List Value} {ds : List Row} {i n : Nat} {r : Row} {lv : Value} {T : Addr} {t : Tok} {line : Int} (he : DatAll mk zs ((ds.take i).map pairD)) (hr : ds[i]? = some r) (hlb : LbV r.lb lv) (e : line = r.line) :
    DatAll ((T, tup [lv, .int line t] n) :: mk) (zs ++ [.ref T]) ((ds.take (i + 1)).map pairD) := by
  subst e
  rw [take_snoc hr, List.map_append]
  exact (he.mono fun p hp => .tail _ hp).append (.cons (.tuple (.head _) (.cons hlb.datIn (.cons (.int _ _) .nil))) .nil)
theorem comp_end1 {h₀ h9 : Heap} {L : Addr} {m : Str → Option Value} {s₁ : Shared} {I C D T : Addr} {oI oC oD ot : Obj} {S : List (Addr × Obj) → Prop} {rest : Value → List (Addr × Obj) → Prop} {y : Value} {tk9 : Nat} {nw : List (Addr × Obj)}
    (F : Fr h₀ L h9 m) (N : News h₀ L h9 ((T, ot) :: (I, oI) :: (C, oC) :: (D, oD) :: nw)) (off : LCg.Off3 I C D nw) (o : ∀ p ∈ (I, oI) :: (C, oC) :: (D, oD) :: nw, p.1 ≠ T) (hS : S ((T, ot) :: nw)) (r : rest y ((T, ot) :: nw)) : LCg.CompEnd h₀ L m s₁ I oI C oC D oD S rest y { s₁ with heap := h9, toks := tk9 } := by
  refine LCg.CompEnd.intro F N ((T, ot) :: nw) ?_ ⟨⟨(o _ (.head _)).symm, (o _ (.tail _ (.head _))).symm, (o _ (.tail _ (.tail _ (.head _)))).symm⟩, off⟩ hS r
  intro p hp
  rcases List.mem_cons.mp hp with rfl | hp
  · exact .tail _ (.head _)
  rcases List.mem_cons.mp hp with rfl | hp
  · exact .tail _ (.tail _ (.head _))
  rcases List.mem_cons.mp hp with rfl | hp
  · exact .tail _ (.tail _ (.tail _ (.head _)))
  rcases List.mem_cons.mp hp with rfl | hp
  · exact .head _
  · exact .tail _ (.tail _ (.tail _ (.tail _ hp)))
theorem dat_str0 {led : List (Addr × Obj)} : ∀ {vs : List Value} {l : List Str}, DatAll led vs (l.map .str) → DatAll [] vs (l.map .str)
  | _, [], h => by cases h; exact .nil
  | _, x :: l, h => by
    cases h with
    | cons a b =>
      cases a
      exact .cons (.str _ _) (dat_str0 b)
theorem FixOf.know {names : List Str} {m1 m : Str → Option Value} {x : Str} {v : Value} (h : FixOf names m1 m) (e : m x = some v) : FixOf names (fun y => if y = x then some v else m1 y) m := fun z hz => by
  show (if z = x then some v else m1 z) = m z
  by_cases q : z = x
  · rw [if_pos q, q, e]
  · rw [if_neg q]; exact h z hz
def turned : List Str := [Str.ofString "at", Str.ofString "label", Str.ofString "statement", Str.ofString "told", Str.ofString "rows"]
/-- what holds of the law's lists behind some turns of its first loop -/
structure LawJ (w : World) (la sa b c1 c2 : Addr) (o1 o2 : Obj) (i : Nat) (ds : List Row) (lvs svs rvs : List Value) (c : Int) (ra : Addr) (nr : Nat) (tl : List (Addr × Obj)) : Prop where
  lab : Each (fun v r => LbV r.lb v) lvs ds
  sts : Each (StP w tl) svs ds
  rws : DatAll [] rvs ((rowsAll 0 ds).map .str)
  rln : rvs.length ≤ 10 * i
  line : ∀ (k : Nat) (r : Row), ds[k]? = some r → r.line = (k : Int) + 3
  len : ds.length = i
  ok : ∀ d ∈ ds, Row.Ok d ∧ PyData.strOk d.x = true
  head : i ≠ 0 → ∃ r, ds[0]? = some r ∧ r.lb = .l1
  cl0 : 0 ≤ c
  cl1 : c ≤ 1 + 3 * i
  mr : (ra, listOf rvs.toArray nr) ∈ tl
  m1 : (c1, o1) ∈ tl
  m2 : (c2, o2) ∈ tl
  off : ∀ p ∈ tl, p.1 ≠ la ∧ p.1 ≠ sa ∧ p.1 ≠ b
theorem apart9 {x : Addr} {o : Obj} {r tl9 : List (Addr × Obj)} (h : ∀ q ∈ (x, o) :: r, ∀ p ∈ tl9, @Ne Nat q.1 p.1) : (∀ p ∈ tl9, p.1 ≠ x) ∧ ∀ q ∈ r, ∀ p ∈ tl9, @Ne Nat q.1 p.1 :=
  ⟨fun p hp => (h _ (.head _) p hp).symm, fun q hq => h q (.tail _ hq)⟩
/-- behind a turn of that loop -/
def LawEnd (w : World) (h₀ : Heap) (L I : Addr) (oI : Obj) (la sa b l c1 c2 : Addr) (o1 o2 : Obj) (nb : Nat) (ys : List Value) (i : Nat) (m : Str → Option Value) (s₁ : Shared) (f : Flow) (s₂ : Shared) : Prop :=
  f = .next ∧ ∃ h' tk' m' ds lvs svs rvs c tc ra nr tl, s₂ = { s₁ with heap := h', toks := tk' } ∧ Fr h₀ L h' m' ∧ FixOf turned m' m ∧ m' (Str.ofString "rows") = some (.ref ra) ∧
    News h₀ L h' ((I, oI) :: (la, listOf (List.toArray lvs) i) :: (sa, listOf (List.toArray svs) i) :: (b, listOf #[.ref l, .int c tc] nb) :: (l, LCg.lst ys) :: tl) ∧ (∀ p ∈ tl, p.1 ≠ I) ∧ LawJ w la sa b c1 c2 o1 o2 i ds lvs svs rvs c ra nr tl
section
variable {prog : Program} {w : World} {A : Around} {E : Value → Shared → Prop} {s : Shared} {h₀ : Heap} {L : Addr} {news : List (Addr × Obj)}
theorem pick_lab {value slice : PySem.Expr} {D : Addr} {n : Nat} {k : Int} {u t1 t2 t3 : Tok} {Q : Value → Shared → Prop} (N : News h₀ L s.heap news) (hm : (D, listOf #[.none, .str (Str.ofString "L1") t1, .str (Str.ofString "L2") t2, .str (Str.ofString "") t3] n) ∈ news) (h0 : 0 ≤ k) (h1 : k < 4)
    (h : ∀ v lb, LbV lb v → Q v s)
    (hs : subscripted slice false (.ref D) (.int k u) = operate [.ref D, .int k u] (getItem (.ref D) (.int k u)) := by with_unfolding_all rfl) :
    wpAny (model prog w) A (subscriptTail value slice (.ref D) (.int k u)) Q E s := by
  refine pick_any (fun v => ∃ lb, LbV lb v) (vs := [.none, .str (Str.ofString "L1") t1, .str (Str.ofString "L2") t2, .str (Str.ofString "") t3]) N hm h0 (by simpa using h1) (by simp) ?_ (fun v ⟨lb, hl⟩ => h v lb hl) hs
  intro v hv
  simp only [List.mem_cons, List.not_mem_nil, or_false] at hv
  rcases hv with rfl | rfl | rfl | rfl
  · exact ⟨_, .n⟩
  · exact ⟨_, .l1⟩
  · exact ⟨_, .l2⟩
  · exact ⟨_, .e⟩
end
theorem item_ok {r : Int} (h0 : 0 ≤ r) (h1 : r < 2) : PyData.strOk (Txt.item (Str.ofString "AB") r) = true := by
  obtain rfl | rfl : r = 0 ∨ r = 1 := by omega
  · decide +kernel
  · decide +kernel
theorem dat_len {led : List (Addr × Obj)} : ∀ {vs : List Value} {l : List Dat}, DatAll led vs l → vs.length = l.length
  | _, [], h => by cases h; rfl
  | _, _ :: _, h => by cases h with | cons _ b => simp [dat_len b]
theorem tell_n {f : Int} {x : Str} : (tell f x).length ≤ 5 := by
  unfold tell
  split
  · simp
  split
  · simp
  split
  · simp
  · simp
theorem told_n {vs : List Value} {f : Int} {x : Str} (h : DatAll [] vs ((tell f x).map .str)) : vs.length ≤ 5 := by
  rw [dat_len h, List.length_map]; exact tell_n
theorem head_n {i : Nat} : Str.ofString (toString (0 + (i : Int))) ++ Str.ofString "" ++ Str.ofString ":" = headS i .n := by rw [Int.zero_add]; rfl
theorem head_e {i : Nat} : Str.ofString (toString (0 + (i : Int))) ++ Str.ofString "" ++ Str.ofString ":" = headS i .e := by rw [Int.zero_add]; rfl
theorem head_l1 {i : Nat} : Str.ofString (toString (0 + (i : Int))) ++ Str.ofString " L1" ++ Str.ofString ":" = headS i .l1 := by
  rw [Int.zero_add, show Str.ofString " L1" = Str.ofString " " ++ Str.ofString "L1" by decide +kernel]; rfl
theorem head_l2 {i : Nat} : Str.ofString (toString (0 + (i : Int))) ++ Str.ofString " L2" ++ Str.ofString ":" = headS i .l2 := by
  rw [Int.zero_add, show Str.ofString " L2" = Str.ofString " " ++ Str.ofString "L2" by decide +kernel]; rfl
theorem law_end {w : World} {h₀ h' : Heap} {L I la sa b l c1 c2 ra D : Addr} {oI o1 o2 : Obj} {nb nr n0 tk' i : Nat} {ys lvs svs rvs vs9 : List Value} {m m' : Str → Option Value} {s : Shared} {ds : List Row} {c c9 form : Int} {t tc : Tok} {tl tl9 : List (Addr × Obj)} {lb : Lb} {lv sv : Value} {x y : Str} {X1 X2 : Addr × Obj}
    (J : LawJ w la sa b c1 c2 o1 o2 i ds lvs svs rvs c ra nr tl) (hi : i < 5) (F : Fr h₀ L h' m') (fx : FixOf turned m' m) (kr : m' (Str.ofString "rows") = some (.ref D))
    (N : News h₀ L h' ((D, listOf (List.toArray (rvs ++ [.str y t] ++ vs9)) n0) :: X1 :: X2 :: (I, oI) :: (la, listOf (List.toArray (lvs ++ [lv])) (i + 1)) :: (sa, listOf (List.toArray (svs ++ [sv])) (i + 1)) :: (b, listOf #[.ref l, .int c9 tc] nb) :: (l, LCg.lst ys) :: (tl ++ tl9)))
    (oD : ∀ p ∈ X1 :: X2 :: (I, oI) :: (la, listOf (List.toArray (lvs ++ [lv])) (i + 1)) :: (sa, listOf (List.toArray (svs ++ [sv])) (i + 1)) :: (b, listOf #[.ref l, .int c9 tc] nb) :: (l, LCg.lst ys) :: (tl ++ tl9), p.1 < D)
    (hst : StIn w tl9 lb (0 + (i : Int) + 3) x form sv) (hlb : LbV lb lv) (aI : ∀ p ∈ tl, p.1 ≠ I) (z1 : ∀ p ∈ tl9, p.1 ≠ I) (z2 : ∀ p ∈ tl9, p.1 ≠ la) (z3 : ∀ p ∈ tl9, p.1 ≠ sa) (z4 : ∀ p ∈ tl9, p.1 ≠ b)
    (s3 : DatAll [] vs9 ((tell form x).map .str)) (ey : y = headS i lb) (hx : x.length = 1) (ox : PyData.strOk x = true) (g0 : 0 ≤ c9) (g1 : c9 ≤ 4 + 3 * i) (hl0 : i = 0 → lb = .l1) :
    LawEnd w h₀ L I oI la sa b l c1 c2 o1 o2 nb ys (i + 1) m s .next { s with heap := h', toks := tk' } := by
  have hn : ∀ q, q ∈ X1 :: X2 :: (I, oI) :: (la, listOf (List.toArray (lvs ++ [lv])) (i + 1)) :: (sa, listOf (List.toArray (svs ++ [sv])) (i + 1)) :: (b, listOf #[.ref l, .int c9 tc] nb) :: (l, LCg.lst ys) :: (tl ++ tl9) → D ≠ q.1 := fun q hq => Nat.ne_of_gt (oD q hq)
  refine ⟨rfl, h', tk', m', ds ++ [⟨lb, 0 + (i : Int) + 3, form, x⟩], lvs ++ [lv], svs ++ [sv], rvs ++ [.str y t] ++ vs9, c9, tc, D, n0, (D, listOf (List.toArray (rvs ++ [.str y t] ++ vs9)) n0) :: (tl ++ tl9), rfl, F, fx, kr, ?_, ?_, ?_⟩
  · refine news_sub N fun p hp => ?_
    rcases List.mem_cons.mp hp with rfl | hp
    · exact .tail _ (.tail _ (.tail _ (.head _)))
    rcases List.mem_cons.mp hp with rfl | hp
    · exact .tail _ (.tail _ (.tail _ (.tail _ (.head _))))
    rcases List.mem_cons.mp hp with rfl | hp
    · exact .tail _ (.tail _ (.tail _ (.tail _ (.tail _ (.head _)))))
    rcases List.mem_cons.mp hp with rfl | hp
    · exact .tail _ (.tail _ (.tail _ (.tail _ (.tail _ (.tail _ (.head _))))))
    rcases List.mem_cons.mp hp with rfl | hp
    · exact .tail _ (.tail _ (.tail _ (.tail _ (.tail _ (.tail _ (.tail _ (.head _)))))))
    rcases List.mem_cons.mp hp with rfl | hp
    · exact .head _
    · exact .tail _ (.tail _ (.tail _ (.tail _ (.tail _ (.tail _ (.tail _ (.tail _ hp)))))))
  · intro p hp
    rcases List.mem_cons.mp hp with rfl | hp
    · exact hn (I, oI) (.tail _ (.tail _ (.head _)))
    rcases List.mem_append.mp hp with hp | hp
    · exact aI p hp
    · exact z1 p hp
  · have sub1 : ∀ p ∈ tl, p ∈ (D, listOf (List.toArray (rvs ++ [.str y t] ++ vs9)) n0) :: (tl ++ tl9) := fun p hp => .tail _ (List.mem_append_left _ hp)
    have sub2 : ∀ p ∈ tl9, p ∈ (D, listOf (List.toArray (rvs ++ [.str y t] ++ vs9)) n0) :: (tl ++ tl9) := fun p hp => .tail _ (List.mem_append_right _ hp)
    have hrn := J.rln
    have hvn := told_n s3
    have hlen := J.len
    refine ⟨J.lab.snoc hlb, (StP.monoE J.sts sub1).snoc (hst.mono sub2), ?_, ?_, ?_, ?_, ?_, ?_, g0, ?_, .head _, sub1 _ J.m1, sub1 _ J.m2, ?_⟩
    · rw [rowsAll_snoc, List.append_assoc]
      refine rows_end J.rws (add := headS (0 + ds.length) lb :: tell form x) rfl ?_
      rw [hlen, Nat.zero_add, ← ey]
      exact .cons (.str _ _) s3
    · simp only [List.length_append, List.length_cons, List.length_nil]; omega
    · intro k r hk
      by_cases h1 : k < ds.length
      · rw [List.getElem?_append_left h1] at hk
        exact J.line k r hk
      · rw [List.getElem?_append_right (by omega)] at hk
        have h2 : k - ds.length = 0 := by
          by_cases h3 : k - ds.length = 0
          · exact h3
          · rw [List.getElem?_eq_none (by simp; omega)] at hk; cases hk
        rw [h2] at hk
        simp only [List.getElem?_cons_zero, Option.some.injEq] at hk
        subst hk
        show 0 + (i : Int) + 3 = (k : Int) + 3
        omega
    · simp [hlen]
    · intro d hd
      rcases List.mem_append.mp hd with hd | hd
      · exact J.ok d hd
      · rw [List.mem_singleton.mp hd]
        exact ⟨⟨Nat.le_of_eq hx, by show 0 ≤ 0 + (i : Int) + 3; omega, by show 0 + (i : Int) + 3 ≤ 100; omega⟩, ox⟩
    · intro _
      by_cases h0 : i = 0
      · have : ds = [] := List.length_eq_zero_iff.mp (by omega)
        subst this
        exact ⟨_, rfl, hl0 h0⟩
      · obtain ⟨r, hr, h1⟩ := J.head h0
        exact ⟨r, by rw [List.getElem?_append_left (List.getElem?_eq_some_iff.mp hr).1]; exact hr, h1⟩
    · omega
    · intro p hp
      rcases List.mem_cons.mp hp with rfl | hp
      · exact ⟨hn _ (.tail _ (.tail _ (.tail _ (.head _)))), hn _ (.tail _ (.tail _ (.tail _ (.tail _ (.head _))))), hn _ (.tail _ (.tail _ (.tail _ (.tail _ (.tail _ (.head _))))))⟩
      rcases List.mem_append.mp hp with hp | hp
      · exact J.off p hp
      · exact ⟨z2 p hp, z3 p hp, z4 p hp⟩
theorem know_eq {m : Str → Option Value} {x : Str} {v : Value} (e : m x = some v) : (fun y => if y = x then some v else m y) = m := by
  funext y
  by_cases q : y = x
  · rw [if_pos q, q, e]
  · rw [if_neg q]
theorem Fr.swap {h₀ h : Heap} {L : Addr} {K K' : Str → Option Value} {x : Str} {v : Option Value} (F : Fr h₀ L h (fun y => if y = x then v else K y)) (e : K = K') : Fr h₀ L h (fun y => if y = x then v else K' y) := by subst e; exact F
theorem size_up {k : Int} (h : 0 ≤ k) : Builtin.Range.rangeSize 0 k 1 = (k.toNat : Int) := by
  unfold Builtin.Range.rangeSize
  simp only [show ((1 : Int) > 0) from by decide, if_true, Int.ediv_one]
  split <;> omega
theorem small_up {k : Int} (h : 0 ≤ k) (h1 : k < 1000) : Builtin.Range.small 0 k 1 = true := by
  unfold Builtin.Range.small
  rw [size_up h]
  simp only [Builtin.Range.rangeFitsLong, Bool.and_eq_true, Bool.or_eq_true, decide_eq_true_eq, beq_iff_eq, show ((1 : Int) > 0) from by decide, if_true]
  omega
theorem LawJ.zero {w : World} {la sa b c1 c2 ra : Addr} {o1 o2 : Obj} {nr : Nat} {tl : List (Addr × Obj)} {c : Int} (h0 : 0 ≤ c) (h1 : c ≤ 1) (mr : (ra, listOf #[] nr) ∈ tl) (m1 : (c1, o1) ∈ tl) (m2 : (c2, o2) ∈ tl) (off : ∀ p ∈ tl, p.1 ≠ la ∧ p.1 ≠ sa ∧ p.1 ≠ b) : LawJ w la sa b c1 c2 o1 o2 0 [] [] [] [] c ra nr tl :=
  ⟨.nil, .nil, .nil, by simp, fun k r h => by simp at h, rfl, fun d hd => by simp at hd, fun h => absurd rfl h, h0, by omega, mr, m1, m2, off⟩

end

section
local macro_rules | `(tactic| walk_at "call ref") => `(tactic| (k_here; (with_reducible show wpAny _ _ (call (Value.ref 178) [_, _]) _ _ _); k_dflt (refine pull_use _ _ _ _ ?_); intro r9 t9 tb9 h9 tk9 r0 r1 F9 N9; (try dsimp only at N9); (try dsimp only); (try k_fold)))
local macro_rules | `(tactic| walk_at "eval Name") => `(tactic| (k_here; (with_reducible show wpAny _ _ (eval _ (envX _ _ _ _ _ _)) _ _ _); (with_reducible rename Fr _ _ _ _ => kF); k_dflt (first | refine nGK kF ?_ | refine nGB kF ?_)))
local macro_rules | `(tactic| walk_at "storeName") => `(tactic| (k_here; k_dflt (refine storeX_C ?_); intro h' o' F' N' d'; (try dsimp only at N')))

section
local macro_rules | `(tactic| walk_at "call ref") => `(tactic| refine stop_here ?_)
local macro_rules | `(tactic| walk_at "CompEnd") => `(tactic| refine stop_here ?_)
theorem law_D (w : World) (mean : ExcName → Option Value) (mg mb : Str → Option Value) (dp un : Nat) (gd : Option (List Code)) (cn : Str) (a : Addr) (ccd : Value) (A₀ : Around) (h₀ : Heap) (L : Addr) (m : Str → Option Value)
    (c1 c2 : Addr) (o1 o2 : Obj) (v1 v2 : Value) (news : List (Addr × Obj)) (s : Shared) (Q : Flow → Shared → Prop) (E : Value → Shared → Prop)
    (B : Below A₀ h₀ [] h₀) (F : Fr h₀ L s.heap m) (X : (hd.heap_39 w.params).In h₀)
    (N : News h₀ L s.heap news) (T : Top hd.view_39 (looseW hd.view_39 [Str.ofString "SnobolError"]) mean mg mb h₀) (m1 : (c1, o1) ∈ news) (m2 : (c2, o2) ∈ news)
    (d1 : o1.data = .cell (some v1)) (d2 : o2.data = .cell (some v2)) (b1 : BadIn news v1) (g2 : GoodIn news v2)
    (hd : dp + 100 < recursionLimit) (hu : un + 1500 < cLine)
    (hret : ∀ m' h' tk', Fr h₀ L h' m' → Q (.ret (.bool true)) { s with heap := h', toks := tk' }) :
    wpAny (model PySem.Challenge.rw_pq1123_01.row.prog w) (ktrTop dp un gd cn lawD.scope L a ccd [(Str.ofString "other", c2), (Str.ofString "one", c1)] []) (execs (lawD.body.drop 13) (envX cn lawD.scope L a ccd [(Str.ofString "other", c2), (Str.ofString "one", c1)])) Q E s := by
  revert X
  k_fill
  intro X
  dsimp only [lawD.body, lawD.scope, List.drop]
  k_steps
  refine Stop.on ?_
  (k_dflt (refine' conT_use (ref_bad _ _ _ _ _) ?_ ?_; assumption); intro h9 tk9 F9 N9; (try dsimp only); (try k_fold))
  k_steps
  refine Stop.on ?_
  (k_dflt (refine' conT_use (ref_good _ _ _ _ _) ?_ ?_; assumption); intro h9 tk9 F9 N9; (try dsimp only); (try k_fold))
  k_steps
  iterate 3
    refine Stop.on ?_
    (k_dflt (refine' conT_use (lc_bad _ _ _ _ _ _ _ ?_) ?_ ?_; (first | exact .inl rfl | exact .inr (.inl rfl) | exact .inr (.inr rfl)); exact BadIn.mono (by assumption) (by intro p hp; tb_rel)); intro h9 tk9 F9 N9; (try dsimp only); (try k_fold))
    k_steps
    refine Stop.on ?_
    (k_dflt (refine' conT_use (lc_good _ _ _ _ _ _ _ ?_) ?_ ?_; (first | exact .inl rfl | exact .inr (.inl rfl) | exact .inr (.inr rfl)); exact GoodIn.mono (by assumption) (by intro p hp; tb_rel)); intro h9 tk9 F9 N9; (try dsimp only); (try k_fold))
    k_steps
    refine Stop.on ?_
    (k_dflt (refine' comp_same ?_ ?_ ?_ ?_ ?_; k_asm; k_asm; assumption; trivial); (try dsimp only))
    k_steps
  all_goals exact hret _ _ _ (by k_asm)

end

section
local macro_rules | `(tactic| walk_at "idle") => `(tactic| skip)
local macro_rules | `(tactic| walk_at "execs cons") => `(tactic| (k_here; (with_reducible show wpAny _ _ (execs [_, _] _) _ _ _); refine stop_here ?_))
local macro_rules | `(tactic| walk_at "subscriptTail Name Call ref int") => `(tactic| refine stop_here ?_)
theorem law_C (w : World) (mean : ExcName → Option Value) (mg mb : Str → Option Value) (dp un : Nat) (gd : Option (List Code)) (cn : Str) (a : Addr) (ccd : Value) (A₀ : Around) (h₀ : Heap) (L : Addr) (m : Str → Option Value)
    (c1 c2 : Addr) (o1 o2 : Obj) (b l : Addr) (nb : Nat) (c : Int) (tc : Tok) (ys : List Value) (zs : List Int) (s : Shared) (Q : Flow → Shared → Prop) (E : Value → Shared → Prop)
    (B : Below A₀ h₀ [] h₀) (F : Fr h₀ L s.heap (fun y => if y = Str.ofString "box" then some (.ref b) else m y)) (X : (hd.heap_39 w.params).In h₀)
    (N : News h₀ L s.heap [(b, listOf #[.ref l, .int c tc] nb), (l, LCg.lst ys), (c2, o2), (c1, o1)]) (T : Top hd.view_39 (looseW hd.view_39 [Str.ofString "SnobolError"]) mean mg mb h₀)
    (hI : IntsAre ys zs) (hbl : @Ne Nat b l) (hb1 : @Ne Nat b c1) (hb2 : @Ne Nat b c2) (h12 : @Ne Nat c2 c1) (hl1 : @Ne Nat l c1) (hl2 : @Ne Nat l c2) (d1 : o1.data = .cell none) (d2 : o2.data = .cell none) (hc0 : 0 ≤ c) (hc1 : c ≤ 60) (hz : zs.length ≤ 40)
    (hd : dp + 100 < recursionLimit) (hu : un + 1500 < cLine)
    (hret : ∀ m' h' tk', Fr h₀ L h' m' → Q (.ret (.bool true)) { s with heap := h', toks := tk' }) :
    wpAny (model PySem.Challenge.rw_pq1123_01.row.prog w) (ktrTop dp un gd cn lawD.scope L a ccd [(Str.ofString "other", c2), (Str.ofString "one", c1)] []) (execs (lawD.body.drop 8) (envX cn lawD.scope L a ccd [(Str.ofString "other", c2), (Str.ofString "one", c1)])) Q E s := by
  revert X
  k_fill
  intro X
  dsimp only [lawD.body, lawD.scope, List.drop]
  k_steps
  refine Stop.on ?_
  k_dflt (refine' pick_bad ?xN ?xhm ?xh0 ?xh1 ?xhz ?xhall ?_ ?xhs; (case xN => k_asm); (case xhm => k_mem); (case xh0 => assumption); (case xh1 => exact (by assumption : _ < (_ : Int))); (case xhz => exact Nat.le_of_ble_eq_true rfl); (case xhall => (refine' (List.forall_mem_cons.mpr ⟨BadIn.whole ?xb1, (List.forall_mem_cons.mpr ⟨BadIn.text ?xb2, (List.forall_mem_cons.mpr ⟨BadIn.null ?xb3, (List.forall_mem_cons.mpr ⟨BadIn.join ?xb4, (List.forall_mem_cons.mpr ⟨BadIn.binary ?xb5, (List.forall_mem_cons.mpr ⟨BadIn.minus ?xb6, (List.forall_mem_cons.mpr ⟨BadIn.star ?xb7, (List.forall_mem_cons.mpr ⟨BadIn.dot ?xb8, (List.forall_mem_cons.mpr ⟨BadIn.amp ?xb9 ?xb10, (List.forall_mem_nil _)⟩)⟩)⟩)⟩)⟩)⟩)⟩)⟩)⟩); (case xb1 => k_mem); (case xb2 => k_mem); (case xb3 => k_mem); (case xb4 => k_mem); (case xb5 => k_mem); (case xb6 => k_mem); (case xb7 => k_mem); (case xb8 => k_mem); (case xb9 => k_mem); (case xb10 => k_mem))); (case xhs => with_unfolding_all rfl))
  intro v9 b9
  k_steps
  refine Stop.on ?_
  k_dflt (refine' pick_good ?yN ?yhm ?yh0 ?yh1 ?yhz ?yhall ?_ ?yhs; (case yN => k_asm); (case yhm => k_mem); (case yh0 => assumption); (case yh1 => exact (by assumption : _ < (_ : Int))); (case yhz => exact Nat.le_of_ble_eq_true rfl); (case yhall => (refine' (List.forall_mem_cons.mpr ⟨GoodIn.name ?yb1, (List.forall_mem_cons.mpr ⟨GoodIn.call ?yb2 ?yb3, (List.forall_mem_cons.mpr ⟨GoodIn.item ?yb4 ?yb5 ?yb6, (List.forall_mem_cons.mpr ⟨GoodIn.ind ?yb7 ?yb8, (List.forall_mem_cons.mpr ⟨GoodIn.amp ?yb9 ?yb10, (List.forall_mem_nil _)⟩)⟩)⟩)⟩)⟩); (case yb1 => k_mem); (case yb2 => k_mem); (case yb3 => k_mem); (case yb4 => k_mem); (case yb5 => k_mem); (case yb6 => k_mem); (case yb7 => k_mem); (case yb8 => k_mem); (case yb9 => k_mem); (case yb10 => k_mem))); (case yhs => with_unfolding_all rfl))
  intro v8 b8
  k_steps
  refine Stop.on ?_
  k_dflt (refine' law_D _ _ _ _ _ _ _ _ _ _ _ _ _ _ _ _ _ _ _ _ _ _ _ _ ?zB ?zF ?zX ?zN ?zT ?zm1 ?zm2 ?zd1 ?zd2 ?zb1 ?zg2 ?zhd ?zhu ?zhr; (case zB => k_asm); (case zF => k_asm); (case zX => k_asm); (case zN => k_asm); (case zT => k_asm); (case zm1 => k_mem); (case zm2 => k_mem); (case zd1 => assumption); (case zd2 => assumption); (case zb1 => (refine' BadIn.cells (a' := (_, _)) (b' := (_, _)) (c' := (_, _)) (d' := (_, _)) (by assumption) ?ze ?zs ?zn1 ?zn2 ?zcx ?zcy; (case ze => rfl); (case zs => intro p hp; tb_rel); (case zn1 => exact NoTup.list); (case zn2 => exact NoTup.list); (case zcx => exact NoTup.cell (by assumption)); (case zcy => exact NoTup.cell (by assumption)))); (case zg2 => (refine' GoodIn.cells (a' := (_, _)) (b' := (_, _)) (c' := (_, _)) (d' := (_, _)) (by assumption) ?ze ?zs ?zn1 ?zn2 ?zcx ?zcy; (case ze => rfl); (case zs => intro p hp; tb_rel); (case zn1 => exact NoTup.list); (case zn2 => exact NoTup.list); (case zcx => exact NoTup.cell (by assumption)); (case zcy => exact NoTup.cell (by assumption)))); (case zhd => assumption); (case zhu => assumption); (case zhr => assumption))

end

section
local macro_rules | `(tactic| walk_at "eval ListComp") => `(tactic| refine stop_here ?_)
local macro_rules | `(tactic| walk_at "CompSrc") => `(tactic| refine stop_here ?_)
local macro_rules | `(tactic| walk_at "call type:enumerate") => `(tactic| refine stop_here ?_)
local macro_rules | `(tactic| walk_at "compareOp NotEq ref ref") => `(tactic| refine stop_here ?_)
local macro_rules | `(tactic| walk_at "execs cons") => `(tactic| (k_here; (with_reducible show wpAny _ _ (execs [_, _, _, _, _, _, _] _) _ _ _); refine stop_here ?_))
theorem law_E (w : World) (mean : ExcName → Option Value) (mg mb : Str → Option Value) (dp un : Nat) (gd : Option (List Code)) (cn : Str) (a : Addr) (ccd : Value) (A₀ : Around) (h₀ : Heap) (L : Addr) (m : Str → Option Value)
    (c1 c2 : Addr) (o1 o2 : Obj) (b l : Addr) (nb : Nat) (c : Int) (tc : Tok) (ys : List Value) (zs : List Int) (la : Addr) (nl : Nat) (lvs cvs : List Value) (ds : List Row) (u ud sa da : Addr) (t0 t1 t2 tn : Tok) (n9 ns9 : Nat) (od : Obj) (news : List (Addr × Obj)) (s : Shared) (Q : Flow → Shared → Prop)
    (B : Below A₀ h₀ [] h₀) (F : Fr h₀ L s.heap (fun y => if y = Str.ofString "unit" then some (.ref u) else if y = Str.ofString "labels" then some (.ref la) else if y = Str.ofString "box" then some (.ref b) else m y)) (X : (hd.heap_39 w.params).In h₀)
    (N : News h₀ L s.heap news) (mbx : (b, listOf #[.ref l, .int c tc] nb) ∈ news) (mlx : (l, LCg.lst ys) ∈ news) (mc2 : (c2, o2) ∈ news) (mc1 : (c1, o1) ∈ news) (mla : (la, listOf lvs.toArray nl) ∈ news) (U : UnIn w news ds 4 (.ref u) u ud sa da t0 t1 t2 tn n9 ns9 cvs od)
    (T : Top hd.view_39 (looseW hd.view_39 [Str.ofString "SnobolError"]) mean mg mb h₀)
    (hI : IntsAre ys zs) (hbl : @Ne Nat b l) (hb1 : @Ne Nat b c1) (hb2 : @Ne Nat b c2) (h12 : @Ne Nat c2 c1) (hl1 : @Ne Nat l c1) (hl2 : @Ne Nat l c2) (d1 : o1.data = .cell none) (d2 : o2.data = .cell none) (hc0 : 0 ≤ c) (hc1 : c ≤ 60) (hz : zs.length ≤ 40)
    (hlv : Each (fun v r => LbV r.lb v) lvs ds) (hline : ∀ (i : Nat) (r : Row), ds[i]? = some r → r.line = (i : Int) + 3) (hlen : ds.length ≤ 5)
    (hd : dp + 100 < recursionLimit) (hu : un + 1500 < cLine)
    (hret : ∀ m' h' tk', Fr h₀ L h' m' → Q (.ret (.bool true)) { s with heap := h', toks := tk' }) :
    wpAny (model PySem.Challenge.rw_pq1123_01.row.prog w) (ktrTop dp un gd cn lawD.scope L a ccd [(Str.ofString "other", c2), (Str.ofString "one", c1)] []) (execs (lawD.body.drop 7) (envX cn lawD.scope L a ccd [(Str.ofString "other", c2), (Str.ofString "one", c1)])) Q (fun _ _ => False) s := by
  have q1 := U.inst
  have q2 := U.dict
  have q3 := U.stats
  have q4 := U.each
  have q5 : cvs.length ≤ 5 := by rw [q4.length]; exact hlen
  revert X
  k_fill
  intro X
  dsimp only [lawD.body, lawD.scope, List.drop]
  k_steps
  refine Stop.on ?_
  (rename Fr _ _ _ _ => lF'); k_dflt (refine' LCg.ListComp_U (F₀ := lF') ?ea ?eb ?ec ?ed ?ee ?_ ?eg; (case ea => with_unfolding_all rfl); (case eb => decide); (case ec => rfl); (case ed => decide); (case ee => rfl); (case eg => (intro _; rfl)))
  k_steps
  refine Stop.on ?_
  k_dflt (refine LCg.CompSrc.ledger (by rfl) (by k_asm) (by k_asm) (by k_mem) (by (rw [PySem.sizeLine_eq]; simp only [List.size_toArray]; omega)) ?_; intro g')
  refine comp_inv (fun i ys nw => ∃ mk, nw = mk ++ news ∧ DatAll mk ys ((ds.take i).map pairD)) ?turn ?fin ⟨[], rfl, by simpa using DatAll.nil⟩
  case turn =>
    rintro i v I oI C oC D m₂ zs9 nw h tk E' hi hP ⟨mk, rfl, he⟩ hC hx F1 N1 off ne
    obtain ⟨r, hr, hco⟩ := q4.get (by simpa using hP)
    obtain ⟨ca, cd, cb, cs', cf, t0', t1', t2', t3', t4', tl1, lv, cn', rfl, hlb, hc1', hc2'⟩ := hco.head
    have hhd := hlb.handed
    (try k_fold)
    k_steps
    refine comp_end1 (by k_asm) (by k_asm) off (by rename (_ < _ ∧ _) => hq; exact ne_lt hq) (Or.inr ⟨_, .tail _ (List.mem_append_right _ q3), rfl, _, rfl⟩) ⟨_ :: mk, rfl, pair_snoc he hr hlb rfl⟩
  case fin =>
    rintro zs9 nw ⟨mk, rfl, he⟩
    have he' : DatAll mk zs9 (ds.map pairD) := by simpa [q4.length] using he
    clear he
    k_steps
    refine Stop.on ?_
    (rename Fr _ _ _ _ => lF'); k_dflt (refine' en_ListComp (_F₀ := lF') ?fa ?fb ?fc ?fd ?fe ?ff ?fi ?_ ?fg; (case fa => with_unfolding_all rfl); (case fb => decide); (case fc => rfl); (case fd => decide); (case fe => rfl); (case ff => rfl); (case fi => decide); (case fg => (intro _; rfl)))
    k_steps
    refine Stop.on ?_
    refine en_src (fun i ys mk2 => DatAll mk2 ys ((ds.take i).map pairD)) rfl (by k_asm) (by k_asm) (by k_mem) rfl rfl (by rw [PySem.sizeLine_eq, hlv.length]; omega) ?T (by simpa using DatAll.nil) ?fin2
    case T =>
      intro g i v t e oe I oI C oC D m₂ zs8 mk2 h tk E' hv hj hC ha hb F1 N1
      obtain ⟨r, hr, hlb⟩ := hlv.get hv
      have hhd := hlb.handed
      have hln := hline i r hr
      (try k_fold)
      k_steps
      exact EnEnd.intro (by k_asm) (by k_asm) (by rename (_ < _ ∧ _) => hq; exact ne_lt hq) (pair_snoc hj hr hlb hln.symm)
    case fin2 =>
      intro D h tk zs8 mk2 F1 N1 off1 hj
      have hj' : DatAll mk2 zs8 (ds.map pairD) := by simpa [hlv.length] using hj
      (try k_fold)
      k_steps
      refine Stop.on ?_
      k_dflt (refine' pairs_ne ?gN ?gma ?gmb ?gha ?ghb ?gsa ?gsb ?gu ?_; (case gN => k_asm); (case gma => k_mem); (case gmb => k_mem); (case gha => with_reducible assumption); (case ghb => with_reducible assumption); (case gsa => intro p hp; tb_rel); (case gsb => intro p hp; tb_rel); (case gu => (show _ < _; dsimp only; omega)))
      k_steps
      refine Stop.on ?_
      (rename Fr _ _ _ _ => lF'); k_dflt (refine' law_C _ _ _ _ _ _ _ _ _ _ _ _ _ _ _ _ _ _ _ _ _ _ _ _ _ _ _ _ ?zB (Fr.know lF' ?zkn) ?zX ?zN ?zT ?zhI ?zhbl ?zhb1 ?zhb2 ?zh12 ?zhl1 ?zhl2 ?zd1 ?zd2 ?zc0 ?zc1 ?zhz ?zhd ?zhu ?zhr; (case zB => k_asm); (case zkn => with_unfolding_all rfl); (case zX => k_asm); (case zN => exact news_sub (by k_asm) (List.forall_mem_cons.mpr ⟨by k_mem, List.forall_mem_cons.mpr ⟨by k_mem, List.forall_mem_cons.mpr ⟨by k_mem, List.forall_mem_cons.mpr ⟨by k_mem, List.forall_mem_nil _⟩⟩⟩⟩)); (case zT => k_asm); (case zhI => assumption); (case zhbl => assumption); (case zhb1 => assumption); (case zhb2 => assumption); (case zh12 => assumption); (case zhl1 => assumption); (case zhl2 => assumption); (case zd1 => assumption); (case zd2 => assumption); (case zc0 => assumption); (case zc1 => assumption); (case zhz => assumption); (case zhd => assumption); (case zhu => assumption); (case zhr => assumption))

end

section
local macro_rules | `(tactic| walk_at "exec For Name Call cons nil") => `(tactic| refine stop_here ?_)
local macro_rules | `(tactic| walk_at "pyIter ref") => `(tactic| refine stop_here ?_)
local macro_rules | `(tactic| walk_at "call builtin:len") => `(tactic| refine stop_here ?_)
local macro_rules | `(tactic| walk_at "subscriptTail Name Name ref int") => `(tactic| refine stop_here ?_)
local macro_rules | `(tactic| walk_at "setItem ref str") => `(tactic| refine stop_here ?_)
local macro_rules | `(tactic| walk_at "compareOp NotEq ref ref") => `(tactic| refine stop_here ?_)
local macro_rules | `(tactic| walk_at "call ref") => `(tactic| refine stop_here ?_)
local macro_rules | `(tactic| walk_at "execs cons") => `(tactic| (k_here; (with_reducible show wpAny _ _ (execs [_, _, _, _, _, _, _, _] _) _ _ _); refine stop_here ?_))
theorem law_B (w : World) (mean : ExcName → Option Value) (mg mb : Str → Option Value) (dp un : Nat) (gd : Option (List Code)) (cn : Str) (a : Addr) (ccd : Value) (A₀ : Around) (h₀ : Heap) (L : Addr) (m : Str → Option Value)
    (c1 c2 : Addr) (o1 o2 : Obj) (b l : Addr) (nb : Nat) (c : Int) (tc : Tok) (ys : List Value) (zs : List Int) (la sa ra : Addr) (nl ns nr : Nat) (lvs svs rvs : List Value) (ds : List Row) (tl : List (Addr × Obj)) (s : Shared) (Q : Flow → Shared → Prop)
    (B : Below A₀ h₀ [] h₀) (F : Fr h₀ L s.heap (fun y => if y = Str.ofString "box" then some (.ref b) else if y = Str.ofString "labels" then some (.ref la) else if y = Str.ofString "statements" then some (.ref sa) else if y = Str.ofString "rows" then some (.ref ra) else m y)) (X : (hd.heap_39 w.params).In h₀)
    (N : News h₀ L s.heap ((b, listOf #[.ref l, .int c tc] nb) :: (l, LCg.lst ys) :: (c2, o2) :: (c1, o1) :: (la, listOf lvs.toArray nl) :: (sa, listOf svs.toArray ns) :: (ra, listOf rvs.toArray nr) :: tl)) (T : Top hd.view_39 (looseW hd.view_39 [Str.ofString "SnobolError"]) mean mg mb h₀)
    (hI : IntsAre ys zs) (hbl : @Ne Nat b l) (hb1 : @Ne Nat b c1) (hb2 : @Ne Nat b c2) (h12 : @Ne Nat c2 c1) (hl1 : @Ne Nat l c1) (hl2 : @Ne Nat l c2) (d1 : o1.data = .cell none) (d2 : o2.data = .cell none) (hc0 : 0 ≤ c) (hc1 : c ≤ 60) (hz : zs.length ≤ 40)
    (hlv : Each (fun v r => LbV r.lb v) lvs ds) (hsv : Each (StP w tl) svs ds) (hrv : DatAll [] rvs ((rowsAll 0 ds).map .str)) (hrl : rvs.length ≤ 400) (hline : ∀ (i : Nat) (r : Row), ds[i]? = some r → r.line = (i : Int) + 3) (hlen : ds.length ≤ 5) (hok : ∀ d ∈ ds, Row.Ok d) (hhead : ∃ r, ds[0]? = some r ∧ r.lb = .l1) (hxs : ∀ d ∈ ds, PyData.strOk d.x = true)
    (hd : dp + 100 < recursionLimit) (hu : un + 1500 < cLine)
    (hret : ∀ m' h' tk', Fr h₀ L h' m' → Q (.ret (.bool true)) { s with heap := h', toks := tk' }) :
    wpAny (model PySem.Challenge.rw_pq1123_01.row.prog w) (ktrTop dp un gd cn lawD.scope L a ccd [(Str.ofString "other", c2), (Str.ofString "one", c1)] []) (execs (lawD.body.drop 3) (envX cn lawD.scope L a ccd [(Str.ofString "other", c2), (Str.ofString "one", c1)])) Q (fun _ _ => False) s := by
  have hsz : svs.length ≤ 5 := by rw [hsv.length]; exact hlen
  have hlz : lvs.length = ds.length := hlv.length
  have hrok : ∀ y ∈ rowsAll 0 ds, PyData.strOk y = true := rowsAll_ok (by omega) hxs
  revert X
  k_fill
  intro X
  dsimp only [lawD.body, lawD.scope, List.drop]
  k_steps
  refine Stop.on ?_
  (k_dflt (refine' con_use (prog_con _ _ _ _ _ _ _ _ _ _ ?ph1 ?ph2 ?ph3) ?pn ?_; (case pn => (refine' ⟨?pn1, ?pn2⟩; (case pn1 => k_mem); (case pn2 => (refine' StP.monoE (by assumption) ?_; intro p hp; tb_rel)))); (case ph1 => assumption); (case ph2 => assumption); (case ph3 => assumption)); intro r9 tl9 h9 tk9 F9 N9 hl9 ho9; (obtain ⟨u9, ud9, sa9, da9, _, _, _, _, _, _, cvs9, od9, U9⟩ := ho9); (have e9 := U9.val); subst e9; (have q1 := U9.inst); (have q2 := U9.dict); (have q3 := U9.stats); (have q4 := U9.each); (have q5 := U9.labs); (have q6 := U9.notM); (have q7 := U9.lab); (try dsimp only); (try k_fold))
  k_steps
  refine Stop.on ?_
  (rename Fr _ _ _ _ => lF'); (with_unfolding_all refine' For_invVF lF' ?fk1 ?fk2 ?_; (case fk1 => exact rfl); (case fk2 => exact rfl); k_whole)
  k_steps
  refine Stop.on ?_
  k_dflt (refine' KM.len_K ?eN ?em ?es ?ef ?_; (case eN => k_asm); (case em => k_mem); (case es => exact List.size_toArray.trans (by assumption)); (case ef => omega))
  k_steps
  refine Stop.on ?_
  refine down_inv (fun i o => ∃ p, o.IsDictOf (kndS w) p ∧ DueP ds i p) (n := ds.length) (by omega) rfl rfl rfl (by assumption) (by k_asm) (by k_asm) (ne_lt (allLt_of (by assumption))) ⟨[], by assumption, .n0 fstAt_end fstAt_end⟩ ?turn ?done
  case turn =>
    rintro i o t h tk own hi ⟨p, hp1, hp2⟩ F1 N1 off1
    obtain ⟨lv, r, hlv', hr, hlb⟩ := hlv.at hi
    have hpl : p.length ≤ sizeLine := by rw [sizeLine_eq]; have := hp2.len; omega
    have hiz0 : (0 : Int) ≤ (i : Int) := Int.natCast_nonneg i
    have hiz1 : (i : Int) < 2 ^ 63 := by omega
    obtain ⟨lb, line, form, x⟩ := r
    dsimp only at hlb
    (try k_fold)
    cases hlb
    all_goals k_steps
    all_goals repeat
      refine Stop.on ?_
      first
      | k_dflt (refine item_litK (News.isList (by k_asm) (by k_mem)) (by with_reducible assumption) (by with_reducible assumption) (by assumption) ?_ (by with_unfolding_all rfl))
      | (k_dflt (refine kda_set (knd := PySem.strKind _ _) (by k_asm) (by k_asm) (by k_updF) (by k_asm) (strKind_is _ _ _ _) (by assumption) ?_); intro h' o' F' N' hd'; (try dsimp only at N'))
      k_steps
    · exact DownEnd.intro (by k_asm) (by k_asm) ⟨p, hp1, hp2.skip hr (by simp) (by simp)⟩
    · exact DownEnd.intro (by k_asm) (by k_asm) ⟨_, by assumption, hp2.put1 hr rfl⟩
    · exact DownEnd.intro (by k_asm) (by k_asm) ⟨_, by assumption, hp2.put2 hr rfl⟩
    · exact DownEnd.intro (by k_asm) (by k_asm) ⟨p, hp1, hp2.skip hr (by simp) (by simp)⟩
  case done =>
    rintro mm o h tk ⟨p, hp1, hp2⟩ F2 N2
    (try k_fold)
    k_steps
    refine Stop.on ?_
    k_dflt (refine' labs_ne ?gN ?gpa ?gpb ?gla ?glb ?gu ?gl ?gb ?gp ?gh ?_; (case gN => k_asm); (case gpa => k_mem); (case gpb => k_mem); (case gla => with_reducible assumption); (case glb => with_reducible assumption); (case gu => (show _ < _; dsimp only; omega)); (case gl => assumption); (case gb => assumption); (case gp => assumption); (case gh => assumption))
    k_steps
    refine Stop.on ?_
    (k_dflt (refine' con_use (showu_con _ _ _ _ _ _ _ _ _ _ _ _ _ _ _ _ _ _ _ ?sh1 ?sh2) ?sn ?_; (case sn => (refine' UnIn.mono (by assumption) ?_; intro p hp; tb_rel)); (case sh1 => assumption); (case sh2 => assumption)); intro r9 tl9 h9 tk9 F9 N9 hl9 ho9; (obtain ⟨ra9, rv9, nr9, e9, q8, q9⟩ := ho9); subst e9; (try dsimp only); (try k_fold))
    k_steps
    refine Stop.on ?_
    k_dflt (refine' rows_ne ?hN ?hma ?hmb ?hha ?hhb ?hhl ?hu ?_; (case hN => k_asm); (case hma => k_mem); (case hmb => k_mem); (case hha => with_reducible assumption); (case hhb => with_reducible assumption); (case hhl => assumption); (case hu => (show _ < _; dsimp only; omega)))
    k_steps
    refine Stop.on ?_
    (rename Fr _ _ _ _ => lF'); k_dflt (refine' law_E _ _ _ _ _ _ _ _ _ _ _ _ _ _ _ _ _ _ _ _ _ _ _ _ _ _ _ _ _ _ _ _ _ _ _ _ _ _ _ _ _ _ _ _ ?zB (Fr.know (Fr.know (Fr.know lF' ?zkb) ?zkl) ?zku) ?zX ?zN ?zmb ?zml ?zm2 ?zm1 ?zma ?zU ?zT ?zhI ?zhbl ?zhb1 ?zhb2 ?zh12 ?zhl1 ?zhl2 ?zd1 ?zd2 ?zc0 ?zc1 ?zhz ?zhlv ?zhln ?zhlen ?zhd ?zhu ?zhr; (case zB => k_asm); (case zkb => with_unfolding_all rfl); (case zkl => with_unfolding_all rfl); (case zku => with_unfolding_all rfl); (case zX => k_asm); (case zN => k_asm); (case zmb => k_mem); (case zml => k_mem); (case zm2 => k_mem); (case zm1 => k_mem); (case zma => k_mem); (case zU => refine' UnIn.mono (by assumption) ?_; intro p hp; tb_rel); (case zT => k_asm); (case zhI => assumption); (case zhbl => assumption); (case zhb1 => assumption); (case zhb2 => assumption); (case zh12 => assumption); (case zhl1 => assumption); (case zhl2 => assumption); (case zd1 => assumption); (case zd2 => assumption); (case zc0 => assumption); (case zc1 => assumption); (case zhz => assumption); (case zhlv => assumption); (case zhln => assumption); (case zhlen => assumption); (case zhd => assumption); (case zhu => assumption); (case zhr => assumption))

end

section
local macro_rules | `(tactic| k_all) => `(tactic| first
  | assumption
  | exact ne_lt (allLt_of (by assumption))
  | (refine' List.forall_mem_cons.mpr ⟨?a, ?b⟩; (case a => k_ne); (case b => k_all))
  | (refine' List.forall_mem_append.mpr ⟨?a, ?b⟩; (case a => k_all); (case b => k_all)))
local macro_rules | `(tactic| walk_at "subscriptTail Name Call ref int") => `(tactic| refine stop_here ?_)
local macro_rules | `(tactic| walk_at "call builtin:list.append") => `(tactic| refine stop_here ?_)
local macro_rules | `(tactic| walk_at "binaryOp Add ref ref") => `(tactic| refine stop_here ?_)
local macro_rules | `(tactic| walk_at "eval IfExp") => `(tactic| (k_here; (rename LbV _ _ => hq9); refine stop_here ?_))
local macro_rules | `(tactic| walk_at "call ref") => `(tactic| (k_here; (with_reducible show wpAny _ _ (call (Value.ref 185) _) _ _ _); refine stop_here ?_))
theorem law_turn2 (w : World) (mean : ExcName → Option Value) (mg mb : Str → Option Value) (dp un : Nat) (gd : Option (List Code)) (cn : Str) (a : Addr) (ccd : Value) (A₀ : Around) (h₀ : Heap) (L : Addr) (m : Str → Option Value)
    (la sa b l c1 c2 I : Addr) (o1 o2 oI : Obj) (nb : Nat) (zs9 : List Value) (zs : List Int) (i : Nat) (lb : Lb) (lv : Value) (c9 : Int) (ds : List Row) (lvs svs rvs : List Value) (c : Int) (tc t : Tok) (ra : Addr) (nr : Nat) (tl : List (Addr × Obj)) (s : Shared)
    (B : Below A₀ h₀ [] h₀) (F : Fr h₀ L s.heap (fun y => if y = Str.ofString "label" then some lv else if y = Str.ofString "at" then some (.int (0 + (i : Int)) t) else m y)) (X : (hd.heap_39 w.params).In h₀)
    (N : News h₀ L s.heap ((I, oI) :: (la, listOf lvs.toArray i) :: (sa, listOf svs.toArray i) :: (b, listOf #[.ref l, .int c9 tc] nb) :: (l, LCg.lst zs9) :: tl)) (T : Top hd.view_39 (looseW hd.view_39 [Str.ofString "SnobolError"]) mean mg mb h₀)
    (J : LawJ w la sa b c1 c2 o1 o2 i ds lvs svs rvs c ra nr tl) (hi : i < 5) (hlb : LbV lb lv) (hl0 : i = 0 → lb = .l1) (g0 : 0 ≤ c9) (g1 : c9 ≤ 2 + 3 * i) (kr : m (Str.ofString "rows") = some (.ref ra)) (kl : m (Str.ofString "labels") = some (.ref la)) (ks : m (Str.ofString "statements") = some (.ref sa)) (kb : m (Str.ofString "box") = some (.ref b))
    (hI : IntsAre zs9 zs) (hz : zs.length ≤ 40) (a1 : @Ne Nat I la) (a2 : @Ne Nat I sa) (a3 : @Ne Nat I b) (a4 : @Ne Nat I l) (a5 : @Ne Nat la sa) (a6 : @Ne Nat la b) (a7 : @Ne Nat la l) (a8 : @Ne Nat sa b) (a9 : @Ne Nat sa l) (a10 : @Ne Nat b l) (aI : ∀ p ∈ tl, p.1 ≠ I)
    (hd : dp + 100 < recursionLimit) (hu : un + 1500 < cLine) :
    wpAny (model PySem.Challenge.rw_pq1123_01.row.prog w) (ktrTop dp un gd cn lawD.scope L a ccd [(Str.ofString "other", c2), (Str.ofString "one", c1)] []) (execs (lawD.turn.drop 1) (envX cn lawD.scope L a ccd [(Str.ofString "other", c2), (Str.ofString "one", c1)]))
      (LawEnd w h₀ L I oI la sa b l c1 c2 o1 o2 nb zs9 (i + 1) m s) (fun _ _ => False) s := by
  have q1 := J.mr
  have hll : lvs.length ≤ 1000 := by rw [J.lab.length, J.len]; omega
  have hsl : svs.length ≤ 1000 := by rw [J.sts.length, J.len]; omega
  have hrl : rvs.length ≤ 50 := by have := J.rln; omega
  have q3 : c9 ≤ 20 := by omega
  have hhd := hlb.handed
  have e1 : ∀ p ∈ tl, p.1 ≠ la := fun p hp => (J.off p hp).1
  have e2 : ∀ p ∈ tl, p.1 ≠ sa := fun p hp => (J.off p hp).2.1
  have e3 : ∀ p ∈ tl, p.1 ≠ b := fun p hp => (J.off p hp).2.2
  have fx : FixOf turned (fun y => if y = Str.ofString "label" then some lv else if y = Str.ofString "at" then some (.int (0 + (i : Int)) t) else m y) m := (FixOf.rfl'.step (by decide +kernel)).step (by decide +kernel)
  have F2 := Fr.know (Fr.know (Fr.know (Fr.know F ((if_neg (by decide +kernel)).trans ((if_neg (by decide +kernel)).trans kr))) ((if_neg (by decide +kernel)).trans ((if_neg (by decide +kernel)).trans ((if_neg (by decide +kernel)).trans kl)))) ((if_neg (by decide +kernel)).trans ((if_neg (by decide +kernel)).trans ((if_neg (by decide +kernel)).trans ((if_neg (by decide +kernel)).trans ks))))) ((if_neg (by decide +kernel)).trans ((if_neg (by decide +kernel)).trans ((if_neg (by decide +kernel)).trans ((if_neg (by decide +kernel)).trans ((if_neg (by decide +kernel)).trans kb)))))
  have fx2 := FixOf.know (FixOf.know (FixOf.know (FixOf.know fx kr) kl) ks) kb
  clear F fx
  revert X
  k_fill
  intro X
  dsimp only [lawD.turn, lawD.scope, List.drop]
  k_steps
  refine Stop.on ?_
  (k_dflt (refine' con_use (stat_con _ _ _ _ _ _ _ _ _ _ _ _ ?ph1 ?ph2 ?ph3 ?ph4 ?ph5 ?ph6) trivial ?_; (case ph1 => assumption); (case ph2 => omega); (case ph3 => omega); (case ph4 => with_reducible assumption); (case ph5 => with_reducible assumption); (case ph6 => exact Nat.le_of_eq (by assumption))); intro r9 tl9 h9 tk9 F9 N9 hl9 ho9; (obtain ⟨ta9, sa9, ra9, n91, n92, vs9, S9⟩ := ho9); (have ev9 := S9.val); subst ev9; (have s1 := S9.pair); (have s2 := S9.rows); (have s3 := dat_str0 S9.told); (have s4 := S9.stat); (obtain ⟨z1, hl9⟩ := apart9 hl9); (obtain ⟨z2, hl9⟩ := apart9 hl9); (obtain ⟨z3, hl9⟩ := apart9 hl9); (obtain ⟨z4, hl9⟩ := apart9 hl9); (obtain ⟨z5, hl9⟩ := apart9 hl9); (try simp only [List.cons_append] at N9); (try dsimp only); (try k_fold))
  k_steps
  refine Stop.on ?_
  (k_dflt (refine app_K (by k_asm) (by k_asm) (by k_upd) (by with_reducible assumption) ?_); intro h' F' N')
  k_steps
  refine Stop.on ?_
  (k_dflt (refine app_K (by k_asm) (by k_asm) (by k_upd) (by with_reducible assumption) ?_); intro h' F' N')
  k_steps
  refine Stop.on ?_
  have hv9 := told_n (by assumption : DatAll [] _ ((tell _ _).map .str))
  rename LbV _ _ => hlb
  cases hlb
  all_goals k_steps
  all_goals iterate 2
    refine Stop.on ?_
    (k_dflt (refine cat_K (by k_asm) (by k_asm) (by k_mem) (by k_mem) (by simp only [List.length_append, List.length_cons, List.length_nil]; omega) ?_); intro D' h' F' N' l1')
    k_steps
  · exact law_end J hi (by k_asm) (((fx2.step (by decide +kernel)).step (by decide +kernel)).step (by decide +kernel)) (if_pos rfl) (by k_asm) (by assumption) (by assumption) .n aI (by assumption) (by assumption) (by assumption) (by assumption) (by assumption) head_n (by assumption) (item_ok (by with_reducible assumption) (by with_reducible assumption)) (by omega) (by omega) hl0
  · exact law_end J hi (by k_asm) (((fx2.step (by decide +kernel)).step (by decide +kernel)).step (by decide +kernel)) (if_pos rfl) (by k_asm) (by assumption) (by assumption) .l1 aI (by assumption) (by assumption) (by assumption) (by assumption) (by assumption) head_l1 (by assumption) (item_ok (by with_reducible assumption) (by with_reducible assumption)) (by omega) (by omega) hl0
  · exact law_end J hi (by k_asm) (((fx2.step (by decide +kernel)).step (by decide +kernel)).step (by decide +kernel)) (if_pos rfl) (by k_asm) (by assumption) (by assumption) .l2 aI (by assumption) (by assumption) (by assumption) (by assumption) (by assumption) head_l2 (by assumption) (item_ok (by with_reducible assumption) (by with_reducible assumption)) (by omega) (by omega) hl0
  · exact law_end J hi (by k_asm) (((fx2.step (by decide +kernel)).step (by decide +kernel)).step (by decide +kernel)) (if_pos rfl) (by k_asm) (by assumption) (by assumption) .e aI (by assumption) (by assumption) (by assumption) (by assumption) (by assumption) head_e (by assumption) (item_ok (by with_reducible assumption) (by with_reducible assumption)) (by omega) (by omega) hl0
local macro_rules | `(tactic| walk_at "execs cons") => `(tactic| (k_here; (with_reducible show wpAny _ _ (execs [PySem.Stmt.Assign _ _ _, PySem.Stmt.Expr _ _, PySem.Stmt.Expr _ _, PySem.Stmt.Assign _ _ _] _) _ _ _); refine stop_here ?_))
theorem law_turn (w : World) (mean : ExcName → Option Value) (mg mb : Str → Option Value) (dp un : Nat) (gd : Option (List Code)) (cn : Str) (a : Addr) (ccd : Value) (A₀ : Around) (h₀ : Heap) (L : Addr) (m : Str → Option Value)
    (la sa b l c1 c2 I : Addr) (o1 o2 oI : Obj) (nb : Nat) (zs9 : List Value) (zs : List Int) (i : Nat) (ds : List Row) (lvs svs rvs : List Value) (c : Int) (tc t : Tok) (ra : Addr) (nr : Nat) (tl : List (Addr × Obj)) (s : Shared)
    (B : Below A₀ h₀ [] h₀) (F : Fr h₀ L s.heap (fun y => if y = Str.ofString "at" then some (.int (0 + (i : Int)) t) else m y)) (X : (hd.heap_39 w.params).In h₀)
    (N : News h₀ L s.heap ((I, oI) :: (la, listOf lvs.toArray i) :: (sa, listOf svs.toArray i) :: (b, listOf #[.ref l, .int c tc] nb) :: (l, LCg.lst zs9) :: tl)) (T : Top hd.view_39 (looseW hd.view_39 [Str.ofString "SnobolError"]) mean mg mb h₀)
    (J : LawJ w la sa b c1 c2 o1 o2 i ds lvs svs rvs c ra nr tl) (hi : i < 5) (kr : m (Str.ofString "rows") = some (.ref ra)) (kl : m (Str.ofString "labels") = some (.ref la)) (ks : m (Str.ofString "statements") = some (.ref sa)) (kb : m (Str.ofString "box") = some (.ref b))
    (hI : IntsAre zs9 zs) (hz : zs.length ≤ 40) (a1 : @Ne Nat I la) (a2 : @Ne Nat I sa) (a3 : @Ne Nat I b) (a4 : @Ne Nat I l) (a5 : @Ne Nat la sa) (a6 : @Ne Nat la b) (a7 : @Ne Nat la l) (a8 : @Ne Nat sa b) (a9 : @Ne Nat sa l) (a10 : @Ne Nat b l) (aI : ∀ p ∈ tl, p.1 ≠ I)
    (hd : dp + 100 < recursionLimit) (hu : un + 1500 < cLine) :
    wpAny (model PySem.Challenge.rw_pq1123_01.row.prog w) (ktrTop dp un gd cn lawD.scope L a ccd [(Str.ofString "other", c2), (Str.ofString "one", c1)] []) (execs lawD.turn (envX cn lawD.scope L a ccd [(Str.ofString "other", c2), (Str.ofString "one", c1)]))
      (LawEnd w h₀ L I oI la sa b l c1 c2 o1 o2 nb zs9 (i + 1) m s) (fun _ _ => False) s := by
  have q2 := J.cl0
  have q4 := J.cl1
  have q3 : c ≤ 20 := by omega
  have e3 : ∀ p ∈ tl, p.1 ≠ b := fun p hp => (J.off p hp).2.2
  have kb2 : (fun y => if y = Str.ofString "at" then some (.int (0 + (i : Int)) t) else m y) (Str.ofString "box") = some (.ref b) := (if_neg (by decide +kernel)).trans kb
  have F2 := Fr.know F kb2
  clear F
  revert X
  k_fill
  intro X
  dsimp only [lawD.turn, lawD.scope]
  k_steps
  all_goals try
    refine Stop.on ?_
    (k_dflt (refine pick_lab (by k_asm) (by k_mem) (by with_reducible assumption) (by with_reducible assumption) ?_ (by with_unfolding_all rfl)); intro v9 lb9 hlb9; (have hh9 := LbV.handed hlb9))
    k_steps
  all_goals refine Stop.on ?_
  · refine law_turn2 _ _ _ _ _ _ _ _ _ _ _ _ _ _ _ _ _ _ _ _ _ _ _ _ _ _ _ _ _ _ _ _ _ _ _ _ _ _ _ _ _ _ B (Fr.swap (by k_asm) (know_eq kb2)) X (news_sub (by k_asm) (by intro p hp; tb_rel)) T J hi (by assumption) (fun h0 => by omega) (by omega) (by omega) kr kl ks kb hI hz a1 a2 a3 a4 a5 a6 a7 a8 a9 a10 aI hd hu
  · refine law_turn2 _ _ _ _ _ _ _ _ _ _ _ _ _ _ _ _ _ _ _ _ _ _ _ _ _ _ _ _ _ _ _ _ _ _ _ _ _ _ _ _ _ _ B (Fr.swap (by k_asm) (know_eq kb2)) X (by k_asm) T J hi .l1 (fun _ => rfl) (by omega) (by omega) kr kl ks kb hI hz a1 a2 a3 a4 a5 a6 a7 a8 a9 a10 aI hd hu

end

section
theorem law_iter (w : World) (mean : ExcName → Option Value) (mg mb : Str → Option Value) (dp un : Nat) (gd : Option (List Code)) (cn : Str) (a : Addr) (ccd : Value) (A₀ : Around) (h₀ : Heap) (L : Addr) (m : Str → Option Value)
    (la sa b l c1 c2 r ra0 : Addr) (o1 o2 : Obj) (nb n0 : Nat) (zs9 : List Value) (zs : List Int) (k : Int) (tc t₀ u₀ v₀ : Tok) (s : Shared) (Q : Flow → Shared → Prop)
    (B : Below A₀ h₀ [] h₀) (F : Fr h₀ L s.heap m) (X : (hd.heap_39 w.params).In h₀)
    (N : News h₀ L s.heap [(la, listOf #[] 0), (sa, listOf #[] 0), (b, listOf #[.ref l, .int 1 tc] nb), (l, LCg.lst zs9), (ra0, listOf #[] n0), (c2, o2), (c1, o1)]) (T : Top hd.view_39 (looseW hd.view_39 [Str.ofString "SnobolError"]) mean mg mb h₀)
    (hr : IsRange s.heap r 0 (2 + k) 1 t₀ u₀ v₀) (k0 : 0 ≤ k) (k1 : k < 4) (kr : m (Str.ofString "rows") = some (.ref ra0)) (kl : m (Str.ofString "labels") = some (.ref la)) (ks : m (Str.ofString "statements") = some (.ref sa)) (kb : m (Str.ofString "box") = some (.ref b))
    (hI : IntsAre zs9 zs) (hz : zs.length ≤ 40) (a5 : @Ne Nat la sa) (a6 : @Ne Nat la b) (a7 : @Ne Nat la l) (a8 : @Ne Nat sa b) (a9 : @Ne Nat sa l) (a10 : @Ne Nat b l) (g1 : @Ne Nat ra0 la) (g2 : @Ne Nat ra0 sa) (g3 : @Ne Nat ra0 b) (g4 : @Ne Nat c2 la) (g5 : @Ne Nat c2 sa) (g6 : @Ne Nat c2 b) (g7 : @Ne Nat c1 la) (g8 : @Ne Nat c1 sa) (g9 : @Ne Nat c1 b)
    (hd : dp + 100 < recursionLimit) (hu : un + 1500 < cLine)
    (done : ∀ (m' : Str → Option Value) (h' : Heap) (tk' : Nat) (i : Nat) (ds : List Row) (lvs svs rvs : List Value) (c : Int) (tc : Tok) (ra : Addr) (nr : Nat) (tl : List (Addr × Obj)), 2 ≤ i → i ≤ 5 → Fr h₀ L h' m' → FixOf turned m' m → m' (Str.ofString "rows") = some (.ref ra) →
      News h₀ L h' ((la, listOf (List.toArray lvs) i) :: (sa, listOf (List.toArray svs) i) :: (b, listOf #[.ref l, .int c tc] nb) :: (l, LCg.lst zs9) :: tl) → LawJ w la sa b c1 c2 o1 o2 i ds lvs svs rvs c ra nr tl → Q .next { s with heap := h', toks := tk' }) :
    wpAny (model PySem.Challenge.rw_pq1123_01.row.prog w) (ktrTop dp un gd cn lawD.scope L a ccd [(Str.ofString "other", c2), (Str.ofString "one", c1)] []) (pyIter (.ref r)) (fun it s₂ => LoopAtV PySem.Challenge.rw_pq1123_01.row.prog w (ktrTop dp un gd cn lawD.scope L a ccd [(Str.ofString "other", c2), (Str.ofString "one", c1)] []) h₀ (envX cn lawD.scope L a ccd [(Str.ofString "other", c2), (Str.ofString "one", c1)]) (Str.ofString "at") lawD.turn Q (fun _ _ => False) it s₂) (fun _ _ => False) s := by
  refine iter_rangeUnr (n := (2 + k).toNat) rfl hr (small_up (by omega) (by omega)) (size_up (by omega)) F N ?_
  intro I hlt
  have i1 : @Ne Nat I la := Nat.ne_of_gt (hlt _ (.head _))
  have i2 : @Ne Nat I sa := Nat.ne_of_gt (hlt _ (.tail _ (.head _)))
  have i3 : @Ne Nat I b := Nat.ne_of_gt (hlt _ (.tail _ (.tail _ (.head _))))
  have i4 : @Ne Nat I l := Nat.ne_of_gt (hlt _ (.tail _ (.tail _ (.tail _ (.head _)))))
  refine range_inv (fun i mm nw => FixOf turned mm m ∧ ∃ ds lvs svs rvs c tc ra nr tl, mm (Str.ofString "rows") = some (.ref ra) ∧ nw = ((la, listOf (List.toArray lvs) i) :: (sa, listOf (List.toArray svs) i) :: (b, listOf #[.ref l, .int c tc] nb) :: (l, LCg.lst zs9) :: tl) ∧ LawJ w la sa b c1 c2 o1 o2 i ds lvs svs rvs c ra nr tl ∧ ∀ p ∈ tl, p.1 ≠ I) ?turn ?fin
    ⟨FixOf.rfl', [], [], [], [], 1, tc, ra0, n0, [(ra0, listOf #[] n0), (c2, o2), (c1, o1)], kr, rfl, LawJ.zero (by decide) (by decide) (.head _) (.tail _ (.tail _ (.head _))) (.tail _ (.head _)) ?off, fun p hp => Nat.ne_of_lt (hlt p (.tail _ (.tail _ (.tail _ (.tail _ hp)))))⟩
  case off =>
    intro p hp
    rcases List.mem_cons.mp hp with rfl | hp
    · exact ⟨g1, g2, g3⟩
    rcases List.mem_cons.mp hp with rfl | hp
    · exact ⟨g4, g5, g6⟩
    rw [List.mem_singleton.mp hp]
    exact ⟨g7, g8, g9⟩
  case turn =>
    rintro i mm nw t h tk hi ⟨fx, ds, lvs, svs, rvs, c, tc1, ra, nr, tl, kr1, rfl, J, aI⟩ F1 N1
    have kl1 : mm (Str.ofString "labels") = some (.ref la) := (fx _ (by decide +kernel)).trans kl
    have ks1 : mm (Str.ofString "statements") = some (.ref sa) := (fx _ (by decide +kernel)).trans ks
    have kb1 : mm (Str.ofString "box") = some (.ref b) := (fx _ (by decide +kernel)).trans kb
    refine wpAny_mono (law_turn w mean mg mb dp un gd cn a ccd A₀ h₀ L mm la sa b l c1 c2 I o1 o2 _ nb zs9 zs i ds lvs svs rvs c tc1 t ra nr tl { s with heap := h, toks := tk } B F1 X N1 T J (by omega) kr1 kl1 ks1 kb1 hI hz i1 i2 i3 i4 a5 a6 a7 a8 a9 a10 aI hd hu) (fun f s₂ q => ?_) fun _ _ e => e
    obtain ⟨rfl, h', tk', m', ds', lvs', svs', rvs', c', tc', ra', nr', tl', e, F', fx', kr', N', aI', J'⟩ := q
    refine ⟨h', tk', m', _, e, F', N', ?_, fun z hz => (fx' z hz).trans (fx z hz), ds', lvs', svs', rvs', c', tc', ra', nr', tl', kr', rfl, J', aI'⟩
    intro p hp
    rcases List.mem_cons.mp hp with rfl | hp
    · exact i1.symm
    rcases List.mem_cons.mp hp with rfl | hp
    · exact i2.symm
    rcases List.mem_cons.mp hp with rfl | hp
    · exact i3.symm
    rcases List.mem_cons.mp hp with rfl | hp
    · exact i4.symm
    · exact aI' p hp
  case fin =>
    rintro mm nw h tk ⟨fx, ds, lvs, svs, rvs, c, tc1, ra, nr, tl, kr1, rfl, J, aI⟩ F1 N1
    exact done mm h tk _ ds lvs svs rvs c tc1 ra nr tl (by omega) (by omega) F1 fx kr1 N1 J
theorem law_done (w : World) (mean : ExcName → Option Value) (mg mb : Str → Option Value) (dp un : Nat) (gd : Option (List Code)) (cn : Str) (a : Addr) (ccd : Value) (A₀ : Around) (h₀ : Heap) (L : Addr) (m' : Str → Option Value)
    (la sa b l c1 c2 ra : Addr) (o1 o2 : Obj) (nb nr i : Nat) (zs9 : List Value) (zs : List Int) (ds : List Row) (lvs svs rvs : List Value) (c : Int) (tc : Tok) (tl : List (Addr × Obj)) (s : Shared) (Q : Flow → Shared → Prop)
    (B : Below A₀ h₀ [] h₀) (F1 : Fr h₀ L s.heap m') (kr : m' (Str.ofString "rows") = some (.ref ra)) (kl : m' (Str.ofString "labels") = some (.ref la)) (ks : m' (Str.ofString "statements") = some (.ref sa)) (kb : m' (Str.ofString "box") = some (.ref b)) (X : (hd.heap_39 w.params).In h₀)
    (N1 : News h₀ L s.heap ((la, listOf (List.toArray lvs) i) :: (sa, listOf (List.toArray svs) i) :: (b, listOf #[.ref l, .int c tc] nb) :: (l, LCg.lst zs9) :: tl)) (T : Top hd.view_39 (looseW hd.view_39 [Str.ofString "SnobolError"]) mean mg mb h₀)
    (J : LawJ w la sa b c1 c2 o1 o2 i ds lvs svs rvs c ra nr tl) (hi2 : 2 ≤ i) (hi5 : i ≤ 5) (hI : IntsAre zs9 zs) (hz : zs.length ≤ 40) (hbl : @Ne Nat b l) (hb1 : @Ne Nat b c1) (hb2 : @Ne Nat b c2) (h12 : @Ne Nat c2 c1) (hl1 : @Ne Nat l c1) (hl2 : @Ne Nat l c2) (d1 : o1.data = .cell none) (d2 : o2.data = .cell none)
    (hd : dp + 100 < recursionLimit) (hu : un + 1500 < cLine)
    (hret : ∀ m' h' tk', Fr h₀ L h' m' → Q (.ret (.bool true)) { s with heap := h', toks := tk' }) :
    wpAny (model PySem.Challenge.rw_pq1123_01.row.prog w) (ktrTop dp un gd cn lawD.scope L a ccd [(Str.ofString "other", c2), (Str.ofString "one", c1)] []) (execs (lawD.body.drop 3) (envX cn lawD.scope L a ccd [(Str.ofString "other", c2), (Str.ofString "one", c1)])) Q (fun _ _ => False) s := by
  refine law_B w mean mg mb dp un gd cn a ccd A₀ h₀ L m' c1 c2 o1 o2 b l nb c tc zs9 zs la sa ra i i nr lvs svs rvs ds tl s Q B
    (Fr.know (Fr.know (Fr.know (Fr.know F1 kr) ((if_neg (by decide +kernel)).trans ks)) ((if_neg (by decide +kernel)).trans ((if_neg (by decide +kernel)).trans kl))) ((if_neg (by decide +kernel)).trans ((if_neg (by decide +kernel)).trans ((if_neg (by decide +kernel)).trans kb)))) X (news_sub N1 ?_) T hI hbl hb1 hb2 h12 hl1 hl2 d1 d2 J.cl0 (by have := J.cl1; omega) hz J.lab J.sts J.rws (by have := J.rln; omega) J.line (by have := J.len; omega) (fun d hd => (J.ok d hd).1) (J.head (by omega)) (fun d hd => (J.ok d hd).2) hd hu hret
  exact List.forall_mem_cons.mpr ⟨.tail _ (.tail _ (.head _)), List.forall_mem_cons.mpr ⟨.tail _ (.tail _ (.tail _ (.head _))), List.forall_mem_cons.mpr ⟨.tail _ (.tail _ (.tail _ (.tail _ J.m2))), List.forall_mem_cons.mpr ⟨.tail _ (.tail _ (.tail _ (.tail _ J.m1))), List.forall_mem_cons.mpr ⟨.head _, List.forall_mem_cons.mpr ⟨.tail _ (.head _), List.forall_mem_cons.mpr ⟨.tail _ (.tail _ (.tail _ (.tail _ J.mr))), fun p hp => .tail _ (.tail _ (.tail _ (.tail _ hp)))⟩⟩⟩⟩⟩⟩⟩

end

section
local macro_rules | `(tactic| walk_at "exec For Name Call cons nil") => `(tactic| refine stop_here ?_)
local macro_rules | `(tactic| walk_at "pyIter ref") => `(tactic| refine stop_here ?_)
local macro_rules | `(tactic| walk_at "call type:range") => `(tactic| refine stop_here ?_)
theorem law_A (w : World) (mean : ExcName → Option Value) (mg mb : Str → Option Value) (dp un : Nat) (gd : Option (List Code)) (cn : Str) (a : Addr) (ccd : Value) (A₀ : Around) (h₀ : Heap) (L : Addr) (m : Str → Option Value)
    (c1 c2 : Addr) (o1 o2 : Obj) (sl : Addr) (vs : List Value) (ns : List Int) (s : Shared) (Q : Flow → Shared → Prop)
    (B : Below A₀ h₀ [] h₀) (F : Fr h₀ L s.heap (fun y => if y = Str.ofString "script" then some (.ref sl) else m y)) (X : (hd.heap_39 w.params).In h₀)
    (N : News h₀ L s.heap [(c2, o2), (c1, o1)]) (T : Top hd.view_39 (looseW hd.view_39 [Str.ofString "SnobolError"]) mean mg mb h₀)
    (hL : h₀.IsList sl vs.toArray) (hI : IntsAre vs ns) (hns : ns.length ≤ 63) (h12 : @Ne Nat c2 c1) (d1 : o1.data = .cell none) (d2 : o2.data = .cell none)
    (hd : dp + 100 < recursionLimit) (hu : un + 1500 < cLine)
    (hret : ∀ m' h' tk', Fr h₀ L h' m' → Q (.ret (.bool true)) { s with heap := h', toks := tk' }) :
    wpAny (model PySem.Challenge.rw_pq1123_01.row.prog w) (ktrTop dp un gd cn lawD.scope L a ccd [(Str.ofString "other", c2), (Str.ofString "one", c1)] []) (execs lawD.body (envX cn lawD.scope L a ccd [(Str.ofString "other", c2), (Str.ofString "one", c1)])) Q (fun _ _ => False) s := by
  revert X
  k_fill
  intro X
  dsimp only [lawD.body, lawD.scope]
  k_steps
  refine Stop.on ?_
  (rename Fr _ _ _ _ => lF'); (with_unfolding_all refine' For_invVF lF' ?fk1 ?fk2 ?_; (case fk1 => exact rfl); (case fk2 => exact rfl); k_whole)
  k_steps
  refine Stop.on ?_
  (rename Fr _ _ _ _ => F'); (rename News _ _ _ _ => N'); (with_unfolding_all refine range1_rows F' N' ?_); intro _ _ _ _ _ _ _ _ _
  k_steps
  refine Stop.on ?_
  refine' law_iter _ _ _ _ _ _ _ _ _ _ _ _ _ _ _ _ _ _ _ _ _ _ _ _ _ _ _ _ _ _ _ _ _ _ _ B ?F X ?N T ?hr ?k0 ?k1 ?kr ?kl ?ks ?kb ?hI ?hz ?a5 ?a6 ?a7 ?a8 ?a9 ?a10 ?g1 ?g2 ?g3 ?g4 ?g5 ?g6 ?g7 ?g8 ?g9 hd hu ?done
  case F => k_asm
  case hr => assumption
  case kl => with_unfolding_all rfl
  case ks => with_unfolding_all rfl
  case kb => with_unfolding_all rfl
  case kr => with_unfolding_all rfl
  case N => exact news_sub (by k_asm) (List.forall_mem_cons.mpr ⟨by k_mem, List.forall_mem_cons.mpr ⟨by k_mem, List.forall_mem_cons.mpr ⟨by k_mem, List.forall_mem_cons.mpr ⟨by k_mem, List.forall_mem_cons.mpr ⟨by k_mem, List.forall_mem_cons.mpr ⟨by k_mem, List.forall_mem_cons.mpr ⟨by k_mem, List.forall_mem_nil _⟩⟩⟩⟩⟩⟩⟩)
  case k0 => with_reducible assumption
  case k1 => with_reducible assumption
  case hI => assumption
  case hz => rw [List.length_map, List.length_take]; exact Nat.min_le_left _ _
  all_goals try k_ne
  intro m' h' tk' i ds lvs svs rvs c tc ra nr tl hi2 hi5 F1 fx kr1 N1 J
  have kl1 := fx (Str.ofString "labels") (by decide +kernel)
  have ks1 := fx (Str.ofString "statements") (by decide +kernel)
  have kb1 := fx (Str.ofString "box") (by decide +kernel)
  dsimp only
  have e1 := kl1.trans (by with_unfolding_all rfl : _ = some (Value.ref _))
  have e2 := ks1.trans (by with_unfolding_all rfl : _ = some (Value.ref _))
  have e3 := kb1.trans (by with_unfolding_all rfl : _ = some (Value.ref _))
  refine law_done w mean mg mb dp un gd cn a ccd A₀ h₀ L m' _ _ _ _ _ _ ra _ _ _ nr i _ _ ds lvs svs rvs c tc tl _ _ B F1 kr1 e1 e2 e3 X N1 T J hi2 hi5 (by assumption) (by rw [List.length_map, List.length_take]; exact Nat.min_le_left _ _) ?_ ?_ ?_ h12 ?_ ?_ d1 d2 hd hu hret
  all_goals k_ne

end

end
end Mine
set_option maxRecDepth 100000 in
set_option maxHeartbeats 8000000 in
theorem PySem.Challenge.cw_pq1123_01_holds : PySem.Challenge.rw_pq1123_01.Holds := by
  w_on
  refine holds_law (by decide +kernel) fun said => ?_
  refine holds_open (q := Mine.hd.view_39) (loose := [Str.ofString "SnobolError"]) (Xt := fun s => xlAt Mine.hd.view_39 [] s && recOk (RowW.records PySem.Challenge.rw_pq1123_01.row.toRowW) s) (XP := XL Mine.hd.view_39 []) (Yf := Hook.obs Mine.hd.hook) (Ya := Hook.val Mine.hd.hook) (YP := Hook.says Mine.hd.hook) (N := 3020) Mine.hd.left (Hook.of Mine.hd.hook) (Hook.keeps Mine.hd.hook) (fun s e => xl_of s (Bool.and_eq_true_iff.mp e).1) XL.keeps (by rfl) (by rfl) (by rfl) (fun s e => recFacts_of (Bool.and_eq_true_iff.mp e).2) (by rfl) (by first | assumption | decide +kernel) (by decide +kernel) ⟨rfl, rfl, rfl, rfl, rfl, by decide +kernel⟩ ?hw ?hc
  case hw => w_witness2
  case hc =>
    k_fill
    intro w s₀ s₁ mg mb G Y fa o pm cd doc dV kV ho hd hcd hD hmg hg args vals as hpre hlay hrd hwl hlo
    have KX := kIn_of Y
    refine Ground.open G ?_
    intro T B D TE TW
    obtain ⟨_, _, M⟩ := bmod_of_top T
    have TA := at_of_top T
    clear hmg
    wrow_args hpre hlay hrd hwl hlo
    first | refine callC_kw (enter_call ?_) | refine enter_call ?_ | refine callC_kw (enter_callW ?_) | refine enter_callW ?_
    w_top on
    try refine codeAny_mono ?_ (fun _ _ g => GoodW.toG g)
    w_call any ho hd hcd hD T F
    rename (Fr _ _ _ _) => F9
    rename (News _ _ _ _) => N9
    rename (Top _ _ _ _ _ _) => T9
    rename (Frag.In _ _) => X9
    rename (IntsAre _ _) => I9
    rename (Heap.IsList _ _ _) => L9
    refine wpAny_mono (Q := _) (E := fun _ _ => False) ?main (fun _ _ q => q) (fun _ _ q => q.elim)
    case main =>
      have F8 := Mine.Fr.know (x := Str.ofString "script") F9 (by with_unfolding_all rfl)
      refine' Mine.law_A _ _ _ _ _ _ _ _ _ _ _ _ _ _ _ _ _ _ _ _ _ _ _ (below_caller _) ?F ?X ?N ?T ?L ?I ?n63 ?h12 ?d1 ?d2 ?hd ?hu ?hr
      case F => exact F8
      case X => exact X9
      case T => exact T9
      case L => exact L9
      case I => exact I9
      case N => exact N9
      case n63 => omega
      case h12 => exact Nat.succ_ne_self _
      case d1 =>
        rename (Obj.data _ = Data.cell _) => dq
        exact dq.trans (by with_unfolding_all rfl)
      case d2 =>
        rename (Obj.data _ = Data.cell _) => dq
        clear dq
        rename (Obj.data _ = Data.cell _) => dr
        exact dr.trans (by with_unfolding_all rfl)
      case hd => decide +kernel
      case hu => decide +kernel
      case hr =>
        intro m9 h9 tk9 F9
        k_steps
