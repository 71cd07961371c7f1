import PyProof.Rows.All
import Wide.All
import OpenK.AllK
import Wide.FinOn
import Lean
import PySem.Challenge.RW_no0361_01
open PySem PySem.W PyProof.Rows PySem.Calls
set_option Elab.async false
set_option maxRecDepth 100000
set_option compiler.extract_closed false

namespace Mine
set_option maxHeartbeats 8000000
noncomputable abbrev hd.pw : Program := PySem.Challenge.pw_no0361_01
noncomputable def hd.at_ : List Stmt → Nat → Stmt
  | [], _ => .Pass ⟨0, 0, 0, 0⟩
  | s :: _, 0 => s
  | _ :: r, n + 1 => hd.at_ r n
noncomputable abbrev hd.bodyL : List Stmt := hd.pw.main.body
noncomputable def hd.cB : Stmt → List Stmt
  | .ClassDef _ _ _ b _ _ _ _ _ _ _ => b
  | _ => []
noncomputable def hd.fA : Stmt → Arguments
  | .FunctionDef _ a _ _ _ _ _ _ _ _ => a
  | _ => ⟨[], [], none, [], [], none, []⟩
noncomputable def hd.fB : Stmt → List Stmt
  | .FunctionDef _ _ b _ _ _ _ _ _ _ => b
  | _ => []
noncomputable def hd.fS : Stmt → Scope
  | .FunctionDef _ _ _ _ _ _ s _ _ _ => s
  | _ => default
noncomputable def hd.heap_39 : Params → Frag := (fun {n0 : Str} {a0 : Arguments} {b0 : List Stmt} {d0 : List PySem.Expr} {r0 : Option PySem.Expr} {t0 : List TypeParam} {s0 : Scope} {u0 : Option Scope} {v0 : Str} {p0 : Pos} {n2_0 : Str} {a2_0 : Arguments} {b2_0 : List Stmt} {d2_0 : List PySem.Expr} {r2_0 : Option PySem.Expr} {t2_0 : List TypeParam} {s2_0 : Scope} {u2_0 : Option Scope} {v2_0 : Str} {p2_0 : Pos} {n2_1 : Str} {a2_1 : Arguments} {b2_1 : List Stmt} {d2_1 : List PySem.Expr} {r2_1 : Option PySem.Expr} {t2_1 : List TypeParam} {s2_1 : Scope} {u2_1 : Option Scope} {v2_1 : Str} {p2_1 : Pos} {n7_0 : Str} {a7_0 : Arguments} {b7_0 : List Stmt} {d7_0 : List PySem.Expr} {r7_0 : Option PySem.Expr} {t7_0 : List TypeParam} {s7_0 : Scope} {u7_0 : Option Scope} {v7_0 : Str} {p7_0 : Pos} {n7_1 : Str} {a7_1 : Arguments} {b7_1 : List Stmt} {d7_1 : List PySem.Expr} {r7_1 : Option PySem.Expr} {t7_1 : List TypeParam} {s7_1 : Scope} {u7_1 : Option Scope} {v7_1 : Str} {p7_1 : Pos} {n7_2 : Str} {a7_2 : Arguments} {b7_2 : List Stmt} {d7_2 : List PySem.Expr} {r7_2 : Option PySem.Expr} {t7_2 : List TypeParam} {s7_2 : Scope} {u7_2 : Option Scope} {v7_2 : Str} {p7_2 : Pos} {n8 : Str} {a8 : Arguments} {b8 : List Stmt} {d8 : List PySem.Expr} {r8 : Option PySem.Expr} {t8 : List TypeParam} {s8 : Scope} {u8 : Option Scope} {v8 : Str} {p8 : Pos} {n9 : Str} {a9 : Arguments} {b9 : List Stmt} {d9 : List PySem.Expr} {r9 : Option PySem.Expr} {t9 : List TypeParam} {s9 : Scope} {u9 : Option Scope} {v9 : Str} {p9 : Pos} {n10 : Str} {a10 : Arguments} {b10 : List Stmt} {d10 : List PySem.Expr} {r10 : Option PySem.Expr} {t10 : List TypeParam} {s10 : Scope} {u10 : Option Scope} {v10 : Str} {p10 : Pos} {n11 : Str} {a11 : Arguments} {b11 : List Stmt} {d11 : List PySem.Expr} {r11 : Option PySem.Expr} {t11 : List TypeParam} {s11 : Scope} {u11 : Option Scope} {v11 : Str} {p11 : Pos} {n12 : Str} {a12 : Arguments} {b12 : List Stmt} {d12 : List PySem.Expr} {r12 : Option PySem.Expr} {t12 : List TypeParam} {s12 : Scope} {u12 : Option Scope} {v12 : Str} {p12 : Pos} {n13 : Str} {a13 : Arguments} {b13 : List Stmt} {d13 : List PySem.Expr} {r13 : Option PySem.Expr} {t13 : List TypeParam} {s13 : Scope} {u13 : Option Scope} {v13 : Str} {p13 : Pos} {n14 : Str} {a14 : Arguments} {b14 : List Stmt} {d14 : List PySem.Expr} {r14 : Option PySem.Expr} {t14 : List TypeParam} {s14 : Scope} {u14 : Option Scope} {v14 : Str} {p14 : Pos} {n15 : Str} {a15 : Arguments} {b15 : List Stmt} {d15 : List PySem.Expr} {r15 : Option PySem.Expr} {t15 : List TypeParam} {s15 : Scope} {u15 : Option Scope} {v15 : Str} {p15 : Pos} {n16 : Str} {a16 : Arguments} {b16 : List Stmt} {d16 : List PySem.Expr} {r16 : Option PySem.Expr} {t16 : List TypeParam} {s16 : Scope} {u16 : Option Scope} {v16 : Str} {p16 : Pos} {n17 : Str} {a17 : Arguments} {b17 : List Stmt} {d17 : List PySem.Expr} {r17 : Option PySem.Expr} {t17 : List TypeParam} {s17 : Scope} {u17 : Option Scope} {v17 : Str} {p17 : Pos} {n18 : Str} {a18 : Arguments} {b18 : List Stmt} {d18 : List PySem.Expr} {r18 : Option PySem.Expr} {t18 : List TypeParam} {s18 : Scope} {u18 : Option Scope} {v18 : Str} {p18 : Pos} {n19 : Str} {a19 : Arguments} {b19 : List Stmt} {d19 : List PySem.Expr} {r19 : Option PySem.Expr} {t19 : List TypeParam} {s19 : Scope} {u19 : Option Scope} {v19 : Str} {p19 : Pos} {n20 : Str} {a20 : Arguments} {b20 : List Stmt} {d20 : List PySem.Expr} {r20 : Option PySem.Expr} {t20 : List TypeParam} {s20 : Scope} {u20 : Option Scope} {v20 : Str} {p20 : Pos} {n22 : Str} {a22 : Arguments} {b22 : List Stmt} {d22 : List PySem.Expr} {r22 : Option PySem.Expr} {t22 : List TypeParam} {s22 : Scope} {u22 : Option Scope} {v22 : Str} {p22 : Pos} {n23 : Str} {a23 : Arguments} {b23 : List Stmt} {d23 : List PySem.Expr} {r23 : Option PySem.Expr} {t23 : List TypeParam} {s23 : Scope} {u23 : Option Scope} {v23 : Str} {p23 : Pos} {n24 : Str} {a24 : Arguments} {b24 : List Stmt} {d24 : List PySem.Expr} {r24 : Option PySem.Expr} {t24 : List TypeParam} {s24 : Scope} {u24 : Option Scope} {v24 : Str} {p24 : Pos} {n25 : Str} {a25 : Arguments} {b25 : List Stmt} {d25 : List PySem.Expr} {r25 : Option PySem.Expr} {t25 : List TypeParam} {s25 : Scope} {u25 : Option Scope} {v25 : Str} {p25 : Pos} {n26 : Str} {a26 : Arguments} {b26 : List Stmt} {d26 : List PySem.Expr} {r26 : Option PySem.Expr} {t26 : List TypeParam} {s26 : Scope} {u26 : Option Scope} {v26 : Str} {p26 : Pos} {n27 : Str} {a27 : Arguments} {b27 : List Stmt} {d27 : List PySem.Expr} {r27 : Option PySem.Expr} {t27 : List TypeParam} {s27 : Scope} {u27 : Option Scope} {v27 : Str} {p27 : Pos} (_ : hd.at_ hd.bodyL 0 = .FunctionDef n0 a0 b0 d0 r0 t0 s0 u0 v0 p0) (_ : hd.at_ (hd.cB (hd.at_ hd.bodyL 2)) 0 = .FunctionDef n2_0 a2_0 b2_0 d2_0 r2_0 t2_0 s2_0 u2_0 v2_0 p2_0) (_ : hd.at_ (hd.cB (hd.at_ hd.bodyL 2)) 1 = .FunctionDef n2_1 a2_1 b2_1 d2_1 r2_1 t2_1 s2_1 u2_1 v2_1 p2_1) (_ : hd.at_ (hd.cB (hd.at_ hd.bodyL 7)) 0 = .FunctionDef n7_0 a7_0 b7_0 d7_0 r7_0 t7_0 s7_0 u7_0 v7_0 p7_0) (_ : hd.at_ (hd.cB (hd.at_ hd.bodyL 7)) 1 = .FunctionDef n7_1 a7_1 b7_1 d7_1 r7_1 t7_1 s7_1 u7_1 v7_1 p7_1) (_ : hd.at_ (hd.cB (hd.at_ hd.bodyL 7)) 2 = .FunctionDef n7_2 a7_2 b7_2 d7_2 r7_2 t7_2 s7_2 u7_2 v7_2 p7_2) (_ : hd.at_ hd.bodyL 8 = .FunctionDef n8 a8 b8 d8 r8 t8 s8 u8 v8 p8) (_ : hd.at_ hd.bodyL 9 = .FunctionDef n9 a9 b9 d9 r9 t9 s9 u9 v9 p9) (_ : hd.at_ hd.bodyL 10 = .FunctionDef n10 a10 b10 d10 r10 t10 s10 u10 v10 p10) (_ : hd.at_ hd.bodyL 11 = .FunctionDef n11 a11 b11 d11 r11 t11 s11 u11 v11 p11) (_ : hd.at_ hd.bodyL 12 = .FunctionDef n12 a12 b12 d12 r12 t12 s12 u12 v12 p12) (_ : hd.at_ hd.bodyL 13 = .FunctionDef n13 a13 b13 d13 r13 t13 s13 u13 v13 p13) (_ : hd.at_ hd.bodyL 14 = .FunctionDef n14 a14 b14 d14 r14 t14 s14 u14 v14 p14) (_ : hd.at_ hd.bodyL 15 = .FunctionDef n15 a15 b15 d15 r15 t15 s15 u15 v15 p15) (_ : hd.at_ hd.bodyL 16 = .FunctionDef n16 a16 b16 d16 r16 t16 s16 u16 v16 p16) (_ : hd.at_ hd.bodyL 17 = .FunctionDef n17 a17 b17 d17 r17 t17 s17 u17 v17 p17) (_ : hd.at_ hd.bodyL 18 = .FunctionDef n18 a18 b18 d18 r18 t18 s18 u18 v18 p18) (_ : hd.at_ hd.bodyL 19 = .FunctionDef n19 a19 b19 d19 r19 t19 s19 u19 v19 p19) (_ : hd.at_ hd.bodyL 20 = .FunctionDef n20 a20 b20 d20 r20 t20 s20 u20 v20 p20) (_ : hd.at_ hd.bodyL 22 = .FunctionDef n22 a22 b22 d22 r22 t22 s22 u22 v22 p22) (_ : hd.at_ hd.bodyL 23 = .FunctionDef n23 a23 b23 d23 r23 t23 s23 u23 v23 p23) (_ : hd.at_ hd.bodyL 24 = .FunctionDef n24 a24 b24 d24 r24 t24 s24 u24 v24 p24) (_ : hd.at_ hd.bodyL 25 = .FunctionDef n25 a25 b25 d25 r25 t25 s25 u25 v25 p25) (_ : hd.at_ hd.bodyL 26 = .FunctionDef n26 a26 b26 d26 r26 t26 s26 u26 v26 p26) (_ : hd.at_ hd.bodyL 27 = .FunctionDef n27 a27 b27 d27 r27 t27 s27 u27 v27 p27) => fun P => (nat_lit 2, { cls := Value.none, data := Data.dict (List.cons { hash := PyData.keyHash P (Str.ofString "type.__subclasses__.Exception.0"), key := Value.str (Str.ofString "type.__subclasses__.Exception.0") 232, val := Value.int 46 0 } (List.cons { hash := PyData.keyHash P (Str.ofString "type.__subclasses__.Exception.n"), key := Value.str (Str.ofString "type.__subclasses__.Exception.n") 233, val := Value.int 1 0 } List.nil)).toArray 2 }) :: (nat_lit 3, { cls := Value.type "dict", data := Data.dict (List.cons { hash := PyData.keyHash P (Str.ofString "__name__"), key := Value.str (Str.ofString "__name__") 165, val := Value.str (Str.ofString "law_no0361_01") 435 } (List.cons { hash := PyData.keyHash P (Str.ofString "__doc__"), key := Value.str (Str.ofString "__doc__") 166, val := Value.none } (List.cons { hash := PyData.keyHash P (Str.ofString "__package__"), key := Value.str (Str.ofString "__package__") 167, val := Value.none } (List.cons { hash := PyData.keyHash P (Str.ofString "__loader__"), key := Value.str (Str.ofString "__loader__") 168, val := Value.builtin "__main__.__loader__#opaque" } (List.cons { hash := PyData.keyHash P (Str.ofString "__spec__"), key := Value.str (Str.ofString "__spec__") 169, val := Value.none } (List.cons { hash := PyData.keyHash P (Str.ofString "__annotations__"), key := Value.str (Str.ofString "__annotations__") 170, val := Value.ref 6 } (List.cons { hash := PyData.keyHash P (Str.ofString "__builtins__"), key := Value.str (Str.ofString "__builtins__") 171, val := Value.ref 4 } (List.cons { hash := PyData.keyHash P (Str.ofString "__file__"), key := Value.str (Str.ofString "__file__") 173, val := Value.str (Str.ofString "/claim/cut.py") 172 } (List.cons { hash := PyData.keyHash P (Str.ofString "__cached__"), key := Value.str (Str.ofString "__cached__") 174, val := Value.none } (List.cons { hash := PyData.keyHash P (Str.ofString "_wall"), key := Value.str (Str.ofString "_wall") 193, val := Value.ref 21 } (List.cons { hash := PyData.keyHash P (Str.ofString "PostError"), key := Value.str (Str.ofString "PostError") 235, val := Value.ref 46 } (List.cons { hash := PyData.keyHash P (Str.ofString "WordFault"), key := Value.str (Str.ofString "WordFault") 251, val := Value.ref 59 } (List.cons { hash := PyData.keyHash P (Str.ofString "CRLF"), key := Value.str (Str.ofString "CRLF") 253, val := Value.bytes (List.cons 13 (List.cons 10 List.nil)).toArray 252 } (List.cons { hash := PyData.keyHash P (Str.ofString "WHITE"), key := Value.str (Str.ofString "WHITE") 258, val := Value.ref 62 } (List.cons { hash := PyData.keyHash P (Str.ofString "Field"), key := Value.str (Str.ofString "Field") 303, val := Value.ref 93 } (List.cons { hash := PyData.keyHash P (Str.ofString "line_at"), key := Value.str (Str.ofString "line_at") 313, val := Value.ref 104 } (List.cons { hash := PyData.keyHash P (Str.ofString "is_name"), key := Value.str (Str.ofString "is_name") 321, val := Value.ref 111 } (List.cons { hash := PyData.keyHash P (Str.ofString "colon_in"), key := Value.str (Str.ofString "colon_in") 331, val := Value.ref 118 } (List.cons { hash := PyData.keyHash P (Str.ofString "read_spans"), key := Value.str (Str.ofString "read_spans") 349, val := Value.ref 126 } (List.cons { hash := PyData.keyHash P (Str.ofString "read_fields"), key := Value.str (Str.ofString "read_fields") 358, val := Value.ref 132 } (List.cons { hash := PyData.keyHash P (Str.ofString "rows_of"), key := Value.str (Str.ofString "rows_of") 369, val := Value.ref 139 } (List.cons { hash := PyData.keyHash P (Str.ofString "unfolded"), key := Value.str (Str.ofString "unfolded") 376, val := Value.ref 146 } (List.cons { hash := PyData.keyHash P (Str.ofString "pieces_of"), key := Value.str (Str.ofString "pieces_of") 386, val := Value.ref 153 } (List.cons { hash := PyData.keyHash P (Str.ofString "check_name"), key := Value.str (Str.ofString "check_name") 393, val := Value.ref 160 } (List.cons { hash := PyData.keyHash P (Str.ofString "folded"), key := Value.str (Str.ofString "folded") 409, val := Value.ref 168 } (List.cons { hash := PyData.keyHash P (Str.ofString "made_field"), key := Value.str (Str.ofString "made_field") 420, val := Value.ref 176 } (List.cons { hash := PyData.keyHash P (Str.ofString "is_sound"), key := Value.str (Str.ofString "is_sound") 428, val := Value.ref 183 } (List.cons { hash := PyData.keyHash P (Str.ofString "write_fields"), key := Value.str (Str.ofString "write_fields") 434, val := Value.ref 188 } (List.cons { hash := PyData.keyHash P (Str.ofString "_law_take"), key := Value.str (Str.ofString "_law_take") 445, val := Value.ref 195 } (List.cons { hash := PyData.keyHash P (Str.ofString "_law_words"), key := Value.str (Str.ofString "_law_words") 454, val := Value.ref 202 } (List.cons { hash := PyData.keyHash P (Str.ofString "_law_first"), key := Value.str (Str.ofString "_law_first") 460, val := Value.ref 207 } (List.cons { hash := PyData.keyHash P (Str.ofString "_law_refused"), key := Value.str (Str.ofString "_law_refused") 468, val := Value.ref 214 } (List.cons { hash := PyData.keyHash P (Str.ofString "_law_rows_right"), key := Value.str (Str.ofString "_law_rows_right") 480, val := Value.ref 221 } (List.cons { hash := PyData.keyHash P (Str.ofString "law"), key := Value.str (Str.ofString "law") 486, val := Value.ref 226 } List.nil)))))))))))))))))))))))))))))))))).toArray 34 }) :: (nat_lit 15, { cls := Value.type "tuple", data := Data.seq List.nil.toArray }) :: (nat_lit 17, { cls := Value.type "tuple", data := Data.seq (List.cons (Value.str (Str.ofString "k") 190) List.nil).toArray }) :: (nat_lit 18, { cls := Value.type "tuple", data := Data.seq List.nil.toArray }) :: (nat_lit 20, { cls := Value.type "code", data := Data.fields (List.cons (Value.str (Str.ofString "_wall") 187) (List.cons (Value.str (Str.ofString "_wall") 188) (List.cons (Value.str (Str.ofString "/claim/cut.py") 189) (List.cons (Value.int 1 0) (List.cons (Value.int 1 0) (List.cons (Value.int 0 0) (List.cons (Value.int 0 0) (List.cons (Value.int 3 0) (List.cons (Value.ref 15) (List.cons (Value.bool true) (List.cons (Value.int 181 0) (List.cons (Value.ref 16) (List.cons Value.none (List.cons (Value.ref 17) (List.cons (Value.ref 18) (List.cons (Value.ref 19) (List.cons (Value.int 191 0) (List.cons (Value.int 1 0) (List.cons (Value.str (Str.ofString "/claim/cut.py") 192) List.nil))))))))))))))))))).toArray }) :: (nat_lit 21, { cls := Value.type "function", data := Data.func { name := Str.ofString "_wall", qualname := Str.ofString "_wall", params := a0, body := FuncBody.stmts b0, scope := s0, globals := 3, closure := List.nil, defaults := Value.none, kwdefaults := Value.none, pyModule := Value.str (Str.ofString "__main__") 164, code := Value.ref 20 } }) :: (nat_lit 22, { cls := Value.type "tuple", data := Data.seq (List.cons (Value.type "Exception") List.nil).toArray }) :: (nat_lit 29, { cls := Value.type "tuple", data := Data.seq (List.cons (Value.int (-1) 209) List.nil).toArray }) :: (nat_lit 30, { cls := Value.type "tuple", data := Data.seq List.nil.toArray }) :: (nat_lit 32, { cls := Value.type "tuple", data := Data.seq (List.cons (Value.str (Str.ofString "self") 213) (List.cons (Value.str (Str.ofString "what") 214) (List.cons (Value.str (Str.ofString "at") 215) List.nil))).toArray }) :: (nat_lit 33, { cls := Value.type "tuple", data := Data.seq List.nil.toArray }) :: (nat_lit 35, { cls := Value.type "code", data := Data.fields (List.cons (Value.str (Str.ofString "__init__") 210) (List.cons (Value.str (Str.ofString "PostError.__init__") 211) (List.cons (Value.str (Str.ofString "/claim/cut.py") 212) (List.cons (Value.int 7 0) (List.cons (Value.int 3 0) (List.cons (Value.int 0 0) (List.cons (Value.int 0 0) (List.cons (Value.int 3 0) (List.cons (Value.ref 30) (List.cons (Value.bool true) (List.cons (Value.int 181 0) (List.cons (Value.ref 31) (List.cons Value.none (List.cons (Value.ref 32) (List.cons (Value.ref 33) (List.cons (Value.ref 34) (List.cons (Value.int 216 0) (List.cons (Value.int 7 0) (List.cons (Value.str (Str.ofString "/claim/cut.py") 217) List.nil))))))))))))))))))).toArray }) :: (nat_lit 36, { cls := Value.type "function", data := Data.func { name := Str.ofString "__init__", qualname := Str.ofString "PostError.__init__", params := a2_0, body := FuncBody.stmts b2_0, scope := s2_0, globals := 3, closure := List.nil, defaults := Value.ref 29, kwdefaults := Value.none, pyModule := Value.str (Str.ofString "postkeep.errors") 194, code := Value.ref 35 } }) :: (nat_lit 37, { cls := Value.type "tuple", data := Data.seq List.nil.toArray }) :: (nat_lit 39, { cls := Value.type "tuple", data := Data.seq (List.cons (Value.str (Str.ofString "self") 222) List.nil).toArray }) :: (nat_lit 40, { cls := Value.type "tuple", data := Data.seq List.nil.toArray }) :: (nat_lit 42, { cls := Value.type "code", data := Data.fields (List.cons (Value.str (Str.ofString "told") 219) (List.cons (Value.str (Str.ofString "PostError.told") 220) (List.cons (Value.str (Str.ofString "/claim/cut.py") 221) (List.cons (Value.int 12 0) (List.cons (Value.int 1 0) (List.cons (Value.int 0 0) (List.cons (Value.int 0 0) (List.cons (Value.int 3 0) (List.cons (Value.ref 37) (List.cons (Value.bool true) (List.cons (Value.int 181 0) (List.cons (Value.ref 38) (List.cons Value.none (List.cons (Value.ref 39) (List.cons (Value.ref 40) (List.cons (Value.ref 41) (List.cons (Value.int 223 0) (List.cons (Value.int 12 0) (List.cons (Value.str (Str.ofString "/claim/cut.py") 224) List.nil))))))))))))))))))).toArray }) :: (nat_lit 43, { cls := Value.type "function", data := Data.func { name := Str.ofString "told", qualname := Str.ofString "PostError.told", params := a2_1, body := FuncBody.stmts b2_1, scope := s2_1, globals := 3, closure := List.nil, defaults := Value.none, kwdefaults := Value.none, pyModule := Value.str (Str.ofString "postkeep.errors") 194, code := Value.ref 42 } }) :: (nat_lit 44, { cls := Value.type "tuple", data := Data.seq (List.cons (Value.str (Str.ofString "at") 226) (List.cons (Value.str (Str.ofString "what") 227) List.nil)).toArray }) :: (nat_lit 45, { cls := Value.type "dict", data := Data.dict (List.cons { hash := PyData.keyHash P (Str.ofString "__module__"), key := Value.str (Str.ofString "__module__") 203, val := Value.str (Str.ofString "postkeep.errors") 194 } (List.cons { hash := PyData.keyHash P (Str.ofString "__firstlineno__"), key := Value.str (Str.ofString "__firstlineno__") 207, val := Value.int 5 206 } (List.cons { hash := PyData.keyHash P (Str.ofString "__init__"), key := Value.str (Str.ofString "__init__") 218, val := Value.ref 36 } (List.cons { hash := PyData.keyHash P (Str.ofString "told"), key := Value.str (Str.ofString "told") 225, val := Value.ref 43 } (List.cons { hash := PyData.keyHash P (Str.ofString "__static_attributes__"), key := Value.str (Str.ofString "__static_attributes__") 228, val := Value.ref 44 } (List.cons { hash := PyData.keyHash P (Str.ofString "__weakref__"), key := Value.str (Str.ofString "__weakref__") 230, val := Value.ref 47 } (List.cons { hash := PyData.keyHash P (Str.ofString "__doc__"), key := Value.str (Str.ofString "__doc__") 231, val := Value.none } List.nil))))))).toArray 3 }) :: (nat_lit 46, { cls := Value.type "type", data := Data.cls { name := Str.ofString "PostError", bases := List.cons (Value.type "Exception") List.nil, mro := List.cons (Value.ref 46) (List.cons (Value.type "Exception") (List.cons (Value.type "BaseException") (List.cons (Value.type "object") List.nil))), ns := 45, qualname := Str.ofString "PostError", subclasses := List.cons (Value.ref 59) List.nil }, slots := (List.cons (some (Value.ref 22)) (List.cons none (List.cons (some (Value.str (Str.ofString "PostError") 196)) (List.cons (some (Value.str (Str.ofString "PostError") 204)) (List.cons (some (Value.builtin "Exception.__new__")) (List.cons (some (Value.bool true)) List.nil)))))).toArray }) :: (nat_lit 47, { cls := Value.type "getset_descriptor", data := Data.fields (List.cons (Value.str (Str.ofString "__weakref__") 229) (List.cons (Value.ref 46) (List.cons (Value.builtin "ExceptionGroup.__weakref__") (List.cons Value.none List.nil)))).toArray }) :: (nat_lit 50, { cls := Value.type "tuple", data := Data.seq (List.cons (Value.ref 46) List.nil).toArray }) :: (nat_lit 57, { cls := Value.type "tuple", data := Data.seq List.nil.toArray }) :: (nat_lit 58, { cls := Value.type "dict", data := Data.dict (List.cons { hash := PyData.keyHash P (Str.ofString "__module__"), key := Value.str (Str.ofString "__module__") 243, val := Value.str (Str.ofString "postkeep.errors") 194 } (List.cons { hash := PyData.keyHash P (Str.ofString "__firstlineno__"), key := Value.str (Str.ofString "__firstlineno__") 247, val := Value.int 14 246 } (List.cons { hash := PyData.keyHash P (Str.ofString "__static_attributes__"), key := Value.str (Str.ofString "__static_attributes__") 248, val := Value.ref 57 } (List.cons { hash := PyData.keyHash P (Str.ofString "__doc__"), key := Value.str (Str.ofString "__doc__") 249, val := Value.none } List.nil)))).toArray 2 }) :: (nat_lit 59, { cls := Value.type "type", data := Data.cls { name := Str.ofString "WordFault", bases := List.cons (Value.ref 46) List.nil, mro := List.cons (Value.ref 59) (List.cons (Value.ref 46) (List.cons (Value.type "Exception") (List.cons (Value.type "BaseException") (List.cons (Value.type "object") List.nil)))), ns := 58, qualname := Str.ofString "WordFault" }, slots := (List.cons (some (Value.ref 50)) (List.cons none (List.cons (some (Value.str (Str.ofString "WordFault") 236)) (List.cons (some (Value.str (Str.ofString "WordFault") 244)) (List.cons (some (Value.builtin "Exception.__new__")) (List.cons (some (Value.bool true)) List.nil)))))).toArray }) :: (nat_lit 62, { cls := Value.type "tuple", data := Data.seq (List.cons (Value.int 32 256) (List.cons (Value.int 9 257) List.nil)).toArray }) :: (nat_lit 70, { cls := Value.type "tuple", data := Data.seq List.nil.toArray }) :: (nat_lit 72, { cls := Value.type "tuple", data := Data.seq (List.cons (Value.str (Str.ofString "self") 274) (List.cons (Value.str (Str.ofString "name") 275) (List.cons (Value.str (Str.ofString "raw") 276) List.nil))).toArray }) :: (nat_lit 73, { cls := Value.type "tuple", data := Data.seq List.nil.toArray }) :: (nat_lit 75, { cls := Value.type "code", data := Data.fields (List.cons (Value.str (Str.ofString "__init__") 271) (List.cons (Value.str (Str.ofString "Field.__init__") 272) (List.cons (Value.str (Str.ofString "/claim/cut.py") 273) (List.cons (Value.int 21 0) (List.cons (Value.int 3 0) (List.cons (Value.int 0 0) (List.cons (Value.int 0 0) (List.cons (Value.int 3 0) (List.cons (Value.ref 70) (List.cons (Value.bool true) (List.cons (Value.int 181 0) (List.cons (Value.ref 71) (List.cons Value.none (List.cons (Value.ref 72) (List.cons (Value.ref 73) (List.cons (Value.ref 74) (List.cons (Value.int 277 0) (List.cons (Value.int 21 0) (List.cons (Value.str (Str.ofString "/claim/cut.py") 278) List.nil))))))))))))))))))).toArray }) :: (nat_lit 76, { cls := Value.type "function", data := Data.func { name := Str.ofString "__init__", qualname := Str.ofString "Field.__init__", params := a7_0, body := FuncBody.stmts b7_0, scope := s7_0, globals := 3, closure := List.nil, defaults := Value.none, kwdefaults := Value.none, pyModule := Value.str (Str.ofString "postkeep.headers") 254, code := Value.ref 75 } }) :: (nat_lit 77, { cls := Value.type "tuple", data := Data.seq List.nil.toArray }) :: (nat_lit 79, { cls := Value.type "tuple", data := Data.seq (List.cons (Value.str (Str.ofString "self") 283) List.nil).toArray }) :: (nat_lit 80, { cls := Value.type "tuple", data := Data.seq List.nil.toArray }) :: (nat_lit 82, { cls := Value.type "code", data := Data.fields (List.cons (Value.str (Str.ofString "word") 280) (List.cons (Value.str (Str.ofString "Field.word") 281) (List.cons (Value.str (Str.ofString "/claim/cut.py") 282) (List.cons (Value.int 25 0) (List.cons (Value.int 1 0) (List.cons (Value.int 0 0) (List.cons (Value.int 0 0) (List.cons (Value.int 3 0) (List.cons (Value.ref 77) (List.cons (Value.bool true) (List.cons (Value.int 181 0) (List.cons (Value.ref 78) (List.cons Value.none (List.cons (Value.ref 79) (List.cons (Value.ref 80) (List.cons (Value.ref 81) (List.cons (Value.int 284 0) (List.cons (Value.int 25 0) (List.cons (Value.str (Str.ofString "/claim/cut.py") 285) List.nil))))))))))))))))))).toArray }) :: (nat_lit 83, { cls := Value.type "function", data := Data.func { name := Str.ofString "word", qualname := Str.ofString "Field.word", params := a7_1, body := FuncBody.stmts b7_1, scope := s7_1, globals := 3, closure := List.nil, defaults := Value.none, kwdefaults := Value.none, pyModule := Value.str (Str.ofString "postkeep.headers") 254, code := Value.ref 82 } }) :: (nat_lit 84, { cls := Value.type "tuple", data := Data.seq List.nil.toArray }) :: (nat_lit 86, { cls := Value.type "tuple", data := Data.seq (List.cons (Value.str (Str.ofString "self") 290) List.nil).toArray }) :: (nat_lit 87, { cls := Value.type "tuple", data := Data.seq List.nil.toArray }) :: (nat_lit 89, { cls := Value.type "code", data := Data.fields (List.cons (Value.str (Str.ofString "told") 287) (List.cons (Value.str (Str.ofString "Field.told") 288) (List.cons (Value.str (Str.ofString "/claim/cut.py") 289) (List.cons (Value.int 28 0) (List.cons (Value.int 1 0) (List.cons (Value.int 0 0) (List.cons (Value.int 0 0) (List.cons (Value.int 3 0) (List.cons (Value.ref 84) (List.cons (Value.bool true) (List.cons (Value.int 181 0) (List.cons (Value.ref 85) (List.cons Value.none (List.cons (Value.ref 86) (List.cons (Value.ref 87) (List.cons (Value.ref 88) (List.cons (Value.int 291 0) (List.cons (Value.int 28 0) (List.cons (Value.str (Str.ofString "/claim/cut.py") 292) List.nil))))))))))))))))))).toArray }) :: (nat_lit 90, { cls := Value.type "function", data := Data.func { name := Str.ofString "told", qualname := Str.ofString "Field.told", params := a7_2, body := FuncBody.stmts b7_2, scope := s2_1, globals := 3, closure := List.nil, defaults := Value.none, kwdefaults := Value.none, pyModule := Value.str (Str.ofString "postkeep.headers") 254, code := Value.ref 89 } }) :: (nat_lit 91, { cls := Value.type "tuple", data := Data.seq (List.cons (Value.str (Str.ofString "name") 294) (List.cons (Value.str (Str.ofString "raw") 295) List.nil)).toArray }) :: (nat_lit 92, { cls := Value.type "dict", data := Data.dict (List.cons { hash := PyData.keyHash P (Str.ofString "__module__"), key := Value.str (Str.ofString "__module__") 266, val := Value.str (Str.ofString "postkeep.headers") 254 } (List.cons { hash := PyData.keyHash P (Str.ofString "__firstlineno__"), key := Value.str (Str.ofString "__firstlineno__") 270, val := Value.int 19 269 } (List.cons { hash := PyData.keyHash P (Str.ofString "__init__"), key := Value.str (Str.ofString "__init__") 279, val := Value.ref 76 } (List.cons { hash := PyData.keyHash P (Str.ofString "word"), key := Value.str (Str.ofString "word") 286, val := Value.ref 83 } (List.cons { hash := PyData.keyHash P (Str.ofString "told"), key := Value.str (Str.ofString "told") 293, val := Value.ref 90 } (List.cons { hash := PyData.keyHash P (Str.ofString "__static_attributes__"), key := Value.str (Str.ofString "__static_attributes__") 296, val := Value.ref 91 } (List.cons { hash := PyData.keyHash P (Str.ofString "__dict__"), key := Value.str (Str.ofString "__dict__") 298, val := Value.ref 94 } (List.cons { hash := PyData.keyHash P (Str.ofString "__weakref__"), key := Value.str (Str.ofString "__weakref__") 300, val := Value.ref 95 } (List.cons { hash := PyData.keyHash P (Str.ofString "__doc__"), key := Value.str (Str.ofString "__doc__") 301, val := Value.none } List.nil))))))))).toArray 4 }) :: (nat_lit 93, { cls := Value.type "type", data := Data.cls { name := Str.ofString "Field", bases := List.cons (Value.type "object") List.nil, mro := List.cons (Value.ref 93) (List.cons (Value.type "object") List.nil), ns := 92, qualname := Str.ofString "Field" }, slots := (List.cons none (List.cons none (List.cons (some (Value.str (Str.ofString "Field") 259)) (List.cons (some (Value.str (Str.ofString "Field") 267)) (List.cons (some (Value.builtin "object.__new__")) (List.cons (some (Value.bool true)) List.nil)))))).toArray }) :: (nat_lit 94, { cls := Value.type "getset_descriptor", data := Data.fields (List.cons (Value.str (Str.ofString "__dict__") 297) (List.cons (Value.ref 93) (List.cons (Value.builtin "function.__dict__") (List.cons (Value.builtin "function.__dict__#set") List.nil)))).toArray }) :: (nat_lit 95, { cls := Value.type "getset_descriptor", data := Data.fields (List.cons (Value.str (Str.ofString "__weakref__") 299) (List.cons (Value.ref 93) (List.cons (Value.builtin "ExceptionGroup.__weakref__") (List.cons Value.none List.nil)))).toArray }) :: (nat_lit 98, { cls := Value.type "tuple", data := Data.seq List.nil.toArray }) :: (nat_lit 100, { cls := Value.type "tuple", data := Data.seq (List.cons (Value.str (Str.ofString "data") 307) (List.cons (Value.str (Str.ofString "at") 308) (List.cons (Value.str (Str.ofString "end") 309) (List.cons (Value.str (Str.ofString "spot") 310) List.nil)))).toArray }) :: (nat_lit 101, { cls := Value.type "tuple", data := Data.seq List.nil.toArray }) :: (nat_lit 103, { cls := Value.type "code", data := Data.fields (List.cons (Value.str (Str.ofString "line_at") 304) (List.cons (Value.str (Str.ofString "line_at") 305) (List.cons (Value.str (Str.ofString "/claim/cut.py") 306) (List.cons (Value.int 30 0) (List.cons (Value.int 3 0) (List.cons (Value.int 0 0) (List.cons (Value.int 0 0) (List.cons (Value.int 3 0) (List.cons (Value.ref 98) (List.cons (Value.bool true) (List.cons (Value.int 181 0) (List.cons (Value.ref 99) (List.cons Value.none (List.cons (Value.ref 100) (List.cons (Value.ref 101) (List.cons (Value.ref 102) (List.cons (Value.int 311 0) (List.cons (Value.int 30 0) (List.cons (Value.str (Str.ofString "/claim/cut.py") 312) List.nil))))))))))))))))))).toArray }) :: (nat_lit 104, { cls := Value.type "function", data := Data.func { name := Str.ofString "line_at", qualname := Str.ofString "line_at", params := a8, body := FuncBody.stmts b8, scope := s8, globals := 3, closure := List.nil, defaults := Value.none, kwdefaults := Value.none, pyModule := Value.str (Str.ofString "postkeep.headers") 254, code := Value.ref 103 } }) :: (nat_lit 105, { cls := Value.type "tuple", data := Data.seq List.nil.toArray }) :: (nat_lit 107, { cls := Value.type "tuple", data := Data.seq (List.cons (Value.str (Str.ofString "octets") 317) (List.cons (Value.str (Str.ofString "code") 318) List.nil)).toArray }) :: (nat_lit 108, { cls := Value.type "tuple", data := Data.seq List.nil.toArray }) :: (nat_lit 110, { cls := Value.type "code", data := Data.fields (List.cons (Value.str (Str.ofString "is_name") 314) (List.cons (Value.str (Str.ofString "is_name") 315) (List.cons (Value.str (Str.ofString "/claim/cut.py") 316) (List.cons (Value.int 37 0) (List.cons (Value.int 1 0) (List.cons (Value.int 0 0) (List.cons (Value.int 0 0) (List.cons (Value.int 3 0) (List.cons (Value.ref 105) (List.cons (Value.bool true) (List.cons (Value.int 181 0) (List.cons (Value.ref 106) (List.cons Value.none (List.cons (Value.ref 107) (List.cons (Value.ref 108) (List.cons (Value.ref 109) (List.cons (Value.int 319 0) (List.cons (Value.int 37 0) (List.cons (Value.str (Str.ofString "/claim/cut.py") 320) List.nil))))))))))))))))))).toArray }) :: (nat_lit 111, { cls := Value.type "function", data := Data.func { name := Str.ofString "is_name", qualname := Str.ofString "is_name", params := a9, body := FuncBody.stmts b9, scope := s9, globals := 3, closure := List.nil, defaults := Value.none, kwdefaults := Value.none, pyModule := Value.str (Str.ofString "postkeep.headers") 254, code := Value.ref 110 } }) :: (nat_lit 112, { cls := Value.type "tuple", data := Data.seq List.nil.toArray }) :: (nat_lit 114, { cls := Value.type "tuple", data := Data.seq (List.cons (Value.str (Str.ofString "data") 325) (List.cons (Value.str (Str.ofString "at") 326) (List.cons (Value.str (Str.ofString "end") 327) (List.cons (Value.str (Str.ofString "spot") 328) List.nil)))).toArray }) :: (nat_lit 115, { cls := Value.type "tuple", data := Data.seq List.nil.toArray }) :: (nat_lit 117, { cls := Value.type "code", data := Data.fields (List.cons (Value.str (Str.ofString "colon_in") 322) (List.cons (Value.str (Str.ofString "colon_in") 323) (List.cons (Value.str (Str.ofString "/claim/cut.py") 324) (List.cons (Value.int 42 0) (List.cons (Value.int 3 0) (List.cons (Value.int 0 0) (List.cons (Value.int 0 0) (List.cons (Value.int 3 0) (List.cons (Value.ref 112) (List.cons (Value.bool true) (List.cons (Value.int 181 0) (List.cons (Value.ref 113) (List.cons Value.none (List.cons (Value.ref 114) (List.cons (Value.ref 115) (List.cons (Value.ref 116) (List.cons (Value.int 329 0) (List.cons (Value.int 42 0) (List.cons (Value.str (Str.ofString "/claim/cut.py") 330) List.nil))))))))))))))))))).toArray }) :: (nat_lit 118, { cls := Value.type "function", data := Data.func { name := Str.ofString "colon_in", qualname := Str.ofString "colon_in", params := a10, body := FuncBody.stmts b10, scope := s10, globals := 3, closure := List.nil, defaults := Value.none, kwdefaults := Value.none, pyModule := Value.str (Str.ofString "postkeep.headers") 254, code := Value.ref 117 } }) :: (nat_lit 119, { cls := Value.type "tuple", data := Data.seq (List.cons (Value.int 0 332) (List.cons (Value.int (-1) 334) List.nil)).toArray }) :: (nat_lit 120, { cls := Value.type "tuple", data := Data.seq List.nil.toArray }) :: (nat_lit 122, { cls := Value.type "tuple", data := Data.seq (List.cons (Value.str (Str.ofString "data") 338) (List.cons (Value.str (Str.ofString "at") 339) (List.cons (Value.str (Str.ofString "end") 340) (List.cons (Value.str (Str.ofString "stop") 341) (List.cons (Value.str (Str.ofString "rows") 342) (List.cons (Value.str (Str.ofString "here") 343) (List.cons (Value.str (Str.ofString "last") 344) (List.cons (Value.str (Str.ofString "later") 345) (List.cons (Value.str (Str.ofString "colon") 346) List.nil))))))))).toArray }) :: (nat_lit 123, { cls := Value.type "tuple", data := Data.seq List.nil.toArray }) :: (nat_lit 125, { cls := Value.type "code", data := Data.fields (List.cons (Value.str (Str.ofString "read_spans") 335) (List.cons (Value.str (Str.ofString "read_spans") 336) (List.cons (Value.str (Str.ofString "/claim/cut.py") 337) (List.cons (Value.int 45 0) (List.cons (Value.int 3 0) (List.cons (Value.int 0 0) (List.cons (Value.int 0 0) (List.cons (Value.int 3 0) (List.cons (Value.ref 120) (List.cons (Value.bool true) (List.cons (Value.int 181 0) (List.cons (Value.ref 121) (List.cons Value.none (List.cons (Value.ref 122) (List.cons (Value.ref 123) (List.cons (Value.ref 124) (List.cons (Value.int 347 0) (List.cons (Value.int 45 0) (List.cons (Value.str (Str.ofString "/claim/cut.py") 348) List.nil))))))))))))))))))).toArray }) :: (nat_lit 126, { cls := Value.type "function", data := Data.func { name := Str.ofString "read_spans", qualname := Str.ofString "read_spans", params := a11, body := FuncBody.stmts b11, scope := s11, globals := 3, closure := List.nil, defaults := Value.ref 119, kwdefaults := Value.none, pyModule := Value.str (Str.ofString "postkeep.headers") 254, code := Value.ref 125 } }) :: (nat_lit 127, { cls := Value.type "tuple", data := Data.seq (List.cons (Value.int 0 350) (List.cons (Value.int (-1) 352) List.nil)).toArray }) :: (nat_lit 128, { cls := Value.type "tuple", data := Data.seq List.nil.toArray }) :: (nat_lit 131, { cls := Value.type "code", data := Data.fields (List.cons (Value.str (Str.ofString "read_fields") 353) (List.cons (Value.str (Str.ofString "read_fields") 354) (List.cons (Value.str (Str.ofString "/claim/cut.py") 355) (List.cons (Value.int 61 0) (List.cons (Value.int 3 0) (List.cons (Value.int 0 0) (List.cons (Value.int 0 0) (List.cons (Value.int 3 0) (List.cons (Value.ref 128) (List.cons (Value.bool true) (List.cons (Value.int 181 0) (List.cons (Value.ref 129) (List.cons Value.none (List.cons Value.none (List.cons Value.none (List.cons (Value.ref 130) (List.cons (Value.int 356 0) (List.cons (Value.int 61 0) (List.cons (Value.str (Str.ofString "/claim/cut.py") 357) List.nil))))))))))))))))))).toArray }) :: (nat_lit 132, { cls := Value.type "function", data := Data.func { name := Str.ofString "read_fields", qualname := Str.ofString "read_fields", params := a12, body := FuncBody.stmts b12, scope := s12, globals := 3, closure := List.nil, defaults := Value.ref 127, kwdefaults := Value.none, pyModule := Value.str (Str.ofString "postkeep.headers") 254, code := Value.ref 131 } }) :: (nat_lit 133, { cls := Value.type "tuple", data := Data.seq List.nil.toArray }) :: (nat_lit 135, { cls := Value.type "tuple", data := Data.seq (List.cons (Value.str (Str.ofString "raw") 362) (List.cons (Value.str (Str.ofString "rows") 363) (List.cons (Value.str (Str.ofString "at") 364) (List.cons (Value.str (Str.ofString "last") 365) (List.cons (Value.str (Str.ofString "later") 366) List.nil))))).toArray }) :: (nat_lit 136, { cls := Value.type "tuple", data := Data.seq List.nil.toArray }) :: (nat_lit 138, { cls := Value.type "code", data := Data.fields (List.cons (Value.str (Str.ofString "rows_of") 359) (List.cons (Value.str (Str.ofString "rows_of") 360) (List.cons (Value.str (Str.ofString "/claim/cut.py") 361) (List.cons (Value.int 64 0) (List.cons (Value.int 1 0) (List.cons (Value.int 0 0) (List.cons (Value.int 0 0) (List.cons (Value.int 3 0) (List.cons (Value.ref 133) (List.cons (Value.bool true) (List.cons (Value.int 181 0) (List.cons (Value.ref 134) (List.cons Value.none (List.cons (Value.ref 135) (List.cons (Value.ref 136) (List.cons (Value.ref 137) (List.cons (Value.int 367 0) (List.cons (Value.int 64 0) (List.cons (Value.str (Str.ofString "/claim/cut.py") 368) List.nil))))))))))))))))))).toArray }) :: (nat_lit 139, { cls := Value.type "function", data := Data.func { name := Str.ofString "rows_of", qualname := Str.ofString "rows_of", params := a13, body := FuncBody.stmts b13, scope := s13, globals := 3, closure := List.nil, defaults := Value.none, kwdefaults := Value.none, pyModule := Value.str (Str.ofString "postkeep.headers") 254, code := Value.ref 138 } }) :: (nat_lit 140, { cls := Value.type "tuple", data := Data.seq List.nil.toArray }) :: (nat_lit 142, { cls := Value.type "tuple", data := Data.seq (List.cons (Value.str (Str.ofString "raw") 373) List.nil).toArray }) :: (nat_lit 143, { cls := Value.type "tuple", data := Data.seq List.nil.toArray }) :: (nat_lit 145, { cls := Value.type "code", data := Data.fields (List.cons (Value.str (Str.ofString "unfolded") 370) (List.cons (Value.str (Str.ofString "unfolded") 371) (List.cons (Value.str (Str.ofString "/claim/cut.py") 372) (List.cons (Value.int 73 0) (List.cons (Value.int 1 0) (List.cons (Value.int 0 0) (List.cons (Value.int 0 0) (List.cons (Value.int 3 0) (List.cons (Value.ref 140) (List.cons (Value.bool true) (List.cons (Value.int 181 0) (List.cons (Value.ref 141) (List.cons Value.none (List.cons (Value.ref 142) (List.cons (Value.ref 143) (List.cons (Value.ref 144) (List.cons (Value.int 374 0) (List.cons (Value.int 73 0) (List.cons (Value.str (Str.ofString "/claim/cut.py") 375) List.nil))))))))))))))))))).toArray }) :: (nat_lit 146, { cls := Value.type "function", data := Data.func { name := Str.ofString "unfolded", qualname := Str.ofString "unfolded", params := a14, body := FuncBody.stmts b14, scope := s14, globals := 3, closure := List.nil, defaults := Value.none, kwdefaults := Value.none, pyModule := Value.str (Str.ofString "postkeep.headers") 254, code := Value.ref 145 } }) :: (nat_lit 147, { cls := Value.type "tuple", data := Data.seq List.nil.toArray }) :: (nat_lit 149, { cls := Value.type "tuple", data := Data.seq (List.cons (Value.str (Str.ofString "body") 380) (List.cons (Value.str (Str.ofString "pieces") 381) (List.cons (Value.str (Str.ofString "at") 382) (List.cons (Value.str (Str.ofString "begun") 383) List.nil)))).toArray }) :: (nat_lit 150, { cls := Value.type "tuple", data := Data.seq List.nil.toArray }) :: (nat_lit 152, { cls := Value.type "code", data := Data.fields (List.cons (Value.str (Str.ofString "pieces_of") 377) (List.cons (Value.str (Str.ofString "pieces_of") 378) (List.cons (Value.str (Str.ofString "/claim/cut.py") 379) (List.cons (Value.int 75 0) (List.cons (Value.int 1 0) (List.cons (Value.int 0 0) (List.cons (Value.int 0 0) (List.cons (Value.int 3 0) (List.cons (Value.ref 147) (List.cons (Value.bool true) (List.cons (Value.int 181 0) (List.cons (Value.ref 148) (List.cons Value.none (List.cons (Value.ref 149) (List.cons (Value.ref 150) (List.cons (Value.ref 151) (List.cons (Value.int 384 0) (List.cons (Value.int 75 0) (List.cons (Value.str (Str.ofString "/claim/cut.py") 385) List.nil))))))))))))))))))).toArray }) :: (nat_lit 153, { cls := Value.type "function", data := Data.func { name := Str.ofString "pieces_of", qualname := Str.ofString "pieces_of", params := a15, body := FuncBody.stmts b15, scope := s15, globals := 3, closure := List.nil, defaults := Value.none, kwdefaults := Value.none, pyModule := Value.str (Str.ofString "postkeep.headers") 254, code := Value.ref 152 } }) :: (nat_lit 154, { cls := Value.type "tuple", data := Data.seq List.nil.toArray }) :: (nat_lit 156, { cls := Value.type "tuple", data := Data.seq (List.cons (Value.str (Str.ofString "name") 390) List.nil).toArray }) :: (nat_lit 157, { cls := Value.type "tuple", data := Data.seq List.nil.toArray }) :: (nat_lit 159, { cls := Value.type "code", data := Data.fields (List.cons (Value.str (Str.ofString "check_name") 387) (List.cons (Value.str (Str.ofString "check_name") 388) (List.cons (Value.str (Str.ofString "/claim/cut.py") 389) (List.cons (Value.int 86 0) (List.cons (Value.int 1 0) (List.cons (Value.int 0 0) (List.cons (Value.int 0 0) (List.cons (Value.int 3 0) (List.cons (Value.ref 154) (List.cons (Value.bool true) (List.cons (Value.int 181 0) (List.cons (Value.ref 155) (List.cons Value.none (List.cons (Value.ref 156) (List.cons (Value.ref 157) (List.cons (Value.ref 158) (List.cons (Value.int 391 0) (List.cons (Value.int 86 0) (List.cons (Value.str (Str.ofString "/claim/cut.py") 392) List.nil))))))))))))))))))).toArray }) :: (nat_lit 160, { cls := Value.type "function", data := Data.func { name := Str.ofString "check_name", qualname := Str.ofString "check_name", params := a16, body := FuncBody.stmts b16, scope := s16, globals := 3, closure := List.nil, defaults := Value.none, kwdefaults := Value.none, pyModule := Value.str (Str.ofString "postkeep.headers") 254, code := Value.ref 159 } }) :: (nat_lit 161, { cls := Value.type "tuple", data := Data.seq (List.cons (Value.int 78 394) List.nil).toArray }) :: (nat_lit 162, { cls := Value.type "tuple", data := Data.seq List.nil.toArray }) :: (nat_lit 164, { cls := Value.type "tuple", data := Data.seq (List.cons (Value.str (Str.ofString "name") 398) (List.cons (Value.str (Str.ofString "body") 399) (List.cons (Value.str (Str.ofString "width") 400) (List.cons (Value.str (Str.ofString "code") 401) (List.cons (Value.str (Str.ofString "rows") 402) (List.cons (Value.str (Str.ofString "row") 403) (List.cons (Value.str (Str.ofString "spot") 404) (List.cons (Value.str (Str.ofString "piece") 405) (List.cons (Value.str (Str.ofString "more") 406) List.nil))))))))).toArray }) :: (nat_lit 165, { cls := Value.type "tuple", data := Data.seq List.nil.toArray }) :: (nat_lit 167, { cls := Value.type "code", data := Data.fields (List.cons (Value.str (Str.ofString "folded") 395) (List.cons (Value.str (Str.ofString "folded") 396) (List.cons (Value.str (Str.ofString "/claim/cut.py") 397) (List.cons (Value.int 89 0) (List.cons (Value.int 3 0) (List.cons (Value.int 0 0) (List.cons (Value.int 0 0) (List.cons (Value.int 3 0) (List.cons (Value.ref 162) (List.cons (Value.bool true) (List.cons (Value.int 181 0) (List.cons (Value.ref 163) (List.cons Value.none (List.cons (Value.ref 164) (List.cons (Value.ref 165) (List.cons (Value.ref 166) (List.cons (Value.int 407 0) (List.cons (Value.int 89 0) (List.cons (Value.str (Str.ofString "/claim/cut.py") 408) List.nil))))))))))))))))))).toArray }) :: (nat_lit 168, { cls := Value.type "function", data := Data.func { name := Str.ofString "folded", qualname := Str.ofString "folded", params := a17, body := FuncBody.stmts b17, scope := s17, globals := 3, closure := List.nil, defaults := Value.ref 161, kwdefaults := Value.none, pyModule := Value.str (Str.ofString "postkeep.headers") 254, code := Value.ref 167 } }) :: (nat_lit 169, { cls := Value.type "tuple", data := Data.seq (List.cons (Value.int 78 410) List.nil).toArray }) :: (nat_lit 170, { cls := Value.type "tuple", data := Data.seq List.nil.toArray }) :: (nat_lit 172, { cls := Value.type "tuple", data := Data.seq (List.cons (Value.str (Str.ofString "name") 414) (List.cons (Value.str (Str.ofString "body") 415) (List.cons (Value.str (Str.ofString "width") 416) (List.cons (Value.str (Str.ofString "octets") 417) List.nil)))).toArray }) :: (nat_lit 173, { cls := Value.type "tuple", data := Data.seq List.nil.toArray }) :: (nat_lit 175, { cls := Value.type "code", data := Data.fields (List.cons (Value.str (Str.ofString "made_field") 411) (List.cons (Value.str (Str.ofString "made_field") 412) (List.cons (Value.str (Str.ofString "/claim/cut.py") 413) (List.cons (Value.int 103 0) (List.cons (Value.int 3 0) (List.cons (Value.int 0 0) (List.cons (Value.int 0 0) (List.cons (Value.int 3 0) (List.cons (Value.ref 170) (List.cons (Value.bool true) (List.cons (Value.int 181 0) (List.cons (Value.ref 171) (List.cons Value.none (List.cons (Value.ref 172) (List.cons (Value.ref 173) (List.cons (Value.ref 174) (List.cons (Value.int 418 0) (List.cons (Value.int 103 0) (List.cons (Value.str (Str.ofString "/claim/cut.py") 419) List.nil))))))))))))))))))).toArray }) :: (nat_lit 176, { cls := Value.type "function", data := Data.func { name := Str.ofString "made_field", qualname := Str.ofString "made_field", params := a18, body := FuncBody.stmts b18, scope := s18, globals := 3, closure := List.nil, defaults := Value.ref 169, kwdefaults := Value.none, pyModule := Value.str (Str.ofString "postkeep.headers") 254, code := Value.ref 175 } }) :: (nat_lit 177, { cls := Value.type "tuple", data := Data.seq List.nil.toArray }) :: (nat_lit 179, { cls := Value.type "tuple", data := Data.seq (List.cons (Value.str (Str.ofString "field") 424) (List.cons (Value.str (Str.ofString "row") 425) List.nil)).toArray }) :: (nat_lit 180, { cls := Value.type "tuple", data := Data.seq List.nil.toArray }) :: (nat_lit 182, { cls := Value.type "code", data := Data.fields (List.cons (Value.str (Str.ofString "is_sound") 421) (List.cons (Value.str (Str.ofString "is_sound") 422) (List.cons (Value.str (Str.ofString "/claim/cut.py") 423) (List.cons (Value.int 106 0) (List.cons (Value.int 1 0) (List.cons (Value.int 0 0) (List.cons (Value.int 0 0) (List.cons (Value.int 3 0) (List.cons (Value.ref 177) (List.cons (Value.bool true) (List.cons (Value.int 181 0) (List.cons (Value.ref 178) (List.cons Value.none (List.cons (Value.ref 179) (List.cons (Value.ref 180) (List.cons (Value.ref 181) (List.cons (Value.int 426 0) (List.cons (Value.int 106 0) (List.cons (Value.str (Str.ofString "/claim/cut.py") 427) List.nil))))))))))))))))))).toArray }) :: (nat_lit 183, { cls := Value.type "function", data := Data.func { name := Str.ofString "is_sound", qualname := Str.ofString "is_sound", params := a19, body := FuncBody.stmts b19, scope := s19, globals := 3, closure := List.nil, defaults := Value.none, kwdefaults := Value.none, pyModule := Value.str (Str.ofString "postkeep.headers") 254, code := Value.ref 182 } }) :: (nat_lit 184, { cls := Value.type "tuple", data := Data.seq List.nil.toArray }) :: (nat_lit 187, { cls := Value.type "code", data := Data.fields (List.cons (Value.str (Str.ofString "write_fields") 429) (List.cons (Value.str (Str.ofString "write_fields") 430) (List.cons (Value.str (Str.ofString "/claim/cut.py") 431) (List.cons (Value.int 113 0) (List.cons (Value.int 1 0) (List.cons (Value.int 0 0) (List.cons (Value.int 0 0) (List.cons (Value.int 3 0) (List.cons (Value.ref 184) (List.cons (Value.bool true) (List.cons (Value.int 181 0) (List.cons (Value.ref 185) (List.cons Value.none (List.cons Value.none (List.cons Value.none (List.cons (Value.ref 186) (List.cons (Value.int 432 0) (List.cons (Value.int 113 0) (List.cons (Value.str (Str.ofString "/claim/cut.py") 433) List.nil))))))))))))))))))).toArray }) :: (nat_lit 188, { cls := Value.type "function", data := Data.func { name := Str.ofString "write_fields", qualname := Str.ofString "write_fields", params := a20, body := FuncBody.stmts b20, scope := s20, globals := 3, closure := List.nil, defaults := Value.none, kwdefaults := Value.none, pyModule := Value.str (Str.ofString "postkeep.headers") 254, code := Value.ref 187 } }) :: (nat_lit 189, { cls := Value.type "tuple", data := Data.seq List.nil.toArray }) :: (nat_lit 191, { cls := Value.type "tuple", data := Data.seq (List.cons (Value.str (Str.ofString "pool") 440) (List.cons (Value.str (Str.ofString "many") 441) (List.cons (Value.str (Str.ofString "digit") 442) List.nil))).toArray }) :: (nat_lit 192, { cls := Value.type "tuple", data := Data.seq List.nil.toArray }) :: (nat_lit 194, { cls := Value.type "code", data := Data.fields (List.cons (Value.str (Str.ofString "_law_take") 437) (List.cons (Value.str (Str.ofString "_law_take") 438) (List.cons (Value.str (Str.ofString "/claim/cut.py") 439) (List.cons (Value.int 119 0) (List.cons (Value.int 2 0) (List.cons (Value.int 0 0) (List.cons (Value.int 0 0) (List.cons (Value.int 3 0) (List.cons (Value.ref 189) (List.cons (Value.bool true) (List.cons (Value.int 181 0) (List.cons (Value.ref 190) (List.cons Value.none (List.cons (Value.ref 191) (List.cons (Value.ref 192) (List.cons (Value.ref 193) (List.cons (Value.int 443 0) (List.cons (Value.int 119 0) (List.cons (Value.str (Str.ofString "/claim/cut.py") 444) List.nil))))))))))))))))))).toArray }) :: (nat_lit 195, { cls := Value.type "function", data := Data.func { name := Str.ofString "_law_take", qualname := Str.ofString "_law_take", params := a22, body := FuncBody.stmts b22, scope := s22, globals := 3, closure := List.nil, defaults := Value.none, kwdefaults := Value.none, pyModule := Value.str (Str.ofString "law_no0361_01") 435, code := Value.ref 194 } }) :: (nat_lit 196, { cls := Value.type "tuple", data := Data.seq List.nil.toArray }) :: (nat_lit 198, { cls := Value.type "tuple", data := Data.seq (List.cons (Value.str (Str.ofString "pool") 449) (List.cons (Value.str (Str.ofString "words") 450) (List.cons (Value.str (Str.ofString "turn") 451) List.nil))).toArray }) :: (nat_lit 199, { cls := Value.type "tuple", data := Data.seq List.nil.toArray }) :: (nat_lit 201, { cls := Value.type "code", data := Data.fields (List.cons (Value.str (Str.ofString "_law_words") 446) (List.cons (Value.str (Str.ofString "_law_words") 447) (List.cons (Value.str (Str.ofString "/claim/cut.py") 448) (List.cons (Value.int 127 0) (List.cons (Value.int 1 0) (List.cons (Value.int 0 0) (List.cons (Value.int 0 0) (List.cons (Value.int 3 0) (List.cons (Value.ref 196) (List.cons (Value.bool true) (List.cons (Value.int 181 0) (List.cons (Value.ref 197) (List.cons Value.none (List.cons (Value.ref 198) (List.cons (Value.ref 199) (List.cons (Value.ref 200) (List.cons (Value.int 452 0) (List.cons (Value.int 127 0) (List.cons (Value.str (Str.ofString "/claim/cut.py") 453) List.nil))))))))))))))))))).toArray }) :: (nat_lit 202, { cls := Value.type "function", data := Data.func { name := Str.ofString "_law_words", qualname := Str.ofString "_law_words", params := a23, body := FuncBody.stmts b23, scope := s23, globals := 3, closure := List.nil, defaults := Value.none, kwdefaults := Value.none, pyModule := Value.str (Str.ofString "law_no0361_01") 435, code := Value.ref 201 } }) :: (nat_lit 203, { cls := Value.type "tuple", data := Data.seq List.nil.toArray }) :: (nat_lit 206, { cls := Value.type "code", data := Data.fields (List.cons (Value.str (Str.ofString "_law_first") 455) (List.cons (Value.str (Str.ofString "_law_first") 456) (List.cons (Value.str (Str.ofString "/claim/cut.py") 457) (List.cons (Value.int 132 0) (List.cons (Value.int 1 0) (List.cons (Value.int 0 0) (List.cons (Value.int 0 0) (List.cons (Value.int 3 0) (List.cons (Value.ref 203) (List.cons (Value.bool true) (List.cons (Value.int 181 0) (List.cons (Value.ref 204) (List.cons Value.none (List.cons Value.none (List.cons Value.none (List.cons (Value.ref 205) (List.cons (Value.int 458 0) (List.cons (Value.int 132 0) (List.cons (Value.str (Str.ofString "/claim/cut.py") 459) List.nil))))))))))))))))))).toArray }) :: (nat_lit 207, { cls := Value.type "function", data := Data.func { name := Str.ofString "_law_first", qualname := Str.ofString "_law_first", params := a24, body := FuncBody.stmts b24, scope := s24, globals := 3, closure := List.nil, defaults := Value.none, kwdefaults := Value.none, pyModule := Value.str (Str.ofString "law_no0361_01") 435, code := Value.ref 206 } }) :: (nat_lit 208, { cls := Value.type "tuple", data := Data.seq List.nil.toArray }) :: (nat_lit 210, { cls := Value.type "tuple", data := Data.seq (List.cons (Value.str (Str.ofString "name") 464) (List.cons (Value.str (Str.ofString "body") 465) List.nil)).toArray }) :: (nat_lit 211, { cls := Value.type "tuple", data := Data.seq List.nil.toArray }) :: (nat_lit 213, { cls := Value.type "code", data := Data.fields (List.cons (Value.str (Str.ofString "_law_refused") 461) (List.cons (Value.str (Str.ofString "_law_refused") 462) (List.cons (Value.str (Str.ofString "/claim/cut.py") 463) (List.cons (Value.int 138 0) (List.cons (Value.int 2 0) (List.cons (Value.int 0 0) (List.cons (Value.int 0 0) (List.cons (Value.int 3 0) (List.cons (Value.ref 208) (List.cons (Value.bool true) (List.cons (Value.int 181 0) (List.cons (Value.ref 209) (List.cons Value.none (List.cons (Value.ref 210) (List.cons (Value.ref 211) (List.cons (Value.ref 212) (List.cons (Value.int 466 0) (List.cons (Value.int 138 0) (List.cons (Value.str (Str.ofString "/claim/cut.py") 467) List.nil))))))))))))))))))).toArray }) :: (nat_lit 214, { cls := Value.type "function", data := Data.func { name := Str.ofString "_law_refused", qualname := Str.ofString "_law_refused", params := a25, body := FuncBody.stmts b25, scope := s25, globals := 3, closure := List.nil, defaults := Value.none, kwdefaults := Value.none, pyModule := Value.str (Str.ofString "law_no0361_01") 435, code := Value.ref 213 } }) :: (nat_lit 215, { cls := Value.type "tuple", data := Data.seq List.nil.toArray }) :: (nat_lit 217, { cls := Value.type "tuple", data := Data.seq (List.cons (Value.str (Str.ofString "name") 472) (List.cons (Value.str (Str.ofString "bare") 473) (List.cons (Value.str (Str.ofString "rows") 474) (List.cons (Value.str (Str.ofString "width") 475) (List.cons (Value.str (Str.ofString "at") 476) (List.cons (Value.str (Str.ofString "inner") 477) List.nil)))))).toArray }) :: (nat_lit 218, { cls := Value.type "tuple", data := Data.seq List.nil.toArray }) :: (nat_lit 220, { cls := Value.type "code", data := Data.fields (List.cons (Value.str (Str.ofString "_law_rows_right") 469) (List.cons (Value.str (Str.ofString "_law_rows_right") 470) (List.cons (Value.str (Str.ofString "/claim/cut.py") 471) (List.cons (Value.int 144 0) (List.cons (Value.int 4 0) (List.cons (Value.int 0 0) (List.cons (Value.int 0 0) (List.cons (Value.int 3 0) (List.cons (Value.ref 215) (List.cons (Value.bool true) (List.cons (Value.int 181 0) (List.cons (Value.ref 216) (List.cons Value.none (List.cons (Value.ref 217) (List.cons (Value.ref 218) (List.cons (Value.ref 219) (List.cons (Value.int 478 0) (List.cons (Value.int 144 0) (List.cons (Value.str (Str.ofString "/claim/cut.py") 479) List.nil))))))))))))))))))).toArray }) :: (nat_lit 221, { cls := Value.type "function", data := Data.func { name := Str.ofString "_law_rows_right", qualname := Str.ofString "_law_rows_right", params := a26, body := FuncBody.stmts b26, scope := s26, globals := 3, closure := List.nil, defaults := Value.none, kwdefaults := Value.none, pyModule := Value.str (Str.ofString "law_no0361_01") 435, code := Value.ref 220 } }) :: (nat_lit 222, { cls := Value.type "tuple", data := Data.seq List.nil.toArray }) :: (nat_lit 225, { cls := Value.type "code", data := Data.fields (List.cons (Value.str (Str.ofString "law") 481) (List.cons (Value.str (Str.ofString "law") 482) (List.cons (Value.str (Str.ofString "/claim/cut.py") 483) (List.cons (Value.int 156 0) (List.cons (Value.int 1 0) (List.cons (Value.int 0 0) (List.cons (Value.int 0 0) (List.cons (Value.int 3 0) (List.cons (Value.ref 222) (List.cons (Value.bool true) (List.cons (Value.int 181 0) (List.cons (Value.ref 223) (List.cons Value.none (List.cons Value.none (List.cons Value.none (List.cons (Value.ref 224) (List.cons (Value.int 484 0) (List.cons (Value.int 156 0) (List.cons (Value.str (Str.ofString "/claim/cut.py") 485) List.nil))))))))))))))))))).toArray }) :: (nat_lit 226, { cls := Value.type "function", data := Data.func { name := Str.ofString "law", qualname := Str.ofString "law", params := a27, body := FuncBody.stmts b27, scope := s27, globals := 3, closure := List.nil, defaults := Value.none, kwdefaults := Value.none, pyModule := Value.str (Str.ofString "law_no0361_01") 435, code := Value.ref 225 } }) :: []) rfl rfl rfl rfl rfl rfl rfl rfl rfl rfl rfl rfl rfl rfl rfl rfl rfl rfl rfl rfl rfl rfl rfl rfl rfl

noncomputable def hd.kAs : List Addr := nat_lit 2 :: nat_lit 3 :: nat_lit 15 :: nat_lit 17 :: nat_lit 18 :: nat_lit 20 :: nat_lit 21 :: nat_lit 22 :: nat_lit 29 :: nat_lit 30 :: nat_lit 32 :: nat_lit 33 :: nat_lit 35 :: nat_lit 36 :: nat_lit 37 :: nat_lit 39 :: nat_lit 40 :: nat_lit 42 :: nat_lit 43 :: nat_lit 44 :: nat_lit 45 :: nat_lit 46 :: nat_lit 47 :: nat_lit 50 :: nat_lit 57 :: nat_lit 58 :: nat_lit 59 :: nat_lit 62 :: nat_lit 70 :: nat_lit 72 :: nat_lit 73 :: nat_lit 75 :: nat_lit 76 :: nat_lit 77 :: nat_lit 79 :: nat_lit 80 :: nat_lit 82 :: nat_lit 83 :: nat_lit 84 :: nat_lit 86 :: nat_lit 87 :: nat_lit 89 :: nat_lit 90 :: nat_lit 91 :: nat_lit 92 :: nat_lit 93 :: nat_lit 94 :: nat_lit 95 :: nat_lit 98 :: nat_lit 100 :: nat_lit 101 :: nat_lit 103 :: nat_lit 104 :: nat_lit 105 :: nat_lit 107 :: nat_lit 108 :: nat_lit 110 :: nat_lit 111 :: nat_lit 112 :: nat_lit 114 :: nat_lit 115 :: nat_lit 117 :: nat_lit 118 :: nat_lit 119 :: nat_lit 120 :: nat_lit 122 :: nat_lit 123 :: nat_lit 125 :: nat_lit 126 :: nat_lit 127 :: nat_lit 128 :: nat_lit 131 :: nat_lit 132 :: nat_lit 133 :: nat_lit 135 :: nat_lit 136 :: nat_lit 138 :: nat_lit 139 :: nat_lit 140 :: nat_lit 142 :: nat_lit 143 :: nat_lit 145 :: nat_lit 146 :: nat_lit 147 :: nat_lit 149 :: nat_lit 150 :: nat_lit 152 :: nat_lit 153 :: nat_lit 154 :: nat_lit 156 :: nat_lit 157 :: nat_lit 159 :: nat_lit 160 :: nat_lit 161 :: nat_lit 162 :: nat_lit 164 :: nat_lit 165 :: nat_lit 167 :: nat_lit 168 :: nat_lit 169 :: nat_lit 170 :: nat_lit 172 :: nat_lit 173 :: nat_lit 175 :: nat_lit 176 :: nat_lit 177 :: nat_lit 179 :: nat_lit 180 :: nat_lit 182 :: nat_lit 183 :: nat_lit 184 :: nat_lit 187 :: nat_lit 188 :: nat_lit 189 :: nat_lit 191 :: nat_lit 192 :: nat_lit 194 :: nat_lit 195 :: nat_lit 196 :: nat_lit 198 :: nat_lit 199 :: nat_lit 201 :: nat_lit 202 :: nat_lit 203 :: nat_lit 206 :: nat_lit 207 :: nat_lit 208 :: nat_lit 210 :: nat_lit 211 :: nat_lit 213 :: nat_lit 214 :: nat_lit 215 :: nat_lit 217 :: nat_lit 218 :: nat_lit 220 :: nat_lit 221 :: nat_lit 222 :: nat_lit 225 :: nat_lit 226 :: []
noncomputable def hd.kAt (P : Params) (a : Nat) : Obj := ((hd.heap_39 P).lookup a).getD ⟨.none, none, .plain, #[]⟩
noncomputable def hd.A0 : Arguments := hd.fA (hd.at_ hd.bodyL 0)
noncomputable def hd.B0 : List Stmt := hd.fB (hd.at_ hd.bodyL 0)
noncomputable def hd.S0 : Scope := hd.fS (hd.at_ hd.bodyL 0)
noncomputable def hd.A2_0 : Arguments := hd.fA (hd.at_ (hd.cB (hd.at_ hd.bodyL 2)) 0)
noncomputable def hd.B2_0 : List Stmt := hd.fB (hd.at_ (hd.cB (hd.at_ hd.bodyL 2)) 0)
noncomputable def hd.S2_0 : Scope := hd.fS (hd.at_ (hd.cB (hd.at_ hd.bodyL 2)) 0)
noncomputable def hd.A2_1 : Arguments := hd.fA (hd.at_ (hd.cB (hd.at_ hd.bodyL 2)) 1)
noncomputable def hd.B2_1 : List Stmt := hd.fB (hd.at_ (hd.cB (hd.at_ hd.bodyL 2)) 1)
noncomputable def hd.S2_1 : Scope := hd.fS (hd.at_ (hd.cB (hd.at_ hd.bodyL 2)) 1)
noncomputable def hd.A7_0 : Arguments := hd.fA (hd.at_ (hd.cB (hd.at_ hd.bodyL 7)) 0)
noncomputable def hd.B7_0 : List Stmt := hd.fB (hd.at_ (hd.cB (hd.at_ hd.bodyL 7)) 0)
noncomputable def hd.S7_0 : Scope := hd.fS (hd.at_ (hd.cB (hd.at_ hd.bodyL 7)) 0)
noncomputable def hd.A7_1 : Arguments := hd.fA (hd.at_ (hd.cB (hd.at_ hd.bodyL 7)) 1)
noncomputable def hd.B7_1 : List Stmt := hd.fB (hd.at_ (hd.cB (hd.at_ hd.bodyL 7)) 1)
noncomputable def hd.S7_1 : Scope := hd.fS (hd.at_ (hd.cB (hd.at_ hd.bodyL 7)) 1)
noncomputable def hd.A7_2 : Arguments := hd.fA (hd.at_ (hd.cB (hd.at_ hd.bodyL 7)) 2)
noncomputable def hd.B7_2 : List Stmt := hd.fB (hd.at_ (hd.cB (hd.at_ hd.bodyL 7)) 2)
noncomputable def hd.S7_2 : Scope := hd.fS (hd.at_ (hd.cB (hd.at_ hd.bodyL 7)) 2)
noncomputable def hd.A8 : Arguments := hd.fA (hd.at_ hd.bodyL 8)
noncomputable def hd.B8 : List Stmt := hd.fB (hd.at_ hd.bodyL 8)
noncomputable def hd.S8 : Scope := hd.fS (hd.at_ hd.bodyL 8)
noncomputable def hd.A9 : Arguments := hd.fA (hd.at_ hd.bodyL 9)
noncomputable def hd.B9 : List Stmt := hd.fB (hd.at_ hd.bodyL 9)
noncomputable def hd.S9 : Scope := hd.fS (hd.at_ hd.bodyL 9)
noncomputable def hd.A10 : Arguments := hd.fA (hd.at_ hd.bodyL 10)
noncomputable def hd.B10 : List Stmt := hd.fB (hd.at_ hd.bodyL 10)
noncomputable def hd.S10 : Scope := hd.fS (hd.at_ hd.bodyL 10)
noncomputable def hd.A11 : Arguments := hd.fA (hd.at_ hd.bodyL 11)
noncomputable def hd.B11 : List Stmt := hd.fB (hd.at_ hd.bodyL 11)
noncomputable def hd.S11 : Scope := hd.fS (hd.at_ hd.bodyL 11)
noncomputable def hd.A12 : Arguments := hd.fA (hd.at_ hd.bodyL 12)
noncomputable def hd.B12 : List Stmt := hd.fB (hd.at_ hd.bodyL 12)
noncomputable def hd.S12 : Scope := hd.fS (hd.at_ hd.bodyL 12)
noncomputable def hd.A13 : Arguments := hd.fA (hd.at_ hd.bodyL 13)
noncomputable def hd.B13 : List Stmt := hd.fB (hd.at_ hd.bodyL 13)
noncomputable def hd.S13 : Scope := hd.fS (hd.at_ hd.bodyL 13)
noncomputable def hd.A14 : Arguments := hd.fA (hd.at_ hd.bodyL 14)
noncomputable def hd.B14 : List Stmt := hd.fB (hd.at_ hd.bodyL 14)
noncomputable def hd.S14 : Scope := hd.fS (hd.at_ hd.bodyL 14)
noncomputable def hd.A15 : Arguments := hd.fA (hd.at_ hd.bodyL 15)
noncomputable def hd.B15 : List Stmt := hd.fB (hd.at_ hd.bodyL 15)
noncomputable def hd.S15 : Scope := hd.fS (hd.at_ hd.bodyL 15)
noncomputable def hd.A16 : Arguments := hd.fA (hd.at_ hd.bodyL 16)
noncomputable def hd.B16 : List Stmt := hd.fB (hd.at_ hd.bodyL 16)
noncomputable def hd.S16 : Scope := hd.fS (hd.at_ hd.bodyL 16)
noncomputable def hd.A17 : Arguments := hd.fA (hd.at_ hd.bodyL 17)
noncomputable def hd.B17 : List Stmt := hd.fB (hd.at_ hd.bodyL 17)
noncomputable def hd.S17 : Scope := hd.fS (hd.at_ hd.bodyL 17)
noncomputable def hd.A18 : Arguments := hd.fA (hd.at_ hd.bodyL 18)
noncomputable def hd.B18 : List Stmt := hd.fB (hd.at_ hd.bodyL 18)
noncomputable def hd.S18 : Scope := hd.fS (hd.at_ hd.bodyL 18)
noncomputable def hd.A19 : Arguments := hd.fA (hd.at_ hd.bodyL 19)
noncomputable def hd.B19 : List Stmt := hd.fB (hd.at_ hd.bodyL 19)
noncomputable def hd.S19 : Scope := hd.fS (hd.at_ hd.bodyL 19)
noncomputable def hd.A20 : Arguments := hd.fA (hd.at_ hd.bodyL 20)
noncomputable def hd.B20 : List Stmt := hd.fB (hd.at_ hd.bodyL 20)
noncomputable def hd.S20 : Scope := hd.fS (hd.at_ hd.bodyL 20)
noncomputable def hd.A22 : Arguments := hd.fA (hd.at_ hd.bodyL 22)
noncomputable def hd.B22 : List Stmt := hd.fB (hd.at_ hd.bodyL 22)
noncomputable def hd.S22 : Scope := hd.fS (hd.at_ hd.bodyL 22)
noncomputable def hd.A23 : Arguments := hd.fA (hd.at_ hd.bodyL 23)
noncomputable def hd.B23 : List Stmt := hd.fB (hd.at_ hd.bodyL 23)
noncomputable def hd.S23 : Scope := hd.fS (hd.at_ hd.bodyL 23)
noncomputable def hd.A24 : Arguments := hd.fA (hd.at_ hd.bodyL 24)
noncomputable def hd.B24 : List Stmt := hd.fB (hd.at_ hd.bodyL 24)
noncomputable def hd.S24 : Scope := hd.fS (hd.at_ hd.bodyL 24)
noncomputable def hd.A25 : Arguments := hd.fA (hd.at_ hd.bodyL 25)
noncomputable def hd.B25 : List Stmt := hd.fB (hd.at_ hd.bodyL 25)
noncomputable def hd.S25 : Scope := hd.fS (hd.at_ hd.bodyL 25)
noncomputable def hd.A26 : Arguments := hd.fA (hd.at_ hd.bodyL 26)
noncomputable def hd.B26 : List Stmt := hd.fB (hd.at_ hd.bodyL 26)
noncomputable def hd.S26 : Scope := hd.fS (hd.at_ hd.bodyL 26)
noncomputable def hd.A27 : Arguments := hd.fA (hd.at_ hd.bodyL 27)
noncomputable def hd.B27 : List Stmt := hd.fB (hd.at_ hd.bodyL 27)
noncomputable def hd.S27 : Scope := hd.fS (hd.at_ hd.bodyL 27)
noncomputable def hd.o_43 (P : Params) : Obj := hd.kAt P (nat_lit 15)
noncomputable def hd.o_44 (P : Params) : Obj := { cls := Value.none, data := Data.fields List.nil.toArray }
noncomputable def hd.o_45 (P : Params) : Obj := { cls := Value.type "code", data := Data.fields (List.cons (Value.str (Str.ofString "<module>") 182) (List.cons (Value.str (Str.ofString "<module>") 183) (List.cons (Value.str (Str.ofString "/claim/cut.py") 184) (List.cons (Value.int 1 0) (List.cons (Value.int 0 0) (List.cons (Value.int 0 0) (List.cons (Value.int 0 0) (List.cons (Value.int 0 0) (List.cons (Value.ref 11) (List.cons (Value.bool false) (List.cons (Value.int 181 0) (List.cons (Value.ref 12) (List.cons Value.none (List.cons Value.none (List.cons Value.none (List.cons Value.none (List.cons (Value.int 185 0) (List.cons (Value.int 1 0) (List.cons (Value.str (Str.ofString "/claim/cut.py") 186) List.nil))))))))))))))))))).toArray }
noncomputable def hd.o_46 (P : Params) : Obj := { cls := Value.type "frame", slots := (List.cons (some (Value.ref 13)) (List.cons (some (Value.ref 3)) (List.cons (some (Value.ref 3)) (List.cons none (List.cons (some (Value.str (Str.ofString "__main__") 164)) (List.cons none (List.cons (some (Value.ref 0)) List.nil))))))).toArray }
noncomputable def hd.o_49 (P : Params) : Obj := hd.kAt P (nat_lit 2)
noncomputable def hd.o_50 (P : Params) : Obj := { cls := Value.type "dict", data := Data.dict (List.cons { hash := PyData.keyHash P (Str.ofString "__name__"), key := Value.str (Str.ofString "__name__") 165, val := Value.str (Str.ofString "postkeep.errors") 194 } (List.cons { hash := PyData.keyHash P (Str.ofString "__doc__"), key := Value.str (Str.ofString "__doc__") 166, val := Value.none } (List.cons { hash := PyData.keyHash P (Str.ofString "__package__"), key := Value.str (Str.ofString "__package__") 167, val := Value.none } (List.cons { hash := PyData.keyHash P (Str.ofString "__loader__"), key := Value.str (Str.ofString "__loader__") 168, val := Value.builtin "__main__.__loader__#opaque" } (List.cons { hash := PyData.keyHash P (Str.ofString "__spec__"), key := Value.str (Str.ofString "__spec__") 169, val := Value.none } (List.cons { hash := PyData.keyHash P (Str.ofString "__annotations__"), key := Value.str (Str.ofString "__annotations__") 170, val := Value.ref 6 } (List.cons { hash := PyData.keyHash P (Str.ofString "__builtins__"), key := Value.str (Str.ofString "__builtins__") 171, val := Value.ref 4 } (List.cons { hash := PyData.keyHash P (Str.ofString "__file__"), key := Value.str (Str.ofString "__file__") 173, val := Value.str (Str.ofString "/claim/cut.py") 172 } (List.cons { hash := PyData.keyHash P (Str.ofString "__cached__"), key := Value.str (Str.ofString "__cached__") 174, val := Value.none } (List.cons { hash := PyData.keyHash P (Str.ofString "_wall"), key := Value.str (Str.ofString "_wall") 193, val := Value.ref 21 } (List.cons { hash := PyData.keyHash P (Str.ofString "PostError"), key := Value.str (Str.ofString "PostError") 235, val := Value.ref 46 } List.nil))))))))))).toArray 11 }
noncomputable def hd.o_51 (P : Params) : Obj := { cls := Value.none, data := Data.fields (List.cons (Value.int 1 0) (List.cons (Value.int 0 0) (List.cons (Value.ref 20) (List.cons (Value.int 5 0) (List.cons (Value.int 0 0) (List.cons (Value.ref 27) List.nil)))))).toArray }
noncomputable def hd.o_52 (P : Params) : Obj := hd.kAt P (nat_lit 15)
noncomputable def hd.o_53 (P : Params) : Obj := { cls := Value.none, data := Data.fields List.nil.toArray }
noncomputable def hd.o_54 (P : Params) : Obj := hd.kAt P (nat_lit 17)
noncomputable def hd.o_55 (P : Params) : Obj := hd.kAt P (nat_lit 15)
noncomputable def hd.o_56 (P : Params) : Obj := { cls := Value.none, data := Data.func { name := Str.ofString "_wall", qualname := Str.ofString "_wall", params := hd.A0, body := FuncBody.stmts hd.B0, scope := hd.S0, globals := 0, closure := List.nil, defaults := Value.none, kwdefaults := Value.none } }
noncomputable def hd.o_57 (P : Params) : Obj := hd.kAt P (nat_lit 20)
noncomputable def hd.o_58 (P : Params) : Obj := hd.kAt P (nat_lit 21)
noncomputable def hd.o_59 (P : Params) : Obj := hd.kAt P (nat_lit 22)
noncomputable def hd.o_60 (P : Params) : Obj := { cls := Value.type "builtin_function_or_method", data := Data.fields (List.cons (Value.builtin "type.__prepare__") (List.cons (Value.type "type") List.nil)).toArray }
noncomputable def hd.o_61 (P : Params) : Obj := { cls := Value.type "dict", data := Data.dict (List.cons { hash := PyData.keyHash P (Str.ofString "__module__"), key := Value.str (Str.ofString "__module__") 203, val := Value.str (Str.ofString "postkeep.errors") 194 } (List.cons { hash := PyData.keyHash P (Str.ofString "__qualname__"), key := Value.str (Str.ofString "__qualname__") 205, val := Value.str (Str.ofString "PostError") 204 } (List.cons { hash := PyData.keyHash P (Str.ofString "__firstlineno__"), key := Value.str (Str.ofString "__firstlineno__") 207, val := Value.int 5 206 } (List.cons { hash := PyData.keyHash P (Str.ofString "__init__"), key := Value.str (Str.ofString "__init__") 218, val := Value.ref 36 } (List.cons { hash := PyData.keyHash P (Str.ofString "told"), key := Value.str (Str.ofString "told") 225, val := Value.ref 43 } (List.cons { hash := PyData.keyHash P (Str.ofString "__static_attributes__"), key := Value.str (Str.ofString "__static_attributes__") 228, val := Value.ref 44 } List.nil)))))).toArray 6 }
noncomputable def hd.o_62 (P : Params) : Obj := hd.kAt P (nat_lit 15)
noncomputable def hd.o_63 (P : Params) : Obj := { cls := Value.none, data := Data.fields (List.cons (Value.int 7 0) (List.cons (Value.int 4 0) (List.cons (Value.ref 35) (List.cons (Value.int 12 0) (List.cons (Value.int 4 0) (List.cons (Value.ref 42) List.nil)))))).toArray }
noncomputable def hd.o_64 (P : Params) : Obj := { cls := Value.type "code", data := Data.fields (List.cons (Value.str (Str.ofString "PostError") 198) (List.cons (Value.str (Str.ofString "PostError") 199) (List.cons (Value.str (Str.ofString "/claim/cut.py") 200) (List.cons (Value.int 5 0) (List.cons (Value.int 0 0) (List.cons (Value.int 0 0) (List.cons (Value.int 0 0) (List.cons (Value.int 0 0) (List.cons (Value.ref 25) (List.cons (Value.bool false) (List.cons (Value.int 181 0) (List.cons (Value.ref 26) (List.cons Value.none (List.cons Value.none (List.cons Value.none (List.cons Value.none (List.cons (Value.int 201 0) (List.cons (Value.int 5 0) (List.cons (Value.str (Str.ofString "/claim/cut.py") 202) List.nil))))))))))))))))))).toArray }
noncomputable def hd.o_65 (P : Params) : Obj := { cls := Value.type "frame", slots := (List.cons (some (Value.ref 27)) (List.cons (some (Value.ref 3)) (List.cons (some (Value.ref 24)) (List.cons none (List.cons (some (Value.str (Str.ofString "postkeep.errors") 194)) (List.cons none (List.cons (some (Value.ref 0)) List.nil))))))).toArray }
noncomputable def hd.o_66 (P : Params) : Obj := hd.kAt P (nat_lit 29)
noncomputable def hd.o_67 (P : Params) : Obj := hd.kAt P (nat_lit 15)
noncomputable def hd.o_68 (P : Params) : Obj := { cls := Value.none, data := Data.fields List.nil.toArray }
noncomputable def hd.o_69 (P : Params) : Obj := hd.kAt P (nat_lit 32)
noncomputable def hd.o_70 (P : Params) : Obj := hd.kAt P (nat_lit 15)
noncomputable def hd.o_71 (P : Params) : Obj := { cls := Value.none, data := Data.func { name := Str.ofString "__init__", qualname := Str.ofString "PostError.__init__", params := hd.A2_0, body := FuncBody.stmts hd.B2_0, scope := hd.S2_0, globals := 0, closure := List.nil, defaults := Value.none, kwdefaults := Value.none } }
noncomputable def hd.o_72 (P : Params) : Obj := hd.kAt P (nat_lit 35)
noncomputable def hd.o_73 (P : Params) : Obj := hd.kAt P (nat_lit 36)
noncomputable def hd.o_74 (P : Params) : Obj := hd.kAt P (nat_lit 15)
noncomputable def hd.o_75 (P : Params) : Obj := { cls := Value.none, data := Data.fields List.nil.toArray }
noncomputable def hd.o_76 (P : Params) : Obj := hd.kAt P (nat_lit 39)
noncomputable def hd.o_77 (P : Params) : Obj := hd.kAt P (nat_lit 15)
noncomputable def hd.o_78 (P : Params) : Obj := { cls := Value.none, data := Data.func { name := Str.ofString "told", qualname := Str.ofString "PostError.told", params := hd.A2_1, body := FuncBody.stmts hd.B2_1, scope := hd.S2_1, globals := 0, closure := List.nil, defaults := Value.none, kwdefaults := Value.none } }
noncomputable def hd.o_79 (P : Params) : Obj := hd.kAt P (nat_lit 42)
noncomputable def hd.o_80 (P : Params) : Obj := hd.kAt P (nat_lit 43)
noncomputable def hd.o_81 (P : Params) : Obj := hd.kAt P (nat_lit 44)
noncomputable def hd.o_82 (P : Params) : Obj := hd.kAt P (nat_lit 45)
noncomputable def hd.o_83 (P : Params) : Obj := { cls := Value.type "type", data := Data.cls { name := Str.ofString "PostError", bases := List.cons (Value.type "Exception") List.nil, mro := List.cons (Value.ref 46) (List.cons (Value.type "Exception") (List.cons (Value.type "BaseException") (List.cons (Value.type "object") List.nil))), ns := 45, qualname := Str.ofString "PostError" }, slots := (List.cons (some (Value.ref 22)) (List.cons none (List.cons (some (Value.str (Str.ofString "PostError") 196)) (List.cons (some (Value.str (Str.ofString "PostError") 204)) (List.cons (some (Value.builtin "Exception.__new__")) (List.cons (some (Value.bool true)) List.nil)))))).toArray }
noncomputable def hd.o_84 (P : Params) : Obj := hd.kAt P (nat_lit 47)
noncomputable def hd.o_85 (P : Params) : Obj := { cls := Value.type "super", data := Data.fields (List.cons (Value.ref 46) (List.cons (Value.ref 46) (List.cons (Value.ref 46) List.nil))).toArray }
noncomputable def hd.o_86 (P : Params) : Obj := { cls := Value.type "builtin_function_or_method", data := Data.fields (List.cons (Value.builtin "object.__init_subclass__") (List.cons (Value.ref 46) List.nil)).toArray }
noncomputable def hd.o_87 (P : Params) : Obj := { cls := Value.type "dict", data := Data.dict (List.cons { hash := PyData.keyHash P (Str.ofString "__name__"), key := Value.str (Str.ofString "__name__") 165, val := Value.str (Str.ofString "postkeep.headers") 254 } (List.cons { hash := PyData.keyHash P (Str.ofString "__doc__"), key := Value.str (Str.ofString "__doc__") 166, val := Value.none } (List.cons { hash := PyData.keyHash P (Str.ofString "__package__"), key := Value.str (Str.ofString "__package__") 167, val := Value.none } (List.cons { hash := PyData.keyHash P (Str.ofString "__loader__"), key := Value.str (Str.ofString "__loader__") 168, val := Value.builtin "__main__.__loader__#opaque" } (List.cons { hash := PyData.keyHash P (Str.ofString "__spec__"), key := Value.str (Str.ofString "__spec__") 169, val := Value.none } (List.cons { hash := PyData.keyHash P (Str.ofString "__annotations__"), key := Value.str (Str.ofString "__annotations__") 170, val := Value.ref 6 } (List.cons { hash := PyData.keyHash P (Str.ofString "__builtins__"), key := Value.str (Str.ofString "__builtins__") 171, val := Value.ref 4 } (List.cons { hash := PyData.keyHash P (Str.ofString "__file__"), key := Value.str (Str.ofString "__file__") 173, val := Value.str (Str.ofString "/claim/cut.py") 172 } (List.cons { hash := PyData.keyHash P (Str.ofString "__cached__"), key := Value.str (Str.ofString "__cached__") 174, val := Value.none } (List.cons { hash := PyData.keyHash P (Str.ofString "_wall"), key := Value.str (Str.ofString "_wall") 193, val := Value.ref 21 } (List.cons { hash := PyData.keyHash P (Str.ofString "PostError"), key := Value.str (Str.ofString "PostError") 235, val := Value.ref 46 } (List.cons { hash := PyData.keyHash P (Str.ofString "WordFault"), key := Value.str (Str.ofString "WordFault") 251, val := Value.ref 59 } (List.cons { hash := PyData.keyHash P (Str.ofString "CRLF"), key := Value.str (Str.ofString "CRLF") 253, val := Value.bytes (List.cons 13 (List.cons 10 List.nil)).toArray 252 } (List.cons { hash := PyData.keyHash P (Str.ofString "WHITE"), key := Value.str (Str.ofString "WHITE") 258, val := Value.ref 62 } List.nil)))))))))))))).toArray 14 }
noncomputable def hd.o_88 (P : Params) : Obj := { cls := Value.none, data := Data.fields (List.cons (Value.int 1 0) (List.cons (Value.int 0 0) (List.cons (Value.ref 20) (List.cons (Value.int 5 0) (List.cons (Value.int 0 0) (List.cons (Value.ref 27) (List.cons (Value.int 14 0) (List.cons (Value.int 0 0) (List.cons (Value.ref 55) List.nil))))))))).toArray }
noncomputable def hd.o_89 (P : Params) : Obj := hd.kAt P (nat_lit 46)
noncomputable def hd.o_90 (P : Params) : Obj := hd.kAt P (nat_lit 50)
noncomputable def hd.o_91 (P : Params) : Obj := { cls := Value.type "builtin_function_or_method", data := Data.fields (List.cons (Value.builtin "type.__prepare__") (List.cons (Value.type "type") List.nil)).toArray }
noncomputable def hd.o_92 (P : Params) : Obj := { cls := Value.type "dict", data := Data.dict (List.cons { hash := PyData.keyHash P (Str.ofString "__module__"), key := Value.str (Str.ofString "__module__") 243, val := Value.str (Str.ofString "postkeep.errors") 194 } (List.cons { hash := PyData.keyHash P (Str.ofString "__qualname__"), key := Value.str (Str.ofString "__qualname__") 245, val := Value.str (Str.ofString "WordFault") 244 } (List.cons { hash := PyData.keyHash P (Str.ofString "__firstlineno__"), key := Value.str (Str.ofString "__firstlineno__") 247, val := Value.int 14 246 } (List.cons { hash := PyData.keyHash P (Str.ofString "__static_attributes__"), key := Value.str (Str.ofString "__static_attributes__") 248, val := Value.ref 57 } List.nil)))).toArray 4 }
noncomputable def hd.o_93 (P : Params) : Obj := hd.kAt P (nat_lit 15)
noncomputable def hd.o_94 (P : Params) : Obj := { cls := Value.none, data := Data.fields List.nil.toArray }
noncomputable def hd.o_95 (P : Params) : Obj := { cls := Value.type "code", data := Data.fields (List.cons (Value.str (Str.ofString "WordFault") 238) (List.cons (Value.str (Str.ofString "WordFault") 239) (List.cons (Value.str (Str.ofString "/claim/cut.py") 240) (List.cons (Value.int 14 0) (List.cons (Value.int 0 0) (List.cons (Value.int 0 0) (List.cons (Value.int 0 0) (List.cons (Value.int 0 0) (List.cons (Value.ref 53) (List.cons (Value.bool false) (List.cons (Value.int 181 0) (List.cons (Value.ref 54) (List.cons Value.none (List.cons Value.none (List.cons Value.none (List.cons Value.none (List.cons (Value.int 241 0) (List.cons (Value.int 14 0) (List.cons (Value.str (Str.ofString "/claim/cut.py") 242) List.nil))))))))))))))))))).toArray }
noncomputable def hd.o_96 (P : Params) : Obj := { cls := Value.type "frame", slots := (List.cons (some (Value.ref 55)) (List.cons (some (Value.ref 3)) (List.cons (some (Value.ref 52)) (List.cons none (List.cons (some (Value.str (Str.ofString "postkeep.errors") 194)) (List.cons none (List.cons (some (Value.ref 0)) List.nil))))))).toArray }
noncomputable def hd.o_97 (P : Params) : Obj := hd.kAt P (nat_lit 15)
noncomputable def hd.o_98 (P : Params) : Obj := hd.kAt P (nat_lit 58)
noncomputable def hd.o_99 (P : Params) : Obj := hd.kAt P (nat_lit 59)
noncomputable def hd.o_100 (P : Params) : Obj := { cls := Value.type "super", data := Data.fields (List.cons (Value.ref 59) (List.cons (Value.ref 59) (List.cons (Value.ref 59) List.nil))).toArray }
noncomputable def hd.o_101 (P : Params) : Obj := { cls := Value.type "builtin_function_or_method", data := Data.fields (List.cons (Value.builtin "object.__init_subclass__") (List.cons (Value.ref 59) List.nil)).toArray }
noncomputable def hd.o_102 (P : Params) : Obj := hd.kAt P (nat_lit 62)
noncomputable def hd.o_103 (P : Params) : Obj := { cls := Value.type "dict", data := Data.dict (List.cons { hash := PyData.keyHash P (Str.ofString "__name__"), key := Value.str (Str.ofString "__name__") 165, val := Value.str (Str.ofString "postkeep.headers") 254 } (List.cons { hash := PyData.keyHash P (Str.ofString "__doc__"), key := Value.str (Str.ofString "__doc__") 166, val := Value.none } (List.cons { hash := PyData.keyHash P (Str.ofString "__package__"), key := Value.str (Str.ofString "__package__") 167, val := Value.none } (List.cons { hash := PyData.keyHash P (Str.ofString "__loader__"), key := Value.str (Str.ofString "__loader__") 168, val := Value.builtin "__main__.__loader__#opaque" } (List.cons { hash := PyData.keyHash P (Str.ofString "__spec__"), key := Value.str (Str.ofString "__spec__") 169, val := Value.none } (List.cons { hash := PyData.keyHash P (Str.ofString "__annotations__"), key := Value.str (Str.ofString "__annotations__") 170, val := Value.ref 6 } (List.cons { hash := PyData.keyHash P (Str.ofString "__builtins__"), key := Value.str (Str.ofString "__builtins__") 171, val := Value.ref 4 } (List.cons { hash := PyData.keyHash P (Str.ofString "__file__"), key := Value.str (Str.ofString "__file__") 173, val := Value.str (Str.ofString "/claim/cut.py") 172 } (List.cons { hash := PyData.keyHash P (Str.ofString "__cached__"), key := Value.str (Str.ofString "__cached__") 174, val := Value.none } (List.cons { hash := PyData.keyHash P (Str.ofString "_wall"), key := Value.str (Str.ofString "_wall") 193, val := Value.ref 21 } (List.cons { hash := PyData.keyHash P (Str.ofString "PostError"), key := Value.str (Str.ofString "PostError") 235, val := Value.ref 46 } (List.cons { hash := PyData.keyHash P (Str.ofString "WordFault"), key := Value.str (Str.ofString "WordFault") 251, val := Value.ref 59 } (List.cons { hash := PyData.keyHash P (Str.ofString "CRLF"), key := Value.str (Str.ofString "CRLF") 253, val := Value.bytes (List.cons 13 (List.cons 10 List.nil)).toArray 252 } (List.cons { hash := PyData.keyHash P (Str.ofString "WHITE"), key := Value.str (Str.ofString "WHITE") 258, val := Value.ref 62 } (List.cons { hash := PyData.keyHash P (Str.ofString "Field"), key := Value.str (Str.ofString "Field") 303, val := Value.ref 93 } (List.cons { hash := PyData.keyHash P (Str.ofString "line_at"), key := Value.str (Str.ofString "line_at") 313, val := Value.ref 104 } (List.cons { hash := PyData.keyHash P (Str.ofString "is_name"), key := Value.str (Str.ofString "is_name") 321, val := Value.ref 111 } (List.cons { hash := PyData.keyHash P (Str.ofString "colon_in"), key := Value.str (Str.ofString "colon_in") 331, val := Value.ref 118 } List.nil)))))))))))))))))).toArray 18 }
noncomputable def hd.o_104 (P : Params) : Obj := { cls := Value.none, data := Data.fields (List.cons (Value.int 1 0) (List.cons (Value.int 0 0) (List.cons (Value.ref 20) (List.cons (Value.int 5 0) (List.cons (Value.int 0 0) (List.cons (Value.ref 27) (List.cons (Value.int 14 0) (List.cons (Value.int 0 0) (List.cons (Value.ref 55) (List.cons (Value.int 19 0) (List.cons (Value.int 0 0) (List.cons (Value.ref 68) (List.cons (Value.int 30 0) (List.cons (Value.int 0 0) (List.cons (Value.ref 103) (List.cons (Value.int 37 0) (List.cons (Value.int 0 0) (List.cons (Value.ref 110) (List.cons (Value.int 42 0) (List.cons (Value.int 0 0) (List.cons (Value.ref 117) List.nil))))))))))))))))))))).toArray }
noncomputable def hd.o_105 (P : Params) : Obj := hd.kAt P (nat_lit 15)
noncomputable def hd.o_106 (P : Params) : Obj := { cls := Value.type "builtin_function_or_method", data := Data.fields (List.cons (Value.builtin "type.__prepare__") (List.cons (Value.type "type") List.nil)).toArray }
noncomputable def hd.o_107 (P : Params) : Obj := { cls := Value.type "dict", data := Data.dict (List.cons { hash := PyData.keyHash P (Str.ofString "__module__"), key := Value.str (Str.ofString "__module__") 266, val := Value.str (Str.ofString "postkeep.headers") 254 } (List.cons { hash := PyData.keyHash P (Str.ofString "__qualname__"), key := Value.str (Str.ofString "__qualname__") 268, val := Value.str (Str.ofString "Field") 267 } (List.cons { hash := PyData.keyHash P (Str.ofString "__firstlineno__"), key := Value.str (Str.ofString "__firstlineno__") 270, val := Value.int 19 269 } (List.cons { hash := PyData.keyHash P (Str.ofString "__init__"), key := Value.str (Str.ofString "__init__") 279, val := Value.ref 76 } (List.cons { hash := PyData.keyHash P (Str.ofString "word"), key := Value.str (Str.ofString "word") 286, val := Value.ref 83 } (List.cons { hash := PyData.keyHash P (Str.ofString "told"), key := Value.str (Str.ofString "told") 293, val := Value.ref 90 } (List.cons { hash := PyData.keyHash P (Str.ofString "__static_attributes__"), key := Value.str (Str.ofString "__static_attributes__") 296, val := Value.ref 91 } List.nil))))))).toArray 7 }
noncomputable def hd.o_108 (P : Params) : Obj := hd.kAt P (nat_lit 15)
noncomputable def hd.o_109 (P : Params) : Obj := { cls := Value.none, data := Data.fields (List.cons (Value.int 21 0) (List.cons (Value.int 4 0) (List.cons (Value.ref 75) (List.cons (Value.int 25 0) (List.cons (Value.int 4 0) (List.cons (Value.ref 82) (List.cons (Value.int 28 0) (List.cons (Value.int 4 0) (List.cons (Value.ref 89) List.nil))))))))).toArray }
noncomputable def hd.o_110 (P : Params) : Obj := { cls := Value.type "code", data := Data.fields (List.cons (Value.str (Str.ofString "Field") 261) (List.cons (Value.str (Str.ofString "Field") 262) (List.cons (Value.str (Str.ofString "/claim/cut.py") 263) (List.cons (Value.int 19 0) (List.cons (Value.int 0 0) (List.cons (Value.int 0 0) (List.cons (Value.int 0 0) (List.cons (Value.int 0 0) (List.cons (Value.ref 66) (List.cons (Value.bool false) (List.cons (Value.int 181 0) (List.cons (Value.ref 67) (List.cons Value.none (List.cons Value.none (List.cons Value.none (List.cons Value.none (List.cons (Value.int 264 0) (List.cons (Value.int 19 0) (List.cons (Value.str (Str.ofString "/claim/cut.py") 265) List.nil))))))))))))))))))).toArray }
noncomputable def hd.o_111 (P : Params) : Obj := { cls := Value.type "frame", slots := (List.cons (some (Value.ref 68)) (List.cons (some (Value.ref 3)) (List.cons (some (Value.ref 65)) (List.cons none (List.cons (some (Value.str (Str.ofString "postkeep.headers") 254)) (List.cons none (List.cons (some (Value.ref 0)) List.nil))))))).toArray }
noncomputable def hd.o_112 (P : Params) : Obj := hd.kAt P (nat_lit 15)
noncomputable def hd.o_113 (P : Params) : Obj := { cls := Value.none, data := Data.fields List.nil.toArray }
noncomputable def hd.o_114 (P : Params) : Obj := hd.kAt P (nat_lit 72)
noncomputable def hd.o_115 (P : Params) : Obj := hd.kAt P (nat_lit 15)
noncomputable def hd.o_116 (P : Params) : Obj := { cls := Value.none, data := Data.func { name := Str.ofString "__init__", qualname := Str.ofString "Field.__init__", params := hd.A7_0, body := FuncBody.stmts hd.B7_0, scope := hd.S7_0, globals := 0, closure := List.nil, defaults := Value.none, kwdefaults := Value.none } }
noncomputable def hd.o_117 (P : Params) : Obj := hd.kAt P (nat_lit 75)
noncomputable def hd.o_118 (P : Params) : Obj := hd.kAt P (nat_lit 76)
noncomputable def hd.o_119 (P : Params) : Obj := hd.kAt P (nat_lit 15)
noncomputable def hd.o_120 (P : Params) : Obj := { cls := Value.none, data := Data.fields List.nil.toArray }
noncomputable def hd.o_121 (P : Params) : Obj := hd.kAt P (nat_lit 79)
noncomputable def hd.o_122 (P : Params) : Obj := hd.kAt P (nat_lit 15)
noncomputable def hd.o_123 (P : Params) : Obj := { cls := Value.none, data := Data.func { name := Str.ofString "word", qualname := Str.ofString "Field.word", params := hd.A7_1, body := FuncBody.stmts hd.B7_1, scope := hd.S7_1, globals := 0, closure := List.nil, defaults := Value.none, kwdefaults := Value.none } }
noncomputable def hd.o_124 (P : Params) : Obj := hd.kAt P (nat_lit 82)
noncomputable def hd.o_125 (P : Params) : Obj := hd.kAt P (nat_lit 83)
noncomputable def hd.o_126 (P : Params) : Obj := hd.kAt P (nat_lit 15)
noncomputable def hd.o_127 (P : Params) : Obj := { cls := Value.none, data := Data.fields List.nil.toArray }
noncomputable def hd.o_128 (P : Params) : Obj := hd.kAt P (nat_lit 86)
noncomputable def hd.o_129 (P : Params) : Obj := hd.kAt P (nat_lit 15)
noncomputable def hd.o_130 (P : Params) : Obj := { cls := Value.none, data := Data.func { name := Str.ofString "told", qualname := Str.ofString "Field.told", params := hd.A7_2, body := FuncBody.stmts hd.B7_2, scope := hd.S2_1, globals := 0, closure := List.nil, defaults := Value.none, kwdefaults := Value.none } }
noncomputable def hd.o_131 (P : Params) : Obj := hd.kAt P (nat_lit 89)
noncomputable def hd.o_132 (P : Params) : Obj := hd.kAt P (nat_lit 90)
noncomputable def hd.o_133 (P : Params) : Obj := hd.kAt P (nat_lit 91)
noncomputable def hd.o_134 (P : Params) : Obj := hd.kAt P (nat_lit 92)
noncomputable def hd.o_135 (P : Params) : Obj := hd.kAt P (nat_lit 93)
noncomputable def hd.o_136 (P : Params) : Obj := hd.kAt P (nat_lit 94)
noncomputable def hd.o_137 (P : Params) : Obj := hd.kAt P (nat_lit 95)
noncomputable def hd.o_138 (P : Params) : Obj := { cls := Value.type "super", data := Data.fields (List.cons (Value.ref 93) (List.cons (Value.ref 93) (List.cons (Value.ref 93) List.nil))).toArray }
noncomputable def hd.o_139 (P : Params) : Obj := { cls := Value.type "builtin_function_or_method", data := Data.fields (List.cons (Value.builtin "object.__init_subclass__") (List.cons (Value.ref 93) List.nil)).toArray }
noncomputable def hd.o_140 (P : Params) : Obj := hd.kAt P (nat_lit 15)
noncomputable def hd.o_141 (P : Params) : Obj := { cls := Value.none, data := Data.fields List.nil.toArray }
noncomputable def hd.o_142 (P : Params) : Obj := hd.kAt P (nat_lit 100)
noncomputable def hd.o_143 (P : Params) : Obj := hd.kAt P (nat_lit 15)
noncomputable def hd.o_144 (P : Params) : Obj := { cls := Value.none, data := Data.func { name := Str.ofString "line_at", qualname := Str.ofString "line_at", params := hd.A8, body := FuncBody.stmts hd.B8, scope := hd.S8, globals := 0, closure := List.nil, defaults := Value.none, kwdefaults := Value.none } }
noncomputable def hd.o_145 (P : Params) : Obj := hd.kAt P (nat_lit 103)
noncomputable def hd.o_146 (P : Params) : Obj := hd.kAt P (nat_lit 104)
noncomputable def hd.o_147 (P : Params) : Obj := hd.kAt P (nat_lit 15)
noncomputable def hd.o_148 (P : Params) : Obj := { cls := Value.none, data := Data.fields List.nil.toArray }
noncomputable def hd.o_149 (P : Params) : Obj := hd.kAt P (nat_lit 107)
noncomputable def hd.o_150 (P : Params) : Obj := hd.kAt P (nat_lit 15)
noncomputable def hd.o_151 (P : Params) : Obj := { cls := Value.none, data := Data.func { name := Str.ofString "is_name", qualname := Str.ofString "is_name", params := hd.A9, body := FuncBody.stmts hd.B9, scope := hd.S9, globals := 0, closure := List.nil, defaults := Value.none, kwdefaults := Value.none } }
noncomputable def hd.o_152 (P : Params) : Obj := hd.kAt P (nat_lit 110)
noncomputable def hd.o_153 (P : Params) : Obj := hd.kAt P (nat_lit 111)
noncomputable def hd.o_154 (P : Params) : Obj := hd.kAt P (nat_lit 15)
noncomputable def hd.o_155 (P : Params) : Obj := { cls := Value.none, data := Data.fields List.nil.toArray }
noncomputable def hd.o_156 (P : Params) : Obj := hd.kAt P (nat_lit 114)
noncomputable def hd.o_157 (P : Params) : Obj := hd.kAt P (nat_lit 15)
noncomputable def hd.o_158 (P : Params) : Obj := { cls := Value.none, data := Data.func { name := Str.ofString "colon_in", qualname := Str.ofString "colon_in", params := hd.A10, body := FuncBody.stmts hd.B10, scope := hd.S10, globals := 0, closure := List.nil, defaults := Value.none, kwdefaults := Value.none } }
noncomputable def hd.o_159 (P : Params) : Obj := hd.kAt P (nat_lit 117)
noncomputable def hd.o_160 (P : Params) : Obj := hd.kAt P (nat_lit 118)
noncomputable def hd.o_161 (P : Params) : Obj := { cls := Value.type "dict", data := Data.dict (List.cons { hash := PyData.keyHash P (Str.ofString "__name__"), key := Value.str (Str.ofString "__name__") 165, val := Value.str (Str.ofString "law_no0361_01") 435 } (List.cons { hash := PyData.keyHash P (Str.ofString "__doc__"), key := Value.str (Str.ofString "__doc__") 166, val := Value.none } (List.cons { hash := PyData.keyHash P (Str.ofString "__package__"), key := Value.str (Str.ofString "__package__") 167, val := Value.none } (List.cons { hash := PyData.keyHash P (Str.ofString "__loader__"), key := Value.str (Str.ofString "__loader__") 168, val := Value.builtin "__main__.__loader__#opaque" } (List.cons { hash := PyData.keyHash P (Str.ofString "__spec__"), key := Value.str (Str.ofString "__spec__") 169, val := Value.none } (List.cons { hash := PyData.keyHash P (Str.ofString "__annotations__"), key := Value.str (Str.ofString "__annotations__") 170, val := Value.ref 6 } (List.cons { hash := PyData.keyHash P (Str.ofString "__builtins__"), key := Value.str (Str.ofString "__builtins__") 171, val := Value.ref 4 } (List.cons { hash := PyData.keyHash P (Str.ofString "__file__"), key := Value.str (Str.ofString "__file__") 173, val := Value.str (Str.ofString "/claim/cut.py") 172 } (List.cons { hash := PyData.keyHash P (Str.ofString "__cached__"), key := Value.str (Str.ofString "__cached__") 174, val := Value.none } (List.cons { hash := PyData.keyHash P (Str.ofString "_wall"), key := Value.str (Str.ofString "_wall") 193, val := Value.ref 21 } (List.cons { hash := PyData.keyHash P (Str.ofString "PostError"), key := Value.str (Str.ofString "PostError") 235, val := Value.ref 46 } (List.cons { hash := PyData.keyHash P (Str.ofString "WordFault"), key := Value.str (Str.ofString "WordFault") 251, val := Value.ref 59 } (List.cons { hash := PyData.keyHash P (Str.ofString "CRLF"), key := Value.str (Str.ofString "CRLF") 253, val := Value.bytes (List.cons 13 (List.cons 10 List.nil)).toArray 252 } (List.cons { hash := PyData.keyHash P (Str.ofString "WHITE"), key := Value.str (Str.ofString "WHITE") 258, val := Value.ref 62 } (List.cons { hash := PyData.keyHash P (Str.ofString "Field"), key := Value.str (Str.ofString "Field") 303, val := Value.ref 93 } (List.cons { hash := PyData.keyHash P (Str.ofString "line_at"), key := Value.str (Str.ofString "line_at") 313, val := Value.ref 104 } (List.cons { hash := PyData.keyHash P (Str.ofString "is_name"), key := Value.str (Str.ofString "is_name") 321, val := Value.ref 111 } (List.cons { hash := PyData.keyHash P (Str.ofString "colon_in"), key := Value.str (Str.ofString "colon_in") 331, val := Value.ref 118 } (List.cons { hash := PyData.keyHash P (Str.ofString "read_spans"), key := Value.str (Str.ofString "read_spans") 349, val := Value.ref 126 } (List.cons { hash := PyData.keyHash P (Str.ofString "read_fields"), key := Value.str (Str.ofString "read_fields") 358, val := Value.ref 132 } (List.cons { hash := PyData.keyHash P (Str.ofString "rows_of"), key := Value.str (Str.ofString "rows_of") 369, val := Value.ref 139 } (List.cons { hash := PyData.keyHash P (Str.ofString "unfolded"), key := Value.str (Str.ofString "unfolded") 376, val := Value.ref 146 } (List.cons { hash := PyData.keyHash P (Str.ofString "pieces_of"), key := Value.str (Str.ofString "pieces_of") 386, val := Value.ref 153 } (List.cons { hash := PyData.keyHash P (Str.ofString "check_name"), key := Value.str (Str.ofString "check_name") 393, val := Value.ref 160 } (List.cons { hash := PyData.keyHash P (Str.ofString "folded"), key := Value.str (Str.ofString "folded") 409, val := Value.ref 168 } (List.cons { hash := PyData.keyHash P (Str.ofString "made_field"), key := Value.str (Str.ofString "made_field") 420, val := Value.ref 176 } (List.cons { hash := PyData.keyHash P (Str.ofString "is_sound"), key := Value.str (Str.ofString "is_sound") 428, val := Value.ref 183 } (List.cons { hash := PyData.keyHash P (Str.ofString "write_fields"), key := Value.str (Str.ofString "write_fields") 434, val := Value.ref 188 } (List.cons { hash := PyData.keyHash P (Str.ofString "_law_take"), key := Value.str (Str.ofString "_law_take") 445, val := Value.ref 195 } List.nil))))))))))))))))))))))))))))).toArray 29 }
noncomputable def hd.o_162 (P : Params) : Obj := { cls := Value.none, data := Data.fields (List.cons (Value.int 1 0) (List.cons (Value.int 0 0) (List.cons (Value.ref 20) (List.cons (Value.int 5 0) (List.cons (Value.int 0 0) (List.cons (Value.ref 27) (List.cons (Value.int 14 0) (List.cons (Value.int 0 0) (List.cons (Value.ref 55) (List.cons (Value.int 19 0) (List.cons (Value.int 0 0) (List.cons (Value.ref 68) (List.cons (Value.int 30 0) (List.cons (Value.int 0 0) (List.cons (Value.ref 103) (List.cons (Value.int 37 0) (List.cons (Value.int 0 0) (List.cons (Value.ref 110) (List.cons (Value.int 42 0) (List.cons (Value.int 0 0) (List.cons (Value.ref 117) (List.cons (Value.int 45 0) (List.cons (Value.int 0 0) (List.cons (Value.ref 125) (List.cons (Value.int 61 0) (List.cons (Value.int 0 0) (List.cons (Value.ref 131) (List.cons (Value.int 64 0) (List.cons (Value.int 0 0) (List.cons (Value.ref 138) (List.cons (Value.int 73 0) (List.cons (Value.int 0 0) (List.cons (Value.ref 145) (List.cons (Value.int 75 0) (List.cons (Value.int 0 0) (List.cons (Value.ref 152) (List.cons (Value.int 86 0) (List.cons (Value.int 0 0) (List.cons (Value.ref 159) (List.cons (Value.int 89 0) (List.cons (Value.int 0 0) (List.cons (Value.ref 167) (List.cons (Value.int 103 0) (List.cons (Value.int 0 0) (List.cons (Value.ref 175) (List.cons (Value.int 106 0) (List.cons (Value.int 0 0) (List.cons (Value.ref 182) (List.cons (Value.int 113 0) (List.cons (Value.int 0 0) (List.cons (Value.ref 187) (List.cons (Value.int 119 0) (List.cons (Value.int 0 0) (List.cons (Value.ref 194) List.nil)))))))))))))))))))))))))))))))))))))))))))))))))))))).toArray }
noncomputable def hd.o_163 (P : Params) : Obj := hd.kAt P (nat_lit 119)
noncomputable def hd.o_164 (P : Params) : Obj := hd.kAt P (nat_lit 15)
noncomputable def hd.o_165 (P : Params) : Obj := { cls := Value.none, data := Data.fields List.nil.toArray }
noncomputable def hd.o_166 (P : Params) : Obj := hd.kAt P (nat_lit 122)
noncomputable def hd.o_167 (P : Params) : Obj := hd.kAt P (nat_lit 15)
noncomputable def hd.o_168 (P : Params) : Obj := { cls := Value.none, data := Data.func { name := Str.ofString "read_spans", qualname := Str.ofString "read_spans", params := hd.A11, body := FuncBody.stmts hd.B11, scope := hd.S11, globals := 0, closure := List.nil, defaults := Value.none, kwdefaults := Value.none } }
noncomputable def hd.o_169 (P : Params) : Obj := hd.kAt P (nat_lit 125)
noncomputable def hd.o_170 (P : Params) : Obj := hd.kAt P (nat_lit 126)
noncomputable def hd.o_171 (P : Params) : Obj := hd.kAt P (nat_lit 127)
noncomputable def hd.o_172 (P : Params) : Obj := hd.kAt P (nat_lit 15)
noncomputable def hd.o_173 (P : Params) : Obj := { cls := Value.none, data := Data.fields List.nil.toArray }
noncomputable def hd.o_174 (P : Params) : Obj := { cls := Value.none, data := Data.func { name := Str.ofString "read_fields", qualname := Str.ofString "read_fields", params := hd.A12, body := FuncBody.stmts hd.B12, scope := hd.S12, globals := 0, closure := List.nil, defaults := Value.none, kwdefaults := Value.none } }
noncomputable def hd.o_175 (P : Params) : Obj := hd.kAt P (nat_lit 131)
noncomputable def hd.o_176 (P : Params) : Obj := hd.kAt P (nat_lit 132)
noncomputable def hd.o_177 (P : Params) : Obj := hd.kAt P (nat_lit 15)
noncomputable def hd.o_178 (P : Params) : Obj := { cls := Value.none, data := Data.fields List.nil.toArray }
noncomputable def hd.o_179 (P : Params) : Obj := hd.kAt P (nat_lit 135)
noncomputable def hd.o_180 (P : Params) : Obj := hd.kAt P (nat_lit 15)
noncomputable def hd.o_181 (P : Params) : Obj := { cls := Value.none, data := Data.func { name := Str.ofString "rows_of", qualname := Str.ofString "rows_of", params := hd.A13, body := FuncBody.stmts hd.B13, scope := hd.S13, globals := 0, closure := List.nil, defaults := Value.none, kwdefaults := Value.none } }
noncomputable def hd.o_182 (P : Params) : Obj := hd.kAt P (nat_lit 138)
noncomputable def hd.o_183 (P : Params) : Obj := hd.kAt P (nat_lit 139)
noncomputable def hd.o_184 (P : Params) : Obj := hd.kAt P (nat_lit 15)
noncomputable def hd.o_185 (P : Params) : Obj := { cls := Value.none, data := Data.fields List.nil.toArray }
noncomputable def hd.o_186 (P : Params) : Obj := hd.kAt P (nat_lit 142)
noncomputable def hd.o_187 (P : Params) : Obj := hd.kAt P (nat_lit 15)
noncomputable def hd.o_188 (P : Params) : Obj := { cls := Value.none, data := Data.func { name := Str.ofString "unfolded", qualname := Str.ofString "unfolded", params := hd.A14, body := FuncBody.stmts hd.B14, scope := hd.S14, globals := 0, closure := List.nil, defaults := Value.none, kwdefaults := Value.none } }
noncomputable def hd.o_189 (P : Params) : Obj := hd.kAt P (nat_lit 145)
noncomputable def hd.o_190 (P : Params) : Obj := hd.kAt P (nat_lit 146)
noncomputable def hd.o_191 (P : Params) : Obj := hd.kAt P (nat_lit 15)
noncomputable def hd.o_192 (P : Params) : Obj := { cls := Value.none, data := Data.fields List.nil.toArray }
noncomputable def hd.o_193 (P : Params) : Obj := hd.kAt P (nat_lit 149)
noncomputable def hd.o_194 (P : Params) : Obj := hd.kAt P (nat_lit 15)
noncomputable def hd.o_195 (P : Params) : Obj := { cls := Value.none, data := Data.func { name := Str.ofString "pieces_of", qualname := Str.ofString "pieces_of", params := hd.A15, body := FuncBody.stmts hd.B15, scope := hd.S15, globals := 0, closure := List.nil, defaults := Value.none, kwdefaults := Value.none } }
noncomputable def hd.o_196 (P : Params) : Obj := hd.kAt P (nat_lit 152)
noncomputable def hd.o_197 (P : Params) : Obj := hd.kAt P (nat_lit 153)
noncomputable def hd.o_198 (P : Params) : Obj := hd.kAt P (nat_lit 15)
noncomputable def hd.o_199 (P : Params) : Obj := { cls := Value.none, data := Data.fields List.nil.toArray }
noncomputable def hd.o_200 (P : Params) : Obj := hd.kAt P (nat_lit 156)
noncomputable def hd.o_201 (P : Params) : Obj := hd.kAt P (nat_lit 15)
noncomputable def hd.o_202 (P : Params) : Obj := { cls := Value.none, data := Data.func { name := Str.ofString "check_name", qualname := Str.ofString "check_name", params := hd.A16, body := FuncBody.stmts hd.B16, scope := hd.S16, globals := 0, closure := List.nil, defaults := Value.none, kwdefaults := Value.none } }
noncomputable def hd.o_203 (P : Params) : Obj := hd.kAt P (nat_lit 159)
noncomputable def hd.o_204 (P : Params) : Obj := hd.kAt P (nat_lit 160)
noncomputable def hd.o_205 (P : Params) : Obj := hd.kAt P (nat_lit 161)
noncomputable def hd.o_206 (P : Params) : Obj := hd.kAt P (nat_lit 15)
noncomputable def hd.o_207 (P : Params) : Obj := { cls := Value.none, data := Data.fields List.nil.toArray }
noncomputable def hd.o_208 (P : Params) : Obj := hd.kAt P (nat_lit 164)
noncomputable def hd.o_209 (P : Params) : Obj := hd.kAt P (nat_lit 15)
noncomputable def hd.o_210 (P : Params) : Obj := { cls := Value.none, data := Data.func { name := Str.ofString "folded", qualname := Str.ofString "folded", params := hd.A17, body := FuncBody.stmts hd.B17, scope := hd.S17, globals := 0, closure := List.nil, defaults := Value.none, kwdefaults := Value.none } }
noncomputable def hd.o_211 (P : Params) : Obj := hd.kAt P (nat_lit 167)
noncomputable def hd.o_212 (P : Params) : Obj := hd.kAt P (nat_lit 168)
noncomputable def hd.o_213 (P : Params) : Obj := hd.kAt P (nat_lit 169)
noncomputable def hd.o_214 (P : Params) : Obj := hd.kAt P (nat_lit 15)
noncomputable def hd.o_215 (P : Params) : Obj := { cls := Value.none, data := Data.fields List.nil.toArray }
noncomputable def hd.o_216 (P : Params) : Obj := hd.kAt P (nat_lit 172)
noncomputable def hd.o_217 (P : Params) : Obj := hd.kAt P (nat_lit 15)
noncomputable def hd.o_218 (P : Params) : Obj := { cls := Value.none, data := Data.func { name := Str.ofString "made_field", qualname := Str.ofString "made_field", params := hd.A18, body := FuncBody.stmts hd.B18, scope := hd.S18, globals := 0, closure := List.nil, defaults := Value.none, kwdefaults := Value.none } }
noncomputable def hd.o_219 (P : Params) : Obj := hd.kAt P (nat_lit 175)
noncomputable def hd.o_220 (P : Params) : Obj := hd.kAt P (nat_lit 176)
noncomputable def hd.o_221 (P : Params) : Obj := hd.kAt P (nat_lit 15)
noncomputable def hd.o_222 (P : Params) : Obj := { cls := Value.none, data := Data.fields List.nil.toArray }
noncomputable def hd.o_223 (P : Params) : Obj := hd.kAt P (nat_lit 179)
noncomputable def hd.o_224 (P : Params) : Obj := hd.kAt P (nat_lit 15)
noncomputable def hd.o_225 (P : Params) : Obj := { cls := Value.none, data := Data.func { name := Str.ofString "is_sound", qualname := Str.ofString "is_sound", params := hd.A19, body := FuncBody.stmts hd.B19, scope := hd.S19, globals := 0, closure := List.nil, defaults := Value.none, kwdefaults := Value.none } }
noncomputable def hd.o_226 (P : Params) : Obj := hd.kAt P (nat_lit 182)
noncomputable def hd.o_227 (P : Params) : Obj := hd.kAt P (nat_lit 183)
noncomputable def hd.o_228 (P : Params) : Obj := hd.kAt P (nat_lit 15)
noncomputable def hd.o_229 (P : Params) : Obj := { cls := Value.none, data := Data.fields List.nil.toArray }
noncomputable def hd.o_230 (P : Params) : Obj := { cls := Value.none, data := Data.func { name := Str.ofString "write_fields", qualname := Str.ofString "write_fields", params := hd.A20, body := FuncBody.stmts hd.B20, scope := hd.S20, globals := 0, closure := List.nil, defaults := Value.none, kwdefaults := Value.none } }
noncomputable def hd.o_231 (P : Params) : Obj := hd.kAt P (nat_lit 187)
noncomputable def hd.o_232 (P : Params) : Obj := hd.kAt P (nat_lit 188)
noncomputable def hd.o_233 (P : Params) : Obj := hd.kAt P (nat_lit 15)
noncomputable def hd.o_234 (P : Params) : Obj := { cls := Value.none, data := Data.fields List.nil.toArray }
noncomputable def hd.o_235 (P : Params) : Obj := hd.kAt P (nat_lit 191)
noncomputable def hd.o_236 (P : Params) : Obj := hd.kAt P (nat_lit 15)
noncomputable def hd.o_237 (P : Params) : Obj := { cls := Value.none, data := Data.func { name := Str.ofString "_law_take", qualname := Str.ofString "_law_take", params := hd.A22, body := FuncBody.stmts hd.B22, scope := hd.S22, globals := 0, closure := List.nil, defaults := Value.none, kwdefaults := Value.none } }
noncomputable def hd.o_238 (P : Params) : Obj := hd.kAt P (nat_lit 194)
noncomputable def hd.o_239 (P : Params) : Obj := hd.kAt P (nat_lit 195)
noncomputable def hd.o_240 (P : Params) : Obj := hd.kAt P (nat_lit 3)
noncomputable def hd.o_241 (P : Params) : Obj := { cls := Value.none, data := Data.fields (List.cons (Value.int 1 0) (List.cons (Value.int 0 0) (List.cons (Value.ref 20) (List.cons (Value.int 5 0) (List.cons (Value.int 0 0) (List.cons (Value.ref 27) (List.cons (Value.int 14 0) (List.cons (Value.int 0 0) (List.cons (Value.ref 55) (List.cons (Value.int 19 0) (List.cons (Value.int 0 0) (List.cons (Value.ref 68) (List.cons (Value.int 30 0) (List.cons (Value.int 0 0) (List.cons (Value.ref 103) (List.cons (Value.int 37 0) (List.cons (Value.int 0 0) (List.cons (Value.ref 110) (List.cons (Value.int 42 0) (List.cons (Value.int 0 0) (List.cons (Value.ref 117) (List.cons (Value.int 45 0) (List.cons (Value.int 0 0) (List.cons (Value.ref 125) (List.cons (Value.int 61 0) (List.cons (Value.int 0 0) (List.cons (Value.ref 131) (List.cons (Value.int 64 0) (List.cons (Value.int 0 0) (List.cons (Value.ref 138) (List.cons (Value.int 73 0) (List.cons (Value.int 0 0) (List.cons (Value.ref 145) (List.cons (Value.int 75 0) (List.cons (Value.int 0 0) (List.cons (Value.ref 152) (List.cons (Value.int 86 0) (List.cons (Value.int 0 0) (List.cons (Value.ref 159) (List.cons (Value.int 89 0) (List.cons (Value.int 0 0) (List.cons (Value.ref 167) (List.cons (Value.int 103 0) (List.cons (Value.int 0 0) (List.cons (Value.ref 175) (List.cons (Value.int 106 0) (List.cons (Value.int 0 0) (List.cons (Value.ref 182) (List.cons (Value.int 113 0) (List.cons (Value.int 0 0) (List.cons (Value.ref 187) (List.cons (Value.int 119 0) (List.cons (Value.int 0 0) (List.cons (Value.ref 194) (List.cons (Value.int 127 0) (List.cons (Value.int 0 0) (List.cons (Value.ref 201) (List.cons (Value.int 132 0) (List.cons (Value.int 0 0) (List.cons (Value.ref 206) (List.cons (Value.int 138 0) (List.cons (Value.int 0 0) (List.cons (Value.ref 213) (List.cons (Value.int 144 0) (List.cons (Value.int 0 0) (List.cons (Value.ref 220) (List.cons (Value.int 156 0) (List.cons (Value.int 0 0) (List.cons (Value.ref 225) List.nil))))))))))))))))))))))))))))))))))))))))))))))))))))))))))))))))))))).toArray }
noncomputable def hd.o_242 (P : Params) : Obj := hd.kAt P (nat_lit 15)
noncomputable def hd.o_243 (P : Params) : Obj := { cls := Value.none, data := Data.fields List.nil.toArray }
noncomputable def hd.o_244 (P : Params) : Obj := hd.kAt P (nat_lit 198)
noncomputable def hd.o_245 (P : Params) : Obj := hd.kAt P (nat_lit 15)
noncomputable def hd.o_246 (P : Params) : Obj := { cls := Value.none, data := Data.func { name := Str.ofString "_law_words", qualname := Str.ofString "_law_words", params := hd.A23, body := FuncBody.stmts hd.B23, scope := hd.S23, globals := 0, closure := List.nil, defaults := Value.none, kwdefaults := Value.none } }
noncomputable def hd.o_247 (P : Params) : Obj := hd.kAt P (nat_lit 201)
noncomputable def hd.o_248 (P : Params) : Obj := hd.kAt P (nat_lit 202)
noncomputable def hd.o_249 (P : Params) : Obj := hd.kAt P (nat_lit 15)
noncomputable def hd.o_250 (P : Params) : Obj := { cls := Value.none, data := Data.fields List.nil.toArray }
noncomputable def hd.o_251 (P : Params) : Obj := { cls := Value.none, data := Data.func { name := Str.ofString "_law_first", qualname := Str.ofString "_law_first", params := hd.A24, body := FuncBody.stmts hd.B24, scope := hd.S24, globals := 0, closure := List.nil, defaults := Value.none, kwdefaults := Value.none } }
noncomputable def hd.o_252 (P : Params) : Obj := hd.kAt P (nat_lit 206)
noncomputable def hd.o_253 (P : Params) : Obj := hd.kAt P (nat_lit 207)
noncomputable def hd.o_254 (P : Params) : Obj := hd.kAt P (nat_lit 15)
noncomputable def hd.o_255 (P : Params) : Obj := { cls := Value.none, data := Data.fields List.nil.toArray }
noncomputable def hd.o_256 (P : Params) : Obj := hd.kAt P (nat_lit 210)
noncomputable def hd.o_257 (P : Params) : Obj := hd.kAt P (nat_lit 15)
noncomputable def hd.o_258 (P : Params) : Obj := { cls := Value.none, data := Data.func { name := Str.ofString "_law_refused", qualname := Str.ofString "_law_refused", params := hd.A25, body := FuncBody.stmts hd.B25, scope := hd.S25, globals := 0, closure := List.nil, defaults := Value.none, kwdefaults := Value.none } }
noncomputable def hd.o_259 (P : Params) : Obj := hd.kAt P (nat_lit 213)
noncomputable def hd.o_260 (P : Params) : Obj := hd.kAt P (nat_lit 214)
noncomputable def hd.o_261 (P : Params) : Obj := hd.kAt P (nat_lit 15)
noncomputable def hd.o_262 (P : Params) : Obj := { cls := Value.none, data := Data.fields List.nil.toArray }
noncomputable def hd.o_263 (P : Params) : Obj := hd.kAt P (nat_lit 217)
noncomputable def hd.o_264 (P : Params) : Obj := hd.kAt P (nat_lit 15)
noncomputable def hd.o_265 (P : Params) : Obj := { cls := Value.none, data := Data.func { name := Str.ofString "_law_rows_right", qualname := Str.ofString "_law_rows_right", params := hd.A26, body := FuncBody.stmts hd.B26, scope := hd.S26, globals := 0, closure := List.nil, defaults := Value.none, kwdefaults := Value.none } }
noncomputable def hd.o_266 (P : Params) : Obj := hd.kAt P (nat_lit 220)
noncomputable def hd.o_267 (P : Params) : Obj := hd.kAt P (nat_lit 221)
noncomputable def hd.o_268 (P : Params) : Obj := hd.kAt P (nat_lit 15)
noncomputable def hd.o_269 (P : Params) : Obj := { cls := Value.none, data := Data.fields List.nil.toArray }
noncomputable def hd.o_270 (P : Params) : Obj := { cls := Value.none, data := Data.func { name := Str.ofString "law", qualname := Str.ofString "law", params := hd.A27, body := FuncBody.stmts hd.B27, scope := hd.S27, globals := 0, closure := List.nil, defaults := Value.none, kwdefaults := Value.none } }
noncomputable def hd.o_271 (P : Params) : Obj := hd.kAt P (nat_lit 225)
noncomputable def hd.o_272 (P : Params) : Obj := hd.kAt P (nat_lit 226)
noncomputable def hd.tree_47 (P : Params) : BT := (.node (PySem.W.boot_o_0 P) (.node (PySem.W.boot_o_1 P) (.node (PySem.W.boot_o_3 P) (.node (PySem.W.boot_o_7 P) .nil .nil) (.node (hd.o_43 P) .nil .nil)) (.node (PySem.W.boot_o_5 P) (.node (PySem.W.boot_o_9 P) .nil .nil) (.node (hd.o_45 P) .nil .nil))) (.node (PySem.W.boot_o_2 P) (.node (PySem.W.boot_o_4 P) (.node (PySem.W.boot_o_8 P) .nil .nil) (.node (hd.o_44 P) .nil .nil)) (.node (PySem.W.boot_o_6 P) (.node (PySem.W.boot_o_10 P) .nil .nil) (.node (hd.o_46 P) .nil .nil))))
noncomputable def hd.tree_86 (P : Params) : BT := (.node (PySem.W.boot_o_0 P) (.node (PySem.W.boot_o_1 P) (.node (hd.o_50 P) (.node (PySem.W.boot_o_7 P) (.node (hd.o_52 P) (.node (hd.o_68 P) .nil .nil) (.node (hd.o_84 P) .nil .nil)) (.node (hd.o_60 P) (.node (hd.o_76 P) .nil .nil) .nil)) (.node (hd.o_43 P) (.node (hd.o_56 P) (.node (hd.o_72 P) .nil .nil) .nil) (.node (hd.o_64 P) (.node (hd.o_80 P) .nil .nil) .nil))) (.node (PySem.W.boot_o_5 P) (.node (PySem.W.boot_o_9 P) (.node (hd.o_54 P) (.node (hd.o_70 P) .nil .nil) (.node (hd.o_86 P) .nil .nil)) (.node (hd.o_62 P) (.node (hd.o_78 P) .nil .nil) .nil)) (.node (hd.o_45 P) (.node (hd.o_58 P) (.node (hd.o_74 P) .nil .nil) .nil) (.node (hd.o_66 P) (.node (hd.o_82 P) .nil .nil) .nil)))) (.node (hd.o_49 P) (.node (PySem.W.boot_o_4 P) (.node (PySem.W.boot_o_8 P) (.node (hd.o_53 P) (.node (hd.o_69 P) .nil .nil) (.node (hd.o_85 P) .nil .nil)) (.node (hd.o_61 P) (.node (hd.o_77 P) .nil .nil) .nil)) (.node (hd.o_51 P) (.node (hd.o_57 P) (.node (hd.o_73 P) .nil .nil) .nil) (.node (hd.o_65 P) (.node (hd.o_81 P) .nil .nil) .nil))) (.node (PySem.W.boot_o_6 P) (.node (PySem.W.boot_o_10 P) (.node (hd.o_55 P) (.node (hd.o_71 P) .nil .nil) .nil) (.node (hd.o_63 P) (.node (hd.o_79 P) .nil .nil) .nil)) (.node (hd.o_46 P) (.node (hd.o_59 P) (.node (hd.o_75 P) .nil .nil) .nil) (.node (hd.o_67 P) (.node (hd.o_83 P) .nil .nil) .nil)))))
noncomputable def hd.tree_102 (P : Params) : BT := (.node (PySem.W.boot_o_0 P) (.node (PySem.W.boot_o_1 P) (.node (hd.o_87 P) (.node (PySem.W.boot_o_7 P) (.node (hd.o_52 P) (.node (hd.o_68 P) .nil .nil) (.node (hd.o_84 P) .nil .nil)) (.node (hd.o_60 P) (.node (hd.o_76 P) .nil .nil) (.node (hd.o_95 P) .nil .nil))) (.node (hd.o_43 P) (.node (hd.o_56 P) (.node (hd.o_72 P) .nil .nil) (.node (hd.o_91 P) .nil .nil)) (.node (hd.o_64 P) (.node (hd.o_80 P) .nil .nil) (.node (hd.o_99 P) .nil .nil)))) (.node (PySem.W.boot_o_5 P) (.node (PySem.W.boot_o_9 P) (.node (hd.o_54 P) (.node (hd.o_70 P) .nil .nil) (.node (hd.o_86 P) .nil .nil)) (.node (hd.o_62 P) (.node (hd.o_78 P) .nil .nil) (.node (hd.o_97 P) .nil .nil))) (.node (hd.o_45 P) (.node (hd.o_58 P) (.node (hd.o_74 P) .nil .nil) (.node (hd.o_93 P) .nil .nil)) (.node (hd.o_66 P) (.node (hd.o_82 P) .nil .nil) (.node (hd.o_101 P) .nil .nil))))) (.node (hd.o_49 P) (.node (PySem.W.boot_o_4 P) (.node (PySem.W.boot_o_8 P) (.node (hd.o_53 P) (.node (hd.o_69 P) .nil .nil) (.node (hd.o_85 P) .nil .nil)) (.node (hd.o_61 P) (.node (hd.o_77 P) .nil .nil) (.node (hd.o_96 P) .nil .nil))) (.node (hd.o_88 P) (.node (hd.o_57 P) (.node (hd.o_73 P) .nil .nil) (.node (hd.o_92 P) .nil .nil)) (.node (hd.o_65 P) (.node (hd.o_81 P) .nil .nil) (.node (hd.o_100 P) .nil .nil)))) (.node (PySem.W.boot_o_6 P) (.node (PySem.W.boot_o_10 P) (.node (hd.o_55 P) (.node (hd.o_71 P) .nil .nil) (.node (hd.o_90 P) .nil .nil)) (.node (hd.o_63 P) (.node (hd.o_79 P) .nil .nil) (.node (hd.o_98 P) .nil .nil))) (.node (hd.o_46 P) (.node (hd.o_59 P) (.node (hd.o_75 P) .nil .nil) (.node (hd.o_94 P) .nil .nil)) (.node (hd.o_67 P) (.node (hd.o_89 P) .nil .nil) (.node (hd.o_102 P) .nil .nil))))))
noncomputable def hd.tree_160 (P : Params) : BT := (.node (PySem.W.boot_o_0 P) (.node (PySem.W.boot_o_1 P) (.node (hd.o_103 P) (.node (PySem.W.boot_o_7 P) (.node (hd.o_52 P) (.node (hd.o_68 P) (.node (hd.o_105 P) .nil .nil) (.node (hd.o_137 P) .nil .nil)) (.node (hd.o_84 P) (.node (hd.o_121 P) .nil .nil) (.node (hd.o_153 P) .nil .nil))) (.node (hd.o_60 P) (.node (hd.o_76 P) (.node (hd.o_113 P) .nil .nil) (.node (hd.o_145 P) .nil .nil)) (.node (hd.o_95 P) (.node (hd.o_129 P) .nil .nil) .nil))) (.node (hd.o_43 P) (.node (hd.o_56 P) (.node (hd.o_72 P) (.node (hd.o_109 P) .nil .nil) (.node (hd.o_141 P) .nil .nil)) (.node (hd.o_91 P) (.node (hd.o_125 P) .nil .nil) (.node (hd.o_157 P) .nil .nil))) (.node (hd.o_64 P) (.node (hd.o_80 P) (.node (hd.o_117 P) .nil .nil) (.node (hd.o_149 P) .nil .nil)) (.node (hd.o_99 P) (.node (hd.o_133 P) .nil .nil) .nil)))) (.node (PySem.W.boot_o_5 P) (.node (PySem.W.boot_o_9 P) (.node (hd.o_54 P) (.node (hd.o_70 P) (.node (hd.o_107 P) .nil .nil) (.node (hd.o_139 P) .nil .nil)) (.node (hd.o_86 P) (.node (hd.o_123 P) .nil .nil) (.node (hd.o_155 P) .nil .nil))) (.node (hd.o_62 P) (.node (hd.o_78 P) (.node (hd.o_115 P) .nil .nil) (.node (hd.o_147 P) .nil .nil)) (.node (hd.o_97 P) (.node (hd.o_131 P) .nil .nil) .nil))) (.node (hd.o_45 P) (.node (hd.o_58 P) (.node (hd.o_74 P) (.node (hd.o_111 P) .nil .nil) (.node (hd.o_143 P) .nil .nil)) (.node (hd.o_93 P) (.node (hd.o_127 P) .nil .nil) (.node (hd.o_159 P) .nil .nil))) (.node (hd.o_66 P) (.node (hd.o_82 P) (.node (hd.o_119 P) .nil .nil) (.node (hd.o_151 P) .nil .nil)) (.node (hd.o_101 P) (.node (hd.o_135 P) .nil .nil) .nil))))) (.node (hd.o_49 P) (.node (PySem.W.boot_o_4 P) (.node (PySem.W.boot_o_8 P) (.node (hd.o_53 P) (.node (hd.o_69 P) (.node (hd.o_106 P) .nil .nil) (.node (hd.o_138 P) .nil .nil)) (.node (hd.o_85 P) (.node (hd.o_122 P) .nil .nil) (.node (hd.o_154 P) .nil .nil))) (.node (hd.o_61 P) (.node (hd.o_77 P) (.node (hd.o_114 P) .nil .nil) (.node (hd.o_146 P) .nil .nil)) (.node (hd.o_96 P) (.node (hd.o_130 P) .nil .nil) .nil))) (.node (hd.o_104 P) (.node (hd.o_57 P) (.node (hd.o_73 P) (.node (hd.o_110 P) .nil .nil) (.node (hd.o_142 P) .nil .nil)) (.node (hd.o_92 P) (.node (hd.o_126 P) .nil .nil) (.node (hd.o_158 P) .nil .nil))) (.node (hd.o_65 P) (.node (hd.o_81 P) (.node (hd.o_118 P) .nil .nil) (.node (hd.o_150 P) .nil .nil)) (.node (hd.o_100 P) (.node (hd.o_134 P) .nil .nil) .nil)))) (.node (PySem.W.boot_o_6 P) (.node (PySem.W.boot_o_10 P) (.node (hd.o_55 P) (.node (hd.o_71 P) (.node (hd.o_108 P) .nil .nil) (.node (hd.o_140 P) .nil .nil)) (.node (hd.o_90 P) (.node (hd.o_124 P) .nil .nil) (.node (hd.o_156 P) .nil .nil))) (.node (hd.o_63 P) (.node (hd.o_79 P) (.node (hd.o_116 P) .nil .nil) (.node (hd.o_148 P) .nil .nil)) (.node (hd.o_98 P) (.node (hd.o_132 P) .nil .nil) .nil))) (.node (hd.o_46 P) (.node (hd.o_59 P) (.node (hd.o_75 P) (.node (hd.o_112 P) .nil .nil) (.node (hd.o_144 P) .nil .nil)) (.node (hd.o_94 P) (.node (hd.o_128 P) .nil .nil) (.node (hd.o_160 P) .nil .nil))) (.node (hd.o_67 P) (.node (hd.o_89 P) (.node (hd.o_120 P) .nil .nil) (.node (hd.o_152 P) .nil .nil)) (.node (hd.o_102 P) (.node (hd.o_136 P) .nil .nil) .nil))))))
noncomputable def hd.tree_239 (P : Params) : BT := (.node (PySem.W.boot_o_0 P) (.node (PySem.W.boot_o_1 P) (.node (hd.o_161 P) (.node (PySem.W.boot_o_7 P) (.node (hd.o_52 P) (.node (hd.o_68 P) (.node (hd.o_105 P) (.node (hd.o_171 P) .nil .nil) (.node (hd.o_235 P) .nil .nil)) (.node (hd.o_137 P) (.node (hd.o_203 P) .nil .nil) .nil)) (.node (hd.o_84 P) (.node (hd.o_121 P) (.node (hd.o_187 P) .nil .nil) .nil) (.node (hd.o_153 P) (.node (hd.o_219 P) .nil .nil) .nil))) (.node (hd.o_60 P) (.node (hd.o_76 P) (.node (hd.o_113 P) (.node (hd.o_179 P) .nil .nil) .nil) (.node (hd.o_145 P) (.node (hd.o_211 P) .nil .nil) .nil)) (.node (hd.o_95 P) (.node (hd.o_129 P) (.node (hd.o_195 P) .nil .nil) .nil) (.node (hd.o_163 P) (.node (hd.o_227 P) .nil .nil) .nil)))) (.node (hd.o_43 P) (.node (hd.o_56 P) (.node (hd.o_72 P) (.node (hd.o_109 P) (.node (hd.o_175 P) .nil .nil) (.node (hd.o_239 P) .nil .nil)) (.node (hd.o_141 P) (.node (hd.o_207 P) .nil .nil) .nil)) (.node (hd.o_91 P) (.node (hd.o_125 P) (.node (hd.o_191 P) .nil .nil) .nil) (.node (hd.o_157 P) (.node (hd.o_223 P) .nil .nil) .nil))) (.node (hd.o_64 P) (.node (hd.o_80 P) (.node (hd.o_117 P) (.node (hd.o_183 P) .nil .nil) .nil) (.node (hd.o_149 P) (.node (hd.o_215 P) .nil .nil) .nil)) (.node (hd.o_99 P) (.node (hd.o_133 P) (.node (hd.o_199 P) .nil .nil) .nil) (.node (hd.o_167 P) (.node (hd.o_231 P) .nil .nil) .nil))))) (.node (PySem.W.boot_o_5 P) (.node (PySem.W.boot_o_9 P) (.node (hd.o_54 P) (.node (hd.o_70 P) (.node (hd.o_107 P) (.node (hd.o_173 P) .nil .nil) (.node (hd.o_237 P) .nil .nil)) (.node (hd.o_139 P) (.node (hd.o_205 P) .nil .nil) .nil)) (.node (hd.o_86 P) (.node (hd.o_123 P) (.node (hd.o_189 P) .nil .nil) .nil) (.node (hd.o_155 P) (.node (hd.o_221 P) .nil .nil) .nil))) (.node (hd.o_62 P) (.node (hd.o_78 P) (.node (hd.o_115 P) (.node (hd.o_181 P) .nil .nil) .nil) (.node (hd.o_147 P) (.node (hd.o_213 P) .nil .nil) .nil)) (.node (hd.o_97 P) (.node (hd.o_131 P) (.node (hd.o_197 P) .nil .nil) .nil) (.node (hd.o_165 P) (.node (hd.o_229 P) .nil .nil) .nil)))) (.node (hd.o_45 P) (.node (hd.o_58 P) (.node (hd.o_74 P) (.node (hd.o_111 P) (.node (hd.o_177 P) .nil .nil) .nil) (.node (hd.o_143 P) (.node (hd.o_209 P) .nil .nil) .nil)) (.node (hd.o_93 P) (.node (hd.o_127 P) (.node (hd.o_193 P) .nil .nil) .nil) (.node (hd.o_159 P) (.node (hd.o_225 P) .nil .nil) .nil))) (.node (hd.o_66 P) (.node (hd.o_82 P) (.node (hd.o_119 P) (.node (hd.o_185 P) .nil .nil) .nil) (.node (hd.o_151 P) (.node (hd.o_217 P) .nil .nil) .nil)) (.node (hd.o_101 P) (.node (hd.o_135 P) (.node (hd.o_201 P) .nil .nil) .nil) (.node (hd.o_169 P) (.node (hd.o_233 P) .nil .nil) .nil)))))) (.node (hd.o_49 P) (.node (PySem.W.boot_o_4 P) (.node (PySem.W.boot_o_8 P) (.node (hd.o_53 P) (.node (hd.o_69 P) (.node (hd.o_106 P) (.node (hd.o_172 P) .nil .nil) (.node (hd.o_236 P) .nil .nil)) (.node (hd.o_138 P) (.node (hd.o_204 P) .nil .nil) .nil)) (.node (hd.o_85 P) (.node (hd.o_122 P) (.node (hd.o_188 P) .nil .nil) .nil) (.node (hd.o_154 P) (.node (hd.o_220 P) .nil .nil) .nil))) (.node (hd.o_61 P) (.node (hd.o_77 P) (.node (hd.o_114 P) (.node (hd.o_180 P) .nil .nil) .nil) (.node (hd.o_146 P) (.node (hd.o_212 P) .nil .nil) .nil)) (.node (hd.o_96 P) (.node (hd.o_130 P) (.node (hd.o_196 P) .nil .nil) .nil) (.node (hd.o_164 P) (.node (hd.o_228 P) .nil .nil) .nil)))) (.node (hd.o_162 P) (.node (hd.o_57 P) (.node (hd.o_73 P) (.node (hd.o_110 P) (.node (hd.o_176 P) .nil .nil) .nil) (.node (hd.o_142 P) (.node (hd.o_208 P) .nil .nil) .nil)) (.node (hd.o_92 P) (.node (hd.o_126 P) (.node (hd.o_192 P) .nil .nil) .nil) (.node (hd.o_158 P) (.node (hd.o_224 P) .nil .nil) .nil))) (.node (hd.o_65 P) (.node (hd.o_81 P) (.node (hd.o_118 P) (.node (hd.o_184 P) .nil .nil) .nil) (.node (hd.o_150 P) (.node (hd.o_216 P) .nil .nil) .nil)) (.node (hd.o_100 P) (.node (hd.o_134 P) (.node (hd.o_200 P) .nil .nil) .nil) (.node (hd.o_168 P) (.node (hd.o_232 P) .nil .nil) .nil))))) (.node (PySem.W.boot_o_6 P) (.node (PySem.W.boot_o_10 P) (.node (hd.o_55 P) (.node (hd.o_71 P) (.node (hd.o_108 P) (.node (hd.o_174 P) .nil .nil) (.node (hd.o_238 P) .nil .nil)) (.node (hd.o_140 P) (.node (hd.o_206 P) .nil .nil) .nil)) (.node (hd.o_90 P) (.node (hd.o_124 P) (.node (hd.o_190 P) .nil .nil) .nil) (.node (hd.o_156 P) (.node (hd.o_222 P) .nil .nil) .nil))) (.node (hd.o_63 P) (.node (hd.o_79 P) (.node (hd.o_116 P) (.node (hd.o_182 P) .nil .nil) .nil) (.node (hd.o_148 P) (.node (hd.o_214 P) .nil .nil) .nil)) (.node (hd.o_98 P) (.node (hd.o_132 P) (.node (hd.o_198 P) .nil .nil) .nil) (.node (hd.o_166 P) (.node (hd.o_230 P) .nil .nil) .nil)))) (.node (hd.o_46 P) (.node (hd.o_59 P) (.node (hd.o_75 P) (.node (hd.o_112 P) (.node (hd.o_178 P) .nil .nil) .nil) (.node (hd.o_144 P) (.node (hd.o_210 P) .nil .nil) .nil)) (.node (hd.o_94 P) (.node (hd.o_128 P) (.node (hd.o_194 P) .nil .nil) .nil) (.node (hd.o_160 P) (.node (hd.o_226 P) .nil .nil) .nil))) (.node (hd.o_67 P) (.node (hd.o_89 P) (.node (hd.o_120 P) (.node (hd.o_186 P) .nil .nil) .nil) (.node (hd.o_152 P) (.node (hd.o_218 P) .nil .nil) .nil)) (.node (hd.o_102 P) (.node (hd.o_136 P) (.node (hd.o_202 P) .nil .nil) .nil) (.node (hd.o_170 P) (.node (hd.o_234 P) .nil .nil) .nil)))))))
noncomputable def hd.tree_272 (P : Params) : BT := (.node (PySem.W.boot_o_0 P) (.node (PySem.W.boot_o_1 P) (.node (hd.o_240 P) (.node (PySem.W.boot_o_7 P) (.node (hd.o_52 P) (.node (hd.o_68 P) (.node (hd.o_105 P) (.node (hd.o_171 P) .nil .nil) (.node (hd.o_235 P) .nil .nil)) (.node (hd.o_137 P) (.node (hd.o_203 P) .nil .nil) (.node (hd.o_269 P) .nil .nil))) (.node (hd.o_84 P) (.node (hd.o_121 P) (.node (hd.o_187 P) .nil .nil) (.node (hd.o_253 P) .nil .nil)) (.node (hd.o_153 P) (.node (hd.o_219 P) .nil .nil) .nil))) (.node (hd.o_60 P) (.node (hd.o_76 P) (.node (hd.o_113 P) (.node (hd.o_179 P) .nil .nil) (.node (hd.o_245 P) .nil .nil)) (.node (hd.o_145 P) (.node (hd.o_211 P) .nil .nil) .nil)) (.node (hd.o_95 P) (.node (hd.o_129 P) (.node (hd.o_195 P) .nil .nil) (.node (hd.o_261 P) .nil .nil)) (.node (hd.o_163 P) (.node (hd.o_227 P) .nil .nil) .nil)))) (.node (hd.o_43 P) (.node (hd.o_56 P) (.node (hd.o_72 P) (.node (hd.o_109 P) (.node (hd.o_175 P) .nil .nil) (.node (hd.o_239 P) .nil .nil)) (.node (hd.o_141 P) (.node (hd.o_207 P) .nil .nil) .nil)) (.node (hd.o_91 P) (.node (hd.o_125 P) (.node (hd.o_191 P) .nil .nil) (.node (hd.o_257 P) .nil .nil)) (.node (hd.o_157 P) (.node (hd.o_223 P) .nil .nil) .nil))) (.node (hd.o_64 P) (.node (hd.o_80 P) (.node (hd.o_117 P) (.node (hd.o_183 P) .nil .nil) (.node (hd.o_249 P) .nil .nil)) (.node (hd.o_149 P) (.node (hd.o_215 P) .nil .nil) .nil)) (.node (hd.o_99 P) (.node (hd.o_133 P) (.node (hd.o_199 P) .nil .nil) (.node (hd.o_265 P) .nil .nil)) (.node (hd.o_167 P) (.node (hd.o_231 P) .nil .nil) .nil))))) (.node (PySem.W.boot_o_5 P) (.node (PySem.W.boot_o_9 P) (.node (hd.o_54 P) (.node (hd.o_70 P) (.node (hd.o_107 P) (.node (hd.o_173 P) .nil .nil) (.node (hd.o_237 P) .nil .nil)) (.node (hd.o_139 P) (.node (hd.o_205 P) .nil .nil) (.node (hd.o_271 P) .nil .nil))) (.node (hd.o_86 P) (.node (hd.o_123 P) (.node (hd.o_189 P) .nil .nil) (.node (hd.o_255 P) .nil .nil)) (.node (hd.o_155 P) (.node (hd.o_221 P) .nil .nil) .nil))) (.node (hd.o_62 P) (.node (hd.o_78 P) (.node (hd.o_115 P) (.node (hd.o_181 P) .nil .nil) (.node (hd.o_247 P) .nil .nil)) (.node (hd.o_147 P) (.node (hd.o_213 P) .nil .nil) .nil)) (.node (hd.o_97 P) (.node (hd.o_131 P) (.node (hd.o_197 P) .nil .nil) (.node (hd.o_263 P) .nil .nil)) (.node (hd.o_165 P) (.node (hd.o_229 P) .nil .nil) .nil)))) (.node (hd.o_45 P) (.node (hd.o_58 P) (.node (hd.o_74 P) (.node (hd.o_111 P) (.node (hd.o_177 P) .nil .nil) (.node (hd.o_243 P) .nil .nil)) (.node (hd.o_143 P) (.node (hd.o_209 P) .nil .nil) .nil)) (.node (hd.o_93 P) (.node (hd.o_127 P) (.node (hd.o_193 P) .nil .nil) (.node (hd.o_259 P) .nil .nil)) (.node (hd.o_159 P) (.node (hd.o_225 P) .nil .nil) .nil))) (.node (hd.o_66 P) (.node (hd.o_82 P) (.node (hd.o_119 P) (.node (hd.o_185 P) .nil .nil) (.node (hd.o_251 P) .nil .nil)) (.node (hd.o_151 P) (.node (hd.o_217 P) .nil .nil) .nil)) (.node (hd.o_101 P) (.node (hd.o_135 P) (.node (hd.o_201 P) .nil .nil) (.node (hd.o_267 P) .nil .nil)) (.node (hd.o_169 P) (.node (hd.o_233 P) .nil .nil) .nil)))))) (.node (hd.o_49 P) (.node (PySem.W.boot_o_4 P) (.node (PySem.W.boot_o_8 P) (.node (hd.o_53 P) (.node (hd.o_69 P) (.node (hd.o_106 P) (.node (hd.o_172 P) .nil .nil) (.node (hd.o_236 P) .nil .nil)) (.node (hd.o_138 P) (.node (hd.o_204 P) .nil .nil) (.node (hd.o_270 P) .nil .nil))) (.node (hd.o_85 P) (.node (hd.o_122 P) (.node (hd.o_188 P) .nil .nil) (.node (hd.o_254 P) .nil .nil)) (.node (hd.o_154 P) (.node (hd.o_220 P) .nil .nil) .nil))) (.node (hd.o_61 P) (.node (hd.o_77 P) (.node (hd.o_114 P) (.node (hd.o_180 P) .nil .nil) (.node (hd.o_246 P) .nil .nil)) (.node (hd.o_146 P) (.node (hd.o_212 P) .nil .nil) .nil)) (.node (hd.o_96 P) (.node (hd.o_130 P) (.node (hd.o_196 P) .nil .nil) (.node (hd.o_262 P) .nil .nil)) (.node (hd.o_164 P) (.node (hd.o_228 P) .nil .nil) .nil)))) (.node (hd.o_241 P) (.node (hd.o_57 P) (.node (hd.o_73 P) (.node (hd.o_110 P) (.node (hd.o_176 P) .nil .nil) (.node (hd.o_242 P) .nil .nil)) (.node (hd.o_142 P) (.node (hd.o_208 P) .nil .nil) .nil)) (.node (hd.o_92 P) (.node (hd.o_126 P) (.node (hd.o_192 P) .nil .nil) (.node (hd.o_258 P) .nil .nil)) (.node (hd.o_158 P) (.node (hd.o_224 P) .nil .nil) .nil))) (.node (hd.o_65 P) (.node (hd.o_81 P) (.node (hd.o_118 P) (.node (hd.o_184 P) .nil .nil) (.node (hd.o_250 P) .nil .nil)) (.node (hd.o_150 P) (.node (hd.o_216 P) .nil .nil) .nil)) (.node (hd.o_100 P) (.node (hd.o_134 P) (.node (hd.o_200 P) .nil .nil) (.node (hd.o_266 P) .nil .nil)) (.node (hd.o_168 P) (.node (hd.o_232 P) .nil .nil) .nil))))) (.node (PySem.W.boot_o_6 P) (.node (PySem.W.boot_o_10 P) (.node (hd.o_55 P) (.node (hd.o_71 P) (.node (hd.o_108 P) (.node (hd.o_174 P) .nil .nil) (.node (hd.o_238 P) .nil .nil)) (.node (hd.o_140 P) (.node (hd.o_206 P) .nil .nil) (.node (hd.o_272 P) .nil .nil))) (.node (hd.o_90 P) (.node (hd.o_124 P) (.node (hd.o_190 P) .nil .nil) (.node (hd.o_256 P) .nil .nil)) (.node (hd.o_156 P) (.node (hd.o_222 P) .nil .nil) .nil))) (.node (hd.o_63 P) (.node (hd.o_79 P) (.node (hd.o_116 P) (.node (hd.o_182 P) .nil .nil) (.node (hd.o_248 P) .nil .nil)) (.node (hd.o_148 P) (.node (hd.o_214 P) .nil .nil) .nil)) (.node (hd.o_98 P) (.node (hd.o_132 P) (.node (hd.o_198 P) .nil .nil) (.node (hd.o_264 P) .nil .nil)) (.node (hd.o_166 P) (.node (hd.o_230 P) .nil .nil) .nil)))) (.node (hd.o_46 P) (.node (hd.o_59 P) (.node (hd.o_75 P) (.node (hd.o_112 P) (.node (hd.o_178 P) .nil .nil) (.node (hd.o_244 P) .nil .nil)) (.node (hd.o_144 P) (.node (hd.o_210 P) .nil .nil) .nil)) (.node (hd.o_94 P) (.node (hd.o_128 P) (.node (hd.o_194 P) .nil .nil) (.node (hd.o_260 P) .nil .nil)) (.node (hd.o_160 P) (.node (hd.o_226 P) .nil .nil) .nil))) (.node (hd.o_67 P) (.node (hd.o_89 P) (.node (hd.o_120 P) (.node (hd.o_186 P) .nil .nil) (.node (hd.o_252 P) .nil .nil)) (.node (hd.o_152 P) (.node (hd.o_218 P) .nil .nil) .nil)) (.node (hd.o_102 P) (.node (hd.o_136 P) (.node (hd.o_202 P) .nil .nil) (.node (hd.o_268 P) .nil .nil)) (.node (hd.o_170 P) (.node (hd.o_234 P) .nil .nil) .nil)))))))
noncomputable def hd.heap_46 (P : Params) : Heap := ⟨⟨PySem.W.boot_o_0 P :: PySem.W.boot_o_1 P :: PySem.W.boot_o_2 P :: PySem.W.boot_o_3 P :: PySem.W.boot_o_4 P :: PySem.W.boot_o_5 P :: PySem.W.boot_o_6 P :: PySem.W.boot_o_7 P :: PySem.W.boot_o_8 P :: PySem.W.boot_o_9 P :: PySem.W.boot_o_10 P :: hd.o_43 P :: hd.o_44 P :: hd.o_45 P :: hd.o_46 P :: []⟩, { }⟩
noncomputable def hd.heap_273 (P : Params) : Heap := ⟨⟨PySem.W.boot_o_0 P :: PySem.W.boot_o_1 P :: hd.o_49 P :: hd.o_240 P :: PySem.W.boot_o_4 P :: PySem.W.boot_o_5 P :: PySem.W.boot_o_6 P :: PySem.W.boot_o_7 P :: PySem.W.boot_o_8 P :: PySem.W.boot_o_9 P :: PySem.W.boot_o_10 P :: hd.o_43 P :: hd.o_241 P :: hd.o_45 P :: hd.o_46 P :: hd.o_52 P :: hd.o_53 P :: hd.o_54 P :: hd.o_55 P :: hd.o_56 P :: hd.o_57 P :: hd.o_58 P :: hd.o_59 P :: hd.o_60 P :: hd.o_61 P :: hd.o_62 P :: hd.o_63 P :: hd.o_64 P :: hd.o_65 P :: hd.o_66 P :: hd.o_67 P :: hd.o_68 P :: hd.o_69 P :: hd.o_70 P :: hd.o_71 P :: hd.o_72 P :: hd.o_73 P :: hd.o_74 P :: hd.o_75 P :: hd.o_76 P :: hd.o_77 P :: hd.o_78 P :: hd.o_79 P :: hd.o_80 P :: hd.o_81 P :: hd.o_82 P :: hd.o_89 P :: hd.o_84 P :: hd.o_85 P :: hd.o_86 P :: hd.o_90 P :: hd.o_91 P :: hd.o_92 P :: hd.o_93 P :: hd.o_94 P :: hd.o_95 P :: hd.o_96 P :: hd.o_97 P :: hd.o_98 P :: hd.o_99 P :: hd.o_100 P :: hd.o_101 P :: hd.o_102 P :: hd.o_105 P :: hd.o_106 P :: hd.o_107 P :: hd.o_108 P :: hd.o_109 P :: hd.o_110 P :: hd.o_111 P :: hd.o_112 P :: hd.o_113 P :: hd.o_114 P :: hd.o_115 P :: hd.o_116 P :: hd.o_117 P :: hd.o_118 P :: hd.o_119 P :: hd.o_120 P :: hd.o_121 P :: hd.o_122 P :: hd.o_123 P :: hd.o_124 P :: hd.o_125 P :: hd.o_126 P :: hd.o_127 P :: hd.o_128 P :: hd.o_129 P :: hd.o_130 P :: hd.o_131 P :: hd.o_132 P :: hd.o_133 P :: hd.o_134 P :: hd.o_135 P :: hd.o_136 P :: hd.o_137 P :: hd.o_138 P :: hd.o_139 P :: hd.o_140 P :: hd.o_141 P :: hd.o_142 P :: hd.o_143 P :: hd.o_144 P :: hd.o_145 P :: hd.o_146 P :: hd.o_147 P :: hd.o_148 P :: hd.o_149 P :: hd.o_150 P :: hd.o_151 P :: hd.o_152 P :: hd.o_153 P :: hd.o_154 P :: hd.o_155 P :: hd.o_156 P :: hd.o_157 P :: hd.o_158 P :: hd.o_159 P :: hd.o_160 P :: hd.o_163 P :: hd.o_164 P :: hd.o_165 P :: hd.o_166 P :: hd.o_167 P :: hd.o_168 P :: hd.o_169 P :: hd.o_170 P :: hd.o_171 P :: hd.o_172 P :: hd.o_173 P :: hd.o_174 P :: hd.o_175 P :: hd.o_176 P :: hd.o_177 P :: hd.o_178 P :: hd.o_179 P :: hd.o_180 P :: hd.o_181 P :: hd.o_182 P :: hd.o_183 P :: hd.o_184 P :: hd.o_185 P :: hd.o_186 P :: hd.o_187 P :: hd.o_188 P :: hd.o_189 P :: hd.o_190 P :: hd.o_191 P :: hd.o_192 P :: hd.o_193 P :: hd.o_194 P :: hd.o_195 P :: hd.o_196 P :: hd.o_197 P :: hd.o_198 P :: hd.o_199 P :: hd.o_200 P :: hd.o_201 P :: hd.o_202 P :: hd.o_203 P :: hd.o_204 P :: hd.o_205 P :: hd.o_206 P :: hd.o_207 P :: hd.o_208 P :: hd.o_209 P :: hd.o_210 P :: hd.o_211 P :: hd.o_212 P :: hd.o_213 P :: hd.o_214 P :: hd.o_215 P :: hd.o_216 P :: hd.o_217 P :: hd.o_218 P :: hd.o_219 P :: hd.o_220 P :: hd.o_221 P :: hd.o_222 P :: hd.o_223 P :: hd.o_224 P :: hd.o_225 P :: hd.o_226 P :: hd.o_227 P :: hd.o_228 P :: hd.o_229 P :: hd.o_230 P :: hd.o_231 P :: hd.o_232 P :: hd.o_233 P :: hd.o_234 P :: hd.o_235 P :: hd.o_236 P :: hd.o_237 P :: hd.o_238 P :: hd.o_239 P :: hd.o_242 P :: hd.o_243 P :: hd.o_244 P :: hd.o_245 P :: hd.o_246 P :: hd.o_247 P :: hd.o_248 P :: hd.o_249 P :: hd.o_250 P :: hd.o_251 P :: hd.o_252 P :: hd.o_253 P :: hd.o_254 P :: hd.o_255 P :: hd.o_256 P :: hd.o_257 P :: hd.o_258 P :: hd.o_259 P :: hd.o_260 P :: hd.o_261 P :: hd.o_262 P :: hd.o_263 P :: hd.o_264 P :: hd.o_265 P :: hd.o_266 P :: hd.o_267 P :: hd.o_268 P :: hd.o_269 P :: hd.o_270 P :: hd.o_271 P :: hd.o_272 P :: []⟩, { }⟩
noncomputable def hd.sts_49 : List Stmt := [hd.at_ hd.bodyL 0, hd.at_ hd.bodyL 1, hd.at_ hd.bodyL 2]
noncomputable def hd.sts_87 : List Stmt := [hd.at_ hd.bodyL 3, hd.at_ hd.bodyL 4, hd.at_ hd.bodyL 5, hd.at_ hd.bodyL 6]
noncomputable def hd.sts_103 : List Stmt := [hd.at_ hd.bodyL 7, hd.at_ hd.bodyL 8, hd.at_ hd.bodyL 9, hd.at_ hd.bodyL 10]
noncomputable def hd.sts_161 : List Stmt := [hd.at_ hd.bodyL 11, hd.at_ hd.bodyL 12, hd.at_ hd.bodyL 13, hd.at_ hd.bodyL 14, hd.at_ hd.bodyL 15, hd.at_ hd.bodyL 16, hd.at_ hd.bodyL 17, hd.at_ hd.bodyL 18, hd.at_ hd.bodyL 19, hd.at_ hd.bodyL 20, hd.at_ hd.bodyL 21, hd.at_ hd.bodyL 22]
noncomputable def hd.sts_240 : List Stmt := [hd.at_ hd.bodyL 23, hd.at_ hd.bodyL 24, hd.at_ hd.bodyL 25, hd.at_ hd.bodyL 26, hd.at_ hd.bodyL 27]
noncomputable def hd.body0 : List Stmt := hd.sts_49 ++ (hd.sts_87 ++ (hd.sts_103 ++ (hd.sts_161 ++ (hd.sts_240 ++ []))))
noncomputable def hd.env_41 : Env := { scope := hd.pw.main.scope, locals := mainNs, globals := mainNs, cells := [], code := Value.ref 13, frame := some 14 }
noncomputable def hd.view_39 : Program := view hd.pw [0, 2, 3, 4, 6, 7, 8, 9, 10, 13, 14, 15, 16, 19, 20, 22, 23, 24, 25, 26, 27]
theorem hd.p47 : ∀ (w : World), (fun os => topGo treeTable hd.pw w 11 (some (Value.ref 6)) 12 { heap := boot_heap w.params, drawn := boot_drawn, toks := boot_toks, os := os } (topStub hd.pw)) = fun os => some ({ heap := hd.heap_46 w.params, toks := 187, os := os }, { cur := denote treeTable (Code.body (hd.body0) hd.env_41), code := Code.body (hd.body0) hd.env_41, pos := { line := 0, col := 0, endLine := 0, endCol := 0 }, stack := [topFrame { line := 0, col := 0, endLine := 0, endCol := 0 }] }) := by intro w; kernel_rfl
theorem hd.p49 : ∀ (w : World), (fun os => segRun treeTable hd.pw w 11 (some (Value.ref 6)) 1 1 { heap := hd.heap_46 w.params, toks := 187, os := os } (blockOf (hd.body0) hd.env_41 (Code.body (hd.body0) hd.env_41) { line := 0, col := 0, endLine := 0, endCol := 0 } [topFrame { line := 0, col := 0, endLine := 0, endCol := 0 }])) = fun os => some (Flow.next, ({ tree := hd.tree_47 w.params, n := 15, life := { }, gens := { toList := [] }, drawn := { }, toks := 187, os := os } : SharedT).abs, Code.body (hd.body0) hd.env_41, { line := 0, col := 0, endLine := 0, endCol := 0 }) := by intro w; kernel_rfl
theorem hd.p87 : ∀ (w : World), (fun os => segRunT treeTable hd.pw w 11 (some (Value.ref 6)) 1 307 { tree := hd.tree_47 w.params, n := 15, life := { }, gens := { toList := [] }, drawn := { }, toks := 187, os := os } (piecesOf hd.sts_49 hd.env_41 (Code.body (hd.body0) hd.env_41) { line := 0, col := 0, endLine := 0, endCol := 0 } [topFrame { line := 0, col := 0, endLine := 0, endCol := 0 }])) = fun os => some (Flow.next, { tree := hd.tree_86 w.params, n := 50, life := { }, gens := { toList := [] }, drawn := { }, toks := 236, os := os }, Code.body (hd.body0) hd.env_41, { line := 5, col := 0, endLine := 13, endCol := 35 }) := by intro w; kernel_rfl
theorem hd.p103 : ∀ (w : World), (fun os => segRunT treeTable hd.pw w 11 (some (Value.ref 6)) 1 244 { tree := hd.tree_86 w.params, n := 50, life := { }, gens := { toList := [] }, drawn := { }, toks := 236, os := os } (piecesOf hd.sts_87 hd.env_41 (Code.body (hd.body0) hd.env_41) { line := 5, col := 0, endLine := 13, endCol := 35 } [topFrame { line := 0, col := 0, endLine := 0, endCol := 0 }])) = fun os => some (Flow.next, { tree := hd.tree_102 w.params, n := 63, life := { }, gens := { toList := [] }, drawn := { }, toks := 259, os := os }, Code.body (hd.body0) hd.env_41, { line := 18, col := 0, endLine := 18, endCol := 5 }) := by intro w; kernel_rfl
theorem hd.p161 : ∀ (w : World), (fun os => segRunT treeTable hd.pw w 11 (some (Value.ref 6)) 1 381 { tree := hd.tree_102 w.params, n := 63, life := { }, gens := { toList := [] }, drawn := { }, toks := 259, os := os } (piecesOf hd.sts_103 hd.env_41 (Code.body (hd.body0) hd.env_41) { line := 18, col := 0, endLine := 18, endCol := 5 } [topFrame { line := 0, col := 0, endLine := 0, endCol := 0 }])) = fun os => some (Flow.next, { tree := hd.tree_160 w.params, n := 119, life := { }, gens := { toList := [] }, drawn := { }, toks := 332, os := os }, Code.body (hd.body0) hd.env_41, { line := 42, col := 0, endLine := 44, endCol := 63 }) := by intro w; kernel_rfl
theorem hd.p240 : ∀ (w : World), (fun os => segRunT treeTable hd.pw w 11 (some (Value.ref 6)) 1 372 { tree := hd.tree_160 w.params, n := 119, life := { }, gens := { toList := [] }, drawn := { }, toks := 332, os := os } (piecesOf hd.sts_161 hd.env_41 (Code.body (hd.body0) hd.env_41) { line := 42, col := 0, endLine := 44, endCol := 63 } [topFrame { line := 0, col := 0, endLine := 0, endCol := 0 }])) = fun os => some (Flow.next, { tree := hd.tree_239 w.params, n := 196, life := { }, gens := { toList := [] }, drawn := { }, toks := 446, os := os }, Code.body (hd.body0) hd.env_41, { line := 119, col := 0, endLine := 126, endCol := 16 }) := by intro w; kernel_rfl
theorem hd.p273 : ∀ (w : World), (fun os => segRunT treeTable hd.pw w 11 (some (Value.ref 6)) 1 148 { tree := hd.tree_239 w.params, n := 196, life := { }, gens := { toList := [] }, drawn := { }, toks := 446, os := os } (piecesOf hd.sts_240 hd.env_41 (Code.body (hd.body0) hd.env_41) { line := 119, col := 0, endLine := 126, endCol := 16 } [topFrame { line := 0, col := 0, endLine := 0, endCol := 0 }])) = fun os => some (Flow.next, { tree := hd.tree_272 w.params, n := 227, life := { }, gens := { toList := [] }, drawn := { }, toks := 487, os := os }, Code.body (hd.body0) hd.env_41, { line := 156, col := 0, endLine := 184, endCol := 112 }) := by intro w; kernel_rfl
theorem hd.p275 : ∀ (w : World), (fun os => topRun treeTable hd.pw w 11 (some (Value.ref 6)) 2 ({ tree := hd.tree_272 w.params, n := 227, life := { }, gens := { toList := [] }, drawn := { }, toks := 487, os := os } : SharedT).abs { cur := doneF Flow.next, code := Code.body (hd.body0) hd.env_41, pos := { line := 156, col := 0, endLine := 184, endCol := 112 }, stack := [topFrame { line := 0, col := 0, endLine := 0, endCol := 0 }] }) = fun os => some { heap := hd.heap_273 w.params, toks := 487, os := os } := by intro w; kernel_rfl
theorem hd.p276 : ∀ (w : World) (os : OsState), topRun treeTable hd.pw w 11 (some (Value.ref 6)) (Nat.add 12 (Nat.add 1 (Nat.add 307 (Nat.add 244 (Nat.add 381 (Nat.add 372 (Nat.add 148 2))))))) { heap := boot_heap w.params, drawn := boot_drawn, toks := boot_toks, os := os } (topStub hd.pw) = some { heap := hd.heap_273 w.params, toks := 487, os := os } := fun w os => go_top (congrFun (hd.p47 w) os) (piece_block (congrFun (hd.p49 w) os) (piece_app (congrFun ((fun w => funext fun os => segRun_of (congrFun (hd.p87 w) os)) w) os) (piece_app (congrFun ((fun w => funext fun os => segRun_of (congrFun (hd.p103 w) os)) w) os) (piece_app (congrFun ((fun w => funext fun os => segRun_of (congrFun (hd.p161 w) os)) w) os) (piece_app (congrFun ((fun w => funext fun os => segRun_of (congrFun (hd.p240 w) os)) w) os) (piece_app (congrFun ((fun w => funext fun os => segRun_of (congrFun (hd.p273 w) os)) w) os) (congrFun (hd.p275 w) os)))))))
noncomputable abbrev hd.hook : Hook := kHook hd.heap_39 hd.kAs (fun _ => by kernel_rfl)
noncomputable abbrev hd.loose : List Str := [Str.ofString "PostError", Str.ofString "read_spans", Str.ofString "read_fields", Str.ofString "folded", Str.ofString "made_field"]
noncomputable abbrev hd.xt : Shared → Bool := fun s => xlAt hd.view_39 [] s && recOk (RowW.records PySem.Challenge.rw_no0361_01.row.toRowW) s
theorem hd.l1 (w : World) (os : OsState) : (staticsOk (importedModules hd.pw.main.body) (boot_heap w.params) (hd.heap_273 w.params) && namesBound hd.pw (hd.heap_273 w.params) && gensDone { heap := hd.heap_273 w.params, toks := 487, os := os } && laidKept (boot_heap w.params) (hd.heap_273 w.params)) = true := by kernel_rfl
theorem hd.l2 (w : World) (os : OsState) : openSeen hd.view_39 hd.loose (importedModules hd.pw.main.body) hd.xt true { heap := hd.heap_273 w.params, toks := 487, os := os } = openGood hd.view_39 hd.loose := by kernel_rfl
theorem hd.l3 (w : World) (os : OsState) : Hook.obs hd.hook { heap := hd.heap_273 w.params, toks := 487, os := os } = Hook.val hd.hook w := by kernel_rfl
theorem hd.size (w : World) : ((boot_heap w.params).isNs mainGlobals && (Array.mk ([] : List GenState)).size == 0, (boot_heap w.params).objs.size, (boot_heap w.params).nsMap mainGlobals "__annotations__") = (true, 11, some (Value.ref 6)) := by kernel_rfl
theorem hd.opens : opening hd.pw = plainProg hd.pw.main.scope.names := by kernel_rfl
theorem hd.fence (s : Shared) : fenceModules? hd.pw s = some s := by kernel_rfl
theorem hd.left : LeftO hd.pw hd.view_39 hd.loose hd.xt (Hook.obs hd.hook) (Hook.val hd.hook) 3020 true :=
  LeftO.of_pieces (boot_open hd.opens (by decide) hd.fence) hd.size hd.p276 (by decide) fun w => funext fun os => looks_pair (hd.l1 w os) (looks_pair (hd.l2 w os) (hd.l3 w os))
theorem hd.said : PySem.Challenge.rw_no0361_01.wellSaid = true := by kernel_rfl
theorem hd.chains : (chainsOk hd.view_39 && opensWell PySem.Challenge.rw_no0361_01.row.prog && (frees PySem.Challenge.rw_no0361_01.row.toRowW && PySem.Challenge.rw_no0361_01.row.within.isEmpty)) = true := by kernel_rfl
theorem hd {d : DefRec} {kwd : List (Str × PySem.Expr)} (hdef : defOf hd.view_39 PySem.Challenge.rw_no0361_01.row.name = some (d, kwd)) (hp : PySem.Challenge.rw_no0361_01.row.prog.theDef PySem.Challenge.rw_no0361_01.row.name = some (d.params, d.body, d.scope))
    (hk : kwWritten? d.params.kwonlyargs d.params.kw_defaults = some kwd)
    (walk : WalkO hd.view_39 hd.loose (XL hd.view_39 []) (Hook.says hd.hook) PySem.Challenge.rw_no0361_01.row.toRowW d kwd fun f vs => PySem.call f vs) : PySem.Challenge.rw_no0361_01.Holds := by
  refine holds_law hd.said fun said => ?_
  refine holds_open (r := PySem.Challenge.rw_no0361_01.row) (q := hd.view_39) (loose := hd.loose) (Xt := hd.xt) (XP := XL hd.view_39 []) (Yf := Hook.obs hd.hook) (Ya := Hook.val hd.hook) (YP := Hook.says hd.hook) (N := 3020) hd.left (Hook.of hd.hook) (Hook.keeps hd.hook) (fun s e => xl_of s (Bool.and_eq_true_iff.mp e).1) XL.keeps hdef hp hk (fun s e => recFacts_of (Bool.and_eq_true_iff.mp e).2) (by rfl) said hd.chains ⟨rfl, rfl, rfl, rfl, rfl, by decide +kernel⟩ ?hw walk
  case hw => w_witness2
end Mine

namespace Mine

/-- what surrounds a call made by a frame of the text's own -/
noncomputable abbrev Tp (hdl : Option Value) (dp un : Nat) (gd : Option (List Code)) (cn : Str) (cs : Scope) (L a : Addr) (ccd : Value) (cl : List (Str × Addr)) (outer : List Env) : Around := { handled := hdl, depth := dp, frames := some (envX cn cs L a ccd cl :: outer), guards := gd, units := un }

/-- nothing is handled, or an exception object whose context is None -/
noncomputable def HdOk (hdl : Option Value) (h : Heap) : Prop := hdl = none ∨ ∃ e oe vs, hdl = some (.ref e) ∧ h.get? e = some oe ∧ oe.data = .fields vs ∧ vs[2]? = some .none
noncomputable def hdA : Option Value → List Addr
  | some (.ref e) => [e]
  | _ => []
theorem HdOk.keeps {hdl : Option Value} {h h' : Heap} (x : HdOk hdl h) (k : ∀ b o, h.get? b = some o → h'.get? b = some o) : HdOk hdl h' := by
  rcases x with x | ⟨e, oe, vs, h1, h2, h3⟩
  · exact .inl x
  · exact .inr ⟨e, oe, vs, h1, k _ _ h2, h3⟩
theorem HdOk.frame {hdl : Option Value} {h h' : Heap} (x : HdOk hdl h) (k : ∀ b ∈ hdA hdl, ∀ o, h.get? b = some o → h'.get? b = some o) : HdOk hdl h' := by
  rcases x with x | ⟨e, oe, vs, h1, h2, h3⟩
  · exact .inl x
  · subst h1
    exact .inr ⟨e, oe, vs, rfl, k e (.head _) _ h2, h3⟩
theorem HdOk.none (h : Heap) : HdOk none h := .inl rfl

noncomputable def LeaveN (h₀ : Heap) (L : Addr) (m : Str → Option Value) (news : List (Addr × Obj)) (g : Heap) (R : Result → Shared → Prop) (v : Value) (s' : Shared) : Prop :=
  ∃ L' m' news', Fr g L' s'.heap m' ∧ News g L' s'.heap news' ∧ (Fr h₀ L s'.heap m → News h₀ L s'.heap (news' ++ news) → (∀ p ∈ news', ∀ q ∈ news, p.1 ≠ q.1) → R (.ok (.ret v)) s')

section
variable {prog : Program} {w : World} {A₀ A : Around} {s : Shared} {base h₀ : Heap} {outer : List Env} {L : Addr} {m mg mb : Str → Option Value} {env : Env} {news : List (Addr × Obj)} {K : Frag} {p : Program} {loose : List Str} {mean : ExcName → Option Value}
  {R : Result → Shared → Prop} {name qual : Str} {params : Arguments} {body : List Stmt} {scope : Scope} {dV kV doc pm cdv ct oc : Value} {an od : Option Addr} {osl : Array (Option Value)} {f : Addr} {args : Args} {binds : List (Str × Value)}

theorem lookup_kstB : ∀ (l : List (Str × Value)) (y : Str), l.lookup y = kstB (fun _ => none) l y
  | [], _ => rfl
  | q :: r, y => by
    show List.lookup y ((q.1, q.2) :: r) = if y = q.1 then some q.2 else kstB (fun _ => none) r y
    rw [List.lookup_cons, lookup_kstB r y]
    by_cases h : y = q.1
    · rw [if_pos h, beq_iff_eq.mpr h]
    · rw [if_neg h]
      have : (y == q.1) = false := by simpa using h
      rw [this]
theorem enterP (B : Below A₀ base outer h₀) (F : Fr h₀ L s.heap m) (X₀ : K.In h₀) (N : News h₀ L s.heap news) (T : Top p loose mean mg mb h₀) (hA : A.frames = some (env :: outer)) (hf : env.frame = some L) (hke : env.scope.kind = .function)
    (ho : K.lookup f = some ⟨oc, od, .func (fnOf name qual params body scope dV kV doc pm an cdv ct), osl⟩) (hcd : codeIn K cdv qual = true) (hroom : A.depth < recursionLimit)
    (hbind : BindsTo s (fnOf name qual params body scope dV kV doc pm an cdv ct) args binds) (hloc : ∀ y ∈ binds, scope.names.lookup y.1 = some .local) {br : List (Str × Value)} (hbr : binds.reverse = br)
    (h : ∀ g L' h₁ tk, (∀ b o, s.heap.get? b = some o → g.get? b = some o) → (∀ b o, g.get? b = some o → s.heap.get? b = some o) → Fr g L' h₁ (kstB (fun _ => none) br) → News g L' h₁ [] → Below A base (env :: outer) g → K.In g → Top p loose mean mg mb g →
      wpAny (model prog w) (A.deeper (envOf qual scope L' f cdv)) (execs body (envOf qual scope L' f cdv))
        (fun fl s' => LeaveN h₀ L m news g R (match fl with | .ret v => v | _ => .none) s')
        (fun e s' => wpAny (model prog w) (A.deeper (envOf qual scope L' f cdv)) (leaving (envOf qual scope L' f cdv) e) (fun _ s'' => R (.error e) s'') (fun e' s'' => R (.error e') s'') s')
        { s with heap := h₁, toks := tk })
    (hcell : ∀ x ∈ scope.names, x.2 ≠ .cell := by decide) (hco : scope.isCoroutine = false := by rfl) (hgen : scope.isGenerator = false := by rfl) (hk : scope.kind = .function := by rfl) : codeAny (model prog w) A (.call (.ref f) args) R s := by
  have FG : Fr h₀ L s.heap m := F
  have BG := pushX B F hf hke
  have B2 : Below A base (env :: outer) s.heap := ⟨hA, fun b o e => F.keep b o (B.stays b o e), BG.frames⟩
  refine codeAny_call_def (fd := fnOf name qual params body scope dV kV doc pm an cdv ct) (body := body) (binds := binds) hroom ((X₀.keeps F.keep) _ _ ho) rfl (T.nolimit.keeps F.keep) (codeRec_of (X₀.keeps F.keep) hcd) rfl hbind hcell hloc (fun h₁ hns hk₁ => ?_) hco hgen hk
  have hns' : h₁.Ns s.heap.objs.size (kstB (fun _ => none) br) := by
    have e : kstB (fun _ => none) br = fun y => binds.reverse.lookup y := by
      funext y
      rw [hbr, lookup_kstB]
    rw [e]
    exact hns
  refine wpAny_mono (h s.heap s.heap.objs.size h₁ _ (fun _ _ e => e) (fun _ _ e => e) ⟨hns', hk₁, Nat.le_refl _⟩ News.nil B2 (X₀.keeps F.keep) (T.keeps F.keep)) (fun fl s' hl => ?_) fun _ _ y => y
  obtain ⟨L', m', news', F', N', k⟩ := hl
  have F2 : Fr h₀ L s'.heap m := F.keptAll F'.keep
  obtain ⟨oL, _, _, hL, _⟩ := F.ns
  refine k F2 (fun q hq => ?_) (fun q hq r hr e => ?_)
  · rcases List.mem_append.mp hq with hq | hq
    · refine ⟨(N' q hq).1, fun e => ?_, ?_⟩
      · have := (N' q hq).2.2
        rw [e, hL] at this
        cases this
      · cases z : h₀.get? q.1 with
        | none => rfl
        | some o => have := (N' q hq).2.2; rw [F.keep _ _ z] at this; cases this
    · exact ⟨F'.keep _ _ (N q hq).1, (N q hq).2⟩
  · have := (N' q hq).2.2
    rw [e, (N r hr).1] at this
    cases this
end

section
open Builtin
variable {prog : Program} {w : World} {A : Around} {E : Value → Shared → Prop} {s : Shared}
theorem entry_unchain : entryFor table "proto.unchain" = some Builtin.«proto.unchain» := entryFor_of_tree (by kernel_rfl)

/-- a StopIteration that is raised while such an exception is handled -/
theorem raise_stop {x : Addr} {ox : Obj} {vx : Array Value} {α : Type} {Q : α → Shared → Prop} (hH : HdOk A.handled s.heap) (hx : s.heap.get? x = some ox) (hd : ox.data = .fields vx) (hsz : 2 < vx.size) (hnew : x ∉ hdA A.handled)
    (hE : ∀ h' ox', h'.get? x = some ox' → ox'.cls = ox.cls → Heap.ExtBut x s.heap h' → E (.ref x) { s with heap := h' }) : wpAny (model prog w) A (raiseNew (.ref x) : Sem α) Q E s := by
  unfold raiseNew
  refine wpAny_bind (wpAny_handled ?_)
  rcases hH with hH | ⟨e, oe, vs, h1, h2, h3, h4⟩
  · rw [hH]
    refine wpAny_bind (wpAny_pure (wpAny_throw ?_))
    exact hE s.heap ox hx rfl (fun _ _ _ q => q)
  · rw [h1] at hnew ⊢
    have hne : e ≠ x := fun q => hnew (q ▸ List.Mem.head _)
    have hb : ((Value.ref e) != (Value.ref x)) = true := by simp [hne]
    show wpAny _ _ (if ((Value.ref e) != (Value.ref x)) = true then _ else _) _ _ _
    rw [if_pos hb]
    refine wpAny_bind (wpAny_holding (wpAny_runValue (codeAny_builtin entry_unchain ?_)))
    show wpAny _ _ (field (.ref e) 2 >>= _) _ _ _
    refine wpAny_bind (wpAny_field h2 h3 h4 ?_)
    rw [if_pos (by decide)]
    refine wpAny_bind (wpAny_pure (wpAny_pure ?_))
    show wpAny _ _ (updateField x 2 (.ref e) >>= _) _ _ _
    refine wpAny_bind ?_
    unfold updateField
    refine wpAny_bind (wpAny_load hx ?_)
    rw [hd]
    dsimp only
    rw [if_pos hsz]
    refine wpAny_update hx (wpAny_throw ?_)
    refine hE _ _ (Heap.get?_update_self _ hx (Obj.isFreed_of_fields (Obj.data_mapFields hd _))) (Obj.cls_mapFields ..) ?_
    intro b o hb2 q
    rw [Heap.get?_update_other _ _ (Ne.symm hb2)]
    exact q
end

section
open Builtin
variable {prog : Program} {w : World} {A : Around} {E : Value → Shared → Prop} {s : Shared}
theorem stop_iter {α : Type} {Q : α → Shared → Prop} (hH : HdOk A.handled s.heap)
    (hE : ∀ h' x ox, h'.get? x = some ox → ox.cls = .type "StopIteration" → (∀ b o, s.heap.get? b = some o → h'.get? b = some o) → E (.ref x) { s with heap := h' }) :
    wpAny (model prog w) A (newExc (.type "StopIteration") [] >>= fun e => (raiseNew e : Sem α)) Q E s := by
  refine wpAny_bind ?_
  simp only [newExc, newTuple]
  refine wpAny_bind (wpAny_newObj_type ?_ (by size_fits))
  refine wpAny_bind (m := firstArgMember _ _) (wpAny_of_eq (a := Value.none) (by first | rfl | (simp only [firstArgMember]; rfl)) ?_)
  refine wpAny_newObj_type ?_ (by size_fits)
  have k1 : ∀ b o, s.heap.get? b = some o → ((s.heap.push { cls := .type "tuple", data := .seq ([] : List Value).toArray }).push
      { cls := .type "StopIteration", data := .fields ([Value.ref s.heap.objs.size, .none, .none, .none, .bool false] ++ [.none] : List Value).toArray }).get? b = some o :=
    fun b o q => Heap.get?_push_of_some _ (Heap.get?_push_of_some _ q)
  refine raise_stop (hH.keeps k1) (Heap.get?_push_size _ rfl) rfl (by simp; omega) ?_ ?_
  · intro hm
    rcases hH with q | ⟨e, oe, vs, q, q2, _⟩
    · rw [q] at hm; cases hm
    · rw [q] at hm
      have q3 : _ = e := List.mem_singleton.mp hm
      have q4 := Heap.lt_size q2
      rw [← q3, Heap.size_push] at q4
      exact absurd (Nat.lt_of_succ_lt q4) (Nat.lt_irrefl _)
  · intro h' ox' q1 q2 q3
    exact hE h' _ ox' q1 q2 (fun b o q => q3 b o (by
      have := Heap.lt_size q
      rw [Heap.size_push]
      exact Nat.ne_of_lt (Nat.lt_succ_of_lt this)) (k1 b o q))
theorem list_end {it l : Addr} {i : Nat} {items : Array Value} {Q : Option Value → Shared → Prop} (hH : HdOk A.handled s.heap) (hni : it ∉ hdA A.handled)
    (hit : s.heap.IsListIter it l i) (hl : s.heap.IsList l items) (hx : items[i]? = none)
    (hQ : ∀ h', Heap.ExtBut it s.heap h' → Q none { s with heap := h' }) : wpAny (model prog w) A (pyNext (.ref it)) Q E s := by
  obtain ⟨o, ho, hc, hd⟩ := id hit
  obtain ⟨ol, hol, _, nl, hdl⟩ := hl
  unfold pyNext
  refine wpAny_bind (wpAny_attempt (wpAny_callSpecial?_slot (name := Str.ofString "__next__") hit.typeIs slot_listiter_next
    (wpAny_call_entry slot_listiter_next hit.typeIs entry_listiter_next ?_ (args_listiter_next _))))
  show wpAny _ _ (field (.ref it) 0 >>= _) _ _ s
  refine wpAny_bind (wpAny_field ho hd (x := .ref l) rfl ?_)
  show wpAny _ _ (if (Value.ref l == Value.none) = true then _ else _) _ _ s
  rw [if_neg (show ¬ ((Value.ref l == Value.none) = true) from Bool.false_ne_true)]
  show wpAny _ _ (field (.ref it) 1 >>= _) _ _ s
  refine wpAny_bind (wpAny_field ho hd (x := .int i 0) rfl ?_)
  show wpAny _ _ (seqItems? (.ref l) >>= _) _ _ s
  refine wpAny_bind (wpAny_seqItems hol hdl ?_)
  simp only [Int.toNat_natCast, hx]
  refine wpAny_bind (wpAny_rule (wpAny_bind (wpAny_setField ho hd (by simp) ?_)))
  refine stop_iter (HdOk.frame hH fun b hb o' e => (Heap.get?_update_other _ _ (fun (q : it = b) => hni (q ▸ hb))).trans e) fun h' x ox q1 q2 q3 => ?_
  refine wpAny_bind (wpAny_isInstance (T := "StopIteration") (b := true) ⟨_, q1, q2⟩ isSubtype_stop ?_)
  exact wpAny_pure (hQ _ fun b o' hb e => q3 b o' ((Heap.get?_update_other _ _ (Ne.symm hb)).trans e))
theorem bytes_end {it : Addr} {b : Array UInt8} {t : Tok} {i : Nat} {Q : Option Value → Shared → Prop} (hH : HdOk A.handled s.heap) (hni : it ∉ hdA A.handled)
    (hit : KBw.IsBytesIter s.heap it b t i) (hx : b[i]? = none)
    (hQ : ∀ h', Heap.ExtBut it s.heap h' → Q none { s with heap := h' }) : wpAny (model prog w) A (pyNext (.ref it)) Q E s := by
  obtain ⟨o, ho, hc, hd⟩ := id hit
  unfold pyNext
  refine wpAny_bind (wpAny_attempt (wpAny_callSpecial?_slot (name := PySem.Str.ofString "__next__") (KBw.iter_typeIs hit) KBw.slot_next
    (wpAny_call_entry KBw.slot_next (KBw.iter_typeIs hit) KBw.entry_next ?_ (KBw.args_next _))))
  show wpAny _ _ (field (.ref it) 0 >>= _) _ _ s
  refine wpAny_bind (wpAny_field ho hd (x := .bytes b t) rfl ?_)
  show wpAny _ _ (if (Value.bytes b t == Value.none) = true then _ else _) _ _ s
  rw [if_neg (show ¬ ((Value.bytes b t == Value.none) = true) from Bool.false_ne_true)]
  show wpAny _ _ (field (.ref it) 1 >>= _) _ _ s
  refine wpAny_bind (wpAny_field ho hd (x := .int i 0) rfl ?_)
  refine wpAny_bind (wpAny_of_eq (a := b) rfl ?_)
  simp only [Int.toNat_natCast, hx]
  refine wpAny_bind (wpAny_rule (wpAny_bind (wpAny_setField ho hd (by simp) ?_)))
  refine stop_iter (HdOk.frame hH fun b hb o' e => (Heap.get?_update_other _ _ (fun (q : it = b) => hni (q ▸ hb))).trans e) fun h' x ox q1 q2 q3 => ?_
  refine wpAny_bind (wpAny_isInstance (T := "StopIteration") (b := true) ⟨_, q1, q2⟩ isSubtype_stop ?_)
  exact wpAny_pure (hQ _ fun b o' hb e => q3 b o' ((Heap.get?_update_other _ _ (Ne.symm hb)).trans e))
end

theorem WL {prog : Program} {w : World} {A : Around} (I ax : Addr) (hne : ax ≠ I) (hni : I ∉ hdA A.handled) (items : Array Value) :
    Walks prog w A I (I :: ax :: hdA A.handled) [I] items.size (fun i v => items[i]? = some v) (fun i h => h.IsListIter I ax i ∧ h.IsList ax items ∧ HdOk A.handled h) where
  sub := fun b hb => by rw [List.mem_singleton.mp hb]; exact .head _
  frame := fun _ _ _ st hk => ⟨st.1.at fun o e => hk I (.head _) o e, st.2.1.at fun o e => hk ax (.tail _ (.head _)) o e, st.2.2.frame fun b hb o e => hk b (.tail _ (.tail _ hb)) o e⟩
  item := fun i s Q E hi st hQ => by
    refine wpAny_pyNext_list_item st.1 st.2.1 (x := items[i]) (by simp [hi]) fun h' hit' hs' => ?_
    exact hQ _ h' s.toks (by simp [hi]) ⟨hit', st.2.1.extBut hs'.extBut hne, st.2.2.frame fun b hb o e => hs'.extBut b o (fun q => hni (q ▸ hb)) e⟩ fun b o hb e => hs'.extBut b o (fun h => hb (by simp [h])) e
  done := fun s Q E st hQ => list_end st.2.2 hni st.1 st.2.1 (by simp) fun h' he' => hQ h' s.toks fun b o hb e => he' b o (fun h => hb (by simp [h])) e
  self := fun _ _ _ _ st hQ => wpAny_pyIter_listiter st.1 hQ
theorem WB {prog : Program} {w : World} {A : Around} (I : Addr) (hni : I ∉ hdA A.handled) (b : Array UInt8) (t : Tok) :
    Walks prog w A I (I :: hdA A.handled) [I] b.size (fun i v => ∃ c u, b[i]? = some c ∧ v = .int (c.toNat : Int) u) (fun i h => KBw.IsBytesIter h I b t i ∧ HdOk A.handled h) where
  sub := fun b hb => by rw [List.mem_singleton.mp hb]; exact .head _
  frame := fun _ _ _ st hk => ⟨let ⟨o, ho, r⟩ := st.1; ⟨o, hk I (.head _) o ho, r⟩, st.2.frame fun b hb o e => hk b (.tail _ hb) o e⟩
  item := fun i s Q E hi st hQ => by
    refine KBw.next_item st.1 (c := b[i]) (by simp [hi]) fun h' hit' hs' => ?_
    exact hQ _ h' (s.toks + 1) ⟨_, _, by simp [hi], rfl⟩ ⟨hit', st.2.frame fun b hb o e => hs'.extBut b o (fun q => hni (q ▸ hb)) e⟩ fun b o hb e => hs'.extBut b o (fun h => hb (by simp [h])) e
  done := fun s Q E st hQ => bytes_end st.2 hni st.1 (by simp) fun h' he' => hQ h' s.toks fun b o hb e => he' b o (fun h => hb (by simp [h])) e
  self := fun _ _ _ _ st hQ => KBw.pyIter_self st.1 hQ


section
variable {prog : Program} {w : World} {A : Around} {E : Value → Shared → Prop} {s : Shared} {env : Env} {h₀ : Heap} {x : Str} {body : List Stmt} {Q : Flow → Shared → Prop}
/-- a for whose state is σ: Led its ledger, ps the names that the turns bind, stored those that they forget -/
theorem for_gen {σ : Type} {I : Addr} {rest : List Addr} {n : Nat} {P : Nat → Value → Prop} {St : Nat → Heap → Prop} {m₀ : Str → Option Value} (Led : σ → List (Addr × Obj)) (ps : σ → List (Str × Value)) (stored : List Str) (PP : Nat → σ → Prop) (c₀ : σ)
    (W : Walks prog w A I (I :: rest) [I] n P St) (hL : env.locals ∉ I :: rest) (hI : h₀.get? I = none) (hIn : I ∉ (Led c₀).map (·.1)) (hrest : ∀ b ∈ rest, (∃ o, h₀.get? b = some o) ∨ ∃ o, ∀ c, (b, o) ∈ Led c)
    (hst : St 0 s.heap) (F : Fr h₀ env.locals s.heap m₀) (N : News h₀ env.locals s.heap (Led c₀)) (hk : ∀ p ∈ ps c₀, m₀ p.1 = some p.2) (hp : PP 0 c₀)
    (turn : ∀ (c : σ) i v (u : Str → Option Value) h tk own, i < n → P i v → OwnOff own ((Led c₀).map (·.1)) → PP i c →
      Fr h₀ env.locals h (fun y => if y = x then some v else kstB (fun z => if stored.contains z then u z else m₀ z) (ps c) y) → News h₀ env.locals h (Led c ++ own) →
      wpAny (model prog w) A (execs body env) (InvPostN h₀ env.locals (KstS Led ps (fun _ => True) x stored m₀ (fun _ c => PP (i + 1) c) []) own ((Led c₀).map (·.1)) { s with heap := h, toks := tk } Q) E { s with heap := h, toks := tk })
    (done : ∀ (c : σ) (u : Str → Option Value) h tk, PP n c → Fr h₀ env.locals h (fun y => if y = x then u y else kstB (fun z => if stored.contains z then u z else m₀ z) (ps c) y) → News h₀ env.locals h (Led c) → Q .next { s with heap := h, toks := tk }) :
    LoopAtV prog w A h₀ env x body Q E (.ref I) s := by
  refine ⟨I, I :: rest, [I], n, P, St, m₀, Led c₀, (fun i m nx => nx.map (·.1) = (Led c₀).map (·.1) ∧ KstS Led ps (fun _ => True) x stored m₀ (fun _ c => PP i c) [] m nx), rfl, W, hL, ?_, ?_, hst, F, N, ⟨rfl, c₀, rfl, trivial, hk, fun _ _ _ _ => rfl, hp⟩, ?_, ?_⟩
  · intro b hb
    rw [List.mem_singleton.mp hb]
    exact hI
  · intro q hq hb
    exact hIn (List.mem_singleton.mp hb ▸ List.mem_map_of_mem hq)
  · rintro i v m₁ nx s₁ own ⟨hh, tk, rfl⟩ hin hP ⟨hadr, c, rfl, _, h1, h2, hp'⟩ hoff hown hget _ _ F₁ N₁
    have hsep : OwnOff (own.filter fun q => decide (q.1 = I)) ((Led c₀).map (·.1)) := by
      intro q hq b hb e
      have h1 : q.1 = I := by simpa using (List.mem_filter.mp hq).2
      exact hIn (h1 ▸ e ▸ hb)
    have N₂ : News h₀ env.locals hh (Led c ++ own.filter fun q => decide (q.1 = I)) := fun q hq =>
      N₁ q ((List.mem_append.mp hq).elim (fun h => List.mem_append.mpr (.inr h)) fun h => List.mem_append.mpr (.inl ((List.mem_filter.mp h).1)))
    refine wpAny_mono (turn c i v m₁ hh tk _ hin hP hsep hp' (kst_fr h1 h2 F₁) N₂) (fun f s₂ q => ?_) fun _ _ e => e
    have fin : InvEndN h₀ env.locals (KstS Led ps (fun _ => True) x stored m₀ (fun _ c => PP (i + 1) c) []) (own.filter fun q => decide (q.1 = I)) ((Led c₀).map (·.1)) { s with heap := hh, toks := tk } s₂ →
        LoopStepU h₀ env.locals [I] own (fun m nx => nx.map (·.1) = (Led c₀).map (·.1) ∧ KstS Led ps (fun _ => True) x stored m₀ (fun _ c => PP (i + 1) c) [] m nx) { s with heap := hh, toks := tk } .next s₂ := by
      rintro ⟨h', tk', m', news', nx, e, F', N', hn, ho, ha, hm⟩
      refine ⟨rfl, h', tk', m', nx, e, F', fun q hq => ?_, fun q hq hqI => ?_, ha, hm⟩
      · rcases List.mem_append.mp hq with h | h
        · by_cases hI' : q.1 = I
          · exact N' q (ho q (List.mem_filter.mpr ⟨h, by simpa using hI'⟩))
          · have hr : q.1 ∈ rest := (List.mem_cons.mp (hown q h)).resolve_left hI'
            rcases hrest _ hr with ⟨o, q2⟩ | ⟨o, q2⟩
            · have := (N₁ q (List.mem_append.mpr (.inl h))).2.2
              rw [q2] at this
              cases this
            · obtain ⟨c', rfl, _⟩ := hm
              have z1 := (N₁ _ (List.mem_append.mpr (.inr (q2 c)))).1
              have z2 := hget q h
              rw [z1] at z2
              have z3 : q = (q.1, o) := Prod.ext rfl (Option.some.inj z2).symm
              rw [z3]
              exact N' _ (hn _ (q2 c'))
        · exact N' q (hn q h)
      · have h1 : q.1 ∈ nx.map (·.1) := List.mem_map_of_mem hq
        rw [ha] at h1
        exact hIn (List.mem_singleton.mp hqI ▸ h1)
    cases f with
    | ret v => exact .ret q
    | brk => exact .brk q
    | next => exact .next (fin q)
    | cont => exact .cont (fin q)
  · rintro h' tk m' news' F' N' _ ⟨_, c, rfl, _, h1, h2, hp'⟩
    exact done c m' h' tk hp' (kst_frOut h1 h2 F') N'

theorem hdA_base {hdl : Option Value} {h : Heap} (hH : HdOk hdl h) : ∀ b ∈ hdA hdl, ∃ o, h.get? b = some o := by
  intro b hb
  rcases hH with q | ⟨e, oe, vs, q, q2, _⟩
  · rw [q] at hb; cases hb
  · rw [q] at hb
    rw [List.mem_singleton.mp hb]
    exact ⟨oe, q2⟩
theorem hdA_lt {hdl : Option Value} {h : Heap} (hH : HdOk hdl h) {b : Addr} (hb : b ∈ hdA hdl) : b < h.objs.size := by
  obtain ⟨o, ho⟩ := hdA_base hH b hb
  exact Heap.lt_size ho
theorem for_bytes {σ : Type} {b : Array UInt8} {tb : Tok} {m₀ : Str → Option Value} (Led : σ → List (Addr × Obj)) (ps : σ → List (Str × Value)) (stored : List Str) (PP : Nat → σ → Prop) (c₀ : σ)
    (hH : HdOk A.handled h₀) (F : Fr h₀ env.locals s.heap m₀) (N : News h₀ env.locals s.heap (Led c₀)) (hk : ∀ p ∈ ps c₀, m₀ p.1 = some p.2) (hp : PP 0 c₀)
    (turn : ∀ (c : σ) i (k : UInt8) t (u : Str → Option Value) h tk own, i < b.size → b[i]? = some k → OwnOff own ((Led c₀).map (·.1)) → PP i c →
      Fr h₀ env.locals h (fun y => if y = x then some (.int (k.toNat : Int) t) else kstB (fun z => if stored.contains z then u z else m₀ z) (ps c) y) → News h₀ env.locals h (Led c ++ own) →
      wpAny (model prog w) A (execs body env) (InvPostN h₀ env.locals (KstS Led ps (fun _ => True) x stored m₀ (fun _ c => PP (i + 1) c) []) own ((Led c₀).map (·.1)) { s with heap := h, toks := tk } Q) E { s with heap := h, toks := tk })
    (done : ∀ (c : σ) (u : Str → Option Value) h tk, PP b.size c → Fr h₀ env.locals h (fun y => if y = x then u y else kstB (fun z => if stored.contains z then u z else m₀ z) (ps c) y) → News h₀ env.locals h (Led c) → Q .next { s with heap := h, toks := tk }) :
    wpAny (model prog w) A (pyIter (.bytes b tb)) (fun it s₂ => LoopAtV prog w A h₀ env x body Q E it s₂) E s := by
  refine KBw.pyIter_bytes ?_
  have hnew := next_is_new F
  have hsz : h₀.objs.size ≤ s.heap.objs.size := Nat.le_of_lt (Nat.lt_of_le_of_lt F.above F.ns.lt)
  have hni : s.heap.objs.size ∉ hdA A.handled := fun hm => absurd (hdA_lt hH hm) (Nat.not_lt.mpr hsz)
  have W := WB (prog := prog) (w := w) (A := A) s.heap.objs.size hni b tb
  refine for_gen Led ps stored PP c₀ W ?_ hnew ?_ ?_ ⟨⟨_, Heap.get?_push_size _ rfl, rfl, rfl⟩, hH.keeps fun b o e => Heap.get?_push_of_some _ (F.keep b o e)⟩ (F.push _) (fun p hp => ⟨Heap.get?_push_of_some _ (N p hp).1, (N p hp).2⟩) hk hp ?_ done
  · intro hm
    rcases List.mem_cons.mp hm with e | hm
    · exact absurd F.ns.lt (e ▸ Nat.lt_irrefl _)
    · exact absurd (hdA_lt hH hm) (Nat.not_lt.mpr F.above)
  · intro hm
    obtain ⟨q, hq, e⟩ := List.mem_map.mp hm
    exact absurd (Heap.lt_size (N q hq).1) (by rw [e]; exact Nat.lt_irrefl _)
  · exact fun b hb => .inl (hdA_base hH b hb)
  · rintro c i v u h tk own hi ⟨k, t, hc, rfl⟩ hoff hp' F' N'
    exact turn c i k t u h tk own hi hc hoff hp' F' N'

theorem for_items {σ : Type} {l : Addr} {vs : List Value} {nn : Nat} {m₀ : Str → Option Value} (Led : σ → List (Addr × Obj)) (ps : σ → List (Str × Value)) (stored : List Str) (PP : Nat → σ → Prop) (c₀ : σ)
    (hH : HdOk A.handled h₀) (hl : ∀ c, (l, listOf vs.toArray nn) ∈ Led c) (F : Fr h₀ env.locals s.heap m₀) (N : News h₀ env.locals s.heap (Led c₀)) (hk : ∀ p ∈ ps c₀, m₀ p.1 = some p.2) (hp : PP 0 c₀)
    (turn : ∀ (c : σ) i v (u : Str → Option Value) h tk own, i < vs.length → vs[i]? = some v → OwnOff own ((Led c₀).map (·.1)) → PP i c →
      Fr h₀ env.locals h (fun y => if y = x then some v else kstB (fun z => if stored.contains z then u z else m₀ z) (ps c) y) → News h₀ env.locals h (Led c ++ own) →
      wpAny (model prog w) A (execs body env) (InvPostN h₀ env.locals (KstS Led ps (fun _ => True) x stored m₀ (fun _ c => PP (i + 1) c) []) own ((Led c₀).map (·.1)) { s with heap := h, toks := tk } Q) E { s with heap := h, toks := tk })
    (done : ∀ (c : σ) (u : Str → Option Value) h tk, PP vs.length c → Fr h₀ env.locals h (fun y => if y = x then u y else kstB (fun z => if stored.contains z then u z else m₀ z) (ps c) y) → News h₀ env.locals h (Led c) → Q .next { s with heap := h, toks := tk }) :
    wpAny (model prog w) A (pyIter (.ref l)) (fun it s₂ => LoopAtV prog w A h₀ env x body Q E it s₂) E s := by
  have hol : s.heap.get? l = some (listOf vs.toArray nn) := (N _ (hl c₀)).1
  have hls : s.heap.IsList l vs.toArray := ⟨_, hol, rfl, nn, rfl⟩
  refine wpAny_pyIter_list hls ?_
  have hnew := next_is_new F
  have hsz : h₀.objs.size ≤ s.heap.objs.size := Nat.le_of_lt (Nat.lt_of_le_of_lt F.above F.ns.lt)
  have hni : s.heap.objs.size ∉ hdA A.handled := fun hm => absurd (hdA_lt hH hm) (Nat.not_lt.mpr hsz)
  have hne : l ≠ s.heap.objs.size := Nat.ne_of_lt (Heap.lt_size hol)
  have W := WL (prog := prog) (w := w) (A := A) s.heap.objs.size l hne hni vs.toArray
  rw [List.size_toArray] at W
  refine for_gen Led ps stored PP c₀ W ?_ hnew ?_ ?_ ⟨⟨_, Heap.get?_push_size _ rfl, rfl, rfl⟩, hls.at fun o e => Heap.get?_push_of_some _ e, hH.keeps fun b o e => Heap.get?_push_of_some _ (F.keep b o e)⟩ (F.push _) (fun p hp => ⟨Heap.get?_push_of_some _ (N p hp).1, (N p hp).2⟩) hk hp ?_ done
  · intro hm
    rcases List.mem_cons.mp hm with e | hm
    · exact absurd F.ns.lt (e ▸ Nat.lt_irrefl _)
    · rcases List.mem_cons.mp hm with e | hm
      · exact (N _ (hl c₀)).2.1 e.symm
      · exact absurd (hdA_lt hH hm) (Nat.not_lt.mpr F.above)
  · intro hm
    obtain ⟨q, hq, e⟩ := List.mem_map.mp hm
    exact absurd (Heap.lt_size (N q hq).1) (by rw [e]; exact Nat.lt_irrefl _)
  · intro b hb
    rcases List.mem_cons.mp hb with e | hb
    · exact .inr ⟨_, fun c => e ▸ hl c⟩
    · exact .inl (hdA_base hH b hb)
  · intro c i v u h tk own hi hv hoff hp' F' N'
    exact turn c i v u h tk own hi (by simpa using hv) hoff hp' F' N'
end


section
variable {h₀ g : Heap} {L L' : Addr} {m m' : Str → Option Value} {news : List (Addr × Obj)} {R : Result → Shared → Prop} {v : Value} {s' : Shared}
theorem leave0 (F' : Fr g L' s'.heap m') (k : Fr h₀ L s'.heap m → News h₀ L s'.heap news → R (.ok (.ret v)) s') : LeaveN h₀ L m news g R v s' := ⟨L', m', [], F', News.nil, fun F2 N2 _ => k F2 N2⟩
theorem leave1 {p : Addr × Obj} (F' : Fr g L' s'.heap m') (N' : News g L' s'.heap [p]) (k : Fr h₀ L s'.heap m → News h₀ L s'.heap (p :: news) → (∀ q ∈ news, p.1 ≠ q.1) → R (.ok (.ret v)) s') : LeaveN h₀ L m news g R v s' :=
  ⟨L', m', [p], F', N', fun F2 N2 D => k F2 N2 fun q hq => D p (.head _) q hq⟩
theorem leave2 {p p' : Addr × Obj} (F' : Fr g L' s'.heap m') (N' : News g L' s'.heap [p, p']) (k : Fr h₀ L s'.heap m → News h₀ L s'.heap (p :: p' :: news) → (∀ q ∈ news, p.1 ≠ q.1) → (∀ q ∈ news, p'.1 ≠ q.1) → R (.ok (.ret v)) s') : LeaveN h₀ L m news g R v s' :=
  ⟨L', m', [p, p'], F', N', fun F2 N2 D => k F2 N2 (fun q hq => D p (.head _) q hq) fun q hq => D p' (.tail _ (.head _)) q hq⟩
theorem news_sub {h : Heap} {l l' : List (Addr × Obj)} (N : News h₀ L h l) (hs : ∀ p ∈ l', p ∈ l) : News h₀ L h l' := fun p hp => N p (hs p hp)
end
end Mine

namespace Mine
open Builtin

/-! the methods of bytes that the library has no rule for -/
theorem slot_find : Slot "bytes" "find" "bytes.find" :=
  .of (owner := "bytes") (n := "find") (by rw [typeLookup_type, builtinLookup_eq_fast]; kernel_rfl) (by decide +kernel) (by decide +kernel) (by decide +kernel)
    (by first | exact .inl (by decide +kernel) | exact .inr (by decide +kernel)) (by rw [isSubtype_type]; kernel_rfl)
theorem type_find : typeOf (.builtin "bytes.find") = pure (.type "method_descriptor") := by show builtinType _ = _; rw [builtinType_eq_fast]; kernel_rfl
theorem entry_find : entryFor table "bytes.find" = some Builtin.«bytes.find» := entryFor_of_tree (by kernel_rfl)
theorem args_find (a b c d : Value) : argsOk "bytes.find" ⟨[a, b, c, d], []⟩ := by
  unfold argsOk; rw [signature?_of (id := "bytes.find") (n := ['d', 'n', 'i', 'f']) (o := ['s', 'e', 't', 'y', 'b']) (by kernel_rfl) FB.owner_bytes]; kernel_rfl
theorem slot_index : Slot "bytes" "index" "bytes.index" :=
  .of (owner := "bytes") (n := "index") (by rw [typeLookup_type, builtinLookup_eq_fast]; kernel_rfl) (by decide +kernel) (by decide +kernel) (by decide +kernel)
    (by first | exact .inl (by decide +kernel) | exact .inr (by decide +kernel)) (by rw [isSubtype_type]; kernel_rfl)
theorem type_index : typeOf (.builtin "bytes.index") = pure (.type "method_descriptor") := by show builtinType _ = _; rw [builtinType_eq_fast]; kernel_rfl
theorem entry_index : entryFor table "bytes.index" = some Builtin.«bytes.index» := entryFor_of_tree (by kernel_rfl)
theorem args_index (a b : Value) : argsOk "bytes.index" ⟨[a, b], []⟩ := by
  unfold argsOk; rw [signature?_of (id := "bytes.index") (n := ['x', 'e', 'd', 'n', 'i']) (o := ['s', 'e', 't', 'y', 'b']) (by kernel_rfl) FB.owner_bytes]; kernel_rfl
theorem slot_strip : Slot "bytes" "strip" "bytes.strip" :=
  .of (owner := "bytes") (n := "strip") (by rw [typeLookup_type, builtinLookup_eq_fast]; kernel_rfl) (by decide +kernel) (by decide +kernel) (by decide +kernel)
    (by first | exact .inl (by decide +kernel) | exact .inr (by decide +kernel)) (by rw [isSubtype_type]; kernel_rfl)
theorem type_strip : typeOf (.builtin "bytes.strip") = pure (.type "method_descriptor") := by show builtinType _ = _; rw [builtinType_eq_fast]; kernel_rfl
theorem entry_strip : entryFor table "bytes.strip" = some Builtin.«bytes.strip» := entryFor_of_tree (by kernel_rfl)
theorem args_strip (a b : Value) : argsOk "bytes.strip" ⟨[a, b], []⟩ := by
  unfold argsOk; rw [signature?_of (id := "bytes.strip") (n := ['p', 'i', 'r', 't', 's']) (o := ['s', 'e', 't', 'y', 'b']) (by kernel_rfl) FB.owner_bytes]; kernel_rfl
theorem slot_split : Slot "bytes" "split" "bytes.split" :=
  .of (owner := "bytes") (n := "split") (by rw [typeLookup_type, builtinLookup_eq_fast]; kernel_rfl) (by decide +kernel) (by decide +kernel) (by decide +kernel)
    (by first | exact .inl (by decide +kernel) | exact .inr (by decide +kernel)) (by rw [isSubtype_type]; kernel_rfl)
theorem type_split : typeOf (.builtin "bytes.split") = pure (.type "method_descriptor") := by show builtinType _ = _; rw [builtinType_eq_fast]; kernel_rfl
theorem entry_split : entryFor table "bytes.split" = some Builtin.«bytes.split» := entryFor_of_tree (by kernel_rfl)
theorem args_split (a b : Value) : argsOk "bytes.split" ⟨[a, b], []⟩ := by
  unfold argsOk; rw [signature?_of (id := "bytes.split") (n := ['t', 'i', 'l', 'p', 's']) (o := ['s', 'e', 't', 'y', 'b']) (by kernel_rfl) FB.owner_bytes]; kernel_rfl
theorem slot_join : Slot "bytes" "join" "bytes.join" :=
  .of (owner := "bytes") (n := "join") (by rw [typeLookup_type, builtinLookup_eq_fast]; kernel_rfl) (by decide +kernel) (by decide +kernel) (by decide +kernel)
    (by first | exact .inl (by decide +kernel) | exact .inr (by decide +kernel)) (by rw [isSubtype_type]; kernel_rfl)
theorem type_join : typeOf (.builtin "bytes.join") = pure (.type "method_descriptor") := by show builtinType _ = _; rw [builtinType_eq_fast]; kernel_rfl
theorem entry_join : entryFor table "bytes.join" = some Builtin.«bytes.join» := entryFor_of_tree (by kernel_rfl)
theorem args_join (a b : Value) : argsOk "bytes.join" ⟨[a, b], []⟩ := by
  unfold argsOk; rw [signature?_of (id := "bytes.join") (n := ['n', 'i', 'o', 'j']) (o := ['s', 'e', 't', 'y', 'b']) (by kernel_rfl) FB.owner_bytes]; kernel_rfl

/-- where the byte k stands from lo on, ahead of hi -/
noncomputable def findB (l : List UInt8) (k : UInt8) (lo hi : Nat) : Option Nat := ((List.range (hi - lo)).find? fun i => l[i + lo]? == some k).map (· + lo)
noncomputable def findI (l : List UInt8) (k : UInt8) (lo hi : Nat) : Int := match findB l k lo hi with | some i => (i : Int) | none => -1

theorem extract_one (l : List UInt8) (k : UInt8) (i : Nat) : (l.toArray.extract i (i + 1) == #[k]) = (l[i]? == some k) := by
  have e : l.toArray.extract i (i + 1) = ((l.drop i).take 1).toArray := by simp
  rw [e]
  cases h : l[i]? with
  | none =>
    have h2 : l.drop i = [] := List.drop_eq_nil_of_le (List.getElem?_eq_none_iff.mp h)
    rw [h2]
    rfl
  | some c =>
    have h2 : (l.drop i).take 1 = [c] := by
      have : (l.drop i)[0]? = some c := by simpa using h
      cases hd : l.drop i with
      | nil => rw [hd] at this; cases this
      | cons x r => rw [hd] at this; simp at this; simp [this]
    rw [h2]
    show ([c].toArray == [k].toArray) = (some c == some k)
    rw [List.beq_toArray]
    simp
theorem find_one (l : List UInt8) (k : UInt8) (lo hi : Nat) : Bytes.find? l.toArray #[k] lo hi = findB l k lo hi := by
  unfold Bytes.find? findB
  have e1 : hi + 1 - (lo + (#[k] : Array UInt8).size) = hi - lo := by
    show hi + 1 - (lo + 1) = hi - lo
    omega
  rw [e1, List.find?_map]
  congr 1
  congr 1
  funext i
  exact extract_one l k (i + lo)

theorem meets_find (l : List UInt8) (k : UInt8) (t u tl th : Tok) {lo hi : Nat} (h2 : hi ≤ l.length) :
    Meets («bytes.find» ⟨[.bytes l.toArray t, .bytes [k].toArray u, .int lo tl, .int hi th], []⟩) (fun _ R s => R (.ok (.ret (.int (findI l k lo hi) s.toks))) { s with toks := s.toks + 1 }) := by
  refine .of_wp fun prog w A R s h => ?_
  show wpAny _ _ (Bytes.searchArgs .bytes "find" _ >>= fun r => _) _ _ s
  refine wpAny_bind ?_
  unfold Bytes.searchArgs
  refine wpAny_bind (wpAny_of_eq (a := (Value.bytes l.toArray t, [Value.bytes [k].toArray u, Value.int lo tl, Value.int hi th])) rfl ?_)
  show wpAny _ _ (Bytes.bound? (some (.int lo tl)) >>= fun r => _) _ _ s
  refine wpAny_bind ?_
  refine wpAny_bind (wpAny_specialOf (T := "int") (typeIs_int _ _ _) F.slot_int_index.lookup ?_)
  refine wpAny_ite (KBy.ite_no (show ¬ (Option.isNone (some _) = true) from Bool.false_ne_true) ?_)
  refine wpAny_bind (wpAny_of_eq rfl (wpAny_pure ?_))
  show wpAny _ _ (Bytes.bound? (some (.int hi th)) >>= fun r => _) _ _ s
  refine wpAny_bind ?_
  refine wpAny_bind (wpAny_specialOf (T := "int") (typeIs_int _ _ _) F.slot_int_index.lookup ?_)
  refine wpAny_ite (KBy.ite_no (show ¬ (Option.isNone (some _) = true) from Bool.false_ne_true) ?_)
  refine wpAny_bind (wpAny_of_eq rfl (wpAny_pure ?_))
  show wpAny _ _ (Bytes.buffer? _ (.bytes [k].toArray u) >>= fun r => _) _ _ s
  refine wpAny_bind (wpAny_of_eq KBy.buffer_eq ?_)
  refine wpAny_bind (wpAny_pure ?_)
  show wpAny _ _ (Bytes.payload (.bytes l.toArray t) >>= fun r => _) _ _ s
  refine wpAny_bind (wpAny_of_eq (a := l.toArray) rfl (wpAny_pure ?_))
  have hw : Bytes.window l.toArray.size (some (lo : Int)) (some (hi : Int)) = ((lo : Int), (hi : Int)) := by
    unfold Bytes.window
    simp only [Option.getD_some, List.size_toArray]
    rw [if_neg (by omega), if_neg (by omega), Int.min_eq_right (by omega)]
  have hb : (if ((hi : Int) - (lo : Int)) < ((#[k] : Array UInt8).size : Int) then none else some ((lo : Int).toNat, (hi : Int).toNat) : Option (Nat × Nat)).bind (fun x => Bytes.find? l.toArray #[k] x.1 x.2) = findB l k lo hi := by
    by_cases hlt : ((hi : Int) - (lo : Int)) < ((#[k] : Array UInt8).size : Int)
    · rw [if_pos hlt]
      have e : hi - lo = 0 := by
        have : ((#[k] : Array UInt8).size : Int) = 1 := rfl
        omega
      unfold findB
      rw [e]
      rfl
    · rw [if_neg hlt]
      exact find_one l k lo hi
  show wpAny _ _ (match (if (Bytes.window l.toArray.size (some (lo : Int)) (some (hi : Int))).2 - (Bytes.window l.toArray.size (some (lo : Int)) (some (hi : Int))).1 < ((#[k] : Array UInt8).size : Int) then none else some ((Bytes.window l.toArray.size (some (lo : Int)) (some (hi : Int))).1.toNat, (Bytes.window l.toArray.size (some (lo : Int)) (some (hi : Int))).2.toNat) : Option (Nat × Nat)).bind (fun x => Bytes.find? l.toArray #[k] x.1 x.2) with
      | some i => retInt i
      | none => (rule _ >>= fun _ => retInt (-1))) _ _ s
  rw [hw, hb]
  unfold findI at h
  cases hf : findB l k lo hi with
  | some i =>
    rw [hf] at h
    exact wpAny_bind (wpAny_mkInt (wpAny_pure ⟨_, rfl, h⟩))
  | none =>
    rw [hf] at h
    exact wpAny_bind (wpAny_rule (wpAny_bind (wpAny_mkInt (wpAny_pure ⟨_, rfl, h⟩))))

theorem like_eq {id : String} {b : Array UInt8} {t : Tok} : Bytes.bytesLike id (.bytes b t) = pure b := by
  unfold Bytes.bytesLike
  rw [KBy.buffer_eq]
  rfl

noncomputable def stripL (l : List UInt8) : List UInt8 := (((l.dropWhile fun c => c == 32 || c == 9).reverse.dropWhile fun c => c == 32 || c == 9).reverse)
theorem stripL_len (l : List UInt8) : (stripL l).length ≤ l.length := by
  unfold stripL
  rw [List.length_reverse]
  refine Nat.le_trans (List.dropWhile_sublist _).length_le ?_
  rw [List.length_reverse]
  exact (List.dropWhile_sublist _).length_le
theorem stripL_same {l : List UInt8} (h : (stripL l).length = l.length) : stripL l = l := by
  have h1 := (List.dropWhile_sublist (l := l) (fun c : UInt8 => c == 32 || c == 9)).length_le
  have h2 := (List.dropWhile_sublist (l := (l.dropWhile fun c => c == 32 || c == 9).reverse) (fun c : UInt8 => c == 32 || c == 9)).length_le
  unfold stripL at h ⊢
  rw [List.length_reverse] at h h2
  have e1 : (l.dropWhile fun c => c == 32 || c == 9) = l := (List.dropWhile_sublist _).eq_of_length (by omega)
  rw [e1] at h h2 ⊢
  have e2 : (l.reverse.dropWhile fun c => c == 32 || c == 9) = l.reverse := (List.dropWhile_sublist _).eq_of_length (by rw [List.length_reverse]; omega)
  rw [e2, List.reverse_reverse]
theorem meets_strip (l : List UInt8) (t u : Tok) (hl : l.length ≤ 16777216) :
    Meets («bytes.strip» ⟨[.bytes l.toArray t, .bytes [32, 9].toArray u], []⟩) (fun _ R s => ∀ t' k, R (.ok (.ret (.bytes (stripL l).toArray t'))) { s with toks := k }) := by
  refine .of_wp fun prog w A R s h => ?_
  show wpAny _ _ (Bytes.bytesLike _ (.bytes [32, 9].toArray u) >>= fun r => _) _ _ s
  refine wpAny_bind (wpAny_of_eq like_eq ?_)
  refine wpAny_bind (wpAny_pure ?_)
  have hc : (#[32, 9] : Array UInt8).contains = (fun c : UInt8 => c == 32 || c == 9) := by
    funext c
    rw [Bool.eq_iff_iff]
    simp
  have hs : (((l.dropWhile (#[32, 9] : Array UInt8).contains).reverse.dropWhile (#[32, 9] : Array UInt8).contains).reverse) = stripL l := by rw [hc]; rfl
  refine wpAny_bind (wpAny_of_eq (a := l.toArray) rfl ?_)
  show wpAny _ _ (if ((((l.dropWhile (#[32, 9] : Array UInt8).contains).reverse.dropWhile (#[32, 9] : Array UInt8).contains).reverse).length == l.toArray.size) = true then
    (rule _ >>= fun _ => (Bytes.Kind.same .bytes (.bytes l.toArray t) >>= fun v => ret v)) else
    (mkBytes (((l.dropWhile (#[32, 9] : Array UInt8).contains).reverse.dropWhile (#[32, 9] : Array UInt8).contains).reverse).toArray >>= fun v => ret v)) _ _ s
  rw [hs]
  refine wpAny_ite ?_
  split
  · rename_i hs
    have e : stripL l = l := stripL_same (by simpa using hs)
    refine wpAny_bind (wpAny_rule (wpAny_bind ?_))
    unfold Bytes.Kind.same
    refine wpAny_ite ?_
    rw [if_pos (by decide)]
    refine wpAny_bind (wpAny_typeOf (typeIs_bytes s l.toArray t) ?_)
    refine wpAny_ite ?_
    rw [if_pos (by decide)]
    refine wpAny_pure (wpAny_pure ⟨_, rfl, ?_⟩)
    have := h t s.toks
    rw [e] at this
    exact this
  · refine wpAny_bind (wpAny_mkBytes (wpAny_pure ⟨_, rfl, h _ _⟩) ?_)
    rw [sizeLine_eq]
    exact Nat.le_trans (Nat.le_of_eq (by simp)) (Nat.le_trans (stripL_len l) hl)

noncomputable def hasB (l : List UInt8) (k : UInt8) : Bool := l.any (· == k)
theorem look_int_buffer : typeLookup (.type "int") "__buffer__" = pure none := by rw [typeLookup_type, builtinLookup_eq_fast]; kernel_rfl
theorem int_buffer {id : String} {k : Int} {u : Tok} : Bytes.buffer? id (.int k u) = pure none := by
  have e : specialOf (.int k u) "__buffer__" = pure none := by
    show typeLookup (.type "int") "__buffer__" = _
    exact look_int_buffer
  unfold Bytes.buffer?
  rw [e]
  rfl
theorem meets_index (l : List UInt8) (t u : Tok) {k : Int} (h0 : 0 ≤ k) (h1 : k < 256) {i : Nat} (hf : findB l k.toNat.toUInt8 0 l.length = some i) :
    Meets («bytes.index» ⟨[.bytes l.toArray t, .int k u], []⟩) (fun _ R s => R (.ok (.ret (.int i s.toks))) { s with toks := s.toks + 1 }) := by
  refine .of_wp fun prog w A R s h => ?_
  show wpAny _ _ (Bytes.searchArgs .bytes "index" _ >>= fun r => _) _ _ s
  refine wpAny_bind ?_
  unfold Bytes.searchArgs
  refine wpAny_bind (wpAny_of_eq (a := (Value.bytes l.toArray t, [Value.int k u])) rfl ?_)
  refine wpAny_bind (wpAny_of_eq (a := none) rfl ?_)
  refine wpAny_bind (wpAny_of_eq (a := none) rfl ?_)
  show wpAny _ _ (Bytes.buffer? _ (.int k u) >>= fun r => _) _ _ s
  refine wpAny_bind (wpAny_of_eq int_buffer ?_)
  refine wpAny_bind (wpAny_specialOf (T := "int") (typeIs_int _ _ _) F.slot_int_index.lookup ?_)
  refine wpAny_ite (KBy.ite_no (show ¬ (Option.isNone (some _) = true) from Bool.false_ne_true) ?_)
  refine wpAny_bind (wpAny_of_eq (a := k) rfl ?_)
  refine wpAny_ite ?_
  rw [if_neg (by simp; omega)]
  refine wpAny_bind (wpAny_pure ?_)
  refine wpAny_bind (wpAny_of_eq (a := l.toArray) rfl (wpAny_pure ?_))
  have hw : Bytes.window l.toArray.size none none = ((0 : Int), (l.length : Int)) := by
    unfold Bytes.window
    simp only [Option.getD_none, List.size_toArray]
    rw [if_neg (by omega), if_neg (by omega), Int.min_self]
  have hb : (if ((l.length : Int) - (0 : Int)) < ((#[k.toNat.toUInt8] : Array UInt8).size : Int) then none else some ((0 : Int).toNat, (l.length : Int).toNat) : Option (Nat × Nat)).bind (fun x => Bytes.find? l.toArray #[k.toNat.toUInt8] x.1 x.2) = some i := by
    have hlt : ¬ ((l.length : Int) - (0 : Int)) < ((#[k.toNat.toUInt8] : Array UInt8).size : Int) := by
      intro hlt
      have e : l.length - 0 = 0 := by
        have : ((#[k.toNat.toUInt8] : Array UInt8).size : Int) = 1 := rfl
        omega
      unfold findB at hf
      rw [e] at hf
      cases hf
    rw [if_neg hlt, ← hf]
    exact find_one l _ 0 l.length
  show wpAny _ _ (match (if (Bytes.window l.toArray.size none none).2 - (Bytes.window l.toArray.size none none).1 < ((#[k.toNat.toUInt8] : Array UInt8).size : Int) then none else some ((Bytes.window l.toArray.size none none).1.toNat, (Bytes.window l.toArray.size none none).2.toNat) : Option (Nat × Nat)).bind (fun x => Bytes.find? l.toArray #[k.toNat.toUInt8] x.1 x.2) with
      | some i => retInt i
      | none => (rule _ >>= fun _ => _)) _ _ s
  rw [hw, hb]
  exact wpAny_bind (wpAny_mkInt (wpAny_pure ⟨_, rfl, h⟩))

end Mine

namespace Mine
open Builtin
/-- values that hold these octets -/
inductive BytesAre : List Value → List (List UInt8) → Prop
  | nil : BytesAre [] []
  | cons {l : List UInt8} {t : Tok} {vs : List Value} {ls : List (List UInt8)} : BytesAre vs ls → BytesAre (.bytes l.toArray t :: vs) (l :: ls)
theorem BytesAre.length {vs : List Value} {ls : List (List UInt8)} (h : BytesAre vs ls) : vs.length = ls.length := by
  induction h with
  | nil => rfl
  | cons _ ih => simp [ih]
theorem BytesAre.append {vs ws : List Value} {ls ms : List (List UInt8)} (h : BytesAre vs ls) (g : BytesAre ws ms) : BytesAre (vs ++ ws) (ls ++ ms) := by
  induction h with
  | nil => exact g
  | cons _ ih => exact .cons ih
theorem BytesAre.get {vs : List Value} {ls : List (List UInt8)} (h : BytesAre vs ls) : ∀ {i : Nat} {v : Value}, vs[i]? = some v → ∃ l t, ls[i]? = some l ∧ v = .bytes l.toArray t := by
  induction h with
  | nil => intro i v e; cases e
  | @cons l t vs ls _ ih =>
    intro i v e
    cases i with
    | zero => simp at e; exact ⟨l, t, rfl, e.symm⟩
    | succ i => simpa using ih (by simpa using e)
theorem BytesAre.one {l : List UInt8} {t : Tok} : BytesAre [.bytes l.toArray t] [l] := .cons .nil
theorem BytesAre.drop {vs : List Value} {ls : List (List UInt8)} (h : BytesAre vs ls) : ∀ n, BytesAre (vs.drop n) (ls.drop n) := by
  induction h with
  | nil => intro n; simp; exact .nil
  | cons h ih =>
    intro n
    cases n with
    | zero => exact .cons h
    | succ n => simpa using ih n

noncomputable def splitC (l : List UInt8) : List (List UInt8) := (Bytes.between l.toArray 2 ((Bytes.occurrences l.toArray #[13, 10] 0 l.toArray.size).take (l.toArray.size + 1))).map (·.toList)

section
variable {prog : Program} {w : World} {A : Around} {E : Value → Shared → Prop} {s : Shared}
theorem mapM_bytes : ∀ (ps : List (Array UInt8)) {Q : List Value → Shared → Prop} {s : Shared}, (∀ p ∈ ps, p.size ≤ sizeLine) → (∀ vs k, BytesAre vs (ps.map (·.toList)) → Q vs { s with toks := k }) → wpAny (model prog w) A (ps.mapM Bytes.Kind.bytes.new) Q E s
  | [], Q, s, _, h => by
    rw [List.mapM_nil]
    exact wpAny_pure (h [] s.toks .nil)
  | p :: r, Q, s, hz, h => by
    rw [List.mapM_cons]
    refine wpAny_bind (wpAny_mkBytes ?_ (hz p (.head _)))
    refine wpAny_bind (mapM_bytes r (fun q hq => hz q (.tail _ hq)) fun vs k hv => wpAny_pure ?_)
    exact h _ k (.cons (l := p.toList) hv)
end
theorem split_bind (v : Value) : Bytes.bindOptional "bytes.split" "split" ["sep", "maxsplit"] [v] [] = pure [some v, none] := by kernel_rfl
theorem between_le (b : Array UInt8) (n : Nat) (ps : List Nat) : ∀ p ∈ Bytes.between b n ps, p.size ≤ b.size := by
  have key : ∀ (ps : List Nat) (acc : Array (Array UInt8) × Nat), (∀ p ∈ acc.1.toList, p.size ≤ b.size) → ∀ p ∈ (ps.foldl (fun (x : Array (Array UInt8) × Nat) p => (x.1.push (b.extract x.2 p), p + n)) acc).1.toList, p.size ≤ b.size := by
    intro ps
    induction ps with
    | nil => intro acc h; exact h
    | cons q r ih =>
      intro acc h
      rw [List.foldl_cons]
      refine ih _ ?_
      intro p hp
      simp only [Array.toList_push, List.mem_append, List.mem_singleton] at hp
      rcases hp with hp | rfl
      · exact h p hp
      · rw [Array.size_extract]; omega
  intro p hp
  unfold Bytes.between at hp
  simp only [Array.toList_push, List.mem_append, List.mem_singleton] at hp
  rcases hp with hp | rfl
  · exact key ps (#[], 0) (by simp) p hp
  · rw [Array.size_extract]; omega
theorem meets_split (l : List UInt8) (t u : Tok) (hl : l.length ≤ 16777216) :
    Meets («bytes.split» ⟨[.bytes l.toArray t, .bytes [13, 10].toArray u], []⟩) (fun _ R s => (splitC l).length ≤ 16777216 ∧ ∀ vs k, BytesAre vs (splitC l) → R (.ok (.ret (.ref s.heap.objs.size))) { s with heap := s.heap.push { cls := .type "list", data := .seq vs.toArray }, toks := k }) := by
  refine .of_wp fun prog w A R s h => ?_
  obtain ⟨hz, h⟩ := h
  show wpAny _ _ (Bytes.bindOptional "bytes.split" "split" ["sep", "maxsplit"] [Value.bytes [13, 10].toArray u] [] >>= fun r => _) _ _ s
  refine wpAny_bind (wpAny_of_eq (split_bind _) ?_)
  refine wpAny_bind (wpAny_pure ?_)
  show wpAny _ _ (Bytes.payload (.bytes l.toArray t) >>= fun r => _) _ _ s
  refine wpAny_bind (wpAny_of_eq (a := l.toArray) rfl ?_)
  show wpAny _ _ (Bytes.bytesLike _ (.bytes [13, 10].toArray u) >>= fun r => _) _ _ s
  refine wpAny_bind (wpAny_of_eq like_eq ?_)
  refine wpAny_ite ?_
  rw [if_neg (by decide)]
  show wpAny _ _ (if ((Bytes.occurrences l.toArray #[13, 10] 0 l.toArray.size).take (l.toArray.size + 1)).isEmpty = true then
      (rule _ >>= fun _ => (Bytes.Kind.same .bytes (.bytes l.toArray t) >>= fun v => newList [v] >>= fun r => ret r)) else
      ((Bytes.between l.toArray 2 ((Bytes.occurrences l.toArray #[13, 10] 0 l.toArray.size).take (l.toArray.size + 1))).mapM Bytes.Kind.bytes.new >>= fun vs => newList vs >>= fun r => ret r)) _ _ s
  refine wpAny_ite ?_
  split
  · rename_i he
    have e : splitC l = [l] := by
      unfold splitC
      rw [List.isEmpty_iff.mp he]
      simp [Bytes.between]
    refine wpAny_bind (wpAny_rule (wpAny_bind ?_))
    unfold Bytes.Kind.same
    refine wpAny_ite ?_
    rw [if_pos (by decide)]
    refine wpAny_bind (wpAny_typeOf (typeIs_bytes s l.toArray t) ?_)
    refine wpAny_ite ?_
    rw [if_pos (by decide)]
    refine wpAny_pure (wpAny_bind (wpAny_newObj_type (wpAny_pure ⟨_, rfl, h [.bytes l.toArray t] s.toks (by rw [e]; exact .one)⟩) (by show 1 ≤ sizeLine; decide)))
  · refine wpAny_bind (mapM_bytes _ (fun p hp => ?_) fun vs k hv => ?_)
    · refine Nat.le_trans (between_le _ _ _ p hp) ?_
      rw [sizeLine_eq]
      simpa using hl
    · refine wpAny_bind (wpAny_newObj_type (wpAny_pure ⟨_, rfl, h vs k hv⟩) ?_)
      show vs.toArray.size ≤ sizeLine
      rw [sizeLine_eq, List.size_toArray, hv.length]
      exact hz

theorem entryless : True := trivial
theorem buffer_full {id : String} {b : Array UInt8} {t : Tok} {full : Bool} : Bytes.buffer? id (.bytes b t) full = pure (some b) := by
  unfold Bytes.buffer?
  rw [KBy.special_eq KBy.look_buffer, KBy.own_buffer, KBy.own_release]
  kernel_rfl
theorem quiet_take {id : String} {b : Array UInt8} {t : Tok} : Bytes.takeBufferQuiet? id (.bytes b t) 0 = pure (some (b, none)) := by
  unfold Bytes.takeBufferQuiet? Bytes.takeBuffer?
  rw [KBy.special_eq KBy.look_buffer, KBy.own_buffer, buffer_full]
  kernel_rfl
noncomputable def joinL (sep : List UInt8) : List (List UInt8) → List UInt8
  | [] => []
  | [l] => l
  | l :: r => l ++ sep ++ joinL sep r
theorem forIn_go {σ : Type} {M : Model} {A : Around} {E : Value → Shared → Prop} {s : Shared} {f : Nat → σ → Sem (ForInStep σ)} {g : Nat → σ} {n : Nat} {Q : σ → Shared → Prop}
    (hs : ∀ i, i < n → ∀ Q' : ForInStep σ → Shared → Prop, Q' (.yield (g (i + 1))) s → wpAny M A (f i (g i)) Q' E s) (h : Q (g n) s) : ∀ k j, j + k = n → wpAny M A (forIn (List.range' j k 1) (g j) f) Q E s
  | 0, j, e => by
    have : j = n := by omega
    subst this
    rw [List.range'_zero, List.forIn_nil]
    exact wpAny_pure h
  | k + 1, j, e => by
    rw [List.range'_succ, List.forIn_cons]
    refine wpAny_bind (hs j (by omega) _ ?_)
    exact forIn_go hs h k (j + 1) (by omega)
theorem forIn_steps {σ : Type} {M : Model} {A : Around} {E : Value → Shared → Prop} {s : Shared} {f : Nat → σ → Sem (ForInStep σ)} (g : Nat → σ) {n : Nat} {x : σ} {Q : σ → Shared → Prop} (hx : x = g 0)
    (hs : ∀ i, i < n → ∀ Q' : ForInStep σ → Shared → Prop, Q' (.yield (g (i + 1))) s → wpAny M A (f i (g i)) Q' E s) (h : Q (g n) s) : wpAny M A (forIn [:n] x f) Q E s := by
  subst hx
  rw [Std.Legacy.Range.forIn_eq_forIn_range']
  have e : ([:n] : Std.Legacy.Range).size = n := by simp [Std.Legacy.Range.size]
  rw [e]
  exact forIn_go hs h n 0 (by omega)
theorem joined_eq (sep : List UInt8) (ls : List (List UInt8)) : Bytes.joined sep.toArray (ls.map (·.toArray)) = (joinL sep ls).toArray := by
  have key : ∀ (ls : List (List UInt8)) (out : Array UInt8) (k : Nat), 0 < k → ((ls.map (·.toArray)).zipIdx k).foldl (fun out (x : Array UInt8 × Nat) => (if x.2 > 0 then out ++ sep.toArray else out) ++ x.1) out = out ++ (ls.flatMap fun l => sep ++ l).toArray := by
    intro ls
    induction ls with
    | nil => intro out k _; simp
    | cons l r ih =>
      intro out k hk
      rw [List.map_cons, List.zipIdx_cons, List.foldl_cons, ih _ _ (Nat.succ_pos _)]
      simp only [gt_iff_lt, hk, if_true, List.flatMap_cons]
      simp
  have flat : ∀ (l : List UInt8) (ls : List (List UInt8)), joinL sep (l :: ls) = l ++ ls.flatMap fun l => sep ++ l := by
    intro l ls
    induction ls generalizing l with
    | nil => simp [joinL]
    | cons x r ih =>
      show l ++ sep ++ joinL sep (x :: r) = _
      rw [ih x]
      simp
  cases ls with
  | nil => rfl
  | cons l r =>
    unfold Bytes.joined
    rw [List.map_cons, List.zipIdx_cons, List.foldl_cons, flat, key _ _ _ (by omega)]
    simp
theorem join_size (sep : List UInt8) (ls : List (List UInt8)) : (ls.map (·.toArray)).toArray.foldl (fun n (b : Array UInt8) => n + b.size) (sep.toArray.size * ((ls.map (·.toArray)).toArray.size - 1)) = (joinL sep ls).length := by
  have key : ∀ (ls : List (List UInt8)) (n : Nat), (ls.map (·.toArray)).foldl (fun n (b : Array UInt8) => n + b.size) n = n + (ls.map (·.length)).sum := by
    intro ls
    induction ls with
    | nil => intro n; simp
    | cons l r ih => intro n; rw [List.map_cons, List.foldl_cons, ih]; simp; omega
  have k2 : ∀ (l : List UInt8) (ls : List (List UInt8)), (joinL sep (l :: ls)).length = sep.length * ls.length + ((l :: ls).map (·.length)).sum := by
    intro l ls
    induction ls generalizing l with
    | nil => simp [joinL]
    | cons x r ih =>
      show (l ++ sep ++ joinL sep (x :: r)).length = _
      rw [List.length_append, List.length_append, ih x]
      simp only [List.length_cons, List.map_cons, List.sum_cons, Nat.mul_add, Nat.mul_one]
      omega
  rw [List.foldl_toArray', key]
  · simp only [List.size_toArray, List.length_map]
    cases ls with
    | nil => simp [joinL]
    | cons l r => rw [k2]; simp
  · rfl
theorem letGo_quiet {M : Model} {A : Around} {E : Value → Shared → Prop} {s : Shared} : ∀ {taken : List (Value × Option Value)} {keep : List Value} {Q : Unit → Shared → Prop}, (∀ p ∈ taken, p.2 = none) → Q () s → wpAny M A (Bytes.joinLetGo taken keep) Q E s
  | [], keep, Q, _, h => wpAny_pure h
  | (x, w) :: r, keep, Q, hw, h => by
    have e : w = none := hw _ (.head _)
    subst e
    unfold Bytes.joinLetGo
    refine wpAny_bind (wpAny_letGo ?_)
    exact letGo_quiet (fun p hp => hw p (.tail _ hp)) h
noncomputable def takenOf (vs : List Value) : List (Value × Option Value) := vs.map fun v => (v, none)
theorem BytesAre.heap {vs : List Value} {ls : List (List UInt8)} (h : BytesAre vs ls) : ∀ v ∈ vs, v.onHeap = false := by
  induction h with
  | nil => intro v hv; cases hv
  | cons _ ih =>
    intro v hv
    rcases List.mem_cons.mp hv with rfl | hv
    · rfl
    · exact ih v hv
theorem jm_else {V : List Value} {f : Value → Sem PySem.Fin} {g : Array Value → Sem PySem.Fin} (h : ∀ x, V ≠ [x]) : Bytes.joinM.match_1 (fun _ => Sem PySem.Fin) V.toArray f g = g V.toArray := by
  match V, h with
  | [], _ => rfl
  | [x], h => exact absurd rfl (h x)
  | _ :: _ :: _, _ => rfl
theorem meets_join (sep : List UInt8) (t : Tok) (a : Addr) {vs : List Value} {ls : List (List UInt8)} (hv : BytesAre vs ls) :
    Meets («bytes.join» ⟨[.bytes sep.toArray t, .ref a], []⟩) (fun _ R s => s.heap.IsList a vs.toArray ∧ (joinL sep ls).length ≤ 16777216 ∧ ∀ t' k, R (.ok (.ret (.bytes (joinL sep ls).toArray t'))) { s with toks := k }) := by
  refine .of_wp fun prog w A R s h => ?_
  obtain ⟨hl, hz, h⟩ := h
  obtain ⟨o, ho, hc, n, hd⟩ := id hl
  show wpAny _ _ (Bytes.joinItems (.ref a) >>= fun r => _) _ _ s
  refine wpAny_bind ?_
  unfold Bytes.joinItems
  refine wpAny_bind (wpAny_typeOf hl.typeIs ?_)
  refine wpAny_ite ?_
  rw [if_pos (by decide)]
  refine wpAny_pure ?_
  refine wpAny_bind (wpAny_seqItems ho hd ?_)
  show wpAny _ _ (if (Bytes.Kind.bytes == Bytes.Kind.bytes) = true then _ else _) _ _ s
  rw [if_pos (by decide)]
  have harr : ∀ i, i < vs.length → ∃ l t, vs[i]? = some (.bytes l t) ∧ (ls.map (·.toArray))[i]? = some l := by
    intro i hi
    obtain ⟨l, t, h1, h2⟩ := hv.get (i := i) (v := vs[i]) (by simp [hi])
    exact ⟨l.toArray, t, by simp [hi, h2], by simp [h1]⟩
  by_cases hone : ∃ x, vs = [x]
  · obtain ⟨x, e⟩ := hone
    subst e
    cases hv with
    | @cons l t' _ ls hv =>
      cases hv
      show wpAny _ _ (typeOf (.bytes l.toArray t') >>= fun r => _) _ _ s
      refine wpAny_bind (wpAny_typeOf (typeIs_bytes s l.toArray t') ?_)
      refine wpAny_ite ?_
      rw [if_pos (by decide)]
      refine wpAny_bind (wpAny_rule (wpAny_pure ⟨_, rfl, ?_⟩))
      exact h t' s.toks
  · rw [jm_else fun x e => hone ⟨x, e⟩]
    refine wpAny_bind (forIn_steps (fun i => (((ls.map (·.toArray)).take i).toArray, takenOf (vs.take i))) rfl (fun i hi Q' hQ => ?_) ?_)
    · have hi' : i < vs.length := by simpa using hi
      obtain ⟨l, t', h1, h2⟩ := harr i hi'
      refine wpAny_bind (wpAny_seqItems ho hd ?_)
      have hx : vs.toArray.getD i .none = .bytes l t' := by simp [Array.getD_eq_getD_getElem?, h1]
      have hn : (takenOf (vs.take i)).any (fun x => x.1.onHeap) = false := by
        rw [List.any_eq_false]
        intro p hp
        obtain ⟨v, hv', rfl⟩ := List.mem_map.mp hp
        rw [hv.heap v (List.mem_of_mem_take hv')]
        exact Bool.false_ne_true
      dsimp only
      rw [hx, hn]
      rw [if_neg (by decide)]
      refine wpAny_bind (wpAny_holding (wpAny_of_eq quiet_take ?_))
      refine wpAny_bind (wpAny_seqItems ho hd ?_)
      dsimp only
      rw [if_neg (by simp)]
      refine wpAny_pure ?_
      have e1 : ((ls.map (·.toArray)).take i).toArray.push l = ((ls.map (·.toArray)).take (i + 1)).toArray := by
        rw [List.take_add_one, h2]; simp
      have e2 : takenOf (vs.take i) ++ [(Value.bytes l t', none)] = takenOf (vs.take (i + 1)) := by
        rw [List.take_add_one, h1]; simp [takenOf]
      rw [e1, e2]
      exact hQ
    · dsimp only
      have e1 : (ls.map (·.toArray)).take vs.toArray.size = ls.map (·.toArray) := List.take_of_length_le (by simp [hv.length])
      have e2 : vs.take vs.toArray.size = vs := List.take_of_length_le (by simp)
      rw [e1, e2]
      refine wpAny_bind (wpAny_of_eq (a := sep.toArray) rfl ?_)
      rw [join_size, joined_eq]
      refine wpAny_ite ?_
      rw [if_neg (by rw [KBy.tooLong_not hz]; exact Bool.false_ne_true)]
      refine wpAny_bind (wpAny_mkBytes ?_ (by rw [sizeLine_eq]; simpa using hz))
      refine wpAny_bind (wpAny_holding (wpAny_point ?_))
      refine wpAny_bind (letGo_quiet (fun p hp => ?_) ?_)
      · obtain ⟨v, _, rfl⟩ := List.mem_map.mp hp
        rfl
      · exact wpAny_pure ⟨_, rfl, h _ _⟩
end Mine

namespace Mine
open Builtin PySem.SeqAt
/-! rules of the walk over octets as lists -/
theorem findB_spec {l : List UInt8} {k : UInt8} {lo hi i : Nat} (h : findB l k lo hi = some i) : lo ≤ i ∧ i < hi ∧ l[i]? = some k ∧ ∀ j, lo ≤ j → j < i → l[j]? ≠ some k := by
  unfold findB at h
  obtain ⟨j, hj, e⟩ := Option.map_eq_some_iff.mp h
  have h1 := List.find?_some hj
  have h2 := List.mem_of_find?_eq_some hj
  have h3 := List.mem_range.mp h2
  refine ⟨by omega, by omega, by rw [← e]; simpa using h1, fun x hx hlt => ?_⟩
  have h4 := List.find?_eq_some_iff_append.mp hj
  obtain ⟨_, as, bs, hab, hno⟩ := h4
  have hmem : x - lo ∈ as := by
    have hx' : x - lo ∈ List.range (hi - lo) := List.mem_range.mpr (by omega)
    have hs : (List.range (hi - lo)).Pairwise (· < ·) := List.pairwise_lt_range
    rw [hab] at hx' hs
    rcases List.mem_append.mp hx' with q | q
    · exact q
    · rcases List.mem_cons.mp q with q | q
      · omega
      · have := (List.pairwise_cons.mp (List.pairwise_append.mp hs).2.1).1 _ q
        omega
  have := hno _ hmem
  have e2 : x - lo + lo = x := by omega
  rw [e2] at this
  simpa using this
theorem findB_none {l : List UInt8} {k : UInt8} {lo hi : Nat} (h : findB l k lo hi = none) : ∀ j, lo ≤ j → j < hi → l[j]? ≠ some k := by
  intro j h1 h2
  unfold findB at h
  have h3 := List.find?_eq_none.mp (Option.map_eq_none_iff.mp h) (j - lo) (List.mem_range.mpr (by omega))
  have e : j - lo + lo = j := by omega
  rw [e] at h3
  simpa using h3
theorem findB_of {l : List UInt8} {k : UInt8} {lo hi i : Nat} (h1 : lo ≤ i) (h2 : i < hi) (h3 : l[i]? = some k) (h4 : ∀ j, lo ≤ j → j < i → l[j]? ≠ some k) : findB l k lo hi = some i := by
  cases h : findB l k lo hi with
  | none => exact absurd h3 (findB_none h i h1 h2)
  | some j =>
    obtain ⟨a, b, c, d⟩ := findB_spec h
    rcases Nat.lt_trichotomy j i with q | q | q
    · exact absurd c (h4 j a q)
    · rw [q]
    · exact absurd h3 (d i h1 q)
theorem findB_not {l : List UInt8} {k : UInt8} {lo hi : Nat} (h : ∀ j, lo ≤ j → j < hi → l[j]? ≠ some k) : findB l k lo hi = none := by
  cases h2 : findB l k lo hi with
  | none => rfl
  | some i =>
    obtain ⟨a, b, c, _⟩ := findB_spec h2
    exact absurd c (h i a b)

noncomputable def cut (l : List UInt8) (lo hi : Option Int) : List UInt8 := (l.drop (lo.elim 0 (clipAt l.length))).take (hi.elim l.length (clipAt l.length) - lo.elim 0 (clipAt l.length))
theorem cut_len (l : List UInt8) (lo hi : Option Int) : (cut l lo hi).length ≤ l.length := by
  unfold cut
  rw [List.length_take, List.length_drop]
  omega
theorem clip_pos {n : Nat} {i : Int} (h : 0 ≤ i) : clipAt n i = min i.toNat n := by
  obtain ⟨k, rfl⟩ : ∃ k : Nat, i = (k : Int) := ⟨i.toNat, by omega⟩
  rw [clipAt_nat]
  rfl
theorem cut_from {l : List UInt8} {i : Int} (h : 0 ≤ i) : cut l (some i) none = l.drop i.toNat := by
  unfold cut
  simp only [Option.elim]
  rw [clip_pos h]
  by_cases h2 : i.toNat ≤ l.length
  · rw [Nat.min_eq_left h2, List.take_of_length_le (by rw [List.length_drop]; omega)]
  · rw [Nat.min_eq_right (by omega), List.drop_length, List.drop_eq_nil_of_le (by omega)]
    simp
theorem cut_to {l : List UInt8} {j : Int} (h : 0 ≤ j) : cut l none (some j) = l.take j.toNat := by
  unfold cut
  simp only [Option.elim, List.drop_zero, Nat.sub_zero]
  rw [clip_pos h]
  by_cases h2 : j.toNat ≤ l.length
  · rw [Nat.min_eq_left h2]
  · rw [Nat.min_eq_right (by omega), List.take_length, List.take_of_length_le (by omega)]
theorem cut_two {l : List UInt8} {i j : Int} (h : 0 ≤ i) (h' : 0 ≤ j) : cut l (some i) (some j) = (l.take j.toNat).drop i.toNat := by
  unfold cut
  simp only [Option.elim]
  rw [clip_pos h, clip_pos h', List.drop_take]
  by_cases h2 : i.toNat ≤ l.length
  · rw [Nat.min_eq_left h2]
    by_cases h3 : j.toNat ≤ l.length
    · rw [Nat.min_eq_left h3]
    · rw [Nat.min_eq_right (by omega), List.take_of_length_le (by rw [List.length_drop]; omega), List.take_of_length_le (by rw [List.length_drop]; omega)]
  · rw [Nat.min_eq_right (a := i.toNat) (by omega), List.drop_length, List.drop_eq_nil_of_le (by omega)]
    simp

section
variable {prog : Program} {w : World} {A : Around} {E : Value → Shared → Prop} {s : Shared} {value slice : PySem.Expr} {l m' : List UInt8} {k : UInt8} {t u tl th : Tok} {h₀ : Heap} {L a : Addr} {m : PySem.Str → Option Value} {news : List (Addr × Obj)} {lo hi i : Int} {Q : Value → Shared → Prop}
theorem mFind {M : Model} {b : Array UInt8} {pl : Sem Bool} {Q : Value × List Value → Shared → Prop} (h : Q (.builtin "bytes.find", [.bytes b t]) s) : wpAny M A (getMethod (.bytes b t) "find" pl) Q E s := by
  with_reducible exact KBd.method_of (.bytes b t) (typeIs_bytes _ _ _) slot_find type_find KBd.noRef h
theorem mIndex {M : Model} {b : Array UInt8} {pl : Sem Bool} {Q : Value × List Value → Shared → Prop} (h : Q (.builtin "bytes.index", [.bytes b t]) s) : wpAny M A (getMethod (.bytes b t) "index" pl) Q E s := by
  with_reducible exact KBd.method_of (.bytes b t) (typeIs_bytes _ _ _) slot_index type_index KBd.noRef h
theorem mStrip {M : Model} {b : Array UInt8} {pl : Sem Bool} {Q : Value × List Value → Shared → Prop} (h : Q (.builtin "bytes.strip", [.bytes b t]) s) : wpAny M A (getMethod (.bytes b t) "strip" pl) Q E s := by
  with_reducible exact KBd.method_of (.bytes b t) (typeIs_bytes _ _ _) slot_strip type_strip KBd.noRef h
theorem mSplit {M : Model} {b : Array UInt8} {pl : Sem Bool} {Q : Value × List Value → Shared → Prop} (h : Q (.builtin "bytes.split", [.bytes b t]) s) : wpAny M A (getMethod (.bytes b t) "split" pl) Q E s := by
  with_reducible exact KBd.method_of (.bytes b t) (typeIs_bytes _ _ _) slot_split type_split KBd.noRef h
theorem mJoin {M : Model} {b : Array UInt8} {pl : Sem Bool} {Q : Value × List Value → Shared → Prop} (h : Q (.builtin "bytes.join", [.bytes b t]) s) : wpAny M A (getMethod (.bytes b t) "join" pl) Q E s := by
  with_reducible exact KBd.method_of (.bytes b t) (typeIs_bytes _ _ _) slot_join type_join KBd.noRef h

theorem cFind (h0 : 0 ≤ lo) (h1 : 0 ≤ hi) (h2 : hi ≤ (l.length : Int)) (h : Q (.int (findI l k lo.toNat hi.toNat) s.toks) { s with toks := s.toks + 1 }) :
    wpAny (model prog w) A (call (.builtin "bytes.find") [.bytes l.toArray t, .bytes [k].toArray u, .int lo tl, .int hi th]) Q E s := by
  obtain ⟨a, rfl⟩ : ∃ k : Nat, lo = (k : Int) := ⟨lo.toNat, by omega⟩
  obtain ⟨b, rfl⟩ : ∃ k : Nat, hi = (k : Int) := ⟨hi.toNat, by omega⟩
  exact call_meets slot_find (typeIs_bytes _ _ _) entry_find (args_find _ _ _ _) (meets_find l k t u tl th (by omega)) h
theorem cIndex {k : Int} {n : Nat} (h0 : 0 ≤ k) (h1 : k < 256) (hf : findB l k.toNat.toUInt8 0 l.length = some n) (h : Q (.int n s.toks) { s with toks := s.toks + 1 }) :
    wpAny (model prog w) A (call (.builtin "bytes.index") [.bytes l.toArray t, .int k u]) Q E s :=
  call_meets slot_index (typeIs_bytes _ _ _) entry_index (args_index _ _) (meets_index l t u h0 h1 hf) h
theorem cStrip (hl : l.length ≤ 16777216) (h : ∀ t' k, Q (.bytes (stripL l).toArray t') { s with toks := k }) : wpAny (model prog w) A (call (.builtin "bytes.strip") [.bytes l.toArray t, .bytes [32, 9].toArray u]) Q E s :=
  call_meets slot_strip (typeIs_bytes _ _ _) entry_strip (args_strip _ _) (meets_strip l t u hl) h
theorem cJoin {vs : List Value} {ls : List (List UInt8)} (hl : s.heap.IsList a vs.toArray) (hv : BytesAre vs ls) (hz : (joinL l ls).length ≤ 16777216) (h : ∀ t' k, Q (.bytes (joinL l ls).toArray t') { s with toks := k }) :
    wpAny (model prog w) A (call (.builtin "bytes.join") [.bytes l.toArray t, .ref a]) Q E s :=
  call_meets slot_join (typeIs_bytes _ _ _) entry_join (args_join _ _) (meets_join l t a hv) ⟨hl, hz, h⟩
theorem cSplit (F : Fr h₀ L s.heap m) (N : News h₀ L s.heap news) (hl : l.length ≤ 16777216) (hz : (splitC l).length ≤ 16777216) (h : ∀ a vs h' k, BytesAre vs (splitC l) → Fr h₀ L h' m → News h₀ L h' ((a, listOf vs.toArray 0) :: news) → (∀ p ∈ news, p.1 < a) → Q (.ref a) { s with heap := h', toks := k }) :
    wpAny (model prog w) A (call (.builtin "bytes.split") [.bytes l.toArray t, .bytes [13, 10].toArray u]) Q E s :=
  call_meets slot_split (typeIs_bytes _ _ _) entry_split (args_split _ _) (meets_split l t u hl) ⟨hz, fun vs k hv => h s.heap.objs.size vs _ k hv (F.push _) (N.push F _) (fun p hp => Heap.lt_size (N p hp).1)⟩

theorem bAdd (hsz : l.length + m'.length ≤ 16777216) (h : ∀ t' k, Q (.bytes (l ++ m').toArray t') { s with toks := k }) : wpAny (model prog w) A (binaryOp .Add (.bytes l.toArray t) (.bytes m'.toArray u)) Q E s := by
  refine KBy.add_bytes (by simpa using hsz) fun t' k => ?_
  rw [List.append_toArray]
  exact h t' k
theorem bLen (hfit : l.length ≤ 1099511627776) (h : Q (.int (l.length : Int) (s.toks + 1)) { s with toks := s.toks + 1 + 1 }) : wpAny (model prog w) A (call (.builtin "len") [.bytes l.toArray t]) Q E s :=
  len_bytes (by simpa using hfit) (by simpa using h)
theorem bItem (hfit : l.length ≤ 1099511627776) (h0 : 0 ≤ i) (h1 : i < (l.length : Int)) (h : Q (.int ((l.getD i.toNat 0).toNat : Int) s.toks) { s with toks := s.toks + 1 })
    (hs : subscripted slice false (.bytes l.toArray t) (.int i u) = operate [.bytes l.toArray t, .int i u] (getItem (.bytes l.toArray t) (.int i u)) := by with_unfolding_all rfl)
    (ht : ∀ r, letTemporaryGo value (.bytes l.toArray t) r = pure () := by intro _; with_unfolding_all rfl) : wpAny (model prog w) A (subscriptTail value slice (.bytes l.toArray t) (.int i u)) Q E s :=
  KBy.item_N hfit h0 h1 h hs ht
theorem bSlice {lv uv : Value} {lo hi : Option Int} (F : Fr h₀ L s.heap m) (N : News h₀ L s.heap news) (hl : IsPart lv lo) (hu : IsPart uv hi) (hz : l.length ≤ 16777216)
    (h : ∀ h' t' k, Fr h₀ L h' m → News h₀ L h' news → Q (.bytes (cut l lo hi).toArray t') { s with heap := h', toks := k })
    (hs : subscripted slice false (.bytes l.toArray t) (.ref s.heap.objs.size) = operate [.ref s.heap.objs.size, .bytes l.toArray t] (getItem (.bytes l.toArray t) (.ref s.heap.objs.size)) := by with_unfolding_all rfl)
    (ht : ∀ r, letTemporaryGo value (.bytes l.toArray t) r = pure () := by intro _; with_unfolding_all rfl) :
    wpAny (model prog w) A (subscriptTail value slice (.bytes l.toArray t) (.ref s.heap.objs.size)) Q E { s with heap := s.heap.push { cls := .type "slice", data := .fields #[lv, uv, .none] } } := by
  refine KBc.slice_K F N (ks := KBw.bInts l.toArray) rfl hl hu (by rw [KBw.ints_length]; simpa using hz) (fun h' t' k F' N' _ => ?_) hs ht
  have e : KBy.picked l.toArray lo hi = (cut l lo hi).toArray := by
    rw [KBc.picked_eq]
    simp [cut]
  rw [e]
  exact h h' t' k F' N'
theorem bEq (h : Q (.bool (decide (l = m'))) s) : wpAny (model prog w) A (compareOp .Eq (.bytes l.toArray t) (.bytes m'.toArray u)) Q E s := by
  refine eq_bytes ?_
  have e : (l.toArray.toList == m'.toArray.toList) = decide (l = m') := by rw [Bool.eq_iff_iff]; simp
  rw [e]
  exact h
theorem bNe (h : Q (.bool (!decide (l = m'))) s) : wpAny (model prog w) A (compareOp .NotEq (.bytes l.toArray t) (.bytes m'.toArray u)) Q E s := by
  refine ne_bytes ?_
  have e : (l.toArray.toList != m'.toArray.toList) = !decide (l = m') := by rw [Bool.eq_iff_iff]; simp
  rw [e]
  exact h
theorem gives_has {k : Int} (h0 : 0 ≤ k) (h1 : k < 256) : Gives («bytes.__contains__» ⟨[.bytes l.toArray t, .int k u], []⟩) (.val (.bool (hasB l k.toNat.toUInt8))) := by
  refine .of_wp fun M A E s Q h => ?_
  show wpAny _ _ (Bytes.containsIn _ (.bytes l.toArray t) (.int k u) >>= fun r => _) _ _ s
  refine wpAny_bind ?_
  unfold Bytes.containsIn
  refine wpAny_bind (wpAny_of_eq (a := .ok k) rfl ?_)
  refine wpAny_bind (wpAny_of_eq KBy.buffer_eq ?_)
  show wpAny _ _ (if (decide (k < 0) || decide (k ≥ 256)) = true then _ else _) _ _ s
  refine wpAny_ite ?_
  rw [if_neg (by simp; omega)]
  refine wpAny_pure (wpAny_pure ⟨_, rfl, ?_⟩)
  have e : l.toArray.contains k.toNat.toUInt8 = hasB l k.toNat.toUInt8 := by
    unfold hasB
    rw [Bool.eq_iff_iff]
    simp
  rw [e]
  exact h
theorem bIn {k : Int} (h0 : 0 ≤ k) (h1 : k < 256) (h : Q (.bool (hasB l k.toNat.toUInt8)) s) : wpAny (model prog w) A (compareOp .In (.int k u) (.bytes l.toArray t)) Q E s :=
  in_gives (typeIs_bytes s l.toArray t) FB.slot_bytes_contains FB.entry_bytes_contains (FB.args_bytes_contains_2 _ _) (gives_has h0 h1) h

noncomputable def isI (k : Int) : Value → Bool
  | .int j _ => j == k
  | _ => false
noncomputable def isInt : Value → Bool
  | .int _ _ => true
  | _ => false
theorem isInt_of {items : List Value} (h : items.all isInt = true) : ∀ v ∈ items, ∃ j t, v = .int j t := by
  intro v hv
  have := List.all_eq_true.mp h v hv
  cases v <;> first | exact ⟨_, _, rfl⟩ | cases this
noncomputable def isBy : Value → Bool
  | .bytes _ _ => true
  | _ => false
theorem isBy_of {items : List Value} (h : items.all isBy = true) : ∀ v ∈ items, ∃ b t, v = .bytes b t := by
  intro v hv
  have := List.all_eq_true.mp h v hv
  cases v <;> first | exact ⟨_, _, rfl⟩ | cases this
noncomputable def isB (l : List UInt8) : Value → Bool
  | .bytes b _ => decide (b.toList = l)
  | _ => false
theorem inInts {k : Int} {items : List Value} {r : Bool} (hT : IsTup s.heap a items.toArray) (hi : ∀ v ∈ items, ∃ j t, v = .int j t) (hr : items.any (isI k) = r) (h : Q (.bool r) s) : wpAny (model prog w) A (compareOp .In (.int k u) (.ref a)) Q E s := by
  refine in_tupleAt (isI k) hT (fun y hy => ?_) (by rw [List.any_toArray, hr]; exact h)
  obtain ⟨j, t, rfl⟩ := hi y (by simpa using hy)
  exact EqAt.int_int j t k u
theorem notInInts {k : Int} {items : List Value} {r : Bool} (hT : IsTup s.heap a items.toArray) (hi : ∀ v ∈ items, ∃ j t, v = .int j t) (hr : items.any (isI k) = r) (h : Q (.bool (!r)) s) : wpAny (model prog w) A (compareOp .NotIn (.int k u) (.ref a)) Q E s := by
  refine notIn_tupleAt (isI k) hT (fun y hy => ?_) (by rw [List.any_toArray, hr]; exact h)
  obtain ⟨j, t, rfl⟩ := hi y (by simpa using hy)
  exact EqAt.int_int j t k u
theorem eqB {b : Array UInt8} : EqAt A s (.bytes b t) (.bytes l.toArray u) (isB l (.bytes b t)) := fun prog w E Q h => eqBool_bytes (by simpa [isB] using h)
theorem inBytes {items : List Value} {r : Bool} (hT : IsTup s.heap a items.toArray) (hi : ∀ v ∈ items, ∃ b t, v = .bytes b t) (hr : items.any (isB l) = r) (h : Q (.bool r) s) : wpAny (model prog w) A (compareOp .In (.bytes l.toArray u) (.ref a)) Q E s := by
  refine in_tupleAt (isB l) hT (fun y hy => ?_) (by rw [List.any_toArray, hr]; exact h)
  obtain ⟨b, t, rfl⟩ := hi y (by simpa using hy)
  exact eqB
theorem notInBytes {items : List Value} {r : Bool} (hT : IsTup s.heap a items.toArray) (hi : ∀ v ∈ items, ∃ b t, v = .bytes b t) (hr : items.any (isB l) = r) (h : Q (.bool (!r)) s) : wpAny (model prog w) A (compareOp .NotIn (.bytes l.toArray u) (.ref a)) Q E s := by
  refine notIn_tupleAt (isB l) hT (fun y hy => ?_) (by rw [List.any_toArray, hr]; exact h)
  obtain ⟨b, t, rfl⟩ := hi y (by simpa using hy)
  exact eqB
end
end Mine

namespace Mine
open Builtin PySem.SeqAt

section Part_S0

example : (PySem.Challenge.rw_no0361_01, Mine.hd.heap_39) = (PySem.Challenge.rw_no0361_01, Mine.hd.heap_39) := by k_fill; rfl

section
variable {prog : Program} {w : World} {A : Around} {E : Value → Shared → Prop} {s : Shared} {env : Env} {h₀ : Heap} {L t : Addr} {m : Str → Option Value} {news : List (Addr × Obj)}
theorem tup_end {it : Addr} {i : Nat} {items : Array Value} {Q : Option Value → Shared → Prop} (hH : HdOk A.handled s.heap) (hni : it ∉ hdA A.handled)
    (hit : IsTupIter s.heap it t i) (ht : IsTup s.heap t items) (hx : items[i]? = none)
    (hQ : ∀ h', Heap.ExtBut it s.heap h' → Q none { s with heap := h' }) : wpAny (model prog w) A (pyNext (.ref it)) Q E s := by
  obtain ⟨o, ho, hc, hd⟩ := id hit
  obtain ⟨ol, hol, _, nl, hdl⟩ := ht
  unfold pyNext
  refine wpAny_bind (wpAny_attempt (wpAny_callSpecial?_slot (name := Str.ofString "__next__") hit.typeIs slot_tupleiter_next
    (wpAny_call_entry slot_tupleiter_next hit.typeIs entry_tupleiter_next ?_ (args_tupleiter_next _))))
  show wpAny _ _ (field (.ref it) 0 >>= _) _ _ s
  refine wpAny_bind (wpAny_field ho hd (x := .ref t) rfl ?_)
  show wpAny _ _ (if (Value.ref t == Value.none) = true then _ else _) _ _ s
  rw [if_neg (show ¬ ((Value.ref t == Value.none) = true) from Bool.false_ne_true)]
  show wpAny _ _ (field (.ref it) 1 >>= _) _ _ s
  refine wpAny_bind (wpAny_field ho hd (x := .int i 0) rfl ?_)
  show wpAny _ _ (seqItems? (.ref t) >>= _) _ _ s
  refine wpAny_bind (wpAny_seqItems hol hdl ?_)
  simp only [Int.toNat_natCast, hx]
  refine wpAny_bind (wpAny_rule (wpAny_bind (wpAny_setField ho hd (by simp) ?_)))
  refine stop_iter (HdOk.frame hH fun b hb o' e => (Heap.get?_update_other _ _ (fun (q : it = b) => hni (q ▸ hb))).trans e) fun h' x ox q1 q2 q3 => ?_
  refine wpAny_bind (wpAny_isInstance (T := "StopIteration") (b := true) ⟨_, q1, q2⟩ isSubtype_stop ?_)
  exact wpAny_pure (hQ _ fun b o' hb e => q3 b o' ((Heap.get?_update_other _ _ (Ne.symm hb)).trans e))
theorem unpackH {items : Array Value} {Q : List Value → Shared → Prop} (hH : HdOk A.handled s.heap) (ht : IsTup s.heap t items)
    (hQ : ∀ h', Heap.ExtBut s.heap.objs.size s.heap h' → Q items.toList { s with heap := h' }) : wpAny (model prog w) A (unpackItems (.ref t) items.size none) Q E s := by
  have hlt : t ≠ s.heap.objs.size := by obtain ⟨o, ho, _⟩ := ht; exact Nat.ne_of_lt (Heap.lt_size ho)
  have hni : s.heap.objs.size ∉ hdA A.handled := fun hm => absurd (hdA_lt hH hm) (Nat.lt_irrefl _)
  unfold unpackItems
  refine wpAny_bind ?_
  unfold notIterableAtAll
  refine wpAny_bind (wpAny_specialOf ht.typeIs slot_tuple_iter.lookup ?_)
  refine wpAny_pure ?_
  simp only [Bool.false_eq_true, if_false]
  refine wpAny_bind (wpAny_holding (iter_tuple ht ?_))
  refine wpAny_bind (wpAny_holding (draw_tuple hlt items.size 0 _ _ ⟨_, Heap.get?_push_size _ rfl, rfl, rfl⟩ (ht.push _) (by omega) fun h₁ hit₁ hs₁ => ?_))
  have hall : List.take items.size (List.drop 0 items.toList) = items.toList := by
    rw [List.drop_zero]; exact List.take_of_length_le (by simp)
  rw [hall]
  rw [if_neg (by simp)]
  have ht₁ : IsTup h₁ t items := (ht.push _).extBut hs₁.extBut hlt
  have hH₁ : HdOk A.handled h₁ := hH.frame fun b hb o e => hs₁.extBut b o (fun q => hni (q ▸ hb)) (Heap.get?_push_of_some _ e)
  refine wpAny_bind (wpAny_holding (tup_end hH₁ hni hit₁ ht₁ (by simp) fun h₂ he₂ => ?_))
  simp only [Option.isSome_none, Bool.false_eq_true, if_false]
  exact wpAny_pure (hQ h₂ fun b o hb e => he₂ b o hb (hs₁.extBut b o hb (Heap.get?_push_of_some _ e)))
theorem assignH {elts : List PySem.Expr} {k : Nat} {pos : Pos} {items : Array Value} {Q : Unit → Shared → Prop} (F : Fr h₀ L s.heap m) (N : News h₀ L s.heap news) (ht : IsTup s.heap t items)
    (hH : HdOk A.handled s.heap) (hn : (assignEach elts env).length = items.size) (hstar : (assignEach elts env).findIdx? (·.1) = none)
    (h : ∀ h', Fr h₀ L h' m → News h₀ L h' news → wpAny (model prog w) A (assignInOrder ((assignEach elts env).map (·.2)) items.toList) Q E { s with heap := h' }) :
    wpAny (model prog w) A (assign (.Tuple elts k pos) env (.ref t)) Q E s := by
  rw [assign_Tuple]
  refine wpAny_bind (wpAny_standAt ?_)
  unfold unpack
  rw [hn, hstar]
  exact wpAny_bind (wpAny_holding (unpackH hH ht fun h' he => h h' (F.extBut he (Nat.le_refl _)) (N.extBut he (Nat.le_refl _))))
end

end Part_S0

section Lines_rules

set_option hygiene false in
local macro_rules | `(tactic| walk_at "c8") => `(tactic| ((case k1 => k_asm); (case k2 => k_asm); (case k3 => k_asm); (case k4 => k_asm); (case k5 => k_asm); (case kK => first | exact rfl | assumption); (case kd => ktr_room); (case ku => ktr_units)))
set_option hygiene false in
local macro_rules | `(tactic| walk_at "c3") => `(tactic| ((try k_sweep); (try dsimp only); (try k_fold)))
set_option hygiene false in
local macro_rules | `(tactic| walk_at "ar") => `(tactic| first
  | with_reducible assumption
  | decide
  | omega
  | ((simp only [List.length_append, List.length_cons, List.length_nil, List.length_map]); omega)
  | ((simp only [List.length_append, List.length_cons, List.length_nil, List.length_map] at *); omega)
  | fail "ar: no bound at hand")
set_option hygiene false in
local macro_rules | `(tactic| walk_at "getMethod bytes") => `(tactic| (k_here; first
  | (with_reducible refine mFind ?_)
  | (with_reducible refine mStrip ?_)
  | (with_reducible refine mJoin ?_)
  | (with_reducible refine mIndex ?_)
  | (with_reducible refine mSplit ?_)))
set_option hygiene false in
local macro_rules | `(tactic| walk_at "call builtin:bytes.find") => `(tactic| (k_here; refine cFind' ?fa ?fb ?fc ?_; (case fa => walk_at "ar"); (case fb => walk_at "ar"); (case fc => walk_at "ar"); intro fR fE fB))
set_option hygiene false in
local macro_rules | `(tactic| walk_at "call builtin:bytes.strip") => `(tactic| (k_here; refine cStrip ?fa ?_; (case fa => walk_at "ar"); intro _ _))
set_option hygiene false in
local macro_rules | `(tactic| walk_at "binaryOp Add bytes bytes") => `(tactic| (k_here; refine bAdd ?fa ?_; (case fa => walk_at "ar"); intro _ _))
set_option hygiene false in
local macro_rules | `(tactic| walk_at "call builtin:len") => `(tactic| (k_here; (with_reducible show wpAny _ _ (call (Value.builtin "len") [Value.bytes (List.toArray _) _]) _ _ _); refine bLen ?fa ?_; (case fa => walk_at "ar")))
set_option hygiene false in
local macro_rules | `(tactic| walk_at "subscriptTail") => `(tactic| (k_here; (with_reducible show wpAny _ _ (subscriptTail _ _ (Value.bytes (List.toArray _) _) (Value.int _ _)) _ _ _); refine bItem ?fa ?fb ?fc ?_; (case fa => walk_at "ar"); (case fb => walk_at "ar"); (case fc => walk_at "ar")))
set_option hygiene false in
local macro_rules | `(tactic| walk_at "subscriptTail") => `(tactic| (k_here; (with_reducible show wpAny _ _ (subscriptTail _ (Expr.Slice _ _ none _) (Value.bytes (List.toArray _) _) (Value.ref _)) _ _ _); (with_reducible rename Fr _ _ _ _ => F'); (with_reducible rename News _ _ _ _ => N'); (refine bSlice (s := ⟨_, _, _, _, _⟩) F' N' (by constructor) (by constructor) ?fa ?_); (case fa => walk_at "ar"); intro _ _ _ _ _))
set_option hygiene false in
local macro_rules | `(tactic| walk_at "compareOp Eq bytes bytes") => `(tactic| (refine bEq ?_))
set_option hygiene false in
local macro_rules | `(tactic| walk_at "compareOp NotEq bytes bytes") => `(tactic| (refine bNe ?_))
set_option hygiene false in
local macro_rules | `(tactic| walk_at "hd") => `(tactic| first
  | assumption
  | exact HdOk.none _
  | exact HdOk.keeps (by assumption) (Fr.keep (by k_asm)))
set_option hygiene false in
local macro_rules | `(tactic| walk_at "assign Tuple") => `(tactic| (k_here; (with_reducible show wpAny _ _ (assign (Expr.Tuple _ _ _) _ (Value.ref _)) _ _ _); k_dflt (refine' assignH ?k1 ?k2 ?k3 ?k4 ?k5 ?k6 ?_; (case k1 => k_asm); (case k2 => k_asm); (case k3 => kun_tup); (case k4 => walk_at "hd"); (case k5 => exact rfl); (case k6 => exact rfl); k_whole); intro h' F' N'; (try k_sweep)))
set_option hygiene false in
local macro_rules | `(tactic| walk_at "steps") => `(tactic| repeat' (first | (k_unfold; (try dsimp only)) | ((with_reducible show wpAny _ _ (execs _ _) _ _ _); k_fold) | (k_end; wrow_close) | ((fail_if_success (with_reducible show wpAny _ _ (exec (Stmt.While _ _ _ _) _) _ _ _)); (fail_if_success (with_reducible show wpAny _ _ (pyIter _) _ _ _)); first | walk1 | (dsimp only; walk1) | (leave1; walk_say "STEP leave1"; try dsimp only))))
set_option hygiene false in
local macro_rules | `(tactic| walk_at "tup") => `(tactic| first | with_reducible assumption | exact News.isTup (by k_asm) (by k_mem) | exact tupK (by k_in) (by k_is))
set_option hygiene false in
local macro_rules | `(tactic| walk_at "compareOp NotIn int ref") => `(tactic| (k_here; k_dflt (refine' notInInts ?fT ?fi ?fr ?_; (case fT => walk_at "tup"); (case fi => exact isInt_of rfl); (case fr => (simp only [List.any_cons, List.any_nil, isI, Bool.or_false]; exact rfl)))))
set_option hygiene false in
local macro_rules | `(tactic| walk_at "compareOp In int ref") => `(tactic| (k_here; k_dflt (refine' inInts ?fT ?fi ?fr ?_; (case fT => walk_at "tup"); (case fi => exact isInt_of rfl); (case fr => (simp only [List.any_cons, List.any_nil, isI, Bool.or_false]; exact rfl)))))

section Part_S1

theorem cFind' {prog : Program} {w : World} {A : Around} {E : Value → Shared → Prop} {s : Shared} {l : List UInt8} {k : UInt8} {t u tl th : Tok} {lo hi : Int} {Q : Value → Shared → Prop} (h0 : 0 ≤ lo) (h1 : 0 ≤ hi) (h2 : hi ≤ (l.length : Int))
    (h : ∀ r : Int, r = findI l k lo.toNat hi.toNat → (r = -1 ∨ (lo ≤ r ∧ r < hi)) → Q (.int r s.toks) { s with toks := s.toks + 1 }) :
    wpAny (model prog w) A (call (.builtin "bytes.find") [.bytes l.toArray t, .bytes [k].toArray u, .int lo tl, .int hi th]) Q E s := by
  refine cFind h0 h1 h2 (h _ rfl ?_)
  unfold findI
  cases hf : findB l k lo.toNat hi.toNat with
  | none => exact .inl rfl
  | some i =>
    obtain ⟨a, b, _⟩ := findB_spec hf
    exact .inr ⟨by simp; omega, by simp; omega⟩
noncomputable def isName (l : List UInt8) : Bool := l.all (fun c => decide (33 ≤ c.toNat) && decide (c.toNat ≤ 126) && decide (c.toNat ≠ 58)) && decide (0 < l.length)

section
variable {prog p : Program} {w : World} {loose : List Str} {mean : ExcName → Option Value} {mg mb : Str → Option Value}
  {hdl : Option Value} {dp un : Nat} {gd : Option (List Code)} {cn : Str} {cs : Scope} {a : Addr} {ccd : Value} {cl : List (Str × Addr)} {outer : List Env} {A₀ : Around} {base h₀ : Heap} {L : Addr} {m : Str → Option Value} {news : List (Addr × Obj)} {s : Shared} {Q E : Value → Shared → Prop}

set_option maxHeartbeats 8000000 in
theorem is_name_spec {l : List UInt8} {t : Tok} (B : Below A₀ base outer h₀) (F : Fr h₀ L s.heap m) (X : (Mine.hd.heap_39 w.params).In h₀) (N : News h₀ L s.heap news) (T : Top p loose mean mg mb h₀) (hk : cs.kind = .function) (hdp : dp + 1 < recursionLimit) (hu : un + 8 < cLine) (hH : HdOk hdl s.heap) (hl : l.length ≤ 16777216)
   (ret : ∀ h' tk', Fr h₀ L h' m → News h₀ L h' news → Q (.bool (isName l)) {s with heap := h', toks := tk'}) :
   wpAny (model prog w) (Tp hdl dp un gd cn cs L a ccd cl outer) (call (.ref 111) [.bytes l.toArray t]) Q E s := by
  refine wpAny_call ?_
  k_dflt (refine' enterP (br := [(Str.ofString "octets", .bytes l.toArray t)]) ?k1 ?k2 ?k3 ?k4 ?k5 ?kA ?kF ?kK ?k6 ?k7 ?k8 ?k9 ?kB ?kR ?_ ?c2 ?c3 ?c4 ?c5; (case kA => exact rfl); (case kF => exact rfl); (case kK => assumption); (case k1 => k_asm); (case k2 => k_asm); (case k3 => k_asm); (case k4 => k_asm); (case k5 => k_asm); (case k6 => k_is); (case k7 => k_is); (case k8 => ktr_room); (case k9 => first | exact BindsTo.of_eq rfl | exact binds_K (by k_in) rfl (by k_is) rfl rfl rfl); (case c2 => decide); (case kB => exact locs rfl); (case kR => exact rfl); (case c3 => exact rfl); (case c4 => exact rfl); (case c5 => exact rfl); k_whole)
  intro g1 L1 h1 tk1 gk1 gk2 F1 N1 B1 X1 T1
  dsimp only [kstB] at F1
  have hH1 : HdOk hdl g1 := hH.keeps gk1
  try dsimp only
  try k_fold

  k_steps
  refine for_bytes (σ := Unit) (fun _ => []) (fun _ => []) [] (fun i _ => (l.take i).all (fun c => decide (33 ≤ c.toNat) && decide (c.toNat ≤ 126) && decide (c.toNat ≠ 58)) = true) () hH1 (by assumption) (by assumption) (by simp) (by simp) ?_ ?_
  · intro c i k t u h tk own hi hg hoff hP F1 N1
    dsimp only [kstB] at F1
    simp only [List.contains_nil, Bool.false_eq_true, if_false, List.nil_append] at F1 N1
    have hk0 : l[i]? = some k := by simpa using hg
    have bad : ¬ (33 ≤ k.toNat ∧ k.toNat ≤ 126 ∧ k.toNat ≠ 58) → isName l = false := by
      intro hb
      have hm := List.mem_of_getElem? hk0
      unfold isName
      rw [Bool.and_eq_false_iff]
      left
      rw [List.all_eq_false]
      exact ⟨k, hm, by simp only [Bool.and_eq_true, decide_eq_true_eq, ne_eq]; intro hx; exact hb ⟨hx.1.1, hx.1.2, hx.2⟩⟩
    k_steps
    all_goals first
      | exact leave0 F1 fun F2 N2 => by
          have e := bad (by omega)
          rw [e] at ret
          exact ret _ _ F2 N2
      | exact kst_end () F1 N1 (by kst_in) (by intro q hq; simpa using hq) rfl trivial (by kst_all) (by kst_same) (by
          rw [List.take_add_one, hk0]
          simp only [Option.toList, List.all_append, hP, List.all_cons, List.all_nil, Bool.true_and, Bool.and_true, Bool.and_eq_true, decide_eq_true_eq]
          omega)
  · intro c u h tk hP F1 N1
    k_steps
    refine leave0 F1 fun F2 N2 => ?_
    have e : isName l = decide (0 < ((l.length : Nat) : Int)) := by
      have h1 : l.toArray.size = l.length := by simp
      rw [h1, List.take_length] at hP
      unfold isName
      rw [hP, Bool.true_and, decide_eq_decide]
      omega
    rw [e] at ret
    exact ret _ _ F2 N2

end

end Part_S1

section Part_S2

local macro_rules | `(tactic| walk_at "pad0") => `(tactic| fail)

section
variable {prog p : Program} {w : World} {loose : List Str} {mean : ExcName → Option Value} {mg mb : Str → Option Value}
  {hdl : Option Value} {dp un : Nat} {gd : Option (List Code)} {cn : Str} {cs : Scope} {a : Addr} {ccd : Value} {cl : List (Str × Addr)} {outer : List Env} {A₀ : Around} {base h₀ : Heap} {L : Addr} {m : Str → Option Value} {news : List (Addr × Obj)} {s : Shared} {Q E : Value → Shared → Prop}

noncomputable def lineAt (l : List UInt8) (i j : Int) : Int × Int :=
  if findI l 10 i.toNat j.toNat < 0 then (j, j)
  else if i < findI l 10 i.toNat j.toNat ∧ ((l.getD (findI l 10 i.toNat j.toNat - 1).toNat 0).toNat : Int) = 13 then (findI l 10 i.toNat j.toNat - 1, findI l 10 i.toNat j.toNat + 1)
  else (findI l 10 i.toNat j.toNat, findI l 10 i.toNat j.toNat + 1)
noncomputable abbrev tupObj (vs : List Value) : Obj := { cls := .type "tuple", data := .seq vs.toArray }
set_option maxHeartbeats 8000000 in
theorem line_at_spec {l : List UInt8} {i j : Int} {t t1 t2 : Tok} (B : Below A₀ base outer h₀) (F : Fr h₀ L s.heap m) (X : (Mine.hd.heap_39 w.params).In h₀) (N : News h₀ L s.heap news) (T : Top p loose mean mg mb h₀) (hk : cs.kind = .function) (hdp : dp + 1 < recursionLimit) (hu : un + 8 < cLine) (hH : HdOk hdl s.heap) (hl : l.length ≤ 16777216) (hi : 0 ≤ i) (hj : 0 ≤ j) (hj2 : j ≤ (l.length : Int))
   (ret : ∀ a t1 t2 h' tk', Fr h₀ L h' m → News h₀ L h' ((a, tupObj [.int (lineAt l i j).1 t1, .int (lineAt l i j).2 t2]) :: news) → (∀ q ∈ news, a ≠ q.1) → Q (.ref a) {s with heap := h', toks := tk'}) :
   wpAny (model prog w) (Tp hdl dp un gd cn cs L a ccd cl outer) (call (.ref 104) [.bytes l.toArray t, .int i t1, .int j t2]) Q E s := by
  refine wpAny_call ?_
  k_dflt (refine' enterP (br := [(Str.ofString "end", .int j t2), (Str.ofString "at", .int i t1), (Str.ofString "data", .bytes l.toArray t)]) ?k1 ?k2 ?k3 ?k4 ?k5 ?kA ?kF ?kK ?k6 ?k7 ?k8 ?k9 ?kB ?kR ?_ ?c2 ?c3 ?c4 ?c5; (case kA => exact rfl); (case kF => exact rfl); (case kK => assumption); (case k1 => k_asm); (case k2 => k_asm); (case k3 => k_asm); (case k4 => k_asm); (case k5 => k_asm); (case k6 => k_is); (case k7 => k_is); (case k8 => ktr_room); (case k9 => first | exact BindsTo.of_eq rfl | exact binds_K (by k_in) rfl (by k_is) rfl rfl rfl); (case c2 => decide); (case kB => exact locs rfl); (case kR => exact rfl); (case c3 => exact rfl); (case c4 => exact rfl); (case c5 => exact rfl); k_whole)
  intro g1 L1 h1 tk1 gk1 gk2 F1 N1 B1 X1 T1
  dsimp only [kstB] at F1
  have hH1 : HdOk hdl g1 := hH.keeps gk1
  try dsimp only
  try k_fold

  k_steps
  all_goals (
    (with_reducible rename _ = findI _ _ _ _ => fE)
    subst fE
    refine leave1 (by assumption) (by assumption) fun F2 N2 D2 => ?_)
  · have e : lineAt l i j = (j, j) := by
      unfold lineAt
      rw [if_pos (by assumption)]
    rw [e] at ret
    exact ret _ _ _ _ _ F2 N2 D2
  · have e : lineAt l i j = (findI l 10 i.toNat j.toNat - 1, findI l 10 i.toNat j.toNat + 1) := by
      unfold lineAt
      rw [if_neg (by assumption), if_pos ⟨by assumption, by assumption⟩]
    rw [e] at ret
    exact ret _ _ _ _ _ F2 N2 D2
  · have e : lineAt l i j = (findI l 10 i.toNat j.toNat, findI l 10 i.toNat j.toNat + 1) := by
      unfold lineAt
      rw [if_neg (by assumption), if_neg fun hx => absurd hx.2 (by assumption)]
    rw [e] at ret
    exact ret _ _ _ _ _ F2 N2 D2
  · have e : lineAt l i j = (findI l 10 i.toNat j.toNat, findI l 10 i.toNat j.toNat + 1) := by
      unfold lineAt
      rw [if_neg (by assumption), if_neg fun hx => absurd hx.1 (by assumption)]
    rw [e] at ret
    exact ret _ _ _ _ _ F2 N2 D2

end

end Part_S2

section Part_S3

local macro_rules | `(tactic| walk_at "pad0") => `(tactic| fail)

set_option hygiene false in
local macro_rules | `(tactic| walk_at "call ref") => `(tactic| (k_here; (with_reducible show wpAny _ _ (call (Value.ref 104) _) _ _ _); k_dflt (refine' line_at_spec ?k1 ?k2 ?k3 ?k4 ?k5 ?kK ?kd ?ku ?kH ?ka ?kb ?kc ?ke ?_; walk_at "c8"; (case kH => walk_at "hd"); (case ka => walk_at "ar"); (case kb => walk_at "ar"); (case kc => walk_at "ar"); (case ke => walk_at "ar"); k_whole); intro laA laT laU h' tk' F' N' laD; (try simp only [List.forall_mem_cons, List.not_mem_nil, false_implies, implies_true, and_true] at laD); walk_at "c3"))

section
variable {prog p : Program} {w : World} {loose : List Str} {mean : ExcName → Option Value} {mg mb : Str → Option Value}
  {hdl : Option Value} {dp un : Nat} {gd : Option (List Code)} {cn : Str} {cs : Scope} {a : Addr} {ccd : Value} {cl : List (Str × Addr)} {outer : List Env} {A₀ : Around} {base h₀ : Heap} {L : Addr} {m : Str → Option Value} {news : List (Addr × Obj)} {s : Shared} {Q E : Value → Shared → Prop}

noncomputable def rowsF : Nat → List UInt8 → Int → List (List UInt8)
  | 0, _, _ => []
  | n + 1, l, i => ((l.take (lineAt l i l.length).1.toNat).drop i.toNat) :: (if (lineAt l i l.length).1 = l.length then [] else rowsF n l (lineAt l i l.length).2)
noncomputable def rowsOf (l : List UInt8) : List (List UInt8) := rowsF (l.length + 1) l 0
theorem sub_one' {a b : Nat} (h : b < a) : a - b = a - b - 1 + 1 := (Nat.sub_one_add_one (Nat.sub_ne_zero_of_lt h)).symm
theorem meas {n : Nat} {i j : Int} (h0 : 0 ≤ i) (h1 : i < j) (h2 : i < n) : n - j.toNat < n - i.toNat := by omega
theorem findI_lt {l : List UInt8} {k : UInt8} {i j : Nat} : findI l k i j = -1 ∨ ((i : Int) ≤ findI l k i j ∧ findI l k i j < j) := by
  unfold findI
  cases hf : findB l k i j with
  | none => exact .inl rfl
  | some x =>
    obtain ⟨a, b, _⟩ := findB_spec hf
    exact .inr ⟨by simp; omega, by simp; omega⟩
theorem lineAt_bounds {l : List UInt8} {i j : Int} (hi : 0 ≤ i) (hij : i ≤ j) : i ≤ (lineAt l i j).1 ∧ (lineAt l i j).1 ≤ j ∧ (lineAt l i j).2 ≤ j ∧ i ≤ (lineAt l i j).2 ∧ ((lineAt l i j).1 ≠ j → i < (lineAt l i j).2) := by
  have h := findI_lt (l := l) (k := 10) (i := i.toNat) (j := j.toNat)
  rw [Int.toNat_of_nonneg hi, Int.toNat_of_nonneg (Int.le_trans hi hij)] at h
  unfold lineAt
  split
  · dsimp only; omega
  · have h := h.resolve_left (by omega)
    split
    · dsimp only; omega
    · dsimp only
      exact ⟨h.1, Int.le_of_lt h.2, h.2, Int.le_add_one h.1, fun _ => Int.lt_add_one_of_le h.1⟩
theorem rowsF_fuel {l : List UInt8} : ∀ (n m : Nat) (i : Int), 0 ≤ i → i ≤ l.length → l.length + 1 ≤ n + i.toNat → l.length + 1 ≤ m + i.toNat → rowsF n l i = rowsF m l i
  | 0, _, i, h0, h1, h2, _ => by omega
  | _ + 1, 0, i, h0, h1, _, h3 => by omega
  | n + 1, m + 1, i, h0, h1, h2, h3 => by
    have hb := lineAt_bounds (l := l) (i := i) (j := l.length) h0 h1
    unfold rowsF
    congr 1
    by_cases he : (lineAt l i l.length).1 = l.length
    · rw [if_pos he, if_pos he]
    · rw [if_neg he, if_neg he]
      have := hb.2.2.2.2 he
      exact rowsF_fuel n m _ (by omega) (by omega) (by omega) (by omega)
theorem rowsF_len {l : List UInt8} : ∀ (n : Nat) (i : Int), 0 ≤ i → i ≤ l.length → (rowsF n l i).length ≤ l.length + 1 - i.toNat
  | 0, i, _, _ => Nat.zero_le _
  | n + 1, i, h0, h1 => by
    have hb := lineAt_bounds (l := l) (i := i) (j := l.length) h0 h1
    unfold rowsF
    rw [List.length_cons]
    by_cases he : (lineAt l i l.length).1 = l.length
    · rw [if_pos he, List.length_nil]; omega
    · rw [if_neg he]
      have := hb.2.2.2.2 he
      have := rowsF_len (l := l) n (lineAt l i l.length).2 (by omega) (by omega)
      omega
theorem rowsOf_len (l : List UInt8) : (rowsOf l).length ≤ l.length + 1 := by
  have := rowsF_len (l := l) (l.length + 1) 0 (Int.le_refl _) (by omega)
  unfold rowsOf
  simpa using this
theorem rowsF_mem {l : List UInt8} {r : List UInt8} : ∀ (n : Nat) (i : Int), r ∈ rowsF n l i → r.length ≤ l.length
  | 0, i, h => by cases h
  | n + 1, i, h => by
    unfold rowsF at h
    rcases List.mem_cons.mp h with h | h
    · rw [h, List.length_drop, List.length_take]; omega
    · by_cases he : (lineAt l i l.length).1 = l.length
      · rw [if_pos he] at h; cases h
      · rw [if_neg he] at h
        exact rowsF_mem n _ h
theorem rowsOf_mem {l r : List UInt8} (h : r ∈ rowsOf l) : r.length ≤ l.length := rowsF_mem _ _ h

structure RS where
  vs : List Value
  ls : List (List UInt8)
  i : Int
  t : Tok
  n : Nat
set_option maxHeartbeats 8000000 in
theorem rows_of_spec {l : List UInt8} {t : Tok} (B : Below A₀ base outer h₀) (F : Fr h₀ L s.heap m) (X : (Mine.hd.heap_39 w.params).In h₀) (N : News h₀ L s.heap news) (T : Top p loose mean mg mb h₀) (hk : cs.kind = .function) (hdp : dp + 2 < recursionLimit) (hu : un + 16 < cLine) (hH : HdOk hdl s.heap) (hl : l.length ≤ 16777215)
   (ret : ∀ a vs n h' tk', BytesAre vs (rowsOf l) → Fr h₀ L h' m → News h₀ L h' ((a, listOf vs.toArray n) :: news) → (∀ q ∈ news, a ≠ q.1) → Q (.ref a) {s with heap := h', toks := tk'}) :
   wpAny (model prog w) (Tp hdl dp un gd cn cs L a ccd cl outer) (call (.ref 139) [.bytes l.toArray t]) Q E s := by
  refine wpAny_call ?_
  k_dflt (refine' enterP (br := [(Str.ofString "raw", .bytes l.toArray t)]) ?k1 ?k2 ?k3 ?k4 ?k5 ?kA ?kF ?kK ?k6 ?k7 ?k8 ?k9 ?kB ?kR ?_ ?c2 ?c3 ?c4 ?c5; (case kA => exact rfl); (case kF => exact rfl); (case kK => assumption); (case k1 => k_asm); (case k2 => k_asm); (case k3 => k_asm); (case k4 => k_asm); (case k5 => k_asm); (case k6 => k_is); (case k7 => k_is); (case k8 => ktr_room); (case k9 => first | exact BindsTo.of_eq rfl | exact binds_K (by k_in) rfl (by k_is) rfl rfl rfl); (case c2 => decide); (case kB => exact locs rfl); (case kR => exact rfl); (case c3 => exact rfl); (case c4 => exact rfl); (case c5 => exact rfl); k_whole)
  intro g1 L1 h1 tk1 gk1 gk2 F1 N1 B1 X1 T1
  dsimp only [kstB] at F1
  have hH1 : HdOk hdl g1 := hH.keeps gk1
  try dsimp only
  try k_fold

  walk_at "steps"
  rename_i lst _ _ _ h2 F2 N2
  refine ksw_while (σ := RS) (fun c => [(lst, listOf c.vs.toArray c.n)]) (fun c => [(Str.ofString "at", .int c.i c.t)]) (fun _ => True) [Str.ofString "last", Str.ofString "later"]
    (fun c => BytesAre c.vs c.ls ∧ 0 ≤ c.i ∧ c.i ≤ l.length ∧ c.vs.length ≤ c.i.toNat ∧ c.ls ++ rowsF (l.length + 1 - c.i.toNat) l c.i = rowsOf l) (fun c => l.length + 1 - c.i.toNat) ⟨[], [], 0, _, 0⟩ F2 N2 trivial (by kst_all)
    ⟨.nil, Int.le_refl _, by dsimp only; omega, by simp, rfl⟩ ?_
  rintro ⟨vs, ls, i, t, n⟩ u h tk _ ⟨hv, hi0, hi1, hlen, hrest⟩ F3 N3
  clear F2 N2
  dsimp only [kstB] at hv hi0 hi1 hlen hrest F3 N3 ⊢
  have hB := lineAt_bounds (l := l) (i := i) (j := l.length) hi0 hi1
  have hstep : rowsF (l.length + 1 - i.toNat) l i = cut l (some i) (some (lineAt l i l.length).1) :: (if (lineAt l i l.length).1 = l.length then [] else rowsF (l.length - i.toNat) l (lineAt l i l.length).2) := by
    have e : l.length + 1 - i.toNat = (l.length - i.toNat) + 1 := Nat.succ_sub (by omega)
    rw [e, cut_two hi0 (by omega)]
    rfl
  rw [hstep] at hrest
  walk_at "steps"
  · rw [if_pos (by assumption)] at hrest
    rename News _ _ _ _ => N4
    simp only [List.push_toArray] at N4
    refine leave1 (by assumption) (news_sub N4 (l' := [_]) (by intro q hq; rw [List.mem_singleton.mp hq]; exact .tail _ (.head _))) fun F5 N5 D5 => ?_
    exact ret _ _ _ _ _ (by rw [← hrest]; exact hv.append .one) F5 N5 D5
  · rw [if_neg (by assumption)] at hrest
    have hlt := hB.2.2.2.2 (by assumption)
    rename News _ _ _ _ => N4
    simp only [List.push_toArray] at N4
    refine ksw_end (σ := RS) ⟨_, ls ++ [cut l (some i) (some (lineAt l i l.length).1)], _, _, _⟩ (by assumption) N4 (by kst_in) trivial (by kst_all) (by ksw_same) ⟨hv.append .one, ?_, ?_, ?_, ?_⟩ ?_
    · dsimp only; omega
    · dsimp only; omega
    · dsimp only; rw [List.length_append, List.length_singleton]; omega
    · dsimp only
      rw [← hrest, List.append_assoc, rowsF_fuel (l.length + 1 - (lineAt l i l.length).2.toNat) (l.length - i.toNat) _ (by omega) (by omega) (by omega) (by omega)]
      rfl
    · dsimp only; exact meas hi0 hlt (by omega)

end

end Part_S3

section Lines_rules_k

set_option hygiene false in
local macro_rules | `(tactic| walk_at "call ref") => `(tactic| (k_here; (with_reducible show wpAny _ _ (call (Value.ref 111) _) _ _ _); k_dflt (refine' is_name_spec ?k1 ?k2 ?k3 ?k4 ?k5 ?kK ?kd ?ku ?kH ?ka ?_; walk_at "c8"; (case kH => walk_at "hd"); (case ka => walk_at "ar"); k_whole); intro h' tk' F' N'; walk_at "c3"))
set_option hygiene false in
local macro_rules | `(tactic| walk_at "call ref") => `(tactic| (k_here; (with_reducible show wpAny _ _ (call (Value.ref 139) _) _ _ _); k_dflt (refine' rows_of_spec ?k1 ?k2 ?k3 ?k4 ?k5 ?kK ?kd ?ku ?kH ?ka ?_; walk_at "c8"; (case kH => walk_at "hd"); (case ka => walk_at "ar"); k_whole); intro roA roV roN h' tk' roB F' N' roD; (have roL := BytesAre.length roB); (try simp only [List.forall_mem_cons, List.not_mem_nil, false_implies, implies_true, and_true] at roD); walk_at "c3"))
set_option hygiene false in
local macro_rules | `(tactic| walk_at "call builtin:bytes.join") => `(tactic| (k_here; refine' cJoin ?fl ?fv ?fz ?_; (case fl => exact News.isList (by k_asm) (by k_mem)); (case fv => first | assumption | exact BytesAre.nil | exact BytesAre.append (by assumption) BytesAre.one); (case fz => walk_at "ar"); intro _ _))

section Part_S4

section
variable {prog : Program} {w : World} {A : Around} {E : Value → Shared → Prop} {s : Shared} {value slice : PySem.Expr} {h₀ : Heap} {L l : Addr} {m : Str → Option Value} {news : List (Addr × Obj)} {vs : List Value} {n : Nat}
theorem listFrom {k : Nat} {u : Tok} {Q : Value → Shared → Prop} (F : Fr h₀ L s.heap m) (N : News h₀ L s.heap news) (hm : (l, listOf vs.toArray n) ∈ news) (hz : vs.length ≤ 16777216)
    (h : ∀ a h', Fr h₀ L h' m → News h₀ L h' ((a, listOf (vs.drop k).toArray 0) :: news) → (∀ q ∈ news, a ≠ q.1) → Q (.ref a) { s with heap := h' })
    (hs : subscripted slice false (.ref l) (.ref s.heap.objs.size) = operate [.ref s.heap.objs.size, .ref l] (getItem (.ref l) (.ref s.heap.objs.size)) := by with_unfolding_all rfl)
    (ht : ∀ r, letTemporaryGo value (.ref l) r = pure () := by intro _; with_unfolding_all rfl) :
    wpAny (model prog w) A (subscriptTail value slice (.ref l) (.ref s.heap.objs.size)) Q E { s with heap := s.heap.push { cls := .type "slice", data := .fields #[.int (k : Int) u, .none, .none] } } := by
  have hl : (s.heap.push { cls := .type "slice", data := .fields #[.int (k : Int) u, .none, .none] }).IsList l vs.toArray := ⟨_, Heap.get?_push_of_some _ (N _ hm).1, rfl, n, rfl⟩
  refine tail_of_ItemOn ⟨"list", _, list_getitem_lookup, hl.typeIs, ?_⟩ hs ht
  refine wpAny_getItem_list_slice hl (Heap.IsSliceOf.new _ _ _ _) (.int (k : Int) u) .none .none (fun e => nomatch e) ?_ (by rw [sizeLine_eq, List.size_toArray]; exact hz)
  rw [slicePick_from']
  have F1 := F.push { cls := .type "slice", data := .fields #[.int (k : Int) u, .none, .none] }
  have N1 := News.pushKeep N { cls := .type "slice", data := .fields #[.int (k : Int) u, .none, .none] }
  refine h _ _ (F1.push _) (N1.push F1 _) fun q hq => ?_
  exact Nat.ne_of_gt (Heap.lt_size (N1 q hq).1)
end

set_option hygiene false in
local macro_rules | `(tactic| walk_at "subscriptTail Name Slice ref ref") => `(tactic| (k_here; (with_reducible show wpAny _ _ (subscriptTail _ (Expr.Slice (some _) none none _) (Value.ref _) (Value.ref _)) _ _ _); (with_reducible rename Fr _ _ _ _ => F'); (with_reducible rename News _ _ _ _ => N'); (refine listFrom (s := ⟨_, _, _, _, _⟩) (k := 1) F' N' (by k_mem) ?fa ?_); (case fa => walk_at "ar"); intro lA h' F' N' lD; (try simp only [List.forall_mem_cons, List.not_mem_nil, false_implies, implies_true, and_true] at lD); (try k_sweep)))
set_option hygiene false in
local macro_rules | `(tactic| walk_at "exec For Name Subscript cons nil") => `(tactic| (k_here; (rename Fr _ _ _ _ => lF'); (with_unfolding_all refine' For_invVF lF' ?k1 ?k2 ?_; (case k1 => exact rfl); (case k2 => exact rfl); k_whole)))
set_option hygiene false in
local macro_rules | `(tactic| walk_at "exec For Name Name cons nil") => `(tactic| (k_here; (rename Fr _ _ _ _ => lF'); (with_unfolding_all refine' For_invVF lF' ?k1 ?k2 ?_; (case k1 => exact rfl); (case k2 => exact rfl); k_whole)))

noncomputable def rowOk (r : List UInt8) : Bool := decide (0 < r.length) && (decide ((r.getD 0 0).toNat = 32) || decide ((r.getD 0 0).toNat = 9))
noncomputable def isSound (nm raw : List UInt8) : Bool := isName nm && ((rowsOf raw).drop 1).all rowOk
noncomputable abbrev fieldD (e1 e2 : Int) (k1 k2 t1 t2 : Tok) (nm raw : List UInt8) : Obj := dictOf [⟨e1, .str (Str.ofString "name") k1, .bytes nm.toArray t1⟩, ⟨e2, .str (Str.ofString "raw") k2, .bytes raw.toArray t2⟩] 2
theorem instKeeps {h h' : Heap} {x C : Addr} {ox : Obj} {od : Option Obj} (I : InstAt h x ox C od) (k : ∀ b o, h.get? b = some o → h'.get? b = some o) : InstAt h' x ox C od := by
  refine ⟨k _ _ I.at_, I.cls, I.no, ?_⟩
  have hd := I.dict
  cases h1 : ox.dict <;> cases h2 : od <;> rw [h1, h2] at hd <;> first | exact hd | exact k _ _ hd

set_option hygiene false in
local macro_rules | `(tactic| k_inst) => `(tactic| exact instKeeps (by assumption) (Fr.keep (by k_asm)))

section
variable {prog p : Program} {w : World} {loose : List Str} {mean : ExcName → Option Value} {mg mb : Str → Option Value}
  {hdl : Option Value} {dp un : Nat} {gd : Option (List Code)} {cn : Str} {cs : Scope} {a : Addr} {ccd : Value} {cl : List (Str × Addr)} {outer : List Env} {A₀ : Around} {base h₀ : Heap} {L : Addr} {m : Str → Option Value} {news : List (Addr × Obj)} {s : Shared} {Q E : Value → Shared → Prop}

set_option maxHeartbeats 8000000 in
theorem is_sound_spec {nm raw : List UInt8} {x dx : Addr} {e1 e2 : Int} {k1 k2 t1 t2 : Tok} (B : Below A₀ base outer h₀) (F : Fr h₀ L s.heap m) (X : (Mine.hd.heap_39 w.params).In h₀) (N : News h₀ L s.heap news) (T : Top p loose mean mg mb h₀) (hk : cs.kind = .function) (hdp : dp + 3 < recursionLimit) (hu : un + 24 < cLine) (hH : HdOk hdl s.heap) (hl : nm.length ≤ 16777215) (hl' : raw.length ≤ 16777215)
   (hx : s.heap.get? x = some (instObj 93 dx)) (hdx : s.heap.get? dx = some (fieldD e1 e2 k1 k2 t1 t2 nm raw))
   (ret : ∀ h' tk', Fr h₀ L h' m → News h₀ L h' news → Q (.bool (isSound nm raw)) {s with heap := h', toks := tk'}) :
   wpAny (model prog w) (Tp hdl dp un gd cn cs L a ccd cl outer) (call (.ref 183) [.ref x]) Q E s := by
  refine wpAny_call ?_
  k_dflt (refine' enterP (br := [(Str.ofString "field", .ref x)]) ?k1 ?k2 ?k3 ?k4 ?k5 ?kA ?kF ?kK ?k6 ?k7 ?k8 ?k9 ?kB ?kR ?_ ?c2 ?c3 ?c4 ?c5; (case kA => exact rfl); (case kF => exact rfl); (case kK => assumption); (case k1 => k_asm); (case k2 => k_asm); (case k3 => k_asm); (case k4 => k_asm); (case k5 => k_asm); (case k6 => k_is); (case k7 => k_is); (case k8 => ktr_room); (case k9 => first | exact BindsTo.of_eq rfl | exact binds_K (by k_in) rfl (by k_is) rfl rfl rfl); (case c2 => decide); (case kB => exact locs rfl); (case kR => exact rfl); (case c3 => exact rfl); (case c4 => exact rfl); (case c5 => exact rfl); k_whole)
  intro g1 L1 h1 tk1 gk1 gk2 F1 N1 B1 X1 T1
  dsimp only [kstB] at F1
  have hH1 : HdOk hdl g1 := hH.keeps gk1
  try dsimp only
  try k_fold

  have I1 : InstAt g1 x (instObj 93 dx) 93 (some (fieldD e1 e2 k1 k2 t1 t2 nm raw)) := ⟨gk1 _ _ hx, rfl, rfl, gk1 _ _ hdx⟩
  have hrl : (rowsOf raw).length ≤ raw.length + 1 := rowsOf_len raw
  walk_at "steps"
  · have hnm : isName nm = true := by assumption
    refine for_items (σ := Unit) (fun _ => [(lA, listOf (roV.drop 1).toArray 0), (roA, listOf roV.toArray roN)]) (fun _ => []) []
      (fun i _ => (((rowsOf raw).drop 1).take i).all rowOk = true) () hH1 (fun _ => .head _) F' N' (by kst_all) (by simp) ?_ ?_
    · intro c i v u h tk own hi hg hoff hP F3 N3
      obtain ⟨r, t, hr, rfl⟩ := (roB.drop 1).get hg
      have hrl2 : r.length ≤ raw.length := rowsOf_mem (List.mem_of_mem_drop (List.mem_of_getElem? hr))
      clear F' N'
      dsimp only [kstB] at F3
      simp only [List.contains_nil, Bool.false_eq_true, if_false, List.nil_append] at F3 N3
      have bad : rowOk r = false → isSound nm raw = false := by
        intro hb
        unfold isSound
        rw [hnm, Bool.true_and, List.all_eq_false]
        exact ⟨r, List.mem_of_getElem? hr, by rw [hb]; exact Bool.false_ne_true⟩
      have ok : rowOk r = decide (0 < r.length ∧ ((r.getD 0 0).toNat = 32 ∨ (r.getD 0 0).toNat = 9)) := by
        unfold rowOk
        rw [Bool.eq_iff_iff]
        simp
      walk_at "steps"
      all_goals (try simp only [Int.toNat_zero, Bool.or_eq_true, beq_iff_eq, Bool.or_eq_false_iff, beq_eq_false_iff_ne, Bool.not_eq_true] at *)
      all_goals first
        | exact leave0 F3 fun F5 N5 => by
            rw [bad (by rw [ok, decide_eq_false_iff_not]; omega)] at ret
            exact ret _ _ F5 N5
        | exact kst_end () F3 N3 (by kst_in) (by intro q hq; simp [hq]) rfl trivial (by kst_all) (by kst_same) (by
            rw [List.take_add_one, hr]
            simp only [Option.toList, List.all_append, hP, List.all_cons, List.all_nil, Bool.true_and, Bool.and_true]
            rw [ok, decide_eq_true_eq]
            omega)
    · intro c u h tk hP F3 N3
      walk_at "steps"
      dsimp only
      refine leave0 F3 fun F5 N5 => ?_
      have e : isSound nm raw = true := by
        unfold isSound
        rw [hnm, Bool.true_and, ← hP, List.take_of_length_le]
        rw [List.length_drop, List.length_drop, roL]
        exact Nat.le_refl _
      rw [e] at ret
      exact ret _ _ F5 N5
  · rename Fr _ _ _ _ => F2
    dsimp only
    refine leave0 F2 fun F5 N5 => ?_
    have e : isSound nm raw = false := by
      unfold isSound
      rw [‹isName nm = false›]
      rfl
    rw [e] at ret
    exact ret _ _ F5 N5

end

end Part_S4

section Part_S5

section
variable {prog p : Program} {w : World} {loose : List Str} {mean : ExcName → Option Value} {mg mb : Str → Option Value}
  {hdl : Option Value} {dp un : Nat} {gd : Option (List Code)} {cn : Str} {cs : Scope} {a : Addr} {ccd : Value} {cl : List (Str × Addr)} {outer : List Env} {A₀ : Around} {base h₀ : Heap} {L : Addr} {m : Str → Option Value} {news : List (Addr × Obj)} {s : Shared} {Q E : Value → Shared → Prop}

theorem joinL_nil : ∀ ls : List (List UInt8), joinL [] ls = ls.flatten
  | [] => rfl
  | [l] => by simp [joinL]
  | l :: x :: r => by
    show l ++ [] ++ joinL [] (x :: r) = _
    rw [joinL_nil (x :: r)]
    simp
theorem rowsF_flat {l : List UInt8} : ∀ (n : Nat) (i : Int), 0 ≤ i → i ≤ l.length → (rowsF n l i).flatten.length ≤ l.length - i.toNat
  | 0, i, _, _ => Nat.zero_le _
  | n + 1, i, h0, h1 => by
    have hb := lineAt_bounds (l := l) (i := i) (j := l.length) h0 h1
    have hb2 : (lineAt l i l.length).1 ≤ (lineAt l i l.length).2 := by
      unfold lineAt
      split
      · dsimp only; omega
      · split
        · dsimp only; omega
        · dsimp only; omega
    unfold rowsF
    rw [List.flatten_cons, List.length_append, List.length_drop, List.length_take]
    by_cases he : (lineAt l i l.length).1 = l.length
    · rw [if_pos he, List.flatten_nil, List.length_nil]; omega
    · rw [if_neg he]
      have := rowsF_flat (l := l) n (lineAt l i l.length).2 (by omega) (by omega)
      omega
theorem rowsOf_flat (l : List UInt8) : (joinL [] (rowsOf l)).length ≤ l.length := by
  rw [joinL_nil]
  have := rowsF_flat (l := l) (l.length + 1) 0 (Int.le_refl _) (by omega)
  unfold rowsOf
  simpa using this
set_option maxHeartbeats 8000000 in
theorem unfolded_spec {l : List UInt8} {t : Tok} (B : Below A₀ base outer h₀) (F : Fr h₀ L s.heap m) (X : (Mine.hd.heap_39 w.params).In h₀) (N : News h₀ L s.heap news) (T : Top p loose mean mg mb h₀) (hk : cs.kind = .function) (hdp : dp + 3 < recursionLimit) (hu : un + 24 < cLine) (hH : HdOk hdl s.heap) (hl : l.length ≤ 16777215)
   (ret : ∀ t h' tk', Fr h₀ L h' m → News h₀ L h' news → Q (.bytes (stripL (joinL [] (rowsOf l))).toArray t) {s with heap := h', toks := tk'}) :
   wpAny (model prog w) (Tp hdl dp un gd cn cs L a ccd cl outer) (call (.ref 146) [.bytes l.toArray t]) Q E s := by
  refine wpAny_call ?_
  k_dflt (refine' enterP (br := [(Str.ofString "raw", .bytes l.toArray t)]) ?k1 ?k2 ?k3 ?k4 ?k5 ?kA ?kF ?kK ?k6 ?k7 ?k8 ?k9 ?kB ?kR ?_ ?c2 ?c3 ?c4 ?c5; (case kA => exact rfl); (case kF => exact rfl); (case kK => assumption); (case k1 => k_asm); (case k2 => k_asm); (case k3 => k_asm); (case k4 => k_asm); (case k5 => k_asm); (case k6 => k_is); (case k7 => k_is); (case k8 => ktr_room); (case k9 => first | exact BindsTo.of_eq rfl | exact binds_K (by k_in) rfl (by k_is) rfl rfl rfl); (case c2 => decide); (case kB => exact locs rfl); (case kR => exact rfl); (case c3 => exact rfl); (case c4 => exact rfl); (case c5 => exact rfl); k_whole)
  intro g1 L1 h1 tk1 gk1 gk2 F1 N1 B1 X1 T1
  dsimp only [kstB] at F1
  have hH1 : HdOk hdl g1 := hH.keeps gk1
  try dsimp only
  try k_fold

  have hjl := rowsOf_flat l
  walk_at "steps"
  refine leave0 (by assumption) fun F5 N5 => ?_
  exact ret _ _ _ F5 N5

end

end Part_S5

section Part_S6

local macro_rules | `(tactic| walk_at "pad0") => `(tactic| fail)

noncomputable def white (c : UInt8) : Bool := decide (c.toNat = 32) || decide (c.toNat = 9)
noncomputable def nonwhite (c : UInt8) : Bool := !white c
noncomputable def piecesF : Nat → List UInt8 → List (List UInt8)
  | 0, _ => []
  | _ + 1, [] => []
  | n + 1, c :: l => ((c :: l).takeWhile white ++ ((c :: l).dropWhile white).takeWhile nonwhite) :: piecesF n (((c :: l).dropWhile white).dropWhile nonwhite)
noncomputable def pieces (l : List UInt8) : List (List UInt8) := piecesF l.length l
theorem piecesF_nil (n : Nat) : piecesF n [] = [] := by cases n <;> rfl
theorem rest_lt (c : UInt8) (l : List UInt8) : (((c :: l).dropWhile white).dropWhile nonwhite).length < (c :: l).length := by
  cases h : white c with
  | true =>
    have e : (c :: l).dropWhile white = l.dropWhile white := by simp [h]
    rw [e]
    have h1 := (List.dropWhile_sublist (l := l) white).length_le
    have h2 := (List.dropWhile_sublist (l := l.dropWhile white) nonwhite).length_le
    rw [List.length_cons]
    omega
  | false =>
    have e : (c :: l).dropWhile white = c :: l := by simp [h]
    have e2 : (c :: l).dropWhile nonwhite = l.dropWhile nonwhite := by simp [nonwhite, h]
    rw [e, e2]
    have h1 := (List.dropWhile_sublist (l := l) nonwhite).length_le
    rw [List.length_cons]
    omega
theorem piecesF_fuel : ∀ (n m : Nat) (l : List UInt8), l.length ≤ n → l.length ≤ m → piecesF n l = piecesF m l
  | 0, m, l, h, _ => by
    have e : l = [] := List.length_eq_zero_iff.mp (Nat.le_zero.mp h)
    rw [e, piecesF_nil, piecesF_nil]
  | n + 1, 0, l, _, h => by
    have e : l = [] := List.length_eq_zero_iff.mp (Nat.le_zero.mp h)
    rw [e, piecesF_nil, piecesF_nil]
  | n + 1, m + 1, [], _, _ => rfl
  | n + 1, m + 1, c :: l, h1, h2 => by
    have h := rest_lt c l
    unfold piecesF
    rw [piecesF_fuel n m _ (by omega) (by omega)]
theorem drop_cons {l : List UInt8} {i : Nat} (h : i < l.length) : l.drop i = l.getD i 0 :: l.drop (i + 1) := by
  rw [List.drop_eq_getElem_cons h, List.getD_eq_getElem?_getD, List.getElem?_eq_getElem h]
  rfl
theorem white_int (c : UInt8) : ((32 : Int) == (c.toNat : Int) || (9 : Int) == (c.toNat : Int)) = white c := by
  unfold white
  rw [Bool.eq_iff_iff]
  simp
  omega
theorem stop_white {p : UInt8 → Bool} {l S : List UInt8} {j : Nat} (hj : (l.drop j).dropWhile p = S) (h : l.length ≤ j ∨ p (l.getD j 0) = false) : l.drop j = S := by
  rcases h with h | h
  · rw [List.drop_eq_nil_of_le h] at hj ⊢
    exact hj
  · by_cases hlt : j < l.length
    · rw [drop_cons hlt, List.dropWhile_cons_of_neg (by rw [h]; exact Bool.false_ne_true)] at hj
      rw [drop_cons hlt]
      exact hj
    · rw [List.drop_eq_nil_of_le (by omega)] at hj ⊢
      exact hj
theorem step_white {p : UInt8 → Bool} {l : List UInt8} {j : Nat} (hlt : j < l.length) (h : p (l.getD j 0) = true) : (l.drop (j + 1)).dropWhile p = (l.drop j).dropWhile p := by
  rw [drop_cons hlt, List.dropWhile_cons_of_pos h]
/-- what lies between two places, the first white, then not -/
theorem piece_cut {l : List UInt8} {i k : Nat} (hk : k ≤ l.length) (hik : i ≤ k) (h : l.drop k = ((l.drop i).dropWhile white).dropWhile nonwhite) :
    (l.take k).drop i = (l.drop i).takeWhile white ++ ((l.drop i).dropWhile white).takeWhile nonwhite := by
  have e1 : l.drop i = ((l.drop i).takeWhile white ++ ((l.drop i).dropWhile white).takeWhile nonwhite) ++ l.drop k := by
    rw [h, List.append_assoc, List.takeWhile_append_dropWhile, List.takeWhile_append_dropWhile]
  have e2 : (l.take k).drop i = (l.drop i).take (k - i) := by rw [List.drop_take]
  have e3 := congrArg List.length e1
  rw [List.length_append, List.length_drop, List.length_drop] at e3
  rw [e2]
  conv => lhs; rw [e1]
  rw [List.take_append_of_le_length (by omega), List.take_of_length_le (by omega)]
theorem piecesF_step {l : List UInt8} {i k n : Nat} (hi : i < l.length) (h : l.drop k = ((l.drop i).dropWhile white).dropWhile nonwhite) :
    piecesF (n + 1) (l.drop i) = ((l.drop i).takeWhile white ++ ((l.drop i).dropWhile white).takeWhile nonwhite) :: piecesF n (l.drop k) := by
  rw [h]
  have e := drop_cons hi
  rw [e]
  rfl
theorem piece_moves {l : List UInt8} {i k : Nat} (hi : i < l.length) (h : l.drop k = ((l.drop i).dropWhile white).dropWhile nonwhite) : i < k := by
  have h1 := rest_lt (l.getD i 0) (l.drop (i + 1))
  rw [← drop_cons hi, ← h, List.length_drop, List.length_drop] at h1
  omega

section
variable {prog p : Program} {w : World} {loose : List Str} {mean : ExcName → Option Value} {mg mb : Str → Option Value}
  {hdl : Option Value} {dp un : Nat} {gd : Option (List Code)} {cn : Str} {cs : Scope} {a : Addr} {ccd : Value} {cl : List (Str × Addr)} {outer : List Env} {A₀ : Around} {base h₀ : Heap} {L : Addr} {m : Str → Option Value} {news : List (Addr × Obj)} {s : Shared} {Q E : Value → Shared → Prop}

structure IS where
  i : Int
  t : Tok
set_option maxHeartbeats 8000000 in
theorem pieces_of_spec {l : List UInt8} {t : Tok} (B : Below A₀ base outer h₀) (F : Fr h₀ L s.heap m) (X : (Mine.hd.heap_39 w.params).In h₀) (N : News h₀ L s.heap news) (T : Top p loose mean mg mb h₀) (hk : cs.kind = .function) (hdp : dp + 1 < recursionLimit) (hu : un + 8 < cLine) (hH : HdOk hdl s.heap) (hl : l.length ≤ 16777215)
   (ret : ∀ a vs n h' tk', BytesAre vs (pieces l) → Fr h₀ L h' m → News h₀ L h' ((a, listOf vs.toArray n) :: news) → (∀ q ∈ news, a ≠ q.1) → Q (.ref a) {s with heap := h', toks := tk'}) :
   wpAny (model prog w) (Tp hdl dp un gd cn cs L a ccd cl outer) (call (.ref 153) [.bytes l.toArray t]) Q E s := by
  refine wpAny_call ?_
  k_dflt (refine' enterP (br := [(Str.ofString "body", .bytes l.toArray t)]) ?k1 ?k2 ?k3 ?k4 ?k5 ?kA ?kF ?kK ?k6 ?k7 ?k8 ?k9 ?kB ?kR ?_ ?c2 ?c3 ?c4 ?c5; (case kA => exact rfl); (case kF => exact rfl); (case kK => assumption); (case k1 => k_asm); (case k2 => k_asm); (case k3 => k_asm); (case k4 => k_asm); (case k5 => k_asm); (case k6 => k_is); (case k7 => k_is); (case k8 => ktr_room); (case k9 => first | exact BindsTo.of_eq rfl | exact binds_K (by k_in) rfl (by k_is) rfl rfl rfl); (case c2 => decide); (case kB => exact locs rfl); (case kR => exact rfl); (case c3 => exact rfl); (case c4 => exact rfl); (case c5 => exact rfl); k_whole)
  intro g1 L1 h1 tk1 gk1 gk2 F1 N1 B1 X1 T1
  dsimp only [kstB] at F1
  have hH1 : HdOk hdl g1 := hH.keeps gk1
  try dsimp only
  try k_fold

  walk_at "steps"
  rename News _ _ _ _ => N2
  rename Fr _ _ _ _ => F2
  refine' ksw_while (σ := RS) (fun c => [(_, listOf c.vs.toArray c.n)]) (fun c => [(Str.ofString "at", .int c.i c.t)]) (fun _ => True) [Str.ofString "begun"]
    (fun c => BytesAre c.vs c.ls ∧ 0 ≤ c.i ∧ c.i ≤ l.length ∧ c.vs.length ≤ c.i.toNat ∧ c.ls ++ piecesF (l.length - c.i.toNat) (l.drop c.i.toNat) = pieces l) (fun c => l.length - c.i.toNat) ⟨[], [], 0, _, 0⟩ F2 N2 trivial (by kst_all)
    ⟨.nil, Int.le_refl _, by dsimp only; omega, by simp, rfl⟩ ?_
  rintro ⟨vs, ls, i, t, n⟩ u h tk _ ⟨hv, hi0, hi1, hlen, hrest⟩ F3 N3
  clear F2 N2
  dsimp only [kstB] at hv hi0 hi1 hlen hrest F3 N3 ⊢
  walk_at "steps"
  · rename News _ _ _ _ => N2
    rename Fr _ _ _ _ => F2
    have hlt : i < l.length := by assumption
    refine' ksw_while (σ := IS) (fun c => [(_, listOf vs.toArray n)]) (fun c => [(Str.ofString "at", .int c.i c.t)]) (fun _ => True) []
      (fun c => i ≤ c.i ∧ c.i ≤ l.length ∧ (l.drop c.i.toNat).dropWhile white = (l.drop i.toNat).dropWhile white) (fun c => l.length - c.i.toNat) ⟨i, t⟩ F2 N2 trivial (by kst_all)
      ⟨Int.le_refl _, by dsimp only; omega, rfl⟩ ?_
    rintro ⟨j, t3⟩ u3 h3 tk3 _ ⟨hj0, hj1, hj2⟩ F4 N4
    clear F2 N2
    dsimp only [kstB] at hj0 hj1 hj2 F4 N4 ⊢
    walk_at "steps"
    all_goals (try simp only [white_int] at *)
    · have hw : white (l.getD j.toNat 0) = true := by assumption
      rename News _ _ _ _ => N5
      refine ksw_end (σ := IS) ⟨_, _⟩ (by assumption) N5 (by kst_in) trivial (by kst_all) (by ksw_same) ⟨?_, ?_, ?_⟩ ?_
      · dsimp only; omega
      · dsimp only; omega
      · dsimp only
        rw [← hj2, show (j + 1).toNat = j.toNat + 1 by omega]
        exact step_white (by omega) hw
      · dsimp only; exact meas (by omega) (by omega) (by omega)
    all_goals (
      have hW : l.drop j.toNat = (l.drop i.toNat).dropWhile white := stop_white hj2 (by first | exact .inl (by omega) | exact .inr (by assumption))
      refine' ksw_while (σ := IS) (fun c => [(_, listOf vs.toArray n)]) (fun c => [(Str.ofString "at", .int c.i c.t)]) (fun _ => True) []
        (fun c => j ≤ c.i ∧ c.i ≤ l.length ∧ (l.drop c.i.toNat).dropWhile nonwhite = (l.drop j.toNat).dropWhile nonwhite) (fun c => l.length - c.i.toNat) ⟨j, t3⟩ F4 N4 trivial (by kst_all)
        ⟨Int.le_refl _, by dsimp only; omega, rfl⟩ ?_
      rintro ⟨k, t4⟩ u4 h4 tk4 _ ⟨hk0, hk1, hk2⟩ F5 N5
      clear F4 N4
      dsimp only [kstB] at hk0 hk1 hk2 F5 N5 ⊢
      walk_at "steps"
      all_goals (try simp only [white_int] at *)
      all_goals (rename News _ _ _ _ => N6; rename Fr _ _ _ _ => F6; (try simp only [List.push_toArray] at N6))
      all_goals first
        | (have hn : nonwhite (l.getD k.toNat 0) = true := by
             unfold nonwhite
             rw [‹white (l.getD k.toNat 0) = false›]
             rfl
           refine ksw_end (σ := IS) ⟨k + 1, _⟩ F6 N6 (by kst_in) trivial (by kst_all) (by ksw_same) ⟨by dsimp only; omega, by dsimp only; omega, ?_⟩ (by dsimp only; exact meas (by omega) (by omega) (by omega))
           dsimp only
           rw [← hk2, show (k + 1).toNat = k.toNat + 1 by omega]
           exact step_white (by omega) hn)
        | (have hS : l.drop k.toNat = ((l.drop i.toNat).dropWhile white).dropWhile nonwhite := by
             rw [← hW]
             refine stop_white hk2 ?_
             first
               | exact .inl (by omega)
               | (refine .inr ?_
                  unfold nonwhite
                  rw [‹white (l.getD k.toNat 0) = true›]
                  rfl)
           have hm := piece_moves (by omega) hS
           have hc : cut l (some i) (some k) = (l.drop i.toNat).takeWhile white ++ ((l.drop i.toNat).dropWhile white).takeWhile nonwhite := by
             rw [cut_two (by omega) (by omega)]
             exact piece_cut (by omega) (by omega) hS
           refine ksw_end (σ := RS) ⟨_, ls ++ [cut l (some i) (some k)], k, _, _⟩ F6 N6 (by kst_in) trivial (by kst_all) (by ksw_same) ⟨hv.append .one, by dsimp only; omega, by dsimp only; omega, ?_, ?_⟩ (by dsimp only; omega)
           · dsimp only
             rw [List.length_append, List.length_singleton]
             omega
           · dsimp only
             rw [← hrest, List.append_assoc, hc, show l.length - i.toNat = (l.length - i.toNat - 1) + 1 from sub_one' (by omega), piecesF_step (by omega) hS,
               piecesF_fuel (l.length - k.toNat) (l.length - i.toNat - 1) _ (by rw [List.length_drop]; omega) (by rw [List.length_drop]; omega)]
             rfl))
  · dsimp only
    rename News _ _ _ _ => N5
    refine leave1 (by assumption) N5 fun F6 N6 D6 => ?_
    rw [List.drop_eq_nil_of_le (by omega), piecesF_nil, List.append_nil] at hrest
    exact ret _ _ _ _ _ (by rw [← hrest]; exact hv) F6 N6 D6

end

end Part_S6

section Part_S7

section
variable {prog : Program} {w : World} {A : Around} {E : Value → Shared → Prop} {s : Shared} {gg : Heap} {L y : Addr} {m mA : Str → Option Value}
/-- the exception object that is being made: its namespace is mA -/
noncomputable def EX (gg : Heap) (L : Addr) (h : Heap) (y : Addr) (mA : Str → Option Value) : Prop :=
  ∃ o z, h.get? y = some o ∧ o.cls = .ref 59 ∧ o.data = .fields #[.ref z, .none, .none, .none, .bool false, .none] ∧ gg.get? y = none ∧ y ≠ L ∧
    ((o.dict = none ∧ ∀ n, mA n = none) ∨ ∃ d, o.dict = some d ∧ d ≠ y ∧ h.Ns1 d mA ∧ gg.get? d = none ∧ d ≠ L)
theorem EX.type {M : Model} {h : Heap} (x : EX gg L h y mA) : Looks M h (typeOf (.ref y)) (.ref 59) := by
  obtain ⟨o, z, ho, hc, r⟩ := x
  exact hc ▸ (Looks.ld ho).andThen .now
theorem getm_exc {pl : Sem Bool} {Q : Value × List Value → Shared → Prop} (X : (Mine.hd.heap_39 w.params).In s.heap) (h : Q (.builtin "Exception.__init__", []) { s with toks := s.toks + 1 }) :
    wpAny (model prog w) A (getMethod (.type "Exception") (PySem.Str.ofString "__init__") pl) Q E s := by
  have hstub : opaqueClassAbove (.type "Exception") = pure none := by unfold opaqueClassAbove; dsimp only; rw [show Manifest.isStub "Exception" = false by decide +kernel]; rfl
  have ht : typeOf (.type "Exception") = pure (.type "type") := by first | rfl | kernel_rfl
  have L0 : Looks (model prog w) s.heap (typeOf (.type "Exception")) (.type "type") := Looks.of_pure ht
  have hg : findIn (Mine.hd.heap_39 w.params) (.type "type") "__getattribute__" = some (some (.builtin "type.__getattribute__")) := type_tga
  unfold getMethod specialOf
  refine wpAny_bind (wpAny_bind (L0.here ((looks_findIn X hg).here ?_)))
  dsimp only
  rw [if_pos canon_tga]
  refine wpAny_bind (wpAny_mono (Q := fun v => Q (v, [])) (E := E) ?_ (fun _ _ z => wpAny_pure z) fun _ _ z => z)
  have LO : Looks (model prog w) s.heap (opaqueClassAbove (.type "Exception")) none := Looks.of_pure hstub
  have hf : findCls (Mine.hd.heap_39 w.params) (.type "Exception") (.type "type") (PySem.Str.ofString "__init__") = some (.val (.builtin "Exception.__init__")) := by k_is
  refine cls_open X LO L0 hg (looks_hook X (r := none) (by rfl)) (by show subIn _ _ _ = _; rfl) hf ?_
  exact wpAny_pure (handed_on (by first | rfl | decide +kernel) h)
theorem check_exc59 {v : Value} {Q : Unit → Shared → Prop} (X : (Mine.hd.heap_39 w.params).In gg) (F : Fr gg L s.heap m) (x : EX gg L s.heap y mA) (hq : Q () s) :
    wpAny (model prog w) A (checkBuiltinCall "Exception.__init__" ⟨[.ref y, v], []⟩) Q E s := by
  have FB := PySem.F.excBase_Exception
  have X1 := X.keeps F.keep
  have isE : Looks (model prog w) s.heap (isInstance (.ref y) (.type "Exception")) true := (x.type).andThen (looks_mroIn X1 (by k_is))
  have hC := X1 59 _ (by k_is)
  obtain ⟨o, z, ho, hc, r⟩ := x
  have hshort := FB.noStar
  obtain ⟨h, g, d, t, os⟩ := s
  simp only [checkBuiltinCall, FB.initKind, FB.initSplit, FB.initRow]
  refine wpAny_bind (isE.here ?_)
  repeat (first | (with_reducible refine wpAny_loadPart_at ho ?_; rw [hc]) | with_reducible refine wpAny_loadPart_at hC ?_ | wp_step)
  exact hq
set_option maxHeartbeats 8000000 in
theorem init_exc59 {v : Value} {Q : Value → Shared → Prop} (X : (Mine.hd.heap_39 w.params).In gg) (F : Fr gg L s.heap m) (x : EX gg L s.heap y mA)
    (h : ∀ h', Fr gg L h' m → EX gg L h' y mA → Q .none { s with heap := h' }) : wpAny (model prog w) A (call (.builtin "Exception.__init__") [.ref y, v]) Q E s := by
  have FB := PySem.F.excBase_Exception
  have X1 := X.keeps F.keep
  refine wpAny_call (codeAny_call_builtin FB.init.plain FB.initEntry (check_exc59 X F x ?_))
  obtain ⟨o, z, ho, hc, hd, hg, hL, hns⟩ := x
  unfold Builtin.«BaseException.__init__»
  dsimp only
  rw [if_neg (by simp)]
  unfold newTuple Builtin.BaseException.bexcPut
  have ho1 := Heap.get?_push_of_some (h := s.heap) { cls := .type "tuple", data := .seq [v].toArray } ho
  refine wpAny_bind (wpAny_newObj_type (wpAny_bind (wpAny_bind (wpAny_field ho1 hd (x := .ref z) rfl (wpAny_bind (wpAny_setField ho1 hd (Nat.succ_pos _) ?_))))) (by show [v].toArray.size ≤ sizeLine; simp [sizeLine_eq]))
  refine wpAny_letGo (wpAny_pure (h _ ?_ ?_))
  · have FP := F.push { cls := .type "tuple", data := .seq [v].toArray }
    obtain ⟨⟨oL, es, ep, h1, h2⟩, h3, h4⟩ := FP
    refine ⟨⟨oL, es, ep, (Heap.get?_update_other _ _ hL).trans h1, h2⟩, fun b ob e => (Heap.get?_update_other _ _ (fun q => ?_)).trans (h3 b ob e), h4⟩
    rw [q, e] at hg
    cases hg
  · have hd3 := Obj.data_mapFields hd (·.setIfInBounds 0 (Value.ref s.heap.objs.size))
    refine ⟨_, s.heap.objs.size, Heap.get?_update_self _ ho1 (Obj.isFreed_of_fields hd3), (Obj.cls_mapFields _ _).trans hc, hd3.trans (by simp), hg, hL, ?_⟩
    have hdi : (Obj.mapFields (·.setIfInBounds 0 (Value.ref s.heap.objs.size)) o).dict = o.dict := by
      obtain ⟨_, _, od, _⟩ := o
      cases od <;> rfl
    rw [hdi]
    rcases hns with ⟨a1, a2⟩ | ⟨d, a1, a2, a3, a4, a5⟩
    · exact .inl ⟨a1, a2⟩
    · obtain ⟨o', es, ep, e1, e2⟩ := a3
      exact .inr ⟨d, a1, a2, ⟨o', es, ep, (Heap.get?_update_other _ _ (Ne.symm a2)).trans (Heap.get?_push_of_some _ e1), e2⟩, a4, a5⟩
end
section
variable {prog : Program} {w : World} {A : Around} {E : Value → Shared → Prop} {s : Shared} {gg : Heap} {L y : Addr} {m mA : Str → Option Value}
set_option maxHeartbeats 8000000 in
theorem set59 {name : Str} {v : Value} {Q : Unit → Shared → Prop} {ns : List Str} (X : (Mine.hd.heap_39 w.params).In gg) (F : Fr gg L s.heap m) (x : EX gg L s.heap y mA) (hw : Within mA ns) (hsz : ns.length ≤ 10)
    (hf : findIn (Mine.hd.heap_39 w.params) (.ref 59) name = some none)
    (h : ∀ h' tk', Fr gg L h' m → EX gg L h' y (fun z => if z = name then some v else mA z) → Q () { s with heap := h', toks := tk' }) : wpAny (model prog w) A (setAttr (.ref y) name v) Q E s := by
  have SF := PySem.F.store_Exception
  have X1 := X.keeps F.keep
  have T0 := x.type (M := model prog w)
  have I : ∃ oy od, InstAt s.heap y oy 59 od := by
    obtain ⟨o, z, ho, hc, hd, hg, hL, hns⟩ := x
    have hno : notCls o = true := by unfold notCls; rw [hd]
    rcases hns with ⟨a1, a2⟩ | ⟨d, a1, a2, a3, a4, a5⟩
    · exact ⟨o, none, ho, hc, hno, by rw [a1]; trivial⟩
    · obtain ⟨o', es, ep, e1, e2⟩ := a3
      exact ⟨o, some o', ho, hc, hno, by rw [a1]; exact e1⟩
  obtain ⟨oy, od, I⟩ := I
  refine set_plain X1 I (by k_is) ?_
  have sub : Looks (model prog w) s.heap (isInstance (.ref y) (.type "object")) true := T0.andThen (looks_mroIn X1 (by k_is))
  have sub1 : Looks (model prog w) ({ s with toks := s.toks + 1 } : Shared).heap (isInstance (.ref y) (.type "object")) true := sub
  refine codeAny_call_builtin SF.slot.plain SF.entry (@check_slot (model prog w) _ _ { s with toks := s.toks + 1 } "object.__setattr__" "object" "__setattr__" (.ref y) [.str name s.toks, v] [] _ SF.kind SF.split sub1 (SF.args (.ref y) (.str name s.toks) v) ?_)
  have hC := X1 59 _ (by k_is)
  have hm : Looks (model prog w) s.heap (mroOf (.ref 59)) [.ref 59, .ref 46, .type "Exception", .type "BaseException", .type "object"] := ((Looks.ld (part := none) hC).andThen .now).andThen .now
  have hl : Looks (model prog w) s.heap (typeLookup (.ref 59) name) none := looks_findIn X1 hf
  rw [osa_eq, refuse_eq]
  refine wpAny_bind (wpAny_bind (T0 _ _ _ _ (fun _ _ e => e) (wpAny_bind (hm _ _ _ _ (fun _ _ e => e) ?_))))
  rw [refuseLoop_ref, refuseLoop_ref, SF.passes]
  refine wpAny_pure (wpAny_bind (T0 _ _ _ _ (fun _ _ e => e) (wpAny_bind (hl _ _ _ _ (fun _ _ e => e) (wpAny_bind (wpAny_pure ?_))))))
  dsimp only
  clear I SF T0 sub sub1 hm hl oy od
  obtain ⟨⟨oc, odi, oda, osl⟩, z, ho, hc, hd, hg, hL, hns⟩ := x
  obtain ⟨hp, g, d0, t, os⟩ := s
  dsimp only at hc hd ho hns F X1 hC h ⊢
  subst hc hd
  have hcl : Looks (model prog w) hp (classData 59) _ := (Looks.ld (part := none) hC).andThen .now
  refine wpAny_bind (wpAny_pure (wpAny_bind (wpAny_bind (wpAny_loadPart ho ?_))))
  refine wpAny_bind (hcl.at ?_)
  rw [if_neg (by decide)]
  have keepF : ∀ h' : Heap, (∀ b, b ≠ y → (∀ dx, odi = some dx → b ≠ dx) → ∀ ob, hp.get? b = some ob → h'.get? b = some ob) → (∀ dx, odi = some dx → gg.get? dx = none ∧ dx ≠ L) → Fr gg L h' m := by
    intro h' k q
    obtain ⟨⟨oL, es, ep, h1, h2⟩, h3, h4⟩ := F
    refine ⟨⟨oL, es, ep, k L (Ne.symm hL) (fun dx e => Ne.symm (q dx e).2) _ h1, h2⟩, fun b ob e => k b (fun z => ?_) (fun dx e2 z => ?_) ob (h3 b ob e), h4⟩
    · rw [← z, e] at hg; cases hg
    · have := (q dx e2).1
      rw [← z, e] at this; cases this
  rcases hns with ⟨a1, a2⟩ | ⟨d, a1, a2, a3, a4, a5⟩
  · subst a1
    dsimp only
    rw [if_neg (by simp [typeHasDict])]
    have hx₁ : (hp.push { cls := .type "dict", data := .dict #[] }).get? y = some _ := Heap.get?_push_of_some _ ho
    have hxs : y ≠ hp.objs.size := Nat.ne_of_lt (Heap.lt_size ho)
    refine wpAny_bind (wpAny_alloc ?_)
    refine wpAny_bind (wpAny_update hx₁ ?_)
    refine wpAny_pure ?_
    have hgd : ((hp.push { cls := .type "dict", data := .dict #[] }).update y fun o => { cls := o.cls, dict := some hp.objs.size, data := o.data, slots := o.slots }).get? hp.objs.size
        = some { cls := .type "dict", data := .dict #[] } :=
      (Heap.get?_update_ne _ _ _ _ hxs.symm).trans (Heap.get?_push_at rfl rfl)
    have hnd : ((hp.push { cls := .type "dict", data := .dict #[] }).update y fun o => { cls := o.cls, dict := some hp.objs.size, data := o.data, slots := o.slots }).Ns hp.objs.size (fun _ => none) :=
      ⟨_, #[], _, hgd, rfl, fun e he => absurd he (by simp), fun _ => rfl⟩
    show wpAny _ _ (Builtin.ObjectAttr.storeInDict hp.objs.size (.str name t) name v) _ _ _
    unfold Builtin.ObjectAttr.storeInDict Builtin.ObjectAttr.newKeyGuard
    refine wpAny_bind (wpAny_pure (wpAny_bind (wpAny_nsSet1 (Heap.Ns1.of_empty hnd) fun h' hn' hs => ?_)))
    obtain ⟨oD, esD, epD, hoD, hdD, hcD⟩ := hn'.count (Within.cons name v Within.nil)
    refine wpAny_bind (wpAny_lookBehind hoD (by rw [hdD]; exact pastItsLine_dict (Nat.le_trans hcD (by rw [List.length_cons, List.length_nil, sizeLine_eq]; omega))) ?_)
    have hk : ∀ b, b ≠ y → ∀ ob, hp.get? b = some ob → h'.get? b = some ob := fun b hbx ob hb => (hs.2 b (Nat.ne_of_lt (Heap.lt_size hb))).trans ((Heap.get?_update_ne _ _ _ _ hbx).trans (Heap.get?_push_of_some _ hb))
    have hgn : gg.get? hp.objs.size = none := by
      cases q : gg.get? hp.objs.size with
      | none => rfl
      | some o' => exact absurd (Heap.lt_size (F.keep _ _ q)) (Nat.lt_irrefl _)
    have hLs : hp.objs.size ≠ L := Ne.symm (Nat.ne_of_lt F.ns.lt)
    refine wpAny_pure (h h' _ (keepF h' (fun b hb _ ob e => hk b hb ob e) (fun dx e => by cases e)) ⟨_, z, ((hs.2 y hxs).trans (Heap.get?_update_self _ hx₁ rfl)), rfl, rfl, hg, hL, .inr ⟨hp.objs.size, rfl, hxs.symm, ?_, hgn, hLs⟩⟩)
    obtain ⟨o', es, ep, e1, e2, e3, eu, e4⟩ := hn'
    exact ⟨o', es, ep, e1, e2, e3, eu, fun q => by rw [e4 q]; by_cases hq : q = name <;> simp [hq, a2]⟩
  · subst a1
    refine wpAny_pure ?_
    show wpAny _ _ (Builtin.ObjectAttr.storeInDict d (.str name t) name v) _ _ _
    unfold Builtin.ObjectAttr.storeInDict Builtin.ObjectAttr.newKeyGuard
    refine wpAny_bind (wpAny_pure (wpAny_bind (wpAny_nsSet1 a3 fun h' hn' hs => ?_)))
    obtain ⟨oD, esD, epD, hoD, hdD, hcD⟩ := hn'.count (Within.cons name v hw)
    refine wpAny_bind (wpAny_lookBehind hoD (by rw [hdD]; exact pastItsLine_dict (Nat.le_trans hcD (by rw [List.length_cons, sizeLine_eq]; omega))) ?_)
    exact wpAny_pure (h h' _ (keepF h' (fun b _ hb ob e => (hs.2 b (hb d rfl)).trans e) (fun dx e => by cases e; exact ⟨a4, a5⟩)) ⟨_, z, (hs.2 y (Ne.symm a2)).trans ho, rfl, rfl, hg, hL, .inr ⟨d, rfl, a2, hn', a4, a5⟩⟩)
end

section
variable {prog : Program} {w : World} {A : Around} {h : Heap} {g : Array GenState} {d : Drawn} {t : Nat} {os : OsState}
noncomputable abbrev excRaw (x : Addr) : Obj := { cls := .ref 59, data := .fields #[.ref x, .none, .none, .none, .bool false, .none] }
noncomputable abbrev tupRaw (l : List Value) : Obj := { cls := .type "tuple", data := .seq l.toArray }
theorem word_made (X : (Mine.hd.heap_39 w.params).In h) : Looks (model prog w) h (Bind.madeBy (.ref 59)) (some "Exception.__new__") := by
  have hc := X 59 _ (by k_is)
  have hm : Looks (model prog w) h (mroOf (.ref 59)) _ := ((Looks.ld (part := none) hc).andThen .now).andThen .now
  unfold Bind.madeBy
  intro A Q E s k q
  refine wpAny_bind (hm A _ E s k ?_)
  rw [List.forIn_cons]
  exact wpAny_bind (wpAny_bind (wpAny_bind (wpAny_bind (wpAny_loadPart (k _ _ hc) (wpAny_pure (wpAny_pure (wpAny_pure (wpAny_pure q))))))))
theorem word_base (X : (Mine.hd.heap_39 w.params).In h) : Looks (model prog w) h (Bind.staticBase (.ref 59)) (.ref 59) := by
  have hc := X 59 _ (by k_is)
  have hm : Looks (model prog w) h (mroOf (.ref 59)) _ := ((Looks.ld (part := none) hc).andThen .now).andThen .now
  have made := word_made (prog := prog) X
  unfold Bind.staticBase
  intro A Q E s k q
  refine wpAny_bind (hm A _ E s k ?_)
  rw [List.forIn_cons]
  exact wpAny_bind (wpAny_bind (wpAny_bind (made A _ E s k (wpAny_pure (wpAny_pure (wpAny_pure q))))))
theorem word_new {rest : List Value} {R : Result → Shared → Prop} (X : (Mine.hd.heap_39 w.params).In h) (hr : rest.length ≤ sizeLine)
    (hq : R (.ok (.ret (.ref (h.objs.size + 1)))) ⟨(h.push (tupRaw rest)).push (excRaw h.objs.size), g, d, t, os⟩) :
    codeAny (model prog w) A (.call (.builtin "Exception.__new__") ⟨.ref 59 :: rest, []⟩) R ⟨h, g, d, t, os⟩ := by
  have F := PySem.F.excBase_Exception
  have hc := X 59 _ (by k_is)
  have made := word_made (prog := prog) X
  have base := word_base (prog := prog) X
  have sE : Looks (model prog w) h (isSubtype (.ref 59) (.type "Exception")) true := looks_mroIn X (by k_is)
  have sA : Looks (model prog w) h (isSubtype (.ref 59) (.type "AttributeError")) false := looks_mroIn X (by k_is)
  have sN : Looks (model prog w) h (isSubtype (.ref 59) (.type "NameError")) false := looks_mroIn X (by k_is)
  have isT : Looks (model prog w) h (isInstance (.ref 59) (.type "type")) true := looks_instIn X (by k_is)
  refine codeAny_call_builtin_code (Code.quiet_builtin _ F.quiet) ?_
  simp only [checkBuiltinCall, F.newKind, F.newSplit, F.newRow]
  repeat (first | simp only [beq_self_eq_true, bne_self_eq_false, Bool.false_eq_true, if_false, if_true, Bool.not_true] | lk)
  have hends := F.ends
  have here : Looks (model prog w) h (Bind.madeHere "BaseException.__new__" (.ref 59)) () := base.andThen (made.andThen (Looks.of_pure (by simp only [Option.map_some, F.canon, bne_self_eq_false, Bool.false_eq_true, if_false])))
  refine PySem.codeAny_builtinAt F.entry ?_
  unfold Builtin.«BaseException.__new__»
  refine PySem.wpAt_bind ?_
  show PySem.wpAt _ _ _ (stack >>= _) _ _ _
  refine PySem.wpAt_bind (PySem.wpAt_stack fun p below => PySem.wpAt_of_wpAny ?_)
  wp_walk
  refine PySem.wpAt_of_wpAny ?_
  rw [F.owner]
  repeat (first | simp only [beq_self_eq_true, bne_self_eq_false, Bool.false_eq_true, if_false, if_true, Bool.not_true] | lk)
  rw [if_neg (by rw [List.size_toArray]; omega)]
  have hc1 := Heap.get?_push_of_some (excRaw h.objs.size) (Heap.get?_push_of_some (tupRaw rest) hc)
  have hc0 := Heap.get?_push_of_some (tupRaw rest) hc
  repeat (first | simp only [Bool.false_eq_true, if_false] | lk)
  show R _ _
  rw [Heap.size_push]
  exact hq
theorem word_call {rest : List Value} {Q E : Value → Shared → Prop} (X : (Mine.hd.heap_39 w.params).In h) (hr : rest.length ≤ sizeLine)
    (hq : codeAny (model prog w) (A.under (.builtin "type.__call__" ⟨.ref 59 :: rest, []⟩)) (.call (.ref 36) ⟨.ref (h.objs.size + 1) :: rest, []⟩)
      (fun r s' => match r with | .ok (.ret v) => v = .none ∧ Q (.ref (h.objs.size + 1)) s' | .ok _ => False | .error e => E e s') ⟨(h.push (tupRaw rest)).push (excRaw h.objs.size), g, d, t, os⟩) :
    wpAny (model prog w) A (call (.ref 59) rest) Q E ⟨h, g, d, t, os⟩ := by
  have hc := X 59 _ (by k_is)
  have callS : Looks (model prog w) h (specialOf (.ref 59) "__call__") (some (.builtin "type.__call__")) := looks_specialIn X (by k_is)
  have isT : Looks (model prog w) h (isInstance (.ref 59) (.type "type")) true := looks_instIn X (by k_is)
  refine wpAny_call (codeAny_of_tree ?_)
  show wpAny _ _ (callAny (.ref 59) _) _ _ _
  refine nd_load hc ?_
  show wpAny _ _ (callAny.viaDunder (.ref 59) _) _ _ _
  unfold callAny.viaDunder
  refine wpAny_bind (callS.at ?_)
  dsimp only
  rw [tc_bind]
  refine wpAny_bind (wpAny_pure (wpAny_bind (wpAny_pure ?_)))
  refine wpAny_pure (a := Fin.again (.call (.builtin "type.__call__") ⟨.ref 59 :: rest, []⟩)) (And.intro rfl ?_)
  refine codeAny_call_builtin_at (Code.quiet_builtin _ (by decide +kernel)) entry_typeCall (check_slot tc_kind tc_split isT (tc_args _ _ _) ?_)
  unfold Builtin.«type.__call__»
  have made := word_made (prog := prog) X
  have hm : Looks (model prog w) h (mroOf (.ref 59)) _ := ((Looks.ld (part := none) hc).andThen .now).andThen .now
  repeat (first | simp only [List.isEmpty_cons, Bool.false_eq_true, if_false] | with_reducible refine wpAny_call ?_ | lk)
  refine word_new X hr ?_
  have k : ∀ b o, h.get? b = some o → ((h.push (tupRaw rest)).push (excRaw h.objs.size)).get? b = some o := fun b o e => Heap.get?_push_of_some _ (Heap.get?_push_of_some _ e)
  have hx : ((h.push (tupRaw rest)).push (excRaw h.objs.size)).get? (h.objs.size + 1) = some (excRaw h.objs.size) := by heap_get
  have t1 : Looks (model prog w) ((h.push (tupRaw rest)).push (excRaw h.objs.size)) (typeOf (.ref (h.objs.size + 1))) (.ref 59) := (Looks.ld hx).andThen .now
  have X2 := X.keeps k
  have s1 : Looks (model prog w) ((h.push (tupRaw rest)).push (excRaw h.objs.size)) (isSubtype (.ref 59) (.ref 59)) true := looks_mroIn X2 (by k_is)
  have i1 : Looks (model prog w) ((h.push (tupRaw rest)).push (excRaw h.objs.size)) (typeLookup (.ref 59) "__init__") (some (.ref 36)) := looks_findIn X2 (by k_is)
  have b1 := bind_fn (M := model prog w) X2 (f := 36) (.ref (h.objs.size + 1)) (by k_is)
  unfold isInstance callSpecial? specialOf
  repeat (first | with_reducible refine wpAny_call ?_ | lk)
  refine codeAny_mono hq fun r s' z => ?_
  rcases r with e | (v | _ | _ | _) <;> first | exact z | exact z.elim | skip
  obtain ⟨rfl, z⟩ := z
  exact wpAny_pure (wpAny_pure z)
end

section
variable {prog : Program} {w : World} {A₀ A : Around} {s : Shared} {base h₀ gg : Heap} {outer : List Env} {L : Addr} {m mg mb : Str → Option Value} {env : Env} {K : Frag} {p : Program} {loose : List Str} {mean : ExcName → Option Value}
  {R : Result → Shared → Prop} {name qual : Str} {params : Arguments} {body : List Stmt} {scope : Scope} {dV kV doc pm cdv ct oc : Value} {an od : Option Addr} {osl : Array (Option Value)} {f : Addr} {args : Args} {binds : List (Str × Value)} {led : List (Addr × Obj)}
/-- as enterP, but the callee's base is an older heap, and what was made since is the callee's own -/
theorem enterQ (B : Below A₀ base outer h₀) (F : Fr h₀ L gg m) (X₀ : K.In h₀) (T : Top p loose mean mg mb h₀) (hA : A.frames = some (env :: outer)) (hf : env.frame = some L) (hke : env.scope.kind = .function)
    (hkg : ∀ b o, gg.get? b = some o → s.heap.get? b = some o) (hsz : gg.objs.size ≤ s.heap.objs.size) (hl : ∀ q ∈ led, s.heap.get? q.1 = some q.2 ∧ gg.get? q.1 = none)
    (ho : K.lookup f = some ⟨oc, od, .func (fnOf name qual params body scope dV kV doc pm an cdv ct), osl⟩) (hcd : codeIn K cdv qual = true) (hroom : A.depth < recursionLimit)
    (hbind : BindsTo s (fnOf name qual params body scope dV kV doc pm an cdv ct) args binds) (hloc : ∀ y ∈ binds, scope.names.lookup y.1 = some .local) {br : List (Str × Value)} (hbr : binds.reverse = br)
    (h : ∀ L' h₁ tk, Fr gg L' h₁ (kstB (fun _ => none) br) → News gg L' h₁ led → Below A base (env :: outer) gg → K.In gg → Top p loose mean mg mb gg →
      wpAny (model prog w) (A.deeper (envOf qual scope L' f cdv)) (execs body (envOf qual scope L' f cdv))
        (fun fl s' => R (.ok (.ret (match fl with | .ret v => v | _ => .none))) s')
        (fun e s' => wpAny (model prog w) (A.deeper (envOf qual scope L' f cdv)) (leaving (envOf qual scope L' f cdv) e) (fun _ s'' => R (.error e) s'') (fun e' s'' => R (.error e') s'') s')
        { s with heap := h₁, toks := tk })
    (hcell : ∀ x ∈ scope.names, x.2 ≠ .cell := by decide) (hco : scope.isCoroutine = false := by rfl) (hgen : scope.isGenerator = false := by rfl) (hk : scope.kind = .function := by rfl) : codeAny (model prog w) A (.call (.ref f) args) R s := by
  have BG := pushX B F hf hke
  have B2 : Below A base (env :: outer) gg := ⟨hA, fun b o e => F.keep b o (B.stays b o e), BG.frames⟩
  have ks : ∀ b o, h₀.get? b = some o → s.heap.get? b = some o := fun b o e => hkg b o (F.keep b o e)
  refine codeAny_call_def (fd := fnOf name qual params body scope dV kV doc pm an cdv ct) (body := body) (binds := binds) hroom ((X₀.keeps ks) _ _ ho) rfl (T.nolimit.keeps ks) (codeRec_of (X₀.keeps ks) hcd) rfl hbind hcell hloc (fun h₁ hns hk₁ => ?_) hco hgen hk
  have hns' : h₁.Ns s.heap.objs.size (kstB (fun _ => none) br) := by
    have e : kstB (fun _ => none) br = fun y => binds.reverse.lookup y := by
      funext y
      rw [hbr, lookup_kstB]
    rw [e]
    exact hns
  exact h s.heap.objs.size h₁ _ ⟨hns', fun b o e => hk₁ b o (hkg b o e), hsz⟩ (fun q hq => ⟨hk₁ _ _ (hl q hq).1, Nat.ne_of_lt (Heap.lt_size (hl q hq).1), (hl q hq).2⟩) B2 (X₀.keeps F.keep) (T.keeps F.keep)
end

section
variable {prog p : Program} {w : World} {loose : List Str} {mean : ExcName → Option Value} {mg mb : Str → Option Value}
  {hdl : Option Value} {dp un : Nat} {gd : Option (List Code)} {cn : Str} {cs : Scope} {a : Addr} {ccd : Value} {cl : List (Str × Addr)} {outer : List Env} {A₀ : Around} {base h₀ : Heap} {L : Addr} {m : Str → Option Value} {news : List (Addr × Obj)} {s : Shared} {Q E : Value → Shared → Prop}
set_option hygiene false in
local macro_rules | `(tactic| walk_at "getMethod type:Exception") => `(tactic| (k_here; (refine getm_exc (by k_in) ?_)))
set_option hygiene false in
local macro_rules | `(tactic| walk_at "call builtin:Exception.__init__") => `(tactic| (k_here; (rename EX _ _ _ _ _ => xE); (rename Fr _ _ _ _ => xF); refine init_exc59 (gg := _) (by assumption) xF xE ?_; intro hE1 F' xE'; clear xF xE))
set_option hygiene false in
local macro_rules | `(tactic| walk_at "setAttr") => `(tactic| (k_here; (rename EX _ _ _ _ _ => xE); (rename Fr _ _ _ _ => xF); refine set59 (gg := _) (ns := ["what"]) (by assumption) xF xE ?w ?z ?f ?_; (case f => k_is); (case z => decide); (case w => first | exact (fun _ h => absurd rfl h) | (intro y hy; simp only [ne_eq, ite_eq_right_iff, reduceCtorEq, imp_false, Decidable.not_not] at hy; exact hy ▸ List.Mem.head _)); intro hE1 tkE F' xE'; clear xF xE))
theorem word_obj {v : Value} (B : Below A₀ base outer h₀) (F : Fr h₀ L s.heap m) (X : (Mine.hd.heap_39 w.params).In h₀) (T : Top p loose mean mg mb h₀) (hk : cs.kind = .function) (hdp : dp + 3 < recursionLimit) (hu : un + 24 < cLine)
   (ret : ∀ h' tk' e oe vs, (∀ b o, s.heap.get? b = some o → h'.get? b = some o) → s.heap.get? e = none → h'.get? e = some oe → oe.cls = .ref 59 → oe.data = .fields vs → vs[1]? = some .none → vs[2]? = some .none → Q (.ref e) {s with heap := h', toks := tk'}) :
   wpAny (model prog w) (Tp hdl dp un gd cn cs L a ccd cl outer) (call (.ref 59) [v]) Q E s := by
  obtain ⟨h, g, d, t, os⟩ := s
  have X1 : (Mine.hd.heap_39 w.params).In h := X.keeps F.keep
  refine word_call X1 (by simp [sizeLine_eq]) ?_
  have hx : ((h.push (tupRaw [v])).push (excRaw h.objs.size)).get? (h.objs.size + 1) = some (excRaw h.objs.size) := by heap_get
  have ht : ((h.push (tupRaw [v])).push (excRaw h.objs.size)).get? h.objs.size = some (tupRaw [v]) := Heap.get?_push_of_some _ (Heap.get?_push_at rfl rfl)
  have k : ∀ b o, h.get? b = some o → ((h.push (tupRaw [v])).push (excRaw h.objs.size)).get? b = some o := fun b o e => Heap.get?_push_of_some _ (Heap.get?_push_of_some _ e)
  generalize hh2 : (h.push (tupRaw [v])).push (excRaw h.objs.size) = h2 at hx ht k ⊢
  have hsz : h2.objs.size = h.objs.size + 2 := by rw [← hh2]; simp [Heap.size_push]
  have hn : h.get? (h.objs.size + 1) = none := Heap.get?_none_of_le (Nat.le_succ _)
  have hn0 : h.get? h.objs.size = none := Heap.get?_none_of_le (Nat.le_refl _)
  generalize hy : h.objs.size + 1 = y at hx hn ⊢
  generalize hz : h.objs.size = z at hx ht hn0 ⊢
  refine enterQ (gg := h) (br := [(Str.ofString "at", .int (-1) 209), (Str.ofString "what", v), (Str.ofString "self", .ref y)]) (led := [(y, excRaw z), (z, tupRaw [v])]) (binds := [(Str.ofString "self", .ref y), (Str.ofString "what", v), (Str.ofString "at", .int (-1) 209)]) B F X T rfl rfl hk k (by rw [hsz]; omega) ?_ (by k_is) (by k_is) ?_ ?_ (locs rfl) rfl ?_
  · intro q hq
    rcases List.mem_cons.mp hq with rfl | hq
    · exact ⟨hx, hn⟩
    · rw [List.mem_singleton.mp hq]
      exact ⟨ht, hn0⟩
  · show dp + 1 < recursionLimit
    omega
  · exact binds_K (X1.keeps k) rfl (by k_is) rfl rfl rfl
  · intro L1 h1 tk1 F1 N1 B1 X1 T1
    dsimp only [kstB] at F1
    try dsimp only
    try k_fold
    have x1 : EX h L1 h1 y (fun _ => none) := ⟨_, z, (N1 _ (.head _)).1, rfl, rfl, (N1 _ (.head _)).2.2, (N1 _ (.head _)).2.1, .inl ⟨rfl, fun _ => rfl⟩⟩
    replace N1 : News h L1 h1 [] := News.nil
    walk_at "steps"
    obtain ⟨oy, z', e1, e2, e3, e4, e5⟩ := xE'
    exact ret _ _ y oy _ F'.keep hn e1 e2 e3 rfl rfl
theorem word_obj2 {v v2 : Value} (B : Below A₀ base outer h₀) (F : Fr h₀ L s.heap m) (X : (Mine.hd.heap_39 w.params).In h₀) (T : Top p loose mean mg mb h₀) (hk : cs.kind = .function) (hdp : dp + 3 < recursionLimit) (hu : un + 24 < cLine)
   (ret : ∀ h' tk' e oe vs, (∀ b o, s.heap.get? b = some o → h'.get? b = some o) → s.heap.get? e = none → h'.get? e = some oe → oe.cls = .ref 59 → oe.data = .fields vs → vs[1]? = some .none → vs[2]? = some .none → Q (.ref e) {s with heap := h', toks := tk'}) :
   wpAny (model prog w) (Tp hdl dp un gd cn cs L a ccd cl outer) (call (.ref 59) [v, v2]) Q E s := by
  obtain ⟨h, g, d, t, os⟩ := s
  have X1 : (Mine.hd.heap_39 w.params).In h := X.keeps F.keep
  refine word_call X1 (by simp [sizeLine_eq]) ?_
  have hx : ((h.push (tupRaw [v, v2])).push (excRaw h.objs.size)).get? (h.objs.size + 1) = some (excRaw h.objs.size) := by heap_get
  have ht : ((h.push (tupRaw [v, v2])).push (excRaw h.objs.size)).get? h.objs.size = some (tupRaw [v, v2]) := Heap.get?_push_of_some _ (Heap.get?_push_at rfl rfl)
  have k : ∀ b o, h.get? b = some o → ((h.push (tupRaw [v, v2])).push (excRaw h.objs.size)).get? b = some o := fun b o e => Heap.get?_push_of_some _ (Heap.get?_push_of_some _ e)
  generalize hh2 : (h.push (tupRaw [v, v2])).push (excRaw h.objs.size) = h2 at hx ht k ⊢
  have hsz : h2.objs.size = h.objs.size + 2 := by rw [← hh2]; simp [Heap.size_push]
  have hn : h.get? (h.objs.size + 1) = none := Heap.get?_none_of_le (Nat.le_succ _)
  have hn0 : h.get? h.objs.size = none := Heap.get?_none_of_le (Nat.le_refl _)
  generalize hy : h.objs.size + 1 = y at hx hn ⊢
  generalize hz : h.objs.size = z at hx ht hn0 ⊢
  refine enterQ (gg := h) (br := [(Str.ofString "at", v2), (Str.ofString "what", v), (Str.ofString "self", .ref y)]) (led := [(y, excRaw z), (z, tupRaw [v, v2])]) (binds := [(Str.ofString "self", .ref y), (Str.ofString "what", v), (Str.ofString "at", v2)]) B F X T rfl rfl hk k (by rw [hsz]; omega) ?_ (by k_is) (by k_is) ?_ ?_ (locs rfl) rfl ?_
  · intro q hq
    rcases List.mem_cons.mp hq with rfl | hq
    · exact ⟨hx, hn⟩
    · rw [List.mem_singleton.mp hq]
      exact ⟨ht, hn0⟩
  · show dp + 1 < recursionLimit
    omega
  · exact binds_K (X1.keeps k) rfl (by k_is) rfl rfl rfl
  · intro L1 h1 tk1 F1 N1 B1 X1 T1
    dsimp only [kstB] at F1
    try dsimp only
    try k_fold
    have x1 : EX h L1 h1 y (fun _ => none) := ⟨_, z, (N1 _ (.head _)).1, rfl, rfl, (N1 _ (.head _)).2.2, (N1 _ (.head _)).2.1, .inl ⟨rfl, fun _ => rfl⟩⟩
    replace N1 : News h L1 h1 [] := News.nil
    walk_at "steps"
    obtain ⟨oy, z', e1, e2, e3, e4, e5⟩ := xE'
    exact ret _ _ y oy _ F'.keep hn e1 e2 e3 rfl rfl
end

section
/-- the frames of fs may have turned in their slots, all else of G stands -/
noncomputable def Turn (fs : List Addr) (G h : Heap) : Prop := ∀ b o, G.get? b = some o → ∃ sl, (b ∉ fs → sl = o.slots) ∧ h.get? b = some { o with slots := sl }
noncomputable abbrev frs (l : List Env) : List Addr := l.filterMap (·.frame)
/-- since the heap G, a WordFault e flies (its traceback's entry noted as fl) -/
noncomputable def Rsd (G : Heap) (fs : List Addr) (e : Addr) (fl : Value) (h : Heap) : Prop :=
  Turn fs G h ∧ G.get? e = none ∧ ∃ oe vs T oT ts, h.get? e = some oe ∧ oe.cls = .ref 59 ∧ oe.data = .fields vs ∧ vs[1]? = some (.ref T) ∧ vs[2]? = some .none ∧
    G.get? T = none ∧ T ≠ e ∧ h.get? T = some oT ∧ oT.data = .fields ts ∧ ts[3]? = some fl
theorem Turn.of_keeps {fs : List Addr} {G h : Heap} (k : ∀ b o, G.get? b = some o → h.get? b = some o) : Turn fs G h := fun b o e => ⟨o.slots, fun _ => rfl, k b o e⟩
theorem Turn.refl {fs : List Addr} {G : Heap} : Turn fs G G := .of_keeps fun _ _ e => e
theorem Turn.funs {fs : List Addr} {G h base : Heap} {l : List Env} (t : Turn fs G h) (x : G.FunFrames base l) : h.FunFrames base l := x.of_keeps fun b o hb _ => let ⟨_, _, q⟩ := t b o hb; ⟨_, q, rfl⟩
theorem Turn.step {fs : List Addr} {G h h' : Heap} (t : Turn fs G h) (k : ∀ b o, G.get? b = some o → ∀ o', h.get? b = some o' → ∃ sl, (b ∉ fs → sl = o'.slots) ∧ h'.get? b = some { o' with slots := sl }) : Turn fs G h' := fun b o e => by
  obtain ⟨sl, h1, h2⟩ := t b o e
  obtain ⟨sl', h3, h4⟩ := k b o e _ h2
  exact ⟨sl', fun nm => (h3 nm).trans (h1 nm), h4⟩
theorem Turn.fresh {fs : List Addr} {G h : Heap} (t : Turn fs G h) {b : Addr} (e : h.get? b = none) : G.get? b = none := by
  cases q : G.get? b with
  | none => rfl
  | some o => obtain ⟨sl, _, z⟩ := t b o q; rw [e] at z; cases z

variable {M : Model} {A : Around} {E : Value → Shared → Prop} {s : Shared} {G base : Heap} {env : Env} {outer : List Env} {L e : Addr}
theorem entryR {oe : Obj} {vs : Array Value} {head : Value} {hadNext : Bool} {Q : Unit → Shared → Prop} (hfr : A.frames = some (env :: outer)) (GF : G.FunFrames base (env :: outer)) (hf : env.frame = some L)
    (t : Turn (frs (env :: outer)) G s.heap) (hge : G.get? e = none) (he : s.heap.get? e = some oe) (hc : oe.cls = .ref 59) (hd : oe.data = .fields vs) (hsz : 1 < vs.size) (h2 : vs[2]? = some .none)
    (h : ∀ h', Rsd G (frs (env :: outer)) e (rawInt L) h' → Q () { s with heap := h' }) :
    wpAny M A (do let a ← frameOf env; let pl ← entryPlaceOf L hadNext; let b ← EntryCells.newEntry head a .none (rawInt L) .none pl; setField (.ref e) 1 b) Q E s := by
  have FF := t.funs GF
  have hene : e ∉ frs (env :: outer) := fun hm => by
    obtain ⟨_, o, ho, hnf⟩ := FF.mem hm
    rw [he] at ho
    cases ho
    exact hnf vs hd
  refine wpAny_bind (wpAny_frameOf_fun hfr FF hf fun h₁ hs₁ => wpAny_bind (wpAny_entryPlaceOf fun pl hpl => ?_))
  unfold EntryCells.newEntry newFields
  refine wpAny_bind (wpAny_newObj_type ?_ (hpl.sizeOk5 _ _ _ _ _))
  have he₁ : h₁.get? e = some oe := (hs₁.2.1 e hene).trans he
  generalize htr : ({ cls := .type "traceback", dict := none, data := .fields ([head, .ref L, .none, rawInt L, .none] ++ (if pl.isEmpty then List.replicate 6 Value.none else pl)).toArray } : Obj) = tr
  have he₂ := Heap.get?_push_of_some (h := h₁) tr he₁
  have hTe : h₁.objs.size ≠ e := Nat.ne_of_gt (Heap.lt_size he₁)
  have hd₃ := Obj.data_mapFields hd (·.setIfInBounds 1 (Value.ref h₁.objs.size))
  have t₁ : Turn (frs (env :: outer)) G h₁ := t.step fun b o _ o' q => by
    obtain ⟨sl, z⟩ := hs₁.2.2 b o' q
    refine ⟨sl, fun nm => ?_, z⟩
    have := hs₁.2.1 b nm
    rw [q, z] at this
    exact congrArg Obj.slots (Option.some.inj this)
  refine wpAny_setField he₂ hd hsz (h _ ⟨t₁.step fun b o hb o' q => ⟨o'.slots, fun _ => rfl, ?_⟩, hge, ?_⟩)
  · rw [Heap.get?_update_other _ _ (fun z => by rw [← z, hge] at hb; cases hb)]
    exact Heap.get?_push_of_some _ q
  · refine ⟨_, _, h₁.objs.size, tr, _, Heap.get?_update_self _ he₂ (Obj.isFreed_of_fields hd₃), (Obj.cls_mapFields _ _).trans hc, hd₃, by simp [hsz], by rw [Array.getElem?_setIfInBounds_ne (by decide)]; exact h2, t₁.fresh (Heap.get?_none_of_le (Nat.le_refl _)), hTe, ?_, by rw [← htr], ?_⟩
    · rw [Heap.get?_update_other _ _ (Ne.symm hTe)]
      exact Heap.get?_push_at rfl (by rw [← htr]; rfl)
    · first | (simp; done) | (rcases hpl with rfl | ⟨_, _, _, _, _, _, _, rfl⟩ <;> simp)
theorem flightR {fl : Value} {fs : List Addr} {Q : Unit → Shared → Prop} (R : Rsd G fs e fl s.heap) (h : ∀ h', Rsd G fs e .none h' → Q () { s with heap := h' }) : wpAny M A (setFlight (.ref e) none) Q E s := by
  obtain ⟨t, hge, oe, vs, T, oT, ts, he, hc, hd, h1, h2, hgT, hTe, hT, hdT, h3⟩ := R
  unfold setFlight
  refine wpAny_bind (wpAny_field he hd h1 ?_)
  rw [if_pos (show (Value.ref T != Value.none) = true from by simp)]
  have hs3 : 3 < ts.size := (Array.getElem?_eq_some_iff.mp h3).1
  refine wpAny_setField hT hdT hs3 (h _ ⟨t.step fun b o hb o' q => ⟨o'.slots, fun _ => rfl, ?_⟩, hge, ?_⟩)
  · rw [Heap.get?_update_other _ _ (fun z => by rw [← z, hgT] at hb; cases hb)]
    exact q
  · exact ⟨oe, vs, T, _, _, (Heap.get?_update_other _ _ hTe).trans he, hc, hd, h1, h2, hgT, hTe, Heap.get?_update_self _ hT (Obj.isFreed_of_fields (Obj.data_mapFields hdT _)), Obj.data_mapFields hdT _, by simp [hs3]⟩
theorem noteR {Q : Unit → Shared → Prop} (hfr : A.frames = some (env :: outer)) (GF : G.FunFrames base (env :: outer)) (hf : env.frame = some L) (R : Rsd G (frs (env :: outer)) e .none s.heap)
    (h : ∀ h', Rsd G (frs (env :: outer)) e (rawInt L) h' → Q () { s with heap := h' }) : wpAny M A (noteFrame (.ref e) env) Q E s := by
  obtain ⟨t, hge, oe, vs, T, oT, ts, he, hc, hd, h1, h2, hgT, hTe, hT, hdT, h3⟩ := R
  unfold noteFrame
  simp only [hf]
  refine wpAny_bind (wpAny_field he hd h1 ?_)
  rw [if_pos (show (Value.ref T != Value.none) = true from by simp)]
  refine wpAny_bind (wpAny_field hT hdT h3 ?_)
  rw [if_neg (show ¬ ((Value.none == rawInt L) = true) from by simp [rawInt])]
  refine wpAny_bind (wpAny_setField hT hdT (Array.getElem?_eq_some_iff.mp h3).1 ?_)
  refine entryR hfr GF hf (t.step fun b o hb o' q => ⟨o'.slots, fun _ => rfl, ?_⟩) hge ((Heap.get?_update_other _ _ hTe).trans he) hc hd (Array.getElem?_eq_some_iff.mp h1).1 h2 fun h' r => h h' r
  show (s.heap.update T _).get? b = _
  rw [Heap.get?_update_other _ _ (fun z => by rw [← z, hgT] at hb; cases hb)]
  exact q
theorem noteFirstR {oe : Obj} {vs : Array Value} {Q : Unit → Shared → Prop} (hfr : A.frames = some (env :: outer)) (GF : G.FunFrames base (env :: outer)) (hf : env.frame = some L)
    (t : Turn (frs (env :: outer)) G s.heap) (hge : G.get? e = none) (he : s.heap.get? e = some oe) (hc : oe.cls = .ref 59) (hd : oe.data = .fields vs) (h1 : vs[1]? = some .none) (h2 : vs[2]? = some .none)
    (h : ∀ h', Rsd G (frs (env :: outer)) e (rawInt L) h' → Q () { s with heap := h' }) : wpAny M A (noteFrame (.ref e) env) Q E s := by
  unfold noteFrame
  simp only [hf]
  refine wpAny_bind (wpAny_field he hd h1 ?_)
  rw [if_neg (by decide)]
  exact entryR hfr GF hf t hge he hc hd (Array.getElem?_eq_some_iff.mp h1).1 h2 h
theorem leaveFirstR {oe : Obj} {vs : Array Value} {Q : Unit → Shared → Prop} (hfr : A.frames = some (env :: outer)) (GF : G.FunFrames base (env :: outer)) (hf : env.frame = some L)
    (t : Turn (frs (env :: outer)) G s.heap) (hge : G.get? e = none) (he : s.heap.get? e = some oe) (hc : oe.cls = .ref 59) (hd : oe.data = .fields vs) (h1 : vs[1]? = some .none) (h2 : vs[2]? = some .none)
    (h : ∀ h', Rsd G (frs (env :: outer)) e .none h' → Q () { s with heap := h' }) : wpAny M A (leaving env (.ref e)) Q E s :=
  wpAny_bind (noteFirstR hfr GF hf t hge he hc hd h1 h2 fun h₁ r => flightR r h)
/-- leaving a frame that did not raise -/
theorem leaveOnR {Q : Unit → Shared → Prop} (hfr : A.frames = some (env :: outer)) (GF : G.FunFrames base (env :: outer)) (hf : env.frame = some L) (R : Rsd G (frs (env :: outer)) e .none s.heap)
    (h : ∀ h', Rsd G (frs (env :: outer)) e .none h' → Q () { s with heap := h' }) : wpAny M A (leaving env (.ref e)) Q E s :=
  wpAny_bind (noteR hfr GF hf R fun h₁ r => flightR r h)
end
section
variable {M : Model} {A : Around} {E : Value → Shared → Prop} {s' : Shared} {base g h : Heap} {outer : List Env} {L a e : Addr} {m : Str → Option Value} {name : Str} {scope : Scope} {cd : Value} {Q : Unit → Shared → Prop}
theorem frs_mem {b : Addr} {env : Env} (hf : env.frame = some L) (hm : b ∈ frs (env :: outer)) : b = L ∨ b ∈ frs outer := by
  unfold frs at hm
  rw [List.filterMap_cons, hf] at hm
  exact (List.mem_cons.mp hm).imp id id
/-- from a callee's heap at the raise to the caller's heap at the call -/
theorem Rsd.down {env : Env} {fl : Value} {h' : Heap} (F : Fr g L h m) (hf : env.frame = some L) (R : Rsd h (frs (env :: outer)) e fl h') : Rsd g (frs outer) e fl h' := by
  obtain ⟨t, hge, oe, vs, T, oT, ts, he, hc, hd, h1, h2, hgT, r⟩ := R
  have none_ : ∀ b, h.get? b = none → g.get? b = none := fun b q => by
    cases z : g.get? b with
    | none => rfl
    | some o => rw [F.keep _ _ z] at q; cases q
  refine ⟨fun b o q => ?_, none_ _ hge, oe, vs, T, oT, ts, he, hc, hd, h1, h2, none_ _ hgT, r⟩
  obtain ⟨sl, z1, z2⟩ := t b o (F.keep _ _ q)
  refine ⟨sl, fun nm => z1 fun hm => ?_, z2⟩
  rcases frs_mem hf hm with y | y
  · have hL := F.above
    exact absurd (Heap.lt_size q) (Nat.not_lt.mpr (y ▸ hL))
  · exact nm y
end

section
variable {prog : Program} {w : World} {A : Around} {E : Value → Shared → Prop} {s : Shared} {gg : Heap} {env : Env}
set_option maxHeartbeats 8000000 in
theorem raise_word {c : Expr} {pos : Pos} {Q : Flow → Shared → Prop} (hh : A.handled = none) (X : (Mine.hd.heap_39 w.params).In gg)
    (h : wpAny (model prog w) A (eval c env) (fun v s₁ => ∃ e oe vs, v = .ref e ∧ (∀ b o, gg.get? b = some o → s₁.heap.get? b = some o) ∧ s₁.heap.get? e = some oe ∧ oe.cls = .ref 59 ∧ oe.data = .fields vs ∧ vs[1]? = some .none ∧ E (.ref e) s₁) E s) :
    wpAny (model prog w) A (exec (.Raise (some c) none pos) env) Q E s := by
  rw [arm_exec_Raise]
  simp only [evalOpt, Option.map]
  refine wpAny_bind (wpAny_standAt ?_)
  unfold raiseStmt
  refine wpAny_bind (wpAny_bind (wpAny_mono h (fun v s₁ q => ?_) fun _ _ z => z))
  obtain ⟨e, oe, vs, rfl, k, he, hc, hd, h1, hE⟩ := q
  refine wpAny_bind (wpAny_standAt (wpAny_pure ?_))
  have X1 := X.keeps k
  have T0 : Looks (model prog w) s₁.heap (typeOf (.ref e)) (.ref 59) := hc ▸ (Looks.ld he).andThen .now
  have nT : Looks (model prog w) s₁.heap (isInstance (.ref e) (.type "type")) false := T0.andThen (looks_mroIn X1 (by k_is))
  have bT : Looks (model prog w) s₁.heap (isInstance (.ref e) (.type "BaseException")) true := T0.andThen (looks_mroIn X1 (by k_is))
  have tT : Looks (model prog w) s₁.heap (typeOf (.ref 59)) (.type "type") := looks_typeIn X1 (by k_is)
  refine wpAny_bind (wpAny_pure ?_)
  unfold isType excFromValue isExcClass raisedInstance setFlight
  obtain ⟨hp, g, d, t, os⟩ := s₁
  dsimp only at T0 nT bT tT he hE k
  repeat (first | simp only [hd, Bool.false_eq_true, if_false, if_true, Bool.not_true] | with_reducible refine wpAny_field he hd h1 ?_ | lk)
  show wpAny _ _ handled _ _ _
  refine wpAny_handled ?_
  rw [hh]
  exact wpAny_throw hE
end
section
variable {M : Model} {A : Around} {E : Value → Shared → Prop} {s : Shared} {base g h : Heap} {outer : List Env} {L a e : Addr} {m : Str → Option Value} {name : Str} {scope : Scope} {cd : Value} {Q : Unit → Shared → Prop}
theorem raise_leave {oe : Obj} {vs : Array Value} (B : Below A base outer g) (F : Fr g L h m) (hk : scope.kind = .function) (kp : ∀ b o, h.get? b = some o → s.heap.get? b = some o) (hne : h.get? e = none)
    (he : s.heap.get? e = some oe) (hc : oe.cls = .ref 59) (hd : oe.data = .fields vs) (h1 : vs[1]? = some .none) (h2 : vs[2]? = some .none)
    (hR : ∀ h', Rsd g (frs outer) e .none h' → Q () { s with heap := h' }) : wpAny M (A.deeper (envOf name scope L a cd)) (leaving (envOf name scope L a cd) (.ref e)) Q E s :=
  have K' := B.push (name := name) (a := a) (cd := cd) F hk
  leaveFirstR (G := h) K'.stack K'.frames rfl (.of_keeps kp) hne he hc hd h1 h2 fun h' R => hR h' (Rsd.down F rfl R)
theorem pass_leave (B : Below A base outer g) (F : Fr g L h m) (hk : scope.kind = .function) (R : Rsd h (frs (envOf name scope L a cd :: outer)) e .none s.heap)
    (hR : ∀ h', Rsd g (frs outer) e .none h' → Q () { s with heap := h' }) : wpAny M (A.deeper (envOf name scope L a cd)) (leaving (envOf name scope L a cd) (.ref e)) Q E s :=
  have K' := B.push (name := name) (a := a) (cd := cd) F hk
  leaveOnR (G := h) K'.stack K'.frames rfl R fun h' R => hR h' (Rsd.down F rfl R)
theorem Rsd.same {G G' h : Heap} {fs : List Addr} {e : Addr} {fl : Value} (R : Rsd G fs e fl h) (k : ∀ b o, G'.get? b = some o → G.get? b = some o) : Rsd G' fs e fl h := by
  obtain ⟨t, hge, oe, vs, T, oT, ts, he, hc, hd, h1, h2, hgT, r⟩ := R
  have none_ : ∀ b, G.get? b = none → G'.get? b = none := fun b q => by
    cases z : G'.get? b with
    | none => rfl
    | some o => rw [k _ _ z] at q; cases q
  exact ⟨fun b o q => t b o (k b o q), none_ _ hge, oe, vs, T, oT, ts, he, hc, hd, h1, h2, none_ _ hgT, r⟩
end

set_option hygiene false in
local macro_rules | `(tactic| walk_at "call ref") => `(tactic| (k_here; (with_reducible show wpAny _ _ (call (Value.ref 59) [_] []) _ _ _); (rename Fr _ _ _ _ => xF); (rename Below _ _ _ _ => xB); refine word_obj xB xF (by assumption) (by assumption) rfl ?kd ?ku ?_; (case kd => ((try simp only [depth_deeper, depth_caller]); omega)); (case ku => ((try simp only [depth_deeper, depth_caller]); omega)); intro hX tkX eX oX vsX kX nX hX1 cX dX zX1 zX2))
set_option hygiene false in
local macro_rules | `(tactic| walk_at "call ref") => `(tactic| (k_here; (with_reducible show wpAny _ _ (call (Value.ref 59) [_, _] []) _ _ _); (rename Fr _ _ _ _ => xF); (rename Below _ _ _ _ => xB); refine word_obj2 xB xF (by assumption) (by assumption) rfl ?kd ?ku ?_; (case kd => ((try simp only [depth_deeper, depth_caller]); omega)); (case ku => ((try simp only [depth_deeper, depth_caller]); omega)); intro hX tkX eX oX vsX kX nX hX1 cX dX zX1 zX2))

section
variable {prog p : Program} {w : World} {loose : List Str} {mean : ExcName → Option Value} {mg mb : Str → Option Value}
  {hdl : Option Value} {dp un : Nat} {gd : Option (List Code)} {cn : Str} {cs : Scope} {a : Addr} {ccd : Value} {cl : List (Str × Addr)} {outer : List Env} {A₀ : Around} {base h₀ : Heap} {L : Addr} {m : Str → Option Value} {news : List (Addr × Obj)} {s : Shared} {Q E : Value → Shared → Prop}

set_option maxHeartbeats 8000000 in
theorem check_name_spec {nm : List UInt8} {t : Tok} (B : Below A₀ base outer h₀) (F : Fr h₀ L s.heap m) (X : (Mine.hd.heap_39 w.params).In h₀) (N : News h₀ L s.heap news) (T : Top p loose mean mg mb h₀) (hk : cs.kind = .function) (hdp : dp + 5 < recursionLimit) (hu : un + 40 < cLine) (hH : HdOk hdl s.heap) (hl : nm.length ≤ 16777215) (hh : hdl = none)
   (ret : isName nm = true → ∀ h' tk', Fr h₀ L h' m → News h₀ L h' news → Q .none {s with heap := h', toks := tk'})
   (rse : isName nm = false → ∀ e h' tk', Rsd s.heap (frs (envX cn cs L a ccd cl :: outer)) e .none h' → E (.ref e) {s with heap := h', toks := tk'}) :
   wpAny (model prog w) (Tp hdl dp un gd cn cs L a ccd cl outer) (call (.ref 160) [.bytes nm.toArray t]) Q E s := by
  refine wpAny_call ?_
  k_dflt (refine' enterP (br := [(Str.ofString "name", .bytes nm.toArray t)]) ?k1 ?k2 ?k3 ?k4 ?k5 ?kA ?kF ?kK ?k6 ?k7 ?k8 ?k9 ?kB ?kR ?_ ?c2 ?c3 ?c4 ?c5; (case kA => exact rfl); (case kF => exact rfl); (case kK => assumption); (case k1 => k_asm); (case k2 => k_asm); (case k3 => k_asm); (case k4 => k_asm); (case k5 => k_asm); (case k6 => k_is); (case k7 => k_is); (case k8 => ktr_room); (case k9 => first | exact BindsTo.of_eq rfl | exact binds_K (by k_in) rfl (by k_is) rfl rfl rfl); (case c2 => decide); (case kB => exact locs rfl); (case kR => exact rfl); (case c3 => exact rfl); (case c4 => exact rfl); (case c5 => exact rfl); k_whole)
  intro g1 L1 h1 tk1 gk1 gk2 F1 N1 B1 X1 T1
  dsimp only [kstB] at F1
  have hH1 : HdOk hdl g1 := hH.keeps gk1
  try dsimp only
  try k_fold

  walk_at "steps"
  · try dsimp only
    exact leave0 F' fun F2 N2 => ret (by assumption) _ _ F2 N2
  · refine raise_word hh X1 ?_
    walk_at "steps"
    · exact kX _ _ (xF.keep _ _ (by assumption))
    · exact raise_leave xB xF rfl kX nX hX1 cX dX zX1 zX2 fun h' R => rse (by assumption) _ _ _ (Rsd.same R gk1)

end

end Part_S7

section Lines_rules_steps2

set_option hygiene false in
local macro_rules | `(tactic| walk_at "steps2") => `(tactic| repeat' (first | (k_unfold; (try dsimp only)) | ((with_reducible show wpAny _ _ (execs _ _) _ _ _); k_fold) | (k_end; wrow_close) | ((fail_if_success (with_reducible show wpAny _ _ (exec (Stmt.While _ _ _ _) _) _ _ _)); (fail_if_success (with_reducible show wpAny _ _ (call (Value.type "enumerate") _) _ _ _)); (fail_if_success (with_reducible show wpAny _ _ (exec (Stmt.Raise _ _ _) _) _ _ _)); first | walk1 | (dsimp only; walk1) | (leave1; walk_say "STEP leave1"; try dsimp only))))

section Part_S8

section
variable {prog : Program} {w : World} {A : Around} {E : Value → Shared → Prop} {s : Shared} {env : Env} {h₀ : Heap} {x : Str} {body : List Stmt} {Q : Flow → Shared → Prop}
/-- a for whose state is σ over the enumeration of a list of the ledger -/
theorem for_enum {σ : Type} {l : Addr} {vs : List Value} {nn : Nat} {m₀ : Str → Option Value} {elts : List Expr} {k : Nat} {pos : Pos} (Led : σ → List (Addr × Obj)) (ps : σ → List (Str × Value)) (stored : List Str) (PP : Nat → σ → Prop) (c₀ : σ)
    (hh : A.handled = none) (hl : ∀ c, (l, listOf vs.toArray nn) ∈ Led c) (F : Fr h₀ env.locals s.heap m₀) (N : News h₀ env.locals s.heap (Led c₀)) (hk : ∀ p ∈ ps c₀, m₀ p.1 = some p.2) (hp : PP 0 c₀)
    (turn : ∀ (c : σ) i v T t (u : Str → Option Value) h tk own, i < vs.length → vs[i]? = some v → IsTup h T #[.int (i : Int) t, v] → OwnOff own ((Led c₀).map (·.1)) → PP i c →
      Fr h₀ env.locals h (fun y => if y = x then u y else kstB (fun z => if stored.contains z then u z else m₀ z) (ps c) y) → News h₀ env.locals h (Led c ++ own) →
      wpAny (model prog w) A (assign (.Tuple elts k pos) env (.ref T)) (fun _ s₃ => wpAny (model prog w) A (execs body env) (InvPostN h₀ env.locals (KstS Led ps (fun _ => True) x stored m₀ (fun _ c => PP (i + 1) c) []) own ((Led c₀).map (·.1)) { s with heap := h, toks := tk } Q) E s₃) E { s with heap := h, toks := tk })
    (done : ∀ (c : σ) (u : Str → Option Value) h tk, PP vs.length c → Fr h₀ env.locals h (fun y => if y = x then u y else kstB (fun z => if stored.contains z then u z else m₀ z) (ps c) y) → News h₀ env.locals h (Led c) → Q .next { s with heap := h, toks := tk }) :
    wpAny (model prog w) A (call (.type "enumerate") [.ref l]) (fun xv s₁ => wpAny (model prog w) A (pyIter xv) (fun it s₂ => TurnsAt prog w A h₀ env (.Tuple elts k pos) body Q E it s₂) E s₁) E s := by
  have hax := N _ (hl c₀)
  have hls : s.heap.IsList l vs.toArray := ⟨_, hax.1, rfl, nn, rfl⟩
  have hlt : l < s.heap.objs.size := Heap.lt_size hax.1
  have hLs : env.locals < s.heap.objs.size := F.ns.lt
  refine call_enumerate_list hls fun h' hE hI hsz hk' => ?_
  refine wpAny_pyIter_enum hE ?_
  have W := KTurns.ofWalksU (elts := elts) (k := k) (pos := pos) (WalksT.enumerate (prog := prog) (w := w) hh (s.heap.objs.size + 1) s.heap.objs.size l (Nat.succ_ne_self _) (ktu_ne 1 hlt) (Nat.ne_of_lt hlt) vs.toArray).toU
  rw [List.size_toArray] at W
  have offI : ∀ (J : List (Addr × Obj)), J.map (·.1) = (Led c₀).map (·.1) → ∀ p ∈ J, p.1 ∉ [s.heap.objs.size + 1, s.heap.objs.size] := fun J hJ p hp hI' => by
    have h1 : p.1 ∈ (Led c₀).map (·.1) := hJ ▸ List.mem_map_of_mem hp
    obtain ⟨q, hq, e⟩ := List.mem_map.mp h1
    have hlp := Heap.lt_size (N q hq).1
    rw [e] at hlp
    have hb' : p.1 = s.heap.objs.size + 1 ∨ p.1 = s.heap.objs.size := by simpa using hI'
    rcases hb' with e | e
    · exact ktu_ne 1 hlp e
    · exact Nat.ne_of_lt hlp e
  refine ⟨_, _, _, _, _, _, _, m₀, Led c₀, (fun i m nx => nx.map (·.1) = (Led c₀).map (·.1) ∧ KstS Led ps (fun _ => True) x stored m₀ (fun _ c => PP i c) [] m nx), rfl, W, ?_, ?_, ?_, ?_, F.keeps hk', N.grown hk', ⟨rfl, c₀, rfl, trivial, hk, fun _ _ _ _ => rfl, hp⟩, ?_, ?_⟩
  · intro hI'
    have hb' : env.locals = s.heap.objs.size + 1 ∨ env.locals = s.heap.objs.size ∨ env.locals = l := by simpa using hI'
    rcases hb' with e | e | e
    · exact ktu_ne 1 hLs e
    · exact Nat.ne_of_lt hLs e
    · exact hax.2.1 e.symm
  · intro b hb
    have hb' : b = s.heap.objs.size + 1 ∨ b = s.heap.objs.size := by simpa using hb
    rcases hb' with rfl | rfl
    · exact ktu_new F (Nat.le_add_right _ _)
    · exact ktu_new F (Nat.le_refl _)
  · exact offI (Led c₀) rfl
  · exact ⟨⟨.none, hE⟩, hI, hls.at fun o e => hk' l o e⟩
  · rintro i v m₁ nx h₁ tk₁ own hin ⟨T, vals, rfl, ⟨t, y, hy, rfl⟩, hT⟩ ⟨hadr, c, rfl, _, h1, h2, hp'⟩ hoff hown hget hall hst₁ F₁ N₁
    have hy' : vs[i]? = some y := by simpa using hy
    have hsep : OwnOff (own.filter fun q => decide (q.1 = s.heap.objs.size + 1 ∨ q.1 = s.heap.objs.size)) ((Led c₀).map (·.1)) := by
      intro q hq b hb e
      have h1 : q.1 = s.heap.objs.size + 1 ∨ q.1 = s.heap.objs.size := by simpa using (List.mem_filter.mp hq).2
      rw [← hadr] at hb
      obtain ⟨p, hp2, e2⟩ := List.mem_map.mp hb
      refine hoff p hp2 ?_
      rw [e2, ← e]
      rcases h1 with h1 | h1 <;> simp [h1]
    have N₂ : News h₀ env.locals h₁ (Led c ++ own.filter fun q => decide (q.1 = s.heap.objs.size + 1 ∨ q.1 = s.heap.objs.size)) := fun q hq =>
      N₁ q ((List.mem_append.mp hq).elim (fun h => List.mem_append.mpr (.inr h)) fun h => List.mem_append.mpr (.inl ((List.mem_filter.mp h).1)))
    refine wpAny_mono (turn c i y T t m₁ h₁ tk₁ _ hin hy' hT hsep hp' (kst_frOut h1 h2 F₁) N₂) (fun _ s₂ q => wpAny_mono q (fun f s₃ p => ?_) fun _ _ e => e) fun _ _ e => e
    have fin : InvEndN h₀ env.locals (KstS Led ps (fun _ => True) x stored m₀ (fun _ c => PP (i + 1) c) []) (own.filter fun q => decide (q.1 = s.heap.objs.size + 1 ∨ q.1 = s.heap.objs.size)) ((Led c₀).map (·.1)) { s with heap := h₁, toks := tk₁ } s₃ →
        LoopStepU h₀ env.locals [s.heap.objs.size + 1, s.heap.objs.size] own (fun m nx => nx.map (·.1) = (Led c₀).map (·.1) ∧ KstS Led ps (fun _ => True) x stored m₀ (fun _ c => PP (i + 1) c) [] m nx) { s with heap := h₁, toks := tk₁ } .next s₃ := by
      rintro ⟨h2', tk', m', news', nx, e, F', N', hn, ho, ha, hm⟩
      refine ⟨rfl, h2', tk', m', nx, e, F', fun q hq => ?_, offI nx ha, ha, hm⟩
      rcases List.mem_append.mp hq with h | h
      · by_cases hI' : q.1 = s.heap.objs.size + 1 ∨ q.1 = s.heap.objs.size
        · exact N' q (ho q (List.mem_filter.mpr ⟨h, by simpa using hI'⟩))
        · have hql : q.1 = l := by
            have hq3 : q.1 = s.heap.objs.size + 1 ∨ q.1 = s.heap.objs.size ∨ q.1 = l := by simpa using hown q h
            rcases hq3 with z | z | z
            · exact absurd (.inl z) hI'
            · exact absurd (.inr z) hI'
            · exact z
          obtain ⟨c', rfl, _⟩ := hm
          have z1 := (N₁ _ (List.mem_append.mpr (.inr (hl c)))).1
          have z2 := hget q h
          rw [hql, z1] at z2
          have z3 : q = (l, listOf vs.toArray nn) := Prod.ext hql (Option.some.inj z2).symm
          rw [z3]
          exact N' _ (hn _ (hl c'))
      · exact N' q (hn q h)
    cases f with
    | ret v => exact .ret p
    | brk => exact .brk p
    | next => exact .next (fin p)
    | cont => exact .cont (fin p)
  · rintro h2' tk m' news' F' N' _ ⟨_, c, rfl, _, h1, h2, hp'⟩
    exact done c m' h2' tk hp' (kst_frOut h1 h2 F') N'
end
section
variable {prog : Program} {w : World} {A : Around} {E : Value → Shared → Prop} {s : Shared} {h₀ : Heap} {L a b : Addr} {m : Str → Option Value} {news : List (Addr × Obj)} {vs ws : List Value} {n n2 : Nat}
theorem addLs {Q : Value → Shared → Prop} (F : Fr h₀ L s.heap m) (N : News h₀ L s.heap news) (h1 : (a, listOf vs.toArray n) ∈ news) (h2 : (b, listOf ws.toArray n2) ∈ news) (hz : vs.length + ws.length ≤ 16777216)
    (h : ∀ D h', Fr h₀ L h' m → News h₀ L h' ((D, listOf (vs ++ ws).toArray 0) :: news) → (∀ q ∈ news, D ≠ q.1) → Q (.ref D) { s with heap := h' }) : wpAny (model prog w) A (binaryOp .Add (.ref a) (.ref b)) Q E s := by
  exact add_lists F N ⟨_, (N _ h1).1, rfl, n, rfl⟩ ⟨_, (N _ h2).1, rfl, n2, rfl⟩ (fun h' F' N' => h _ _ F' N' fun q hq => Nat.ne_of_gt (Heap.lt_size (N q hq).1)) (by rw [sizeLine_eq]; exact hz)
end

noncomputable def mores : List (List UInt8) → List (List UInt8)
  | [] => []
  | p :: r => (32 :: p) :: r
noncomputable def foldStep (width : Int) (st : List (List UInt8) × List UInt8) (q : List UInt8) : List (List UInt8) × List UInt8 :=
  if width < (st.2.length : Int) + q.length then (st.1 ++ [st.2], q) else (st.1, st.2 ++ q)
noncomputable def foldAll (nm body : List UInt8) (width : Int) : List (List UInt8) × List UInt8 := (mores (pieces (stripL body))).foldl (foldStep width) ([], nm ++ [58])
noncomputable def foldRows (nm body : List UInt8) (width : Int) : List (List UInt8) := (foldAll nm body width).1 ++ [(foldAll nm body width).2]
noncomputable def foldedL (nm body : List UInt8) (width : Int) : List UInt8 := joinL [13, 10] (foldRows nm body width) ++ [13, 10]
theorem span_join {p : UInt8 → Bool} : ∀ l : List UInt8, l.takeWhile p ++ l.dropWhile p = l
  | [] => rfl
  | c :: l => by
    by_cases h : p c
    · rw [List.takeWhile_cons_of_pos h, List.dropWhile_cons_of_pos h, List.cons_append, span_join l]
    · rw [List.takeWhile_cons_of_neg h, List.dropWhile_cons_of_neg h]
      rfl
theorem piecesF_flat : ∀ (n : Nat) (l : List UInt8), l.length ≤ n → (piecesF n l).flatten = l
  | 0, l, h => by
    cases l with
    | nil => rfl
    | cons c l => simp at h
  | n + 1, [], _ => rfl
  | n + 1, c :: l, h => by
    have h1 := rest_lt c l
    show ((c :: l).takeWhile white ++ ((c :: l).dropWhile white).takeWhile nonwhite) ++ (piecesF n (((c :: l).dropWhile white).dropWhile nonwhite)).flatten = c :: l
    rw [piecesF_flat n _ (by simp only [List.length_cons] at h h1 ⊢; omega), List.append_assoc, span_join, span_join]
theorem pieces_flat (l : List UInt8) : (pieces l).flatten = l := piecesF_flat _ _ (Nat.le_refl _)
theorem mores_len (ps : List (List UInt8)) : (mores ps).length = ps.length := by cases ps <;> rfl
theorem mores_flat (ps : List (List UInt8)) : (mores ps).flatten.length ≤ ps.flatten.length + 1 := by
  cases ps with
  | nil => simp [mores]
  | cons p r => simp [mores] <;> omega
theorem mores_get {ps : List (List UInt8)} {i : Nat} {p : List UInt8} (h : ps[i]? = some p) : (mores ps)[i]? = some (if 0 < i then p else 32 :: p) := by
  cases ps with
  | nil => simp at h
  | cons q r =>
    cases i with
    | zero => simp only [List.getElem?_cons_zero, Option.some.injEq] at h; subst h; rfl
    | succ i =>
      show ((32 :: q) :: r)[i + 1]? = some (if 0 < i + 1 then p else 32 :: p)
      rw [if_pos (Nat.succ_pos i)]
      simpa using h
theorem take_succ_get {α : Type} {l : List α} {i : Nat} {x : α} (h : l[i]? = some x) : l.take (i + 1) = l.take i ++ [x] := by
  rw [List.take_add_one, h]
  rfl
theorem fold_flat (width : Int) : ∀ (qs : List (List UInt8)) (st : List (List UInt8) × List UInt8), (qs.foldl (foldStep width) st).1.flatten ++ (qs.foldl (foldStep width) st).2 = st.1.flatten ++ st.2 ++ qs.flatten
  | [], st => by simp
  | q :: qs, st => by
    rw [List.foldl_cons, fold_flat width qs]
    unfold foldStep
    split <;> simp
theorem fold_count (width : Int) : ∀ (qs : List (List UInt8)) (st : List (List UInt8) × List UInt8), (qs.foldl (foldStep width) st).1.length ≤ st.1.length + qs.length
  | [], st => by simp
  | q :: qs, st => by
    rw [List.foldl_cons]
    refine Nat.le_trans (fold_count width qs _) ?_
    unfold foldStep
    split <;> simp <;> omega
theorem flat_take_le {qs : List (List UInt8)} (i : Nat) : (qs.take i).flatten.length ≤ qs.flatten.length := by
  have h : (qs.take i ++ qs.drop i).flatten = qs.flatten := by rw [List.take_append_drop]
  rw [← h, List.flatten_append, List.length_append]
  omega
theorem joinL_len (sep : List UInt8) : ∀ ls : List (List UInt8), (joinL sep ls).length ≤ ls.flatten.length + sep.length * ls.length
  | [] => by simp [joinL]
  | [a] => by simp [joinL]
  | a :: b :: r => by
    have ih := joinL_len sep (b :: r)
    have e : joinL sep (a :: b :: r) = a ++ sep ++ joinL sep (b :: r) := rfl
    rw [e, List.length_append, List.length_append, List.flatten_cons, List.length_append, List.length_cons, Nat.mul_succ]
    omega
theorem piecesF_count : ∀ (n : Nat) (l : List UInt8), (piecesF n l).length ≤ l.length
  | 0, l => by cases l <;> simp [piecesF]
  | n + 1, [] => by simp [piecesF]
  | n + 1, c :: l => by
    have h1 := rest_lt c l
    have h2 := piecesF_count n (((c :: l).dropWhile white).dropWhile nonwhite)
    show (_ :: piecesF n _).length ≤ _
    rw [List.length_cons]
    omega
theorem hasB_find {l : List UInt8} {k : UInt8} (h : hasB l k = true) : ∃ i, findB l k 0 l.length = some i := by
  cases q : findB l k 0 l.length with
  | some i => exact ⟨i, rfl⟩
  | none =>
    unfold hasB at h
    rw [List.any_eq_true] at h
    obtain ⟨x, hx, e⟩ := h
    obtain ⟨j, hj, e2⟩ := List.mem_iff_getElem.mp hx
    refine absurd ?_ (findB_none q j (Nat.zero_le _) hj)
    rw [List.getElem?_eq_getElem hj, e2, beq_iff_eq.mp e]
theorem mem_flat_len {ls : List (List UInt8)} {r : List UInt8} (h : r ∈ ls) : r.length ≤ ls.flatten.length := by
  induction ls with
  | nil => cases h
  | cons a ls ih =>
    rw [List.flatten_cons, List.length_append]
    rcases List.mem_cons.mp h with rfl | h
    · omega
    · have := ih h
      omega
theorem fold_row {nm B : List UInt8} {width : Int} {i : Nat} {ls : List (List UInt8)} {row : List UInt8} (h : (ls, row) = ((mores (pieces B)).take i).foldl (foldStep width) ([], nm ++ [58])) :
    ls.flatten.length + row.length ≤ nm.length + B.length + 2 ∧ ls.length ≤ B.length := by
  have h1 := fold_flat width ((mores (pieces B)).take i) ([], nm ++ [58])
  have h2 := fold_count width ((mores (pieces B)).take i) ([], nm ++ [58])
  rw [← h] at h1 h2
  have h3 := congrArg List.length h1
  have h4 := flat_take_le (qs := mores (pieces B)) i
  have h5 := mores_flat (pieces B)
  rw [pieces_flat] at h5
  have h6 : ((mores (pieces B)).take i).length ≤ (mores (pieces B)).length := by rw [List.length_take]; omega
  rw [mores_len] at h6
  have h7 : (pieces B).length ≤ B.length := piecesF_count _ _
  simp only [List.length_append, List.flatten_nil, List.length_nil, List.length_cons] at h2 h3
  omega

set_option hygiene false in
local macro_rules | `(tactic| walk_at "call ref") => `(tactic| (k_here; (with_reducible show wpAny _ _ (call (Value.ref 59) [_] []) _ _ _); (rename Fr _ _ _ _ => xF); (rename Below _ _ _ _ => xB); refine word_obj xB xF (by assumption) (by assumption) rfl ?kd ?ku ?_; (case kd => ((try simp only [depth_deeper, depth_caller]); omega)); (case ku => ((try simp only [depth_deeper, depth_caller]); omega)); intro hX tkX eX oX vsX kX nX hX1 cX dX zX1 zX2))
set_option hygiene false in
local macro_rules | `(tactic| walk_at "call ref") => `(tactic| (k_here; (with_reducible show wpAny _ _ (call (Value.ref 59) [_, _] []) _ _ _); (rename Fr _ _ _ _ => xF); (rename Below _ _ _ _ => xB); refine word_obj2 xB xF (by assumption) (by assumption) rfl ?kd ?ku ?_; (case kd => ((try simp only [depth_deeper, depth_caller]); omega)); (case ku => ((try simp only [depth_deeper, depth_caller]); omega)); intro hX tkX eX oX vsX kX nX hX1 cX dX zX1 zX2))

set_option hygiene false in
local macro_rules | `(tactic| walk_at "call ref") => `(tactic| (k_here; (with_reducible show wpAny _ _ (call (Value.ref 153) _) _ _ _); k_dflt (refine' pieces_of_spec ?k1 ?k2 ?k3 ?k4 ?k5 ?kK ?kd ?ku ?kH ?ka ?_; walk_at "c8"; (case kH => walk_at "hd"); (case ka => walk_at "ar"); k_whole); intro poA poV poN h' tk' poB F' N' poD; (have poL := BytesAre.length poB); (try simp only [List.forall_mem_cons, List.not_mem_nil, false_implies, implies_true, and_true] at poD); walk_at "c3"))

set_option hygiene false in
local macro_rules | `(tactic| walk_at "call ref") => `(tactic| (k_here; (with_reducible show wpAny _ _ (call (Value.ref 160) _) _ _ _); (rename Fr _ _ _ _ => xF); (rename Below _ _ _ _ => xB); k_dflt (refine' check_name_spec (by assumption) xF (by assumption) ?k4 (by assumption) ?kK ?kd ?ku ?kH ?ka ?kh ?_ ?krse; (case k4 => k_asm); (case kK => first | exact rfl | assumption); (case kd => ktr_room); (case ku => ktr_units); (case kH => walk_at "hd"); (case ka => walk_at "ar"); (case kh => first | exact rfl | assumption); (case' krse => intro naX eX hX tkX rX); rotate_left); intro naX h' tk' F' N'; walk_at "c3"))
set_option hygiene false in
local macro_rules | `(tactic| walk_at "compareOp In int bytes") => `(tactic| (k_here; refine bIn ?fa ?fb ?_; (case fa => walk_at "ar"); (case fb => walk_at "ar")))
set_option hygiene false in
local macro_rules | `(tactic| walk_at "call builtin:bytes.index") => `(tactic| (k_here; refine' cIndex ?fa ?fb ?fc ?_; (case fa => walk_at "ar"); (case fb => walk_at "ar"); (case fc => assumption)))
set_option hygiene false in
local macro_rules | `(tactic| walk_at "exec For Tuple Call cons nil") => `(tactic| (k_here; (rename Fr _ _ _ _ => lF'); (with_unfolding_all refine' For_turns lF' ?_; k_whole)))
set_option hygiene false in
local macro_rules | `(tactic| walk_at "binaryOp Add ref ref") => `(tactic| (k_here; (with_reducible rename Fr _ _ _ _ => F'); (with_reducible rename News _ _ _ _ => N'); refine addLs (s := ⟨_, _, _, _, _⟩) F' N' ?ka ?kb ?kz ?_; (case ka => k_mem); (case kb => k_mem); (case kz => walk_at "ar"); intro laA h' F' N' laD; (try k_sweep)))

section
variable {prog p : Program} {w : World} {loose : List Str} {mean : ExcName → Option Value} {mg mb : Str → Option Value}
  {hdl : Option Value} {dp un : Nat} {gd : Option (List Code)} {cn : Str} {cs : Scope} {a : Addr} {ccd : Value} {cl : List (Str × Addr)} {outer : List Env} {A₀ : Around} {base h₀ : Heap} {L : Addr} {m : Str → Option Value} {news : List (Addr × Obj)} {s : Shared} {Q E : Value → Shared → Prop}

structure FS where
  vs : List Value
  ls : List (List UInt8)
  n : Nat
  row : List UInt8
  t : Tok
set_option maxHeartbeats 8000000 in
theorem folded_spec {nm body : List UInt8} {t1 t2 t3 : Tok} {width : Int} {args : List Value} (B : Below A₀ base outer h₀) (F : Fr h₀ L s.heap m) (X : (Mine.hd.heap_39 w.params).In h₀) (N : News h₀ L s.heap news) (T : Top p loose mean mg mb h₀) (hk : cs.kind = .function) (hdp : dp + 6 < recursionLimit) (hu : un + 48 < cLine) (hargs : args = [.bytes nm.toArray t1, .bytes body.toArray t2, .int width t3] ∨ args = [.bytes nm.toArray t1, .bytes body.toArray t2] ∧ width = 78 ∧ t3 = 394) (hl : nm.length ≤ 100000) (hl' : body.length ≤ 100000)
   (ret : isName nm = true → hasB body 10 = false → hasB body 13 = false → ∀ t h' tk', Fr h₀ L h' m → News h₀ L h' news → Q (.bytes (foldedL nm body width).toArray t) {s with heap := h', toks := tk'})
   (rse : (isName nm = false ∨ hasB body 10 = true ∨ hasB body 13 = true) → ∀ e h' tk', Rsd s.heap (frs (envX cn cs L a ccd cl :: outer)) e .none h' → E (.ref e) {s with heap := h', toks := tk'}) :
   wpAny (model prog w) (Tp none dp un gd cn cs L a ccd cl outer) (call (.ref 168) args) Q E s := by
  refine wpAny_call ?_
  k_dflt (refine' enterP (binds := List.reverse [(Str.ofString "width", .int width t3), (Str.ofString "body", .bytes body.toArray t2), (Str.ofString "name", .bytes nm.toArray t1)]) (br := [(Str.ofString "width", .int width t3), (Str.ofString "body", .bytes body.toArray t2), (Str.ofString "name", .bytes nm.toArray t1)]) ?k1 ?k2 ?k3 ?k4 ?k5 ?kA ?kF ?kK ?k6 ?k7 ?k8 ?k9 ?kB ?kR ?_ ?c2 ?c3 ?c4 ?c5; (case kA => exact rfl); (case kF => exact rfl); (case kK => assumption); (case k1 => k_asm); (case k2 => k_asm); (case k3 => k_asm); (case k4 => k_asm); (case k5 => k_asm); (case k6 => k_is); (case k7 => k_is); (case k8 => ktr_room); (case k9 => first | (rcases hargs with rfl | ⟨rfl, rfl, rfl⟩ <;> exact binds_K (by k_in) rfl (by k_is) rfl rfl rfl) | exact BindsTo.of_eq rfl | exact binds_K (by k_in) rfl (by k_is) rfl rfl rfl); (case c2 => decide); (case kB => exact locs rfl); (case kR => exact rfl); (case c3 => exact rfl); (case c4 => exact rfl); (case c5 => exact rfl); k_whole)
  intro g1 L1 h1 tk1 gk1 gk2 F1 N1 B1 X1 T1
  dsimp only [kstB] at F1
  have hH1 : HdOk none g1 := HdOk.none _
  try dsimp only
  try k_fold

  have hst := stripL_len body
  walk_at "steps"
  case' krse => exact pass_leave xB xF rfl rX fun h' R => rse (.inl naX) _ _ _ (Rsd.same R gk1)
  walk_at "steps2"
  · refine raise_word rfl X1 ?_
    obtain ⟨i, hf⟩ := hasB_find ‹hasB body (10 : Int).toNat.toUInt8 = true›
    walk_at "steps2"
    · exact kX _ _ (xF.keep _ _ (by assumption))
    · exact raise_leave xB xF rfl kX nX hX1 cX dX zX1 zX2 fun h' R => rse (.inr (.inl ‹hasB body (10 : Int).toNat.toUInt8 = true›)) _ _ _ (Rsd.same R gk1)
  · refine raise_word rfl X1 ?_
    obtain ⟨i, hf⟩ := hasB_find ‹hasB body (13 : Int).toNat.toUInt8 = true›
    walk_at "steps2"
    · exact kX _ _ (xF.keep _ _ (by assumption))
    · exact raise_leave xB xF rfl kX nX hX1 cX dX zX1 zX2 fun h' R => rse (.inr (.inr ‹hasB body (13 : Int).toNat.toUInt8 = true›)) _ _ _ (Rsd.same R gk1)
  · rename News _ _ _ _ => N2
    rename Fr _ _ _ _ => F2
    have hpf := pieces_flat (stripL body)
    have hpc : (pieces (stripL body)).length ≤ (stripL body).length := piecesF_count _ _
    refine' for_enum (σ := FS) (x := Str.ofString "spot") (fun c => [(poA, listOf poV.toArray poN), (_, listOf c.vs.toArray c.n), (_, _)]) (fun c => [(Str.ofString "row", .bytes c.row.toArray c.t)]) [Str.ofString "piece", Str.ofString "more"]
      (fun i c => BytesAre c.vs c.ls ∧ (c.ls, c.row) = ((mores (pieces (stripL body))).take i).foldl (foldStep width) ([], nm ++ [58])) ⟨[], [], 0, nm ++ [58], _⟩ rfl (fun _ => .head _) F2 N2 (by kst_all) ⟨.nil, rfl⟩ ?turn ?done
    case turn =>
      rintro ⟨vs, ls, n, row, tr⟩ i v T t u h tk own hi hv hT ho ⟨hb, hst2⟩ F3 N3
      clear F2 N2
      dsimp only [kstB] at hb hst2 F3 N3 ⊢
      obtain ⟨p, tp, hp, rfl⟩ := poB.get hv
      obtain ⟨hr1, hr2⟩ := fold_row hst2
      have hpl := mem_flat_len (List.mem_of_getElem? hp)
      rw [hpf] at hpl
      have hbl := hb.length
      obtain ⟨d1, d2⟩ := poD
      dsimp only [List.map] at ho
      have hm := take_succ_get (mores_get hp)
      have hm1 : 0 < i → (mores (pieces (stripL body))).take (i + 1) = (mores (pieces (stripL body))).take i ++ [p] := fun h => by rw [hm, if_pos h]
      have hm2 : ¬ 0 < i → (mores (pieces (stripL body))).take (i + 1) = (mores (pieces (stripL body))).take i ++ [32 :: p] := fun h => by rw [hm, if_neg h]
      clear hm
      walk_at "steps2"
      all_goals (rename News _ _ _ _ => N5; rename Fr _ _ _ _ => F5; (try simp only [List.push_toArray, List.append_eq, List.cons_append, List.nil_append] at N5))
      all_goals first
        | (refine kst_end (σ := FS) ⟨vs ++ [.bytes row.toArray tr], ls ++ [row], _, _, _⟩ F5 N5 (by kst_in) (by intro q hq; simp [hq]) rfl trivial (by kst_all) (by kst_same) ⟨hb.append .one, ?_⟩
           dsimp only
           first | rw [hm1 (by omega)] | rw [hm2 (by omega)]
           rw [List.foldl_append, ← hst2]
           simp only [List.foldl_cons, List.foldl_nil, foldStep, List.nil_append, List.cons_append]
           rw [if_pos (by assumption)])
        | (refine kst_end (σ := FS) ⟨vs, ls, n, _, _⟩ F5 N5 (by kst_in) (by intro q hq; simp [hq]) rfl trivial (by kst_all) (by kst_same) ⟨hb, ?_⟩
           dsimp only
           first | rw [hm1 (by omega)] | rw [hm2 (by omega)]
           rw [List.foldl_append, ← hst2]
           simp only [List.foldl_cons, List.foldl_nil, foldStep, List.nil_append, List.cons_append]
           rw [if_neg (by assumption)])
    case done =>
      rintro ⟨vs, ls, n, row, tr⟩ u h tk ⟨hb, hst2⟩ F3 N3
      clear F2 N2
      dsimp only [kstB] at hb hst2 F3 N3 ⊢
      obtain ⟨hr1, hr2⟩ := fold_row hst2
      have hbl := hb.length
      have hb2 : BytesAre (vs ++ [.bytes row.toArray tr]) (ls ++ [row]) := hb.append .one
      have hj := joinL_len [13, 10] (ls ++ [row])
      rw [List.flatten_append, List.length_append, List.length_append, List.flatten_cons, List.flatten_nil, List.append_nil, List.length_cons, List.length_cons, List.length_nil, List.length_cons, List.length_nil] at hj
      have hfin : foldRows nm body width = ls ++ [row] := by
        have e : (mores (pieces (stripL body))).take poV.length = mores (pieces (stripL body)) := List.take_of_length_le (by rw [mores_len, poL]; exact Nat.le_refl _)
        rw [e] at hst2
        unfold foldRows foldAll
        rw [← hst2]
      walk_at "steps2"
      rename Fr _ _ _ _ => F5
      refine leave0 F5 fun F6 N6 => ?_
      have e : joinL [13, 10] (ls ++ [row]) ++ [13, 10] = foldedL nm body width := by unfold foldedL; rw [hfin]
      rw [e]
      exact ret naX ‹hasB body (10 : Int).toNat.toUInt8 = false› ‹hasB body (13 : Int).toNat.toUInt8 = false› _ _ _ F6 N6

end

end Part_S8

section Part_S9

section
variable {prog : Program} {w : World} {A : Around} {E : Value → Shared → Prop} {s : Shared} {base g G : Heap} {outer : List Env} {L a e : Addr} {m : Str → Option Value} {name : Str} {scope : Scope} {cd : Value}
  {b₀ : Stmt} {suite : List Stmt} {pos np : Pos} {rest : List ExceptHandler} {Q : Flow → Shared → Prop} {p : Program} {loose : List Str} {mean : ExcName → Option Value} {mg mb : Str → Option Value}
theorem ground (K : Below A base outer g) (F : Fr g L G m) {h : Heap} (t : Turn (frs (envOf name scope L a cd :: outer)) G h) :
    ∃ g', KtsTurn (frs outer) g g' ∧ Fr g' L h m ∧ Below A base outer g' := by
  refine kts_ground (B := hideAll G (frs (envOf name scope L a cd :: outer))) (name := name) (scope := scope) (a := a) (cd := cd) K F (fun b o e nm => hideAll_get _ e nm) (fun b o q => ?_) (fun b o q _ => ?_)
  · have hG := of_hideAll _ q
    have nm : b ∉ frs (envOf name scope L a cd :: outer) := fun hm => by rw [hideAll_none _ hm] at q; cases q
    obtain ⟨sl, h1, h2⟩ := t b o hG
    rw [h1 nm] at h2
    exact h2
  · obtain ⟨sl, _, h2⟩ := t b o q
    exact ⟨sl, h2⟩
theorem caughtW (K : Below A base outer g) (F : Fr g L G m) (XB : (Mine.hd.heap_39 w.params).In base) (TB : Top p loose mean mg mb base) (hk : scope.kind = .function)
    (R : Rsd G (frs (envOf name scope L a cd :: outer)) e .none s.heap) (hx : (envOf name scope L a cd).kindOf (Str.ofString "WordFault") = some .globalImplicit)
    (k : ∀ h' g', KtsTurn (frs outer) g g' → Fr g' L h' m → (∀ news, News g L G news → News g' L h' news) → Below A base outer g' → (Mine.hd.heap_39 w.params).In g' → Top p loose mean mg mb g' → Rsd G (frs (envOf name scope L a cd :: outer)) e .none h' →
      wpAny (model prog w) ((A.deeper (envOf name scope L a cd)).mark (some (.ref e))) (execs (b₀ :: suite) (envOf name scope L a cd)) Q (fun _ _ => False) { s with heap := h' }) :
    wpAny (model prog w) (A.deeper (envOf name scope L a cd)) (noteFrame (.ref e) (envOf name scope L a cd))
      (fun _ s₂ => wpAny (model prog w) (A.deeper (envOf name scope L a cd)) (setFlight (.ref e) none) (fun _ s₃ =>
        wpAny (model prog w) (A.deeper (envOf name scope L a cd)) (handleBy (.ref e) (envOf name scope L a cd) (.ExceptHandler (some (.Name (Str.ofString "WordFault") np)) none (b₀ :: suite) pos :: rest)) Q E s₃) E s₂) E s := by
  have K' := K.push (name := name) (a := a) (cd := cd) F hk
  refine noteR (G := G) K'.stack K'.frames rfl R fun h₄ R₄ => ?_
  refine flightR R₄ fun h₅ R₅ => ?_
  obtain ⟨g₅, T₅, F₅, K₅⟩ := ground K F R₅.1
  have X₅ : (Mine.hd.heap_39 w.params).In g₅ := XB.keeps K₅.stays
  have P₅ : TopRead p loose mg mb g₅ := topRead_of (TB.keeps K₅.stays)
  refine wpAny_handleBy_cons (codeAny_handlers_test (name_K F₅ X₅ P₅ (by k_is) ?_ hk hx)) (by intro q; cases q)
  have X5h := X₅.keeps F₅.keep
  obtain ⟨oe, vs, T, oT, ts, he, hc, hd, h1, h2, r⟩ := R₅.2.2
  have hC := X5h 59 _ (by k_is)
  refine wpAny_excMatches_sub_self hC he hc (by decide +kernel) (codeAny_handlers_suite ?_)
  refine flightR R₅ fun h₆ R₆ => ?_
  obtain ⟨g₆, T₆, F₆, K₆⟩ := ground K F R₆.1
  refine wpAny_mono (k h₆ g₆ T₆ F₆ (fun news N q hq => ?_) K₆ (XB.keeps K₆.stays) (TB.keeps K₆.stays) R₆) (fun _ _ z => z) fun _ _ z => z.elim
  have hqg := (N q hq).2.2
  obtain ⟨sl, z1, z2⟩ := R₆.1 _ _ (N q hq).1
  have nm : q.1 ∉ frs (envOf name scope L a cd :: outer) := fun hm => by
    rcases kts_mem hm with z | z
    · exact (N q hq).2.1 z
    · obtain ⟨_, o, ho, _⟩ := K.frames.mem z
      rw [hqg] at ho
      cases ho
  rw [z1 nm] at z2
  exact ⟨z2, (N q hq).2.1, T₆.none_ _ hqg⟩
end
section
variable {h₀ G h : Heap} {L : Addr} {m : Str → Option Value} {news : List (Addr × Obj)}
theorem Fr.turned (F : Fr h₀ L G m) (t : Turn [L] G h) : Fr h₀ L h m := by
  have hL := kts_self F
  obtain ⟨⟨oL, es, ep, h1, h2⟩, h3, h4⟩ := F
  obtain ⟨sl, _, z⟩ := t _ _ h1
  refine ⟨⟨_, es, ep, z, h2⟩, fun b o e => ?_, h4⟩
  obtain ⟨sl, z1, z2⟩ := t _ _ (h3 b o e)
  rw [z1 (fun q => by rw [List.mem_singleton.mp q, hL] at e; cases e)] at z2
  exact z2
theorem News.turned (N : News h₀ L G news) (t : Turn [L] G h) : News h₀ L h news := fun q hq => by
  obtain ⟨sl, z1, z2⟩ := t _ _ (N q hq).1
  rw [z1 (fun z => (N q hq).2.1 (List.mem_singleton.mp z))] at z2
  exact ⟨z2, (N q hq).2⟩
theorem Turn.of_kts {fs : List Addr} {g g' h : Heap} (T : KtsTurn fs g g') (k : ∀ b o, g'.get? b = some o → h.get? b = some o) : Turn fs g h := fun b o e => by
  by_cases hm : b ∈ fs
  · obtain ⟨sl, q⟩ := T.frame b o e hm
    exact ⟨sl, fun nm => absurd hm nm, k _ _ q⟩
  · exact ⟨o.slots, fun _ => rfl, k _ _ (T.other b o e hm)⟩
noncomputable def LeaveT (h₀ : Heap) (L : Addr) (m : Str → Option Value) (news : List (Addr × Obj)) (g : Heap) (R : Result → Shared → Prop) (v : Value) (s' : Shared) : Prop :=
  Turn [L] g s'.heap ∧ (Fr h₀ L s'.heap m → News h₀ L s'.heap news → R (.ok (.ret v)) s')
end
section
variable {prog : Program} {w : World} {A₀ A : Around} {s : Shared} {base h₀ : Heap} {outer : List Env} {L : Addr} {m mg mb : Str → Option Value} {env : Env} {news : List (Addr × Obj)} {K : Frag} {p : Program} {loose : List Str} {mean : ExcName → Option Value}
  {R : Result → Shared → Prop} {name qual : Str} {params : Arguments} {body : List Stmt} {scope : Scope} {dV kV doc pm cdv ct oc : Value} {an od : Option Addr} {osl : Array (Option Value)} {f : Addr} {args : Args} {binds : List (Str × Value)}
/-- entering a def that catches: the caller's frame may turn in its slots -/
theorem enterT (B : Below A₀ base outer h₀) (F : Fr h₀ L s.heap m) (X₀ : K.In h₀) (N : News h₀ L s.heap news) (T : Top p loose mean mg mb h₀) (hA : A.frames = some (env :: outer)) (hf : env.frame = some L) (hke : env.scope.kind = .function)
    (ho : K.lookup f = some ⟨oc, od, .func (fnOf name qual params body scope dV kV doc pm an cdv ct), osl⟩) (hcd : codeIn K cdv qual = true) (hroom : A.depth < recursionLimit)
    (hbind : BindsTo s (fnOf name qual params body scope dV kV doc pm an cdv ct) args binds) (hloc : ∀ y ∈ binds, scope.names.lookup y.1 = some .local) {br : List (Str × Value)} (hbr : binds.reverse = br)
    (h : ∀ g L' h₁ tk, g = s.heap → Fr g L' h₁ (kstB (fun _ => none) br) → Below A base (env :: outer) g → K.In g → Top p loose mean mg mb g →
      wpAny (model prog w) (A.deeper (envOf qual scope L' f cdv)) (execs body (envOf qual scope L' f cdv))
        (fun fl s' => LeaveT h₀ L m news g R (match fl with | .ret v => v | _ => .none) s')
        (fun e s' => wpAny (model prog w) (A.deeper (envOf qual scope L' f cdv)) (leaving (envOf qual scope L' f cdv) e) (fun _ s'' => R (.error e) s'') (fun e' s'' => R (.error e') s'') s')
        { s with heap := h₁, toks := tk })
    (hcell : ∀ x ∈ scope.names, x.2 ≠ .cell := by decide) (hco : scope.isCoroutine = false := by rfl) (hgen : scope.isGenerator = false := by rfl) (hk : scope.kind = .function := by rfl) : codeAny (model prog w) A (.call (.ref f) args) R s := by
  have BG := pushX B F hf hke
  have B2 : Below A base (env :: outer) s.heap := ⟨hA, fun b o e => F.keep b o (B.stays b o e), BG.frames⟩
  refine codeAny_call_def (fd := fnOf name qual params body scope dV kV doc pm an cdv ct) (body := body) (binds := binds) hroom ((X₀.keeps F.keep) _ _ ho) rfl (T.nolimit.keeps F.keep) (codeRec_of (X₀.keeps F.keep) hcd) rfl hbind hcell hloc (fun h₁ hns hk₁ => ?_) hco hgen hk
  have hns' : h₁.Ns s.heap.objs.size (kstB (fun _ => none) br) := by
    have e : kstB (fun _ => none) br = fun y => binds.reverse.lookup y := by
      funext y
      rw [hbr, lookup_kstB]
    rw [e]
    exact hns
  refine wpAny_mono (h s.heap s.heap.objs.size h₁ _ rfl ⟨hns', hk₁, Nat.le_refl _⟩ B2 (X₀.keeps F.keep) (T.keeps F.keep)) (fun fl s' hl => ?_) fun _ _ y => y
  exact hl.2 (Fr.turned F hl.1) (News.turned N hl.1)
end

set_option hygiene false in
local macro_rules | `(tactic| walk_at "call ref") => `(tactic| (k_here; (with_reducible show wpAny _ _ (call (Value.ref 168) _) _ _ _); (rename Fr _ _ _ _ => xF); (rename Below _ _ _ _ => xB); k_dflt (refine' folded_spec xB xF (by assumption) ?k4 (by assumption) ?kK ?kd ?ku ?kg ?ka ?kb ?_ ?krse; (case kg => first | exact .inl rfl | exact .inr ⟨rfl, rfl, rfl⟩); (case k4 => k_asm); (case kK => first | exact rfl | assumption); (case kd => ktr_room); (case ku => ktr_units); (case ka => walk_at "ar"); (case kb => walk_at "ar"); (case' krse => intro naX eX hX tkX rX); rotate_left); intro naX n10 n13 foT h' tk' F' N'; walk_at "c3"))

section
variable {prog p : Program} {w : World} {loose : List Str} {mean : ExcName → Option Value} {mg mb : Str → Option Value}
  {hdl : Option Value} {dp un : Nat} {gd : Option (List Code)} {cn : Str} {cs : Scope} {a : Addr} {ccd : Value} {cl : List (Str × Addr)} {outer : List Env} {A₀ : Around} {base h₀ : Heap} {L : Addr} {m : Str → Option Value} {news : List (Addr × Obj)} {s : Shared} {Q E : Value → Shared → Prop}

set_option maxHeartbeats 8000000 in
theorem law_refused_spec {nm body : List UInt8} {t1 t2 : Tok} (B : Below A₀ base [] h₀) (F : Fr h₀ L s.heap m) (X : (Mine.hd.heap_39 w.params).In h₀) (N : News h₀ L s.heap news) (T : Top p loose mean mg mb h₀) (hk : cs.kind = .function) (hdp : dp + 7 < recursionLimit) (hu : un + 56 < cLine)
   (XB : (Mine.hd.heap_39 w.params).In base) (TB : Top p loose mean mg mb base) (hl : nm.length ≤ 100000) (hl' : body.length ≤ 100000)
   (ret : ∀ h' tk', Fr h₀ L h' m → News h₀ L h' news → Q (.bool (!isName nm || (hasB body 10 || hasB body 13))) {s with heap := h', toks := tk'}) :
   wpAny (model prog w) (Tp none dp un gd cn cs L a ccd cl []) (call (.ref 214) [.bytes nm.toArray t1, .bytes body.toArray t2]) Q E s := by
  refine wpAny_call ?_
  k_dflt (refine' enterT (br := [(Str.ofString "body", .bytes body.toArray t2), (Str.ofString "name", .bytes nm.toArray t1)]) ?k1 ?k2 ?k3 ?k4 ?k5 ?kA ?kF ?kK ?k6 ?k7 ?k8 ?k9 ?kB ?kR ?_ ?c2 ?c3 ?c4 ?c5; (case kA => exact rfl); (case kF => exact rfl); (case kK => assumption); (case k1 => k_asm); (case k2 => k_asm); (case k3 => k_asm); (case k4 => k_asm); (case k5 => k_asm); (case k6 => k_is); (case k7 => k_is); (case k8 => ktr_room); (case k9 => first | exact BindsTo.of_eq rfl | exact binds_K (by k_in) rfl (by k_is) rfl rfl rfl); (case c2 => decide); (case kB => exact locs rfl); (case kR => exact rfl); (case c3 => exact rfl); (case c4 => exact rfl); (case c5 => exact rfl); k_whole)
  intro g1 L1 h1 tk1 gk1 F1 B1 X1 T1
  have N1 : News g1 L1 h1 [] := News.nil
  dsimp only [kstB] at F1
  have hH1 : HdOk none g1 := HdOk.none _
  try dsimp only
  try k_fold

  walk_at "steps2"
  · have e : (!isName nm || (hasB body 10 || hasB body 13)) = false := by rw [naX, n10, n13]; rfl
    rw [e] at ret
    exact ⟨Turn.of_keeps F'.keep, fun F2 N2 => ret _ _ F2 N2⟩
  · have e : (!isName nm || (hasB body 10 || hasB body 13)) = true := by
      rcases naX with q | q | q <;> rw [q] <;> simp
    rw [e] at ret
    refine caughtW xB xF XB TB rfl rX rfl fun h' g' T' F' Nk K' X' TP' R' => ?_
    walk_at "steps2"
    rename Fr _ _ _ _ => F5
    exact ⟨Turn.of_kts T' F5.keep, fun F2 N2 => ret _ _ F2 N2⟩

end

end Part_S9

section Part_S10

section
variable {prog p : Program} {w : World} {loose : List Str} {mean : ExcName → Option Value} {mg mb : Str → Option Value}
  {hdl : Option Value} {dp un : Nat} {gd : Option (List Code)} {cn : Str} {cs : Scope} {a : Addr} {ccd : Value} {cl : List (Str × Addr)} {outer : List Env} {A₀ : Around} {base h₀ : Heap} {L : Addr} {m : Str → Option Value} {news : List (Addr × Obj)} {s : Shared} {Q E : Value → Shared → Prop}

theorem newsOver {gg h' : Heap} {L' : Addr} {led : List (Addr × Obj)} {h₀ : Heap} {L : Addr} {m : Str → Option Value} {news : List (Addr × Obj)} (N' : News gg L' h' led) (F : Fr h₀ L gg m) (N : News h₀ L gg news) (k : ∀ b o, gg.get? b = some o → h'.get? b = some o) : News h₀ L h' (led ++ news) := fun q hq => by
  rcases List.mem_append.mp hq with hq | hq
  · obtain ⟨oL, _, _, hL, _⟩ := F.ns
    refine ⟨(N' q hq).1, fun e => ?_, ?_⟩
    · have := (N' q hq).2.2
      rw [e, hL] at this
      cases this
    · cases z : h₀.get? q.1 with
      | none => rfl
      | some o => have := (N' q hq).2.2; rw [F.keep _ _ z] at this; cases this
  · exact ⟨k _ _ (N q hq).1, (N q hq).2⟩
set_option maxHeartbeats 8000000 in
theorem field_new_spec {nm raw : List UInt8} {t1 t2 : Tok} (B : Below A₀ base outer h₀) (F : Fr h₀ L s.heap m) (X : (Mine.hd.heap_39 w.params).In h₀) (N : News h₀ L s.heap news) (T : Top p loose mean mg mb h₀) (hk : cs.kind = .function) (hdp : dp + 4 < recursionLimit) (hu : un + 32 < cLine) (hH : HdOk hdl s.heap)
   (ret : ∀ x dx e1 e2 k1 k2 h' tk', Fr h₀ L h' m → News h₀ L h' ((x, instObj 93 dx) :: (dx, fieldD e1 e2 k1 k2 t1 t2 nm raw) :: news) → (∀ q ∈ news, x ≠ q.1) → (∀ q ∈ news, dx ≠ q.1) → Q (.ref x) {s with heap := h', toks := tk'}) :
   wpAny (model prog w) (Tp hdl dp un gd cn cs L a ccd cl outer) (call (.ref 93) [.bytes nm.toArray t1, .bytes raw.toArray t2]) Q E s := by
  obtain ⟨h, g, d, t, os⟩ := s
  have X1 : (Mine.hd.heap_39 w.params).In h := X.keeps F.keep
  refine wpAny_call (make_core (rest := [.bytes nm.toArray t1, .bytes raw.toArray t2]) (kw := []) (makes_of X1 (by k_is)) (looks_findIn X1 (by k_is)) (fun self => bind_fn X1 self (by k_is)) (.inl rfl) ?_)
  have hx : ((h.push emptyDict).push (instObj 93 h.objs.size)).get? (h.objs.size + 1) = some (instObj 93 h.objs.size) := by heap_get
  have ht : ((h.push emptyDict).push (instObj 93 h.objs.size)).get? h.objs.size = some emptyDict := Heap.get?_push_of_some _ (Heap.get?_push_at rfl rfl)
  have k : ∀ b o, h.get? b = some o → ((h.push emptyDict).push (instObj 93 h.objs.size)).get? b = some o := fun b o e => Heap.get?_push_of_some _ (Heap.get?_push_of_some _ e)
  generalize hh2 : (h.push emptyDict).push (instObj 93 h.objs.size) = h2 at hx ht k ⊢
  have hsz : h2.objs.size = h.objs.size + 2 := by rw [← hh2]; simp [Heap.size_push]
  have hn : h.get? (h.objs.size + 1) = none := Heap.get?_none_of_le (Nat.le_succ _)
  have hn0 : h.get? h.objs.size = none := Heap.get?_none_of_le (Nat.le_refl _)
  have hzy : h.objs.size < h.objs.size + 1 := Nat.lt_succ_self _
  generalize hy : h.objs.size + 1 = y at hx hn hzy ⊢
  generalize hz : h.objs.size = z at hx ht hn0 hzy ⊢
  refine enterQ (gg := h) (br := [(Str.ofString "raw", .bytes raw.toArray t2), (Str.ofString "name", .bytes nm.toArray t1), (Str.ofString "self", .ref y)]) (led := [(y, instObj 93 z), (z, emptyDict)]) B F X T rfl rfl hk k (by rw [hsz]; omega) ?_ (by k_is) (by k_is) ?_ (BindsTo.of_eq rfl) (locs rfl) rfl ?_
  · intro q hq
    rcases List.mem_cons.mp hq with rfl | hq
    · exact ⟨hx, hn⟩
    · rw [List.mem_singleton.mp hq]
      exact ⟨ht, hn0⟩
  · show dp + 1 < recursionLimit
    omega
  · intro L1 h1 tk1 F1 N1 B1 X1 T1
    dsimp only [kstB] at F1
    try dsimp only
    try k_fold
    walk_at "steps"
    rename News _ _ _ _ => N5
    rename Fr _ _ _ _ => F5
    have F2 := F.keptAll F5.keep
    refine ⟨rfl, ret y z _ _ _ _ _ _ F2 (newsOver N5 F N F5.keep) (fun q hq e => ?_) (fun q hq e => ?_)⟩
    · have := (N q hq).1
      dsimp only at this
      rw [← e, hn] at this
      cases this
    · have := (N q hq).1
      dsimp only at this
      rw [← e, hn0] at this
      cases this

end

end Part_S10

section Part_S11

set_option hygiene false in
local macro_rules | `(tactic| walk_at "call ref") => `(tactic| (k_here; (with_reducible show wpAny _ _ (call (Value.ref 168) _) _ _ _); (rename Fr _ _ _ _ => xF); (rename Below _ _ _ _ => xB); k_dflt (refine' folded_spec xB xF (by assumption) ?k4 (by assumption) ?kK ?kd ?ku ?kg ?ka ?kb ?_ ?krse; (case kg => first | exact .inl rfl | exact .inr ⟨rfl, rfl, rfl⟩); (case k4 => k_asm); (case kK => first | exact rfl | assumption); (case kd => ktr_room); (case ku => ktr_units); (case ka => walk_at "ar"); (case kb => walk_at "ar"); (case' krse => intro naX eX hX tkX rX); rotate_left); intro naX n10 n13 foT h' tk' F' N'; walk_at "c3"))

set_option hygiene false in
local macro_rules | `(tactic| walk_at "call ref") => `(tactic| (k_here; (with_reducible show wpAny _ _ (call (Value.ref 93) _) _ _ _); k_dflt (refine' field_new_spec ?k1 ?k2 ?k3 ?k4 ?k5 ?kK ?kd ?ku ?kH ?_; walk_at "c8"; (case kH => walk_at "hd"); k_whole); intro fnX fnD fnE fnF fnK fnL h' tk' F' N' fnA fnB; (try simp only [List.forall_mem_cons, List.not_mem_nil, false_implies, implies_true, and_true] at fnA fnB); walk_at "c3"))

section
variable {prog p : Program} {w : World} {loose : List Str} {mean : ExcName → Option Value} {mg mb : Str → Option Value}
  {hdl : Option Value} {dp un : Nat} {gd : Option (List Code)} {cn : Str} {cs : Scope} {a : Addr} {ccd : Value} {cl : List (Str × Addr)} {outer : List Env} {A₀ : Around} {base h₀ : Heap} {L : Addr} {m : Str → Option Value} {news : List (Addr × Obj)} {s : Shared} {Q E : Value → Shared → Prop}

noncomputable def rawOf (nm body : List UInt8) (width : Int) : List UInt8 := cut (foldedL nm body width) (some ((nm.length : Int) + 1)) (some (((foldedL nm body width).length : Int) - 2))
theorem foldedL_len (nm body : List UInt8) (width : Int) : (foldedL nm body width).length ≤ nm.length + 3 * body.length + 10 := by
  have h := fold_row (nm := nm) (B := stripL body) (width := width) (i := (mores (pieces (stripL body))).length) (ls := (foldAll nm body width).1) (row := (foldAll nm body width).2) (by rw [List.take_length]; rfl)
  have hj := joinL_len [13, 10] (foldRows nm body width)
  have hst := stripL_len body
  unfold foldRows at hj
  unfold foldedL foldRows
  simp only [List.flatten_append, List.length_append, List.flatten_cons, List.flatten_nil, List.append_nil, List.length_cons, List.length_nil] at hj ⊢
  omega
set_option maxHeartbeats 8000000 in
theorem made_field_spec {nm body : List UInt8} {t1 t2 t3 : Tok} {width : Int} (B : Below A₀ base outer h₀) (F : Fr h₀ L s.heap m) (X : (Mine.hd.heap_39 w.params).In h₀) (N : News h₀ L s.heap news) (T : Top p loose mean mg mb h₀) (hk : cs.kind = .function) (hdp : dp + 8 < recursionLimit) (hu : un + 64 < cLine) (hl : nm.length ≤ 100000) (hl' : body.length ≤ 100000) (hn : isName nm = true) (h10 : hasB body 10 = false) (h13 : hasB body 13 = false)
   (ret : ∀ x dx e1 e2 k1 k2 u1 u2 h' tk', Fr h₀ L h' m → News h₀ L h' ((x, instObj 93 dx) :: (dx, fieldD e1 e2 k1 k2 u1 u2 nm (rawOf nm body width)) :: news) → (∀ q ∈ news, x ≠ q.1) → (∀ q ∈ news, dx ≠ q.1) → Q (.ref x) {s with heap := h', toks := tk'}) :
   wpAny (model prog w) (Tp none dp un gd cn cs L a ccd cl outer) (call (.ref 176) [.bytes nm.toArray t1, .bytes body.toArray t2, .int width t3]) Q E s := by
  refine wpAny_call ?_
  k_dflt (refine' enterP (br := [(Str.ofString "width", .int width t3), (Str.ofString "body", .bytes body.toArray t2), (Str.ofString "name", .bytes nm.toArray t1)]) ?k1 ?k2 ?k3 ?k4 ?k5 ?kA ?kF ?kK ?k6 ?k7 ?k8 ?k9 ?kB ?kR ?_ ?c2 ?c3 ?c4 ?c5; (case kA => exact rfl); (case kF => exact rfl); (case kK => assumption); (case k1 => k_asm); (case k2 => k_asm); (case k3 => k_asm); (case k4 => k_asm); (case k5 => k_asm); (case k6 => k_is); (case k7 => k_is); (case k8 => ktr_room); (case k9 => first | exact BindsTo.of_eq rfl | exact binds_K (by k_in) rfl (by k_is) rfl rfl rfl); (case c2 => decide); (case kB => exact locs rfl); (case kR => exact rfl); (case c3 => exact rfl); (case c4 => exact rfl); (case c5 => exact rfl); k_whole)
  intro g1 L1 h1 tk1 gk1 gk2 F1 N1 B1 X1 T1
  dsimp only [kstB] at F1
  have hH1 : HdOk none g1 := HdOk.none _
  try dsimp only
  try k_fold

  have hfl := foldedL_len nm body width
  walk_at "steps2"
  · exact leave2 F' N' fun F2 N2 D1 D2 => ret _ _ _ _ _ _ _ _ _ _ F2 N2 D1 D2
  · rw [hn, h10, h13] at naX
    rcases naX with q | q | q <;> cases q

end

end Part_S11

section Part_S12

set_option hygiene false in
local macro_rules | `(tactic| walk_at "ar") => `(tactic| (with_reducible refine Nat.le_trans (cut_len _ _ _) ?_; first | with_reducible assumption | decide | omega))

section
variable {prog p : Program} {w : World} {loose : List Str} {mean : ExcName → Option Value} {mg mb : Str → Option Value}
  {hdl : Option Value} {dp un : Nat} {gd : Option (List Code)} {cn : Str} {cs : Scope} {a : Addr} {ccd : Value} {cl : List (Str × Addr)} {outer : List Env} {A₀ : Around} {base h₀ : Heap} {L : Addr} {m : Str → Option Value} {news : List (Addr × Obj)} {s : Shared} {Q E : Value → Shared → Prop}

noncomputable def colonIn (l : List UInt8) (i j : Int) : Int :=
  if 0 ≤ findI l 58 i.toNat j.toNat ∧ isName (cut l (some i) (some (findI l 58 i.toNat j.toNat))) = true then findI l 58 i.toNat j.toNat else -1
set_option maxHeartbeats 8000000 in
theorem colon_in_spec {l : List UInt8} {i j : Int} {t t1 t2 : Tok} (B : Below A₀ base outer h₀) (F : Fr h₀ L s.heap m) (X : (Mine.hd.heap_39 w.params).In h₀) (N : News h₀ L s.heap news) (T : Top p loose mean mg mb h₀) (hk : cs.kind = .function) (hdp : dp + 2 < recursionLimit) (hu : un + 16 < cLine) (hH : HdOk hdl s.heap) (hl : l.length ≤ 16777215) (hi : 0 ≤ i) (hj : 0 ≤ j) (hj2 : j ≤ (l.length : Int))
   (ret : ∀ t h' tk', Fr h₀ L h' m → News h₀ L h' news → Q (.int (colonIn l i j) t) {s with heap := h', toks := tk'}) :
   wpAny (model prog w) (Tp hdl dp un gd cn cs L a ccd cl outer) (call (.ref 118) [.bytes l.toArray t, .int i t1, .int j t2]) Q E s := by
  refine wpAny_call ?_
  k_dflt (refine' enterP (br := [(Str.ofString "end", .int j t2), (Str.ofString "at", .int i t1), (Str.ofString "data", .bytes l.toArray t)]) ?k1 ?k2 ?k3 ?k4 ?k5 ?kA ?kF ?kK ?k6 ?k7 ?k8 ?k9 ?kB ?kR ?_ ?c2 ?c3 ?c4 ?c5; (case kA => exact rfl); (case kF => exact rfl); (case kK => assumption); (case k1 => k_asm); (case k2 => k_asm); (case k3 => k_asm); (case k4 => k_asm); (case k5 => k_asm); (case k6 => k_is); (case k7 => k_is); (case k8 => ktr_room); (case k9 => first | exact BindsTo.of_eq rfl | exact binds_K (by k_in) rfl (by k_is) rfl rfl rfl); (case c2 => decide); (case kB => exact locs rfl); (case kR => exact rfl); (case c3 => exact rfl); (case c4 => exact rfl); (case c5 => exact rfl); k_whole)
  intro g1 L1 h1 tk1 gk1 gk2 F1 N1 B1 X1 T1
  dsimp only [kstB] at F1
  have hH1 : HdOk hdl g1 := hH.keeps gk1
  try dsimp only
  try k_fold

  walk_at "steps"
  all_goals (
    subst fE
    (try dsimp only)
    rename Fr _ _ _ _ => F2
    refine leave0 F2 fun F5 N5 => ?_)
  · have e : colonIn l i j = findI l 58 i.toNat j.toNat := by
      unfold colonIn
      rw [if_pos ⟨by assumption, by assumption⟩]
    rw [← e]
    exact ret _ _ _ F5 N5
  · have e : colonIn l i j = -1 := by
      unfold colonIn
      rw [if_neg fun q => ?_]
      have q2 : isName (cut l (some i) (some (findI l 58 i.toNat j.toNat))) = false := by assumption
      rw [q.2] at q2
      cases q2
    rw [e] at ret
    exact ret _ _ _ F5 N5
  · have e : colonIn l i j = -1 := by
      unfold colonIn
      rw [if_neg fun q => absurd q.1 (by omega)]
    rw [e] at ret
    exact ret _ _ _ F5 N5

end

end Part_S12

section Part_S13

set_option hygiene false in
local macro_rules | `(tactic| walk_at "call ref") => `(tactic| (k_here; (with_reducible show wpAny _ _ (call (Value.ref 104) _) _ _ _); k_dflt (refine' line_at_spec ?k1 ?k2 ?k3 ?k4 ?k5 ?kK ?kd ?ku ?kH ?ka ?kb ?kc ?ke ?_; walk_at "c8"; (case kH => walk_at "hd"); (case ka => walk_at "ar"); (case kb => walk_at "ar"); (case kc => walk_at "ar"); (case ke => walk_at "ar"); k_whole); intro laA laT laU h' tk' F' N' laD; (try simp only [List.forall_mem_cons, List.not_mem_nil, false_implies, implies_true, and_true] at laD); walk_at "c3"))

set_option hygiene false in
local macro_rules | `(tactic| walk_at "call ref") => `(tactic| (k_here; (with_reducible show wpAny _ _ (call (Value.ref 93) _) _ _ _); k_dflt (refine' field_new_spec ?k1 ?k2 ?k3 ?k4 ?k5 ?kK ?kd ?ku ?kH ?_; walk_at "c8"; (case kH => walk_at "hd"); k_whole); intro fnX fnD fnE fnF fnK fnL h' tk' F' N' fnA fnB; (try simp only [List.forall_mem_cons, List.not_mem_nil, false_implies, implies_true, and_true] at fnA fnB); walk_at "c3"))

set_option hygiene false in
local macro_rules | `(tactic| walk_at "call ref") => `(tactic| (k_here; (with_reducible show wpAny _ _ (call (Value.ref 118) _) _ _ _); k_dflt (refine' colon_in_spec ?k1 ?k2 ?k3 ?k4 ?k5 ?kK ?kd ?ku ?kH ?ka ?kb ?kc ?ke ?_; walk_at "c8"; (case kH => walk_at "hd"); (case ka => walk_at "ar"); (case kb => walk_at "ar"); (case kc => walk_at "ar"); (case ke => walk_at "ar"); k_whole); intro ciT h' tk' F' N'; walk_at "c3"))

set_option hygiene false in
local macro_rules | `(tactic| walk_at "ar") => `(tactic| (with_reducible refine Nat.le_trans (cut_len _ _ _) ?_; first | with_reducible assumption | decide | omega))

section
variable {prog p : Program} {w : World} {loose : List Str} {mean : ExcName → Option Value} {mg mb : Str → Option Value}
  {hdl : Option Value} {dp un : Nat} {gd : Option (List Code)} {cn : Str} {cs : Scope} {a : Addr} {ccd : Value} {cl : List (Str × Addr)} {outer : List Env} {A₀ : Around} {base h₀ : Heap} {L : Addr} {m : Str → Option Value} {news : List (Addr × Obj)} {s : Shared} {Q E : Value → Shared → Prop}

theorem leaveL {h₀ g : Heap} {L L' : Addr} {m m' : Str → Option Value} {news led : List (Addr × Obj)} {R : Result → Shared → Prop} {v : Value} {s' : Shared} (F' : Fr g L' s'.heap m') (N' : News g L' s'.heap led)
    (k : Fr h₀ L s'.heap m → News h₀ L s'.heap (led ++ news) → (∀ p ∈ led.map (·.1), ∀ q ∈ news, p ≠ q.1) → R (.ok (.ret v)) s') : LeaveN h₀ L m news g R v s' :=
  ⟨L', m', led, F', N', fun a b c => k a b fun p hp q hq => let ⟨x, hx, e⟩ := List.mem_map.mp hp; e ▸ c x hx q hq⟩
theorem lineAt_moves {l : List UInt8} {i : Int} (h0 : 0 ≤ i) (h1 : i < l.length) : i < (lineAt l i l.length).2 := by
  unfold lineAt
  split
  · dsimp only; omega
  · rename_i h
    have h2 : i ≤ findI l 10 i.toNat (l.length : Int).toNat := by
      unfold findI at h ⊢
      cases q : findB l 10 i.toNat (l.length : Int).toNat with
      | none => rw [q] at h; exact absurd (by decide) h
      | some k =>
        obtain ⟨a, _⟩ := findB_spec q
        dsimp only
        omega
    split <;> (dsimp only; omega)
/-- the end of a field's last row: the rows that begin with white are taken -/
noncomputable def contF : Nat → List UInt8 → Int × Int → Int × Int
  | 0, _, p => p
  | n + 1, l, p => if p.2 < l.length ∧ white (l.getD p.2.toNat 0) = true then contF n l (lineAt l p.2 l.length) else p
theorem contF_stop {l : List UInt8} {p : Int × Int} (h : ¬ (p.2 < l.length ∧ white (l.getD p.2.toNat 0) = true)) : ∀ n, contF n l p = p
  | 0 => rfl
  | n + 1 => by unfold contF; rw [if_neg h]
theorem contF_fuel {l : List UInt8} : ∀ (n m : Nat) (p : Int × Int), 0 ≤ p.2 → p.2 ≤ l.length → l.length ≤ n + p.2.toNat → l.length ≤ m + p.2.toNat → contF n l p = contF m l p
  | 0, m, p, h0, h1, h2, _ => by
    show p = contF m l p
    exact (contF_stop (fun q => by omega) m).symm
  | n + 1, 0, p, h0, h1, _, h3 => contF_stop (fun q => by omega) (n + 1)
  | n + 1, m + 1, p, h0, h1, h2, h3 => by
    unfold contF
    split
    · rename_i h
      have hb := lineAt_bounds (l := l) (i := p.2) (j := l.length) h0 (by omega)
      have hm := lineAt_moves h0 h.1
      exact contF_fuel n m _ (by omega) (by omega) (by omega) (by omega)
    · rfl
theorem nameNews {g h : Heap} {L x : Addr} {o : Obj} {r : List (Addr × Obj)} (N : News g L h ((x, o) :: r)) : ∃ y, y = x ∧ News g L h ((y, o) :: r) := ⟨x, rfl, N⟩
theorem contF_step {n : Nat} {l : List UInt8} {p : Int × Int} (h : p.2 < l.length ∧ white (l.getD p.2.toNat 0) = true) : contF (n + 1) l p = contF n l (lineAt l p.2 l.length) := if_pos h
structure SpS where
  fin : Bool
  i : Int
  n : Nat
  t : Tok
  e1 : Int
  e2 : Int
  k1 : Tok
  k2 : Tok
  u1 : Tok
  u2 : Tok
  u3 : Tok
  u4 : Tok
  a1 : Addr
  a2 : Addr
  a3 : Addr
structure LS where
  la : Int
  lt : Int
  t1 : Tok
  t2 : Tok
set_option maxHeartbeats 8000000 in
theorem read_spans_spec {l : List UInt8} {c last : Int} {t t1 t2 : Tok} (B : Below A₀ base outer h₀) (F : Fr h₀ L s.heap m) (X : (Mine.hd.heap_39 w.params).In h₀) (N : News h₀ L s.heap news) (T : Top p loose mean mg mb h₀) (hk : cs.kind = .function) (hdp : dp + 6 < recursionLimit) (hu : un + 48 < cLine) (hH : HdOk hdl s.heap) (hl : l.length ≤ 16777215) (h0 : 0 < l.length)
   (hc : colonIn l 0 (lineAt l 0 l.length).1 = c) (hc0 : 0 ≤ c) (hla : (lineAt l 0 l.length).1 ≠ 0) (hend : contF l.length l (lineAt l 0 l.length) = (last, (l.length : Int))) (hlast : 0 ≤ last)
   (ret : ∀ ta rl a3 a1 a2 n e1 e2 k1 k2 u1 u2 u3 u4 u5 h' tk', Fr h₀ L h' m →
      News h₀ L h' ((ta, tupObj [.ref rl, .int l.length u5]) :: (rl, listOf #[.ref a3] n) :: (a3, tupObj [.ref a1, .int 0 u3, .int l.length u4]) :: (a1, instObj 93 a2) :: (a2, fieldD e1 e2 k1 k2 u1 u2 (cut l (some 0) (some c)) (cut l (some (c + 1)) (some last))) :: news) →
      (∀ p ∈ [ta, rl, a3, a1, a2], ∀ q ∈ news, p ≠ q.1) → Q (.ref ta) {s with heap := h', toks := tk'}) :
   wpAny (model prog w) (Tp hdl dp un gd cn cs L a ccd cl outer) (call (.ref 126) [.bytes l.toArray t, .int 0 t1, .int (-1) t2]) Q E s := by
  refine wpAny_call ?_
  k_dflt (refine' enterP (br := [(Str.ofString "end", .int (-1) t2), (Str.ofString "at", .int 0 t1), (Str.ofString "data", .bytes l.toArray t)]) ?k1 ?k2 ?k3 ?k4 ?k5 ?kA ?kF ?kK ?k6 ?k7 ?k8 ?k9 ?kB ?kR ?_ ?c2 ?c3 ?c4 ?c5; (case kA => exact rfl); (case kF => exact rfl); (case kK => assumption); (case k1 => k_asm); (case k2 => k_asm); (case k3 => k_asm); (case k4 => k_asm); (case k5 => k_asm); (case k6 => k_is); (case k7 => k_is); (case k8 => ktr_room); (case k9 => first | exact BindsTo.of_eq rfl | exact binds_K (by k_in) rfl (by k_is) rfl rfl rfl); (case c2 => decide); (case kB => exact locs rfl); (case kR => exact rfl); (case c3 => exact rfl); (case c4 => exact rfl); (case c5 => exact rfl); k_whole)
  intro g1 L1 h1 tk1 gk1 gk2 F1 N1 B1 X1 T1
  dsimp only [kstB] at F1
  have hH1 : HdOk hdl g1 := hH.keeps gk1
  try dsimp only
  try k_fold

  walk_at "steps"
  rename News _ _ _ _ => N2
  rename Fr _ _ _ _ => F2
  obtain ⟨lst, rfl, N2⟩ := nameNews N2
  generalize hF : (cut l (some 0) (some c)) = nm at ret
  generalize hR : (cut l (some (c + 1)) (some last)) = raw at ret
  refine' ksw_while (σ := SpS) (fun c => if c.fin then [(lst, listOf [Value.ref c.a3].toArray c.n), (c.a3, tupObj [.ref c.a1, .int 0 c.u3, .int l.length c.u4]), (c.a1, instObj 93 c.a2), (c.a2, fieldD c.e1 c.e2 c.k1 c.k2 c.u1 c.u2 nm raw)] else [(lst, listOf ([] : List Value).toArray c.n)])
    (fun c => [(Str.ofString "here", .int c.i c.t)]) (fun _ => True) [Str.ofString "last", Str.ofString "later", Str.ofString "colon"]
    (fun c => c.i = if c.fin then (l.length : Int) else 0) (fun c => if c.fin then 0 else 1) ⟨false, 0, 0, _, 0, 0, 0, 0, 0, 0, 0, 0, 0, 0, 0⟩ F2 N2 trivial (by kst_all) rfl ?_
  rintro ⟨fin, i, n, t, e1, e2, k1, k2, u1, u2, u3, u4, a1, a2, a3⟩ u h tk _ hi F3 N3
  clear F2 N2
  dsimp only [kstB] at hi F3 N3 ⊢
  cases fin with
  | true =>
    simp only [if_true] at hi F3 N3 ⊢
    subst hi
    walk_at "steps"
    rename News _ _ _ _ => N5
    rename Fr _ _ _ _ => F5
    refine leaveL F5 N5 fun F6 N6 D6 => ?_
    exact ret _ _ _ _ _ _ _ _ _ _ _ _ _ _ _ _ _ F6 N6 D6
  | false =>
    simp only [Bool.false_eq_true, if_false] at hi F3 N3 ⊢
    subst hi
    have hB := lineAt_bounds (l := l) (i := 0) (j := l.length) (Int.le_refl _) (by omega)
    have hM := lineAt_moves (l := l) (i := 0) (Int.le_refl _) (by omega)
    walk_at "steps"
    · exact absurd (by assumption) hla
    · rename News _ _ _ _ => N4
      rename Fr _ _ _ _ => F4
      refine' ksw_while (σ := LS) (fun c => [(lst, listOf ([] : List Value).toArray n)]) (fun c => [(Str.ofString "last", .int c.la c.t1), (Str.ofString "later", .int c.lt c.t2)]) (fun _ => True) []
        (fun c => 0 ≤ c.la ∧ c.la ≤ l.length ∧ 0 ≤ c.lt ∧ c.lt ≤ l.length ∧ contF l.length l (c.la, c.lt) = (last, (l.length : Int))) (fun c => l.length - c.lt.toNat) ⟨_, _, _, _⟩ F4 (news_sub N4 (by kst_in)) trivial (by kst_all)
        ⟨hB.1, hB.2.1, hB.2.2.2.1, hB.2.2.1, hend⟩ ?_
      rintro ⟨la, lt, t3, t4⟩ u3 h3 tk3 _ ⟨hj0, hj1, hj2, hj3, hj4⟩ F4 N4
      dsimp only [kstB] at hj0 hj1 hj2 hj3 hj4 F4 N4 ⊢
      have hB2 := lineAt_bounds (l := l) (i := lt) (j := l.length) hj2 hj3
      have hM2 := lineAt_moves (l := l) (i := lt) hj2
      walk_at "steps"
      all_goals (try simp only [white_int] at *)
      all_goals (rename News _ _ _ _ => N5; rename Fr _ _ _ _ => F5; (try simp only [List.push_toArray, List.nil_append] at N5))
      · refine ksw_end (σ := LS) ⟨_, _, _, _⟩ F5 N5 (by kst_in) trivial (by kst_all) (by ksw_same) ⟨by dsimp only; omega, by dsimp only; omega, by dsimp only; omega, by dsimp only; omega, ?_⟩ (by dsimp only; omega)
        dsimp only
        rw [← hj4, contF_fuel l.length (l.length + 1) (la, lt) hj2 hj3 (by omega) (by omega)]
        rw [contF_step ⟨by assumption, by assumption⟩]
      all_goals (
        have hz : (la, lt) = (last, (l.length : Int)) := by
          rw [← hj4, contF_stop]
          rintro ⟨q1, q2⟩
          first
            | exact absurd q1 (by assumption)
            | exact absurd q1 (by dsimp only; omega)
            | (have q3 : white (l.getD lt.toNat 0) = false := by assumption
               dsimp only at q2
               rw [q3] at q2
               cases q2)
        obtain ⟨rfl, rfl⟩ : la = last ∧ lt = (l.length : Int) := by simpa using hz
        subst hc
        subst hF
        subst hR
        refine ksw_end (σ := SpS) ⟨true, _, _, _, _, _, _, _, _, _, _, _, _, _, _⟩ F5 N5 (by (dsimp only); (rw [if_pos rfl]); kst_in) trivial (by kst_all) (by ksw_same) rfl (Nat.zero_lt_one))

end

end Part_S13

section Part_S14

section
variable {prog : Program} {w : World} {A : Around} {E : Value → Shared → Prop} {s : Shared} {env : Env} {h₀ : Heap} {L l : Addr} {m : Str → Option Value} {news : List (Addr × Obj)} {vs : List Value} {n : Nat}
theorem comp_list {elt : Expr} {x : Str} {scope : Scope} {Q : Value → Shared → Prop} (Fv : Value → Value → Prop) (hH : HdOk A.handled s.heap) (F : Fr h₀ L s.heap m) (N : News h₀ L s.heap news) (hl : s.heap.IsList l vs.toArray) (hz : vs.length ≤ 16777216)
    (helt : ∀ C v s₃ m₃ E', v ∈ vs → Fr h₀ L s₃.heap m → News h₀ L s₃.heap news → s₃.heap.Ns (compEnv scope C env).locals m₃ → m₃ x = some v → wpAny (model prog w) A (eval elt (compEnv scope C env)) (fun y s₄ => Fv v y ∧ Keeps s₃ s₄) E' s₃)
    (done : ∀ D ys k h' tk, Paired Fv vs ys → Fr h₀ L h' m → News h₀ L h' ((D, listOf ys.toArray k) :: news) → (∀ q ∈ news, D ≠ q.1) → Q (.ref D) { s with heap := h', toks := tk }) :
    wpAny (model prog w) A (pyIter (.ref l)) (CompPost prog w A env scope x [] elt Q) E s := by
  have hlt : l < s.heap.objs.size := by obtain ⟨_, e, _⟩ := hl; exact Heap.lt_size e
  refine wpAny_pyIter_list hl ?_
  have hni : s.heap.objs.size ∉ hdA A.handled := fun hq => absurd (hdA_lt hH hq) (Nat.lt_irrefl _)
  have W := WL (prog := prog) (w := w) (A := A) s.heap.objs.size l (Nat.ne_of_lt hlt) hni vs.toArray
  have up : ∀ (h' : Heap), (∀ b o', b ∉ [s.heap.objs.size] → (s.heap.push { cls := .type "list_iterator", data := .fields #[.ref l, .int 0 0] }).get? b = some o' → h'.get? b = some o') → ∀ b o', s.heap.get? b = some o' → h'.get? b = some o' :=
    fun h' hk b o' e => hk b o' (fun hb => absurd (Heap.lt_size e) ((List.mem_singleton.mp hb) ▸ Nat.lt_irrefl _)) (Heap.get?_push_of_some _ e)
  refine ⟨fun _ => true, Fv, s.heap.objs.size, _, [s.heap.objs.size], vs.toArray.size, _, _, rfl, W, (by rw [List.size_toArray, sizeLine_eq]; exact hz),
    ⟨⟨_, Heap.get?_push_size _ rfl, rfl, rfl⟩, hl.at fun o e => Heap.get?_push_of_some _ e, hH.keeps fun b o e => Heap.get?_push_of_some _ e⟩, ?_, ⟨?_, ?_⟩, ?_⟩
  · intro b hb
    show b < (s.heap.push _).objs.size
    rw [Heap.size_push]
    rcases List.mem_cons.mp hb with rfl | hb
    · exact Nat.lt_succ_self _
    · rcases List.mem_cons.mp hb with rfl | hb
      · exact Nat.lt_succ_of_lt hlt
      · exact Nat.lt_succ_of_lt (hdA_lt hH hb)
  · intro C i v s₃ m₃ E' hP hn hm3 _ htk
    exact wpAny_pure ⟨rfl, s₃.heap, s₃.toks, rfl, fun _ _ e => e⟩
  · intro C i v s₃ m₃ E' hP hp hn hm3 hk htk
    refine helt C v s₃ m₃ E' (List.mem_of_getElem? (by simpa using hP)) (F.keeps (up _ fun b o' hb e => hk b o' hb e)) (N.grown (up _ fun b o' hb e => hk b o' hb e)) hn hm3
  · intro D h' tk ys vs' hnew hlD hplD hlen hP hF hk
    have e' : vs' = vs := by simpa using walked_is hlen hP
    subst e'
    rw [List.filter_eq_self.mpr (fun _ _ => rfl)] at hF
    obtain ⟨k, hD⟩ := hplD
    have hDL : D ≠ L := fun e => by
      obtain ⟨oL, _, _, hL, _⟩ := F.ns
      rw [e, Heap.get?_push_of_some _ hL] at hnew
      cases hnew
    have hD₀ : h₀.get? D = none := by
      cases z : h₀.get? D with
      | none => rfl
      | some o => rw [Heap.get?_push_of_some _ (F.keep _ _ z)] at hnew; cases hnew
    refine done D ys.toList k h' tk hF (F.keeps (up h' hk)) (fun q hq => ?_) (fun q hq e => ?_)
    · rcases List.mem_cons.mp hq with rfl | hq
      · exact ⟨by rw [Array.toArray_toList]; exact hD, hDL, hD₀⟩
      · exact N.grown (up h' hk) q hq
    · rw [e, Heap.get?_push_of_some _ (N q hq).1] at hnew
      cases hnew
end

set_option hygiene false in
local macro_rules | `(tactic| walk_at "call ref") => `(tactic| (k_here; (with_reducible show wpAny _ _ (call (Value.ref 126) _) _ _ _); k_dflt (refine' read_spans_spec ?k1 ?k2 ?k3 ?k4 ?k5 ?kK ?kd ?ku ?kH ?ka ?kb ?kc ?ke ?kf ?kg ?ki ?_; walk_at "c8"; (case kH => walk_at "hd"); (case ka => walk_at "ar"); (case kb => walk_at "ar"); (case kc => assumption); (case ke => walk_at "ar"); (case kf => assumption); (case kg => assumption); (case ki => walk_at "ar"); k_whole); intro rsA rsL rsT rsX rsD rsN rsE rsF rsG rsH rsI rsJ rsK rsM rsO h' tk' F' N' rsDis; (try simp only [List.forall_mem_cons, List.not_mem_nil, false_implies, implies_true, and_true] at rsDis); walk_at "c3"))

section
variable {prog p : Program} {w : World} {loose : List Str} {mean : ExcName → Option Value} {mg mb : Str → Option Value}
  {hdl : Option Value} {dp un : Nat} {gd : Option (List Code)} {cn : Str} {cs : Scope} {a : Addr} {ccd : Value} {cl : List (Str × Addr)} {outer : List Env} {A₀ : Around} {base h₀ : Heap} {L : Addr} {m : Str → Option Value} {news : List (Addr × Obj)} {s : Shared} {Q E : Value → Shared → Prop}

set_option maxHeartbeats 8000000 in
theorem read_fields_spec {l : List UInt8} {c last : Int} {t : Tok} (B : Below A₀ base outer h₀) (F : Fr h₀ L s.heap m) (X : (Mine.hd.heap_39 w.params).In h₀) (N : News h₀ L s.heap news) (T : Top p loose mean mg mb h₀) (hk : cs.kind = .function) (hdp : dp + 8 < recursionLimit) (hu : un + 64 < cLine) (hH : HdOk hdl s.heap) (hl : l.length ≤ 16777215) (h0 : 0 < l.length)
   (hc : colonIn l 0 (lineAt l 0 l.length).1 = c) (hc0 : 0 ≤ c) (hla : (lineAt l 0 l.length).1 ≠ 0) (hend : contF l.length l (lineAt l 0 l.length) = (last, (l.length : Int))) (hlast : 0 ≤ last)
   (ret : ∀ ta rl a1 a2 n e1 e2 k1 k2 u1 u2 u5 h' tk', Fr h₀ L h' m →
      News h₀ L h' ((ta, tupObj [.ref rl, .int l.length u5]) :: (rl, listOf #[.ref a1] n) :: (a1, instObj 93 a2) :: (a2, fieldD e1 e2 k1 k2 u1 u2 (cut l (some 0) (some c)) (cut l (some (c + 1)) (some last))) :: news) →
      (∀ p ∈ [ta, rl, a1, a2], ∀ q ∈ news, p ≠ q.1) → Q (.ref ta) {s with heap := h', toks := tk'}) :
   wpAny (model prog w) (Tp hdl dp un gd cn cs L a ccd cl outer) (call (.ref 132) [.bytes l.toArray t]) Q E s := by
  refine wpAny_call ?_
  k_dflt (refine' enterP (binds := List.reverse [(Str.ofString "end", .int (-1) 352), (Str.ofString "at", .int 0 350), (Str.ofString "data", .bytes l.toArray t)]) (br := [(Str.ofString "end", .int (-1) 352), (Str.ofString "at", .int 0 350), (Str.ofString "data", .bytes l.toArray t)]) ?k1 ?k2 ?k3 ?k4 ?k5 ?kA ?kF ?kK ?k6 ?k7 ?k8 ?k9 ?kB ?kR ?_ ?c2 ?c3 ?c4 ?c5; (case kA => exact rfl); (case kF => exact rfl); (case kK => assumption); (case k1 => k_asm); (case k2 => k_asm); (case k3 => k_asm); (case k4 => k_asm); (case k5 => k_asm); (case k6 => k_is); (case k7 => k_is); (case k8 => ktr_room); (case k9 => first | exact BindsTo.of_eq rfl | exact binds_K (by k_in) rfl (by k_is) rfl rfl rfl); (case c2 => decide); (case kB => exact locs rfl); (case kR => exact rfl); (case c3 => exact rfl); (case c4 => exact rfl); (case c5 => exact rfl); k_whole)
  intro g1 L1 h1 tk1 gk1 gk2 F1 N1 B1 X1 T1
  dsimp only [kstB] at F1
  have hH1 : HdOk hdl g1 := hH.keeps gk1
  try dsimp only
  try k_fold

  walk_at "steps"
  have hH1' := HdOk.keeps hH1 (Fr.keep ‹Fr _ _ _ _›)
  rename News _ _ _ _ => N2
  rename Fr _ _ _ _ => F2
  refine comp_list (fun _ y => y = .ref rsX) hH1' F2 N2 (News.isList N2 (by k_mem)) (by simp) ?_ ?_
  · intro C v s₃ m₃ E' hv F3 N3 hn hm3
    rw [List.mem_singleton.mp hv] at hm3
    clear F2 N2
    walk_at "steps"
    exact ⟨_, _, rfl, fun _ _ e => e⟩
  · intro D ys k h' tk hp F3 N3 hD
    obtain ⟨y, rfl, rfl⟩ : ∃ y, ys = [y] ∧ y = .ref rsX := by
      cases hp with
      | cons h1 h2 => cases h2; exact ⟨_, rfl, h1⟩
    clear F2 N2
    walk_at "steps"
    rename News _ _ _ _ => N5
    rename Fr _ _ _ _ => F5
    obtain ⟨ta, rfl, N5⟩ := nameNews N5
    refine leaveL F5 (news_sub N5 (l' := [(ta, _), (D, _), (rsX, _), (rsD, _)]) (by kst_in)) fun F6 N6 D6 => ?_
    exact ret _ _ _ _ _ _ _ _ _ _ _ _ _ _ F6 N6 D6

end

end Part_S14

section Part_S15

section
variable {prog : Program} {w : World} {A : Around} {E : Value → Shared → Prop} {s : Shared} {env : Env} {h₀ : Heap} {x : Str} {body : List Stmt} {Q : Flow → Shared → Prop}
/-- a for over a list that stands in the base -/
theorem for_base {σ : Type} {l : Addr} {vs : List Value} {m₀ : Str → Option Value} (Led : σ → List (Addr × Obj)) (ps : σ → List (Str × Value)) (stored : List Str) (PP : Nat → σ → Prop) (c₀ : σ)
    (hH : HdOk A.handled h₀) (hl : h₀.IsList l vs.toArray) (F : Fr h₀ env.locals s.heap m₀) (N : News h₀ env.locals s.heap (Led c₀)) (hk : ∀ p ∈ ps c₀, m₀ p.1 = some p.2) (hp : PP 0 c₀)
    (turn : ∀ (c : σ) i v (u : Str → Option Value) h tk own, i < vs.length → vs[i]? = some v → OwnOff own ((Led c₀).map (·.1)) → PP i c →
      Fr h₀ env.locals h (fun y => if y = x then some v else kstB (fun z => if stored.contains z then u z else m₀ z) (ps c) y) → News h₀ env.locals h (Led c ++ own) →
      wpAny (model prog w) A (execs body env) (InvPostN h₀ env.locals (KstS Led ps (fun _ => True) x stored m₀ (fun _ c => PP (i + 1) c) []) own ((Led c₀).map (·.1)) { s with heap := h, toks := tk } Q) E { s with heap := h, toks := tk })
    (done : ∀ (c : σ) (u : Str → Option Value) h tk, PP vs.length c → Fr h₀ env.locals h (fun y => if y = x then u y else kstB (fun z => if stored.contains z then u z else m₀ z) (ps c) y) → News h₀ env.locals h (Led c) → Q .next { s with heap := h, toks := tk }) :
    wpAny (model prog w) A (pyIter (.ref l)) (fun it s₂ => LoopAtV prog w A h₀ env x body Q E it s₂) E s := by
  have hl0 := hl
  obtain ⟨ol, hol, hlr⟩ := hl
  have hls : s.heap.IsList l vs.toArray := ⟨ol, F.keep _ _ hol, hlr⟩
  refine wpAny_pyIter_list hls ?_
  have hnew := next_is_new F
  have hsz : h₀.objs.size ≤ s.heap.objs.size := Nat.le_of_lt (Nat.lt_of_le_of_lt F.above F.ns.lt)
  have hni : s.heap.objs.size ∉ hdA A.handled := fun hm => absurd (hdA_lt hH hm) (Nat.not_lt.mpr hsz)
  have hne : l ≠ s.heap.objs.size := Nat.ne_of_lt (Heap.lt_size (F.keep _ _ hol))
  have W := WL (prog := prog) (w := w) (A := A) s.heap.objs.size l hne hni vs.toArray
  rw [List.size_toArray] at W
  refine for_gen Led ps stored PP c₀ W ?_ hnew ?_ ?_ ⟨⟨_, Heap.get?_push_size _ rfl, rfl, rfl⟩, hls.at fun o e => Heap.get?_push_of_some _ e, hH.keeps fun b o e => Heap.get?_push_of_some _ (F.keep b o e)⟩ (F.push _) (fun p hp => ⟨Heap.get?_push_of_some _ (N p hp).1, (N p hp).2⟩) hk hp ?_ done
  · intro hm
    rcases List.mem_cons.mp hm with e | hm
    · exact absurd F.ns.lt (e ▸ Nat.lt_irrefl _)
    · rcases List.mem_cons.mp hm with e | hm
      · exact absurd (Heap.lt_size hol) (Nat.not_lt.mpr (e ▸ F.above))
      · exact absurd (hdA_lt hH hm) (Nat.not_lt.mpr F.above)
  · intro hm
    obtain ⟨q, hq, e⟩ := List.mem_map.mp hm
    exact absurd (Heap.lt_size (N q hq).1) (by rw [e]; exact Nat.lt_irrefl _)
  · intro b hb
    rcases List.mem_cons.mp hb with e | hb
    · exact .inl ⟨ol, e ▸ hol⟩
    · exact .inl (hdA_base hH b hb)
  · intro c i v u h tk own hi hv hoff hp' F' N'
    exact turn c i v u h tk own hi (by simpa using hv) hoff hp' F' N'
end
noncomputable def FieldAt (h : Heap) (x : Addr) (f : List UInt8 × List UInt8) : Prop := ∃ dx e1 e2 k1 k2 t1 t2, h.get? x = some (instObj 93 dx) ∧ h.get? dx = some (fieldD e1 e2 k1 k2 t1 t2 f.1 f.2)
theorem FieldAt.keeps {h h' : Heap} {x : Addr} {f : List UInt8 × List UInt8} (a : FieldAt h x f) (k : ∀ b o, h.get? b = some o → h'.get? b = some o) : FieldAt h' x f := by
  obtain ⟨dx, e1, e2, k1, k2, t1, t2, h1, h2⟩ := a
  exact ⟨dx, e1, e2, k1, k2, t1, t2, k _ _ h1, k _ _ h2⟩
theorem FieldAt.same {h : Heap} {x : Addr} {f f' : List UInt8 × List UInt8} (a : FieldAt h x f) (b : FieldAt h x f') : f = f' := by
  obtain ⟨dx, e1, e2, k1, k2, t1, t2, h1, h2⟩ := a
  obtain ⟨dx', e1', e2', k1', k2', t1', t2', h1', h2'⟩ := b
  rw [h1] at h1'
  have e : dx = dx' := by
    have := congrArg Obj.dict (Option.some.inj h1')
    exact Option.some.inj this
  subst e
  rw [h2] at h2'
  have e := congrArg Obj.data (Option.some.inj h2')
  obtain ⟨f1, f2⟩ := f
  obtain ⟨f1', f2'⟩ := f'
  simp only [fieldD, dictOf] at e
  simp at e
  simp [e]
inductive FieldsAre (h : Heap) : List Value → List (List UInt8 × List UInt8) → Prop
  | nil : FieldsAre h [] []
  | cons {x : Addr} {f : List UInt8 × List UInt8} {vs : List Value} {fs : List (List UInt8 × List UInt8)} : FieldAt h x f → FieldsAre h vs fs → FieldsAre h (.ref x :: vs) (f :: fs)
theorem FieldsAre.length {h : Heap} {vs : List Value} {fs : List (List UInt8 × List UInt8)} (a : FieldsAre h vs fs) : vs.length = fs.length := by
  induction a with
  | nil => rfl
  | cons _ _ ih => simp [ih]
theorem FieldsAre.get {h : Heap} {vs : List Value} {fs : List (List UInt8 × List UInt8)} (a : FieldsAre h vs fs) : ∀ {i : Nat} {v : Value}, vs[i]? = some v → ∃ x f, fs[i]? = some f ∧ v = .ref x ∧ FieldAt h x f := by
  induction a with
  | nil => intro i v e; cases e
  | @cons x f vs fs hx _ ih =>
    intro i v e
    cases i with
    | zero => simp at e; exact ⟨x, f, rfl, e.symm, hx⟩
    | succ i => simpa using ih (by simpa using e)
theorem FieldsAre.keeps {h h' : Heap} {vs : List Value} {fs : List (List UInt8 × List UInt8)} (a : FieldsAre h vs fs) (k : ∀ b o, h.get? b = some o → h'.get? b = some o) : FieldsAre h' vs fs := by
  induction a with
  | nil => exact .nil
  | cons hx _ ih => exact .cons (hx.keeps k) ih
noncomputable def fieldLine (f : List UInt8 × List UInt8) : List UInt8 := f.1 ++ [58] ++ f.2 ++ [13, 10]
theorem FieldsAre.bytes {h : Heap} {vs ys : List Value} {fs : List (List UInt8 × List UInt8)} (a : FieldsAre h vs fs) (p : Paired (fun v y => ∃ x f t, v = .ref x ∧ FieldAt h x f ∧ y = .bytes (fieldLine f).toArray t) vs ys) : BytesAre ys (fs.map fieldLine) := by
  induction a generalizing ys with
  | nil => cases p; exact .nil
  | cons hx _ ih =>
    cases p with
    | cons h1 h2 =>
      obtain ⟨x', f', t, e, hx', rfl⟩ := h1
      cases e
      rw [hx.same hx']
      exact .cons (ih h2)

set_option hygiene false in
local macro_rules | `(tactic| walk_at "subscriptTail Name Slice ref ref") => `(tactic| (k_here; (with_reducible show wpAny _ _ (subscriptTail _ (Expr.Slice (some _) none none _) (Value.ref _) (Value.ref _)) _ _ _); (with_reducible rename Fr _ _ _ _ => F'); (with_reducible rename News _ _ _ _ => N'); (refine listFrom (s := ⟨_, _, _, _, _⟩) (k := 1) F' N' (by k_mem) ?fa ?_); (case fa => walk_at "ar"); intro lA h' F' N' lD; (try simp only [List.forall_mem_cons, List.not_mem_nil, false_implies, implies_true, and_true] at lD); (try k_sweep)))
set_option hygiene false in
local macro_rules | `(tactic| walk_at "exec For Name Subscript cons nil") => `(tactic| (k_here; (rename Fr _ _ _ _ => lF'); (with_unfolding_all refine' For_invVF lF' ?k1 ?k2 ?_; (case k1 => exact rfl); (case k2 => exact rfl); k_whole)))
set_option hygiene false in
local macro_rules | `(tactic| walk_at "exec For Name Name cons nil") => `(tactic| (k_here; (rename Fr _ _ _ _ => lF'); (with_unfolding_all refine' For_invVF lF' ?k1 ?k2 ?_; (case k1 => exact rfl); (case k2 => exact rfl); k_whole)))

set_option hygiene false in
local macro_rules | `(tactic| walk_at "at") => `(tactic| first
  | with_reducible assumption
  | exact (News.get (by k_asm) (by k_mem))
  | exact (Fr.keep (by k_asm) _ _ (by with_reducible assumption))
  | exact (Fr.keep (by k_asm) _ _ (by assumption)))
set_option hygiene false in
local macro_rules | `(tactic| walk_at "call ref") => `(tactic| (k_here; (with_reducible show wpAny _ _ (call (Value.ref 183) _) _ _ _); k_dflt (refine' is_sound_spec ?k1 ?k2 ?k3 ?k4 ?k5 ?kK ?kd ?ku ?kH ?ka ?kb ?kx ?ky ?_; (case kx => walk_at "at"); (case ky => walk_at "at"); walk_at "c8"; (case kH => walk_at "hd"); (case ka => walk_at "ar"); (case kb => walk_at "ar"); k_whole); intro h' tk' F' N'; walk_at "c3"))

set_option hygiene false in
local macro_rules | `(tactic| walk_at "call ref") => `(tactic| (k_here; (with_reducible show wpAny _ _ (call (Value.ref 59) [_] []) _ _ _); (rename Fr _ _ _ _ => xF); (rename Below _ _ _ _ => xB); refine word_obj xB xF (by assumption) (by assumption) rfl ?kd ?ku ?_; (case kd => ((try simp only [depth_deeper, depth_caller]); omega)); (case ku => ((try simp only [depth_deeper, depth_caller]); omega)); intro hX tkX eX oX vsX kX nX hX1 cX dX zX1 zX2))
set_option hygiene false in
local macro_rules | `(tactic| walk_at "call ref") => `(tactic| (k_here; (with_reducible show wpAny _ _ (call (Value.ref 59) [_, _] []) _ _ _); (rename Fr _ _ _ _ => xF); (rename Below _ _ _ _ => xB); refine word_obj2 xB xF (by assumption) (by assumption) rfl ?kd ?ku ?_; (case kd => ((try simp only [depth_deeper, depth_caller]); omega)); (case ku => ((try simp only [depth_deeper, depth_caller]); omega)); intro hX tkX eX oX vsX kX nX hX1 cX dX zX1 zX2))

set_option hygiene false in
local macro_rules | `(tactic| walk_at "ar") => `(tactic| (with_reducible refine Nat.le_trans (cut_len _ _ _) ?_; first | with_reducible assumption | decide | omega))

set_option hygiene false in
local macro_rules | `(tactic| k_inst) => `(tactic| exact instKeeps (by assumption) (Fr.keep (by k_asm)))

section
variable {prog p : Program} {w : World} {loose : List Str} {mean : ExcName → Option Value} {mg mb : Str → Option Value}
  {hdl : Option Value} {dp un : Nat} {gd : Option (List Code)} {cn : Str} {cs : Scope} {a : Addr} {ccd : Value} {cl : List (Str × Addr)} {outer : List Env} {A₀ : Around} {base h₀ : Heap} {L : Addr} {m : Str → Option Value} {news : List (Addr × Obj)} {s : Shared} {Q E : Value → Shared → Prop}

set_option maxHeartbeats 8000000 in
theorem write_fields_spec {lx : Addr} {vs : List Value} {n : Nat} {fs : List (List UInt8 × List UInt8)} (B : Below A₀ base outer h₀) (F : Fr h₀ L s.heap m) (X : (Mine.hd.heap_39 w.params).In h₀) (N : News h₀ L s.heap news) (T : Top p loose mean mg mb h₀) (hk : cs.kind = .function) (hdp : dp + 6 < recursionLimit) (hu : un + 48 < cLine) (hlx : s.heap.get? lx = some (listOf vs.toArray n)) (hfs : FieldsAre s.heap vs fs)
   (hz : ∀ f ∈ fs, f.1.length ≤ 1000000 ∧ f.2.length ≤ 1000000) (hz2 : (joinL [] (fs.map fieldLine)).length ≤ 16777216) (hz3 : fs.length ≤ 1000)
   (ret : (∀ f ∈ fs, isSound f.1 f.2 = true) → ∀ t h' tk', Fr h₀ L h' m → News h₀ L h' news → Q (.bytes (joinL [] (fs.map fieldLine)).toArray t) {s with heap := h', toks := tk'})
   (rse : (∃ f ∈ fs, isSound f.1 f.2 = false) → ∀ e h' tk', Rsd s.heap (frs (envX cn cs L a ccd cl :: outer)) e .none h' → E (.ref e) {s with heap := h', toks := tk'}) :
   wpAny (model prog w) (Tp none dp un gd cn cs L a ccd cl outer) (call (.ref 188) [.ref lx]) Q E s := by
  refine wpAny_call ?_
  k_dflt (refine' enterP (br := [(Str.ofString "fields", .ref lx)]) ?k1 ?k2 ?k3 ?k4 ?k5 ?kA ?kF ?kK ?k6 ?k7 ?k8 ?k9 ?kB ?kR ?_ ?c2 ?c3 ?c4 ?c5; (case kA => exact rfl); (case kF => exact rfl); (case kK => assumption); (case k1 => k_asm); (case k2 => k_asm); (case k3 => k_asm); (case k4 => k_asm); (case k5 => k_asm); (case k6 => k_is); (case k7 => k_is); (case k8 => ktr_room); (case k9 => first | exact BindsTo.of_eq rfl | exact binds_K (by k_in) rfl (by k_is) rfl rfl rfl); (case c2 => decide); (case kB => exact locs rfl); (case kR => exact rfl); (case c3 => exact rfl); (case c4 => exact rfl); (case c5 => exact rfl); k_whole)
  intro g1 L1 h1 tk1 gk1 gk2 F1 N1 B1 X1 T1
  dsimp only [kstB] at F1
  have hH1 : HdOk none g1 := HdOk.none _
  try dsimp only
  try k_fold

  have hlx1 : g1.IsList lx vs.toArray := ⟨_, gk1 _ _ hlx, rfl, n, rfl⟩
  have hfs1 := hfs.keeps gk1
  have hlen := hfs.length
  walk_at "steps2"
  rename Fr _ _ _ _ => F1
  refine for_base (σ := Unit) (fun _ => []) (fun _ => []) [] (fun i _ => ∀ f ∈ fs.take i, isSound f.1 f.2 = true) () hH1 hlx1 F1 N1 (by simp) (by simp) ?_ ?_
  · intro c i v u h tk own hi hg hoff hP F2 N2
    clear F1 N1
    dsimp only [kstB] at F2
    simp only [List.contains_nil, Bool.false_eq_true, if_false, List.nil_append] at F2 N2
    obtain ⟨x, f, hf, rfl, hx⟩ := hfs1.get hg
    have hfz := hz f (List.mem_of_getElem? hf)
    obtain ⟨dx, e1, e2, k1, k2, t1, t2, hx1, hx2⟩ := hx
    walk_at "steps2"
    · rename Fr _ _ _ _ => F5
      rename News _ _ _ _ => N5
      exact kst_end () F5 N5 (by kst_in) (by intro q hq; simpa using hq) rfl trivial (by kst_all) (by kst_same) (by
        intro f' hf'
        rw [List.take_add_one, hf] at hf'
        rcases List.mem_append.mp hf' with z | z
        · exact hP f' z
        · rw [List.mem_singleton.mp z]
          assumption)
    · refine raise_word rfl X1 ?_
      walk_at "steps2"
      · exact kX _ _ (xF.keep _ _ (by assumption))
      · exact raise_leave xB xF rfl kX nX hX1 cX dX zX1 zX2 fun h' R => rse ⟨f, List.mem_of_getElem? hf, by assumption⟩ _ _ _ (Rsd.same R gk1)
  · intro c u h tk hP F2 N2
    clear F1 N1
    rw [hlen, List.take_length] at hP
    walk_at "steps2"
    rename News _ _ _ _ => N3
    rename Fr _ _ _ _ => F3
    have k3 := F3.keep
    refine comp_list (vs := vs) (fun v y => ∃ x f t, v = .ref x ∧ FieldAt g1 x f ∧ y = .bytes (fieldLine f).toArray t) (HdOk.none _) F3 N3 (hlx1.at fun o e => k3 _ _ e) (by rw [hlen]; omega) ?_ ?_
    · intro C v s₃ m₃ E' hv F4 N4 hn hm3
      obtain ⟨i, hi⟩ := List.mem_iff_getElem?.mp hv
      obtain ⟨x, f, hf, rfl, hx⟩ := hfs1.get hi
      have hfz := hz f (List.mem_of_getElem? hf)
      obtain ⟨dx, e1, e2, k1, k2, t1, t2, hx1, hx2⟩ := hx
      have I1 : InstAt g1 x (instObj 93 dx) 93 (some (fieldD e1 e2 k1 k2 t1 t2 f.1 f.2)) := ⟨hx1, rfl, rfl, hx2⟩
      walk_at "steps2"
      · exact ⟨dx, e1, e2, k1, k2, t1, t2, hx1, hx2⟩
      · exact ⟨_, _, rfl, fun _ _ e => e⟩
    · intro D ys k h' tk hp F4 N4 hD
      have hB := hfs1.bytes hp
      walk_at "steps2"
      rename Fr _ _ _ _ => F5
      refine leave0 F5 fun F6 N6 => ?_
      exact ret hP _ _ _ F6 N6

end

end Part_S15

section Lines_rules_app

set_option hygiene false in
local macro_rules | `(tactic| walk_at "getMethod ref") => `(tactic| (k_here; (with_reducible show wpAny _ _ (getMethod (Value.ref _) (PySem.Str.ofString "append") _) _ _ _); k_dflt (refine' listMethod_K ?N ?m PySem.F.slot_list_append PySem.F.type_list_append ?_; (case N => k_asm); (case m => k_mem))))
set_option hygiene false in
local macro_rules | `(tactic| walk_at "callWith") => `(tactic| (k_here; (with_reducible show wpAny _ _ (callWith _ (Value.builtin _) (_ :: _) (backTo _ (starEach (_ :: _) _)) []) _ _ _); (with_reducible refine' callWith_method1 ?_ ?he ?hp); (case he => exact rfl); (case hp => exact rfl)))

section Part_S16

section
variable {prog : Program} {w : World} {A₀ A : Around} {s : Shared} {base h₀ : Heap} {outer : List Env} {L : Addr} {m mg mb : Str → Option Value} {env : Env} {news : List (Addr × Obj)} {K : Frag} {p : Program} {loose : List Str} {mean : ExcName → Option Value}
  {R : Result → Shared → Prop} {name qual : Str} {params : Arguments} {body : List Stmt} {scope : Scope} {dV kV doc pm cdv ct oc : Value} {an od : Option Addr} {osl : Array (Option Value)} {f : Addr} {args : Args} {binds : List (Str × Value)}
noncomputable def LeaveM (h₀ : Heap) (L : Addr) (m : Str → Option Value) (gU : Obj → List (Addr × Obj)) (pl : Addr) (g : Heap) (R : Result → Shared → Prop) (v : Value) (s' : Shared) : Prop :=
  ∃ L' m' po', Fr g L' s'.heap m' ∧ News g L' s'.heap [(pl, po')] ∧ (Fr h₀ L s'.heap m → News h₀ L s'.heap (gU po') → R (.ok (.ret v)) s')
/-- entering a def that turns one object of the caller's ledger -/
theorem enterM (B : Below A₀ base outer h₀) (F : Fr h₀ L s.heap m) (X₀ : K.In h₀) (N : News h₀ L s.heap news) (T : Top p loose mean mg mb h₀) {pl : Addr} {po : Obj} {gU : Obj → List (Addr × Obj)} (U : UpdF pl po news gU)
    (hA : A.frames = some (env :: outer)) (hf : env.frame = some L) (hke : env.scope.kind = .function)
    (ho : K.lookup f = some ⟨oc, od, .func (fnOf name qual params body scope dV kV doc pm an cdv ct), osl⟩) (hcd : codeIn K cdv qual = true) (hroom : A.depth < recursionLimit)
    (hbind : BindsTo s (fnOf name qual params body scope dV kV doc pm an cdv ct) args binds) (hloc : ∀ y ∈ binds, scope.names.lookup y.1 = some .local) {br : List (Str × Value)} (hbr : binds.reverse = br)
    (h : ∀ g L' h₁ tk, Fr g L' h₁ (kstB (fun _ => none) br) → News g L' h₁ [(pl, po)] → Below A base (env :: outer) g → K.In g → Top p loose mean mg mb g →
      wpAny (model prog w) (A.deeper (envOf qual scope L' f cdv)) (execs body (envOf qual scope L' f cdv))
        (fun fl s' => LeaveM h₀ L m gU pl g R (match fl with | .ret v => v | _ => .none) s')
        (fun e s' => wpAny (model prog w) (A.deeper (envOf qual scope L' f cdv)) (leaving (envOf qual scope L' f cdv) e) (fun _ s'' => R (.error e) s'') (fun e' s'' => R (.error e') s'') s')
        { s with heap := h₁, toks := tk })
    (hcell : ∀ x ∈ scope.names, x.2 ≠ .cell := by decide) (hco : scope.isCoroutine = false := by rfl) (hgen : scope.isGenerator = false := by rfl) (hk : scope.kind = .function := by rfl) : codeAny (model prog w) A (.call (.ref f) args) R s := by
  obtain ⟨pre, post, e1, e2, d1, d2⟩ := U.split
  have hpl := N (pl, po) (by rw [e1]; exact List.mem_append_right _ (.head _))
  have N1 : News h₀ L s.heap [(pl, po)] := fun q hq => by rw [List.mem_singleton.mp hq]; exact hpl
  obtain ⟨FG, BG, st, _⟩ := groundX (R := R) B F N1 hA hf hke
  dsimp only [List.map] at FG BG st
  refine codeAny_call_def (fd := fnOf name qual params body scope dV kV doc pm an cdv ct) (body := body) (binds := binds) hroom ((X₀.keeps F.keep) _ _ ho) rfl (T.nolimit.keeps F.keep) (codeRec_of (X₀.keeps F.keep) hcd) rfl hbind hcell hloc (fun h₁ hns hk₁ => ?_) hco hgen hk
  have hns' : h₁.Ns s.heap.objs.size (kstB (fun _ => none) br) := by
    have e : kstB (fun _ => none) br = fun y => binds.reverse.lookup y := by
      funext y
      rw [hbr, lookup_kstB]
    rw [e]
    exact hns
  refine wpAny_mono (h (hideAll s.heap [pl]) s.heap.objs.size h₁ _ ⟨hns', fun b o e => hk₁ b o (of_hideAll _ e), Nat.le_of_eq (hideAll_size _ _)⟩ (fun q hq => ?_) BG (X₀.keeps st) (T.keeps st)) (fun fl s' hl => ?_) fun _ _ y => y
  · rw [List.mem_singleton.mp hq]
    exact ⟨hk₁ _ _ hpl.1, Nat.ne_of_lt (Heap.lt_size hpl.1), hideAll_none _ (.head _)⟩
  obtain ⟨L', m', po', F', N', k⟩ := hl
  have F2 : Fr h₀ L s'.heap m := FG.keptAll F'.keep
  refine k F2 fun q hq => ?_
  have old : ∀ q ∈ news, q.1 ≠ pl → s'.heap.get? q.1 = some q.2 ∧ q.1 ≠ L ∧ h₀.get? q.1 = none := fun q hq hne =>
    ⟨F'.keep _ _ (hideAll_get _ (N q hq).1 (fun z => hne (List.mem_singleton.mp z))), (N q hq).2⟩
  rw [e2] at hq
  rcases List.mem_append.mp hq with hq | hq
  · exact old q (by rw [e1]; exact List.mem_append_left _ hq) (d1 q hq)
  · rcases List.mem_cons.mp hq with rfl | hq
    · exact ⟨(N' _ (.head _)).1, hpl.2⟩
    · exact old q (by rw [e1]; exact List.mem_append_right _ (.tail _ hq)) (d2 q hq)
end
/-- values that hold these ints -/
inductive IntsL : List Value → List Int → Prop
  | nil : IntsL [] []
  | cons {k : Int} {t : Tok} {vs : List Value} {ks : List Int} : IntsL vs ks → IntsL (.int k t :: vs) (k :: ks)
theorem IntsL.length {vs : List Value} {ks : List Int} (h : IntsL vs ks) : vs.length = ks.length := by
  induction h with
  | nil => rfl
  | cons _ ih => simp [ih]
noncomputable def PoolOk (ks : List Int) : Prop := ks.length ≤ 24 ∧ ∀ k ∈ ks, 0 ≤ k ∧ k < 100000000000000000000000000000000000000000000000000000000000000000000000000000000

section
variable {prog : Program} {w : World} {A : Around} {E : Value → Shared → Prop} {s : Shared} {h₀ : Heap} {L a : Addr} {m : Str → Option Value} {news : List (Addr × Obj)} {vs : List Value} {n : Nat}
theorem lLen {Q : Value → Shared → Prop} (N : News h₀ L s.heap news) (hm : (a, listOf vs.toArray n) ∈ news) (hz : vs.length ≤ 16777216)
    (h : Q (.int (vs.length : Int) (s.toks + 1)) { s with toks := s.toks + 1 + 1 }) : wpAny (model prog w) A (call (.builtin "len") [.ref a]) Q E s := by
  refine len_list (items := vs.toArray) ⟨_, (N _ hm).1, rfl, n, rfl⟩ (by rw [List.size_toArray]; omega) ?_
  rw [List.size_toArray]
  exact h
theorem lPop0 {x : Value} {u : Tok} {Q : Value → Shared → Prop} (F : Fr h₀ L s.heap m) (N : News h₀ L s.heap [(a, listOf (x :: vs).toArray n)]) (hz : vs.length ≤ 1000)
    (h : ∀ h', Fr h₀ L h' m → News h₀ L h' [(a, listOf vs.toArray (n + 1))] → Q x { s with heap := h' }) : wpAny (model prog w) A (call (.builtin "list.pop") [.ref a, .int 0 u]) Q E s := by
  refine kl_popAt (its := (x :: vs).toArray) (p := []) (q := vs) (k := 0) F N (by decide) ?_ rfl (Upd.head fun _ h => nomatch h) ?_ h
  · rw [List.size_toArray, List.length_cons]
    unfold seqIndex?
    simp
  · rw [sizeLine_eq]
    show (x :: vs).length ≤ _
    rw [List.length_cons]
    omega
theorem lItem0 {value slice : PySem.Expr} {x : Value} {u : Tok} {Q : Value → Shared → Prop} (N : News h₀ L s.heap news) (hm : (a, listOf (x :: vs).toArray n) ∈ news) (h : Q x s)
    (hs : subscripted slice false (.ref a) (.int 0 u) = operate [.ref a, .int 0 u] (getItem (.ref a) (.int 0 u)) := by with_unfolding_all rfl) (hg : ∀ r, letTemporaryGo value (.ref a) r = pure () := by intro _; with_unfolding_all rfl) :
    wpAny (model prog w) A (subscriptTail value slice (.ref a) (.int 0 u)) Q E s :=
  item_listL (l := x :: vs) ⟨_, (N _ hm).1, rfl, n, rfl⟩ (by decide) (by decide) rfl h hs hg
end

set_option hygiene false in
local macro_rules | `(tactic| walk_at "call builtin:len") => `(tactic| (k_here; (with_reducible show wpAny _ _ (call (Value.builtin "len") [Value.ref _]) _ _ _); refine' lLen ?fN ?fm ?fa ?_; (case fN => k_asm); (case fm => k_mem); (case fa => walk_at "ar")))
set_option hygiene false in
local macro_rules | `(tactic| walk_at "call builtin:list.pop") => `(tactic| (k_here; (with_reducible show wpAny _ _ (call (Value.builtin "list.pop") [Value.ref _, Value.int 0 _]) _ _ _); (with_reducible rename Fr _ _ _ _ => F'); (with_reducible rename News _ _ _ _ => N'); refine lPop0 F' N' ?fa ?_; (case fa => walk_at "ar"); intro h' F' N'; (try k_sweep)))
set_option hygiene false in
local macro_rules | `(tactic| walk_at "subscriptTail") => `(tactic| (k_here; (with_reducible show wpAny _ _ (subscriptTail _ _ (Value.ref _) (Value.int 0 _)) _ _ _); refine' lItem0 ?fN ?fm ?_; (case fN => k_asm); (case fm => k_mem)))

section
variable {prog p : Program} {w : World} {loose : List Str} {mean : ExcName → Option Value} {mg mb : Str → Option Value}
  {hdl : Option Value} {dp un : Nat} {gd : Option (List Code)} {cn : Str} {cs : Scope} {a : Addr} {ccd : Value} {cl : List (Str × Addr)} {outer : List Env} {A₀ : Around} {base h₀ : Heap} {L : Addr} {m : Str → Option Value} {news : List (Addr × Obj)} {s : Shared} {Q E : Value → Shared → Prop}

set_option maxHeartbeats 8000000 in
theorem law_take_spec {pl : Addr} {vs : List Value} {ks : List Int} {n : Nat} {many : Int} {t : Tok} {gU : Obj → List (Addr × Obj)} (B : Below A₀ base outer h₀) (F : Fr h₀ L s.heap m) (X : (Mine.hd.heap_39 w.params).In h₀) (N : News h₀ L s.heap news) (T : Top p loose mean mg mb h₀) (hk : cs.kind = .function) (hdp : dp + 2 < recursionLimit) (hu : un + 16 < cLine) (U : UpdF pl (listOf vs.toArray n) news gU) (hv : IntsL vs ks) (hks : PoolOk ks) (hm0 : 0 < many) (hm1 : many ≤ 1000)
   (ret : ∀ d t vs' ks' n' h' tk', 0 ≤ d → d < many → IntsL vs' ks' → PoolOk ks' → Fr h₀ L h' m → News h₀ L h' (gU (listOf vs'.toArray n')) → Q (.int d t) {s with heap := h', toks := tk'}) :
   wpAny (model prog w) (Tp none dp un gd cn cs L a ccd cl outer) (call (.ref 195) [.ref pl, .int many t]) Q E s := by
  refine wpAny_call ?_
  k_dflt (refine' enterM (gU := gU) (br := [(Str.ofString "many", .int many t), (Str.ofString "pool", .ref pl)]) ?k1 ?k2 ?k3 ?k4 ?k5 ?kU ?kA ?kF ?kK ?k6 ?k7 ?k8 ?k9 ?kB ?kR ?_ ?c2 ?c3 ?c4 ?c5; (case kU => exact U); (case kA => exact rfl); (case kF => exact rfl); (case kK => assumption); (case k1 => k_asm); (case k2 => k_asm); (case k3 => k_asm); (case k4 => k_asm); (case k5 => k_asm); (case k6 => k_is); (case k7 => k_is); (case k8 => ktr_room); (case k9 => first | exact BindsTo.of_eq rfl | exact binds_K (by k_in) rfl (by k_is) rfl rfl rfl); (case c2 => decide); (case kB => exact locs rfl); (case kR => exact rfl); (case c3 => exact rfl); (case c4 => exact rfl); (case c5 => exact rfl); k_whole)
  intro g1 L1 h1 tk1 F1 N1 B1 X1 T1
  dsimp only [kstB] at F1
  have hH1 : HdOk none g1 := HdOk.none _
  try dsimp only
  try k_fold

  obtain ⟨hlen, hks⟩ := hks
  cases hv with
  | nil =>
    walk_at "steps"
    dsimp only
    exact ⟨_, _, _, F1, N1, fun F2 N2 => ret _ _ [] [] _ _ _ (Int.le_refl _) hm0 .nil ⟨hlen, hks⟩ F2 N2⟩
  | @cons k tk vs ks hv =>
    have hl := hv.length
    have hk0 := hks k (.head _)
    rw [List.length_cons] at hlen
    have hl23 : vs.length ≤ 23 := by omega
    have hd0 : 0 ≤ k.fmod many := Int.fmod_nonneg hk0.1 (by omega)
    have hd1 : k.fmod many < many := Int.fmod_lt_of_pos _ hm0
    have hq0 : 0 ≤ k.fdiv many := Int.fdiv_nonneg hk0.1 (by omega)
    have hq1 : k.fdiv many ≤ k := by
      rw [Int.fdiv_eq_ediv_of_nonneg _ (by omega)]
      exact Int.ediv_le_self _ hk0.1
    walk_at "steps"
    · rename ((_ : Int) = 0) => hz
      rw [List.length_cons] at hz
      omega
    · rename Fr _ _ _ _ => F5
      rename News _ _ _ _ => N5
      dsimp only
      exact ⟨_, _, _, F5, N5, fun F2 N2 => ret _ _ vs ks _ _ _ hd0 hd1 hv ⟨by omega, fun q hq => hks q (.tail _ hq)⟩ F2 N2⟩
    · rename Fr _ _ _ _ => F5
      rename News _ _ _ _ => N5
      dsimp only
      exact ⟨_, _, _, F5, N5, fun F2 N2 => ret _ _ (_ :: vs) (_ :: ks) _ _ _ hd0 hd1 (.cons hv) ⟨by rw [List.length_cons]; omega, fun q hq => by
        rcases List.mem_cons.mp hq with rfl | hq
        · exact ⟨hq0, by omega⟩
        · exact hks q (.tail _ hq)⟩ F2 N2⟩

end

end Part_S16

section Part_S17

section
variable {prog : Program} {w : World} {A : Around} {E : Value → Shared → Prop} {s : Shared} {env : Env} {h₀ : Heap} {x : Str} {body : List Stmt} {Q : Flow → Shared → Prop}
theorem range_sz {N : Nat} : Builtin.Range.rangeSize 0 (N : Int) 1 = (N : Int) := by
  unfold Builtin.Range.rangeSize
  simp
  try omega
theorem range_small {N : Nat} (h : N ≤ 16777216) : Builtin.Range.small 0 (N : Int) 1 = true := by
  unfold Builtin.Range.small
  rw [range_sz]
  unfold Builtin.Range.rangeFitsLong
  simp
  omega
/-- a for whose state is σ over a range from 0 -/
theorem for_range {σ : Type} {r : Addr} {t u v : Tok} {b : Int} {N : Nat} {m₀ : Str → Option Value} (Led : σ → List (Addr × Obj)) (ps : σ → List (Str × Value)) (stored : List Str) (PP : Nat → σ → Prop) (c₀ : σ)
    (hh : A.handled = none) (hr : IsRange s.heap r 0 b 1 t u v) (hb : b = (N : Int)) (hN : N ≤ 16777216) (F : Fr h₀ env.locals s.heap m₀) (NN : News h₀ env.locals s.heap (Led c₀)) (hk : ∀ p ∈ ps c₀, m₀ p.1 = some p.2) (hp : PP 0 c₀)
    (turn : ∀ (c : σ) i t (u : Str → Option Value) h tk own, i < N → OwnOff own ((Led c₀).map (·.1)) → PP i c →
      Fr h₀ env.locals h (fun y => if y = x then some (.int (i : Int) t) else kstB (fun z => if stored.contains z then u z else m₀ z) (ps c) y) → News h₀ env.locals h (Led c ++ own) →
      wpAny (model prog w) A (execs body env) (InvPostN h₀ env.locals (KstS Led ps (fun _ => True) x stored m₀ (fun _ c => PP (i + 1) c) []) own ((Led c₀).map (·.1)) { s with heap := h, toks := tk } Q) E { s with heap := h, toks := tk })
    (done : ∀ (c : σ) (u : Str → Option Value) h tk, PP N c → Fr h₀ env.locals h (fun y => if y = x then u y else kstB (fun z => if stored.contains z then u z else m₀ z) (ps c) y) → News h₀ env.locals h (Led c) → Q .next { s with heap := h, toks := tk }) :
    wpAny (model prog w) A (pyIter (.ref r)) (fun it s₂ => LoopAtV prog w A h₀ env x body Q E it s₂) E s := by
  subst hb
  refine wpAny_pyIter_range hr (range_small hN) ?_
  rw [range_sz]
  have hnew := next_is_new F
  refine for_gen Led ps stored PP c₀ (LCg.range_walks (prog := prog) (w := w) (I := s.heap.objs.size) hh 0 N) ?_ hnew ?_ (fun b hb => nomatch hb) (by show IsRangeIter _ _ _ _ _; simpa using Heap.get?_push_size _ rfl) (F.push _) (fun p hp => ⟨Heap.get?_push_of_some _ (NN p hp).1, (NN p hp).2⟩) hk hp ?_ done
  · intro hm
    exact absurd F.ns.lt ((List.mem_singleton.mp hm) ▸ Nat.lt_irrefl _)
  · intro hm
    obtain ⟨q, hq, e⟩ := List.mem_map.mp hm
    exact absurd (Heap.lt_size (NN q hq).1) (by rw [e]; exact Nat.lt_irrefl _)
  · rintro c i v u h tk own hi ⟨t, rfl⟩ hoff hp' F' N'
    rw [Int.zero_add] at F'
    exact turn c i t u h tk own hi hoff hp' F' N'
end

section
variable {prog : Program} {w : World} {A : Around} {E : Value → Shared → Prop} {s : Shared}
theorem seqIdx_in {i : Int} {n : Nat} (h0 : 0 ≤ i) (h1 : i < n) : seqIndex? i n = some i.toNat := by
  unfold seqIndex?
  simp
  omega
noncomputable def octsOf : Value → List UInt8
  | .bytes b _ => b.toList
  | _ => []
theorem tItemB {value slice : PySem.Expr} {a : Addr} {vs : List Value} {i : Int} {u : Tok} {Q : Value → Shared → Prop} (hT : IsTup s.heap a vs.toArray) (hb : vs.all isBy = true) (h0 : 0 ≤ i) (h1 : i < (vs.length : Int)) (hz : vs.length ≤ 1000)
    (h : ∀ l t, l ∈ vs.map octsOf → Q (.bytes l.toArray t) s)
    (hs : subscripted slice false (.ref a) (.int i u) = operate [.ref a, .int i u] (getItem (.ref a) (.int i u)) := by with_unfolding_all rfl) :
    wpAny (model prog w) A (subscriptTail value slice (.ref a) (.int i u)) Q E s := by
  obtain ⟨v, hv⟩ : ∃ v, vs[i.toNat]? = some v := ⟨vs[i.toNat]'(by omega), List.getElem?_eq_getElem _⟩
  have hm := List.mem_of_getElem? hv
  obtain ⟨b, t, rfl⟩ := isBy_of hb v hm
  have := h b.toList t (List.mem_map.mpr ⟨_, hm, rfl⟩)
  rw [Array.toArray_toList] at this
  exact item_tupleT hT (by omega) (by omega) (seqIdx_in h0 h1) hv this hs
theorem bMul {c : UInt8} {n : Int} {t u : Tok} {Q : Value → Shared → Prop} (h0 : 0 ≤ n) (h1 : n ≤ 1000) (h : ∀ t' k, Q (.bytes (List.replicate n.toNat c).toArray t') { s with toks := k }) :
    wpAny (model prog w) A (binaryOp .Mult (.bytes [c].toArray t) (.int n u)) Q E s := by
  refine bytes_mul_any (b := [c]) (by simp) (by omega) (by omega) (by show 1 ≤ 16; decide) fun t' k => ?_
  have e : (List.replicate n.toNat [c]).flatten = List.replicate n.toNat c := by simp
  rw [e]
  exact h t' k
end

set_option hygiene false in
local macro_rules | `(tactic| walk_at "call builtin:len") => `(tactic| (k_here; (with_reducible show wpAny _ _ (call (Value.builtin "len") [Value.ref _]) _ _ _); refine' lLen ?fN ?fm ?fa ?_; (case fN => k_asm); (case fm => k_mem); (case fa => walk_at "ar")))
set_option hygiene false in
local macro_rules | `(tactic| walk_at "call builtin:list.pop") => `(tactic| (k_here; (with_reducible show wpAny _ _ (call (Value.builtin "list.pop") [Value.ref _, Value.int 0 _]) _ _ _); (with_reducible rename Fr _ _ _ _ => F'); (with_reducible rename News _ _ _ _ => N'); refine lPop0 F' N' ?fa ?_; (case fa => walk_at "ar"); intro h' F' N'; (try k_sweep)))
set_option hygiene false in
local macro_rules | `(tactic| walk_at "subscriptTail") => `(tactic| (k_here; (with_reducible show wpAny _ _ (subscriptTail _ _ (Value.ref _) (Value.int 0 _)) _ _ _); refine' lItem0 ?fN ?fm ?_; (case fN => k_asm); (case fm => k_mem)))

set_option hygiene false in
local macro_rules | `(tactic| walk_at "binaryOp Mult bytes int") => `(tactic| (k_here; (refine bMul ?fa ?fb ?_); (case fa => decide); (case fb => decide); intro _ _))
set_option hygiene false in
local macro_rules | `(tactic| walk_at "subscriptTail") => `(tactic| (k_here; (with_reducible show wpAny _ _ (subscriptTail _ _ (Value.ref _) (Value.int _ _)) _ _ _); k_dflt (refine' tItemB ?kT ?kb ?k0 ?k1 ?kz ?_; (case kT => walk_at "tup"); (case kb => exact rfl); (case k0 => walk_at "ar"); (case k1 => walk_at "ar"); (case kz => walk_at "ar")); intro tiL tiT tiM; (simp only [List.map_cons, List.map_nil, octsOf] at tiM)))

set_option hygiene false in
local macro_rules | `(tactic| walk_at "exec For Name Call cons nil") => `(tactic| (k_here; (rename Fr _ _ _ _ => lF'); (with_unfolding_all refine' For_invVF lF' ?k1 ?k2 ?_; (case k1 => exact rfl); (case k2 => exact rfl); k_whole)))
set_option hygiene false in
local macro_rules | `(tactic| walk_at "call ref") => `(tactic| (k_here; (with_reducible show wpAny _ _ (call (Value.ref 195) _) _ _ _); k_dflt (refine' law_take_spec ?k1 ?k2 ?k3 ?k4 ?k5 ?kK ?kd ?ku ?kU ?kv ?ko ?ka ?kb ?_; walk_at "c8"; (case kU => k_updF); (case kv => with_reducible assumption); (case ko => with_reducible assumption); (case ka => decide); (case kb => decide); k_whole); intro ltD ltT ltV ltK ltN h' tk' ltA ltB ltI ltP F' N'; (try dsimp only at N'); walk_at "c3"))

section
variable {prog p : Program} {w : World} {loose : List Str} {mean : ExcName → Option Value} {mg mb : Str → Option Value}
  {hdl : Option Value} {dp un : Nat} {gd : Option (List Code)} {cn : Str} {cs : Scope} {a : Addr} {ccd : Value} {cl : List (Str × Addr)} {outer : List Env} {A₀ : Around} {base h₀ : Heap} {L : Addr} {m : Str → Option Value} {news : List (Addr × Obj)} {s : Shared} {Q E : Value → Shared → Prop}

structure WS where
  pv : List Value
  pk : List Int
  pn : Nat
  vs : List Value
  ls : List (List UInt8)
  n : Nat
noncomputable abbrev wordOk (l : List UInt8) : Prop := l.length ≤ 80 ∧ ∀ c ∈ l, c ≠ 10 ∧ c ≠ 13
theorem wordsLen : ∀ {ls : List (List UInt8)}, (∀ l ∈ ls, wordOk l) → (joinL [] ls).length ≤ 80 * ls.length
  | [], _ => Nat.zero_le _
  | l :: ls, h => by
    have h1 := wordsLen (ls := ls) fun x hx => h x (.tail _ hx)
    have h2 := (h l (.head _)).1
    rw [joinL_nil] at h1 ⊢
    rw [List.flatten_cons, List.length_append, List.length_cons]
    omega
theorem wordsClean {ls : List (List UInt8)} (h : ∀ l ∈ ls, wordOk l) : ∀ c ∈ joinL [] ls, c ≠ 10 ∧ c ≠ 13 := by
  intro c hc
  rw [joinL_nil] at hc
  obtain ⟨l, hl, hcl⟩ := List.mem_flatten.mp hc
  exact (h l hl).2 c hcl
set_option maxHeartbeats 8000000 in
theorem law_words_spec {pl : Addr} {vs : List Value} {ks : List Int} {n : Nat} {gU : Obj → List (Addr × Obj)} (B : Below A₀ base outer h₀) (F : Fr h₀ L s.heap m) (X : (Mine.hd.heap_39 w.params).In h₀) (N : News h₀ L s.heap news) (T : Top p loose mean mg mb h₀) (hk : cs.kind = .function) (hdp : dp + 4 < recursionLimit) (hu : un + 32 < cLine) (U : UpdF pl (listOf vs.toArray n) news gU) (hv : IntsL vs ks) (hks : PoolOk ks)
   (ret : ∀ (l : List UInt8) t vs' ks' n' h' tk', l.length ≤ 1000 → (∀ c ∈ l, c ≠ 10 ∧ c ≠ 13) → IntsL vs' ks' → PoolOk ks' → Fr h₀ L h' m → News h₀ L h' (gU (listOf vs'.toArray n')) → Q (.bytes l.toArray t) {s with heap := h', toks := tk'}) :
   wpAny (model prog w) (Tp none dp un gd cn cs L a ccd cl outer) (call (.ref 202) [.ref pl]) Q E s := by
  refine wpAny_call ?_
  k_dflt (refine' enterM (gU := gU) (br := [(Str.ofString "pool", .ref pl)]) ?k1 ?k2 ?k3 ?k4 ?k5 ?kU ?kA ?kF ?kK ?k6 ?k7 ?k8 ?k9 ?kB ?kR ?_ ?c2 ?c3 ?c4 ?c5; (case kU => exact U); (case kA => exact rfl); (case kF => exact rfl); (case kK => assumption); (case k1 => k_asm); (case k2 => k_asm); (case k3 => k_asm); (case k4 => k_asm); (case k5 => k_asm); (case k6 => k_is); (case k7 => k_is); (case k8 => ktr_room); (case k9 => first | exact BindsTo.of_eq rfl | exact binds_K (by k_in) rfl (by k_is) rfl rfl rfl); (case c2 => decide); (case kB => exact locs rfl); (case kR => exact rfl); (case c3 => exact rfl); (case c4 => exact rfl); (case c5 => exact rfl); k_whole)
  intro g1 L1 h1 tk1 F1 N1 B1 X1 T1
  dsimp only [kstB] at F1
  have hH1 : HdOk none g1 := HdOk.none _
  try dsimp only
  try k_fold

  walk_at "steps"
  rename News _ _ _ _ => N2
  rename Fr _ _ _ _ => F2
  rename IsRange _ _ _ _ _ _ _ _ => R2
  obtain ⟨lst, rfl, N2⟩ := nameNews N2
  refine' for_range (σ := WS) (N := ltD.toNat) (fun c => [(lst, listOf c.vs.toArray c.n), (pl, listOf c.pv.toArray c.pn)]) (fun _ => []) []
    (fun i c => IntsL c.pv c.pk ∧ PoolOk c.pk ∧ BytesAre c.vs c.ls ∧ (∀ l ∈ c.ls, wordOk l) ∧ c.ls.length = i) ⟨ltV, ltK, ltN, [], [], 0⟩ rfl R2 (by omega) (by omega) F2 N2 (by kst_all) ⟨ltI, ltP, .nil, (fun _ h => nomatch h), rfl⟩ ?turn ?done
  case turn =>
    rintro ⟨pv, pk, pn, vs, ls, n⟩ i t u h tk own hi hoff ⟨hp1, hp2, hp3, hp4, hp5⟩ F3 N3
    clear F2 N2
    dsimp only [kstB] at hp1 hp2 hp3 hp4 hp5 F3 N3 ⊢
    dsimp only [List.map] at hoff
    simp only [List.contains_nil, Bool.false_eq_true, if_false, List.cons_append, List.nil_append] at F3 N3
    have hbl := hp3.length
    walk_at "steps"
    rename News _ _ _ _ => N5
    rename Fr _ _ _ _ => F5
    (simp only [List.push_toArray] at N5)
    have hwk : wordOk tiL := (by decide +kernel : ∀ l ∈ _, wordOk l) tiL tiM
    refine kst_end (σ := WS) ⟨ltV, ltK, ltN, vs ++ [.bytes tiL.toArray tiT], ls ++ [tiL], n + 1⟩ F5 N5 (by kst_in) (by intro q hq; simp [hq]) rfl trivial (by kst_all) (by kst_same) ⟨by with_reducible assumption, by with_reducible assumption, hp3.append .one, ?_, ?_⟩
    · intro l hl
      rcases List.mem_append.mp hl with hl | hl
      · exact hp4 l hl
      · rw [List.mem_singleton.mp hl]
        exact hwk
    · dsimp only
      rw [List.length_append, hp5]
      rfl
  case done =>
    rintro ⟨pv, pk, pn, vs, ls, n⟩ u h tk ⟨hp1, hp2, hp3, hp4, hp5⟩ F3 N3
    clear F2 N2
    dsimp only [kstB] at hp1 hp2 hp3 hp4 hp5 F3 N3 ⊢
    simp only [List.contains_nil, Bool.false_eq_true, if_false] at F3
    have hjl := wordsLen hp4
    have hbl := hp3.length
    walk_at "steps"
    exact ⟨_, _, _, F3, news_sub N3 (l' := [(pl, listOf pv.toArray pn)]) (by kst_in), fun F2 N2 => ret _ _ _ _ _ _ _ (by omega) (wordsClean hp4) hp1 hp2 F2 N2⟩

end

end Part_S17

section Part_P1

/-! the plain law, first part: lines -/
noncomputable def clean (r : List UInt8) : Prop := ∀ c ∈ r, c ≠ 10 ∧ c ≠ 13
theorem clean.append {a b : List UInt8} (h : clean a) (g : clean b) : clean (a ++ b) := fun c hc => (List.mem_append.mp hc).elim (h c) (g c)
theorem clean.sub {a b : List UInt8} (h : clean a) (g : ∀ c ∈ b, c ∈ a) : clean b := fun c hc => h c (g c hc)
theorem lineAt_row {l pre r post : List UInt8} (e : l = pre ++ (r ++ (13 :: 10 :: post))) (hr : clean r) : lineAt l pre.length l.length = ((pre.length : Int) + r.length, (pre.length : Int) + r.length + 2) := by
  have hlen : l.length = pre.length + (r.length + (post.length + 2)) := by rw [e]; simp only [List.length_append, List.length_cons]
  have g : ∀ j, pre.length ≤ j → l[j]? = (r ++ (13 :: 10 :: post))[j - pre.length]? := fun j hj => by rw [e, List.getElem?_append_right hj]
  have h13 : l[pre.length + r.length]? = some 13 := by
    rw [g _ (by omega), List.getElem?_append_right (by omega)]
    have : pre.length + r.length - pre.length - r.length = 0 := by omega
    rw [this]; rfl
  have h10 : l[pre.length + r.length + 1]? = some 10 := by
    rw [g _ (by omega), List.getElem?_append_right (by omega)]
    have : pre.length + r.length + 1 - pre.length - r.length = 1 := by omega
    rw [this]; rfl
  have hf : findB l 10 pre.length l.length = some (pre.length + r.length + 1) := by
    refine findB_of (by omega) (by omega) h10 fun j h1 h2 h3 => ?_
    by_cases hj : j = pre.length + r.length
    · rw [hj, h13] at h3; cases h3
    · rw [g _ h1, List.getElem?_append_left (by omega)] at h3
      exact (hr _ (List.mem_of_getElem? h3)).1 rfl
  have hi : findI l 10 (pre.length : Int).toNat (l.length : Int).toNat = (pre.length : Int) + r.length + 1 := by
    rw [Int.toNat_natCast, Int.toNat_natCast]
    unfold findI
    rw [hf]
    dsimp only
    omega
  unfold lineAt
  rw [hi, if_neg (by omega)]
  have hg : (l.getD ((pre.length : Int) + r.length + 1 - 1).toNat 0) = 13 := by
    have : ((pre.length : Int) + r.length + 1 - 1).toNat = pre.length + r.length := by omega
    rw [this, List.getD_eq_getElem?_getD, h13]
    rfl
  rw [hg, if_pos ⟨by omega, rfl⟩]
  refine Prod.ext ?_ ?_ <;> dsimp only <;> omega
theorem lineAt_last {l pre r : List UInt8} (e : l = pre ++ r) (hr : clean r) : lineAt l pre.length l.length = ((l.length : Int), (l.length : Int)) := by
  have hf : findB l 10 pre.length l.length = none := by
    refine findB_not fun j h1 h2 h3 => ?_
    rw [e, List.getElem?_append_right h1] at h3
    exact (hr _ (List.mem_of_getElem? h3)).1 rfl
  have hi : findI l 10 (pre.length : Int).toNat (l.length : Int).toNat = -1 := by
    rw [Int.toNat_natCast, Int.toNat_natCast]
    unfold findI
    rw [hf]
  unfold lineAt
  rw [hi, if_pos (by omega)]
theorem rowsF_join : ∀ (rows : List (List UInt8)) (pre l : List UInt8) (n : Nat), rows ≠ [] → (∀ r ∈ rows, clean r) → l = pre ++ joinL [13, 10] rows → l.length + 1 ≤ n + pre.length → rowsF n l pre.length = rows
  | [], _, _, _, h, _, _, _ => absurd rfl h
  | [r], pre, l, n, _, hc, e, hn => by
    have hlen : l.length = pre.length + r.length := by rw [e]; simp [joinL]
    obtain ⟨k, rfl⟩ : ∃ k, n = k + 1 := ⟨n - 1, by omega⟩
    unfold rowsF
    rw [lineAt_last e (hc r (.head _))]
    dsimp only
    rw [if_pos rfl, Int.toNat_natCast, Int.toNat_natCast, List.take_length, e]
    simp [joinL]
  | r :: r2 :: rest, pre, l, n, _, hc, e, hn => by
    have e' : l = pre ++ (r ++ (13 :: 10 :: joinL [13, 10] (r2 :: rest))) := by rw [e]; simp [joinL]
    have hlen := congrArg List.length e'
    simp only [List.length_append, List.length_cons] at hlen
    obtain ⟨k, rfl⟩ : ∃ k, n = k + 1 := ⟨n - 1, by omega⟩
    unfold rowsF
    rw [lineAt_row e' (hc r (.head _))]
    dsimp only
    rw [if_neg (by omega)]
    have h1 : ((pre.length : Int) + r.length + 2) = ((pre ++ (r ++ [13, 10])).length : Nat) := by simp only [List.length_append, List.length_cons, List.length_nil]; omega
    rw [h1, rowsF_join (r2 :: rest) (pre ++ (r ++ [13, 10])) l k (by simp) (fun q hq => hc q (.tail _ hq)) (by rw [e']; simp) (by simp only [List.length_append, List.length_cons, List.length_nil]; omega)]
    have h2 : ((pre.length : Int) + r.length).toNat = pre.length + r.length := by omega
    rw [h2, Int.toNat_natCast, e', List.take_append, List.take_of_length_le (by omega)]
    have h3 : pre.length + r.length - pre.length = r.length := by omega
    rw [h3, List.take_append, List.take_of_length_le (Nat.le_refl _)]
    simp
theorem rowsOf_join {rows : List (List UInt8)} (h : rows ≠ []) (hc : ∀ r ∈ rows, clean r) : rowsOf (joinL [13, 10] rows) = rows := by
  have := rowsF_join rows [] (joinL [13, 10] rows) ((joinL [13, 10] rows).length + 1) h hc rfl (by simp)
  exact this
theorem contF_rows : ∀ (rest : List (List UInt8)) (pre l : List UInt8) (n : Nat) (a : Int), (∀ r ∈ rest, clean r ∧ ∃ c t, r = c :: t ∧ white c = true) → l = pre ++ rest.flatMap (· ++ [13, 10]) → a = (pre.length : Int) - 2 → l.length ≤ n + pre.length → contF n l (a, pre.length) = ((l.length : Int) - 2, (l.length : Int))
  | [], pre, l, n, a, _, e, ha, _ => by
    have hl : l.length = pre.length := by rw [e]; simp
    rw [contF_stop (by dsimp only; omega), ha, hl]
  | r :: rest, pre, l, n, a, h, e, ha, hn => by
    obtain ⟨hc, c, t, hr, hw⟩ := h r (.head _)
    have e' : l = pre ++ (r ++ (13 :: 10 :: rest.flatMap (· ++ [13, 10]))) := by rw [e]; simp
    have hlen := congrArg List.length e'
    simp only [List.length_append, List.length_cons] at hlen
    obtain ⟨k, rfl⟩ : ∃ k, n = k + 1 := ⟨n - 1, by omega⟩
    have hg : l.getD (pre.length : Int).toNat 0 = c := by
      rw [Int.toNat_natCast, List.getD_eq_getElem?_getD, e', List.getElem?_append_right (Nat.le_refl _), Nat.sub_self, hr]
      rfl
    rw [contF_step ⟨by dsimp only; omega, by dsimp only; rw [hg]; exact hw⟩]
    dsimp only
    rw [lineAt_row e' hc]
    have h1 : ((pre.length : Int) + r.length + 2) = ((pre ++ (r ++ [13, 10])).length : Nat) := by simp only [List.length_append, List.length_cons, List.length_nil]; omega
    rw [h1]
    exact contF_rows rest (pre ++ (r ++ [13, 10])) l k _ (fun q hq => h q (.tail _ hq)) (by rw [e']; simp) (by simp only [List.length_append, List.length_cons, List.length_nil]; omega) (by simp only [List.length_append, List.length_cons, List.length_nil]; omega)
theorem joinL_flatMap : ∀ (rows : List (List UInt8)), rows ≠ [] → joinL [13, 10] rows ++ [13, 10] = rows.flatMap (· ++ [13, 10])
  | [], h => absurd rfl h
  | [r], _ => by simp [joinL]
  | r :: r2 :: rest, _ => by
    rw [List.flatMap_cons, ← joinL_flatMap (r2 :: rest) (by simp)]
    simp [joinL]
/-! split -/
noncomputable def spStep (l : List UInt8) (acc : List Nat × Nat) (i : Nat) : List Nat × Nat := if i ≥ acc.2 && l.toArray.extract i (i + 2) == #[13, 10] then (i :: acc.1, i + 2) else acc
theorem two_at {l : List UInt8} {i : Nat} : (l.toArray.extract i (i + 2) == #[13, 10]) = true ↔ l[i]? = some 13 ∧ l[i + 1]? = some 10 := by
  have e : l.toArray.extract i (i + 2) = ((l.drop i).take 2).toArray := by simp
  rw [e]
  have e2 : (((l.drop i).take 2).toArray == [13, 10].toArray) = ((l.drop i).take 2 == [13, 10]) := by rw [List.beq_toArray]
  have e3 : l[i]? = (l.drop i)[0]? := by simp
  have e4 : l[i + 1]? = (l.drop i)[1]? := by simp
  show (((l.drop i).take 2).toArray == [13, 10].toArray) = true ↔ _
  rw [e2, beq_iff_eq, e3, e4]
  match l.drop i with
  | [] => simp
  | [a] => simp
  | a :: b :: r => simp
theorem sp_none {l : List UInt8} : ∀ (k j : Nat) (acc : List Nat × Nat), (∀ i, j ≤ i → i < j + k → i < acc.2 ∨ ¬ (l[i]? = some 13 ∧ l[i + 1]? = some 10)) → (List.range' j k).foldl (spStep l) acc = acc
  | 0, _, _, _ => rfl
  | k + 1, j, acc, h => by
    rw [List.range'_succ, List.foldl_cons]
    have h1 : spStep l acc j = acc := by
      unfold spStep
      rw [if_neg]
      intro q
      rw [Bool.and_eq_true, two_at] at q
      rcases h j (Nat.le_refl _) (by omega) with z | z
      · have := of_decide_eq_true q.1
        omega
      · exact z q.2
    rw [h1]
    exact sp_none k (j + 1) acc fun i h1 h2 => h i (by omega) (by omega)
noncomputable def seps : Nat → List (List UInt8) → List Nat
  | _, [] => []
  | _, [_] => []
  | o, r :: r2 :: rest => (o + r.length) :: seps (o + r.length + 2) (r2 :: rest)
theorem sp_rows : ∀ (rows : List (List UInt8)) (pre l : List UInt8) (acc : List Nat × Nat), (∀ r ∈ rows, clean r) → l = pre ++ joinL [13, 10] rows → acc.2 ≤ pre.length → ((List.range' pre.length (l.length - pre.length)).foldl (spStep l) acc).1 = (seps pre.length rows).reverse ++ acc.1
  | [], pre, l, acc, _, e, _ => by
    have : l.length - pre.length = 0 := by rw [e]; simp [joinL]
    rw [this]; rfl
  | [r], pre, l, acc, hc, e, _ => by
    rw [sp_none]
    · rfl
    · refine fun i h1 h2 => .inr fun h3 => ?_
      have h4 := h3.1
      rw [e, List.getElem?_append_right h1] at h4
      exact (hc r (.head _) _ (List.mem_of_getElem? h4)).2 rfl
  | r :: r2 :: rest, pre, l, acc, hc, e, ha => by
    have e' : l = pre ++ (r ++ (13 :: 10 :: joinL [13, 10] (r2 :: rest))) := by rw [e]; simp [joinL]
    have hlen := congrArg List.length e'
    simp only [List.length_append, List.length_cons] at hlen
    have g : ∀ j, pre.length ≤ j → l[j]? = (r ++ (13 :: 10 :: joinL [13, 10] (r2 :: rest)))[j - pre.length]? := fun j hj => by rw [e', List.getElem?_append_right hj]
    have hsp : l.length - pre.length = r.length + (1 + (1 + (l.length - (pre.length + r.length + 2)))) := by omega
    rw [hsp, ← List.range'_append_1, List.foldl_append, sp_none r.length pre.length acc, ← List.range'_append_1, List.foldl_append, ← List.range'_append_1, List.foldl_append]
    · have h1 : (List.range' (pre.length + r.length) 1).foldl (spStep l) acc = ((pre.length + r.length) :: acc.1, pre.length + r.length + 2) := by
        show spStep l acc (pre.length + r.length) = _
        unfold spStep
        rw [if_pos]
        rw [Bool.and_eq_true, two_at]
        refine ⟨decide_eq_true (by omega), ?_, ?_⟩
        · rw [g _ (by omega), List.getElem?_append_right (by omega)]
          have : pre.length + r.length - pre.length - r.length = 0 := by omega
          rw [this]; rfl
        · rw [g _ (by omega), List.getElem?_append_right (by omega)]
          have : pre.length + r.length + 1 - pre.length - r.length = 1 := by omega
          rw [this]; rfl
      rw [h1, sp_none 1 _ _ (fun i h1 h2 => .inl (by dsimp only; omega))]
      have h3 : pre.length + r.length + 2 = (pre ++ (r ++ [13, 10])).length := by simp only [List.length_append, List.length_cons, List.length_nil]; omega
      show ((List.range' (pre.length + r.length + 2) (l.length - (pre.length + r.length + 2))).foldl (spStep l) ((pre.length + r.length) :: acc.1, pre.length + r.length + 2)).1 = _
      rw [h3, sp_rows (r2 :: rest) (pre ++ (r ++ [13, 10])) l _ (fun q hq => hc q (.tail _ hq)) (by rw [e']; simp) (Nat.le_refl _)]
      show _ = ((pre.length + r.length) :: seps (pre.length + r.length + 2) (r2 :: rest)).reverse ++ acc.1
      rw [h3, List.reverse_cons, List.append_assoc]
      rfl
    · refine fun i h1 h2 => .inr fun h3 => ?_
      have h4 := h3.1
      rw [g i h1, List.getElem?_append_left (by omega)] at h4
      exact (hc r (.head _) _ (List.mem_of_getElem? h4)).2 rfl
noncomputable def btStep (l : List UInt8) (x : Array (Array UInt8) × Nat) (p : Nat) : Array (Array UInt8) × Nat := (x.1.push (l.toArray.extract x.2 p), p + 2)
theorem bt_rows : ∀ (rows : List (List UInt8)) (pre l : List UInt8) (parts : Array (Array UInt8)), rows ≠ [] → l = pre ++ joinL [13, 10] rows →
    (((seps pre.length rows).foldl (btStep l) (parts, pre.length)).1.push (l.toArray.extract ((seps pre.length rows).foldl (btStep l) (parts, pre.length)).2 l.toArray.size)).toList.map (·.toList) = parts.toList.map (·.toList) ++ rows
  | [], _, _, _, h, _ => absurd rfl h
  | [r], pre, l, parts, _, e => by
    have : l.drop pre.length = r := by rw [e]; simp [joinL]
    have h2 : r.length = l.length - pre.length := by rw [← this, List.length_drop]
    simp [seps, this]
    rw [List.take_of_length_le (by omega)]
  | r :: r2 :: rest, pre, l, parts, _, e => by
    have e' : l = pre ++ (r ++ (13 :: 10 :: joinL [13, 10] (r2 :: rest))) := by rw [e]; simp [joinL]
    have h3 : pre.length + r.length + 2 = (pre ++ (r ++ [13, 10])).length := by simp only [List.length_append, List.length_cons, List.length_nil]; omega
    have h4 : l.toArray.extract pre.length (pre.length + r.length) = r.toArray := by
      have : (l.drop pre.length).take r.length = r := by rw [e']; simp
      simp [this]
    show (((seps pre.length (r :: r2 :: rest)).foldl (btStep l) (parts, pre.length)).1.push (l.toArray.extract ((seps pre.length (r :: r2 :: rest)).foldl (btStep l) (parts, pre.length)).2 l.toArray.size)).toList.map (·.toList) = _
    unfold seps
    rw [List.foldl_cons]
    have h5 : btStep l (parts, pre.length) (pre.length + r.length) = (parts.push r.toArray, pre.length + r.length + 2) := by unfold btStep; dsimp only; rw [h4]
    rw [h5, h3, bt_rows (r2 :: rest) (pre ++ (r ++ [13, 10])) l (parts.push r.toArray) (by simp) (by rw [e']; simp)]
    simp
theorem seps_len : ∀ (rows : List (List UInt8)) (o : Nat), (seps o rows).length ≤ (joinL [13, 10] rows).length
  | [], _ => Nat.zero_le _
  | [_], _ => Nat.zero_le _
  | r :: r2 :: rest, o => by
    have := seps_len (r2 :: rest) (o + r.length + 2)
    simp only [seps, joinL, List.length_cons, List.length_append, List.length_nil] at this ⊢
    omega
theorem splitC_join {rows : List (List UInt8)} (h : rows ≠ []) (hc : ∀ r ∈ rows, clean r) : splitC (joinL [13, 10] rows) = rows := by
  have h1 := sp_rows rows [] (joinL [13, 10] rows) ([], 0) hc rfl (Nat.zero_le _)
  have h2 := bt_rows rows [] (joinL [13, 10] rows) #[] h rfl
  have h3 := seps_len rows 0
  have ho : Bytes.occurrences (joinL [13, 10] rows).toArray #[13, 10] 0 (joinL [13, 10] rows).toArray.size = seps 0 rows := by
    have e : Bytes.occurrences (joinL [13, 10] rows).toArray #[13, 10] 0 (joinL [13, 10] rows).toArray.size = (((List.range ((joinL [13, 10] rows).length + 1 - (0 + 2))).map (· + 0)).foldl (spStep (joinL [13, 10] rows)) ([], 0)).1.reverse := rfl
    rw [e, show ((List.range ((joinL [13, 10] rows).length + 1 - (0 + 2))).map (· + 0)) = List.range ((joinL [13, 10] rows).length + 1 - (0 + 2)) from by simp]
    have h4 : (List.range ((joinL [13, 10] rows).length + 1 - (0 + 2))).foldl (spStep (joinL [13, 10] rows)) ([], 0) = (List.range' 0 ((joinL [13, 10] rows).length - 0)).foldl (spStep (joinL [13, 10] rows)) ([], 0) := by
      rw [List.range_eq_range', Nat.sub_zero]
      by_cases hz : (joinL [13, 10] rows).length = 0
      · rw [hz]
      · have h5 : (joinL [13, 10] rows).length = ((joinL [13, 10] rows).length + 1 - (0 + 2)) + 1 := by omega
        conv => rhs; rw [h5, ← List.range'_append_1, List.foldl_append]
        refine (sp_none 1 _ _ fun i h6 h7 => .inr fun h8 => ?_).symm
        have h9 := h8.2
        rw [List.getElem?_eq_none (by omega)] at h9
        cases h9
    rw [h4]
    have h5 : ((List.range' 0 ((joinL [13, 10] rows).length - 0)).foldl (spStep (joinL [13, 10] rows)) ([], 0)).1 = (seps 0 rows).reverse ++ [] := h1
    rw [h5, List.append_nil, List.reverse_reverse]
  unfold splitC
  rw [ho, List.take_of_length_le (by simp; omega)]
  exact h2

end Part_P1

section Part_P2

local macro_rules | `(tactic| walk_at "pad0") => `(tactic| fail)

/-! the plain law, second part: what folded makes -/
noncomputable def lawFirst (l : List UInt8) : List UInt8 := l.takeWhile white ++ (l.dropWhile white).takeWhile nonwhite
noncomputable def Piece (p : List UInt8) : Prop := ∃ a b, p = a ++ b ∧ a ≠ [] ∧ b ≠ [] ∧ (∀ c ∈ a, white c = true) ∧ (∀ c ∈ b, nonwhite c = true)
noncomputable def Whd (q : List UInt8) : Prop := ∀ c t, q = c :: t → white c = true
noncomputable def NoBegin (q : List UInt8) : Prop := ∀ c t, q = c :: t → nonwhite c = true
noncomputable def NoEnd (q : List UInt8) : Prop := ∀ c t, q = t ++ [c] → nonwhite c = true
theorem nonwhite_iff {c : UInt8} : nonwhite c = true ↔ white c = false := by
  unfold nonwhite
  cases white c <;> simp
theorem tw_all {p : UInt8 → Bool} : ∀ {a b : List UInt8}, (∀ c ∈ a, p c = true) → (a ++ b).takeWhile p = a ++ b.takeWhile p
  | [], _, _ => rfl
  | c :: a, b, h => by
    rw [List.cons_append, List.takeWhile_cons_of_pos (h c (.head _)), tw_all fun x hx => h x (.tail _ hx)]
    rfl
theorem dw_all {p : UInt8 → Bool} : ∀ {a b : List UInt8}, (∀ c ∈ a, p c = true) → (a ++ b).dropWhile p = b.dropWhile p
  | [], _, _ => rfl
  | c :: a, b, h => by
    rw [List.cons_append, List.dropWhile_cons_of_pos (h c (.head _)), dw_all fun x hx => h x (.tail _ hx)]
theorem tw_mem {p : UInt8 → Bool} : ∀ {a : List UInt8} {c : UInt8}, c ∈ a.takeWhile p → p c = true
  | [], _, h => by cases h
  | x :: a, c, h => by
    by_cases hx : p x = true
    · rw [List.takeWhile_cons_of_pos hx] at h
      rcases List.mem_cons.mp h with rfl | h
      · exact hx
      · exact tw_mem h
    · rw [List.takeWhile_cons_of_neg hx] at h
      cases h
theorem dw_head {p : UInt8 → Bool} : ∀ {a t : List UInt8} {c : UInt8}, a.dropWhile p = c :: t → p c = false
  | [], _, _, h => by cases h
  | x :: a, t, c, h => by
    by_cases hx : p x = true
    · rw [List.dropWhile_cons_of_pos hx] at h
      exact dw_head h
    · rw [List.dropWhile_cons_of_neg hx] at h
      cases h
      simpa using hx
theorem lawFirst_piece {p q : List UInt8} (h : Piece p) (hq : Whd q) : lawFirst (p ++ q) = p := by
  obtain ⟨a, b, rfl, ha, hb, h1, h2⟩ := h
  cases b with
  | nil => exact absurd rfl hb
  | cons x b =>
    have hx : white x = false := nonwhite_iff.mp (h2 x (.head _))
    unfold lawFirst
    rw [List.append_assoc, tw_all h1, dw_all h1]
    have e1 : ((x :: b) ++ q).takeWhile white = [] := by
      rw [List.cons_append, List.takeWhile_cons_of_neg (by rw [hx]; exact Bool.false_ne_true)]
    have e2 : ((x :: b) ++ q).dropWhile white = (x :: b) ++ q := by
      rw [List.cons_append, List.dropWhile_cons_of_neg (by rw [hx]; exact Bool.false_ne_true)]
    rw [e1, e2, tw_all h2, List.append_nil]
    have e3 : q.takeWhile nonwhite = [] := by
      cases q with
      | nil => rfl
      | cons c' t' =>
        rw [List.takeWhile_cons_of_neg]
        intro z
        rw [nonwhite_iff, hq c' t' rfl] at z
        cases z
    rw [e3, List.append_nil]
theorem Piece.whd {p q : List UInt8} (h : Piece p) : Whd (p ++ q) := by
  obtain ⟨a, b, rfl, ha, hb, h1, h2⟩ := h
  cases a with
  | nil => exact absurd rfl ha
  | cons x a =>
    intro c' t' e
    cases e
    exact h1 _ (.head _)
theorem Whd.glue {p q : List UInt8} (h : Whd q) (hp : Piece p) : Whd (q ++ p) := by
  cases q with
  | nil => simpa using hp.whd (q := [])
  | cons x q => intro c' t' e; cases e; exact h _ _ rfl
structure Folded (nm : List UInt8) (width : Int) (rows : List (List UInt8)) : Prop where
  ne : rows ≠ []
  first : ∀ r, rows[0]? = some r → ∃ q, r = nm ++ [58] ++ q ∧ Whd q ∧ (width < (r.length : Int) → q = [])
  later : ∀ i r, rows[i + 1]? = some r → ∃ p q, r = p ++ q ∧ Piece p ∧ Whd q ∧ (width < (r.length : Int) → q = [])
  room : ∀ i r r', rows[i]? = some r → rows[i + 1]? = some r' → width < (r.length : Int) + (lawFirst r').length
theorem get_snoc {α : Type} {rs : List α} {x r : α} {i : Nat} (h : (rs ++ [x])[i]? = some r) : (i < rs.length ∧ rs[i]? = some r) ∨ (i = rs.length ∧ r = x) := by
  rcases Nat.lt_trichotomy i rs.length with q | q | q
  · rw [List.getElem?_append_left q] at h
    exact .inl ⟨q, h⟩
  · subst q
    rw [List.getElem?_append_right (Nat.le_refl _), Nat.sub_self] at h
    cases h
    exact .inr ⟨rfl, rfl⟩
  · rw [List.getElem?_eq_none (by rw [List.length_append, List.length_singleton]; omega)] at h
    cases h
theorem snoc_old {α : Type} {rs : List α} {x r : α} {i : Nat} (h : rs[i]? = some r) : (rs ++ [x])[i]? = some r := by
  have hi : i < rs.length := by
    rcases Nat.lt_or_ge i rs.length with q | q
    · exact q
    · rw [List.getElem?_eq_none q] at h; cases h
  rw [List.getElem?_append_left hi]
  exact h
theorem snoc_new {α : Type} {rs : List α} {x : α} : (rs ++ [x])[rs.length]? = some x := by
  rw [List.getElem?_append_right (Nat.le_refl _), Nat.sub_self]
  rfl
theorem lawFirst_alone {p : List UInt8} (h : Piece p) : lawFirst p = p := by
  have := lawFirst_piece (q := []) h (fun _ _ e => by cases e)
  rwa [List.append_nil] at this
theorem fold_keeps {nm m : List UInt8} {width : Int} {st : List (List UInt8) × List UInt8} (F : Folded nm width (st.1 ++ [st.2])) (hm : Piece m) :
    Folded nm width ((foldStep width st m).1 ++ [(foldStep width st m).2]) := by
  obtain ⟨rs, row⟩ := st
  unfold foldStep
  dsimp only at F ⊢
  by_cases hw : width < (row.length : Int) + m.length
  · rw [if_pos hw]
    dsimp only
    refine ⟨by simp, fun r h => ?_, fun i r h => ?_, fun i r r' h h' => ?_⟩
    · rcases get_snoc h with ⟨_, h⟩ | ⟨h, _⟩
      · exact F.first r h
      · simp at h
    · rcases get_snoc h with ⟨_, h⟩ | ⟨_, rfl⟩
      · exact F.later i r h
      · exact ⟨_, [], by rw [List.append_nil], hm, (fun _ _ e => by cases e), fun _ => rfl⟩
    · rcases get_snoc h' with ⟨hi', h'⟩ | ⟨hi', rfl⟩
      · rcases get_snoc h with ⟨_, h⟩ | ⟨hi, _⟩
        · exact F.room i r r' h h'
        · omega
      · rcases get_snoc h with ⟨hi, h⟩ | ⟨hi, _⟩
        · rcases get_snoc h with ⟨hi2, _⟩ | ⟨_, rfl⟩
          · rw [List.length_append, List.length_singleton] at hi'
            omega
          · rw [lawFirst_alone hm]
            exact hw
        · omega
  · rw [if_neg hw]
    dsimp only
    have hlen : ¬ width < ((row ++ m).length : Int) := by rw [List.length_append]; omega
    refine ⟨by simp, fun r h => ?_, fun i r h => ?_, fun i r r' h h' => ?_⟩
    · rcases get_snoc h with ⟨_, h⟩ | ⟨hz, rfl⟩
      · exact F.first r (snoc_old h)
      · have hr : (rs ++ [row])[0]? = some row := hz ▸ snoc_new
        obtain ⟨q, e, hq, _⟩ := F.first row hr
        exact ⟨q ++ m, by rw [e, List.append_assoc], hq.glue hm, fun z => absurd z hlen⟩
    · rcases get_snoc h with ⟨_, h⟩ | ⟨hz, rfl⟩
      · exact F.later i r (snoc_old h)
      · have hr : (rs ++ [row])[i + 1]? = some row := hz ▸ snoc_new
        obtain ⟨p, q, e, hp, hq, _⟩ := F.later i row hr
        exact ⟨p, q ++ m, by rw [e, List.append_assoc], hp, hq.glue hm, fun z => absurd z hlen⟩
    · rcases get_snoc h' with ⟨hi', h'⟩ | ⟨hi', rfl⟩
      · rcases get_snoc h with ⟨_, h⟩ | ⟨hi, _⟩
        · exact F.room i r r' (snoc_old h) (snoc_old h')
        · omega
      · rcases get_snoc h with ⟨hi, h⟩ | ⟨hi, _⟩
        · have hr : (rs ++ [row])[i + 1]? = some row := by rw [hi']; exact snoc_new
          obtain ⟨p, q, e, hp, hq, _⟩ := F.later i row hr
          have h3 := F.room i r row (snoc_old h) hr
          rw [e, lawFirst_piece hp hq] at h3
          rw [e, List.append_assoc, lawFirst_piece hp (hq.glue hm)]
          exact h3
        · omega
theorem fold_all {nm : List UInt8} {width : Int} : ∀ (ms : List (List UInt8)) (st : List (List UInt8) × List UInt8), (∀ m ∈ ms, Piece m) → Folded nm width (st.1 ++ [st.2]) →
    Folded nm width ((ms.foldl (foldStep width) st).1 ++ [(ms.foldl (foldStep width) st).2])
  | [], _, _, F => F
  | m :: ms, st, h, F => by
    rw [List.foldl_cons]
    exact fold_all ms _ (fun x hx => h x (.tail _ hx)) (fold_keeps F (h m (.head _)))
/-! the pieces -/
theorem noEnd_suffix {a b : List UInt8} (h : NoEnd (a ++ b)) : NoEnd b := fun c t e => h c (a ++ t) (by rw [e, List.append_assoc])
theorem piece_rest {c : UInt8} {l : List UInt8} : (c :: l) = ((c :: l).takeWhile white ++ ((c :: l).dropWhile white).takeWhile nonwhite) ++ ((c :: l).dropWhile white).dropWhile nonwhite := by
  rw [List.append_assoc, span_join, span_join]
theorem word_ne {l : List UInt8} (hl : l ≠ []) (h : NoEnd l) : (l.dropWhile white).takeWhile nonwhite ≠ [] := by
  intro z
  have hd : l.dropWhile white = [] := by
    cases q : l.dropWhile white with
    | nil => rfl
    | cons x t =>
      rw [q, List.takeWhile_cons_of_pos (nonwhite_iff.mpr (dw_head q))] at z
      cases z
  have hj : l.takeWhile white = l := by
    have := span_join (p := white) l
    rw [hd, List.append_nil] at this
    exact this
  rcases List.eq_nil_or_concat l with e | ⟨t, x, e⟩
  · exact hl e
  · have h1 := h x t (by simpa using e)
    have h2 : x ∈ l.takeWhile white := by rw [hj, e]; simp
    rw [nonwhite_iff, tw_mem h2] at h1
    cases h1
theorem rest_whd {l : List UInt8} : Whd (l.dropWhile nonwhite) := fun c t e => by
  have := dw_head e
  unfold nonwhite at this
  simpa using this
theorem piecesF_good : ∀ (n : Nat) (l : List UInt8), Whd l → NoEnd l → ∀ p ∈ piecesF n l, Piece p
  | 0, l, _, _, p, h => by cases l <;> cases h
  | n + 1, [], _, _, p, h => by cases h
  | n + 1, c :: l, hw, he, p, h => by
    rcases List.mem_cons.mp h with rfl | h
    · refine ⟨_, _, rfl, ?_, word_ne (by simp) he, fun x hx => tw_mem hx, fun x hx => tw_mem hx⟩
      rw [List.takeWhile_cons_of_pos (hw c l rfl)]
      simp
    · refine piecesF_good n _ rest_whd ?_ p h
      have e := piece_rest (c := c) (l := l)
      rw [e] at he
      exact noEnd_suffix he
theorem mores_good {l : List UInt8} (hb : NoBegin l) (he : NoEnd l) : ∀ m ∈ mores (pieces l), Piece m := by
  cases l with
  | nil => intro m hm; cases hm
  | cons c l =>
    intro m hm
    have hc := hb c l rfl
    have hp : pieces (c :: l) = ((c :: l).takeWhile white ++ ((c :: l).dropWhile white).takeWhile nonwhite) :: piecesF l.length (((c :: l).dropWhile white).dropWhile nonwhite) := rfl
    rw [hp] at hm
    rcases List.mem_cons.mp hm with rfl | hm
    · have e1 : (c :: l).takeWhile white = [] := by
        rw [List.takeWhile_cons_of_neg]
        intro z
        rw [nonwhite_iff, z] at hc
        cases hc
      rw [e1]
      exact ⟨[32], _, rfl, by simp, word_ne (by simp) he, by intro x hx; rw [List.mem_singleton.mp hx]; decide, fun x hx => tw_mem hx⟩
    · refine piecesF_good _ _ rest_whd ?_ m hm
      have e := piece_rest (c := c) (l := l)
      rw [e] at he
      exact noEnd_suffix he
/-! strip -/
theorem white_eq : (fun c : UInt8 => c == 32 || c == 9) = white := by
  funext c
  unfold white
  rw [Bool.eq_iff_iff]
  simp [← UInt8.toNat_inj]
theorem stripL_eq (l : List UInt8) : stripL l = ((l.dropWhile white).reverse.dropWhile white).reverse := by
  unfold stripL
  rw [white_eq]
theorem strip_span (l : List UInt8) : l = l.takeWhile white ++ (stripL l ++ ((l.dropWhile white).reverse.takeWhile white).reverse) := by
  rw [stripL_eq, ← List.reverse_append, span_join, List.reverse_reverse, span_join]
theorem strip_mem {l : List UInt8} {c : UInt8} (h : c ∈ stripL l) : c ∈ l := by
  rw [strip_span l]
  simp [h]
theorem strip_noBegin (l : List UInt8) : NoBegin (stripL l) := fun c t e => by
  have h1 : l.dropWhile white = stripL l ++ ((l.dropWhile white).reverse.takeWhile white).reverse := by
    rw [stripL_eq, ← List.reverse_append, span_join, List.reverse_reverse]
  rw [e] at h1
  exact nonwhite_iff.mpr (dw_head h1)
theorem strip_noEnd (l : List UInt8) : NoEnd (stripL l) := fun c t e => by
  rw [stripL_eq] at e
  have h1 := congrArg List.reverse e
  rw [List.reverse_reverse, List.reverse_append] at h1
  exact nonwhite_iff.mpr (dw_head h1)
theorem dw_same {l : List UInt8} (h : NoBegin l) : l.dropWhile white = l := by
  cases l with
  | nil => rfl
  | cons c t =>
    rw [List.dropWhile_cons_of_neg]
    rw [nonwhite_iff.mp (h c t rfl)]
    exact Bool.false_ne_true
theorem strip_id {l : List UInt8} (h : NoBegin l) (h2 : NoEnd l) : stripL l = l := by
  rw [stripL_eq, dw_same h, dw_same, List.reverse_reverse]
  intro c t e
  have e2 := congrArg List.reverse e
  rw [List.reverse_reverse] at e2
  exact h2 c t.reverse (by rw [e2]; simp)
theorem strip_cons (l : List UInt8) : stripL (32 :: l) = stripL l := by
  rw [stripL_eq, stripL_eq, List.dropWhile_cons_of_pos (by decide)]
theorem strip_nil {l : List UInt8} (h : stripL l = []) : ∀ c ∈ l, white c = true := by
  intro c hc
  rw [strip_span l, h, List.nil_append] at hc
  rcases List.mem_append.mp hc with q | q
  · exact tw_mem q
  · exact tw_mem (List.mem_reverse.mp q)

/-! the plain law, third part: what the law asks -/
theorem isName_mem {nm : List UInt8} (h : isName nm = true) : ∀ c ∈ nm, 33 ≤ c.toNat ∧ c.toNat ≤ 126 ∧ c.toNat ≠ 58 := by
  intro c hc
  unfold isName at h
  rw [Bool.and_eq_true] at h
  have := List.all_eq_true.mp h.1 c hc
  simpa [and_assoc] using this
theorem isName_pos {nm : List UInt8} (h : isName nm = true) : 0 < nm.length := by
  unfold isName at h
  rw [Bool.and_eq_true] at h
  exact of_decide_eq_true h.2
theorem name_clean {nm : List UInt8} (h : isName nm = true) : clean nm := fun c hc => by
  have := isName_mem h c hc
  constructor
  · rintro rfl
    exact absurd this.1 (by decide)
  · rintro rfl
    exact absurd this.1 (by decide)
noncomputable def spaced : List UInt8 → List UInt8
  | [] => []
  | c :: t => 32 :: c :: t
theorem mores_spaced (s : List UInt8) : (mores (pieces s)).flatten = spaced s := by
  have h := pieces_flat s
  cases s with
  | nil => rfl
  | cons c t =>
    cases hp : pieces (c :: t) with
    | nil => rw [hp] at h; cases h
    | cons p r =>
      rw [hp] at h
      show ((32 :: p) ++ r.flatten) = 32 :: c :: t
      rw [← h]
      rfl
theorem strip_spaced (b : List UInt8) : stripL (spaced (stripL b)) = stripL b := by
  have h := strip_id (strip_noBegin b) (strip_noEnd b)
  cases hs : stripL b with
  | nil => rfl
  | cons c t =>
    show stripL (32 :: c :: t) = c :: t
    rw [hs] at h
    rw [strip_cons, h]
theorem foldRows_good (nm body : List UInt8) (width : Int) : Folded nm width (foldRows nm body width) := by
  refine fold_all (mores (pieces (stripL body))) ([], nm ++ [58]) (mores_good (strip_noBegin _) (strip_noEnd _)) ⟨by simp, fun r h => ?_, fun i r h => ?_, fun i r r' _ h => ?_⟩
  · simp only [List.nil_append, List.getElem?_cons_zero, Option.some.injEq] at h
    exact ⟨[], by rw [← h, List.append_nil], (fun _ _ e => by cases e), fun _ => rfl⟩
  · simp at h
  · simp at h
theorem foldRows_flat (nm body : List UInt8) (width : Int) : (foldRows nm body width).flatten = nm ++ [58] ++ spaced (stripL body) := by
  have h := fold_flat width (mores (pieces (stripL body))) ([], nm ++ [58])
  unfold foldRows foldAll
  rw [List.flatten_append, List.flatten_cons, List.flatten_nil, List.append_nil, h, mores_spaced]
  rfl
theorem spaced_mem {s : List UInt8} {c : UInt8} (h : c ∈ spaced s) : c = 32 ∨ c ∈ s := by
  cases s with
  | nil => cases h
  | cons x t => exact List.mem_cons.mp h
theorem foldRows_clean {nm body : List UInt8} {width : Int} (hn : isName nm = true) (hb : clean body) : ∀ r ∈ foldRows nm body width, clean r := by
  intro r hr c hc
  have h1 : c ∈ (foldRows nm body width).flatten := List.mem_flatten.mpr ⟨r, hr, hc⟩
  rw [foldRows_flat] at h1
  rcases List.mem_append.mp h1 with h1 | h1
  · rcases List.mem_append.mp h1 with h1 | h1
    · exact name_clean hn c h1
    · rw [List.mem_singleton.mp h1]
      decide
  · rcases spaced_mem h1 with rfl | h1
    · decide
    · exact hb c (strip_mem h1)
structure Shape (nm body : List UInt8) (width : Int) (q : List UInt8) (rest : List (List UInt8)) : Prop where
  rows : foldRows nm body width = (nm ++ [58] ++ q) :: rest
  cq : clean q
  cr : ∀ r ∈ rest, clean r
  hd : ∀ r ∈ rest, ∃ c t, r = c :: t ∧ white c = true
  flat : q ++ rest.flatten = spaced (stripL body)
theorem folded_shape {nm body : List UInt8} (width : Int) (hn : isName nm = true) (hb : clean body) : ∃ q rest, Shape nm body width q rest := by
  have G := foldRows_good nm body width
  have C := foldRows_clean (width := width) hn hb
  have E := foldRows_flat nm body width
  cases hr : foldRows nm body width with
  | nil => exact absurd hr G.ne
  | cons r0 rest =>
    rw [hr] at G C E
    obtain ⟨q, e, _, _⟩ := G.first r0 rfl
    refine ⟨q, rest, by rw [hr, e], (C r0 (.head _)).sub fun c hc => by rw [e]; simp [hc], fun r h => C r (.tail _ h), fun r h => ?_, ?_⟩
    · obtain ⟨i, hi⟩ := List.mem_iff_getElem?.mp h
      obtain ⟨p, q', rfl, ⟨a, b, rfl, ha, _, h1, _⟩, _, _⟩ := G.later i r hi
      cases a with
      | nil => exact absurd rfl ha
      | cons x a => exact ⟨x, _, rfl, h1 x (.head _)⟩
    · rw [e, List.flatten_cons, List.append_assoc] at E
      exact List.append_cancel_left E
section
variable {nm body q : List UInt8} {width : Int} {rest : List (List UInt8)}
theorem Shape.whole (S : Shape nm body width q rest) : foldedL nm body width = (nm ++ [58] ++ q) ++ (13 :: 10 :: rest.flatMap (· ++ [13, 10])) := by
  unfold foldedL
  rw [S.rows, joinL_flatMap _ (by simp), List.flatMap_cons]
  simp
theorem Shape.line (S : Shape nm body width q rest) (hn : isName nm = true) : lineAt (foldedL nm body width) 0 (foldedL nm body width).length = (((nm ++ [58] ++ q).length : Int), ((nm ++ [58] ++ q).length : Int) + 2) := by
  have hc : clean (nm ++ [58] ++ q) := ((name_clean hn).append (by intro c hc; rw [List.mem_singleton.mp hc]; decide)).append S.cq
  have h := lineAt_row (l := foldedL nm body width) (pre := []) (r := nm ++ [58] ++ q) (by rw [S.whole]; rfl) hc
  have e : (([] : List UInt8).length : Int) = 0 := rfl
  rw [e, Int.zero_add] at h
  exact h
theorem Shape.colon (S : Shape nm body width q rest) (hn : isName nm = true) : colonIn (foldedL nm body width) 0 (lineAt (foldedL nm body width) 0 (foldedL nm body width).length).1 = nm.length := by
  rw [S.line hn]
  dsimp only
  have hw := S.whole
  have hp := isName_pos hn
  generalize foldedL nm body width = l at hw ⊢
  have g58 : l[nm.length]? = some 58 := by
    rw [hw, List.append_assoc, List.append_assoc, List.getElem?_append_right (Nat.le_refl _), Nat.sub_self]
    rfl
  have hf : findI l 58 (0 : Int).toNat ((nm ++ [58] ++ q).length : Int).toNat = (nm.length : Int) := by
    have hfb : findB l 58 (0 : Int).toNat ((nm ++ [58] ++ q).length : Int).toNat = some nm.length := by
      refine findB_of (Nat.zero_le _) ?_ g58 (fun j _ hj hz => ?_)
      · rw [Int.toNat_natCast]
        simp only [List.length_append, List.length_cons, List.length_nil]
        omega
      · rw [hw, List.append_assoc, List.append_assoc, List.getElem?_append_left hj] at hz
        exact (isName_mem hn _ (List.mem_of_getElem? hz)).2.2 rfl
    unfold findI
    rw [hfb]
  have hc : cut l (some 0) (some (nm.length : Int)) = nm := by
    rw [cut_two (Int.le_refl _) (by omega), hw, Int.toNat_natCast, List.append_assoc, List.append_assoc]
    simp
  unfold colonIn
  rw [hf, hc, if_pos ⟨by omega, hn⟩]
theorem Shape.name (S : Shape nm body width q rest) : cut (foldedL nm body width) (some 0) (some (nm.length : Int)) = nm := by
  rw [cut_two (Int.le_refl _) (by omega), S.whole, Int.toNat_natCast, List.append_assoc, List.append_assoc]
  simp
theorem Shape.cont (S : Shape nm body width q rest) (hn : isName nm = true) : contF (foldedL nm body width).length (foldedL nm body width) (lineAt (foldedL nm body width) 0 (foldedL nm body width).length) = (((foldedL nm body width).length : Int) - 2, ((foldedL nm body width).length : Int)) := by
  rw [S.line hn]
  have h1 : (((nm ++ [58] ++ q).length : Int) + 2) = ((nm ++ [58] ++ q ++ [13, 10]).length : Nat) := by simp only [List.length_append, List.length_cons, List.length_nil]; omega
  rw [h1]
  exact contF_rows rest (nm ++ [58] ++ q ++ [13, 10]) _ _ _ (fun r hr => ⟨S.cr r hr, S.hd r hr⟩) (by rw [S.whole]; simp) (by simp only [List.length_append, List.length_cons, List.length_nil]; omega) (by omega)
theorem joinL_front (sep a b : List UInt8) (r : List (List UInt8)) : joinL sep ((a ++ b) :: r) = a ++ joinL sep (b :: r) := by
  cases r with
  | nil => rfl
  | cons x r => show a ++ b ++ sep ++ joinL sep (x :: r) = a ++ (b ++ sep ++ joinL sep (x :: r)); simp
theorem Shape.raw (S : Shape nm body width q rest) : rawOf nm body width = joinL [13, 10] (q :: rest) := by
  have e : foldedL nm body width = nm ++ [58] ++ joinL [13, 10] (q :: rest) ++ [13, 10] := by
    unfold foldedL
    rw [S.rows, joinL_front]
  unfold rawOf
  rw [e, cut_two (by omega) (by simp only [List.length_append, List.length_cons, List.length_nil]; omega)]
  have e1 : (((nm ++ [58] ++ joinL [13, 10] (q :: rest) ++ [13, 10]).length : Int) - 2).toNat = (nm ++ [58] ++ joinL [13, 10] (q :: rest)).length := by
    simp only [List.length_append, List.length_cons, List.length_nil]
    omega
  have e2 : ((nm.length : Int) + 1).toNat = (nm ++ [58]).length := by simp only [List.length_append, List.length_cons, List.length_nil]; omega
  rw [e1, List.take_append_of_le_length (Nat.le_refl _), List.take_length, e2, List.drop_left]
theorem Shape.rawRows (S : Shape nm body width q rest) : rowsOf (rawOf nm body width) = q :: rest := by
  rw [S.raw, rowsOf_join (by simp)]
  intro r hr
  rcases List.mem_cons.mp hr with rfl | hr
  · exact S.cq
  · exact S.cr r hr
theorem Shape.unfold (S : Shape nm body width q rest) : stripL (joinL [] (rowsOf (rawOf nm body width))) = stripL body := by
  rw [S.rawRows, joinL_nil, List.flatten_cons, S.flat, strip_spaced]
theorem rowOk_white {c : UInt8} {t : List UInt8} (h : white c = true) : rowOk (c :: t) = true := by
  unfold rowOk
  unfold white at h
  simpa using h
theorem Shape.sound (S : Shape nm body width q rest) (hn : isName nm = true) : isSound nm (rawOf nm body width) = true := by
  unfold isSound
  rw [hn, S.rawRows, Bool.true_and, List.all_eq_true]
  intro r hr
  obtain ⟨c, t, rfl, hw⟩ := S.hd r hr
  exact rowOk_white hw
theorem Shape.fieldLine (S : Shape nm body width q rest) : fieldLine (nm, rawOf nm body width) = foldedL nm body width := by
  unfold Mine.fieldLine foldedL
  rw [S.raw, S.rows, joinL_front]
theorem Shape.split (S : Shape nm body width q rest) (hn : isName nm = true) (hb : clean body) : splitC (joinL [13, 10] (foldRows nm body width)) = foldRows nm body width :=
  splitC_join (foldRows_good nm body width).ne (foldRows_clean hn hb)
theorem cut_tail (a : List UInt8) : cut (a ++ [13, 10]) (some (-2)) none = [13, 10] := by
  unfold cut
  have e : clipAt (a ++ [13, 10]).length (-2) = a.length := by
    have := clipAt_neg (a ++ [13, 10]).length 2 (by decide)
    rw [show (-2 : Int) = -((2 : Nat) : Int) from rfl, this]
    simp
  simp only [Option.elim]
  rw [e, List.drop_left]
  exact List.take_of_length_le (by simp)
theorem cut_front (a : List UInt8) : cut (a ++ [13, 10]) none (some (-2)) = a := by
  unfold cut
  have e : clipAt (a ++ [13, 10]).length (-2) = a.length := by
    have := clipAt_neg (a ++ [13, 10]).length 2 (by decide)
    rw [show (-2 : Int) = -((2 : Nat) : Int) from rfl, this]
    simp
  simp only [Option.elim]
  rw [e, List.drop_zero, Nat.sub_zero, List.take_left]
theorem foldRows_join (nm body : List UInt8) (width : Int) : joinL [] (foldRows nm body width) = nm ++ [58] ++ spaced (stripL body) := by
  rw [joinL_nil, foldRows_flat]
theorem later_strip {nm r : List UInt8} {width : Int} {rows : List (List UInt8)} {i : Nat} (F : Folded nm width rows) (h : rows[i + 1]? = some r) : stripL r ≠ [] := by
  obtain ⟨p, q, rfl, ⟨a, b, rfl, _, hb, _, h2⟩, _, _⟩ := F.later i r h
  intro z
  cases b with
  | nil => exact hb rfl
  | cons x b =>
    have h1 := h2 x (.head _)
    rw [nonwhite_iff, strip_nil z x (by simp)] at h1
    cases h1
end

end Part_P2

section Part_S18

section
variable {prog : Program} {w : World} {A₀ A : Around} {s : Shared} {base h₀ : Heap} {outer : List Env} {L : Addr} {m mg mb : Str → Option Value} {env : Env} {news : List (Addr × Obj)} {K : Frag} {p : Program} {loose : List Str} {mean : ExcName → Option Value}
  {R : Result → Shared → Prop} {name qual : Str} {params : Arguments} {body : List Stmt} {scope : Scope} {dV kV doc pm cdv ct oc : Value} {an od : Option Addr} {osl : Array (Option Value)} {f : Addr} {args : Args} {binds : List (Str × Value)}
/-- entering a def with captured locals -/
theorem enterC (B : Below A₀ base outer h₀) (F : Fr h₀ L s.heap m) (X₀ : K.In h₀) (N : News h₀ L s.heap news) (T : Top p loose mean mg mb h₀) (hA : A.frames = some (env :: outer)) (hf : env.frame = some L) (hke : env.scope.kind = .function)
    (ho : K.lookup f = some ⟨oc, od, .func (fnOf name qual params body scope dV kV doc pm an cdv ct), osl⟩) (hcd : codeIn K cdv qual = true) (hroom : A.depth < recursionLimit)
    (hbind : BindsTo s (fnOf name qual params body scope dV kV doc pm an cdv ct) args binds)
    (hkind : ∀ n, ∀ x ∈ binds, scope.names.lookup x.1 = some .local ∨ (scope.names.lookup x.1 = some .cell ∧ ((cellsFrom n scope.names []).lookup x.1).isSome = true))
    (hnd : ((cellsFrom 0 scope.names []).map (·.1)).Nodup)
    (h : ∀ g L' h₁ tk cells, (∀ b o, s.heap.get? b = some o → g.get? b = some o) → (∀ b o, g.get? b = some o → s.heap.get? b = some o) → Fr g L' h₁ (bindL (envOfC qual scope L' f cdv).kindOf binds fun _ => none) → News g L' h₁ cells →
      CellsAre (bindC (envOfC qual scope L' f cdv).kindOf binds fun _ => none) (cellsFrom (L' + 1) scope.names []) cells → Below A base (env :: outer) g → K.In g → Top p loose mean mg mb g →
      wpAny (model prog w) (A.deeper (envOfC qual scope L' f cdv)) (execs body (envOfC qual scope L' f cdv))
        (fun fl s' => LeaveN h₀ L m news g R (match fl with | .ret v => v | _ => .none) s')
        (fun e s' => wpAny (model prog w) (A.deeper (envOfC qual scope L' f cdv)) (leaving (envOfC qual scope L' f cdv) e) (fun _ s'' => R (.error e) s'') (fun e' s'' => R (.error e') s'') s')
        { s with heap := h₁, toks := tk })
    (hco : scope.isCoroutine = false := by rfl) (hgen : scope.isGenerator = false := by rfl) (hk : scope.kind = .function := by rfl) : codeAny (model prog w) A (.call (.ref f) args) R s := by
  have BG := pushX B F hf hke
  have B2 : Below A base (env :: outer) s.heap := ⟨hA, fun b o e => F.keep b o (B.stays b o e), BG.frames⟩
  refine codeAny_call_function hroom ((X₀.keeps F.keep) _ _ ho) rfl hco hgen rfl (codeRec_of (X₀.keeps F.keep) hcd) (hbind _ _ _ _ ?_)
  refine wpAny_newFunctionEnv_cells hk (hkind _) fun env' he s' x => ?_
  subst he
  refine ⟨(T.nolimit.keeps F.keep).keeps x.toInCall.keep, codeAny_func ?_⟩
  obtain ⟨h₁, tk, rfl, _⟩ := x.done
  have hk₁ := x.toInCall.keep
  obtain ⟨cells, NC, Y⟩ := Cl.news (h₀ := s.heap) (Nat.le_refl _) fun n c hm => ⟨x.cell n c (lookup_of_mem_nodup (cellsFrom_names scope.names 0 (s.heap.objs.size + 1) [] [] rfl ▸ hnd) hm), x.above n c hm⟩
  refine wpAny_mono (h s.heap s.heap.objs.size h₁ tk cells (fun _ _ e => e) (fun _ _ e => e) ⟨x.toInCall.ns, hk₁, Nat.le_refl _⟩ NC Y B2 (X₀.keeps F.keep) (T.keeps F.keep)) (fun fl s' hl => ?_) fun _ _ y => y
  obtain ⟨L', m', news', F', N', k⟩ := hl
  have F2 : Fr h₀ L s'.heap m := F.keptAll F'.keep
  obtain ⟨oL, _, _, hL, _⟩ := F.ns
  refine k F2 (fun q hq => ?_) (fun q hq r hr e => ?_)
  · rcases List.mem_append.mp hq with hq | hq
    · refine ⟨(N' q hq).1, fun e => ?_, ?_⟩
      · have := (N' q hq).2.2
        rw [e, hL] at this
        cases this
      · cases z : h₀.get? q.1 with
        | none => rfl
        | some o => have := (N' q hq).2.2; rw [F.keep _ _ z] at this; cases this
    · exact ⟨F'.keep _ _ (N q hq).1, (N q hq).2⟩
  · have := (N' q hq).2.2
    rw [e, (N r hr).1] at this
    cases this
end

noncomputable def whiteG (l : List UInt8) (r : List Int) (k : Int) : List Int := if white (l.getD k.toNat 0) = true then r ++ [k] else r
theorem whiteG_filter (l : List UInt8) : ∀ (ks r : List Int), ks.foldl (whiteG l) r = r ++ ks.filter fun k => white (l.getD k.toNat 0)
  | [], r => by simp
  | k :: ks, r => by
    rw [List.foldl_cons, whiteG_filter l ks]
    unfold whiteG
    by_cases h : white (l.getD k.toNat 0) = true
    · rw [if_pos h, List.filter_cons_of_pos (p := fun k : Int => white (l.getD k.toNat 0)) h]; simp
    · rw [if_neg h, List.filter_cons_of_neg (p := fun k : Int => white (l.getD k.toNat 0)) h]
theorem rangeKs_succ (a : Int) (n : Nat) : rangeKs a (n + 1) = a :: rangeKs (a + 1) n := by
  unfold rangeKs
  rw [List.range_succ_eq_map, List.map_cons, List.map_map]
  congr 1
  · simp
  · refine List.map_congr_left fun x _ => ?_
    simp only [Function.comp]
    omega
theorem first_head {l : List UInt8} : ∀ (m i : Nat), i + m = l.length → (((rangeKs (i : Int) m).filter fun k => white (l.getD k.toNat 0)) ++ [(l.length : Int)]).headD 0 = ((i + ((l.drop i).takeWhile nonwhite).length : Nat) : Int)
  | 0, i, h => by
    rw [List.drop_eq_nil_of_le (by omega)]
    show (l.length : Int) = _
    rw [List.takeWhile_nil, List.length_nil]
    omega
  | m + 1, i, h => by
    rw [rangeKs_succ, drop_cons (by omega)]
    by_cases hw : white (l.getD i 0) = true
    · rw [List.filter_cons_of_pos (by rw [Int.toNat_natCast]; exact hw), List.takeWhile_cons_of_neg (by unfold nonwhite; rw [hw]; exact Bool.false_ne_true)]
      rfl
    · have hn : nonwhite (l.getD i 0) = true := by unfold nonwhite; simpa using hw
      rw [List.filter_cons_of_neg (by rw [Int.toNat_natCast]; exact hw), List.takeWhile_cons_of_pos hn]
      have e : ((i : Int) + 1) = ((i + 1 : Nat) : Int) := by omega
      rw [e, first_head m (i + 1) (by omega), List.length_cons]
      omega
theorem takeWhile_len {p : UInt8 → Bool} (a : List UInt8) : a.take (a.takeWhile p).length = a.takeWhile p := by
  conv => lhs; rw [← span_join (p := p) a]
  rw [span_join, ← span_join (p := p) a]
  conv => lhs; arg 2; rw [← span_join (p := p) a]
  rw [span_join, List.take_left]
theorem first_at {l : List UInt8} {i : Nat} (hi : i < l.length) (h : (l.take i).all white = true) (hw : white (l.getD i 0) = false) :
    lawFirst l = l.take (i + ((l.drop i).takeWhile nonwhite).length) := by
  have h1 : ∀ c ∈ l.take i, white c = true := List.all_eq_true.mp h
  have e1 : l.takeWhile white = l.take i ++ (l.drop i).takeWhile white := by
    conv => lhs; rw [← List.take_append_drop i l]
    exact tw_all h1
  have e2 : l.dropWhile white = (l.drop i).dropWhile white := by
    conv => lhs; rw [← List.take_append_drop i l]
    exact dw_all h1
  have e3 : (l.drop i).takeWhile white = [] := by
    rw [drop_cons hi, List.takeWhile_cons_of_neg (by rw [hw]; exact Bool.false_ne_true)]
  have e4 : (l.drop i).dropWhile white = l.drop i := by
    rw [drop_cons hi, List.dropWhile_cons_of_neg (by rw [hw]; exact Bool.false_ne_true)]
  unfold lawFirst
  rw [e1, e2, e3, e4, List.append_nil, List.take_add, takeWhile_len]
theorem first_cut {l : List UInt8} {i : Nat} (hi : i < l.length) (h : (l.take i).all white = true) (hw : white (l.getD i 0) = false) :
    cut l none (some (((rangeKs (i : Int) ((l.length : Int) - (i : Int)).toNat).foldl (whiteG l) [] ++ [(l.length : Int)]).headD 0)) = lawFirst l := by
  have e : ((l.length : Int) - (i : Int)).toNat = l.length - i := by omega
  rw [whiteG_filter, List.nil_append, e, first_head _ i (by omega), cut_to (by omega), Int.toNat_natCast, first_at hi h hw]
theorem first_all {l : List UInt8} (h : l.all white = true) : lawFirst l = l := by
  have h1 : ∀ c ∈ l, white c = true := List.all_eq_true.mp h
  have e1 := tw_all (b := []) h1
  have e2 := dw_all (b := []) h1
  rw [List.append_nil] at e1 e2
  unfold lawFirst
  rw [e1, e2]
  simp
theorem white_int9 (c : UInt8) : ((9 : Int) == (c.toNat : Int) || (32 : Int) == (c.toNat : Int)) = white c := by
  rw [← white_int, Bool.or_comm]
section
variable {prog : Program} {w : World} {A : Around} {E : Value → Shared → Prop} {s : Shared} {h₀ : Heap} {L a : Addr} {news : List (Addr × Obj)} {vs : List Value} {n : Nat}
theorem lItemH {value slice : PySem.Expr} {u : Tok} {ks : List Int} {Q : Value → Shared → Prop} (N : News h₀ L s.heap news) (hm : (a, listOf vs.toArray n) ∈ news) (hi : IntsAre vs ks) (hk : ks ≠ []) (h : ∀ t, Q (.int (ks.headD 0) t) s)
    (hs : subscripted slice false (.ref a) (.int 0 u) = operate [.ref a, .int 0 u] (getItem (.ref a) (.int 0 u)) := by with_unfolding_all rfl) (hg : ∀ r, letTemporaryGo value (.ref a) r = pure () := by intro _; with_unfolding_all rfl) :
    wpAny (model prog w) A (subscriptTail value slice (.ref a) (.int 0 u)) Q E s := by
  cases hi with
  | nil => exact absurd rfl hk
  | @cons k t vs ks hi => exact item_listL (l := .int k t :: vs) ⟨_, (N _ hm).1, rfl, n, rfl⟩ (by decide) (by decide) rfl (h t) hs hg
end
section
variable {h₀ h' : Heap} {L I C D : Addr} {m : Str → Option Value} {s₁ : Shared} {oI oC oD : Obj} {tk : Nat} {all news : List (Addr × Obj)} {l r : List Int}
theorem comp_no {v : Value} (F : Fr h₀ L h' m) (N : News h₀ L h' all) (sub : ∀ p ∈ (I, oI) :: (C, oC) :: (D, oD) :: news, p ∈ all) (off : LCg.Off3 I C D news) (e : r = l) :
    LCg.CompEnd h₀ L m s₁ I oI C oC D oD (fun _ => True) (fun _ news' => KCiNo news l r news') v { s₁ with heap := h', toks := tk } := LCg.CompEnd.intro F N news sub off trivial ⟨rfl, e⟩
theorem comp_el {a : Int} {t : Tok} (F : Fr h₀ L h' m) (N : News h₀ L h' all) (sub : ∀ p ∈ (I, oI) :: (C, oC) :: (D, oD) :: news, p ∈ all) (off : LCg.Off3 I C D news) (e : r = l ++ [a]) :
    LCg.CompEnd h₀ L m s₁ I oI C oC D oD (fun _ => True) (fun y news' => KCiEl news l r y news') (.int a t) { s₁ with heap := h', toks := tk } := LCg.CompEnd.intro F N news sub off trivial ⟨rfl, a, t, rfl, e⟩
end
theorem getD_at {l : List UInt8} {i : Nat} (h : i < l.length) : l[i]? = some (l.getD i 0) := by
  rw [List.getD_eq_getElem?_getD, List.getElem?_eq_getElem h]
  rfl
theorem getD0 (ks : List Int) : ks.getD (Int.toNat 0) 0 = ks.headD 0 := by cases ks <;> rfl

set_option hygiene false in
local macro_rules | `(tactic| walk_at "call builtin:len") => `(tactic| (k_here; (with_reducible show wpAny _ _ (call (Value.builtin "len") [Value.ref _]) _ _ _); refine' lLen ?fN ?fm ?fa ?_; (case fN => k_asm); (case fm => k_mem); (case fa => walk_at "ar")))
set_option hygiene false in
local macro_rules | `(tactic| walk_at "call builtin:list.pop") => `(tactic| (k_here; (with_reducible show wpAny _ _ (call (Value.builtin "list.pop") [Value.ref _, Value.int 0 _]) _ _ _); (with_reducible rename Fr _ _ _ _ => F'); (with_reducible rename News _ _ _ _ => N'); refine lPop0 F' N' ?fa ?_; (case fa => walk_at "ar"); intro h' F' N'; (try k_sweep)))
set_option hygiene false in
local macro_rules | `(tactic| walk_at "subscriptTail") => `(tactic| (k_here; (with_reducible show wpAny _ _ (subscriptTail _ _ (Value.ref _) (Value.int 0 _)) _ _ _); refine' lItem0 ?fN ?fm ?_; (case fN => k_asm); (case fm => k_mem)))

set_option hygiene false in
local macro_rules | `(tactic| walk_at "subscriptTail") => `(tactic| (k_here; (with_reducible show wpAny _ _ (subscriptTail _ _ (Value.ref _) (Value.int 0 _)) _ _ _); refine' lItemH ?fN ?fm ?fi ?fk ?_; (case fN => k_asm); (case fm => k_mem); (case fi => with_reducible assumption); (case fk => simp); intro tH))
set_option hygiene false in
local macro_rules | `(tactic| walk_at "CompSrcT") => `(tactic| (k_here; k_dflt ((refine LCt.CompSrcT.range (by rfl) (by k_asm) (by k_asm) (by assumption) (by first | decide | exact small_one (by l_bnd) (by l_bnd) (by l_bnd) (by l_bnd)) (by first | exact rangeSize_nat _ _ | rfl) (by first | exact Nat.le_of_ble_eq_true rfl | (rw [PySem.sizeLine_eq]; omega)) ?_; intro g'; (refine' kci_range (whiteG l) (fun k' t' I' oI' C' oC' D' m' ys' l' h' tk' E' hlo' hhi' hI' hC' hx' F' N' off' ne' => ?_) ?_ ?_); (all_goals (try (simp only [LCg.Off3, and_true] at off'))); (all_goals (try ((show KPfMark → _); intro hMark'))); kcf_last))))
set_option hygiene false in
local macro_rules | `(tactic| walk_at "CompEnd") => `(tactic| (first
  | (refine comp_no (by k_asm) (by k_asm) (by kcf_all) (by simp only [LCg.Off3]; assumption) ?kce; (case kce => ((simp only [white_int9] at *); unfold whiteG; exact if_neg (by simp only [Bool.not_eq_true]; assumption))))
  | (refine comp_el (by k_asm) (by k_asm) (by kcf_all) (by simp only [LCg.Off3]; assumption) ?kce; (case kce => ((simp only [white_int9] at *); unfold whiteG; exact if_pos (by assumption))))))
set_option hygiene false in
local macro_rules | `(tactic| walk_at "KPfGrows") => `(tactic| (intro l k; unfold whiteG; split <;> simp))

section
variable {prog p : Program} {w : World} {loose : List Str} {mean : ExcName → Option Value} {mg mb : Str → Option Value}
  {hdl : Option Value} {dp un : Nat} {gd : Option (List Code)} {cn : Str} {cs : Scope} {a : Addr} {ccd : Value} {cl : List (Str × Addr)} {outer : List Env} {A₀ : Around} {base h₀ : Heap} {L : Addr} {m : Str → Option Value} {news : List (Addr × Obj)} {s : Shared} {Q E : Value → Shared → Prop}

set_option maxHeartbeats 8000000 in
theorem law_first_spec {l : List UInt8} {t : Tok} (B : Below A₀ base outer h₀) (F : Fr h₀ L s.heap m) (X : (Mine.hd.heap_39 w.params).In h₀) (N : News h₀ L s.heap news) (T : Top p loose mean mg mb h₀) (hk : cs.kind = .function) (hdp : dp + 2 < recursionLimit) (hu : un + 16 < cLine) (hl : l.length ≤ 16777215)
   (ret : ∀ t h' tk', Fr h₀ L h' m → News h₀ L h' news → Q (.bytes (lawFirst l).toArray t) {s with heap := h', toks := tk'}) :
   wpAny (model prog w) (Tp none dp un gd cn cs L a ccd cl outer) (call (.ref 207) [.bytes l.toArray t]) Q E s := by
  refine wpAny_call ?_
  k_dflt (refine' enterC (binds := [(Str.ofString "piece", .bytes l.toArray t)]) ?k1 ?k2 ?k3 ?k4 ?k5 ?kA ?kF ?kK ?k6 ?k7 ?k8 ?k9 ?kB ?kD ?_ ?c3 ?c4 ?c5; (case kA => exact rfl); (case kF => exact rfl); (case kK => assumption); (case k1 => k_asm); (case k2 => k_asm); (case k3 => k_asm); (case k4 => k_asm); (case k5 => k_asm); (case k6 => k_is); (case k7 => k_is); (case k8 => ktr_room); (case k9 => first | exact BindsTo.of_eq rfl | exact binds_K (by k_in) rfl (by k_is) rfl rfl rfl); (case c3 => exact rfl); (case c4 => exact rfl); (case c5 => exact rfl); (case kB => (intro n x hx; rcases List.mem_singleton.mp hx with rfl; exact .inr ⟨rfl, rfl⟩)); (case kD => decide); k_whole)
  intro g1 L1 h1 tk1 cells gk1 gk2 F1 N1 C1 B1 X1 T1
  have C2 : CellsAre _ [(Str.ofString "piece", L1 + 1)] cells := C1
  obtain ⟨co, rfl, cd⟩ := C2.one
  replace cd : co.data = .cell (some (.bytes l.toArray t)) := cd
  replace F1 : Fr g1 L1 h1 (fun _ => none) := F1
  clear C1 C2
  have hH1 : HdOk none g1 := HdOk.none _
  rw [show ∀ nm sc cv, envOfC nm sc L1 207 cv = envX nm sc L1 207 cv (cellsFrom (L1 + 1) sc.names []) from fun _ _ _ => rfl]
  simp only [cellsFrom, (by decide : (NameKind.cell == NameKind.cell) = true), (by decide : (NameKind.local == NameKind.cell) = false), (by decide : (NameKind.globalImplicit == NameKind.cell) = false), if_true, Bool.false_eq_true, if_false]
  try dsimp only
  try k_fold
  walk_at "steps"
  rename News _ _ _ _ => N2
  rename Fr _ _ _ _ => F2
  rename IsRange _ _ _ _ _ _ _ _ => R2
  refine' for_range (σ := Unit) (N := l.length) (fun _ => [(L1 + 1, co)]) (fun _ => []) [Str.ofString "rest"]
    (fun i _ => (l.take i).all white = true) () rfl R2 rfl (by omega) F2 N2 (by kst_all) rfl ?turn ?done
  case turn =>
    intro _ i t u h tk own hi hoff hP F3 N3
    clear F2 N2
    dsimp only [kstB] at F3
    dsimp only [List.map] at hoff
    simp only [List.cons_append, List.nil_append] at N3
    walk_at "steps"
    · rename Fr _ _ _ _ => F5
      rename News _ _ _ _ => N5
      have hw : white (l.getD i 0) = true := by
        have q := ‹((9 : Int) == _ || _) = true›
        rw [white_int9, Int.toNat_natCast] at q
        exact q
      exact kst_end () F5 N5 (by kst_in) (by intro q hq; simp [hq]) rfl trivial (by kst_all) (by kst_same) (by
        rw [take_succ_get (x := l.getD i 0) (getD_at hi), List.all_append, hP]
        simpa using hw)
    · rename Fr _ _ _ _ => F5
      rename News _ _ _ _ => N5
      have hw : white (l.getD i 0) = false := by
        have q := ‹((9 : Int) == _ || _) = false›
        rw [white_int9, Int.toNat_natCast] at q
        exact q
      refine leave0 F5 fun F6 N6 => ?_
      rw [getD0, first_cut hi hP hw]
      exact ret _ _ _ F6 N6
  case done =>
    intro _ u h tk hP F3 N3
    clear F2 N2
    dsimp only [kstB] at F3
    walk_at "steps"
    dsimp only
    refine leave0 F3 fun F6 N6 => ?_
    rw [List.take_length] at hP
    have e := first_all hP
    rw [e] at ret
    exact ret _ _ _ F6 N6

end

end Part_S18

section Part_S19

section
variable {prog : Program} {w : World} {A : Around} {E : Value → Shared → Prop} {s : Shared} {a : Addr} {vs : List Value} {ls : List (List UInt8)}
theorem lItemG {value slice : PySem.Expr} {i : Int} {u : Tok} {Q : Value → Shared → Prop} (hl : s.heap.IsList a vs.toArray) (hb : BytesAre vs ls) (h0 : 0 ≤ i) (h1 : i < (ls.length : Int)) (hz : ls.length ≤ 16777216)
    (h : ∀ t, Q (.bytes (ls.getD i.toNat []).toArray t) s)
    (hs : subscripted slice false (.ref a) (.int i u) = operate [.ref a, .int i u] (getItem (.ref a) (.int i u)) := by with_unfolding_all rfl) (hg : ∀ r, letTemporaryGo value (.ref a) r = pure () := by intro _; with_unfolding_all rfl) :
    wpAny (model prog w) A (subscriptTail value slice (.ref a) (.int i u)) Q E s := by
  have hlen := hb.length
  obtain ⟨v, hv⟩ : ∃ v, vs[i.toNat]? = some v := ⟨vs[i.toNat]'(by omega), List.getElem?_eq_getElem _⟩
  obtain ⟨l, t, e, rfl⟩ := hb.get hv
  have := h t
  rw [List.getD_eq_getElem?_getD, e] at this
  exact item_listL (l := vs) hl h0 (by omega) hv this hs hg
theorem lLenG {Q : Value → Shared → Prop} (hl : s.heap.IsList a vs.toArray) (hb : BytesAre vs ls) (hz : ls.length ≤ 16777216)
    (h : Q (.int (ls.length : Int) (s.toks + 1)) { s with toks := s.toks + 1 + 1 }) : wpAny (model prog w) A (call (.builtin "len") [.ref a]) Q E s := by
  have hlen := hb.length
  refine len_list (items := vs.toArray) hl (by rw [List.size_toArray]; omega) ?_
  rw [List.size_toArray, hlen]
  exact h
end

set_option hygiene false in
local macro_rules | `(tactic| walk_at "call ref") => `(tactic| (k_here; (with_reducible show wpAny _ _ (call (Value.ref 207) _) _ _ _); k_dflt (refine' law_first_spec ?k1 ?k2 ?k3 ?k4 ?k5 ?kK ?kd ?ku ?ka ?_; walk_at "c8"; (case ka => walk_at "ar"); k_whole); intro lfT h' tk' F' N'; walk_at "c3"))

set_option hygiene false in
local macro_rules | `(tactic| walk_at "base") => `(tactic| exact hlx1.at fun o e => Fr.keep (by k_asm) _ _ e)
set_option hygiene false in
local macro_rules | `(tactic| walk_at "subscriptTail Name Name ref int") => `(tactic| (k_here; (with_reducible show wpAny _ _ (subscriptTail _ _ (Value.ref _) (Value.int _ _)) _ _ _); refine' lItemG ?fl ?fb ?f0 ?f1 ?fz ?_; (case fl => walk_at "base"); (case fb => exact hvb); (case f0 => walk_at "ar"); (case f1 => walk_at "ar"); (case fz => walk_at "ar"); intro tI))
set_option hygiene false in
local macro_rules | `(tactic| walk_at "subscriptTail Name BinOp ref int") => `(tactic| (k_here; (with_reducible show wpAny _ _ (subscriptTail _ _ (Value.ref _) (Value.int _ _)) _ _ _); refine' lItemG ?fl ?fb ?f0 ?f1 ?fz ?_; (case fl => walk_at "base"); (case fb => exact hvb); (case f0 => walk_at "ar"); (case f1 => walk_at "ar"); (case fz => walk_at "ar"); intro tI))
set_option hygiene false in
local macro_rules | `(tactic| walk_at "call builtin:len") => `(tactic| (k_here; (with_reducible show wpAny _ _ (call (Value.builtin "len") [Value.ref _]) _ _ _); refine' lLenG ?fl ?fb ?fz ?_; (case fl => walk_at "base"); (case fb => exact hvb); (case fz => walk_at "ar")))
set_option hygiene false in
local macro_rules | `(tactic| walk_at "call builtin:bytes.join") => `(tactic| (k_here; refine' cJoin ?fl ?fv ?fz ?_; (case fl => walk_at "base"); (case fv => exact hvb); (case fz => walk_at "ar"); intro _ _))
set_option hygiene false in
local macro_rules | `(tactic| walk_at "compareOp NotIn bytes ref") => `(tactic| (k_here; k_dflt (refine' notInBytes ?fT ?fi ?fr ?_; (case fT => walk_at "tup"); (case fi => exact isBy_of rfl); (case fr => (simp only [List.any_cons, List.any_nil, isB, Bool.or_false]; exact rfl)))))

set_option hygiene false in
local macro_rules | `(tactic| walk_at "exec For Name Call cons nil") => `(tactic| (k_here; (rename Fr _ _ _ _ => lF'); (with_unfolding_all refine' For_invVF lF' ?k1 ?k2 ?_; (case k1 => exact rfl); (case k2 => exact rfl); k_whole)))

section
variable {prog p : Program} {w : World} {loose : List Str} {mean : ExcName → Option Value} {mg mb : Str → Option Value}
  {hdl : Option Value} {dp un : Nat} {gd : Option (List Code)} {cn : Str} {cs : Scope} {a : Addr} {ccd : Value} {cl : List (Str × Addr)} {outer : List Env} {A₀ : Around} {base h₀ : Heap} {L : Addr} {m : Str → Option Value} {news : List (Addr × Obj)} {s : Shared} {Q E : Value → Shared → Prop}

theorem spaced_len (b : List UInt8) : (spaced b).length ≤ b.length + 1 := by
  cases b with
  | nil => simp [spaced]
  | cons c t => simp [spaced]
theorem rows_len {nm bare : List UInt8} {ls : List (List UInt8)} (hj : joinL [] ls = nm ++ [58] ++ spaced bare) (hnm : nm.length ≤ 100000) (hbr : bare.length ≤ 100000) (j : Nat) : (ls.getD j []).length ≤ 200002 := by
  rw [List.getD_eq_getElem?_getD]
  cases e : ls[j]? with
  | none => simp
  | some r =>
    have h1 := mem_flat_len (List.mem_of_getElem? e)
    rw [← joinL_nil, hj] at h1
    have := spaced_len bare
    simp only [List.length_append, List.length_cons, List.length_nil, Option.getD_some] at h1 ⊢
    omega
theorem lawFirst_len (l : List UInt8) : (lawFirst l).length ≤ l.length := by
  unfold lawFirst
  have h1 := congrArg List.length (span_join (p := white) l)
  have h2 := (List.takeWhile_sublist (l := l.dropWhile white) nonwhite).length_le
  rw [List.length_append] at h1 ⊢
  omega
theorem getDL {ls : List (List UInt8)} {i : Nat} (h : i < ls.length) : ls[i]? = some (ls.getD i []) := by
  rw [List.getD_eq_getElem?_getD, List.getElem?_eq_getElem h]
  rfl
theorem white_or {c : UInt8} (h : white c = true) : c = 32 ∨ c = 9 := by
  unfold white at h
  simpa [← UInt8.toNat_inj] using h
theorem rows_facts {nm : List UInt8} {width : Int} {ls : List (List UInt8)} {i : Nat} (G : Folded nm width ls) (hi : i < ls.length) :
    ((0 : Int) < i → ∃ c, cut (ls.getD (i : Int).toNat []) none (some 1) = [c] ∧ (c = 32 ∨ c = 9)) ∧
    ((0 : Int) < i → stripL (ls.getD (i : Int).toNat []) ≠ []) ∧
    ((0 : Int) < i → width < ((ls.getD (i : Int).toNat []).length : Int) → lawFirst (ls.getD (i : Int).toNat []) = ls.getD (i : Int).toNat []) ∧
    ((i : Int) = 0 → width < ((ls.getD (i : Int).toNat []).length : Int) → cut (ls.getD (i : Int).toNat []) (some ((nm.length : Int) + 2)) none = []) ∧
    ((i : Int) + 1 < ls.length → width < ((ls.getD (i : Int).toNat []).length : Int) + ((lawFirst (ls.getD ((i : Int) + 1).toNat [])).length : Int)) := by
  have e1 : ((i : Int) + 1).toNat = i + 1 := by omega
  rw [Int.toNat_natCast, e1]
  have g0 := getDL hi
  generalize ls.getD i [] = r at g0 ⊢
  have later : (0 : Int) < i → ∃ k, i = k + 1 := fun h => ⟨i - 1, by omega⟩
  refine ⟨fun h => ?_, fun h => ?_, fun h hw => ?_, fun h hw => ?_, fun h => ?_⟩
  · obtain ⟨k, rfl⟩ := later h
    obtain ⟨p, q, rfl, ⟨a, b, rfl, ha, _, h1, _⟩, _, _⟩ := G.later k r g0
    cases a with
    | nil => exact absurd rfl ha
    | cons c a => exact ⟨c, by rw [cut_to (by decide)]; rfl, white_or (h1 c (.head _))⟩
  · obtain ⟨k, rfl⟩ := later h
    exact later_strip G g0
  · obtain ⟨k, rfl⟩ := later h
    obtain ⟨p, q, rfl, hp, _, hq⟩ := G.later k r g0
    rw [hq hw, List.append_nil]
    exact lawFirst_alone hp
  · have hz : i = 0 := by omega
    subst hz
    obtain ⟨q, rfl, _, hq⟩ := G.first r g0
    rw [hq hw, cut_from (by omega)]
    exact List.drop_eq_nil_of_le (by simp only [List.length_append, List.length_cons, List.length_nil]; omega)
  · exact G.room i r _ g0 (getDL (by omega))
set_option maxHeartbeats 8000000 in
theorem rows_right_spec {nm bare : List UInt8} {rl : Addr} {vs : List Value} {ls : List (List UInt8)} {n : Nat} {width : Int} {t1 t2 t3 : Tok} (B : Below A₀ base outer h₀) (F : Fr h₀ L s.heap m) (X : (Mine.hd.heap_39 w.params).In h₀) (N : News h₀ L s.heap news) (T : Top p loose mean mg mb h₀) (hk : cs.kind = .function) (hdp : dp + 4 < recursionLimit) (hu : un + 32 < cLine) (hlx : s.heap.get? rl = some (listOf vs.toArray n)) (hvb : BytesAre vs ls)
   (G : Folded nm width ls) (hj : joinL [] ls = nm ++ [58] ++ spaced bare) (hnm : nm.length ≤ 100000) (hbr : bare.length ≤ 100000) (hls : ls.length ≤ 100000)
   (ret : ∀ h' tk', Fr h₀ L h' m → News h₀ L h' news → Q (.bool true) {s with heap := h', toks := tk'}) :
   wpAny (model prog w) (Tp none dp un gd cn cs L a ccd cl outer) (call (.ref 221) [.bytes nm.toArray t1, .bytes bare.toArray t2, .ref rl, .int width t3]) Q E s := by
  refine wpAny_call ?_
  k_dflt (refine' enterP (br := [(Str.ofString "width", .int width t3), (Str.ofString "rows", .ref rl), (Str.ofString "bare", .bytes bare.toArray t2), (Str.ofString "name", .bytes nm.toArray t1)]) ?k1 ?k2 ?k3 ?k4 ?k5 ?kA ?kF ?kK ?k6 ?k7 ?k8 ?k9 ?kB ?kR ?_ ?c2 ?c3 ?c4 ?c5; (case kA => exact rfl); (case kF => exact rfl); (case kK => assumption); (case k1 => k_asm); (case k2 => k_asm); (case k3 => k_asm); (case k4 => k_asm); (case k5 => k_asm); (case k6 => k_is); (case k7 => k_is); (case k8 => ktr_room); (case k9 => first | exact BindsTo.of_eq rfl | exact binds_K (by k_in) rfl (by k_is) rfl rfl rfl); (case c2 => decide); (case kB => exact locs rfl); (case kR => exact rfl); (case c3 => exact rfl); (case c4 => exact rfl); (case c5 => exact rfl); k_whole)
  intro g1 L1 h1 tk1 gk1 gk2 F1 N1 B1 X1 T1
  dsimp only [kstB] at F1
  have hH1 : HdOk none g1 := HdOk.none _
  try dsimp only
  try k_fold

  have hlx1 : g1.IsList rl vs.toArray := ⟨_, gk1 _ _ hlx, rfl, n, rfl⟩
  walk_at "steps"
  rename News _ _ _ _ => N2
  rename Fr _ _ _ _ => F2
  rename IsRange _ _ _ _ _ _ _ _ => R2
  have hrow : ∀ j, (ls.getD j []).length ≤ 200002 := rows_len hj hnm hbr
  have hjl := congrArg List.length hj
  have hsp := spaced_len bare
  simp only [List.length_append, List.length_cons, List.length_nil] at hjl
  refine' for_range (σ := Unit) (N := ls.length) (fun _ => []) (fun _ => []) [Str.ofString "inner"]
    (fun _ _ => True) () rfl R2 rfl (by omega) F2 N2 (by kst_all) trivial ?turn ?done
  case turn =>
    intro _ i t u h tk own hi hoff _ F3 N3
    clear F2 N2
    dsimp only [kstB] at F3
    dsimp only [List.map] at hoff
    simp only [List.contains_cons, List.contains_nil, Bool.or_false, beq_iff_eq, List.nil_append] at F3 N3
    have hr0 := hrow (i : Int).toNat
    have hr1 := hrow ((i : Int) + 1).toNat
    have hf1 := lawFirst_len (ls.getD ((i : Int) + 1).toNat [])
    have hF := rows_facts G hi
    obtain ⟨hA, hB, hC, hD, hE⟩ := hF
    walk_at "steps"
    all_goals first
      | (exfalso; omega)
      | (refine absurd ‹decide (stripL _ = []) = true› ?_; rw [decide_eq_true_eq]; exact hB (by assumption))
      | exact absurd (hC (by assumption) (by assumption)) (by assumption)
      | (exfalso; have := hE (by assumption); omega)
      | (refine absurd ‹(decide (_ = _) || decide (_ = _)) = false› ?_; obtain ⟨c, e, hc⟩ := hA (by assumption); rw [e]; rcases hc with rfl | rfl <;> decide)
      | (refine absurd ‹decide (cut _ _ none = []) = false› ?_; rw [hD (by assumption) (by assumption)]; decide)
  case done =>
    intro _ u h tk _ F3 N3
    clear F2 N2
    dsimp only [kstB] at F3
    walk_at "steps"
    all_goals (rename Fr _ _ _ _ => F5)
    all_goals (refine leave0 F5 fun F6 N6 => ?_)
    all_goals (
      have ret' : ∀ b h' tk', b = true → Fr h₀ L h' m → News h₀ L h' news → Q (.bool b) {s with heap := h', toks := tk'} := by rintro b h' tk' rfl a b; exact ret _ _ a b
      refine ret' _ _ _ ?_ F6 N6
      rw [decide_eq_true_eq, hj])
    · have hb : bare = [] := by simpa using ‹decide (bare = []) = true›
      rw [hb]
      exact List.append_nil _
    · have hb : bare ≠ [] := by simpa using ‹decide (bare = []) = false›
      cases bare with
      | nil => exact absurd rfl hb
      | cons c b => simp [spaced]

end

end Part_S19

section Part_S20

set_option hygiene false in
local macro_rules | `(tactic| k_inst) => `(tactic| exact instKeeps (by assumption) (Fr.keep (by k_asm)))

section
variable {prog p : Program} {w : World} {loose : List Str} {mean : ExcName → Option Value} {mg mb : Str → Option Value}
  {hdl : Option Value} {dp un : Nat} {gd : Option (List Code)} {cn : Str} {cs : Scope} {a : Addr} {ccd : Value} {cl : List (Str × Addr)} {outer : List Env} {A₀ : Around} {base h₀ : Heap} {L : Addr} {m : Str → Option Value} {news : List (Addr × Obj)} {s : Shared} {Q E : Value → Shared → Prop}

set_option maxHeartbeats 8000000 in
theorem told_spec {nm raw : List UInt8} {x dx : Addr} {e1 e2 : Int} {k1 k2 t1 t2 : Tok} (B : Below A₀ base outer h₀) (F : Fr h₀ L s.heap m) (X : (Mine.hd.heap_39 w.params).In h₀) (N : News h₀ L s.heap news) (T : Top p loose mean mg mb h₀) (hk : cs.kind = .function) (hdp : dp + 2 < recursionLimit) (hu : un + 16 < cLine) (hH : HdOk hdl s.heap) (hx : s.heap.get? x = some (instObj 93 dx)) (hdx : s.heap.get? dx = some (fieldD e1 e2 k1 k2 t1 t2 nm raw))
   (ret : ∀ a h' tk', Fr h₀ L h' m → News h₀ L h' ((a, tupObj [.bytes nm.toArray t1, .bytes raw.toArray t2]) :: news) → (∀ q ∈ news, a ≠ q.1) → Q (.ref a) {s with heap := h', toks := tk'}) :
   wpAny (model prog w) (Tp hdl dp un gd cn cs L a ccd cl outer) (call (.ref 90) [.ref x]) Q E s := by
  refine wpAny_call ?_
  k_dflt (refine' enterP (br := [(Str.ofString "self", .ref x)]) ?k1 ?k2 ?k3 ?k4 ?k5 ?kA ?kF ?kK ?k6 ?k7 ?k8 ?k9 ?kB ?kR ?_ ?c2 ?c3 ?c4 ?c5; (case kA => exact rfl); (case kF => exact rfl); (case kK => assumption); (case k1 => k_asm); (case k2 => k_asm); (case k3 => k_asm); (case k4 => k_asm); (case k5 => k_asm); (case k6 => k_is); (case k7 => k_is); (case k8 => ktr_room); (case k9 => first | exact BindsTo.of_eq rfl | exact binds_K (by k_in) rfl (by k_is) rfl rfl rfl); (case c2 => decide); (case kB => exact locs rfl); (case kR => exact rfl); (case c3 => exact rfl); (case c4 => exact rfl); (case c5 => exact rfl); k_whole)
  intro g1 L1 h1 tk1 gk1 gk2 F1 N1 B1 X1 T1
  dsimp only [kstB] at F1
  have hH1 : HdOk hdl g1 := hH.keeps gk1
  try dsimp only
  try k_fold

  have I1 : InstAt g1 x (instObj 93 dx) 93 (some (fieldD e1 e2 k1 k2 t1 t2 nm raw)) := ⟨gk1 _ _ hx, rfl, rfl, gk1 _ _ hdx⟩
  walk_at "steps"
  rename News _ _ _ _ => N5
  rename Fr _ _ _ _ => F5
  refine leave1 F5 N5 fun F6 N6 D6 => ?_
  exact ret _ _ _ F6 N6 D6
theorem read_folded_spec {nm body : List UInt8} {width : Int} {t : Tok} (B : Below A₀ base outer h₀) (F : Fr h₀ L s.heap m) (X : (Mine.hd.heap_39 w.params).In h₀) (N : News h₀ L s.heap news) (T : Top p loose mean mg mb h₀) (hk : cs.kind = .function) (hdp : dp + 8 < recursionLimit) (hu : un + 64 < cLine) (hH : HdOk hdl s.heap) (hb : clean body) (hn : isName nm = true) (hl : nm.length ≤ 100000) (hl' : body.length ≤ 100000)
   (ret : ∀ ta rl a1 a2 n e1 e2 k1 k2 u1 u2 u5 h' tk', Fr h₀ L h' m →
      News h₀ L h' ((ta, tupObj [.ref rl, .int (foldedL nm body width).length u5]) :: (rl, listOf [Value.ref a1].toArray n) :: (a1, instObj 93 a2) :: (a2, fieldD e1 e2 k1 k2 u1 u2 nm (rawOf nm body width)) :: news) →
      (∀ p ∈ [ta, rl, a1, a2], ∀ q ∈ news, p ≠ q.1) → Q (.ref ta) {s with heap := h', toks := tk'}) :
   wpAny (model prog w) (Tp hdl dp un gd cn cs L a ccd cl outer) (call (.ref 132) [.bytes (foldedL nm body width).toArray t]) Q E s := by
  obtain ⟨q, rest, S⟩ := folded_shape width hn hb
  have hfl := foldedL_len nm body width
  have hw := congrArg List.length S.whole
  have hp := isName_pos hn
  simp only [List.length_append, List.length_cons, List.length_nil] at hw
  refine read_fields_spec B F X N T hk hdp hu hH (by omega) (by omega) (S.colon hn) (by omega) ?_ (S.cont hn) (by omega) ?_
  · rw [S.line hn]
    simp only [List.length_append, List.length_cons, List.length_nil]
    omega
  · intro ta rl a1 a2 n e1 e2 k1 k2 u1 u2 u5 h' tk' F' N' D'
    rw [S.name] at N'
    exact ret _ _ _ _ _ _ _ _ _ _ _ _ _ _ F' N' D'

end

end Part_S20

section Part_S21

local macro_rules | `(tactic| walk_at "pad0") => `(tactic| fail)

theorem intsL_of : ∀ {vs : List Value} {ks : List Int}, IntsAre vs ks → IntsL vs ks
  | _, _, .nil => .nil
  | _, _, .cons _ _ h => .cons (intsL_of h)
theorem pool_ok (ns : List Int) : PoolOk ((ns.take 24).map fun k => (if k < 0 then -k else k).fmod (10 ^ (80 : Int).toNat)) := by
  have hb : (10 : Int) ^ (80 : Int).toNat = 100000000000000000000000000000000000000000000000000000000000000000000000000000000 := by decide
  refine ⟨?_, fun k hk => ?_⟩
  · rw [List.length_map, List.length_take]
    omega
  · obtain ⟨x, _, rfl⟩ := List.mem_map.mp hk
    rw [hb]
    refine ⟨Int.fmod_nonneg ?_ (by omega), Int.fmod_lt_of_pos _ (by omega)⟩
    split <;> omega
theorem pool_of {ys : List Value} {ns : List Int} (h : IntsAre ys ((ns.take 24).map fun k => (if k < 0 then -k else k).fmod (10 ^ (80 : Int).toNat))) : ∃ pk, IntsL ys pk ∧ PoolOk pk := ⟨_, intsL_of h, pool_ok ns⟩
section
variable {prog : Program} {w : World} {A : Around} {E : Value → Shared → Prop} {s : Shared}
theorem modPos {a b : Int} {t u : Tok} {Q : Value → Shared → Prop} (ha : 0 ≤ a) (hb : 0 < b) (h : ∀ r, 0 ≤ r → r < b → Q (.int r s.toks) { s with toks := s.toks + 1 }) : wpAny (model prog w) A (binaryOp .Mod (.int a t) (.int b u)) Q E s :=
  mod_int' (by omega) (h _ (Int.fmod_nonneg ha (by omega)) (Int.fmod_lt_of_pos _ hb))
theorem neTups {l b : Addr} {a c : List UInt8} {t1 t2 t3 t4 : Tok} {Q : Value → Shared → Prop} (hl : IsTup s.heap l [Value.bytes a.toArray t1, .bytes c.toArray t2].toArray) (hb : IsTup s.heap b [Value.bytes a.toArray t3, .bytes c.toArray t4].toArray) (hu : A.units < cLine)
    (h : Q (.bool false) s) : wpAny (model prog w) A (compareOp .NotEq (.ref l) (.ref b)) Q E s := by
  refine cmp_ofNotEq (RcNeAt.tuples (e := fun _ => true) hl hb hu (fun j h1 h2 => ?_) prog w E Q h)
  have key : ∀ (x : List UInt8) (t t' : Tok), EqAt A.in1 s (.bytes x.toArray t) (.bytes x.toArray t') true := fun x t t' => by
    have e : isB x (.bytes x.toArray t) = true := by show decide (x.toArray.toList = x) = true; simp
    have := eqB (A := A.in1) (s := s) (b := x.toArray) (l := x) (t := t) (u := t')
    rwa [e] at this
  match j with
  | 0 => exact key a t1 t3
  | 1 => exact key c t2 t4
  | j + 2 => exact absurd h1 (by simp)
end
theorem splitC_count {nm body : List UInt8} {width : Int} (hn : isName nm = true) (hb : clean body) : splitC (cut (foldedL nm body width) none (some (-2))) = foldRows nm body width := by
  have e : cut (foldedL nm body width) none (some (-2)) = joinL [13, 10] (foldRows nm body width) := by
    unfold foldedL
    exact cut_front _
  rw [e, splitC_join (foldRows_good nm body width).ne (foldRows_clean hn hb)]
theorem foldRows_count (nm body : List UInt8) (width : Int) : (foldRows nm body width).length ≤ body.length + 1 := by
  have h := fold_count width (mores (pieces (stripL body))) ([], nm ++ [58])
  have h1 := piecesF_count (stripL body).length (stripL body)
  have h2 := stripL_len body
  unfold foldRows foldAll
  rw [List.length_append, List.length_singleton]
  rw [mores_len] at h
  simp only [List.length_nil] at h
  unfold pieces at h ⊢
  omega
theorem hasB_append (a b : List UInt8) (k : UInt8) : hasB (a ++ b) k = (hasB a k || hasB b k) := by
  unfold hasB
  rw [List.any_append]
theorem clean_hasB {l : List UInt8} (h : clean l) : hasB l 10 = false ∧ hasB l 13 = false := by
  constructor <;> (unfold hasB; rw [List.any_eq_false]; intro c hc; have := h c hc; simp [this])
theorem isSound_no {nm raw : List UInt8} (h : ((rowsOf raw).drop 1).all rowOk = false) : isSound nm raw = false := by
  unfold isSound
  rw [h, Bool.and_false]
theorem isSound_yes {nm raw : List UInt8} (hn : isName nm = true) (h : ((rowsOf raw).drop 1).all rowOk = true) : isSound nm raw = true := by
  unfold isSound
  rw [h, hn]
  rfl
theorem sound1 : ((rowsOf [32, 97, 13, 10, 98]).drop 1).all rowOk = false := by decide +kernel
theorem sound2 : ((rowsOf [32, 97, 10]).drop 1).all rowOk = false := by decide +kernel
theorem sound3 : ((rowsOf [13, 10, 13, 10, 32, 97]).drop 1).all rowOk = false := by decide +kernel
theorem sound4 : ((rowsOf [32, 97, 13, 10, 32, 98, 10, 99]).drop 1).all rowOk = false := by decide +kernel
theorem sound5 : ((rowsOf [32, 97, 13, 10, 32, 98, 10, 9, 99]).drop 1).all rowOk = true := by decide +kernel
theorem sound6 : isSound [97, 32, 98] [] = false := by decide +kernel
theorem mem_len100 {l : List UInt8} {ls : List (List UInt8)} (h : l ∈ ls) (hs : ∀ x ∈ ls, x.length ≤ 100) : l.length ≤ 100 := hs l h
theorem name_bad {l : List UInt8} (a : (decide ([] = l) || (decide ([98, 32, 99] = l) || (decide ([233] = l) || decide ([100, 58] = l)))) = true) : isName l = false := by
  simp only [Bool.or_eq_true, decide_eq_true_eq] at a
  rcases a with rfl | rfl | rfl | rfl <;> decide
theorem name_good {l : List UInt8} (hm : l ∈ ([[84, 111], [88, 45, 76, 111, 110, 103, 45, 78, 97, 109, 101], [97], [], [98, 32, 99], [233], [100, 58]] : List (List UInt8)))
    (a : (decide ([] = l) || (decide ([98, 32, 99] = l) || (decide ([233] = l) || decide ([100, 58] = l)))) = false) : isName l = true := by
  simp only [List.mem_cons, List.not_mem_nil, or_false] at hm
  rcases hm with rfl | rfl | rfl | rfl | rfl | rfl | rfl <;> first | decide | (exact absurd a (by decide))
theorem refused_true {b : Bool} {A E C : List UInt8} (h : (hasB E 10 || hasB E 13) = true) : (b || (hasB (A ++ E ++ C) 10 || hasB (A ++ E ++ C) 13)) = true := by
  rw [hasB_append, hasB_append, hasB_append, hasB_append]
  cases h1 : hasB E 10 with
  | true => simp
  | false =>
    rw [h1, Bool.false_or] at h
    rw [h]
    simp

section
variable {prog p : Program} {w : World} {loose : List Str} {mean : ExcName → Option Value} {mg mb : Str → Option Value}
  {hdl : Option Value} {dp un : Nat} {gd : Option (List Code)} {cn : Str} {cs : Scope} {a : Addr} {ccd : Value} {cl : List (Str × Addr)} {outer : List Env} {A₀ : Around} {base h₀ : Heap} {L : Addr} {m : Str → Option Value} {news : List (Addr × Obj)} {s : Shared} {Q E : Value → Shared → Prop}

theorem law_refused_line {nm A E' C : List UInt8} {t1 t2 : Tok} (B : Below A₀ base [] h₀) (F : Fr h₀ L s.heap m) (X : (Mine.hd.heap_39 w.params).In h₀) (N : News h₀ L s.heap news) (T : Top p loose mean mg mb h₀) (hk : cs.kind = .function) (hdp : dp + 7 < recursionLimit) (hu : un + 56 < cLine)
   (XB : (Mine.hd.heap_39 w.params).In base) (TB : Top p loose mean mg mb base) (hl : nm.length ≤ 100000) (hl' : (A ++ E' ++ C).length ≤ 100000) (hE : (hasB E' 10 || hasB E' 13) = true)
   (ret : ∀ h' tk', Fr h₀ L h' m → News h₀ L h' news → Q (.bool true) {s with heap := h', toks := tk'}) :
   wpAny (model prog w) (Tp none dp un gd cn cs L a ccd cl []) (call (.ref 214) [.bytes nm.toArray t1, .bytes (A ++ E' ++ C).toArray t2]) Q E s :=
  law_refused_spec B F X N T hk hdp hu XB TB hl hl' fun h' tk' F' N' => by rw [refused_true hE]; exact ret _ _ F' N'

end

end Part_S21

section Part_S22

section
variable {prog p : Program} {w : World} {loose : List Str} {mean : ExcName → Option Value} {mg mb : Str → Option Value}
  {hdl : Option Value} {dp un : Nat} {gd : Option (List Code)} {cn : Str} {cs : Scope} {a : Addr} {ccd : Value} {cl : List (Str × Addr)} {outer : List Env} {A₀ : Around} {base h₀ : Heap} {L : Addr} {m : Str → Option Value} {news : List (Addr × Obj)} {s : Shared} {Q E : Value → Shared → Prop}

theorem unf_eq {nm body : List UInt8} (width : Int) (hn : isName nm = true) (hb : clean body) : stripL (joinL [] (rowsOf (rawOf nm body width))) = stripL body := by
  obtain ⟨q, rest, S⟩ := folded_shape width hn hb
  exact S.unfold
theorem snd_eq {nm body : List UInt8} (width : Int) (hn : isName nm = true) (hb : clean body) : isSound nm (rawOf nm body width) = true := by
  obtain ⟨q, rest, S⟩ := folded_shape width hn hb
  exact S.sound hn
theorem line_eq {nm body : List UInt8} (width : Int) (hn : isName nm = true) (hb : clean body) : fieldLine (nm, rawOf nm body width) = foldedL nm body width := by
  obtain ⟨q, rest, S⟩ := folded_shape width hn hb
  exact S.fieldLine
theorem raw_len (nm body : List UInt8) (width : Int) : (rawOf nm body width).length ≤ nm.length + 3 * body.length + 10 := Nat.le_trans (cut_len _ _ _) (foldedL_len nm body width)
theorem tail_eq (nm body : List UInt8) (width : Int) : cut (foldedL nm body width) (some (-2)) none = [13, 10] := by
  unfold foldedL
  exact cut_tail _
theorem bNeSame {A : Around} {l m' : List UInt8} {t u : Tok} (e : l = m') (h : Q (.bool false) s) : wpAny (model prog w) A (compareOp .NotEq (.bytes l.toArray t) (.bytes m'.toArray u)) Q E s := by
  refine bNe ?_
  rw [decide_eq_true e]
  exact h
theorem is_sound_val {nm raw : List UInt8} {x dx : Addr} {e1 e2 : Int} {k1 k2 t1 t2 : Tok} {b : Bool} (B : Below A₀ base outer h₀) (F : Fr h₀ L s.heap m) (X : (Mine.hd.heap_39 w.params).In h₀) (N : News h₀ L s.heap news) (T : Top p loose mean mg mb h₀) (hk : cs.kind = .function) (hdp : dp + 3 < recursionLimit) (hu : un + 24 < cLine) (hH : HdOk hdl s.heap) (hv : isSound nm raw = b) (hl : nm.length ≤ 16777215) (hl' : raw.length ≤ 16777215)
   (hx : s.heap.get? x = some (instObj 93 dx)) (hdx : s.heap.get? dx = some (fieldD e1 e2 k1 k2 t1 t2 nm raw))
   (ret : ∀ h' tk', Fr h₀ L h' m → News h₀ L h' news → Q (.bool b) {s with heap := h', toks := tk'}) :
   wpAny (model prog w) (Tp hdl dp un gd cn cs L a ccd cl outer) (call (.ref 183) [.ref x]) Q E s := is_sound_spec B F X N T hk hdp hu hH hl hl' hx hdx (by rw [hv]; exact ret)
theorem rows_folded {nm body : List UInt8} {rl : Addr} {vs : List Value} {n : Nat} {width : Int} {t1 t2 t3 : Tok} (B : Below A₀ base outer h₀) (F : Fr h₀ L s.heap m) (X : (Mine.hd.heap_39 w.params).In h₀) (N : News h₀ L s.heap news) (T : Top p loose mean mg mb h₀) (hk : cs.kind = .function) (hdp : dp + 4 < recursionLimit) (hu : un + 32 < cLine) (hlx : s.heap.get? rl = some (listOf vs.toArray n)) (hvb : BytesAre vs (foldRows nm body width))
   (hnm : nm.length ≤ 100000) (hbr : body.length ≤ 90000)
   (ret : ∀ h' tk', Fr h₀ L h' m → News h₀ L h' news → Q (.bool true) {s with heap := h', toks := tk'}) :
   wpAny (model prog w) (Tp none dp un gd cn cs L a ccd cl outer) (call (.ref 221) [.bytes nm.toArray t1, .bytes (stripL body).toArray t2, .ref rl, .int width t3]) Q E s :=
  rows_right_spec B F X N T hk hdp hu hlx hvb (foldRows_good _ _ _) (foldRows_join _ _ _) hnm (by have := stripL_len body; omega) (by have := foldRows_count nm body width; omega) ret
theorem write_folded {nm body : List UInt8} {width : Int} {lx x dx : Addr} {n : Nat} {e1 e2 : Int} {k1 k2 t1 t2 : Tok} (B : Below A₀ base outer h₀) (F : Fr h₀ L s.heap m) (X : (Mine.hd.heap_39 w.params).In h₀) (N : News h₀ L s.heap news) (T : Top p loose mean mg mb h₀) (hk : cs.kind = .function) (hdp : dp + 6 < recursionLimit) (hu : un + 48 < cLine) (hn : isName nm = true) (hb : clean body) (hnl : nm.length ≤ 100000) (hbl : body.length ≤ 100000)
   (hlx : s.heap.get? lx = some (listOf [Value.ref x].toArray n)) (hx : s.heap.get? x = some (instObj 93 dx)) (hdx : s.heap.get? dx = some (fieldD e1 e2 k1 k2 t1 t2 nm (rawOf nm body width)))
   (ret : ∀ t h' tk', Fr h₀ L h' m → News h₀ L h' news → Q (.bytes (foldedL nm body width).toArray t) {s with heap := h', toks := tk'}) :
   wpAny (model prog w) (Tp none dp un gd cn cs L a ccd cl outer) (call (.ref 188) [.ref lx]) Q E s := by
  have hr := raw_len nm body width
  have hfl := foldedL_len nm body width
  have hle := line_eq width hn hb
  have hj : joinL [] ([(nm, rawOf nm body width)].map fieldLine) = foldedL nm body width := hle
  refine write_fields_spec (fs := [(nm, rawOf nm body width)]) B F X N T hk hdp hu hlx (.cons ⟨_, _, _, _, _, _, _, hx, hdx⟩ .nil) ?_ ?_ (by show 1 ≤ 1000; decide) (fun _ => ?_) ?_
  · intro f hf
    rw [List.mem_singleton.mp hf]
    exact ⟨by dsimp only; omega, by dsimp only; omega⟩
  · rw [hj]; omega
  · rw [hj]; exact ret
  · rintro ⟨f, hf, hs⟩
    rw [List.mem_singleton.mp hf, snd_eq width hn hb] at hs
    cases hs
theorem write_bad {nm body raw : List UInt8} {width : Int} {lx x dx y dy : Addr} {n : Nat} {e1 e2 e3 e4 : Int} {k1 k2 t1 t2 k3 k4 t3 t4 : Tok} (B : Below A₀ base outer h₀) (F : Fr h₀ L s.heap m) (X : (Mine.hd.heap_39 w.params).In h₀) (N : News h₀ L s.heap news) (T : Top p loose mean mg mb h₀) (hk : cs.kind = .function) (hdp : dp + 6 < recursionLimit) (hu : un + 48 < cLine) (hn : isName nm = true) (hb : clean body) (hnl : nm.length ≤ 100000) (hbl : body.length ≤ 100000)
   (hrl : raw.length ≤ 1000) (hs2 : isSound nm raw = false)
   (hlx : s.heap.get? lx = some (listOf [Value.ref x, Value.ref y].toArray n)) (hx : s.heap.get? x = some (instObj 93 dx)) (hdx : s.heap.get? dx = some (fieldD e1 e2 k1 k2 t1 t2 nm (rawOf nm body width)))
   (hy : s.heap.get? y = some (instObj 93 dy)) (hdy : s.heap.get? dy = some (fieldD e3 e4 k3 k4 t3 t4 nm raw))
   (rse : ∀ e h' tk', Rsd s.heap (frs (envX cn cs L a ccd cl :: outer)) e .none h' → E (.ref e) {s with heap := h', toks := tk'}) :
   wpAny (model prog w) (Tp none dp un gd cn cs L a ccd cl outer) (call (.ref 188) [.ref lx]) Q E s := by
  have hr := raw_len nm body width
  have hl : (joinL [] ([(nm, rawOf nm body width), (nm, raw)].map fieldLine)).length ≤ 16777216 := by
    rw [joinL_nil]
    simp only [List.map_cons, List.map_nil, List.flatten_cons, List.flatten_nil, fieldLine, List.length_append, List.length_cons, List.length_nil]
    omega
  refine write_fields_spec (fs := [(nm, rawOf nm body width), (nm, raw)]) B F X N T hk hdp hu hlx (.cons ⟨_, _, _, _, _, _, _, hx, hdx⟩ (.cons ⟨_, _, _, _, _, _, _, hy, hdy⟩ .nil)) ?_ hl (by show 2 ≤ 1000; decide) (fun h => ?_) (fun _ => rse)
  · intro f hf
    rcases List.mem_cons.mp hf with rfl | hf
    · exact ⟨by dsimp only; omega, by dsimp only; omega⟩
    · rw [List.mem_singleton.mp hf]
      exact ⟨by dsimp only; omega, by dsimp only; omega⟩
  · have := h (nm, raw) (.tail _ (.head _))
    rw [hs2] at this
    cases this
theorem neIntSame {A : Around} {a b : Int} {t u : Tok} (e : a = b) (h : Q (.bool false) s) : wpAny (model prog w) A (compareOp .NotEq (.int a t) (.int b u)) Q E s := by
  subst e
  exact ne_int (by simpa using h)
theorem foldedL_small {nm body : List UInt8} {width : Int} (h1 : nm.length ≤ 100) (h2 : body.length ≤ 1000) : (foldedL nm body width).length ≤ 4000 := by
  have := foldedL_len nm body width
  omega
theorem rawOf_small {nm body : List UInt8} {width : Int} (h1 : nm.length ≤ 100) (h2 : body.length ≤ 1000) : (rawOf nm body width).length ≤ 4000 := by
  have := raw_len nm body width
  omega
theorem split_folded {A : Around} {nm body : List UInt8} {width : Int} {t u : Tok} (F : Fr h₀ L s.heap m) (N : News h₀ L s.heap news) (hn : isName nm = true) (hb : clean body) (h1 : nm.length ≤ 100) (h2 : body.length ≤ 1000)
    (h : ∀ a vs h' k, BytesAre vs (foldRows nm body width) → Fr h₀ L h' m → News h₀ L h' ((a, listOf vs.toArray 0) :: news) → (∀ p ∈ news, p.1 < a) → Q (.ref a) { s with heap := h', toks := k }) :
    wpAny (model prog w) A (call (.builtin "bytes.split") [.bytes (cut (foldedL nm body width) none (some (-2))).toArray t, .bytes [13, 10].toArray u]) Q E s := by
  have e := splitC_count (width := width) hn hb
  have hc := foldRows_count nm body width
  have hl := foldedL_small (width := width) h1 h2
  have hl2 := cut_len (foldedL nm body width) none (some (-2))
  refine cSplit F N (by omega) (by rw [e]; omega) ?_
  rw [e]
  exact h

end

end Part_S22

section Part_S23

local macro_rules | `(tactic| walk_at "pad0") => `(tactic| fail)

section
variable {prog p : Program} {w : World} {loose : List Str} {mean : ExcName → Option Value} {mg mb : Str → Option Value}
  {hdl : Option Value} {dp un : Nat} {gd : Option (List Code)} {cn : Str} {cs : Scope} {a : Addr} {ccd : Value} {cl : List (Str × Addr)} {outer : List Env} {A₀ : Around} {base h₀ : Heap} {L : Addr} {m : Str → Option Value} {news : List (Addr × Obj)} {s : Shared} {Q E : Value → Shared → Prop}

/-- what folded and made_field give, under names that do not compute -/
structure LF (nm body : List UInt8) (width : Int) (O R : List UInt8) (RL : List (List UInt8)) : Prop where
  hn : isName nm = true
  hb : clean body
  h1 : nm.length ≤ 100
  h2 : body.length ≤ 1000
  eO : O = foldedL nm body width
  eR : R = rawOf nm body width
  eL : RL = foldRows nm body width
theorem lf_of {nm body : List UInt8} (width : Int) (hn : isName nm = true) (hb : clean body) (h1 : nm.length ≤ 100) (h2 : body.length ≤ 1000) :
    ∃ O R RL, LF nm body width O R RL ∧ O.length ≤ 4000 ∧ R.length ≤ 4000 ∧ cut O (some (-2)) none = [13, 10] ∧ isSound nm R = true :=
  ⟨_, _, _, ⟨hn, hb, h1, h2, rfl, rfl, rfl⟩, foldedL_small h1 h2, rawOf_small h1 h2, tail_eq _ _ _, snd_eq width hn hb⟩
theorem folded_lf {nm body O R : List UInt8} {RL : List (List UInt8)} {width : Int} {t1 t2 t3 : Tok} (B : Below A₀ base outer h₀) (F : Fr h₀ L s.heap m) (X : (Mine.hd.heap_39 w.params).In h₀) (N : News h₀ L s.heap news) (T : Top p loose mean mg mb h₀) (hk : cs.kind = .function) (hdp : dp + 7 < recursionLimit) (hu : un + 56 < cLine) (I : LF nm body width O R RL)
   (ret : ∀ t h' tk', Fr h₀ L h' m → News h₀ L h' news → Q (.bytes O.toArray t) {s with heap := h', toks := tk'}) :
   wpAny (model prog w) (Tp none dp un gd cn cs L a ccd cl outer) (call (.ref 168) [.bytes nm.toArray t1, .bytes body.toArray t2, .int width t3]) Q E s := by
  have h1 := I.h1
  have h2 := I.h2
  have hc := clean_hasB I.hb
  refine folded_spec B F X N T hk (by omega) (by omega) (.inl rfl) (by omega) (by omega) (fun _ _ _ => ?_) (fun q => ?_)
  · rw [← I.eO]
    exact ret
  · exfalso
    rw [I.hn, hc.1, hc.2] at q
    rcases q with q | q | q <;> cases q
theorem read_lf {nm body O R : List UInt8} {RL : List (List UInt8)} {width : Int} {t : Tok} (B : Below A₀ base outer h₀) (F : Fr h₀ L s.heap m) (X : (Mine.hd.heap_39 w.params).In h₀) (N : News h₀ L s.heap news) (T : Top p loose mean mg mb h₀) (hk : cs.kind = .function) (hdp : dp + 8 < recursionLimit) (hu : un + 64 < cLine) (hH : HdOk hdl s.heap) (I : LF nm body width O R RL)
   (ret : ∀ ta rl a1 a2 n e1 e2 k1 k2 u1 u2 u5 h' tk', Fr h₀ L h' m →
      News h₀ L h' ((ta, tupObj [.ref rl, .int O.length u5]) :: (rl, listOf [Value.ref a1].toArray n) :: (a1, instObj 93 a2) :: (a2, fieldD e1 e2 k1 k2 u1 u2 nm R) :: news) →
      (∀ p ∈ [ta, rl, a1, a2], ∀ q ∈ news, p ≠ q.1) → Q (.ref ta) {s with heap := h', toks := tk'}) :
   wpAny (model prog w) (Tp hdl dp un gd cn cs L a ccd cl outer) (call (.ref 132) [.bytes O.toArray t]) Q E s := by
  have h1 := I.h1
  have h2 := I.h2
  obtain ⟨hn, hb, _, _, rfl, rfl, rfl⟩ := I
  exact read_folded_spec B F X N T hk hdp hu hH hb hn (by omega) (by omega) ret
theorem unfolded_lf {nm body O R : List UInt8} {RL : List (List UInt8)} {width : Int} {t : Tok} (B : Below A₀ base outer h₀) (F : Fr h₀ L s.heap m) (X : (Mine.hd.heap_39 w.params).In h₀) (N : News h₀ L s.heap news) (T : Top p loose mean mg mb h₀) (hk : cs.kind = .function) (hdp : dp + 3 < recursionLimit) (hu : un + 24 < cLine) (hH : HdOk hdl s.heap) (I : LF nm body width O R RL)
   (ret : ∀ t h' tk', Fr h₀ L h' m → News h₀ L h' news → Q (.bytes (stripL body).toArray t) {s with heap := h', toks := tk'}) :
   wpAny (model prog w) (Tp hdl dp un gd cn cs L a ccd cl outer) (call (.ref 146) [.bytes R.toArray t]) Q E s := by
  have hz := rawOf_small (width := width) I.h1 I.h2
  obtain ⟨hn, hb, _, _, rfl, rfl, rfl⟩ := I
  refine unfolded_spec B F X N T hk hdp hu hH (by omega) ?_
  rw [unf_eq width hn hb]
  exact ret
theorem split_lf {A : Around} {nm body O R : List UInt8} {RL : List (List UInt8)} {width : Int} {t u : Tok} (F : Fr h₀ L s.heap m) (N : News h₀ L s.heap news) (I : LF nm body width O R RL)
    (h : ∀ a vs h' k, BytesAre vs RL → Fr h₀ L h' m → News h₀ L h' ((a, listOf vs.toArray 0) :: news) → (∀ p ∈ news, p.1 < a) → Q (.ref a) { s with heap := h', toks := k }) :
    wpAny (model prog w) A (call (.builtin "bytes.split") [.bytes (cut O none (some (-2))).toArray t, .bytes [13, 10].toArray u]) Q E s := by
  obtain ⟨hn, hb, h1, h2, rfl, rfl, rfl⟩ := I
  exact split_folded F N hn hb h1 h2 h
theorem rows_lf {nm body O R : List UInt8} {RL : List (List UInt8)} {rl : Addr} {vs : List Value} {n : Nat} {width : Int} {t1 t2 t3 : Tok} (B : Below A₀ base outer h₀) (F : Fr h₀ L s.heap m) (X : (Mine.hd.heap_39 w.params).In h₀) (N : News h₀ L s.heap news) (T : Top p loose mean mg mb h₀) (hk : cs.kind = .function) (hdp : dp + 4 < recursionLimit) (hu : un + 32 < cLine) (I : LF nm body width O R RL) (hlx : s.heap.get? rl = some (listOf vs.toArray n)) (hvb : BytesAre vs RL)
   (ret : ∀ h' tk', Fr h₀ L h' m → News h₀ L h' news → Q (.bool true) {s with heap := h', toks := tk'}) :
   wpAny (model prog w) (Tp none dp un gd cn cs L a ccd cl outer) (call (.ref 221) [.bytes nm.toArray t1, .bytes (stripL body).toArray t2, .ref rl, .int width t3]) Q E s := by
  have h1 := I.h1
  have h2 := I.h2
  obtain ⟨hn, hb, _, _, rfl, rfl, rfl⟩ := I
  exact rows_folded B F X N T hk hdp hu hlx hvb (by omega) (by omega) ret
theorem made_lf {nm body O R : List UInt8} {RL : List (List UInt8)} {t1 t2 t3 : Tok} {width : Int} (B : Below A₀ base outer h₀) (F : Fr h₀ L s.heap m) (X : (Mine.hd.heap_39 w.params).In h₀) (N : News h₀ L s.heap news) (T : Top p loose mean mg mb h₀) (hk : cs.kind = .function) (hdp : dp + 8 < recursionLimit) (hu : un + 64 < cLine) (I : LF nm body width O R RL)
   (ret : ∀ x dx e1 e2 k1 k2 u1 u2 h' tk', Fr h₀ L h' m → News h₀ L h' ((x, instObj 93 dx) :: (dx, fieldD e1 e2 k1 k2 u1 u2 nm R) :: news) → (∀ q ∈ news, x ≠ q.1) → (∀ q ∈ news, dx ≠ q.1) → Q (.ref x) {s with heap := h', toks := tk'}) :
   wpAny (model prog w) (Tp none dp un gd cn cs L a ccd cl outer) (call (.ref 176) [.bytes nm.toArray t1, .bytes body.toArray t2, .int width t3]) Q E s := by
  have h1 := I.h1
  have h2 := I.h2
  have hc := clean_hasB I.hb
  obtain ⟨hn, hb, _, _, rfl, rfl, rfl⟩ := I
  exact made_field_spec B F X N T hk hdp hu (by omega) (by omega) hn hc.1 hc.2 ret
theorem write_lf {nm body O R : List UInt8} {RL : List (List UInt8)} {width : Int} {lx x dx : Addr} {n : Nat} {e1 e2 : Int} {k1 k2 t1 t2 : Tok} (B : Below A₀ base outer h₀) (F : Fr h₀ L s.heap m) (X : (Mine.hd.heap_39 w.params).In h₀) (N : News h₀ L s.heap news) (T : Top p loose mean mg mb h₀) (hk : cs.kind = .function) (hdp : dp + 6 < recursionLimit) (hu : un + 48 < cLine) (I : LF nm body width O R RL)
   (hlx : s.heap.get? lx = some (listOf [Value.ref x].toArray n)) (hx : s.heap.get? x = some (instObj 93 dx)) (hdx : s.heap.get? dx = some (fieldD e1 e2 k1 k2 t1 t2 nm R))
   (ret : ∀ t h' tk', Fr h₀ L h' m → News h₀ L h' news → Q (.bytes O.toArray t) {s with heap := h', toks := tk'}) :
   wpAny (model prog w) (Tp none dp un gd cn cs L a ccd cl outer) (call (.ref 188) [.ref lx]) Q E s := by
  have h1 := I.h1
  have h2 := I.h2
  obtain ⟨hn, hb, _, _, rfl, rfl, rfl⟩ := I
  exact write_folded B F X N T hk hdp hu hn hb (by omega) (by omega) hlx hx hdx ret
theorem write_bad_lf {nm body O R raw : List UInt8} {RL : List (List UInt8)} {width : Int} {lx x dx y dy : Addr} {n : Nat} {e1 e2 e3 e4 : Int} {k1 k2 t1 t2 k3 k4 t3 t4 : Tok} (B : Below A₀ base outer h₀) (F : Fr h₀ L s.heap m) (X : (Mine.hd.heap_39 w.params).In h₀) (N : News h₀ L s.heap news) (T : Top p loose mean mg mb h₀) (hk : cs.kind = .function) (hdp : dp + 6 < recursionLimit) (hu : un + 48 < cLine) (I : LF nm body width O R RL)
   (hrl : raw.length ≤ 1000) (hs2 : isSound nm raw = false)
   (hlx : s.heap.get? lx = some (listOf [Value.ref x, Value.ref y].toArray n)) (hx : s.heap.get? x = some (instObj 93 dx)) (hdx : s.heap.get? dx = some (fieldD e1 e2 k1 k2 t1 t2 nm R))
   (hy : s.heap.get? y = some (instObj 93 dy)) (hdy : s.heap.get? dy = some (fieldD e3 e4 k3 k4 t3 t4 nm raw))
   (rse : ∀ e h' tk', Rsd s.heap (frs (envX cn cs L a ccd cl :: outer)) e .none h' → E (.ref e) {s with heap := h', toks := tk'}) :
   wpAny (model prog w) (Tp none dp un gd cn cs L a ccd cl outer) (call (.ref 188) [.ref lx]) Q E s := by
  have h1 := I.h1
  have h2 := I.h2
  obtain ⟨hn, hb, _, _, rfl, rfl, rfl⟩ := I
  exact write_bad B F X N T hk hdp hu hn hb (by omega) (by omega) hrl hs2 hlx hx hdx hy hdy rse

end

end Part_S23

section Part_S24

theorem hdNews {h₀ h : Heap} {L e : Addr} {oe : Obj} {vs : Array Value} {news : List (Addr × Obj)} (N : News h₀ L h news) (hm : (e, oe) ∈ news) (hd : oe.data = .fields vs) (h2 : vs[2]? = some .none) : HdOk (some (.ref e)) h :=
  .inr ⟨e, oe, vs, rfl, N.get hm, hd, h2⟩
theorem caught_news {g g' G h' : Heap} {fs fs2 : List Addr} {L e : Addr} {fl : Value} {m : Str → Option Value} {news : List (Addr × Obj)} (F : Fr g L G m) (T : KtsTurn fs2 g g') (R : Rsd G fs e fl h') (N : News g' L h' news) :
    ∃ oe vs, News g' L h' ((e, oe) :: news) ∧ oe.data = .fields vs ∧ vs[2]? = some .none := by
  obtain ⟨_, hge, oe, vs, _, _, _, he, _, hd, _, h2, _⟩ := R
  refine ⟨oe, vs, fun q hq => ?_, hd, h2⟩
  rcases List.mem_cons.mp hq with rfl | hq
  · refine ⟨he, fun z => ?_, T.none_ _ ?_⟩
    · obtain ⟨oL, _, _, hL, _⟩ := F.ns
      dsimp only at z
      rw [z, hL] at hge
      cases hge
    · cases z : g.get? e with
      | none => rfl
      | some o => rw [F.keep _ _ z] at hge; cases hge
  · exact N q hq
theorem with_end {c : ClaimW} {cl : Str → Option Addr} {mean : ExcName → Option Value} {args : List WData} {s₁ s : Shared} {M : Model} {A A' : Around} {α : Type} {t : Sem α} {Q : α → Shared → Prop} {env : Env}
    (h1 : ∀ k, c.raises args k = false) (h2 : c.post args (.bool true) args = true)
    (k : (∀ k, c.raises args k = false) → c.post args (.bool true) args = true → wpAny M A t Q (fun e s' => wpAny M A' (leaving env e) (fun _ s'' => GoodW c cl mean args s₁ (.error e) s'') (fun e' s'' => GoodW c cl mean args s₁ (.error e') s'') s') s) :
    wpAny M A t Q (fun e s' => wpAny M A' (leaving env e) (fun _ s'' => GoodW c cl mean args s₁ (.error e) s'') (fun e' s'' => GoodW c cl mean args s₁ (.error e') s'') s') s := k h1 h2

end Part_S24

section Part_L0

set_option hygiene false in
local macro_rules | `(tactic| walk_at "subscriptTail") => `(tactic| (k_here; (with_reducible show wpAny _ _ (subscriptTail _ (Expr.Call _ _ _ _) (Value.ref _) (Value.int _ _)) _ _ _); k_dflt (refine' tItemB ?kT ?kb ?k0 ?k1 ?kz ?_; (case kT => walk_at "tup"); (case kb => exact rfl); (case k0 => walk_at "ar"); (case k1 => walk_at "ar"); (case kz => walk_at "ar")); intro tiL tiT tiM; (simp only [List.map_cons, List.map_nil, octsOf] at tiM); (have tiZ := mem_len100 tiM (by decide +kernel))))

set_option hygiene false in
local macro_rules | `(tactic| walk_at "exec For Name Call cons nil") => `(tactic| (k_here; (rename Fr _ _ _ _ => lF'); (with_unfolding_all refine' For_invVF lF' ?k1 ?k2 ?_; (case k1 => exact rfl); (case k2 => exact rfl); k_whole)))
set_option hygiene false in
local macro_rules | `(tactic| walk_at "call ref") => `(tactic| (k_here; (with_reducible show wpAny _ _ (call (Value.ref 195) _) _ _ _); k_dflt (refine' law_take_spec ?k1 ?k2 ?k3 ?k4 ?k5 ?kK ?kd ?ku ?kU ?kv ?ko ?ka ?kb ?_; walk_at "c8"; (case kU => k_updF); (case kv => with_reducible assumption); (case ko => with_reducible assumption); (case ka => decide); (case kb => decide); k_whole); intro ltD ltT ltV ltK ltN h' tk' ltA ltB ltI ltP F' N'; (try dsimp only at N'); walk_at "c3"))

set_option hygiene false in
local macro_rules | `(tactic| walk_at "call ref") => `(tactic| (k_here; (with_reducible show wpAny _ _ (call (Value.ref 202) _) _ _ _); k_dflt (refine' law_words_spec ?k1 ?k2 ?k3 ?k4 ?k5 ?kK ?kd ?ku ?kU ?kv ?ko ?_; walk_at "c8"; (case kU => k_updF); (case kv => with_reducible assumption); (case ko => with_reducible assumption); k_whole); intro lwL lwT lwV lwK lwN h' tk' lwZ lwC lwI lwP F' N'; (try dsimp only at N'); walk_at "c3"))
set_option hygiene false in
local macro_rules | `(tactic| walk_at "call ref") => `(tactic| (k_here; (with_reducible show wpAny _ _ (call (Value.ref 214) _) _ _ _); k_dflt (refine' law_refused_spec ?k1 ?k2 ?k3 ?k4 ?k5 ?kK ?kd ?ku ?kX ?kT ?ka ?kb ?_; (case k1 => k_asm); (case k2 => k_asm); (case k3 => k_asm); (case k4 => k_asm); (case k5 => k_asm); (case kX => k_asm); (case kT => k_asm); (case kK => first | exact rfl | assumption); (case kd => ktr_room); (case ku => ktr_units); (case ka => walk_at "ar"); (case kb => walk_at "ar"); k_whole); intro h' tk' F' N'; walk_at "c3"))
set_option hygiene false in
local macro_rules | `(tactic| walk_at "binaryOp Mod int int") => `(tactic| (k_here; (with_reducible show wpAny _ _ (binaryOp Operator.Mod (Value.int _ _) (Value.int (_ + 1) _)) _ _ _); refine modPos ?fa ?fb ?_; (case fa => walk_at "ar"); (case fb => walk_at "ar"); intro mpR mpA mpB))
set_option hygiene false in
local macro_rules | `(tactic| walk_at "compareOp In bytes ref") => `(tactic| (k_here; k_dflt (refine' inBytes ?fT ?fi ?fr ?_; (case fT => walk_at "tup"); (case fi => exact isBy_of rfl); (case fr => (simp only [List.any_cons, List.any_nil, isB, Bool.or_false]; exact rfl)))))
set_option hygiene false in
local macro_rules | `(tactic| walk_at "stepsC") => `(tactic| repeat' (first | (k_unfold; (try dsimp only)) | ((with_reducible show wpAny _ _ (execs _ _) _ _ _); k_fold) | ((fail_if_success (with_reducible show wpAny _ _ (exec (Stmt.While _ _ _ _) _) _ _ _)); (fail_if_success (with_reducible show wpAny _ _ (call (Value.ref _) _) _ _ _)); (fail_if_success (with_reducible show wpAny _ _ (exec (Stmt.Raise _ _ _) _) _ _ _)); first | walk1 | (dsimp only; walk1) | (leave1; walk_say "STEP leave1"; try dsimp only))))
set_option hygiene false in
local macro_rules | `(tactic| walk_at "stepsF") => `(tactic| repeat' (first | (k_unfold; (try dsimp only)) | ((with_reducible show wpAny _ _ (execs _ _) _ _ _); k_fold) | ((fail_if_success (with_reducible show wpAny _ _ (exec (Stmt.For _ _ _ _ _) _) _ _ _)); (fail_if_success (with_reducible show wpAny _ _ (exec (Stmt.Try _ _ _ _ _) _) _ _ _)); (fail_if_success (with_reducible show wpAny _ _ (pyIter _) _ _ _)); (fail_if_success (with_reducible show wpAny _ _ (exec (Stmt.Raise _ _ _) _) _ _ _)); first | walk1 | (dsimp only; walk1) | (leave1; walk_say "STEP leave1"; try dsimp only))))
set_option hygiene false in
local macro_rules | `(tactic| walk_at "call ref") => `(tactic| (k_here; (with_reducible show wpAny _ _ (call (Value.ref _) [_, Value.bytes (List.toArray (_ ++ _ ++ _)) _] _) _ _ _); (with_reducible show wpAny _ _ (call (Value.ref 214) _) _ _ _); k_dflt (refine' law_refused_line ?k1 ?k2 ?k3 ?k4 ?k5 ?kK ?kd ?ku ?kX ?kT ?ka ?kb ?kE ?_; (case kE => decide); (case k1 => k_asm); (case k2 => k_asm); (case k3 => k_asm); (case k4 => k_asm); (case k5 => k_asm); (case kX => k_asm); (case kT => k_asm); (case kK => first | exact rfl | assumption); (case kd => ktr_room); (case ku => ktr_units); (case ka => walk_at "ar"); (case kb => walk_at "ar"); k_whole); intro h' tk' F' N'; walk_at "c3"))

set_option hygiene false in
local macro_rules | `(tactic| walk_at "call ref") => `(tactic| (k_here; (with_reducible show wpAny _ _ (call (Value.ref 93) _) _ _ _); k_dflt (refine' field_new_spec ?k1 ?k2 ?k3 ?k4 ?k5 ?kK ?kd ?ku ?kH ?_; walk_at "c8"; (case kH => walk_at "hd"); k_whole); intro fnX fnD fnE fnF fnK fnL h' tk' F' N' fnA fnB; (try simp only [List.forall_mem_cons, List.not_mem_nil, false_implies, implies_true, and_true] at fnA fnB); walk_at "c3"))

set_option hygiene false in
local macro_rules | `(tactic| walk_at "at") => `(tactic| first
  | with_reducible assumption
  | exact (News.get (by k_asm) (by k_mem))
  | exact (Fr.keep (by k_asm) _ _ (by with_reducible assumption))
  | exact (Fr.keep (by k_asm) _ _ (by assumption)))
set_option hygiene false in
local macro_rules | `(tactic| walk_at "call ref") => `(tactic| (k_here; (with_reducible show wpAny _ _ (call (Value.ref 183) _) _ _ _); k_dflt (refine' is_sound_spec ?k1 ?k2 ?k3 ?k4 ?k5 ?kK ?kd ?ku ?kH ?ka ?kb ?kx ?ky ?_; (case kx => walk_at "at"); (case ky => walk_at "at"); walk_at "c8"; (case kH => walk_at "hd"); (case ka => walk_at "ar"); (case kb => walk_at "ar"); k_whole); intro h' tk' F' N'; walk_at "c3"))

set_option hygiene false in
local macro_rules | `(tactic| walk_at "call builtin:len") => `(tactic| (k_here; (with_reducible show wpAny _ _ (call (Value.builtin "len") [Value.ref _]) _ _ _); refine' lLen ?fN ?fm ?fa ?_; (case fN => k_asm); (case fm => k_mem); (case fa => walk_at "ar")))
set_option hygiene false in
local macro_rules | `(tactic| walk_at "call builtin:list.pop") => `(tactic| (k_here; (with_reducible show wpAny _ _ (call (Value.builtin "list.pop") [Value.ref _, Value.int 0 _]) _ _ _); (with_reducible rename Fr _ _ _ _ => F'); (with_reducible rename News _ _ _ _ => N'); refine lPop0 F' N' ?fa ?_; (case fa => walk_at "ar"); intro h' F' N'; (try k_sweep)))
set_option hygiene false in
local macro_rules | `(tactic| walk_at "subscriptTail Name Constant ref int") => `(tactic| (k_here; (with_reducible show wpAny _ _ (subscriptTail _ _ (Value.ref _) (Value.int 0 _)) _ _ _); refine' lItem0 ?fN ?fm ?_; (case fN => k_asm); (case fm => k_mem)))

set_option hygiene false in
local macro_rules | `(tactic| walk_at "call ref") => `(tactic| (k_here; (with_reducible show wpAny _ _ (call (Value.ref 168) _) _ _ _); k_dflt (refine' folded_lf ?k1 ?k2 ?k3 ?k4 ?k5 ?kK ?kd ?ku ?kI ?_; (case kI => with_reducible assumption); walk_at "c8"; k_whole); intro foT h' tk' F' N'; walk_at "c3"))
set_option hygiene false in
local macro_rules | `(tactic| walk_at "call ref") => `(tactic| (k_here; (with_reducible show wpAny _ _ (call (Value.ref 132) _) _ _ _); k_dflt (refine' read_lf ?k1 ?k2 ?k3 ?k4 ?k5 ?kK ?kd ?ku ?kH ?kI ?_; (case kI => with_reducible assumption); walk_at "c8"; (case kH => walk_at "hd"); k_whole); intro rdT rdR rdX rdD rdN rd1 rd2 rd3 rd4 rd5 rd6 rd7 h' tk' F' N' rdO; (try simp only [List.forall_mem_cons, List.not_mem_nil, false_implies, implies_true, and_true] at rdO); walk_at "c3"))
set_option hygiene false in
local macro_rules | `(tactic| walk_at "call ref") => `(tactic| (k_here; (with_reducible show wpAny _ _ (call (Value.ref 146) _) _ _ _); k_dflt (refine' unfolded_lf ?k1 ?k2 ?k3 ?k4 ?k5 ?kK ?kd ?ku ?kH ?kI ?_; (case kI => with_reducible assumption); walk_at "c8"; (case kH => walk_at "hd"); k_whole); intro ufT h' tk' F' N'; walk_at "c3"))
set_option hygiene false in
local macro_rules | `(tactic| walk_at "call ref") => `(tactic| (k_here; (with_reducible show wpAny _ _ (call (Value.ref 221) _) _ _ _); k_dflt (refine' rows_lf ?k1 ?k2 ?k3 ?k4 ?k5 ?kK ?kd ?ku ?kI ?kx ?kv ?_; (case kI => with_reducible assumption); (case kx => walk_at "at"); (case kv => with_reducible assumption); walk_at "c8"; k_whole); intro h' tk' F' N'; walk_at "c3"))
set_option hygiene false in
local macro_rules | `(tactic| walk_at "call ref") => `(tactic| (k_here; (with_reducible show wpAny _ _ (call (Value.ref 176) _) _ _ _); k_dflt (refine' made_lf ?k1 ?k2 ?k3 ?k4 ?k5 ?kK ?kd ?ku ?kI ?_; (case kI => with_reducible assumption); walk_at "c8"; k_whole); intro mfX mfD mf1 mf2 mf3 mf4 mf5 mf6 h' tk' F' N' mfA mfB; (try simp only [List.forall_mem_cons, List.not_mem_nil, false_implies, implies_true, and_true] at mfA mfB); walk_at "c3"))
set_option hygiene false in
local macro_rules | `(tactic| walk_at "call ref") => `(tactic| (k_here; (with_reducible show wpAny _ _ (call (Value.ref 188) _) _ _ _); k_dflt (refine' write_lf ?k1 ?k2 ?k3 ?k4 ?k5 ?kK ?kd ?ku ?kI ?kl ?kx ?ky ?_; (case kI => with_reducible assumption); (case kl => walk_at "at"); (case kx => walk_at "at"); (case ky => walk_at "at"); walk_at "c8"; k_whole); intro wfT h' tk' F' N'; walk_at "c3"))
set_option hygiene false in
local macro_rules | `(tactic| walk_at "call ref") => `(tactic| (k_here; (with_reducible show wpAny _ _ (call (Value.ref 90) _) _ _ _); k_dflt (refine' told_spec ?k1 ?k2 ?k3 ?k4 ?k5 ?kK ?kd ?ku ?kH ?kx ?ky ?_; (case kx => walk_at "at"); (case ky => walk_at "at"); walk_at "c8"; (case kH => walk_at "hd"); k_whole); intro tdA h' tk' F' N' tdO; (try simp only [List.forall_mem_cons, List.not_mem_nil, false_implies, implies_true, and_true] at tdO); walk_at "c3"))
set_option hygiene false in
local macro_rules | `(tactic| walk_at "call ref") => `(tactic| (k_here; (with_reducible show wpAny _ _ (call (Value.ref 183) _) _ _ _); k_dflt (refine' is_sound_val ?k1 ?k2 ?k3 ?k4 ?k5 ?kK ?kd ?ku ?kH ?kv ?ka ?kb ?kx ?ky ?_; (case kx => walk_at "at"); (case ky => walk_at "at"); (case kv => first | with_reducible assumption | with_reducible exact isSound_no sound1 | with_reducible exact isSound_no sound2 | with_reducible exact isSound_no sound3 | with_reducible exact isSound_no sound4 | with_reducible exact isSound_yes (by assumption) sound5 | with_reducible exact sound6); walk_at "c8"; (case kH => walk_at "hd"); (case ka => walk_at "ar"); (case kb => walk_at "ar"); k_whole); intro h' tk' F' N'; walk_at "c3"))
set_option hygiene false in
local macro_rules | `(tactic| walk_at "compareOp NotEq bytes bytes") => `(tactic| (k_here; (refine bNeSame (by first | with_reducible rfl | with_reducible assumption) ?_)))
set_option hygiene false in
local macro_rules | `(tactic| walk_at "compareOp NotEq ref ref") => `(tactic| (k_here; k_dflt (refine' neTups ?fl ?fb ?fu ?_; (case fl => walk_at "tup"); (case fb => walk_at "tup"); (case fu => ktr_units))))
set_option hygiene false in
local macro_rules | `(tactic| walk_at "compareOp NotEq int int") => `(tactic| (k_here; (with_reducible refine neIntSame ?fa ?_); (case fa => first | with_reducible rfl | exact rfl)))
set_option hygiene false in
local macro_rules | `(tactic| walk_at "call builtin:bytes.split") => `(tactic| (k_here; (with_reducible rename Fr _ _ _ _ => F'); (with_reducible rename News _ _ _ _ => N'); refine' split_lf F' N' ?fa ?_; (case fa => with_reducible assumption); intro spA spV h' k spB F' N' spD; (try simp only [List.forall_mem_cons, List.not_mem_nil, false_implies, implies_true, and_true] at spD); (try k_sweep)))
set_option hygiene false in
local macro_rules | `(tactic| walk_at "call ref") => `(tactic| (k_here; (with_reducible show wpAny _ _ (call (Value.ref 188) _) _ _ _); (rename Fr _ _ _ _ => xF); (rename Below _ _ _ _ => xB); k_dflt (refine' write_bad_lf xB xF (by assumption) ?k4 (by assumption) ?kK ?kd ?ku ?kI ?kr (isSound_no sound1) ?kl ?kx ?ky ?kz ?kw ?_; (case kI => with_reducible assumption); (case kr => decide); (case kl => walk_at "at"); (case kx => walk_at "at"); (case ky => walk_at "at"); (case kz => walk_at "at"); (case kw => walk_at "at"); (case k4 => k_asm); (case kK => first | exact rfl | assumption); (case kd => ktr_room); (case ku => ktr_units)); intro eX hX tkX rX))
set_option hygiene false in
local macro_rules | `(tactic| walk_at "stepsT") => `(tactic| repeat' (first | (k_unfold; (try dsimp only)) | ((with_reducible show wpAny _ _ (execs _ _) _ _ _); k_fold) | ((fail_if_success (with_reducible show wpAny _ _ (exec (Stmt.Try _ _ _ _ _) _) _ _ _)); (fail_if_success (with_reducible show wpAny _ _ (exec (Stmt.Raise _ _ _) _) _ _ _)); first | walk1 | (dsimp only; walk1) | (leave1; walk_say "STEP leave1"; try dsimp only))))
set_option hygiene false in
local macro_rules | `(tactic| walk_at "stepsU") => `(tactic| repeat' (first | (k_unfold; (try dsimp only)) | ((with_reducible show wpAny _ _ (execs _ _) _ _ _); k_fold) | ((fail_if_success (with_reducible show wpAny _ _ (exec (Stmt.Raise _ _ _) _) _ _ _)); first | walk1 | (dsimp only; walk1) | (leave1; walk_say "STEP leave1"; try dsimp only))))
set_option hygiene false in
local macro_rules | `(tactic| walk_at "hd") => `(tactic| first | exact hdNews (by k_asm) (by k_mem) (by with_reducible assumption) (by with_reducible assumption) | exact HdOk.none _)

set_option hygiene false in
local macro_rules | `(tactic| k_qdec) => `(tactic| kernel_rfl)
set_option maxHeartbeats 8000000 in
theorem law_all : PySem.Challenge.rw_no0361_01.Holds := hd rfl rfl rfl (by
  k_go0
  refine with_end (raisesW_false ?_) ?_ (fun hraise hpost => ?_)
  · wrow_none_raised
  · wrow_post
  have hgens := ‹Shared.gens _ = #[]›
  all_goals try k_fold
  rename LooseAre _ _ _ => z1
  rename Glob _ _ _ _ _ _ _ _ => z2
  rename Flt.MathXP _ _ _ => z3
  rename TopE _ _ _ _ => z4
  rename TopW _ _ _ => z5
  rename BMod _ _ _ _ _ => z6
  rename Tables _ _ _ _ => z7
  rename Dflts _ _ _ _ _ _ => z8
  clear z1 z2 z3 z4 z5 z6 z7 z8
  walk_at "stepsC"
  rename IntsAre _ (List.map _ _) => hI8
  rename News _ _ _ _ => N1
  rename Fr _ _ _ _ => F1
  obtain ⟨pk, hp1, hp2⟩ := pool_of hI8
  simp only [LCg.lst] at N1
  clear hI8
  walk1
  walk_at "stepsC"
  walk1
  obtain ⟨wd, wdE⟩ : ∃ wd, wd = ltD := ⟨_, rfl⟩
  subst wdE
  walk_at "stepsC"
  walk1
  have hclean : clean lwL := lwC
  walk_at "stepsF"
  · rw [name_bad ‹(decide _ || (decide _ || (decide _ || decide _))) = true›]
    rename Fr _ _ _ _ => F9
    exact goodW_bool F9 hgens hraise hpost
  · have hn : isName tiL = true := name_good tiM ‹(decide _ || (decide _ || (decide _ || decide _))) = false›
    have hcA := cut_len lwL none (some mpR)
    have hcC := cut_len lwL (some mpR) none
    obtain ⟨O, R, RL, hI, hO, hR, htl, hsnd⟩ := lf_of (10 + wd) hn hclean tiZ lwZ
    rename News _ _ _ _ => N1
    rename Fr _ _ _ _ => F1
    have N0 := news_sub N1 (l' := []) (fun _ h => nomatch h)
    clear N1
    walk_at "stepsC"
    walk1
    walk_at "stepsC"
    walk1
    walk_at "stepsC"
    walk1
    walk_at "stepsC"
    rename Fr _ _ _ _ => F1
    rename News _ _ _ _ => N1
    have N0 := news_sub N1 (l' := []) (fun _ h => nomatch h)
    clear N1
    walk_at "stepsF"
    rename Fr _ _ _ _ => F1
    rename News _ _ _ _ => N1
    have N0 := news_sub N1 (l' := [(mfX, _), (mfD, _)]) (by kst_in)
    clear N1
    walk_at "stepsT"
    rename Fr _ _ _ _ => F1
    rename News _ _ _ _ => N1
    have N0 := news_sub N1 (l' := [(mfX, _), (mfD, _)]) (by kst_in)
    clear N1
    walk_at "stepsU"
    rename News _ _ _ _ => xN
    refine caughtW xB xF (by assumption) (by assumption) rfl rX rfl fun h' g' T' F' Nk K' X' TP' R' => ?_
    obtain ⟨oe, ve, N', hod, ho2⟩ := caught_news xF T' R' (Nk _ xN)
    replace N' := news_sub N' (l' := [(eX, oe), (mfX, _), (mfD, _)]) (by kst_in)
    have hab := xF.above
    clear Nk xN xF xB rX
    walk_at "stepsU"
    rename Fr _ _ _ _ => F9
    have F0 : Fr _ _ _ _ := ⟨F9.ns, fun b o e => F9.keep b o (T'.other b o e (fun hm => nomatch hm)), hab⟩
    clear F9
    exact goodW_bool F0 hgens hraise hpost)

end Part_L0

end Lines_rules_app

end Lines_rules_steps2

end Lines_rules_k

end Lines_rules

end Mine

theorem PySem.Challenge.cw_no0361_01_holds : PySem.Challenge.rw_no0361_01.Holds :=
  Mine.law_all
