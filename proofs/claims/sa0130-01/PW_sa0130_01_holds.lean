import PyProof.Rows.All
import Wide.All
import OpenK.AllK
import Wide.FinOn
import PySem.Challenge.RW_sa0130_01
open PySem PySem.W PyProof.Rows
set_option Elab.async false
set_option maxRecDepth 100000
set_option maxHeartbeats 8000000
namespace Mine
/-- the i-th statement of the text -/
noncomputable def stAt (i : Nat) : Stmt := PySem.Challenge.pw_sa0130_01.main.body.getD i (.Pass default)
/-- the first def of the i-th statement, a class -/
noncomputable def meAt (i : Nat) : Stmt := match stAt i with
  | .ClassDef _ _ _ b .. => b.getD 0 (.Pass default)
  | s => s
/-- the text without the rows that name its files -/
noncomputable def hd.view_39 : Program := view PySem.Challenge.pw_sa0130_01 [1, 3, 4, 5, 6, 7, 8, 9, 10, 11, 12, 13, 14, 15, 16, 17, 18, 19, 20, 21, 23, 24, 25, 26, 27, 28, 30, 31, 32, 33, 34]
/-- the objects that the top leaves, as far as the walk asks for them (printed by a program; the defs' trees are the row's own) -/
noncomputable def hd.heap_39 : Params → Frag := fun P =>
  (fun n0 a0 b0 d0 r0 t0 s0 u0 v0 p0 (_ : meAt 1 = .FunctionDef n0 a0 b0 d0 r0 t0 s0 u0 v0 p0) n1 a1 b1 d1 r1 t1 s1 u1 v1 p1 (_ : meAt 5 = .FunctionDef n1 a1 b1 d1 r1 t1 s1 u1 v1 p1) n2 a2 b2 d2 r2 t2 s2 u2 v2 p2 (_ : stAt 6 = .FunctionDef n2 a2 b2 d2 r2 t2 s2 u2 v2 p2) n3 a3 b3 d3 r3 t3 s3 u3 v3 p3 (_ : stAt 7 = .FunctionDef n3 a3 b3 d3 r3 t3 s3 u3 v3 p3) n4 a4 b4 d4 r4 t4 s4 u4 v4 p4 (_ : stAt 8 = .FunctionDef n4 a4 b4 d4 r4 t4 s4 u4 v4 p4) n5 a5 b5 d5 r5 t5 s5 u5 v5 p5 (_ : stAt 9 = .FunctionDef n5 a5 b5 d5 r5 t5 s5 u5 v5 p5) n6 a6 b6 d6 r6 t6 s6 u6 v6 p6 (_ : stAt 10 = .FunctionDef n6 a6 b6 d6 r6 t6 s6 u6 v6 p6) n7 a7 b7 d7 r7 t7 s7 u7 v7 p7 (_ : stAt 11 = .FunctionDef n7 a7 b7 d7 r7 t7 s7 u7 v7 p7) n8 a8 b8 d8 r8 t8 s8 u8 v8 p8 (_ : stAt 12 = .FunctionDef n8 a8 b8 d8 r8 t8 s8 u8 v8 p8) n9 a9 b9 d9 r9 t9 s9 u9 v9 p9 (_ : stAt 13 = .FunctionDef n9 a9 b9 d9 r9 t9 s9 u9 v9 p9) n10 a10 b10 d10 r10 t10 s10 u10 v10 p10 (_ : stAt 23 = .FunctionDef n10 a10 b10 d10 r10 t10 s10 u10 v10 p10) n11 a11 b11 d11 r11 t11 s11 u11 v11 p11 (_ : stAt 24 = .FunctionDef n11 a11 b11 d11 r11 t11 s11 u11 v11 p11) n12 a12 b12 d12 r12 t12 s12 u12 v12 p12 (_ : stAt 25 = .FunctionDef n12 a12 b12 d12 r12 t12 s12 u12 v12 p12) n13 a13 b13 d13 r13 t13 s13 u13 v13 p13 (_ : stAt 26 = .FunctionDef n13 a13 b13 d13 r13 t13 s13 u13 v13 p13) n14 a14 b14 d14 r14 t14 s14 u14 v14 p14 (_ : stAt 27 = .FunctionDef n14 a14 b14 d14 r14 t14 s14 u14 v14 p14) n15 a15 b15 d15 r15 t15 s15 u15 v15 p15 (_ : stAt 28 = .FunctionDef n15 a15 b15 d15 r15 t15 s15 u15 v15 p15) n16 a16 b16 d16 r16 t16 s16 u16 v16 p16 (_ : stAt 30 = .FunctionDef n16 a16 b16 d16 r16 t16 s16 u16 v16 p16) n17 a17 b17 d17 r17 t17 s17 u17 v17 p17 (_ : stAt 31 = .FunctionDef n17 a17 b17 d17 r17 t17 s17 u17 v17 p17) n18 a18 b18 d18 r18 t18 s18 u18 v18 p18 (_ : stAt 32 = .FunctionDef n18 a18 b18 d18 r18 t18 s18 u18 v18 p18) n19 a19 b19 d19 r19 t19 s19 u19 v19 p19 (_ : stAt 33 = .FunctionDef n19 a19 b19 d19 r19 t19 s19 u19 v19 p19) n20 a20 b20 d20 r20 t20 s20 u20 v20 p20 (_ : stAt 34 = .FunctionDef n20 a20 b20 d20 r20 t20 s20 u20 v20 p20) => ((
 (nat_lit 2, ({ cls := Value.none, data := Data.dict #[{ hash := PyData.keyHash P (Str.ofString "type.__subclasses__.Exception.0"), key := Value.str (Str.ofString "type.__subclasses__.Exception.0") 214, val := Value.int 31 0 }, { hash := PyData.keyHash P (Str.ofString "type.__subclasses__.Exception.n"), key := Value.str (Str.ofString "type.__subclasses__.Exception.n") 215, val := Value.int 1 0 }] 2 } : Obj)) ::
 (nat_lit 3, ({ cls := Value.type "dict", data := Data.dict #[{ hash := PyData.keyHash P (Str.ofString "__name__"), key := Value.str (Str.ofString "__name__") 165, val := Value.str (Str.ofString "law_sa0130_01") 462 }, { hash := PyData.keyHash P (Str.ofString "__doc__"), key := Value.str (Str.ofString "__doc__") 166, val := Value.none }, { hash := PyData.keyHash P (Str.ofString "__package__"), key := Value.str (Str.ofString "__package__") 167, val := Value.none }, { hash := PyData.keyHash P (Str.ofString "__loader__"), key := Value.str (Str.ofString "__loader__") 168, val := Value.builtin "__main__.__loader__#opaque" }, { hash := PyData.keyHash P (Str.ofString "__spec__"), key := Value.str (Str.ofString "__spec__") 169, val := Value.none }, { hash := PyData.keyHash P (Str.ofString "__annotations__"), key := Value.str (Str.ofString "__annotations__") 170, val := Value.ref 6 }, { hash := PyData.keyHash P (Str.ofString "__builtins__"), key := Value.str (Str.ofString "__builtins__") 171, val := Value.ref 4 }, { hash := PyData.keyHash P (Str.ofString "__file__"), key := Value.str (Str.ofString "__file__") 173, val := Value.str (Str.ofString "/claim/cut.py") 172 }, { hash := PyData.keyHash P (Str.ofString "__cached__"), key := Value.str (Str.ofString "__cached__") 174, val := Value.none }, { hash := PyData.keyHash P (Str.ofString "ChessError"), key := Value.str (Str.ofString "ChessError") 217, val := Value.ref 31 }, { hash := PyData.keyHash P (Str.ofString "STEP_FILES"), key := Value.str (Str.ofString "STEP_FILES") 231, val := Value.ref 35 }, { hash := PyData.keyHash P (Str.ofString "STEP_RANKS"), key := Value.str (Str.ofString "STEP_RANKS") 243, val := Value.ref 36 }, { hash := PyData.keyHash P (Str.ofString "Geometry"), key := Value.str (Str.ofString "Geometry") 288, val := Value.ref 53 }, { hash := PyData.keyHash P (Str.ofString "is_growing"), key := Value.str (Str.ofString "is_growing") 295, val := Value.ref 64 }, { hash := PyData.keyHash P (Str.ofString "add_masks"), key := Value.str (Str.ofString "add_masks") 306, val := Value.ref 71 }, { hash := PyData.keyHash P (Str.ofString "inner_squares"), key := Value.str (Str.ofString "inner_squares") 315, val := Value.ref 78 }, { hash := PyData.keyHash P (Str.ofString "add_rays"), key := Value.str (Str.ofString "add_rays") 329, val := Value.ref 85 }, { hash := PyData.keyHash P (Str.ofString "add_pawns"), key := Value.str (Str.ofString "add_pawns") 337, val := Value.ref 92 }, { hash := PyData.keyHash P (Str.ofString "add_knights"), key := Value.str (Str.ofString "add_knights") 354, val := Value.ref 99 }, { hash := PyData.keyHash P (Str.ofString "add_castles"), key := Value.str (Str.ofString "add_castles") 367, val := Value.ref 106 }, { hash := PyData.keyHash P (Str.ofString "make_geometry"), key := Value.str (Str.ofString "make_geometry") 378, val := Value.ref 113 }, { hash := PyData.keyHash P (Str.ofString "WHITE"), key := Value.str (Str.ofString "WHITE") 380, val := Value.int 0 379 }, { hash := PyData.keyHash P (Str.ofString "BLACK"), key := Value.str (Str.ofString "BLACK") 382, val := Value.int 1 381 }, { hash := PyData.keyHash P (Str.ofString "PAWN"), key := Value.str (Str.ofString "PAWN") 384, val := Value.int 1 383 }, { hash := PyData.keyHash P (Str.ofString "KNIGHT"), key := Value.str (Str.ofString "KNIGHT") 386, val := Value.int 2 385 }, { hash := PyData.keyHash P (Str.ofString "BISHOP"), key := Value.str (Str.ofString "BISHOP") 388, val := Value.int 3 387 }, { hash := PyData.keyHash P (Str.ofString "ROOK"), key := Value.str (Str.ofString "ROOK") 390, val := Value.int 4 389 }, { hash := PyData.keyHash P (Str.ofString "QUEEN"), key := Value.str (Str.ofString "QUEEN") 392, val := Value.int 5 391 }, { hash := PyData.keyHash P (Str.ofString "KING"), key := Value.str (Str.ofString "KING") 394, val := Value.int 6 393 }, { hash := PyData.keyHash P (Str.ofString "ray_attacks"), key := Value.str (Str.ofString "ray_attacks") 409, val := Value.ref 120 }, { hash := PyData.keyHash P (Str.ofString "rook_attacks"), key := Value.str (Str.ofString "rook_attacks") 420, val := Value.ref 127 }, { hash := PyData.keyHash P (Str.ofString "bishop_attacks"), key := Value.str (Str.ofString "bishop_attacks") 431, val := Value.ref 134 }, { hash := PyData.keyHash P (Str.ofString "queen_attacks"), key := Value.str (Str.ofString "queen_attacks") 440, val := Value.ref 141 }, { hash := PyData.keyHash P (Str.ofString "slider_attacks"), key := Value.str (Str.ofString "slider_attacks") 450, val := Value.ref 148 }, { hash := PyData.keyHash P (Str.ofString "piece_attacks"), key := Value.str (Str.ofString "piece_attacks") 461, val := Value.ref 155 }, { hash := PyData.keyHash P (Str.ofString "_law_hop"), key := Value.str (Str.ofString "_law_hop") 471, val := Value.ref 162 }, { hash := PyData.keyHash P (Str.ofString "_law_men"), key := Value.str (Str.ofString "_law_men") 481, val := Value.ref 169 }, { hash := PyData.keyHash P (Str.ofString "_law_seen"), key := Value.str (Str.ofString "_law_seen") 487, val := Value.ref 174 }, { hash := PyData.keyHash P (Str.ofString "_law_is_mutual"), key := Value.str (Str.ofString "_law_is_mutual") 497, val := Value.ref 181 }, { hash := PyData.keyHash P (Str.ofString "law"), key := Value.str (Str.ofString "law") 503, val := Value.ref 186 }] 40 } : Obj)) ::
 (nat_lit 15, ({ cls := Value.type "tuple", data := Data.seq #[Value.type "Exception"] } : Obj)) ::
 (nat_lit 22, ({ cls := Value.type "tuple", data := Data.seq #[] } : Obj)) ::
 (nat_lit 24, ({ cls := Value.type "tuple", data := Data.seq #[Value.str (Str.ofString "self") 204, Value.str (Str.ofString "text") 205] } : Obj)) ::
 (nat_lit 25, ({ cls := Value.type "tuple", data := Data.seq #[] } : Obj)) ::
 (nat_lit 27, ({ cls := Value.type "code", data := Data.fields #[Value.str (Str.ofString "__init__") 201, Value.str (Str.ofString "ChessError.__init__") 202, Value.str (Str.ofString "/claim/cut.py") 203, Value.int 4 0, Value.int 2 0, Value.int 0 0, Value.int 0 0, Value.int 3 0, Value.ref 22, Value.bool Bool.true, Value.int 181 0, Value.ref 23, Value.none, Value.ref 24, Value.ref 25, Value.ref 26, Value.int 206 0, Value.int 4 0, Value.str (Str.ofString "/claim/cut.py") 207] } : Obj)) ::
 (nat_lit 28, ({ cls := Value.type "function", data := Data.func { name := Str.ofString "__init__", qualname := Str.ofString "ChessError.__init__", params := a0, body := .stmts b0, scope := s0, globals := 3, closure := [], defaults := Value.none, kwdefaults := Value.none, pyModule := Value.str (Str.ofString "chess.errors") 187, code := Value.ref 27 } } : Obj)) ::
 (nat_lit 29, ({ cls := Value.type "tuple", data := Data.seq #[Value.str (Str.ofString "text") 209] } : Obj)) ::
 (nat_lit 30, ({ cls := Value.type "dict", data := Data.dict #[{ hash := PyData.keyHash P (Str.ofString "__module__"), key := Value.str (Str.ofString "__module__") 196, val := Value.str (Str.ofString "chess.errors") 187 }, { hash := PyData.keyHash P (Str.ofString "__firstlineno__"), key := Value.str (Str.ofString "__firstlineno__") 200, val := Value.int 2 199 }, { hash := PyData.keyHash P (Str.ofString "__init__"), key := Value.str (Str.ofString "__init__") 208, val := Value.ref 28 }, { hash := PyData.keyHash P (Str.ofString "__static_attributes__"), key := Value.str (Str.ofString "__static_attributes__") 210, val := Value.ref 29 }, { hash := PyData.keyHash P (Str.ofString "__weakref__"), key := Value.str (Str.ofString "__weakref__") 212, val := Value.ref 32 }, { hash := PyData.keyHash P (Str.ofString "__doc__"), key := Value.str (Str.ofString "__doc__") 213, val := Value.none }] 3 } : Obj)) ::
 (nat_lit 31, ({ cls := Value.type "type", data := Data.cls { name := Str.ofString "ChessError", bases := [Value.type "Exception"], mro := [Value.ref 31, Value.type "Exception", Value.type "BaseException", Value.type "object"], ns := 30, qualname := Str.ofString "ChessError" }, slots := #[Option.some (Value.ref 15), Option.none, Option.some (Value.str (Str.ofString "ChessError") 189), Option.some (Value.str (Str.ofString "ChessError") 197), Option.some (Value.builtin "Exception.__new__"), Option.some (Value.bool Bool.true)] } : Obj)) ::
 (nat_lit 32, ({ cls := Value.type "getset_descriptor", data := Data.fields #[Value.str (Str.ofString "__weakref__") 211, Value.ref 31, Value.builtin "ExceptionGroup.__weakref__", Value.none] } : Obj)) ::
 (nat_lit 35, ({ cls := Value.type "tuple", data := Data.seq #[Value.int 0 220, Value.int 1 221, Value.int 0 222, Value.int (-1) 224, Value.int 1 225, Value.int 1 226, Value.int (-1) 228, Value.int (-1) 230] } : Obj)) ::
 (nat_lit 36, ({ cls := Value.type "tuple", data := Data.seq #[Value.int 1 232, Value.int 0 233, Value.int (-1) 235, Value.int 0 236, Value.int 1 237, Value.int (-1) 239, Value.int (-1) 241, Value.int 1 242] } : Obj)) ::
 (nat_lit 44, ({ cls := Value.type "tuple", data := Data.seq #[] } : Obj)) ::
 (nat_lit 46, ({ cls := Value.type "tuple", data := Data.seq #[Value.str (Str.ofString "self") 259, Value.str (Str.ofString "files") 260, Value.str (Str.ofString "ranks") 261, Value.str (Str.ofString "has_double") 262, Value.str (Str.ofString "has_castling") 263] } : Obj)) ::
 (nat_lit 47, ({ cls := Value.type "tuple", data := Data.seq #[] } : Obj)) ::
 (nat_lit 49, ({ cls := Value.type "code", data := Data.fields #[Value.str (Str.ofString "__init__") 256, Value.str (Str.ofString "Geometry.__init__") 257, Value.str (Str.ofString "/claim/cut.py") 258, Value.int 12 0, Value.int 5 0, Value.int 0 0, Value.int 0 0, Value.int 3 0, Value.ref 44, Value.bool Bool.true, Value.int 181 0, Value.ref 45, Value.none, Value.ref 46, Value.ref 47, Value.ref 48, Value.int 264 0, Value.int 12 0, Value.str (Str.ofString "/claim/cut.py") 265] } : Obj)) ::
 (nat_lit 50, ({ cls := Value.type "function", data := Data.func { name := Str.ofString "__init__", qualname := Str.ofString "Geometry.__init__", params := a1, body := .stmts b1, scope := s1, globals := 3, closure := [], defaults := Value.none, kwdefaults := Value.none, pyModule := Value.str (Str.ofString "chess.geometry") 218, code := Value.ref 49 } } : Obj)) ::
 (nat_lit 51, ({ cls := Value.type "tuple", data := Data.seq #[Value.str (Str.ofString "castles") 267, Value.str (Str.ofString "file_masks") 268, Value.str (Str.ofString "files") 269, Value.str (Str.ofString "full") 270, Value.str (Str.ofString "has_castling") 271, Value.str (Str.ofString "has_double") 272, Value.str (Str.ofString "king") 273, Value.str (Str.ofString "knight") 274, Value.str (Str.ofString "pawn") 275, Value.str (Str.ofString "rank_masks") 276, Value.str (Str.ofString "ranks") 277, Value.str (Str.ofString "rays") 278, Value.str (Str.ofString "rights_lost") 279, Value.str (Str.ofString "size") 280] } : Obj)) ::
 (nat_lit 52, ({ cls := Value.type "dict", data := Data.dict #[{ hash := PyData.keyHash P (Str.ofString "__module__"), key := Value.str (Str.ofString "__module__") 251, val := Value.str (Str.ofString "chess.geometry") 218 }, { hash := PyData.keyHash P (Str.ofString "__firstlineno__"), key := Value.str (Str.ofString "__firstlineno__") 255, val := Value.int 10 254 }, { hash := PyData.keyHash P (Str.ofString "__init__"), key := Value.str (Str.ofString "__init__") 266, val := Value.ref 50 }, { hash := PyData.keyHash P (Str.ofString "__static_attributes__"), key := Value.str (Str.ofString "__static_attributes__") 281, val := Value.ref 51 }, { hash := PyData.keyHash P (Str.ofString "__dict__"), key := Value.str (Str.ofString "__dict__") 283, val := Value.ref 54 }, { hash := PyData.keyHash P (Str.ofString "__weakref__"), key := Value.str (Str.ofString "__weakref__") 285, val := Value.ref 55 }, { hash := PyData.keyHash P (Str.ofString "__doc__"), key := Value.str (Str.ofString "__doc__") 286, val := Value.none }] 4 } : Obj)) ::
 (nat_lit 53, ({ cls := Value.type "type", data := Data.cls { name := Str.ofString "Geometry", bases := [Value.type "object"], mro := [Value.ref 53, Value.type "object"], ns := 52, qualname := Str.ofString "Geometry" }, slots := #[Option.none, Option.none, Option.some (Value.str (Str.ofString "Geometry") 244), Option.some (Value.str (Str.ofString "Geometry") 252), Option.some (Value.builtin "object.__new__"), Option.some (Value.bool Bool.true)] } : Obj)) ::
 (nat_lit 54, ({ cls := Value.type "getset_descriptor", data := Data.fields #[Value.str (Str.ofString "__dict__") 282, Value.ref 53, Value.builtin "function.__dict__", Value.builtin "function.__dict__#set"] } : Obj)) ::
 (nat_lit 55, ({ cls := Value.type "getset_descriptor", data := Data.fields #[Value.str (Str.ofString "__weakref__") 284, Value.ref 53, Value.builtin "ExceptionGroup.__weakref__", Value.none] } : Obj)) ::
 (nat_lit 58, ({ cls := Value.type "tuple", data := Data.seq #[] } : Obj)) ::
 (nat_lit 60, ({ cls := Value.type "tuple", data := Data.seq #[Value.str (Str.ofString "d") 292] } : Obj)) ::
 (nat_lit 61, ({ cls := Value.type "tuple", data := Data.seq #[] } : Obj)) ::
 (nat_lit 63, ({ cls := Value.type "code", data := Data.fields #[Value.str (Str.ofString "is_growing") 289, Value.str (Str.ofString "is_growing") 290, Value.str (Str.ofString "/claim/cut.py") 291, Value.int 27 0, Value.int 1 0, Value.int 0 0, Value.int 0 0, Value.int 3 0, Value.ref 58, Value.bool Bool.true, Value.int 181 0, Value.ref 59, Value.none, Value.ref 60, Value.ref 61, Value.ref 62, Value.int 293 0, Value.int 27 0, Value.str (Str.ofString "/claim/cut.py") 294] } : Obj)) ::
 (nat_lit 64, ({ cls := Value.type "function", data := Data.func { name := Str.ofString "is_growing", qualname := Str.ofString "is_growing", params := a2, body := .stmts b2, scope := s2, globals := 3, closure := [], defaults := Value.none, kwdefaults := Value.none, pyModule := Value.str (Str.ofString "chess.geometry") 218, code := Value.ref 63 } } : Obj)) ::
 (nat_lit 65, ({ cls := Value.type "tuple", data := Data.seq #[] } : Obj)) ::
 (nat_lit 67, ({ cls := Value.type "tuple", data := Data.seq #[Value.str (Str.ofString "geo") 299, Value.str (Str.ofString "row") 300, Value.str (Str.ofString "column") 301, Value.str (Str.ofString "r") 302, Value.str (Str.ofString "f") 303] } : Obj)) ::
 (nat_lit 68, ({ cls := Value.type "tuple", data := Data.seq #[] } : Obj)) ::
 (nat_lit 70, ({ cls := Value.type "code", data := Data.fields #[Value.str (Str.ofString "add_masks") 296, Value.str (Str.ofString "add_masks") 297, Value.str (Str.ofString "/claim/cut.py") 298, Value.int 29 0, Value.int 1 0, Value.int 0 0, Value.int 0 0, Value.int 3 0, Value.ref 65, Value.bool Bool.true, Value.int 181 0, Value.ref 66, Value.none, Value.ref 67, Value.ref 68, Value.ref 69, Value.int 304 0, Value.int 29 0, Value.str (Str.ofString "/claim/cut.py") 305] } : Obj)) ::
 (nat_lit 71, ({ cls := Value.type "function", data := Data.func { name := Str.ofString "add_masks", qualname := Str.ofString "add_masks", params := a3, body := .stmts b3, scope := s3, globals := 3, closure := [], defaults := Value.none, kwdefaults := Value.none, pyModule := Value.str (Str.ofString "chess.geometry") 218, code := Value.ref 70 } } : Obj)) ::
 (nat_lit 72, ({ cls := Value.type "tuple", data := Data.seq #[] } : Obj)) ::
 (nat_lit 74, ({ cls := Value.type "tuple", data := Data.seq #[Value.str (Str.ofString "geo") 310, Value.str (Str.ofString "d") 311, Value.str (Str.ofString "edge") 312] } : Obj)) ::
 (nat_lit 75, ({ cls := Value.type "tuple", data := Data.seq #[] } : Obj)) ::
 (nat_lit 77, ({ cls := Value.type "code", data := Data.fields #[Value.str (Str.ofString "inner_squares") 307, Value.str (Str.ofString "inner_squares") 308, Value.str (Str.ofString "/claim/cut.py") 309, Value.int 37 0, Value.int 2 0, Value.int 0 0, Value.int 0 0, Value.int 3 0, Value.ref 72, Value.bool Bool.true, Value.int 181 0, Value.ref 73, Value.none, Value.ref 74, Value.ref 75, Value.ref 76, Value.int 313 0, Value.int 37 0, Value.str (Str.ofString "/claim/cut.py") 314] } : Obj)) ::
 (nat_lit 78, ({ cls := Value.type "function", data := Data.func { name := Str.ofString "inner_squares", qualname := Str.ofString "inner_squares", params := a4, body := .stmts b4, scope := s4, globals := 3, closure := [], defaults := Value.none, kwdefaults := Value.none, pyModule := Value.str (Str.ofString "chess.geometry") 218, code := Value.ref 77 } } : Obj)) ::
 (nat_lit 79, ({ cls := Value.type "tuple", data := Data.seq #[] } : Obj)) ::
 (nat_lit 81, ({ cls := Value.type "tuple", data := Data.seq #[Value.str (Str.ofString "geo") 319, Value.str (Str.ofString "d") 320, Value.str (Str.ofString "inner") 321, Value.str (Str.ofString "delta") 322, Value.str (Str.ofString "ray") 323, Value.str (Str.ofString "order") 324, Value.str (Str.ofString "square") 325, Value.str (Str.ofString "goal") 326] } : Obj)) ::
 (nat_lit 82, ({ cls := Value.type "tuple", data := Data.seq #[] } : Obj)) ::
 (nat_lit 84, ({ cls := Value.type "code", data := Data.fields #[Value.str (Str.ofString "add_rays") 316, Value.str (Str.ofString "add_rays") 317, Value.str (Str.ofString "/claim/cut.py") 318, Value.int 48 0, Value.int 1 0, Value.int 0 0, Value.int 0 0, Value.int 3 0, Value.ref 79, Value.bool Bool.true, Value.int 181 0, Value.ref 80, Value.none, Value.ref 81, Value.ref 82, Value.ref 83, Value.int 327 0, Value.int 48 0, Value.str (Str.ofString "/claim/cut.py") 328] } : Obj)) ::
 (nat_lit 85, ({ cls := Value.type "function", data := Data.func { name := Str.ofString "add_rays", qualname := Str.ofString "add_rays", params := a5, body := .stmts b5, scope := s5, globals := 3, closure := [], defaults := Value.none, kwdefaults := Value.none, pyModule := Value.str (Str.ofString "chess.geometry") 218, code := Value.ref 84 } } : Obj)) ::
 (nat_lit 86, ({ cls := Value.type "tuple", data := Data.seq #[] } : Obj)) ::
 (nat_lit 88, ({ cls := Value.type "tuple", data := Data.seq #[Value.str (Str.ofString "geo") 333, Value.str (Str.ofString "square") 334] } : Obj)) ::
 (nat_lit 89, ({ cls := Value.type "tuple", data := Data.seq #[] } : Obj)) ::
 (nat_lit 91, ({ cls := Value.type "code", data := Data.fields #[Value.str (Str.ofString "add_pawns") 330, Value.str (Str.ofString "add_pawns") 331, Value.str (Str.ofString "/claim/cut.py") 332, Value.int 63 0, Value.int 1 0, Value.int 0 0, Value.int 0 0, Value.int 3 0, Value.ref 86, Value.bool Bool.true, Value.int 181 0, Value.ref 87, Value.none, Value.ref 88, Value.ref 89, Value.ref 90, Value.int 335 0, Value.int 63 0, Value.str (Str.ofString "/claim/cut.py") 336] } : Obj)) ::
 (nat_lit 92, ({ cls := Value.type "function", data := Data.func { name := Str.ofString "add_pawns", qualname := Str.ofString "add_pawns", params := a6, body := .stmts b6, scope := s6, globals := 3, closure := [], defaults := Value.none, kwdefaults := Value.none, pyModule := Value.str (Str.ofString "chess.geometry") 218, code := Value.ref 91 } } : Obj)) ::
 (nat_lit 93, ({ cls := Value.type "tuple", data := Data.seq #[] } : Obj)) ::
 (nat_lit 95, ({ cls := Value.type "tuple", data := Data.seq #[Value.str (Str.ofString "geo") 341, Value.str (Str.ofString "files") 342, Value.str (Str.ofString "not_first") 343, Value.str (Str.ofString "not_last") 344, Value.str (Str.ofString "not_first_two") 345, Value.str (Str.ofString "not_last_two") 346, Value.str (Str.ofString "square") 347, Value.str (Str.ofString "b") 348, Value.str (Str.ofString "near") 349, Value.str (Str.ofString "far") 350, Value.str (Str.ofString "found") 351] } : Obj)) ::
 (nat_lit 96, ({ cls := Value.type "tuple", data := Data.seq #[] } : Obj)) ::
 (nat_lit 98, ({ cls := Value.type "code", data := Data.fields #[Value.str (Str.ofString "add_knights") 338, Value.str (Str.ofString "add_knights") 339, Value.str (Str.ofString "/claim/cut.py") 340, Value.int 67 0, Value.int 1 0, Value.int 0 0, Value.int 0 0, Value.int 3 0, Value.ref 93, Value.bool Bool.true, Value.int 181 0, Value.ref 94, Value.none, Value.ref 95, Value.ref 96, Value.ref 97, Value.int 352 0, Value.int 67 0, Value.str (Str.ofString "/claim/cut.py") 353] } : Obj)) ::
 (nat_lit 99, ({ cls := Value.type "function", data := Data.func { name := Str.ofString "add_knights", qualname := Str.ofString "add_knights", params := a7, body := .stmts b7, scope := s7, globals := 3, closure := [], defaults := Value.none, kwdefaults := Value.none, pyModule := Value.str (Str.ofString "chess.geometry") 218, code := Value.ref 98 } } : Obj)) ::
 (nat_lit 100, ({ cls := Value.type "tuple", data := Data.seq #[] } : Obj)) ::
 (nat_lit 102, ({ cls := Value.type "tuple", data := Data.seq #[Value.str (Str.ofString "geo") 358, Value.str (Str.ofString "start") 359, Value.str (Str.ofString "index") 360, Value.str (Str.ofString "base") 361, Value.str (Str.ofString "corner") 362, Value.str (Str.ofString "way") 363, Value.str (Str.ofString "goal") 364] } : Obj)) ::
 (nat_lit 103, ({ cls := Value.type "tuple", data := Data.seq #[] } : Obj)) ::
 (nat_lit 105, ({ cls := Value.type "code", data := Data.fields #[Value.str (Str.ofString "add_castles") 355, Value.str (Str.ofString "add_castles") 356, Value.str (Str.ofString "/claim/cut.py") 357, Value.int 79 0, Value.int 1 0, Value.int 0 0, Value.int 0 0, Value.int 3 0, Value.ref 100, Value.bool Bool.true, Value.int 181 0, Value.ref 101, Value.none, Value.ref 102, Value.ref 103, Value.ref 104, Value.int 365 0, Value.int 79 0, Value.str (Str.ofString "/claim/cut.py") 366] } : Obj)) ::
 (nat_lit 106, ({ cls := Value.type "function", data := Data.func { name := Str.ofString "add_castles", qualname := Str.ofString "add_castles", params := a8, body := .stmts b8, scope := s8, globals := 3, closure := [], defaults := Value.none, kwdefaults := Value.none, pyModule := Value.str (Str.ofString "chess.geometry") 218, code := Value.ref 105 } } : Obj)) ::
 (nat_lit 107, ({ cls := Value.type "tuple", data := Data.seq #[] } : Obj)) ::
 (nat_lit 109, ({ cls := Value.type "tuple", data := Data.seq #[Value.str (Str.ofString "files") 371, Value.str (Str.ofString "ranks") 372, Value.str (Str.ofString "has_double") 373, Value.str (Str.ofString "has_castling") 374, Value.str (Str.ofString "geo") 375] } : Obj)) ::
 (nat_lit 110, ({ cls := Value.type "tuple", data := Data.seq #[] } : Obj)) ::
 (nat_lit 112, ({ cls := Value.type "code", data := Data.fields #[Value.str (Str.ofString "make_geometry") 368, Value.str (Str.ofString "make_geometry") 369, Value.str (Str.ofString "/claim/cut.py") 370, Value.int 96 0, Value.int 4 0, Value.int 0 0, Value.int 0 0, Value.int 3 0, Value.ref 107, Value.bool Bool.true, Value.int 181 0, Value.ref 108, Value.none, Value.ref 109, Value.ref 110, Value.ref 111, Value.int 376 0, Value.int 96 0, Value.str (Str.ofString "/claim/cut.py") 377] } : Obj)) ::
 (nat_lit 113, ({ cls := Value.type "function", data := Data.func { name := Str.ofString "make_geometry", qualname := Str.ofString "make_geometry", params := a9, body := .stmts b9, scope := s9, globals := 3, closure := [], defaults := Value.none, kwdefaults := Value.none, pyModule := Value.str (Str.ofString "chess.geometry") 218, code := Value.ref 112 } } : Obj)) ::
 (nat_lit 114, ({ cls := Value.type "tuple", data := Data.seq #[] } : Obj)) ::
 (nat_lit 116, ({ cls := Value.type "tuple", data := Data.seq #[Value.str (Str.ofString "geo") 400, Value.str (Str.ofString "d") 401, Value.str (Str.ofString "square") 402, Value.str (Str.ofString "occupied") 403, Value.str (Str.ofString "ray") 404, Value.str (Str.ofString "stop") 405, Value.str (Str.ofString "behind") 406] } : Obj)) ::
 (nat_lit 117, ({ cls := Value.type "tuple", data := Data.seq #[] } : Obj)) ::
 (nat_lit 119, ({ cls := Value.type "code", data := Data.fields #[Value.str (Str.ofString "ray_attacks") 397, Value.str (Str.ofString "ray_attacks") 398, Value.str (Str.ofString "/claim/cut.py") 399, Value.int 115 0, Value.int 4 0, Value.int 0 0, Value.int 0 0, Value.int 3 0, Value.ref 114, Value.bool Bool.true, Value.int 181 0, Value.ref 115, Value.none, Value.ref 116, Value.ref 117, Value.ref 118, Value.int 407 0, Value.int 115 0, Value.str (Str.ofString "/claim/cut.py") 408] } : Obj)) ::
 (nat_lit 120, ({ cls := Value.type "function", data := Data.func { name := Str.ofString "ray_attacks", qualname := Str.ofString "ray_attacks", params := a10, body := .stmts b10, scope := s10, globals := 3, closure := [], defaults := Value.none, kwdefaults := Value.none, pyModule := Value.str (Str.ofString "chess.sliders") 395, code := Value.ref 119 } } : Obj)) ::
 (nat_lit 121, ({ cls := Value.type "tuple", data := Data.seq #[] } : Obj)) ::
 (nat_lit 123, ({ cls := Value.type "tuple", data := Data.seq #[Value.str (Str.ofString "geo") 413, Value.str (Str.ofString "square") 414, Value.str (Str.ofString "occupied") 415, Value.str (Str.ofString "found") 416, Value.str (Str.ofString "d") 417] } : Obj)) ::
 (nat_lit 124, ({ cls := Value.type "tuple", data := Data.seq #[] } : Obj)) ::
 (nat_lit 126, ({ cls := Value.type "code", data := Data.fields #[Value.str (Str.ofString "rook_attacks") 410, Value.str (Str.ofString "rook_attacks") 411, Value.str (Str.ofString "/claim/cut.py") 412, Value.int 130 0, Value.int 3 0, Value.int 0 0, Value.int 0 0, Value.int 3 0, Value.ref 121, Value.bool Bool.true, Value.int 181 0, Value.ref 122, Value.none, Value.ref 123, Value.ref 124, Value.ref 125, Value.int 418 0, Value.int 130 0, Value.str (Str.ofString "/claim/cut.py") 419] } : Obj)) ::
 (nat_lit 127, ({ cls := Value.type "function", data := Data.func { name := Str.ofString "rook_attacks", qualname := Str.ofString "rook_attacks", params := a11, body := .stmts b11, scope := s11, globals := 3, closure := [], defaults := Value.none, kwdefaults := Value.none, pyModule := Value.str (Str.ofString "chess.sliders") 395, code := Value.ref 126 } } : Obj)) ::
 (nat_lit 128, ({ cls := Value.type "tuple", data := Data.seq #[] } : Obj)) ::
 (nat_lit 130, ({ cls := Value.type "tuple", data := Data.seq #[Value.str (Str.ofString "geo") 424, Value.str (Str.ofString "square") 425, Value.str (Str.ofString "occupied") 426, Value.str (Str.ofString "found") 427, Value.str (Str.ofString "d") 428] } : Obj)) ::
 (nat_lit 131, ({ cls := Value.type "tuple", data := Data.seq #[] } : Obj)) ::
 (nat_lit 133, ({ cls := Value.type "code", data := Data.fields #[Value.str (Str.ofString "bishop_attacks") 421, Value.str (Str.ofString "bishop_attacks") 422, Value.str (Str.ofString "/claim/cut.py") 423, Value.int 135 0, Value.int 3 0, Value.int 0 0, Value.int 0 0, Value.int 3 0, Value.ref 128, Value.bool Bool.true, Value.int 181 0, Value.ref 129, Value.none, Value.ref 130, Value.ref 131, Value.ref 132, Value.int 429 0, Value.int 135 0, Value.str (Str.ofString "/claim/cut.py") 430] } : Obj)) ::
 (nat_lit 134, ({ cls := Value.type "function", data := Data.func { name := Str.ofString "bishop_attacks", qualname := Str.ofString "bishop_attacks", params := a12, body := .stmts b12, scope := s12, globals := 3, closure := [], defaults := Value.none, kwdefaults := Value.none, pyModule := Value.str (Str.ofString "chess.sliders") 395, code := Value.ref 133 } } : Obj)) ::
 (nat_lit 135, ({ cls := Value.type "tuple", data := Data.seq #[] } : Obj)) ::
 (nat_lit 137, ({ cls := Value.type "tuple", data := Data.seq #[Value.str (Str.ofString "geo") 435, Value.str (Str.ofString "square") 436, Value.str (Str.ofString "occupied") 437] } : Obj)) ::
 (nat_lit 138, ({ cls := Value.type "tuple", data := Data.seq #[] } : Obj)) ::
 (nat_lit 140, ({ cls := Value.type "code", data := Data.fields #[Value.str (Str.ofString "queen_attacks") 432, Value.str (Str.ofString "queen_attacks") 433, Value.str (Str.ofString "/claim/cut.py") 434, Value.int 140 0, Value.int 3 0, Value.int 0 0, Value.int 0 0, Value.int 3 0, Value.ref 135, Value.bool Bool.true, Value.int 181 0, Value.ref 136, Value.none, Value.ref 137, Value.ref 138, Value.ref 139, Value.int 438 0, Value.int 140 0, Value.str (Str.ofString "/claim/cut.py") 439] } : Obj)) ::
 (nat_lit 141, ({ cls := Value.type "function", data := Data.func { name := Str.ofString "queen_attacks", qualname := Str.ofString "queen_attacks", params := a13, body := .stmts b13, scope := s13, globals := 3, closure := [], defaults := Value.none, kwdefaults := Value.none, pyModule := Value.str (Str.ofString "chess.sliders") 395, code := Value.ref 140 } } : Obj)) ::
 (nat_lit 142, ({ cls := Value.type "tuple", data := Data.seq #[] } : Obj)) ::
 (nat_lit 144, ({ cls := Value.type "tuple", data := Data.seq #[Value.str (Str.ofString "geo") 444, Value.str (Str.ofString "kind") 445, Value.str (Str.ofString "square") 446, Value.str (Str.ofString "occupied") 447] } : Obj)) ::
 (nat_lit 145, ({ cls := Value.type "tuple", data := Data.seq #[] } : Obj)) ::
 (nat_lit 147, ({ cls := Value.type "code", data := Data.fields #[Value.str (Str.ofString "slider_attacks") 441, Value.str (Str.ofString "slider_attacks") 442, Value.str (Str.ofString "/claim/cut.py") 443, Value.int 142 0, Value.int 4 0, Value.int 0 0, Value.int 0 0, Value.int 3 0, Value.ref 142, Value.bool Bool.true, Value.int 181 0, Value.ref 143, Value.none, Value.ref 144, Value.ref 145, Value.ref 146, Value.int 448 0, Value.int 142 0, Value.str (Str.ofString "/claim/cut.py") 449] } : Obj)) ::
 (nat_lit 148, ({ cls := Value.type "function", data := Data.func { name := Str.ofString "slider_attacks", qualname := Str.ofString "slider_attacks", params := a14, body := .stmts b14, scope := s14, globals := 3, closure := [], defaults := Value.none, kwdefaults := Value.none, pyModule := Value.str (Str.ofString "chess.sliders") 395, code := Value.ref 147 } } : Obj)) ::
 (nat_lit 149, ({ cls := Value.type "tuple", data := Data.seq #[] } : Obj)) ::
 (nat_lit 151, ({ cls := Value.type "tuple", data := Data.seq #[Value.str (Str.ofString "geo") 454, Value.str (Str.ofString "side") 455, Value.str (Str.ofString "kind") 456, Value.str (Str.ofString "square") 457, Value.str (Str.ofString "occupied") 458] } : Obj)) ::
 (nat_lit 152, ({ cls := Value.type "tuple", data := Data.seq #[] } : Obj)) ::
 (nat_lit 154, ({ cls := Value.type "code", data := Data.fields #[Value.str (Str.ofString "piece_attacks") 451, Value.str (Str.ofString "piece_attacks") 452, Value.str (Str.ofString "/claim/cut.py") 453, Value.int 150 0, Value.int 5 0, Value.int 0 0, Value.int 0 0, Value.int 3 0, Value.ref 149, Value.bool Bool.true, Value.int 181 0, Value.ref 150, Value.none, Value.ref 151, Value.ref 152, Value.ref 153, Value.int 459 0, Value.int 150 0, Value.str (Str.ofString "/claim/cut.py") 460] } : Obj)) ::
 (nat_lit 155, ({ cls := Value.type "function", data := Data.func { name := Str.ofString "piece_attacks", qualname := Str.ofString "piece_attacks", params := a15, body := .stmts b15, scope := s15, globals := 3, closure := [], defaults := Value.none, kwdefaults := Value.none, pyModule := Value.str (Str.ofString "chess.sliders") 395, code := Value.ref 154 } } : Obj)) ::
 (nat_lit 156, ({ cls := Value.type "tuple", data := Data.seq #[] } : Obj)) ::
 (nat_lit 158, ({ cls := Value.type "tuple", data := Data.seq #[Value.str (Str.ofString "trail") 467, Value.str (Str.ofString "many") 468] } : Obj)) ::
 (nat_lit 159, ({ cls := Value.type "tuple", data := Data.seq #[] } : Obj)) ::
 (nat_lit 161, ({ cls := Value.type "code", data := Data.fields #[Value.str (Str.ofString "_law_hop") 464, Value.str (Str.ofString "_law_hop") 465, Value.str (Str.ofString "/claim/cut.py") 466, Value.int 159 0, Value.int 2 0, Value.int 0 0, Value.int 0 0, Value.int 3 0, Value.ref 156, Value.bool Bool.true, Value.int 181 0, Value.ref 157, Value.none, Value.ref 158, Value.ref 159, Value.ref 160, Value.int 469 0, Value.int 159 0, Value.str (Str.ofString "/claim/cut.py") 470] } : Obj)) ::
 (nat_lit 162, ({ cls := Value.type "function", data := Data.func { name := Str.ofString "_law_hop", qualname := Str.ofString "_law_hop", params := a16, body := .stmts b16, scope := s16, globals := 3, closure := [], defaults := Value.none, kwdefaults := Value.none, pyModule := Value.str (Str.ofString "law_sa0130_01") 462, code := Value.ref 161 } } : Obj)) ::
 (nat_lit 163, ({ cls := Value.type "tuple", data := Data.seq #[] } : Obj)) ::
 (nat_lit 165, ({ cls := Value.type "tuple", data := Data.seq #[Value.str (Str.ofString "trail") 475, Value.str (Str.ofString "size") 476, Value.str (Str.ofString "men") 477, Value.str (Str.ofString "turn") 478] } : Obj)) ::
 (nat_lit 166, ({ cls := Value.type "tuple", data := Data.seq #[] } : Obj)) ::
 (nat_lit 168, ({ cls := Value.type "code", data := Data.fields #[Value.str (Str.ofString "_law_men") 472, Value.str (Str.ofString "_law_men") 473, Value.str (Str.ofString "/claim/cut.py") 474, Value.int 164 0, Value.int 2 0, Value.int 0 0, Value.int 0 0, Value.int 3 0, Value.ref 163, Value.bool Bool.true, Value.int 181 0, Value.ref 164, Value.none, Value.ref 165, Value.ref 166, Value.ref 167, Value.int 479 0, Value.int 164 0, Value.str (Str.ofString "/claim/cut.py") 480] } : Obj)) ::
 (nat_lit 169, ({ cls := Value.type "function", data := Data.func { name := Str.ofString "_law_men", qualname := Str.ofString "_law_men", params := a17, body := .stmts b17, scope := s17, globals := 3, closure := [], defaults := Value.none, kwdefaults := Value.none, pyModule := Value.str (Str.ofString "law_sa0130_01") 462, code := Value.ref 168 } } : Obj)) ::
 (nat_lit 170, ({ cls := Value.type "tuple", data := Data.seq #[] } : Obj)) ::
 (nat_lit 173, ({ cls := Value.type "code", data := Data.fields #[Value.str (Str.ofString "_law_seen") 482, Value.str (Str.ofString "_law_seen") 483, Value.str (Str.ofString "/claim/cut.py") 484, Value.int 169 0, Value.int 4 0, Value.int 0 0, Value.int 0 0, Value.int 3 0, Value.ref 170, Value.bool Bool.true, Value.int 181 0, Value.ref 171, Value.none, Value.none, Value.none, Value.ref 172, Value.int 485 0, Value.int 169 0, Value.str (Str.ofString "/claim/cut.py") 486] } : Obj)) ::
 (nat_lit 174, ({ cls := Value.type "function", data := Data.func { name := Str.ofString "_law_seen", qualname := Str.ofString "_law_seen", params := a18, body := .stmts b18, scope := s18, globals := 3, closure := [], defaults := Value.none, kwdefaults := Value.none, pyModule := Value.str (Str.ofString "law_sa0130_01") 462, code := Value.ref 173 } } : Obj)) ::
 (nat_lit 175, ({ cls := Value.type "tuple", data := Data.seq #[] } : Obj)) ::
 (nat_lit 177, ({ cls := Value.type "tuple", data := Data.seq #[Value.str (Str.ofString "there") 491, Value.str (Str.ofString "back") 492, Value.str (Str.ofString "a") 493, Value.str (Str.ofString "b") 494] } : Obj)) ::
 (nat_lit 178, ({ cls := Value.type "tuple", data := Data.seq #[] } : Obj)) ::
 (nat_lit 180, ({ cls := Value.type "code", data := Data.fields #[Value.str (Str.ofString "_law_is_mutual") 488, Value.str (Str.ofString "_law_is_mutual") 489, Value.str (Str.ofString "/claim/cut.py") 490, Value.int 171 0, Value.int 2 0, Value.int 0 0, Value.int 0 0, Value.int 3 0, Value.ref 175, Value.bool Bool.true, Value.int 181 0, Value.ref 176, Value.none, Value.ref 177, Value.ref 178, Value.ref 179, Value.int 495 0, Value.int 171 0, Value.str (Str.ofString "/claim/cut.py") 496] } : Obj)) ::
 (nat_lit 181, ({ cls := Value.type "function", data := Data.func { name := Str.ofString "_law_is_mutual", qualname := Str.ofString "_law_is_mutual", params := a19, body := .stmts b19, scope := s19, globals := 3, closure := [], defaults := Value.none, kwdefaults := Value.none, pyModule := Value.str (Str.ofString "law_sa0130_01") 462, code := Value.ref 180 } } : Obj)) ::
 (nat_lit 182, ({ cls := Value.type "tuple", data := Data.seq #[] } : Obj)) ::
 (nat_lit 185, ({ cls := Value.type "code", data := Data.fields #[Value.str (Str.ofString "law") 498, Value.str (Str.ofString "law") 499, Value.str (Str.ofString "/claim/cut.py") 500, Value.int 177 0, Value.int 1 0, Value.int 0 0, Value.int 0 0, Value.int 3 0, Value.ref 182, Value.bool Bool.true, Value.int 181 0, Value.ref 183, Value.none, Value.none, Value.none, Value.ref 184, Value.int 501 0, Value.int 177 0, Value.str (Str.ofString "/claim/cut.py") 502] } : Obj)) ::
 (nat_lit 186, ({ cls := Value.type "function", data := Data.func { name := Str.ofString "law", qualname := Str.ofString "law", params := a20, body := .stmts b20, scope := s20, globals := 3, closure := [], defaults := Value.none, kwdefaults := Value.none, pyModule := Value.str (Str.ofString "law_sa0130_01") 462, code := Value.ref 185 } } : Obj)) ::
  []
) : Frag)) _ _ _ _ _ _ _ _ _ _ rfl _ _ _ _ _ _ _ _ _ _ rfl _ _ _ _ _ _ _ _ _ _ rfl _ _ _ _ _ _ _ _ _ _ rfl _ _ _ _ _ _ _ _ _ _ rfl _ _ _ _ _ _ _ _ _ _ rfl _ _ _ _ _ _ _ _ _ _ rfl _ _ _ _ _ _ _ _ _ _ rfl _ _ _ _ _ _ _ _ _ _ rfl _ _ _ _ _ _ _ _ _ _ rfl _ _ _ _ _ _ _ _ _ _ rfl _ _ _ _ _ _ _ _ _ _ rfl _ _ _ _ _ _ _ _ _ _ rfl _ _ _ _ _ _ _ _ _ _ rfl _ _ _ _ _ _ _ _ _ _ rfl _ _ _ _ _ _ _ _ _ _ rfl _ _ _ _ _ _ _ _ _ _ rfl _ _ _ _ _ _ _ _ _ _ rfl _ _ _ _ _ _ _ _ _ _ rfl _ _ _ _ _ _ _ _ _ _ rfl _ _ _ _ _ _ _ _ _ _ rfl

noncomputable def hd.at_39 : List Addr := 2 :: 3 :: 15 :: 22 :: 24 :: 25 :: 27 :: 28 :: 29 :: 30 :: 31 :: 32 :: 35 :: 36 :: 44 :: 46 :: 47 :: 49 :: 50 :: 51 :: 52 :: 53 :: 54 :: 55 :: 58 :: 60 :: 61 :: 63 :: 64 :: 65 :: 67 :: 68 :: 70 :: 71 :: 72 :: 74 :: 75 :: 77 :: 78 :: 79 :: 81 :: 82 :: 84 :: 85 :: 86 :: 88 :: 89 :: 91 :: 92 :: 93 :: 95 :: 96 :: 98 :: 99 :: 100 :: 102 :: 103 :: 105 :: 106 :: 107 :: 109 :: 110 :: 112 :: 113 :: 114 :: 116 :: 117 :: 119 :: 120 :: 121 :: 123 :: 124 :: 126 :: 127 :: 128 :: 130 :: 131 :: 133 :: 134 :: 135 :: 137 :: 138 :: 140 :: 141 :: 142 :: 144 :: 145 :: 147 :: 148 :: 149 :: 151 :: 152 :: 154 :: 155 :: 156 :: 158 :: 159 :: 161 :: 162 :: 163 :: 165 :: 166 :: 168 :: 169 :: 170 :: 173 :: 174 :: 175 :: 177 :: 178 :: 180 :: 181 :: 182 :: 185 :: 186 :: []
noncomputable abbrev hd.hook : Hook := kHook hd.heap_39 hd.at_39 (fun _ => by kernel_rfl)
/-- the whole heap that the top leaves -/
noncomputable def hd.heap_230 : Params → Heap := fun P =>
  (fun n0 a0 b0 d0 r0 t0 s0 u0 v0 p0 (_ : meAt 1 = .FunctionDef n0 a0 b0 d0 r0 t0 s0 u0 v0 p0) n1 a1 b1 d1 r1 t1 s1 u1 v1 p1 (_ : meAt 5 = .FunctionDef n1 a1 b1 d1 r1 t1 s1 u1 v1 p1) n2 a2 b2 d2 r2 t2 s2 u2 v2 p2 (_ : stAt 6 = .FunctionDef n2 a2 b2 d2 r2 t2 s2 u2 v2 p2) n3 a3 b3 d3 r3 t3 s3 u3 v3 p3 (_ : stAt 7 = .FunctionDef n3 a3 b3 d3 r3 t3 s3 u3 v3 p3) n4 a4 b4 d4 r4 t4 s4 u4 v4 p4 (_ : stAt 8 = .FunctionDef n4 a4 b4 d4 r4 t4 s4 u4 v4 p4) n5 a5 b5 d5 r5 t5 s5 u5 v5 p5 (_ : stAt 9 = .FunctionDef n5 a5 b5 d5 r5 t5 s5 u5 v5 p5) n6 a6 b6 d6 r6 t6 s6 u6 v6 p6 (_ : stAt 10 = .FunctionDef n6 a6 b6 d6 r6 t6 s6 u6 v6 p6) n7 a7 b7 d7 r7 t7 s7 u7 v7 p7 (_ : stAt 11 = .FunctionDef n7 a7 b7 d7 r7 t7 s7 u7 v7 p7) n8 a8 b8 d8 r8 t8 s8 u8 v8 p8 (_ : stAt 12 = .FunctionDef n8 a8 b8 d8 r8 t8 s8 u8 v8 p8) n9 a9 b9 d9 r9 t9 s9 u9 v9 p9 (_ : stAt 13 = .FunctionDef n9 a9 b9 d9 r9 t9 s9 u9 v9 p9) n10 a10 b10 d10 r10 t10 s10 u10 v10 p10 (_ : stAt 23 = .FunctionDef n10 a10 b10 d10 r10 t10 s10 u10 v10 p10) n11 a11 b11 d11 r11 t11 s11 u11 v11 p11 (_ : stAt 24 = .FunctionDef n11 a11 b11 d11 r11 t11 s11 u11 v11 p11) n12 a12 b12 d12 r12 t12 s12 u12 v12 p12 (_ : stAt 25 = .FunctionDef n12 a12 b12 d12 r12 t12 s12 u12 v12 p12) n13 a13 b13 d13 r13 t13 s13 u13 v13 p13 (_ : stAt 26 = .FunctionDef n13 a13 b13 d13 r13 t13 s13 u13 v13 p13) n14 a14 b14 d14 r14 t14 s14 u14 v14 p14 (_ : stAt 27 = .FunctionDef n14 a14 b14 d14 r14 t14 s14 u14 v14 p14) n15 a15 b15 d15 r15 t15 s15 u15 v15 p15 (_ : stAt 28 = .FunctionDef n15 a15 b15 d15 r15 t15 s15 u15 v15 p15) n16 a16 b16 d16 r16 t16 s16 u16 v16 p16 (_ : stAt 30 = .FunctionDef n16 a16 b16 d16 r16 t16 s16 u16 v16 p16) n17 a17 b17 d17 r17 t17 s17 u17 v17 p17 (_ : stAt 31 = .FunctionDef n17 a17 b17 d17 r17 t17 s17 u17 v17 p17) n18 a18 b18 d18 r18 t18 s18 u18 v18 p18 (_ : stAt 32 = .FunctionDef n18 a18 b18 d18 r18 t18 s18 u18 v18 p18) n19 a19 b19 d19 r19 t19 s19 u19 v19 p19 (_ : stAt 33 = .FunctionDef n19 a19 b19 d19 r19 t19 s19 u19 v19 p19) n20 a20 b20 d20 r20 t20 s20 u20 v20 p20 (_ : stAt 34 = .FunctionDef n20 a20 b20 d20 r20 t20 s20 u20 v20 p20) => (⟨⟨
 (boot_o_0 P : Obj) ::
 (boot_o_1 P : Obj) ::
 ({ cls := Value.none, data := Data.dict #[{ hash := PyData.keyHash P (Str.ofString "type.__subclasses__.Exception.0"), key := Value.str (Str.ofString "type.__subclasses__.Exception.0") 214, val := Value.int 31 0 }, { hash := PyData.keyHash P (Str.ofString "type.__subclasses__.Exception.n"), key := Value.str (Str.ofString "type.__subclasses__.Exception.n") 215, val := Value.int 1 0 }] 2 } : Obj) ::
 ({ cls := Value.type "dict", data := Data.dict #[{ hash := PyData.keyHash P (Str.ofString "__name__"), key := Value.str (Str.ofString "__name__") 165, val := Value.str (Str.ofString "law_sa0130_01") 462 }, { hash := PyData.keyHash P (Str.ofString "__doc__"), key := Value.str (Str.ofString "__doc__") 166, val := Value.none }, { hash := PyData.keyHash P (Str.ofString "__package__"), key := Value.str (Str.ofString "__package__") 167, val := Value.none }, { hash := PyData.keyHash P (Str.ofString "__loader__"), key := Value.str (Str.ofString "__loader__") 168, val := Value.builtin "__main__.__loader__#opaque" }, { hash := PyData.keyHash P (Str.ofString "__spec__"), key := Value.str (Str.ofString "__spec__") 169, val := Value.none }, { hash := PyData.keyHash P (Str.ofString "__annotations__"), key := Value.str (Str.ofString "__annotations__") 170, val := Value.ref 6 }, { hash := PyData.keyHash P (Str.ofString "__builtins__"), key := Value.str (Str.ofString "__builtins__") 171, val := Value.ref 4 }, { hash := PyData.keyHash P (Str.ofString "__file__"), key := Value.str (Str.ofString "__file__") 173, val := Value.str (Str.ofString "/claim/cut.py") 172 }, { hash := PyData.keyHash P (Str.ofString "__cached__"), key := Value.str (Str.ofString "__cached__") 174, val := Value.none }, { hash := PyData.keyHash P (Str.ofString "ChessError"), key := Value.str (Str.ofString "ChessError") 217, val := Value.ref 31 }, { hash := PyData.keyHash P (Str.ofString "STEP_FILES"), key := Value.str (Str.ofString "STEP_FILES") 231, val := Value.ref 35 }, { hash := PyData.keyHash P (Str.ofString "STEP_RANKS"), key := Value.str (Str.ofString "STEP_RANKS") 243, val := Value.ref 36 }, { hash := PyData.keyHash P (Str.ofString "Geometry"), key := Value.str (Str.ofString "Geometry") 288, val := Value.ref 53 }, { hash := PyData.keyHash P (Str.ofString "is_growing"), key := Value.str (Str.ofString "is_growing") 295, val := Value.ref 64 }, { hash := PyData.keyHash P (Str.ofString "add_masks"), key := Value.str (Str.ofString "add_masks") 306, val := Value.ref 71 }, { hash := PyData.keyHash P (Str.ofString "inner_squares"), key := Value.str (Str.ofString "inner_squares") 315, val := Value.ref 78 }, { hash := PyData.keyHash P (Str.ofString "add_rays"), key := Value.str (Str.ofString "add_rays") 329, val := Value.ref 85 }, { hash := PyData.keyHash P (Str.ofString "add_pawns"), key := Value.str (Str.ofString "add_pawns") 337, val := Value.ref 92 }, { hash := PyData.keyHash P (Str.ofString "add_knights"), key := Value.str (Str.ofString "add_knights") 354, val := Value.ref 99 }, { hash := PyData.keyHash P (Str.ofString "add_castles"), key := Value.str (Str.ofString "add_castles") 367, val := Value.ref 106 }, { hash := PyData.keyHash P (Str.ofString "make_geometry"), key := Value.str (Str.ofString "make_geometry") 378, val := Value.ref 113 }, { hash := PyData.keyHash P (Str.ofString "WHITE"), key := Value.str (Str.ofString "WHITE") 380, val := Value.int 0 379 }, { hash := PyData.keyHash P (Str.ofString "BLACK"), key := Value.str (Str.ofString "BLACK") 382, val := Value.int 1 381 }, { hash := PyData.keyHash P (Str.ofString "PAWN"), key := Value.str (Str.ofString "PAWN") 384, val := Value.int 1 383 }, { hash := PyData.keyHash P (Str.ofString "KNIGHT"), key := Value.str (Str.ofString "KNIGHT") 386, val := Value.int 2 385 }, { hash := PyData.keyHash P (Str.ofString "BISHOP"), key := Value.str (Str.ofString "BISHOP") 388, val := Value.int 3 387 }, { hash := PyData.keyHash P (Str.ofString "ROOK"), key := Value.str (Str.ofString "ROOK") 390, val := Value.int 4 389 }, { hash := PyData.keyHash P (Str.ofString "QUEEN"), key := Value.str (Str.ofString "QUEEN") 392, val := Value.int 5 391 }, { hash := PyData.keyHash P (Str.ofString "KING"), key := Value.str (Str.ofString "KING") 394, val := Value.int 6 393 }, { hash := PyData.keyHash P (Str.ofString "ray_attacks"), key := Value.str (Str.ofString "ray_attacks") 409, val := Value.ref 120 }, { hash := PyData.keyHash P (Str.ofString "rook_attacks"), key := Value.str (Str.ofString "rook_attacks") 420, val := Value.ref 127 }, { hash := PyData.keyHash P (Str.ofString "bishop_attacks"), key := Value.str (Str.ofString "bishop_attacks") 431, val := Value.ref 134 }, { hash := PyData.keyHash P (Str.ofString "queen_attacks"), key := Value.str (Str.ofString "queen_attacks") 440, val := Value.ref 141 }, { hash := PyData.keyHash P (Str.ofString "slider_attacks"), key := Value.str (Str.ofString "slider_attacks") 450, val := Value.ref 148 }, { hash := PyData.keyHash P (Str.ofString "piece_attacks"), key := Value.str (Str.ofString "piece_attacks") 461, val := Value.ref 155 }, { hash := PyData.keyHash P (Str.ofString "_law_hop"), key := Value.str (Str.ofString "_law_hop") 471, val := Value.ref 162 }, { hash := PyData.keyHash P (Str.ofString "_law_men"), key := Value.str (Str.ofString "_law_men") 481, val := Value.ref 169 }, { hash := PyData.keyHash P (Str.ofString "_law_seen"), key := Value.str (Str.ofString "_law_seen") 487, val := Value.ref 174 }, { hash := PyData.keyHash P (Str.ofString "_law_is_mutual"), key := Value.str (Str.ofString "_law_is_mutual") 497, val := Value.ref 181 }, { hash := PyData.keyHash P (Str.ofString "law"), key := Value.str (Str.ofString "law") 503, val := Value.ref 186 }] 40 } : Obj) ::
 (boot_o_4 P : Obj) ::
 (boot_o_5 P : Obj) ::
 (boot_o_6 P : Obj) ::
 (boot_o_7 P : Obj) ::
 (boot_o_8 P : Obj) ::
 (boot_o_9 P : Obj) ::
 (boot_o_10 P : Obj) ::
 ({ cls := Value.type "tuple", data := Data.seq #[] } : Obj) ::
 ({ cls := Value.none, data := Data.fields #[Value.int 2 0, Value.int 0 0, Value.ref 20, Value.int 10 0, Value.int 0 0, Value.ref 42, Value.int 27 0, Value.int 0 0, Value.ref 63, Value.int 29 0, Value.int 0 0, Value.ref 70, Value.int 37 0, Value.int 0 0, Value.ref 77, Value.int 48 0, Value.int 0 0, Value.ref 84, Value.int 63 0, Value.int 0 0, Value.ref 91, Value.int 67 0, Value.int 0 0, Value.ref 98, Value.int 79 0, Value.int 0 0, Value.ref 105, Value.int 96 0, Value.int 0 0, Value.ref 112, Value.int 115 0, Value.int 0 0, Value.ref 119, Value.int 130 0, Value.int 0 0, Value.ref 126, Value.int 135 0, Value.int 0 0, Value.ref 133, Value.int 140 0, Value.int 0 0, Value.ref 140, Value.int 142 0, Value.int 0 0, Value.ref 147, Value.int 150 0, Value.int 0 0, Value.ref 154, Value.int 159 0, Value.int 0 0, Value.ref 161, Value.int 164 0, Value.int 0 0, Value.ref 168, Value.int 169 0, Value.int 0 0, Value.ref 173, Value.int 171 0, Value.int 0 0, Value.ref 180, Value.int 177 0, Value.int 0 0, Value.ref 185] } : Obj) ::
 ({ cls := Value.type "code", data := Data.fields #[Value.str (Str.ofString "<module>") 182, Value.str (Str.ofString "<module>") 183, Value.str (Str.ofString "/claim/cut.py") 184, Value.int 1 0, Value.int 0 0, Value.int 0 0, Value.int 0 0, Value.int 0 0, Value.ref 11, Value.bool Bool.false, Value.int 181 0, Value.ref 12, Value.none, Value.none, Value.none, Value.none, Value.int 185 0, Value.int 1 0, Value.str (Str.ofString "/claim/cut.py") 186] } : Obj) ::
 ({ cls := Value.type "frame", slots := #[Option.some (Value.ref 13), Option.some (Value.ref 3), Option.some (Value.ref 3), Option.none, Option.some (Value.str (Str.ofString "__main__") 164), Option.none, Option.some (Value.ref 0)] } : Obj) ::
 ({ cls := Value.type "tuple", data := Data.seq #[Value.type "Exception"] } : Obj) ::
 ({ cls := Value.type "builtin_function_or_method", data := Data.fields #[Value.builtin "type.__prepare__", Value.type "type"] } : Obj) ::
 ({ cls := Value.type "dict", data := Data.dict #[{ hash := PyData.keyHash P (Str.ofString "__module__"), key := Value.str (Str.ofString "__module__") 196, val := Value.str (Str.ofString "chess.errors") 187 }, { hash := PyData.keyHash P (Str.ofString "__qualname__"), key := Value.str (Str.ofString "__qualname__") 198, val := Value.str (Str.ofString "ChessError") 197 }, { hash := PyData.keyHash P (Str.ofString "__firstlineno__"), key := Value.str (Str.ofString "__firstlineno__") 200, val := Value.int 2 199 }, { hash := PyData.keyHash P (Str.ofString "__init__"), key := Value.str (Str.ofString "__init__") 208, val := Value.ref 28 }, { hash := PyData.keyHash P (Str.ofString "__static_attributes__"), key := Value.str (Str.ofString "__static_attributes__") 210, val := Value.ref 29 }] 5 } : Obj) ::
 ({ cls := Value.type "tuple", data := Data.seq #[] } : Obj) ::
 ({ cls := Value.none, data := Data.fields #[Value.int 4 0, Value.int 4 0, Value.ref 27] } : Obj) ::
 ({ cls := Value.type "code", data := Data.fields #[Value.str (Str.ofString "ChessError") 191, Value.str (Str.ofString "ChessError") 192, Value.str (Str.ofString "/claim/cut.py") 193, Value.int 2 0, Value.int 0 0, Value.int 0 0, Value.int 0 0, Value.int 0 0, Value.ref 18, Value.bool Bool.false, Value.int 181 0, Value.ref 19, Value.none, Value.none, Value.none, Value.none, Value.int 194 0, Value.int 2 0, Value.str (Str.ofString "/claim/cut.py") 195] } : Obj) ::
 ({ cls := Value.type "frame", slots := #[Option.some (Value.ref 20), Option.some (Value.ref 3), Option.some (Value.ref 17), Option.none, Option.some (Value.str (Str.ofString "chess.errors") 187), Option.none, Option.some (Value.ref 0)] } : Obj) ::
 ({ cls := Value.type "tuple", data := Data.seq #[] } : Obj) ::
 ({ cls := Value.none, data := Data.fields #[] } : Obj) ::
 ({ cls := Value.type "tuple", data := Data.seq #[Value.str (Str.ofString "self") 204, Value.str (Str.ofString "text") 205] } : Obj) ::
 ({ cls := Value.type "tuple", data := Data.seq #[] } : Obj) ::
 ({ cls := Value.none, data := Data.func { name := Str.ofString "__init__", qualname := Str.ofString "ChessError.__init__", params := a0, body := .stmts b0, scope := s0, globals := 0, closure := [], defaults := Value.none, kwdefaults := Value.none } } : Obj) ::
 ({ cls := Value.type "code", data := Data.fields #[Value.str (Str.ofString "__init__") 201, Value.str (Str.ofString "ChessError.__init__") 202, Value.str (Str.ofString "/claim/cut.py") 203, Value.int 4 0, Value.int 2 0, Value.int 0 0, Value.int 0 0, Value.int 3 0, Value.ref 22, Value.bool Bool.true, Value.int 181 0, Value.ref 23, Value.none, Value.ref 24, Value.ref 25, Value.ref 26, Value.int 206 0, Value.int 4 0, Value.str (Str.ofString "/claim/cut.py") 207] } : Obj) ::
 ({ cls := Value.type "function", data := Data.func { name := Str.ofString "__init__", qualname := Str.ofString "ChessError.__init__", params := a0, body := .stmts b0, scope := s0, globals := 3, closure := [], defaults := Value.none, kwdefaults := Value.none, pyModule := Value.str (Str.ofString "chess.errors") 187, code := Value.ref 27 } } : Obj) ::
 ({ cls := Value.type "tuple", data := Data.seq #[Value.str (Str.ofString "text") 209] } : Obj) ::
 ({ cls := Value.type "dict", data := Data.dict #[{ hash := PyData.keyHash P (Str.ofString "__module__"), key := Value.str (Str.ofString "__module__") 196, val := Value.str (Str.ofString "chess.errors") 187 }, { hash := PyData.keyHash P (Str.ofString "__firstlineno__"), key := Value.str (Str.ofString "__firstlineno__") 200, val := Value.int 2 199 }, { hash := PyData.keyHash P (Str.ofString "__init__"), key := Value.str (Str.ofString "__init__") 208, val := Value.ref 28 }, { hash := PyData.keyHash P (Str.ofString "__static_attributes__"), key := Value.str (Str.ofString "__static_attributes__") 210, val := Value.ref 29 }, { hash := PyData.keyHash P (Str.ofString "__weakref__"), key := Value.str (Str.ofString "__weakref__") 212, val := Value.ref 32 }, { hash := PyData.keyHash P (Str.ofString "__doc__"), key := Value.str (Str.ofString "__doc__") 213, val := Value.none }] 3 } : Obj) ::
 ({ cls := Value.type "type", data := Data.cls { name := Str.ofString "ChessError", bases := [Value.type "Exception"], mro := [Value.ref 31, Value.type "Exception", Value.type "BaseException", Value.type "object"], ns := 30, qualname := Str.ofString "ChessError" }, slots := #[Option.some (Value.ref 15), Option.none, Option.some (Value.str (Str.ofString "ChessError") 189), Option.some (Value.str (Str.ofString "ChessError") 197), Option.some (Value.builtin "Exception.__new__"), Option.some (Value.bool Bool.true)] } : Obj) ::
 ({ cls := Value.type "getset_descriptor", data := Data.fields #[Value.str (Str.ofString "__weakref__") 211, Value.ref 31, Value.builtin "ExceptionGroup.__weakref__", Value.none] } : Obj) ::
 ({ cls := Value.type "super", data := Data.fields #[Value.ref 31, Value.ref 31, Value.ref 31] } : Obj) ::
 ({ cls := Value.type "builtin_function_or_method", data := Data.fields #[Value.builtin "object.__init_subclass__", Value.ref 31] } : Obj) ::
 ({ cls := Value.type "tuple", data := Data.seq #[Value.int 0 220, Value.int 1 221, Value.int 0 222, Value.int (-1) 224, Value.int 1 225, Value.int 1 226, Value.int (-1) 228, Value.int (-1) 230] } : Obj) ::
 ({ cls := Value.type "tuple", data := Data.seq #[Value.int 1 232, Value.int 0 233, Value.int (-1) 235, Value.int 0 236, Value.int 1 237, Value.int (-1) 239, Value.int (-1) 241, Value.int 1 242] } : Obj) ::
 ({ cls := Value.type "tuple", data := Data.seq #[] } : Obj) ::
 ({ cls := Value.type "builtin_function_or_method", data := Data.fields #[Value.builtin "type.__prepare__", Value.type "type"] } : Obj) ::
 ({ cls := Value.type "dict", data := Data.dict #[{ hash := PyData.keyHash P (Str.ofString "__module__"), key := Value.str (Str.ofString "__module__") 251, val := Value.str (Str.ofString "chess.geometry") 218 }, { hash := PyData.keyHash P (Str.ofString "__qualname__"), key := Value.str (Str.ofString "__qualname__") 253, val := Value.str (Str.ofString "Geometry") 252 }, { hash := PyData.keyHash P (Str.ofString "__firstlineno__"), key := Value.str (Str.ofString "__firstlineno__") 255, val := Value.int 10 254 }, { hash := PyData.keyHash P (Str.ofString "__init__"), key := Value.str (Str.ofString "__init__") 266, val := Value.ref 50 }, { hash := PyData.keyHash P (Str.ofString "__static_attributes__"), key := Value.str (Str.ofString "__static_attributes__") 281, val := Value.ref 51 }] 5 } : Obj) ::
 ({ cls := Value.type "tuple", data := Data.seq #[] } : Obj) ::
 ({ cls := Value.none, data := Data.fields #[Value.int 12 0, Value.int 4 0, Value.ref 49] } : Obj) ::
 ({ cls := Value.type "code", data := Data.fields #[Value.str (Str.ofString "Geometry") 246, Value.str (Str.ofString "Geometry") 247, Value.str (Str.ofString "/claim/cut.py") 248, Value.int 10 0, Value.int 0 0, Value.int 0 0, Value.int 0 0, Value.int 0 0, Value.ref 40, Value.bool Bool.false, Value.int 181 0, Value.ref 41, Value.none, Value.none, Value.none, Value.none, Value.int 249 0, Value.int 10 0, Value.str (Str.ofString "/claim/cut.py") 250] } : Obj) ::
 ({ cls := Value.type "frame", slots := #[Option.some (Value.ref 42), Option.some (Value.ref 3), Option.some (Value.ref 39), Option.none, Option.some (Value.str (Str.ofString "chess.geometry") 218), Option.none, Option.some (Value.ref 0)] } : Obj) ::
 ({ cls := Value.type "tuple", data := Data.seq #[] } : Obj) ::
 ({ cls := Value.none, data := Data.fields #[] } : Obj) ::
 ({ cls := Value.type "tuple", data := Data.seq #[Value.str (Str.ofString "self") 259, Value.str (Str.ofString "files") 260, Value.str (Str.ofString "ranks") 261, Value.str (Str.ofString "has_double") 262, Value.str (Str.ofString "has_castling") 263] } : Obj) ::
 ({ cls := Value.type "tuple", data := Data.seq #[] } : Obj) ::
 ({ cls := Value.none, data := Data.func { name := Str.ofString "__init__", qualname := Str.ofString "Geometry.__init__", params := a1, body := .stmts b1, scope := s1, globals := 0, closure := [], defaults := Value.none, kwdefaults := Value.none } } : Obj) ::
 ({ cls := Value.type "code", data := Data.fields #[Value.str (Str.ofString "__init__") 256, Value.str (Str.ofString "Geometry.__init__") 257, Value.str (Str.ofString "/claim/cut.py") 258, Value.int 12 0, Value.int 5 0, Value.int 0 0, Value.int 0 0, Value.int 3 0, Value.ref 44, Value.bool Bool.true, Value.int 181 0, Value.ref 45, Value.none, Value.ref 46, Value.ref 47, Value.ref 48, Value.int 264 0, Value.int 12 0, Value.str (Str.ofString "/claim/cut.py") 265] } : Obj) ::
 ({ cls := Value.type "function", data := Data.func { name := Str.ofString "__init__", qualname := Str.ofString "Geometry.__init__", params := a1, body := .stmts b1, scope := s1, globals := 3, closure := [], defaults := Value.none, kwdefaults := Value.none, pyModule := Value.str (Str.ofString "chess.geometry") 218, code := Value.ref 49 } } : Obj) ::
 ({ cls := Value.type "tuple", data := Data.seq #[Value.str (Str.ofString "castles") 267, Value.str (Str.ofString "file_masks") 268, Value.str (Str.ofString "files") 269, Value.str (Str.ofString "full") 270, Value.str (Str.ofString "has_castling") 271, Value.str (Str.ofString "has_double") 272, Value.str (Str.ofString "king") 273, Value.str (Str.ofString "knight") 274, Value.str (Str.ofString "pawn") 275, Value.str (Str.ofString "rank_masks") 276, Value.str (Str.ofString "ranks") 277, Value.str (Str.ofString "rays") 278, Value.str (Str.ofString "rights_lost") 279, Value.str (Str.ofString "size") 280] } : Obj) ::
 ({ cls := Value.type "dict", data := Data.dict #[{ hash := PyData.keyHash P (Str.ofString "__module__"), key := Value.str (Str.ofString "__module__") 251, val := Value.str (Str.ofString "chess.geometry") 218 }, { hash := PyData.keyHash P (Str.ofString "__firstlineno__"), key := Value.str (Str.ofString "__firstlineno__") 255, val := Value.int 10 254 }, { hash := PyData.keyHash P (Str.ofString "__init__"), key := Value.str (Str.ofString "__init__") 266, val := Value.ref 50 }, { hash := PyData.keyHash P (Str.ofString "__static_attributes__"), key := Value.str (Str.ofString "__static_attributes__") 281, val := Value.ref 51 }, { hash := PyData.keyHash P (Str.ofString "__dict__"), key := Value.str (Str.ofString "__dict__") 283, val := Value.ref 54 }, { hash := PyData.keyHash P (Str.ofString "__weakref__"), key := Value.str (Str.ofString "__weakref__") 285, val := Value.ref 55 }, { hash := PyData.keyHash P (Str.ofString "__doc__"), key := Value.str (Str.ofString "__doc__") 286, val := Value.none }] 4 } : Obj) ::
 ({ cls := Value.type "type", data := Data.cls { name := Str.ofString "Geometry", bases := [Value.type "object"], mro := [Value.ref 53, Value.type "object"], ns := 52, qualname := Str.ofString "Geometry" }, slots := #[Option.none, Option.none, Option.some (Value.str (Str.ofString "Geometry") 244), Option.some (Value.str (Str.ofString "Geometry") 252), Option.some (Value.builtin "object.__new__"), Option.some (Value.bool Bool.true)] } : Obj) ::
 ({ cls := Value.type "getset_descriptor", data := Data.fields #[Value.str (Str.ofString "__dict__") 282, Value.ref 53, Value.builtin "function.__dict__", Value.builtin "function.__dict__#set"] } : Obj) ::
 ({ cls := Value.type "getset_descriptor", data := Data.fields #[Value.str (Str.ofString "__weakref__") 284, Value.ref 53, Value.builtin "ExceptionGroup.__weakref__", Value.none] } : Obj) ::
 ({ cls := Value.type "super", data := Data.fields #[Value.ref 53, Value.ref 53, Value.ref 53] } : Obj) ::
 ({ cls := Value.type "builtin_function_or_method", data := Data.fields #[Value.builtin "object.__init_subclass__", Value.ref 53] } : Obj) ::
 ({ cls := Value.type "tuple", data := Data.seq #[] } : Obj) ::
 ({ cls := Value.none, data := Data.fields #[] } : Obj) ::
 ({ cls := Value.type "tuple", data := Data.seq #[Value.str (Str.ofString "d") 292] } : Obj) ::
 ({ cls := Value.type "tuple", data := Data.seq #[] } : Obj) ::
 ({ cls := Value.none, data := Data.func { name := Str.ofString "is_growing", qualname := Str.ofString "is_growing", params := a2, body := .stmts b2, scope := s2, globals := 0, closure := [], defaults := Value.none, kwdefaults := Value.none } } : Obj) ::
 ({ cls := Value.type "code", data := Data.fields #[Value.str (Str.ofString "is_growing") 289, Value.str (Str.ofString "is_growing") 290, Value.str (Str.ofString "/claim/cut.py") 291, Value.int 27 0, Value.int 1 0, Value.int 0 0, Value.int 0 0, Value.int 3 0, Value.ref 58, Value.bool Bool.true, Value.int 181 0, Value.ref 59, Value.none, Value.ref 60, Value.ref 61, Value.ref 62, Value.int 293 0, Value.int 27 0, Value.str (Str.ofString "/claim/cut.py") 294] } : Obj) ::
 ({ cls := Value.type "function", data := Data.func { name := Str.ofString "is_growing", qualname := Str.ofString "is_growing", params := a2, body := .stmts b2, scope := s2, globals := 3, closure := [], defaults := Value.none, kwdefaults := Value.none, pyModule := Value.str (Str.ofString "chess.geometry") 218, code := Value.ref 63 } } : Obj) ::
 ({ cls := Value.type "tuple", data := Data.seq #[] } : Obj) ::
 ({ cls := Value.none, data := Data.fields #[] } : Obj) ::
 ({ cls := Value.type "tuple", data := Data.seq #[Value.str (Str.ofString "geo") 299, Value.str (Str.ofString "row") 300, Value.str (Str.ofString "column") 301, Value.str (Str.ofString "r") 302, Value.str (Str.ofString "f") 303] } : Obj) ::
 ({ cls := Value.type "tuple", data := Data.seq #[] } : Obj) ::
 ({ cls := Value.none, data := Data.func { name := Str.ofString "add_masks", qualname := Str.ofString "add_masks", params := a3, body := .stmts b3, scope := s3, globals := 0, closure := [], defaults := Value.none, kwdefaults := Value.none } } : Obj) ::
 ({ cls := Value.type "code", data := Data.fields #[Value.str (Str.ofString "add_masks") 296, Value.str (Str.ofString "add_masks") 297, Value.str (Str.ofString "/claim/cut.py") 298, Value.int 29 0, Value.int 1 0, Value.int 0 0, Value.int 0 0, Value.int 3 0, Value.ref 65, Value.bool Bool.true, Value.int 181 0, Value.ref 66, Value.none, Value.ref 67, Value.ref 68, Value.ref 69, Value.int 304 0, Value.int 29 0, Value.str (Str.ofString "/claim/cut.py") 305] } : Obj) ::
 ({ cls := Value.type "function", data := Data.func { name := Str.ofString "add_masks", qualname := Str.ofString "add_masks", params := a3, body := .stmts b3, scope := s3, globals := 3, closure := [], defaults := Value.none, kwdefaults := Value.none, pyModule := Value.str (Str.ofString "chess.geometry") 218, code := Value.ref 70 } } : Obj) ::
 ({ cls := Value.type "tuple", data := Data.seq #[] } : Obj) ::
 ({ cls := Value.none, data := Data.fields #[] } : Obj) ::
 ({ cls := Value.type "tuple", data := Data.seq #[Value.str (Str.ofString "geo") 310, Value.str (Str.ofString "d") 311, Value.str (Str.ofString "edge") 312] } : Obj) ::
 ({ cls := Value.type "tuple", data := Data.seq #[] } : Obj) ::
 ({ cls := Value.none, data := Data.func { name := Str.ofString "inner_squares", qualname := Str.ofString "inner_squares", params := a4, body := .stmts b4, scope := s4, globals := 0, closure := [], defaults := Value.none, kwdefaults := Value.none } } : Obj) ::
 ({ cls := Value.type "code", data := Data.fields #[Value.str (Str.ofString "inner_squares") 307, Value.str (Str.ofString "inner_squares") 308, Value.str (Str.ofString "/claim/cut.py") 309, Value.int 37 0, Value.int 2 0, Value.int 0 0, Value.int 0 0, Value.int 3 0, Value.ref 72, Value.bool Bool.true, Value.int 181 0, Value.ref 73, Value.none, Value.ref 74, Value.ref 75, Value.ref 76, Value.int 313 0, Value.int 37 0, Value.str (Str.ofString "/claim/cut.py") 314] } : Obj) ::
 ({ cls := Value.type "function", data := Data.func { name := Str.ofString "inner_squares", qualname := Str.ofString "inner_squares", params := a4, body := .stmts b4, scope := s4, globals := 3, closure := [], defaults := Value.none, kwdefaults := Value.none, pyModule := Value.str (Str.ofString "chess.geometry") 218, code := Value.ref 77 } } : Obj) ::
 ({ cls := Value.type "tuple", data := Data.seq #[] } : Obj) ::
 ({ cls := Value.none, data := Data.fields #[] } : Obj) ::
 ({ cls := Value.type "tuple", data := Data.seq #[Value.str (Str.ofString "geo") 319, Value.str (Str.ofString "d") 320, Value.str (Str.ofString "inner") 321, Value.str (Str.ofString "delta") 322, Value.str (Str.ofString "ray") 323, Value.str (Str.ofString "order") 324, Value.str (Str.ofString "square") 325, Value.str (Str.ofString "goal") 326] } : Obj) ::
 ({ cls := Value.type "tuple", data := Data.seq #[] } : Obj) ::
 ({ cls := Value.none, data := Data.func { name := Str.ofString "add_rays", qualname := Str.ofString "add_rays", params := a5, body := .stmts b5, scope := s5, globals := 0, closure := [], defaults := Value.none, kwdefaults := Value.none } } : Obj) ::
 ({ cls := Value.type "code", data := Data.fields #[Value.str (Str.ofString "add_rays") 316, Value.str (Str.ofString "add_rays") 317, Value.str (Str.ofString "/claim/cut.py") 318, Value.int 48 0, Value.int 1 0, Value.int 0 0, Value.int 0 0, Value.int 3 0, Value.ref 79, Value.bool Bool.true, Value.int 181 0, Value.ref 80, Value.none, Value.ref 81, Value.ref 82, Value.ref 83, Value.int 327 0, Value.int 48 0, Value.str (Str.ofString "/claim/cut.py") 328] } : Obj) ::
 ({ cls := Value.type "function", data := Data.func { name := Str.ofString "add_rays", qualname := Str.ofString "add_rays", params := a5, body := .stmts b5, scope := s5, globals := 3, closure := [], defaults := Value.none, kwdefaults := Value.none, pyModule := Value.str (Str.ofString "chess.geometry") 218, code := Value.ref 84 } } : Obj) ::
 ({ cls := Value.type "tuple", data := Data.seq #[] } : Obj) ::
 ({ cls := Value.none, data := Data.fields #[] } : Obj) ::
 ({ cls := Value.type "tuple", data := Data.seq #[Value.str (Str.ofString "geo") 333, Value.str (Str.ofString "square") 334] } : Obj) ::
 ({ cls := Value.type "tuple", data := Data.seq #[] } : Obj) ::
 ({ cls := Value.none, data := Data.func { name := Str.ofString "add_pawns", qualname := Str.ofString "add_pawns", params := a6, body := .stmts b6, scope := s6, globals := 0, closure := [], defaults := Value.none, kwdefaults := Value.none } } : Obj) ::
 ({ cls := Value.type "code", data := Data.fields #[Value.str (Str.ofString "add_pawns") 330, Value.str (Str.ofString "add_pawns") 331, Value.str (Str.ofString "/claim/cut.py") 332, Value.int 63 0, Value.int 1 0, Value.int 0 0, Value.int 0 0, Value.int 3 0, Value.ref 86, Value.bool Bool.true, Value.int 181 0, Value.ref 87, Value.none, Value.ref 88, Value.ref 89, Value.ref 90, Value.int 335 0, Value.int 63 0, Value.str (Str.ofString "/claim/cut.py") 336] } : Obj) ::
 ({ cls := Value.type "function", data := Data.func { name := Str.ofString "add_pawns", qualname := Str.ofString "add_pawns", params := a6, body := .stmts b6, scope := s6, globals := 3, closure := [], defaults := Value.none, kwdefaults := Value.none, pyModule := Value.str (Str.ofString "chess.geometry") 218, code := Value.ref 91 } } : Obj) ::
 ({ cls := Value.type "tuple", data := Data.seq #[] } : Obj) ::
 ({ cls := Value.none, data := Data.fields #[] } : Obj) ::
 ({ cls := Value.type "tuple", data := Data.seq #[Value.str (Str.ofString "geo") 341, Value.str (Str.ofString "files") 342, Value.str (Str.ofString "not_first") 343, Value.str (Str.ofString "not_last") 344, Value.str (Str.ofString "not_first_two") 345, Value.str (Str.ofString "not_last_two") 346, Value.str (Str.ofString "square") 347, Value.str (Str.ofString "b") 348, Value.str (Str.ofString "near") 349, Value.str (Str.ofString "far") 350, Value.str (Str.ofString "found") 351] } : Obj) ::
 ({ cls := Value.type "tuple", data := Data.seq #[] } : Obj) ::
 ({ cls := Value.none, data := Data.func { name := Str.ofString "add_knights", qualname := Str.ofString "add_knights", params := a7, body := .stmts b7, scope := s7, globals := 0, closure := [], defaults := Value.none, kwdefaults := Value.none } } : Obj) ::
 ({ cls := Value.type "code", data := Data.fields #[Value.str (Str.ofString "add_knights") 338, Value.str (Str.ofString "add_knights") 339, Value.str (Str.ofString "/claim/cut.py") 340, Value.int 67 0, Value.int 1 0, Value.int 0 0, Value.int 0 0, Value.int 3 0, Value.ref 93, Value.bool Bool.true, Value.int 181 0, Value.ref 94, Value.none, Value.ref 95, Value.ref 96, Value.ref 97, Value.int 352 0, Value.int 67 0, Value.str (Str.ofString "/claim/cut.py") 353] } : Obj) ::
 ({ cls := Value.type "function", data := Data.func { name := Str.ofString "add_knights", qualname := Str.ofString "add_knights", params := a7, body := .stmts b7, scope := s7, globals := 3, closure := [], defaults := Value.none, kwdefaults := Value.none, pyModule := Value.str (Str.ofString "chess.geometry") 218, code := Value.ref 98 } } : Obj) ::
 ({ cls := Value.type "tuple", data := Data.seq #[] } : Obj) ::
 ({ cls := Value.none, data := Data.fields #[] } : Obj) ::
 ({ cls := Value.type "tuple", data := Data.seq #[Value.str (Str.ofString "geo") 358, Value.str (Str.ofString "start") 359, Value.str (Str.ofString "index") 360, Value.str (Str.ofString "base") 361, Value.str (Str.ofString "corner") 362, Value.str (Str.ofString "way") 363, Value.str (Str.ofString "goal") 364] } : Obj) ::
 ({ cls := Value.type "tuple", data := Data.seq #[] } : Obj) ::
 ({ cls := Value.none, data := Data.func { name := Str.ofString "add_castles", qualname := Str.ofString "add_castles", params := a8, body := .stmts b8, scope := s8, globals := 0, closure := [], defaults := Value.none, kwdefaults := Value.none } } : Obj) ::
 ({ cls := Value.type "code", data := Data.fields #[Value.str (Str.ofString "add_castles") 355, Value.str (Str.ofString "add_castles") 356, Value.str (Str.ofString "/claim/cut.py") 357, Value.int 79 0, Value.int 1 0, Value.int 0 0, Value.int 0 0, Value.int 3 0, Value.ref 100, Value.bool Bool.true, Value.int 181 0, Value.ref 101, Value.none, Value.ref 102, Value.ref 103, Value.ref 104, Value.int 365 0, Value.int 79 0, Value.str (Str.ofString "/claim/cut.py") 366] } : Obj) ::
 ({ cls := Value.type "function", data := Data.func { name := Str.ofString "add_castles", qualname := Str.ofString "add_castles", params := a8, body := .stmts b8, scope := s8, globals := 3, closure := [], defaults := Value.none, kwdefaults := Value.none, pyModule := Value.str (Str.ofString "chess.geometry") 218, code := Value.ref 105 } } : Obj) ::
 ({ cls := Value.type "tuple", data := Data.seq #[] } : Obj) ::
 ({ cls := Value.none, data := Data.fields #[] } : Obj) ::
 ({ cls := Value.type "tuple", data := Data.seq #[Value.str (Str.ofString "files") 371, Value.str (Str.ofString "ranks") 372, Value.str (Str.ofString "has_double") 373, Value.str (Str.ofString "has_castling") 374, Value.str (Str.ofString "geo") 375] } : Obj) ::
 ({ cls := Value.type "tuple", data := Data.seq #[] } : Obj) ::
 ({ cls := Value.none, data := Data.func { name := Str.ofString "make_geometry", qualname := Str.ofString "make_geometry", params := a9, body := .stmts b9, scope := s9, globals := 0, closure := [], defaults := Value.none, kwdefaults := Value.none } } : Obj) ::
 ({ cls := Value.type "code", data := Data.fields #[Value.str (Str.ofString "make_geometry") 368, Value.str (Str.ofString "make_geometry") 369, Value.str (Str.ofString "/claim/cut.py") 370, Value.int 96 0, Value.int 4 0, Value.int 0 0, Value.int 0 0, Value.int 3 0, Value.ref 107, Value.bool Bool.true, Value.int 181 0, Value.ref 108, Value.none, Value.ref 109, Value.ref 110, Value.ref 111, Value.int 376 0, Value.int 96 0, Value.str (Str.ofString "/claim/cut.py") 377] } : Obj) ::
 ({ cls := Value.type "function", data := Data.func { name := Str.ofString "make_geometry", qualname := Str.ofString "make_geometry", params := a9, body := .stmts b9, scope := s9, globals := 3, closure := [], defaults := Value.none, kwdefaults := Value.none, pyModule := Value.str (Str.ofString "chess.geometry") 218, code := Value.ref 112 } } : Obj) ::
 ({ cls := Value.type "tuple", data := Data.seq #[] } : Obj) ::
 ({ cls := Value.none, data := Data.fields #[] } : Obj) ::
 ({ cls := Value.type "tuple", data := Data.seq #[Value.str (Str.ofString "geo") 400, Value.str (Str.ofString "d") 401, Value.str (Str.ofString "square") 402, Value.str (Str.ofString "occupied") 403, Value.str (Str.ofString "ray") 404, Value.str (Str.ofString "stop") 405, Value.str (Str.ofString "behind") 406] } : Obj) ::
 ({ cls := Value.type "tuple", data := Data.seq #[] } : Obj) ::
 ({ cls := Value.none, data := Data.func { name := Str.ofString "ray_attacks", qualname := Str.ofString "ray_attacks", params := a10, body := .stmts b10, scope := s10, globals := 0, closure := [], defaults := Value.none, kwdefaults := Value.none } } : Obj) ::
 ({ cls := Value.type "code", data := Data.fields #[Value.str (Str.ofString "ray_attacks") 397, Value.str (Str.ofString "ray_attacks") 398, Value.str (Str.ofString "/claim/cut.py") 399, Value.int 115 0, Value.int 4 0, Value.int 0 0, Value.int 0 0, Value.int 3 0, Value.ref 114, Value.bool Bool.true, Value.int 181 0, Value.ref 115, Value.none, Value.ref 116, Value.ref 117, Value.ref 118, Value.int 407 0, Value.int 115 0, Value.str (Str.ofString "/claim/cut.py") 408] } : Obj) ::
 ({ cls := Value.type "function", data := Data.func { name := Str.ofString "ray_attacks", qualname := Str.ofString "ray_attacks", params := a10, body := .stmts b10, scope := s10, globals := 3, closure := [], defaults := Value.none, kwdefaults := Value.none, pyModule := Value.str (Str.ofString "chess.sliders") 395, code := Value.ref 119 } } : Obj) ::
 ({ cls := Value.type "tuple", data := Data.seq #[] } : Obj) ::
 ({ cls := Value.none, data := Data.fields #[] } : Obj) ::
 ({ cls := Value.type "tuple", data := Data.seq #[Value.str (Str.ofString "geo") 413, Value.str (Str.ofString "square") 414, Value.str (Str.ofString "occupied") 415, Value.str (Str.ofString "found") 416, Value.str (Str.ofString "d") 417] } : Obj) ::
 ({ cls := Value.type "tuple", data := Data.seq #[] } : Obj) ::
 ({ cls := Value.none, data := Data.func { name := Str.ofString "rook_attacks", qualname := Str.ofString "rook_attacks", params := a11, body := .stmts b11, scope := s11, globals := 0, closure := [], defaults := Value.none, kwdefaults := Value.none } } : Obj) ::
 ({ cls := Value.type "code", data := Data.fields #[Value.str (Str.ofString "rook_attacks") 410, Value.str (Str.ofString "rook_attacks") 411, Value.str (Str.ofString "/claim/cut.py") 412, Value.int 130 0, Value.int 3 0, Value.int 0 0, Value.int 0 0, Value.int 3 0, Value.ref 121, Value.bool Bool.true, Value.int 181 0, Value.ref 122, Value.none, Value.ref 123, Value.ref 124, Value.ref 125, Value.int 418 0, Value.int 130 0, Value.str (Str.ofString "/claim/cut.py") 419] } : Obj) ::
 ({ cls := Value.type "function", data := Data.func { name := Str.ofString "rook_attacks", qualname := Str.ofString "rook_attacks", params := a11, body := .stmts b11, scope := s11, globals := 3, closure := [], defaults := Value.none, kwdefaults := Value.none, pyModule := Value.str (Str.ofString "chess.sliders") 395, code := Value.ref 126 } } : Obj) ::
 ({ cls := Value.type "tuple", data := Data.seq #[] } : Obj) ::
 ({ cls := Value.none, data := Data.fields #[] } : Obj) ::
 ({ cls := Value.type "tuple", data := Data.seq #[Value.str (Str.ofString "geo") 424, Value.str (Str.ofString "square") 425, Value.str (Str.ofString "occupied") 426, Value.str (Str.ofString "found") 427, Value.str (Str.ofString "d") 428] } : Obj) ::
 ({ cls := Value.type "tuple", data := Data.seq #[] } : Obj) ::
 ({ cls := Value.none, data := Data.func { name := Str.ofString "bishop_attacks", qualname := Str.ofString "bishop_attacks", params := a12, body := .stmts b12, scope := s12, globals := 0, closure := [], defaults := Value.none, kwdefaults := Value.none } } : Obj) ::
 ({ cls := Value.type "code", data := Data.fields #[Value.str (Str.ofString "bishop_attacks") 421, Value.str (Str.ofString "bishop_attacks") 422, Value.str (Str.ofString "/claim/cut.py") 423, Value.int 135 0, Value.int 3 0, Value.int 0 0, Value.int 0 0, Value.int 3 0, Value.ref 128, Value.bool Bool.true, Value.int 181 0, Value.ref 129, Value.none, Value.ref 130, Value.ref 131, Value.ref 132, Value.int 429 0, Value.int 135 0, Value.str (Str.ofString "/claim/cut.py") 430] } : Obj) ::
 ({ cls := Value.type "function", data := Data.func { name := Str.ofString "bishop_attacks", qualname := Str.ofString "bishop_attacks", params := a12, body := .stmts b12, scope := s12, globals := 3, closure := [], defaults := Value.none, kwdefaults := Value.none, pyModule := Value.str (Str.ofString "chess.sliders") 395, code := Value.ref 133 } } : Obj) ::
 ({ cls := Value.type "tuple", data := Data.seq #[] } : Obj) ::
 ({ cls := Value.none, data := Data.fields #[] } : Obj) ::
 ({ cls := Value.type "tuple", data := Data.seq #[Value.str (Str.ofString "geo") 435, Value.str (Str.ofString "square") 436, Value.str (Str.ofString "occupied") 437] } : Obj) ::
 ({ cls := Value.type "tuple", data := Data.seq #[] } : Obj) ::
 ({ cls := Value.none, data := Data.func { name := Str.ofString "queen_attacks", qualname := Str.ofString "queen_attacks", params := a13, body := .stmts b13, scope := s13, globals := 0, closure := [], defaults := Value.none, kwdefaults := Value.none } } : Obj) ::
 ({ cls := Value.type "code", data := Data.fields #[Value.str (Str.ofString "queen_attacks") 432, Value.str (Str.ofString "queen_attacks") 433, Value.str (Str.ofString "/claim/cut.py") 434, Value.int 140 0, Value.int 3 0, Value.int 0 0, Value.int 0 0, Value.int 3 0, Value.ref 135, Value.bool Bool.true, Value.int 181 0, Value.ref 136, Value.none, Value.ref 137, Value.ref 138, Value.ref 139, Value.int 438 0, Value.int 140 0, Value.str (Str.ofString "/claim/cut.py") 439] } : Obj) ::
 ({ cls := Value.type "function", data := Data.func { name := Str.ofString "queen_attacks", qualname := Str.ofString "queen_attacks", params := a13, body := .stmts b13, scope := s13, globals := 3, closure := [], defaults := Value.none, kwdefaults := Value.none, pyModule := Value.str (Str.ofString "chess.sliders") 395, code := Value.ref 140 } } : Obj) ::
 ({ cls := Value.type "tuple", data := Data.seq #[] } : Obj) ::
 ({ cls := Value.none, data := Data.fields #[] } : Obj) ::
 ({ cls := Value.type "tuple", data := Data.seq #[Value.str (Str.ofString "geo") 444, Value.str (Str.ofString "kind") 445, Value.str (Str.ofString "square") 446, Value.str (Str.ofString "occupied") 447] } : Obj) ::
 ({ cls := Value.type "tuple", data := Data.seq #[] } : Obj) ::
 ({ cls := Value.none, data := Data.func { name := Str.ofString "slider_attacks", qualname := Str.ofString "slider_attacks", params := a14, body := .stmts b14, scope := s14, globals := 0, closure := [], defaults := Value.none, kwdefaults := Value.none } } : Obj) ::
 ({ cls := Value.type "code", data := Data.fields #[Value.str (Str.ofString "slider_attacks") 441, Value.str (Str.ofString "slider_attacks") 442, Value.str (Str.ofString "/claim/cut.py") 443, Value.int 142 0, Value.int 4 0, Value.int 0 0, Value.int 0 0, Value.int 3 0, Value.ref 142, Value.bool Bool.true, Value.int 181 0, Value.ref 143, Value.none, Value.ref 144, Value.ref 145, Value.ref 146, Value.int 448 0, Value.int 142 0, Value.str (Str.ofString "/claim/cut.py") 449] } : Obj) ::
 ({ cls := Value.type "function", data := Data.func { name := Str.ofString "slider_attacks", qualname := Str.ofString "slider_attacks", params := a14, body := .stmts b14, scope := s14, globals := 3, closure := [], defaults := Value.none, kwdefaults := Value.none, pyModule := Value.str (Str.ofString "chess.sliders") 395, code := Value.ref 147 } } : Obj) ::
 ({ cls := Value.type "tuple", data := Data.seq #[] } : Obj) ::
 ({ cls := Value.none, data := Data.fields #[] } : Obj) ::
 ({ cls := Value.type "tuple", data := Data.seq #[Value.str (Str.ofString "geo") 454, Value.str (Str.ofString "side") 455, Value.str (Str.ofString "kind") 456, Value.str (Str.ofString "square") 457, Value.str (Str.ofString "occupied") 458] } : Obj) ::
 ({ cls := Value.type "tuple", data := Data.seq #[] } : Obj) ::
 ({ cls := Value.none, data := Data.func { name := Str.ofString "piece_attacks", qualname := Str.ofString "piece_attacks", params := a15, body := .stmts b15, scope := s15, globals := 0, closure := [], defaults := Value.none, kwdefaults := Value.none } } : Obj) ::
 ({ cls := Value.type "code", data := Data.fields #[Value.str (Str.ofString "piece_attacks") 451, Value.str (Str.ofString "piece_attacks") 452, Value.str (Str.ofString "/claim/cut.py") 453, Value.int 150 0, Value.int 5 0, Value.int 0 0, Value.int 0 0, Value.int 3 0, Value.ref 149, Value.bool Bool.true, Value.int 181 0, Value.ref 150, Value.none, Value.ref 151, Value.ref 152, Value.ref 153, Value.int 459 0, Value.int 150 0, Value.str (Str.ofString "/claim/cut.py") 460] } : Obj) ::
 ({ cls := Value.type "function", data := Data.func { name := Str.ofString "piece_attacks", qualname := Str.ofString "piece_attacks", params := a15, body := .stmts b15, scope := s15, globals := 3, closure := [], defaults := Value.none, kwdefaults := Value.none, pyModule := Value.str (Str.ofString "chess.sliders") 395, code := Value.ref 154 } } : Obj) ::
 ({ cls := Value.type "tuple", data := Data.seq #[] } : Obj) ::
 ({ cls := Value.none, data := Data.fields #[] } : Obj) ::
 ({ cls := Value.type "tuple", data := Data.seq #[Value.str (Str.ofString "trail") 467, Value.str (Str.ofString "many") 468] } : Obj) ::
 ({ cls := Value.type "tuple", data := Data.seq #[] } : Obj) ::
 ({ cls := Value.none, data := Data.func { name := Str.ofString "_law_hop", qualname := Str.ofString "_law_hop", params := a16, body := .stmts b16, scope := s16, globals := 0, closure := [], defaults := Value.none, kwdefaults := Value.none } } : Obj) ::
 ({ cls := Value.type "code", data := Data.fields #[Value.str (Str.ofString "_law_hop") 464, Value.str (Str.ofString "_law_hop") 465, Value.str (Str.ofString "/claim/cut.py") 466, Value.int 159 0, Value.int 2 0, Value.int 0 0, Value.int 0 0, Value.int 3 0, Value.ref 156, Value.bool Bool.true, Value.int 181 0, Value.ref 157, Value.none, Value.ref 158, Value.ref 159, Value.ref 160, Value.int 469 0, Value.int 159 0, Value.str (Str.ofString "/claim/cut.py") 470] } : Obj) ::
 ({ cls := Value.type "function", data := Data.func { name := Str.ofString "_law_hop", qualname := Str.ofString "_law_hop", params := a16, body := .stmts b16, scope := s16, globals := 3, closure := [], defaults := Value.none, kwdefaults := Value.none, pyModule := Value.str (Str.ofString "law_sa0130_01") 462, code := Value.ref 161 } } : Obj) ::
 ({ cls := Value.type "tuple", data := Data.seq #[] } : Obj) ::
 ({ cls := Value.none, data := Data.fields #[] } : Obj) ::
 ({ cls := Value.type "tuple", data := Data.seq #[Value.str (Str.ofString "trail") 475, Value.str (Str.ofString "size") 476, Value.str (Str.ofString "men") 477, Value.str (Str.ofString "turn") 478] } : Obj) ::
 ({ cls := Value.type "tuple", data := Data.seq #[] } : Obj) ::
 ({ cls := Value.none, data := Data.func { name := Str.ofString "_law_men", qualname := Str.ofString "_law_men", params := a17, body := .stmts b17, scope := s17, globals := 0, closure := [], defaults := Value.none, kwdefaults := Value.none } } : Obj) ::
 ({ cls := Value.type "code", data := Data.fields #[Value.str (Str.ofString "_law_men") 472, Value.str (Str.ofString "_law_men") 473, Value.str (Str.ofString "/claim/cut.py") 474, Value.int 164 0, Value.int 2 0, Value.int 0 0, Value.int 0 0, Value.int 3 0, Value.ref 163, Value.bool Bool.true, Value.int 181 0, Value.ref 164, Value.none, Value.ref 165, Value.ref 166, Value.ref 167, Value.int 479 0, Value.int 164 0, Value.str (Str.ofString "/claim/cut.py") 480] } : Obj) ::
 ({ cls := Value.type "function", data := Data.func { name := Str.ofString "_law_men", qualname := Str.ofString "_law_men", params := a17, body := .stmts b17, scope := s17, globals := 3, closure := [], defaults := Value.none, kwdefaults := Value.none, pyModule := Value.str (Str.ofString "law_sa0130_01") 462, code := Value.ref 168 } } : Obj) ::
 ({ cls := Value.type "tuple", data := Data.seq #[] } : Obj) ::
 ({ cls := Value.none, data := Data.fields #[] } : Obj) ::
 ({ cls := Value.none, data := Data.func { name := Str.ofString "_law_seen", qualname := Str.ofString "_law_seen", params := a18, body := .stmts b18, scope := s18, globals := 0, closure := [], defaults := Value.none, kwdefaults := Value.none } } : Obj) ::
 ({ cls := Value.type "code", data := Data.fields #[Value.str (Str.ofString "_law_seen") 482, Value.str (Str.ofString "_law_seen") 483, Value.str (Str.ofString "/claim/cut.py") 484, Value.int 169 0, Value.int 4 0, Value.int 0 0, Value.int 0 0, Value.int 3 0, Value.ref 170, Value.bool Bool.true, Value.int 181 0, Value.ref 171, Value.none, Value.none, Value.none, Value.ref 172, Value.int 485 0, Value.int 169 0, Value.str (Str.ofString "/claim/cut.py") 486] } : Obj) ::
 ({ cls := Value.type "function", data := Data.func { name := Str.ofString "_law_seen", qualname := Str.ofString "_law_seen", params := a18, body := .stmts b18, scope := s18, globals := 3, closure := [], defaults := Value.none, kwdefaults := Value.none, pyModule := Value.str (Str.ofString "law_sa0130_01") 462, code := Value.ref 173 } } : Obj) ::
 ({ cls := Value.type "tuple", data := Data.seq #[] } : Obj) ::
 ({ cls := Value.none, data := Data.fields #[] } : Obj) ::
 ({ cls := Value.type "tuple", data := Data.seq #[Value.str (Str.ofString "there") 491, Value.str (Str.ofString "back") 492, Value.str (Str.ofString "a") 493, Value.str (Str.ofString "b") 494] } : Obj) ::
 ({ cls := Value.type "tuple", data := Data.seq #[] } : Obj) ::
 ({ cls := Value.none, data := Data.func { name := Str.ofString "_law_is_mutual", qualname := Str.ofString "_law_is_mutual", params := a19, body := .stmts b19, scope := s19, globals := 0, closure := [], defaults := Value.none, kwdefaults := Value.none } } : Obj) ::
 ({ cls := Value.type "code", data := Data.fields #[Value.str (Str.ofString "_law_is_mutual") 488, Value.str (Str.ofString "_law_is_mutual") 489, Value.str (Str.ofString "/claim/cut.py") 490, Value.int 171 0, Value.int 2 0, Value.int 0 0, Value.int 0 0, Value.int 3 0, Value.ref 175, Value.bool Bool.true, Value.int 181 0, Value.ref 176, Value.none, Value.ref 177, Value.ref 178, Value.ref 179, Value.int 495 0, Value.int 171 0, Value.str (Str.ofString "/claim/cut.py") 496] } : Obj) ::
 ({ cls := Value.type "function", data := Data.func { name := Str.ofString "_law_is_mutual", qualname := Str.ofString "_law_is_mutual", params := a19, body := .stmts b19, scope := s19, globals := 3, closure := [], defaults := Value.none, kwdefaults := Value.none, pyModule := Value.str (Str.ofString "law_sa0130_01") 462, code := Value.ref 180 } } : Obj) ::
 ({ cls := Value.type "tuple", data := Data.seq #[] } : Obj) ::
 ({ cls := Value.none, data := Data.fields #[] } : Obj) ::
 ({ cls := Value.none, data := Data.func { name := Str.ofString "law", qualname := Str.ofString "law", params := a20, body := .stmts b20, scope := s20, globals := 0, closure := [], defaults := Value.none, kwdefaults := Value.none } } : Obj) ::
 ({ cls := Value.type "code", data := Data.fields #[Value.str (Str.ofString "law") 498, Value.str (Str.ofString "law") 499, Value.str (Str.ofString "/claim/cut.py") 500, Value.int 177 0, Value.int 1 0, Value.int 0 0, Value.int 0 0, Value.int 3 0, Value.ref 182, Value.bool Bool.true, Value.int 181 0, Value.ref 183, Value.none, Value.none, Value.none, Value.ref 184, Value.int 501 0, Value.int 177 0, Value.str (Str.ofString "/claim/cut.py") 502] } : Obj) ::
 ({ cls := Value.type "function", data := Data.func { name := Str.ofString "law", qualname := Str.ofString "law", params := a20, body := .stmts b20, scope := s20, globals := 3, closure := [], defaults := Value.none, kwdefaults := Value.none, pyModule := Value.str (Str.ofString "law_sa0130_01") 462, code := Value.ref 185 } } : Obj) ::
  []⟩, {}⟩ : Heap))
 _ _ _ _ _ _ _ _ _ _ rfl _ _ _ _ _ _ _ _ _ _ rfl _ _ _ _ _ _ _ _ _ _ rfl _ _ _ _ _ _ _ _ _ _ rfl _ _ _ _ _ _ _ _ _ _ rfl _ _ _ _ _ _ _ _ _ _ rfl _ _ _ _ _ _ _ _ _ _ rfl _ _ _ _ _ _ _ _ _ _ rfl _ _ _ _ _ _ _ _ _ _ rfl _ _ _ _ _ _ _ _ _ _ rfl _ _ _ _ _ _ _ _ _ _ rfl _ _ _ _ _ _ _ _ _ _ rfl _ _ _ _ _ _ _ _ _ _ rfl _ _ _ _ _ _ _ _ _ _ rfl _ _ _ _ _ _ _ _ _ _ rfl _ _ _ _ _ _ _ _ _ _ rfl _ _ _ _ _ _ _ _ _ _ rfl _ _ _ _ _ _ _ _ _ _ rfl _ _ _ _ _ _ _ _ _ _ rfl _ _ _ _ _ _ _ _ _ _ rfl _ _ _ _ _ _ _ _ _ _ rfl
noncomputable abbrev hd.seen (s : Shared) : Bool := xlAt hd.view_39 [] s && recOk PySem.Challenge.rw_sa0130_01.row.records s
abbrev hd.prog : Program := PySem.Challenge.rw_sa0130_01.row.toRowW.prog
noncomputable abbrev hd.last (w : World) (os : OsState) : Shared := ⟨hd.heap_230 w.params, Array.mk [], {}, 504, os⟩
theorem hd.run (w : World) (os : OsState) : topRun treeTable hd.prog w 11 (some (Value.ref 6)) 1268 ⟨boot_heap w.params, Array.mk [], boot_drawn, boot_toks, os⟩ (topStub hd.prog) = some (hd.last w os) := by
  rw [PySem.W.Fast.te14082659384304107361]
  kernel_rfl
theorem hd.look1 (w : World) (os : OsState) : (staticsOk (importedModules hd.prog.main.body) (boot_heap w.params) (hd.heap_230 w.params) && namesBound hd.prog (hd.heap_230 w.params) && gensDone (hd.last w os) && laidKept (boot_heap w.params) (hd.heap_230 w.params)) = true := by kernel_rfl
theorem hd.look2 (w : World) (os : OsState) : openSeen hd.view_39 [] (importedModules hd.prog.main.body) hd.seen true (hd.last w os) = openGood hd.view_39 [] := by kernel_rfl
theorem hd.look3 (w : World) (os : OsState) : hd.hook.obs (hd.last w os) = hd.hook.val w := by kernel_rfl
theorem hd.left : LeftO hd.prog hd.view_39 [] hd.seen hd.hook.obs hd.hook.val 2624 :=
  LeftO.of_pieces (boot_open (by kernel_rfl) (by decide) (fun _ => by kernel_rfl)) (fun _ => by kernel_rfl) hd.run (by decide) fun w => funext fun os => Prod.ext (hd.look1 w os) (Prod.ext (hd.look2 w os) (hd.look3 w os))
theorem fill0 : PySem.Challenge.rw_sa0130_01 = PySem.Challenge.rw_sa0130_01 ∧ hd.heap_39 = hd.heap_39 := by (k_fill; exact ⟨rfl, rfl⟩)
abbrev PG : PySem.Program := PySem.Challenge.rw_sa0130_01.row.prog

/-- what a def of the text does, said of its call from any def's frame -/
def Does (w : World) (f : Addr) (need : Nat) (vs : List Value) (news : List (Addr × Obj)) (Post : Nat → Value → List (Addr × Obj) → Prop) : Prop :=
  ∀ (mean : ExcName → Option Value) (mg mb : Str → Option Value) (dp un : Nat) (gd : Option (List Code)) (cn : Str) (cs : Scope) (a : Addr) (ccd : Value) (cl : List (Str × Addr)) (outer : List Env) (A₀ : Around) (base h₀ : Heap) (L : Addr)
    (m : Str → Option Value) (s : Shared) (Q E : Value → Shared → Prop),
    Below A₀ base outer h₀ → Fr h₀ L s.heap m → (hd.heap_39 w.params).In h₀ → News h₀ L s.heap news → Top hd.view_39 (looseW hd.view_39 []) mean mg mb h₀ → cs.kind = .function →
    dp + need < recursionLimit → un + 8 * need < cLine →
    (∀ v news' h' tk', Fr h₀ L h' m → News h₀ L h' news' → Post s.heap.objs.size v news' → Q v { s with heap := h', toks := tk' }) →
    wpAny (model PG w) (ktrTop dp un gd cn cs L a ccd cl outer) (call (.ref f) vs) Q E s

theorem Does.use {w : World} {f : Addr} {need : Nat} {vs : List Value} {news : List (Addr × Obj)} {Post : Nat → Value → List (Addr × Obj) → Prop} (C : Does w f need vs news Post)
    {mean : ExcName → Option Value} {mg mb : Str → Option Value} {dp un : Nat} {gd : Option (List Code)} {cn : Str} {cs : Scope} {a : Addr} {ccd : Value} {cl : List (Str × Addr)} {outer : List Env} {A₀ : Around} {base h₀ : Heap} {L : Addr}
    {m : Str → Option Value} {s : Shared} {Q E : Value → Shared → Prop}
    (B : Below A₀ base outer h₀) (F : Fr h₀ L s.heap m) (X : (hd.heap_39 w.params).In h₀) (N : News h₀ L s.heap news) (T : Top hd.view_39 (looseW hd.view_39 []) mean mg mb h₀) (hk : cs.kind = .function)
    (hd : dp + need < recursionLimit) (hu : un + 8 * need < cLine)
    (ret : ∀ v news' h' tk', Fr h₀ L h' m → News h₀ L h' news' → Post s.heap.objs.size v news' → Q v { s with heap := h', toks := tk' }) :
    wpAny (model PG w) (ktrTop dp un gd cn cs L a ccd cl outer) (call (.ref f) vs) Q E s := C _ _ _ _ _ _ _ _ _ _ _ _ _ _ _ _ _ _ _ _ B F X N T hk hd hu ret

/-- a read-only def: the ledger as it was, the value by a word -/
abbrev Gives (w : World) (f : Addr) (need : Nat) (vs : List Value) (news : List (Addr × Obj)) (P : Value → Prop) : Prop := Does w f need vs news (fun _ v news' => news' = news ∧ P v)

theorem my_item {prog : Program} {w : World} {A : Around} {E : Value → Shared → Prop} {s : Shared} {value slice : PySem.Expr} {l : Addr} {vs : List Value} {k : Int} {u : Tok} {v : Value} {Q : Value → Shared → Prop}
    (hl : s.heap.IsList l vs.toArray) (h0 : 0 ≤ k) (hhi : k < 2 ^ 63) (hx : vs[k.toNat]? = some v) (h : Q v s)
    (hs : subscripted slice false (.ref l) (.int k u) = operate [.ref l, .int k u] (getItem (.ref l) (.int k u)) := by with_unfolding_all rfl) :
    wpAny (model prog w) A (subscriptTail value slice (.ref l) (.int k u)) Q E s :=
  tail_any hl.typeIs slot_list_getitem.lookup (wpAny_getItem_list hl h0 hhi (by simpa using hx) h) hs

theorem news_isList {h₀ h : Heap} {L l : Addr} {news : List (Addr × Obj)} {vs : Array Value} {n : Nat} (N : News h₀ L h news) (hm : (l, listOf vs n) ∈ news) : h.IsList l vs :=
  ⟨_, (N _ hm).1, rfl, n, rfl⟩
theorem news_sub {h₀ h : Heap} {L : Addr} {news news' : List (Addr × Obj)} (N : News h₀ L h news) (hs : ∀ p ∈ news', p ∈ news) : News h₀ L h news' := fun p hp => N p (hs p hp)
theorem unr_cons {h₀ : Heap} {L I : Addr} {it : Obj} {rest : (Str → Option Value) → List (Addr × Obj) → Prop} {s₁ : Shared} {h' : Heap} {tk : Nat} {m' : Str → Option Value} {news' : List (Addr × Obj)} (F : Fr h₀ L h' m') (N : News h₀ L h' ((I, it) :: news'))
    (off : ∀ p ∈ news', p.1 ≠ I) (r : rest m' news') : UnrEnd h₀ L s₁ I it rest { s₁ with heap := h', toks := tk } := UnrEnd.intro F N news' (fun _ h => h) off r
theorem off_of_lt {I : Addr} {news : List (Addr × Obj)} (h : ∀ p ∈ news, p.1 < I) : ∀ p ∈ news, p.1 ≠ I := fun p hp => Nat.ne_of_lt (h p hp)
theorem mem_id {p : Addr × Obj} {l : List (Addr × Obj)} (h : p ∈ l) : p ∈ l := h
theorem my_len {prog : Program} {w : World} {A : Around} {E : Value → Shared → Prop} {s : Shared} {l : Addr} {vs : List Value} {k : Nat} {Q : Value → Shared → Prop} (hl : s.heap.IsList l vs.toArray) (e : vs.length = k) (hfit : (k : Int) < 2 ^ 63)
    (h : Q (.int (k : Int) (s.toks + 1)) { s with toks := s.toks + 1 + 1 }) : wpAny (model prog w) A (call (.builtin "len") [.ref l]) Q E s := by
  have e2 : vs.toArray.size = k := by rw [List.size_toArray, e]
  exact len_list hl (by rw [e2]; exact hfit) (by rw [e2]; exact h)
/-! the program's int operations upon naturals -/
theorem and_nn (a b : Nat) : Builtin.bitAnd (a : Int) (b : Int) = ((a &&& b : Nat) : Int) := by
  rw [bitAnd_pp (Int.natCast_nonneg _) (Int.natCast_nonneg _)]; rfl
theorem or_nn (a b : Nat) : Builtin.bitOr (a : Int) (b : Int) = ((a ||| b : Nat) : Int) := by
  have h1 : ¬ (0 : Int) ≤ Builtin.bitNot (a : Int) := by unfold Builtin.bitNot; omega
  have h2 : ¬ (0 : Int) ≤ Builtin.bitNot (b : Int) := by unfold Builtin.bitNot; omega
  unfold Builtin.bitOr
  rw [bitAnd_nn h1 h2]
  have e : ∀ x : Int, Builtin.bitNot (Builtin.bitNot x) = x := by intro x; unfold Builtin.bitNot; omega
  rw [e, e, e]; rfl
theorem bit_add (a b : Nat) : (a ||| b) % 2 = (a ^^^ b) % 2 + (a &&& b) % 2 := by
  have o := @Nat.or_mod_two_pow a b 1
  have x := @Nat.xor_mod_two_pow a b 1
  have n := @Nat.and_mod_two_pow a b 1
  rw [Nat.pow_one] at o x n
  rw [o, x, n]
  rcases Nat.mod_two_eq_zero_or_one a with p | p <;> rcases Nat.mod_two_eq_zero_or_one b with q | q <;> rw [p, q] <;> rfl
theorem half_add {u v t : Nat} (h : u / 2 = v / 2 + t / 2) (k : u % 2 = v % 2 + t % 2) : u = v + t := by
  rw [← Nat.div_add_mod u 2, h, k, Nat.mul_add, Nat.add_add_add_comm, Nat.div_add_mod, Nat.div_add_mod]
theorem or_xor_and (a : Nat) : ∀ b : Nat, a ||| b = (a ^^^ b) + (a &&& b) := by
  induction a using Nat.strongRecOn with
  | _ a ih =>
    intro b
    by_cases ha : a = 0
    · subst ha; simp
    · refine half_add ?_ (bit_add a b)
      rw [Nat.or_div_two, Nat.xor_div_two, Nat.and_div_two]
      exact ih (a / 2) (Nat.div_lt_self (Nat.pos_of_ne_zero ha) (by decide)) (b / 2)
theorem xor_nn (a b : Nat) : Builtin.bitXor (a : Int) (b : Int) = ((a ^^^ b : Nat) : Int) := by
  unfold Builtin.bitXor
  rw [or_nn, and_nn, or_xor_and]; omega
theorem andnot_nn (a b : Nat) : Builtin.bitAnd (a : Int) (Builtin.bitNot (b : Int)) = ((a ^^^ (a &&& b) : Nat) : Int) := by
  rw [bitAnd_not, and_nn]
  have h := or_xor_and a (a &&& b)
  have e1 : a ||| (a &&& b) = a := by
    apply Nat.eq_of_testBit_eq; intro i; rw [Nat.testBit_or, Nat.testBit_and]; cases a.testBit i <;> simp
  have e2 : a &&& (a &&& b) = a &&& b := by apply Nat.eq_of_testBit_eq; intro i; simp
  rw [e1, e2] at h
  omega
theorem shr_nn (a k : Nat) : (a : Int).fdiv (2 ^ k) = ((a >>> k : Nat) : Int) := by
  have e : (2 : Int) ^ k = ((2 ^ k : Nat) : Int) := (kbt_cast k).symm
  rw [e, Int.fdiv_eq_ediv_of_nonneg _ (Int.natCast_nonneg _), ← Int.natCast_ediv, Nat.shiftRight_eq_div_pow]
theorem shl_nn (a k : Nat) : (a : Int) * 2 ^ k = ((a <<< k : Nat) : Int) := by
  rw [Nat.shiftLeft_eq, Int.natCast_mul, kbt_cast]

/-! the lowest man, the men above -/
theorem low_bits (s : Nat) : s ≠ 0 → ∀ i, (s ^^^ (s - 1)).testBit i = true ↔ ∀ j, j < i → s.testBit j = false := by
  induction s using Nat.strongRecOn with
  | _ s ih =>
    intro hs i
    cases i with
    | zero =>
      constructor
      · intro _ j hj; omega
      · intro _
        rw [Nat.testBit_zero]
        have x2 := @Nat.xor_mod_two_eq_one s (s - 1)
        simp only [decide_eq_true_eq, x2]
        omega
    | succ i =>
      rw [Nat.testBit_succ]
      have x1 : (s ^^^ (s - 1)) / 2 = s / 2 ^^^ (s - 1) / 2 := Nat.xor_div_two
      rw [x1]
      by_cases ho : s % 2 = 1
      · have e : (s - 1) / 2 = s / 2 := by omega
        rw [e, Nat.xor_self]
        simp only [Nat.zero_testBit, Bool.false_eq_true, false_iff]
        intro h
        have := h 0 (by omega)
        rw [Nat.testBit_zero] at this
        simp [ho] at this
      · have e : (s - 1) / 2 = s / 2 - 1 := by omega
        rw [e, ih (s / 2) (by omega) (by omega) i]
        constructor
        · intro h j hj
          cases j with
          | zero => rw [Nat.testBit_zero]; simp [ho]
          | succ j => rw [Nat.testBit_succ]; exact h j (by omega)
        · intro h j hj
          have := h (j + 1) (by omega)
          rwa [Nat.testBit_succ] at this

def Fills (s n b : Nat) : Prop := ∀ i, b.testBit i = true ↔ ∃ k, 1 ≤ k ∧ k ≤ n ∧ s.testBit (i + k) = true
theorem fills_one (s : Nat) : Fills s 1 (s >>> 1) := by
  intro i
  rw [Nat.testBit_shiftRight]
  constructor
  · intro h; exact ⟨1, by omega, by omega, by rwa [Nat.add_comm] at h⟩
  · rintro ⟨k, h1, h2, h⟩
    have : k = 1 := by omega
    subst this
    rwa [Nat.add_comm]
theorem fills_two {s n b : Nat} (h : Fills s n b) : Fills s (n + n) (b ||| b >>> n) := by
  intro i
  rw [Nat.testBit_or, Nat.testBit_shiftRight, Bool.or_eq_true, h i, h (n + i)]
  constructor
  · rintro (⟨k, h1, h2, h3⟩ | ⟨k, h1, h2, h3⟩)
    · exact ⟨k, h1, by omega, h3⟩
    · exact ⟨n + k, by omega, by omega, by rwa [show i + (n + k) = n + i + k by omega]⟩
  · rintro ⟨k, h1, h2, h3⟩
    by_cases hk : k ≤ n
    · exact .inl ⟨k, h1, hk, h3⟩
    · exact .inr ⟨k - n, by omega, by omega, by rwa [show n + i + (k - n) = i + k by omega]⟩
def fill1 (s : Nat) : Nat := s >>> 1
def fill2 (s : Nat) : Nat := fill1 s ||| fill1 s >>> 1
def fill4 (s : Nat) : Nat := fill2 s ||| fill2 s >>> 2
def fill8 (s : Nat) : Nat := fill4 s ||| fill4 s >>> 4
def fill16 (s : Nat) : Nat := fill8 s ||| fill8 s >>> 8
def fill32 (s : Nat) : Nat := fill16 s ||| fill16 s >>> 16
def fill64 (s : Nat) : Nat := fill32 s ||| fill32 s >>> 32
theorem fill_bits {s : Nat} (hs : s < 2 ^ 64) (i : Nat) : (fill64 s).testBit i = true ↔ ∃ j, i < j ∧ s.testBit j = true := by
  have h : Fills s 64 (fill64 s) := fills_two (fills_two (fills_two (fills_two (fills_two (fills_two (fills_one s))))))
  rw [h i]
  constructor
  · rintro ⟨k, h1, _, h3⟩; exact ⟨i + k, by omega, h3⟩
  · rintro ⟨j, h1, h2⟩
    have hj : j < 64 := by
      by_cases hj : j < 64
      · exact hj
      · have : s.testBit j = false := Nat.testBit_lt_two_pow (Nat.lt_of_lt_of_le hs (Nat.pow_le_pow_right (by decide) (by omega)))
        rw [this] at h2; cases h2
    exact ⟨j - i, by omega, by omega, by rwa [show i + (j - i) = j by omega]⟩

/-- what is seen along one ray -/
def attN (g : Bool) (ray occ : Nat) : Nat :=
  if ray &&& occ = 0 then ray else if g then ray &&& ((ray &&& occ) ^^^ ((ray &&& occ) - 1)) else ray ^^^ (ray &&& fill64 (ray &&& occ))
theorem att_grow {ray occ i : Nat} : (attN true ray occ).testBit i = true ↔ ray.testBit i = true ∧ ∀ j, j < i → ray.testBit j = true → occ.testBit j = false := by
  unfold attN
  by_cases h : ray &&& occ = 0
  · rw [if_pos h]
    constructor
    · refine fun hi => ⟨hi, fun j _ hj => ?_⟩
      have : (ray &&& occ).testBit j = false := by rw [h]; simp
      rw [Nat.testBit_and, hj] at this; simpa using this
    · exact fun h => h.1
  · rw [if_neg h, if_pos rfl, Nat.testBit_and, Bool.and_eq_true, low_bits _ h]
    refine and_congr_right fun _ => forall_congr' fun j => ?_
    rw [Nat.testBit_and]
    cases ray.testBit j <;> simp
theorem att_shrink {ray occ i : Nat} (hr : ray < 2 ^ 64) : (attN false ray occ).testBit i = true ↔ ray.testBit i = true ∧ ∀ j, i < j → ray.testBit j = true → occ.testBit j = false := by
  unfold attN
  by_cases h : ray &&& occ = 0
  · rw [if_pos h]
    constructor
    · refine fun hi => ⟨hi, fun j _ hj => ?_⟩
      have : (ray &&& occ).testBit j = false := by rw [h]; simp
      rw [Nat.testBit_and, hj] at this; simpa using this
    · exact fun h => h.1
  · rw [if_neg h, if_neg (by decide), Nat.testBit_xor, Nat.testBit_and]
    have hs : ray &&& occ < 2 ^ 64 := Nat.lt_of_le_of_lt Nat.and_le_left hr
    have hf := fill_bits hs i
    have e : (∀ j, i < j → ray.testBit j = true → occ.testBit j = false) ↔ (fill64 (ray &&& occ)).testBit i = false := by
      rw [← Bool.not_eq_true, hf]
      constructor
      · rintro h ⟨j, h1, h2⟩
        rw [Nat.testBit_and, Bool.and_eq_true] at h2
        have := h j h1 h2.1
        rw [h2.2] at this; cases this
      · intro h j h1 h2
        rw [← Bool.not_eq_true]
        intro h3
        exact h ⟨j, h1, by rw [Nat.testBit_and, h2, h3]; rfl⟩
    rw [e]
    cases ray.testBit i <;> cases (fill64 (ray &&& occ)).testBit i <;> simp
/-! the boards as naturals -/
def sF (d : Nat) : Int := [0, 1, 0, -1, 1, 1, -1, -1].getD d 0
def sR (d : Nat) : Int := [1, 0, -1, 0, 1, -1, -1, 1].getD d 0
def stepN (f d : Nat) : Int := sR d * f + sF d
def growN (d : Nat) : Bool := d == 0 || d == 1 || d == 4 || d == 7
def fullN (f r : Nat) : Nat := 1 <<< (f * r) - 1
def rowN (f : Nat) : Nat := 1 <<< f - 1
def colN (f : Nat) : Nat → Nat
  | 0 => 0
  | r + 1 => colN f r ||| 1 <<< (r * f)
def edgeN (f r d : Nat) : Nat :=
  ((((if 0 < sF d then colN f r <<< (f - 1) else 0) ||| (if sF d < 0 then colN f r <<< 0 else 0)) ||| (if 0 < sR d then rowN f <<< ((r - 1) * f) else 0)) ||| (if sR d < 0 then rowN f <<< (0 * f) else 0))
def innerN (f r d : Nat) : Nat := fullN f r ^^^ (fullN f r &&& edgeN f r d)
def goalN (f d q : Nat) : Nat := ((q : Int) + stepN f d).toNat
def rayF (f r d : Nat) : Nat → Nat → Nat
  | 0, _ => 0
  | n + 1, q => if (innerN f r d).testBit q then rayF f r d n (goalN f d q) ||| 1 <<< goalN f d q else 0
def rayN (f r d q : Nat) : Nat := rayF f r d 8 q
def kingTo (f r q : Nat) : Nat → Nat
  | 0 => 0
  | d + 1 => if (innerN f r d).testBit q then kingTo f r q d ||| 1 <<< goalN f d q else kingTo f r q d
def kingN (f r q : Nat) : Nat := kingTo f r q 8
def pawnN (f r side q : Nat) : Nat := if side = 0 then kingN f r q &&& (rayN f r 4 q ||| rayN f r 7 q) else kingN f r q &&& (rayN f r 5 q ||| rayN f r 6 q)
def notN (f r : Nat) (m : Nat) : Nat := fullN f r ^^^ (fullN f r &&& m)
def knightN (f r q : Nat) : Nat :=
  let not_first := fullN f r ^^^ (fullN f r &&& colN f r <<< 0)
  let not_last := fullN f r ^^^ (fullN f r &&& colN f r <<< (f - 1))
  let not_first_two := not_first ^^^ (not_first &&& colN f r <<< 1)
  let not_last_two := not_last ^^^ (not_last &&& colN f r <<< (f - 2))
  let b := 1 <<< q
  let near := (b <<< 1 &&& not_first) ||| (b >>> 1 &&& not_last)
  let far := (b <<< 2 &&& not_first_two) ||| (b >>> 2 &&& not_last_two)
  ((((near <<< (2 * f)) ||| (near >>> (2 * f))) ||| (far <<< f)) ||| (far >>> f)) &&& fullN f r
def attD (f r d q occ : Nat) : Nat := attN (growN d) (rayN f r d q) occ
def rookN (f r q occ : Nat) : Nat := (((0 ||| attD f r 0 q occ) ||| attD f r 1 q occ) ||| attD f r 2 q occ) ||| attD f r 3 q occ
def bishopN (f r q occ : Nat) : Nat := (((0 ||| attD f r 4 q occ) ||| attD f r 5 q occ) ||| attD f r 6 q occ) ||| attD f r 7 q occ
def pieceN (f r side kind q occ : Nat) : Nat :=
  if kind = 1 then pawnN f r side q else if kind = 2 then knightN f r q else if kind = 6 then kingN f r q else
  if kind = 3 then bishopN f r q occ else if kind = 4 then rookN f r q occ else if kind = 5 then rookN f r q occ ||| bishopN f r q occ else 0

structure Shape (f r : Nat) : Prop where
  f3 : 3 ≤ f
  f5 : f ≤ 5
  r3 : 3 ≤ r
  r5 : r ≤ 5
theorem Shape.all {f r : Nat} (S : Shape f r) {P : Nat → Nat → Prop} (h : ∀ a, a < 3 → ∀ b, b < 3 → P (a + 3) (b + 3)) : P f r := by
  have h1 := S.f3; have h2 := S.f5; have h3 := S.r3; have h4 := S.r5
  have := h (f - 3) (by omega) (r - 3) (by omega)
  rwa [show f - 3 + 3 = f by omega, show r - 3 + 3 = r by omega] at this
theorem Shape.size {f r : Nat} (S : Shape f r) : f * r ≤ 25 := Nat.mul_le_mul S.f5 S.r5
theorem Shape.size9 {f r : Nat} (S : Shape f r) : 9 ≤ f * r := Nat.mul_le_mul S.f3 S.r3

/-! what is decided shape by shape -/
def allB (n : Nat) (p : Nat → Bool) : Bool := (List.range n).all p
theorem allB_get {n : Nat} {p : Nat → Bool} (h : allB n p = true) {i : Nat} (hi : i < n) : p i = true := List.all_eq_true.mp h i (List.mem_range.mpr hi)
def shapes (P : Nat → Nat → Bool) : Bool := allB 3 fun a => allB 3 fun b => P (a + 3) (b + 3)
theorem Shape.get {f r : Nat} (S : Shape f r) {P : Nat → Nat → Bool} (h : shapes P = true) : P f r = true :=
  S.all (P := fun f r => P f r = true) fun _ ha _ hb => allB_get (allB_get h ha) hb

def goalB (f r d q : Nat) : Bool := !(innerN f r d).testBit q || (decide (0 ≤ (q : Int) + stepN f d) && decide (goalN f d q < f * r) && (if growN d then decide (q < goalN f d q) else decide (goalN f d q < q)))
theorem goal_all : shapes (fun f r => allB 8 fun d => allB (f * r) fun q => goalB f r d q) = true := by decide +kernel
theorem goal_ok {f r : Nat} (S : Shape f r) {d q : Nat} (hd : d < 8) (hq : q < f * r) (h : (innerN f r d).testBit q = true) : 0 ≤ (q : Int) + stepN f d ∧ goalN f d q < f * r ∧ (if growN d then q < goalN f d q else goalN f d q < q) := by
  have := allB_get (allB_get (S.get goal_all) hd) hq
  unfold goalB at this
  rw [h] at this
  simp only [Bool.not_true, Bool.false_or, Bool.and_eq_true, decide_eq_true_eq] at this
  refine ⟨this.1.1, this.1.2, ?_⟩
  have t := this.2
  split
  · rename_i g; rw [if_pos g] at t; simpa using t
  · rename_i g; rw [if_neg g] at t; simpa using t
def rayB (f r d q : Nat) : Bool := rayN f r d q == (if (innerN f r d).testBit q then rayN f r d (goalN f d q) ||| 1 <<< goalN f d q else 0) && decide (rayN f r d q < 2 ^ (f * r))
theorem ray_all : shapes (fun f r => allB 8 fun d => allB (f * r) fun q => rayB f r d q) = true := by decide +kernel
theorem ray_step {f r : Nat} (S : Shape f r) {d q : Nat} (hd : d < 8) (hq : q < f * r) : rayN f r d q = if (innerN f r d).testBit q then rayN f r d (goalN f d q) ||| 1 <<< goalN f d q else 0 := by
  have := allB_get (allB_get (S.get ray_all) hd) hq
  exact beq_iff_eq.mp (Bool.and_eq_true_iff.mp this).1
theorem ray_small {f r : Nat} (S : Shape f r) {d q : Nat} (hd : d < 8) (hq : q < f * r) : rayN f r d q < 2 ^ 25 := by
  have := allB_get (allB_get (S.get ray_all) hd) hq
  exact Nat.lt_of_lt_of_le (of_decide_eq_true (Bool.and_eq_true_iff.mp this).2) (Nat.pow_le_pow_right (by decide) S.size)
def oppN (d : Nat) : Nat := [2, 3, 0, 1, 6, 7, 4, 5].getD d 0
/-- the way there and the way back hold the same squares between -/
def backB (f r d p q : Nat) : Bool :=
  !growN d || ((rayN f r d p).testBit q == (rayN f r (oppN d) q).testBit p && (!(rayN f r d p).testBit q || (rayN f r d p &&& (2 ^ q - 1) == (rayN f r (oppN d) q) >>> (p + 1) <<< (p + 1))))
theorem back_all : shapes (fun f r => allB 8 fun d => allB (f * r) fun p => allB (f * r) fun q => backB f r d p q) = true := by decide +kernel
theorem back_ok {f r : Nat} (S : Shape f r) {d p q : Nat} (hd : d < 8) (hg : growN d = true) (hp : p < f * r) (hq : q < f * r) : (rayN f r d p).testBit q = (rayN f r (oppN d) q).testBit p ∧
    ((rayN f r d p).testBit q = true → rayN f r d p &&& (2 ^ q - 1) = (rayN f r (oppN d) q) >>> (p + 1) <<< (p + 1)) := by
  have := allB_get (allB_get (allB_get (S.get back_all) hd) hp) hq
  unfold backB at this
  rw [hg] at this
  simp only [Bool.not_true, Bool.false_or, Bool.and_eq_true, beq_iff_eq] at this
  refine ⟨this.1, fun h => ?_⟩
  have t := this.2
  rw [h] at t
  simpa using t
def apartB (f r q d e : Nat) : Bool := d == e || (rayN f r d q &&& rayN f r e q == 0)
theorem apart_all : shapes (fun f r => allB (f * r) fun q => allB 8 fun d => allB 8 fun e => apartB f r q d e) = true := by decide +kernel
theorem apart_ok {f r : Nat} (S : Shape f r) {q d e : Nat} (hq : q < f * r) (hd : d < 8) (he : e < 8) (hne : d ≠ e) : rayN f r d q &&& rayN f r e q = 0 := by
  have := allB_get (allB_get (allB_get (S.get apart_all) hq) hd) he
  unfold apartB at this
  rcases Bool.or_eq_true_iff.mp this with h | h
  · exact absurd (beq_iff_eq.mp h) hne
  · exact beq_iff_eq.mp h
def nearB (f r p q : Nat) : Bool := (pawnN f r 0 p).testBit q == (pawnN f r 1 q).testBit p && (knightN f r p).testBit q == (knightN f r q).testBit p && (kingN f r p).testBit q == (kingN f r q).testBit p
theorem near_all : shapes (fun f r => allB (f * r) fun p => allB (f * r) fun q => nearB f r p q) = true := by decide +kernel
theorem near_ok {f r : Nat} (S : Shape f r) {p q : Nat} (hp : p < f * r) (hq : q < f * r) : (pawnN f r 0 p).testBit q = (pawnN f r 1 q).testBit p ∧ (knightN f r p).testBit q = (knightN f r q).testBit p ∧ (kingN f r p).testBit q = (kingN f r q).testBit p := by
  have := allB_get (allB_get (S.get near_all) hp) hq
  unfold nearB at this
  simpa [Bool.and_eq_true, and_assoc] using this
/-! one ray -/
theorem att_ray {f r d q occ i : Nat} (S : Shape f r) (hd : d < 8) (hq : q < f * r) (h : (attD f r d q occ).testBit i = true) : (rayN f r d q).testBit i = true := by
  unfold attD at h
  cases hg : growN d with
  | true => rw [hg] at h; exact (att_grow.mp h).1
  | false => rw [hg] at h; exact ((att_shrink (Nat.lt_trans (ray_small S hd hq) (by decide))).mp h).1
/-- the squares ahead of i -/
def Ahead (f r d q i j : Nat) : Prop := (if growN d then j < i else i < j) ∧ (rayN f r d q).testBit j = true
theorem Ahead.trans {f r d q i j k : Nat} (h : Ahead f r d q i j) (h' : Ahead f r d q j k) : Ahead f r d q i k := by
  refine ⟨?_, h'.2⟩
  have a := h.1
  have b := h'.1
  cases hg : growN d <;> rw [hg] at a b <;> simp at a b ⊢ <;> omega
theorem Ahead.ne {f r d q i j : Nat} (h : Ahead f r d q i j) : j ≠ i := by
  have a := h.1
  cases hg : growN d <;> rw [hg] at a <;> simp at a <;> omega
theorem att_iff {f r d q occ i : Nat} (S : Shape f r) (hd : d < 8) (hq : q < f * r) : (attD f r d q occ).testBit i = true ↔ (rayN f r d q).testBit i = true ∧ ∀ j, Ahead f r d q i j → occ.testBit j = false := by
  unfold attD Ahead
  cases hg : growN d with
  | true =>
    rw [att_grow]
    refine and_congr_right fun _ => forall_congr' fun j => ?_
    simp only [if_true]
    exact ⟨fun h x => h x.1 x.2, fun h a b => h ⟨a, b⟩⟩
  | false =>
    rw [att_shrink (Nat.lt_trans (ray_small S hd hq) (by decide))]
    refine and_congr_right fun _ => forall_congr' fun j => ?_
    simp only [Bool.false_eq_true, if_false]
    exact ⟨fun h x => h x.1 x.2, fun h a b => h ⟨a, b⟩⟩
theorem att_one {f r d p q occ : Nat} (S : Shape f r) (hd : d < 8) (ho : oppN d < 8) (hg : growN d = true) (hg' : growN (oppN d) = false) (hp : p < f * r) (hq : q < f * r) :
    (attD f r d p occ).testBit q = (attD f r (oppN d) q occ).testBit p := by
  obtain ⟨b1, b2⟩ := back_ok S hd hg hp hq
  have key : (attD f r d p occ).testBit q = true ↔ (attD f r (oppN d) q occ).testBit p = true := by
    rw [att_iff S hd hp, att_iff S ho hq, ← b1]
    refine and_congr_right fun hr => forall_congr' fun j => ?_
    have e := b2 hr
    unfold Ahead
    rw [hg, hg']
    simp only [if_true, Bool.false_eq_true, if_false]
    have ej : (rayN f r d p &&& (2 ^ q - 1)).testBit j = (rayN f r (oppN d) q >>> (p + 1) <<< (p + 1)).testBit j := by rw [e]
    rw [Nat.testBit_and, Nat.testBit_two_pow_sub_one, Nat.testBit_shiftLeft, Nat.testBit_shiftRight] at ej
    have ej' : (j < q ∧ (rayN f r d p).testBit j = true) ↔ (p < j ∧ (rayN f r (oppN d) q).testBit j = true) := by
      by_cases h1 : p + 1 ≤ j
      · rw [show p + 1 + (j - (p + 1)) = j by omega] at ej
        have h2 : p < j := by omega
        simp only [ge_iff_le, h1, decide_true, Bool.true_and] at ej
        rw [← ej]
        simp [h2, and_comm]
      · have h2 : ¬ p < j := by omega
        simp only [ge_iff_le, h1, decide_false, Bool.false_and] at ej
        constructor
        · rintro ⟨a, b⟩
          rw [b] at ej
          simp [a] at ej
        · rintro ⟨a, _⟩; exact absurd a h2
    exact ⟨fun h x => h (ej'.mpr x), fun h x => h (ej'.mp x)⟩
  cases h1 : (attD f r d p occ).testBit q <;> cases h2 : (attD f r (oppN d) q occ).testBit p <;> simp_all
theorem opp_opp : ∀ d, d < 8 → oppN (oppN d) = d ∧ oppN d < 8 ∧ growN (oppN d) = !growN d := by decide
theorem att_back {f r d p q occ : Nat} (S : Shape f r) (hd : d < 8) (hp : p < f * r) (hq : q < f * r) : (attD f r d p occ).testBit q = (attD f r (oppN d) q occ).testBit p := by
  obtain ⟨e1, e2, e3⟩ := opp_opp d hd
  cases hg : growN d with
  | true => exact att_one S hd e2 hg (by rw [e3, hg]; rfl) hp hq
  | false =>
    have := att_one (occ := occ) S e2 (by rw [e1]; exact hd) (by rw [e3, hg]; rfl) (by rw [e1, hg]) hq hp
    rw [e1] at this
    exact this.symm

/-! several rays -/
def attS (f r : Nat) (ds : List Nat) (q occ : Nat) : Nat := ds.foldl (fun a d => a ||| attD f r d q occ) 0
theorem foldl_or_bit (g : Nat → Nat) (i : Nat) : ∀ (ds : List Nat) (z : Nat), (ds.foldl (fun a d => a ||| g d) z).testBit i = (z.testBit i || ds.any fun d => (g d).testBit i)
  | [], z => by simp
  | d :: r, z => by rw [List.foldl_cons, foldl_or_bit g i r, Nat.testBit_or, List.any_cons, Bool.or_assoc]
theorem attS_bit {f r : Nat} {ds : List Nat} {q occ i : Nat} : (attS f r ds q occ).testBit i = true ↔ ∃ d ∈ ds, (attD f r d q occ).testBit i = true := by
  unfold attS
  rw [foldl_or_bit]
  simp
theorem attS_back {f r : Nat} {ds : List Nat} {p q occ : Nat} (S : Shape f r) (hds : ∀ d ∈ ds, d < 8 ∧ oppN d ∈ ds) (hp : p < f * r) (hq : q < f * r) : (attS f r ds p occ).testBit q = (attS f r ds q occ).testBit p := by
  have one : ∀ {p q}, p < f * r → q < f * r → (attS f r ds p occ).testBit q = true → (attS f r ds q occ).testBit p = true := by
    intro p q hp hq h
    obtain ⟨d, hd, h⟩ := attS_bit.mp h
    exact attS_bit.mpr ⟨oppN d, (hds d hd).2, by rw [← att_back S (hds d hd).1 hp hq]; exact h⟩
  have a := one hp hq
  have b := one hq hp
  cases h1 : (attS f r ds p occ).testBit q <;> cases h2 : (attS f r ds q occ).testBit p <;> simp_all
theorem ray_uniq {f r q d e i : Nat} (S : Shape f r) (hq : q < f * r) (hd : d < 8) (he : e < 8) (h1 : (rayN f r d q).testBit i = true) (h2 : (rayN f r e q).testBit i = true) : d = e := by
  by_cases h : d = e
  · exact h
  · have := apart_ok S hq hd he h
    have t : (rayN f r d q &&& rayN f r e q).testBit i = true := by rw [Nat.testBit_and, h1, h2]; rfl
    rw [this] at t
    simp at t
theorem attS_join {f r : Nat} {ds : List Nat} {q A B : Nat} (S : Shape f r) (hds : ∀ d ∈ ds, d < 8) (hq : q < f * r) : attS f r ds q (A ||| B) = attS f r ds q A &&& attS f r ds q B := by
  apply Nat.eq_of_testBit_eq
  intro i
  rw [Bool.eq_iff_iff, Nat.testBit_and, Bool.and_eq_true, attS_bit, attS_bit, attS_bit]
  constructor
  · rintro ⟨d, hd, h⟩
    obtain ⟨h1, h2⟩ := (att_iff S (hds d hd) hq).mp h
    have h3 : ∀ j, Ahead f r d q i j → A.testBit j = false ∧ B.testBit j = false := by
      intro j hj
      have := h2 j hj
      rw [Nat.testBit_or] at this
      simpa using this
    exact ⟨⟨d, hd, (att_iff S (hds d hd) hq).mpr ⟨h1, fun j hj => (h3 j hj).1⟩⟩, ⟨d, hd, (att_iff S (hds d hd) hq).mpr ⟨h1, fun j hj => (h3 j hj).2⟩⟩⟩
  · rintro ⟨⟨d, hd, h⟩, ⟨e, he, h'⟩⟩
    obtain ⟨h1, h2⟩ := (att_iff S (hds d hd) hq).mp h
    obtain ⟨h3, h4⟩ := (att_iff S (hds e he) hq).mp h'
    have := ray_uniq S hq (hds d hd) (hds e he) h1 h3
    subst this
    refine ⟨d, hd, (att_iff S (hds d hd) hq).mpr ⟨h1, fun j hj => ?_⟩⟩
    rw [Nat.testBit_or, h2 j hj, h4 j hj]; rfl
theorem bit_one {n m i : Nat} : (n ||| 1 <<< m).testBit i = (n.testBit i || decide (m = i)) := by
  rw [Nat.testBit_or, Nat.one_shiftLeft, Nat.testBit_two_pow]
theorem attS_sub {f r : Nat} {ds : List Nat} {q A m : Nat} (S : Shape f r) (hds : ∀ d ∈ ds, d < 8) (hq : q < f * r) : attS f r ds q (A ||| 1 <<< m) &&& attS f r ds q A = attS f r ds q (A ||| 1 <<< m) := by
  rw [attS_join S hds hq]
  apply Nat.eq_of_testBit_eq
  intro i
  simp only [Nat.testBit_and]
  cases (attS f r ds q A).testBit i <;> simp
theorem attS_man {f r : Nat} {ds : List Nat} {q A m : Nat} (S : Shape f r) (hds : ∀ d ∈ ds, d < 8) (hq : q < f * r) : (attS f r ds q (A ||| 1 <<< m)).testBit m = (attS f r ds q A).testBit m := by
  rw [Bool.eq_iff_iff, attS_bit, attS_bit]
  refine exists_congr fun d => and_congr_right fun hd => ?_
  rw [att_iff S (hds d hd) hq, att_iff S (hds d hd) hq]
  refine and_congr_right fun _ => forall_congr' fun j => ?_
  constructor
  · intro h hj; have := h hj; rw [bit_one] at this; simp at this; exact this.1
  · intro h hj; rw [bit_one, h hj]; have := hj.ne; simp; omega
theorem attS_off {f r : Nat} {ds : List Nat} {q A m : Nat} (S : Shape f r) (hds : ∀ d ∈ ds, d < 8) (hq : q < f * r) (h0 : (attS f r ds q A).testBit m = false) : attS f r ds q (A ||| 1 <<< m) = attS f r ds q A := by
  apply Nat.eq_of_testBit_eq
  intro i
  rw [Bool.eq_iff_iff, attS_bit, attS_bit]
  refine exists_congr fun d => and_congr_right fun hd => ?_
  rw [att_iff S (hds d hd) hq, att_iff S (hds d hd) hq]
  refine and_congr_right fun _ => ?_
  constructor
  · intro h j hj; have := h j hj; rw [bit_one] at this; simp at this; exact this.1
  · intro h j hj
    rw [bit_one, h j hj]
    have : m ≠ j := by
      intro e
      subst e
      have : (attS f r ds q A).testBit m = true := attS_bit.mpr ⟨d, hd, (att_iff S (hds d hd) hq).mpr ⟨hj.2, fun k hk => h k (hj.trans hk)⟩⟩
      rw [h0] at this
      cases this
    simp [this]

/-! the pieces -/
theorem rook_is (f r q occ : Nat) : rookN f r q occ = attS f r [0, 1, 2, 3] q occ := rfl
theorem bishop_is (f r q occ : Nat) : bishopN f r q occ = attS f r [4, 5, 6, 7] q occ := rfl
theorem queen_is (f r q occ : Nat) : rookN f r q occ ||| bishopN f r q occ = attS f r [0, 1, 2, 3, 4, 5, 6, 7] q occ := by
  rw [rook_is, bishop_is]
  apply Nat.eq_of_testBit_eq
  intro i
  unfold attS
  rw [Nat.testBit_or, foldl_or_bit, foldl_or_bit, foldl_or_bit]
  simp [Bool.or_assoc]
theorem far_is {f r side k : Nat} (hk : k = 3 ∨ k = 4 ∨ k = 5) : ∃ ds, (∀ d ∈ ds, d < 8 ∧ oppN d ∈ ds) ∧ ∀ q occ, pieceN f r side k q occ = attS f r ds q occ := by
  rcases hk with rfl | rfl | rfl
  · exact ⟨[4, 5, 6, 7], by decide, fun q occ => by unfold pieceN; simp [bishop_is]⟩
  · exact ⟨[0, 1, 2, 3], by decide, fun q occ => by unfold pieceN; simp [rook_is]⟩
  · exact ⟨[0, 1, 2, 3, 4, 5, 6, 7], by decide, fun q occ => by unfold pieceN; simp [queen_is]⟩
theorem near_is {f r side k : Nat} (hk : k = 1 ∨ k = 2 ∨ k = 6) (q A B : Nat) : pieceN f r side k q A = pieceN f r side k q B := by
  rcases hk with rfl | rfl | rfl <;> unfold pieceN <;> simp
theorem far_mutual {f r k p q occ : Nat} (S : Shape f r) (hk : k = 3 ∨ k = 4 ∨ k = 5) (hp : p < f * r) (hq : q < f * r) : (pieceN f r 0 k p occ).testBit q = (pieceN f r 0 k q occ).testBit p := by
  obtain ⟨ds, hds, e⟩ := far_is (f := f) (r := r) (side := 0) hk
  rw [e, e]
  exact attS_back S hds hp hq
theorem near_mutual {f r k p q occ : Nat} (S : Shape f r) (hk : k = 1 ∨ k = 2 ∨ k = 6) (hp : p < f * r) (hq : q < f * r) : (pieceN f r 0 k p occ).testBit q = (pieceN f r 1 k q occ).testBit p := by
  obtain ⟨a, b, c⟩ := near_ok S hp hq
  rcases hk with rfl | rfl | rfl <;> unfold pieceN <;> simp <;> assumption
def Kind (k : Nat) : Prop := (k = 3 ∨ k = 4 ∨ k = 5) ∨ (k = 1 ∨ k = 2 ∨ k = 6)
theorem piece_join {f r k q A B : Nat} (S : Shape f r) (hk : Kind k) (hq : q < f * r) : pieceN f r 0 k q (A ||| B) = pieceN f r 0 k q A &&& pieceN f r 0 k q B := by
  rcases hk with hk | hk
  · obtain ⟨ds, hds, e⟩ := far_is (f := f) (r := r) (side := 0) hk
    rw [e, e, e]
    exact attS_join S (fun d hd => (hds d hd).1) hq
  · rw [near_is hk q (A ||| B) A, near_is hk q B A, Nat.and_self]
theorem piece_sub {f r k q A m : Nat} (S : Shape f r) (hk : Kind k) (hq : q < f * r) : pieceN f r 0 k q (A ||| 1 <<< m) &&& pieceN f r 0 k q A = pieceN f r 0 k q (A ||| 1 <<< m) := by
  rcases hk with hk | hk
  · obtain ⟨ds, hds, e⟩ := far_is (f := f) (r := r) (side := 0) hk
    rw [e, e]
    exact attS_sub S (fun d hd => (hds d hd).1) hq
  · rw [near_is hk q (A ||| 1 <<< m) A, Nat.and_self]
theorem piece_man {f r k q A m : Nat} (S : Shape f r) (hk : Kind k) (hq : q < f * r) : (pieceN f r 0 k q (A ||| 1 <<< m)).testBit m = (pieceN f r 0 k q A).testBit m := by
  rcases hk with hk | hk
  · obtain ⟨ds, hds, e⟩ := far_is (f := f) (r := r) (side := 0) hk
    rw [e, e]
    exact attS_man S (fun d hd => (hds d hd).1) hq
  · rw [near_is hk q (A ||| 1 <<< m) A]
theorem piece_off {f r k q A m : Nat} (S : Shape f r) (hk : Kind k) (hq : q < f * r) (h0 : (pieceN f r 0 k q A).testBit m = false) : pieceN f r 0 k q (A ||| 1 <<< m) = pieceN f r 0 k q A := by
  rcases hk with hk | hk
  · obtain ⟨ds, hds, e⟩ := far_is (f := f) (r := r) (side := 0) hk
    rw [e] at h0
    rw [e, e]
    exact attS_off S (fun d hd => (hds d hd).1) hq h0
  · rw [near_is hk q (A ||| 1 <<< m) A]
/-- a bit as the program asks for it -/
theorem ask_bit (n b : Nat) : Builtin.bitAnd (((n >>> b : Nat)) : Int) 1 = if n.testBit b then 1 else 0 := by
  have h := and_nn (n >>> b) 1
  rw [show ((1 : Nat) : Int) = 1 from rfl] at h
  rw [h, Nat.and_one_is_mod]
  have t : n.testBit b = decide ((n >>> b) % 2 = 1) := by rw [← Nat.testBit_zero, Nat.testBit_shiftRight]; rfl
  rw [t]
  by_cases hh : (n >>> b) % 2 = 1
  · rw [hh]; rfl
  · rw [show (n >>> b) % 2 = 0 by omega]; rfl
/-- a list that holds a board for each square -/
def Board (vs : List Value) (n : Nat) (F : Nat → Nat) : Prop := vs.length = n ∧ ∀ q, q < n → ∃ t, vs[q]? = some (.int ((F q : Nat) : Int) t)
/-- the ledger holds a geometry of f files and r ranks at g -/
structure GeoAt (news : List (Addr × Obj)) (g : Addr) (f r : Nat) (gd : Addr) (es : List DictEntry) (ng : Nat) (rs : Addr) (nr : Nat) (rvs : List Value) (kg : Addr) (nk : Nat) (kvs : List Value) (kn : Addr) (nn : Nat) (nvs : List Value)
    (pw : Addr) (np : Nat) (p0 : Addr) (n0 : Nat) (v0 : List Value) (p1 : Addr) (n1 : Nat) (v1 : List Value) (ts : Tok) : Prop where
  ig : (g, instObj 53 gd) ∈ news
  id : (gd, dictOf es ng) ∈ news
  gs : getL (Str.ofString "size") es = some (some (.int ((f * r : Nat) : Int) ts))
  gr : getL (Str.ofString "rays") es = some (some (.ref rs))
  gk : getL (Str.ofString "king") es = some (some (.ref kg))
  gn : getL (Str.ofString "knight") es = some (some (.ref kn))
  gp : getL (Str.ofString "pawn") es = some (some (.ref pw))
  ir : (rs, listOf rvs.toArray nr) ∈ news
  lr : ∀ d, d < 8 → ∃ rd nd ivs, rvs[d]? = some (.ref rd) ∧ (rd, listOf ivs.toArray nd) ∈ news ∧ Board ivs (f * r) (rayN f r d)
  ik : (kg, listOf kvs.toArray nk) ∈ news
  bk : Board kvs (f * r) (kingN f r)
  inn : (kn, listOf nvs.toArray nn) ∈ news
  bn : Board nvs (f * r) (knightN f r)
  ip : (pw, listOf #[.ref p0, .ref p1] np) ∈ news
  i0 : (p0, listOf v0.toArray n0) ∈ news
  b0 : Board v0 (f * r) (pawnN f r 0)
  i1 : (p1, listOf v1.toArray n1) ∈ news
  b1 : Board v1 (f * r) (pawnN f r 1)
def GeoIs (news : List (Addr × Obj)) (g : Addr) (f r : Nat) : Prop := ∃ gd es ng rs nr rvs kg nk kvs kn nn nvs pw np p0 n0 v0 p1 n1 v1 ts, GeoAt news g f r gd es ng rs nr rvs kg nk kvs kn nn nvs pw np p0 n0 v0 p1 n1 v1 ts
theorem GeoIs.mono {news news' : List (Addr × Obj)} {g : Addr} {f r : Nat} (G : GeoIs news g f r) (hs : ∀ p ∈ news, p ∈ news') : GeoIs news' g f r := by
  obtain ⟨gd, es, ng, rs, nr, rvs, kg, nk, kvs, kn, nn, nvs, pw, np, p0, n0, v0, p1, n1, v1, ts, G⟩ := G
  refine ⟨gd, es, ng, rs, nr, rvs, kg, nk, kvs, kn, nn, nvs, pw, np, p0, n0, v0, p1, n1, v1, ts, ⟨hs _ G.ig, hs _ G.id, G.gs, G.gr, G.gk, G.gn, G.gp, hs _ G.ir, ?_, hs _ G.ik, G.bk, hs _ G.inn, G.bn, hs _ G.ip, hs _ G.i0, G.b0, hs _ G.i1, G.b1⟩⟩
  intro d hd
  obtain ⟨rd, nd, ivs, a, b, c⟩ := G.lr d hd
  exact ⟨rd, nd, ivs, a, hs _ b, c⟩
theorem Board.get {vs : List Value} {n : Nat} {F : Nat → Nat} (B : Board vs n F) {q : Nat} (h : q < n) : ∃ t, vs[q]? = some (.int ((F q : Nat) : Int) t) := B.2 q h
theorem sub_one_nn {a : Nat} (h : a ≠ 0) : ((a : Nat) : Int) - 1 = ((a - 1 : Nat) : Int) := by omega
theorem toNat_nn (a : Nat) : ((a : Nat) : Int).toNat = a := rfl
theorem Board.nil {F : Nat → Nat} : Board [] 0 F := ⟨rfl, fun q hq => absurd hq (Nat.not_lt_zero q)⟩
theorem Board.push {vs : List Value} {n : Nat} {F : Nat → Nat} (B : Board vs n F) {v : Int} (t : Tok) (e : v = ((F n : Nat) : Int)) : Board (vs ++ [.int v t]) (n + 1) F := by
  subst e
  refine ⟨by rw [List.length_append, B.1]; rfl, fun q hq => ?_⟩
  by_cases h : q < n
  · obtain ⟨t', e⟩ := B.2 q h
    exact ⟨t', by rw [List.getElem?_append_left (by rw [B.1]; exact h), e]⟩
  · have : q = n := by omega
    subst this
    exact ⟨t, by rw [List.getElem?_append_right (by rw [B.1]; exact Nat.le_refl _), B.1, Nat.sub_self]; rfl⟩
theorem or_shl (M n : Nat) : Builtin.bitOr (M : Int) (1 * 2 ^ n) = ((M ||| 1 <<< n : Nat) : Int) := by
  have h := shl_nn 1 n
  rw [show ((1 : Nat) : Int) = 1 from rfl] at h
  rw [h, or_nn]
theorem ask_eq (A b : Nat) : Builtin.bitAnd ((A : Int).fdiv (2 ^ b)) 1 = if A.testBit b then 1 else 0 := by rw [shr_nn, ask_bit]
theorem grows_is (d : Int) (h0 : 0 ≤ d) (h8 : d < 8) : (decide (d = 0) || decide (d = 1) || decide (d = 4) || decide (d = 7)) = growN d.toNat := by
  have hc : d = 0 ∨ d = 1 ∨ d = 2 ∨ d = 3 ∨ d = 4 ∨ d = 5 ∨ d = 6 ∨ d = 7 := by omega
  rcases hc with rfl | rfl | rfl | rfl | rfl | rfl | rfl | rfl <;> rfl
theorem idx {vs : List Value} {a b : Nat} {v : Option Value} (h : a = b) (e : vs[b]? = v) : vs[a]? = v := by rw [h]; exact e
section
open PySem PySem.W PyProof.Rows PySem.Calls PyProof.V PySem.Spec
/-- a goal laid aside, so that the walk leaves it -/
structure Hold (p : Prop) : Prop where
  get : p

def KS {σ : Type} (Led : σ → List (Addr × Obj)) (ps : σ → List (Str × Value)) (x : Str) (stored : List Str) (m₀ : Str → Option Value) (J : σ → Prop) (m : Str → Option Value) (nx : List (Addr × Obj)) : Prop :=
  ∃ c : σ, nx = Led c ∧ J c ∧ (∀ p ∈ ps c, m p.1 = some p.2) ∧ (∀ z, z ≠ x → (∀ p ∈ ps c, z ≠ p.1) → stored.contains z = false → m z = m₀ z)

section
variable {prog : Program} {w : World} {A : Around} {E : Value → Shared → Prop} {s : Shared} {env : Env} {h₀ : Heap} {x : Str} {body : List Stmt} {Q : Flow → Shared → Prop}
theorem my_range {σ : Type} {r : Addr} {a₀ b₀ st : Int} {t₀ u₀ v₀ : Tok} {n : Nat} {m₀ : Str → Option Value} (Led : σ → List (Addr × Obj)) (ps : σ → List (Str × Value)) (stored : List Str) (J : Nat → σ → Prop) (c₀ : σ)
    (hh : A.handled = none) (hr : IsRange s.heap r a₀ b₀ st t₀ u₀ v₀) (hsmall : Builtin.Range.small a₀ b₀ st = true) (hn : Builtin.Range.rangeSize a₀ b₀ st = (n : Int)) (F : Fr h₀ env.locals s.heap m₀) (N : News h₀ env.locals s.heap (Led c₀)) (hk : ∀ p ∈ ps c₀, m₀ p.1 = some p.2) (hj : J 0 c₀)
    (turn : ∀ (c : σ) (i : Nat) t (u : Str → Option Value) h tk own, i < n → TbOff own (Led c) → J i c →
      Fr h₀ env.locals h (fun y => if y = x then some (.int (a₀ + (i : Int) * st) t) else kstB (fun z => if stored.contains z then u z else m₀ z) (ps c) y) → News h₀ env.locals h (Led c ++ own) →
      wpAny (model prog w) A (execs body env) (TbPost h₀ env.locals (KS Led ps x stored m₀ (J (i + 1))) own { s with heap := h, toks := tk } Q) E { s with heap := h, toks := tk })
    (done : ∀ (c : σ) (u : Str → Option Value) h tk, J n c → Fr h₀ env.locals h (fun y => if y = x then u y else kstB (fun z => if stored.contains z then u z else m₀ z) (ps c) y) → News h₀ env.locals h (Led c) → Q .next { s with heap := h, toks := tk }) :
    wpAny (model prog w) A (pyIter (.ref r)) (fun it s₂ => LoopAtV prog w A h₀ env x body Q E it s₂) E s := by
  refine wpAny_pyIter_range hr hsmall ?_
  have W : Walks prog w A s.heap.objs.size [s.heap.objs.size] [s.heap.objs.size] n (fun i v => i < n ∧ ∃ t, v = .int (a₀ + i * st) t)
      (fun i h => IsRangeIter h s.heap.objs.size (a₀ + (i : Nat) * st) ((n : Int) - (i : Nat)) st) := (Walks.range hh _ a₀ st n).bound
  refine tbr_loop (fun i m nx => KS Led ps x stored m₀ (J i) m nx) W (fun _ h => h) (fun _ h => h) ?_ ?_ ?_ ?_ (by show IsRangeIter _ _ _ _ _; rw [hn]; simpa using Heap.get?_push_size _ rfl) (F.push _) (fun p hp => ⟨Heap.get?_push_of_some _ (N p hp).1, (N p hp).2⟩) ⟨c₀, rfl, hj, hk, fun _ _ _ _ => rfl⟩ ?_ ?_
  · intro i h hi b hb
    rw [List.mem_singleton.mp hb]
    exact ⟨_, hi⟩
  · intro hm
    exact absurd F.ns.lt ((List.mem_singleton.mp hm) ▸ Nat.lt_irrefl _)
  · intro b hb
    rw [List.mem_singleton.mp hb]
    exact next_is_new F
  · intro p hp hI
    exact absurd (Heap.lt_size (N p hp).1) ((List.mem_singleton.mp hI) ▸ Nat.lt_irrefl _)
  · rintro i v m₁ nx h tk own hi ⟨_, t, rfl⟩ hoff ⟨c, rfl, hj', h1, h2⟩ F₁ N₁
    exact turn c i t m₁ h tk own hi hoff hj' (kst_fr h1 h2 F₁) N₁
  · rintro m₁ nx h tk ⟨c, rfl, hj', h1, h2⟩ F₁ N₁
    exact done c m₁ h tk hj' (kst_frOut h1 h2 F₁) N₁

theorem my_end {σ : Type} {Led : σ → List (Addr × Obj)} {ps : σ → List (Str × Value)} {stored : List Str} {m₀ : Str → Option Value} {J : σ → Prop} (c : σ) {L : Addr} {m' : Str → Option Value} {own news' : List (Addr × Obj)} {s₁ : Shared} {h' : Heap} {tk : Nat}
    (F : Fr h₀ L h' m') (N : News h₀ L h' news') (hn : ∀ p ∈ Led c, p ∈ news') (ho : ∀ p ∈ own, p ∈ news') (ha : TbOff own (Led c)) (hj : J c) (hk : ∀ p ∈ ps c, m' p.1 = some p.2) (hr : ∀ z, z ≠ x → (∀ p ∈ ps c, z ≠ p.1) → stored.contains z = false → m' z = m₀ z) :
    TbEnd h₀ L (KS Led ps x stored m₀ J) own s₁ { s₁ with heap := h', toks := tk } :=
  ⟨h', tk, m', news', Led c, rfl, F, N, hn, ho, ha, c, rfl, hj, hk, hr⟩
end
theorem off_addr {own a b : List (Addr × Obj)} (h : TbOff own a) (e : b.map (·.1) = a.map (·.1)) : TbOff own b := by
  intro p hp q hq
  have : q.1 ∈ a.map (·.1) := e ▸ List.mem_map.mpr ⟨q, hq, rfl⟩
  obtain ⟨q', hq', e'⟩ := List.mem_map.mp this
  rw [← e']
  exact h p hp q' hq'
theorem mem0 {l own : List (Addr × Obj)} : ∀ p ∈ l, p ∈ l ++ own := fun _ h => List.mem_append_left _ h
theorem mem1 {a : Addr × Obj} {l own : List (Addr × Obj)} : ∀ p ∈ a :: l, p ∈ a :: (l ++ own) := fun _ h => (List.mem_cons.mp h).elim (fun e => e ▸ .head _) fun h => .tail _ (mem0 _ h)
theorem mem2 {a b : Addr × Obj} {l own : List (Addr × Obj)} : ∀ p ∈ a :: b :: l, p ∈ a :: b :: (l ++ own) := fun _ h => (List.mem_cons.mp h).elim (fun e => e ▸ .head _) fun h => .tail _ (mem1 _ h)
theorem mem3 {a b c : Addr × Obj} {l own : List (Addr × Obj)} : ∀ p ∈ a :: b :: c :: l, p ∈ a :: b :: c :: (l ++ own) := fun _ h => (List.mem_cons.mp h).elim (fun e => e ▸ .head _) fun h => .tail _ (mem2 _ h)
theorem own0 {l own : List (Addr × Obj)} : ∀ p ∈ own, p ∈ l ++ own := fun _ h => List.mem_append_right _ h
theorem own1 {a : Addr × Obj} {l own : List (Addr × Obj)} : ∀ p ∈ own, p ∈ a :: (l ++ own) := fun _ h => .tail _ (own0 _ h)
theorem own2 {a b : Addr × Obj} {l own : List (Addr × Obj)} : ∀ p ∈ own, p ∈ a :: b :: (l ++ own) := fun _ h => .tail _ (own1 _ h)
theorem own3 {a b c : Addr × Obj} {l own : List (Addr × Obj)} : ∀ p ∈ own, p ∈ a :: b :: c :: (l ++ own) := fun _ h => .tail _ (own2 _ h)
end
/-- the entries of a dict by written names -/
inductive EsAre : List DictEntry → List (Str × Value) → Prop where
  | nil : EsAre [] []
  | cons {es : List DictEntry} {l : List (Str × Value)} (h : Int) (n : Str) (t : Tok) (v : Value) : EsAre es l → EsAre (⟨h, .str n t, v⟩ :: es) ((n, v) :: l)
def setA (n : Str) (v : Value) : List (Str × Value) → List (Str × Value)
  | [] => []
  | p :: r => if p.1 = n then (p.1, v) :: r else p :: setA n v r
theorem isStr_str (a n : Str) (t : Tok) : Value.isStr (.str a t) n = decide (a = n) := by
  unfold Value.isStr
  by_cases h : a = n
  · subst h; simp
  · simp [h]
theorem EsAre.get {es : List DictEntry} {l : List (Str × Value)} (A : EsAre es l) (n : Str) : getL n es = some (l.lookup n) := by
  induction A with
  | nil => rfl
  | cons h a t v _ ih =>
    unfold getL at ih ⊢
    rw [List.find?_cons, isStr_str, List.lookup_cons]
    by_cases e : a = n
    · subst e; simp
    · have e' : (n == a) = false := by simp; exact fun x => e x.symm
      simp only [e, e', decide_false, Bool.false_eq_true, if_false]
      rw [← ih]
      rfl
theorem EsAre.put {es : List DictEntry} {l : List (Str × Value)} (A : EsAre es l) (n : Str) (hs : Int) (key v : Value) (k : Nat) : (l.lookup n).isSome = true → EsAre (putL n hs key v es) (setA n v l) ∧ putN n es k = k ∧ (putL n hs key v es).length = es.length := by
  induction A with
  | nil => intro h; cases h
  | cons h a t u A' ih =>
    intro hh
    unfold putL setA putN
    rw [List.any_cons, isStr_str]
    by_cases e : a = n
    · subst e
      simp only [decide_true, if_true, Bool.true_or]
      exact ⟨.cons _ _ _ _ A', trivial, rfl⟩
    · have e' : (n == a) = false := by simp; exact fun x => e x.symm
      rw [List.lookup_cons, e'] at hh
      obtain ⟨a1, a2, a3⟩ := ih hh
      simp only [e, decide_false, Bool.false_eq_true, if_false, Bool.false_or]
      refine ⟨.cons _ _ _ _ a1, ?_, by rw [List.length_cons, List.length_cons, a3]⟩
      unfold putN at a2
      exact a2
theorem EsAre.len {es : List DictEntry} {l : List (Str × Value)} (A : EsAre es l) : es.length = l.length := by
  induction A with
  | nil => rfl
  | cons _ _ _ _ _ ih => rw [List.length_cons, List.length_cons, ih]
/-- the fields of a geometry -/
structure GA where
  gd : Addr
  fm : Addr
  rm : Addr
  rs : Addr
  kg : Addr
  kn : Addr
  pw : Addr
  ca : Addr
  rl : Addr
  t0 : Tok
  t1 : Tok
  t2 : Tok
  t3 : Tok
def geoA (f r : Nat) (a : GA) : List (Str × Value) :=
  [(Str.ofString "files", .int ((f : Nat) : Int) a.t0), (Str.ofString "ranks", .int ((r : Nat) : Int) a.t1), (Str.ofString "size", .int ((f * r : Nat) : Int) a.t2), (Str.ofString "full", .int ((fullN f r : Nat) : Int) a.t3),
   (Str.ofString "has_double", .bool false), (Str.ofString "has_castling", .bool false), (Str.ofString "file_masks", .ref a.fm), (Str.ofString "rank_masks", .ref a.rm), (Str.ofString "rays", .ref a.rs), (Str.ofString "king", .ref a.kg),
   (Str.ofString "knight", .ref a.kn), (Str.ofString "pawn", .ref a.pw), (Str.ofString "castles", .ref a.ca), (Str.ofString "rights_lost", .ref a.rl)]
structure GEs (f r : Nat) (a : GA) (es : List DictEntry) : Prop where
  files : getL (Str.ofString "files") es = some (some (.int ((f : Nat) : Int) a.t0))
  ranks : getL (Str.ofString "ranks") es = some (some (.int ((r : Nat) : Int) a.t1))
  size : getL (Str.ofString "size") es = some (some (.int ((f * r : Nat) : Int) a.t2))
  full : getL (Str.ofString "full") es = some (some (.int ((fullN f r : Nat) : Int) a.t3))
  castling : getL (Str.ofString "has_castling") es = some (some (.bool false))
  fmasks : getL (Str.ofString "file_masks") es = some (some (.ref a.fm))
  rmasks : getL (Str.ofString "rank_masks") es = some (some (.ref a.rm))
  rays : getL (Str.ofString "rays") es = some (some (.ref a.rs))
  king : getL (Str.ofString "king") es = some (some (.ref a.kg))
  knight : getL (Str.ofString "knight") es = some (some (.ref a.kn))
  pawn : getL (Str.ofString "pawn") es = some (some (.ref a.pw))
  castles : getL (Str.ofString "castles") es = some (some (.ref a.ca))
  rights : getL (Str.ofString "rights_lost") es = some (some (.ref a.rl))
  len : es.length = 14
theorem geoE {f r : Nat} {a : GA} {es : List DictEntry} (A : EsAre es (geoA f r a)) : GEs f r a es :=
  ⟨A.get _, A.get _, A.get _, A.get _, A.get _, A.get _, A.get _, A.get _, A.get _, A.get _, A.get _, A.get _, A.get _, A.len⟩
theorem set_king {f r : Nat} {a : GA} {es : List DictEntry} (A : EsAre es (geoA f r a)) (hs : Int) (key : Value) (x : Addr) (k : Nat) :
    EsAre (putL (Str.ofString "king") hs key (.ref x) es) (geoA f r { a with kg := x }) ∧ putN (Str.ofString "king") es k = k ∧ (putL (Str.ofString "king") hs key (.ref x) es).length = es.length :=
  A.put _ hs key (.ref x) k rfl
theorem set_rights {f r : Nat} {a : GA} {es : List DictEntry} (A : EsAre es (geoA f r a)) (hs : Int) (key : Value) (x : Addr) (k : Nat) :
    EsAre (putL (Str.ofString "rights_lost") hs key (.ref x) es) (geoA f r { a with rl := x }) ∧ putN (Str.ofString "rights_lost") es k = k ∧ (putL (Str.ofString "rights_lost") hs key (.ref x) es).length = es.length :=
  A.put _ hs key (.ref x) k rfl
theorem UpdF.upd {d : Addr} {o o' : Obj} {l : List (Addr × Obj)} {g : Obj → List (Addr × Obj)} (U : UpdF d o l g) : Upd d o o' l (g o') := by
  induction U with
  | head h => exact .head h
  | tail h _ ih => exact .tail h ih
section
open PySem.Calls
variable {prog : Program} {w : World} {A : Around} {E : Value → Shared → Prop} {s : Shared} {K : Frag} {x C dx L : Addr} {h₀ : Heap} {m : Str → Option Value} {news : List (Addr × Obj)} {ox : Obj} {es : List DictEntry} {n : Nat} {name : Str} {v : Value}
theorem my_setattr {Q : Unit → Shared → Prop} {l : List (Str × Value)} {g : Obj → List (Addr × Obj)} (F : Fr h₀ L s.heap m) (X₀ : K.In h₀) (N : News h₀ L s.heap news) (I : InstAt s.heap x ox C (some (dictOf es n))) (hd : ox.dict = some dx)
    (hs : findIn K (.ref C) "__setattr__" = some (some (.builtin "object.__setattr__"))) (hp : plainOver K C = true) (ht : takerIn K C name = some none) (hh : hasDictIn K C = true) (AE : EsAre es l) (hl : (l.lookup name).isSome = true) (hz : es.length ≤ 1000)
    (U : UpdF dx (dictOf es n) news g) (h : ∀ h' es', EsAre es' (setA name v l) → Fr h₀ L h' m → News h₀ L h' (g (dictOf es' n)) → Q () { s with heap := h', toks := s.toks + 2 }) :
    wpAny (model prog w) A (setAttr (.ref x) name v) Q E s := by
  obtain ⟨a1, a2, a3⟩ := AE.put name (PyData.keyHash w.params name) (.str name (s.toks + 1)) v n hl
  have hg : (getL name es).isSome = true := by rw [AE.get]; rfl
  refine set_dict F X₀ N I hd hs hp ht hh hg rfl (UpdF.upd U) (by rw [a3]; exact hz) fun h' F' N' => ?_
  rw [a2] at N'
  exact h h' _ a1 F' N'
end
theorem geo_king {f r : Nat} {a : GA} {es : List DictEntry} {x : Addr} (A : EsAre es (setA (Str.ofString "king") (.ref x) (geoA f r a))) : EsAre es (geoA f r { a with kg := x }) := A
theorem geo_rights {f r : Nat} {a : GA} {es : List DictEntry} {x : Addr} (A : EsAre es (setA (Str.ofString "rights_lost") (.ref x) (geoA f r a))) : EsAre es (geoA f r { a with rl := x }) := A
section
variable {prog : Program} {w : World} {A : Around} {E : Value → Shared → Prop} {s : Shared} {h₀ : Heap} {L D : Addr} {m : Str → Option Value} {news news' : List (Addr × Obj)} {vs : List Value} {n : Nat} {k : Int} {t : Tok} {v : Value}
theorem my_set {Q : Unit → Shared → Prop} (F : Fr h₀ L s.heap m) (N : News h₀ L s.heap news) (U : Upd D (listOf vs.toArray n) (listOf (vs.set k.toNat v).toArray n) news news') (h0 : 0 ≤ k) (h1 : k.toNat < vs.length) (hfit : k < 2 ^ 63)
    (h : ∀ h', Fr h₀ L h' m → News h₀ L h' news' → Q () { s with heap := h' }) : wpAny (model prog w) A (setItem (.ref D) (.int k t) v) Q E s := by
  obtain ⟨pre, post, rfl, rfl, a, b⟩ := U.split
  have z := N (D, listOf vs.toArray n) (List.mem_append.mpr (.inr (.head _)))
  have hs : vs.toArray.size = vs.length := List.size_toArray
  refine ki_setAt z.1 h0 hfit (by rw [hs]; omega) (h _ (F.change (Heap.SameBut.update ..) z.2.1 z.2.2) (ki_turn _ N a b ?_ ?_))
  · show vs.toArray.setIfInBounds k.toNat v = (vs.set k.toNat v).toArray
    apply Array.toList_inj.mp
    simp
  · simp
theorem my_get {Q : Value → Shared → Prop} {u : Tok} (hl : s.heap.IsList D vs.toArray) (h0 : 0 ≤ k) (hfit : k < 2 ^ 63) (hx : vs[k.toNat]? = some v) (h : Q v s) : wpAny (model prog w) A (getItem (.ref D) (.int k u)) Q E s :=
  wpAny_getItem_list hl h0 hfit (by simpa using hx) h
end
theorem board_zero (n : Nat) (t : Tok) : Board ((List.replicate ((n : Nat) : Int).toNat [Value.int 0 t]).flatten) n (fun _ => 0) := by
  rw [toNat_nn]
  have e : (List.replicate n [Value.int 0 t]).flatten = List.replicate n (Value.int 0 t) := by
    induction n with
    | zero => rfl
    | succ n ih => rw [List.replicate_succ, List.flatten_cons, ih]; rfl
  rw [e]
  exact ⟨by simp, fun q hq => ⟨t, by simp [hq]⟩⟩
theorem Board.set {vs : List Value} {n : Nat} {F F' : Nat → Nat} (B : Board vs n F) {q : Nat} {v : Int} (t : Tok) (hv : v = ((F' q : Nat) : Int)) (hF : ∀ p, p < n → p ≠ q → F' p = F p) : Board (vs.set q (.int v t)) n F' := by
  subst hv
  refine ⟨by rw [List.length_set, B.1], fun p hp => ?_⟩
  by_cases h : p = q
  · subst h
    exact ⟨t, by rw [List.getElem?_set_self (by rw [B.1]; exact hp)]⟩
  · obtain ⟨t', e⟩ := B.2 p hp
    exact ⟨t', by rw [List.getElem?_set_ne (fun e => h e.symm), hF p hp h, e]⟩
theorem Board.congr {vs : List Value} {n : Nat} {F F' : Nat → Nat} (B : Board vs n F) (hF : ∀ p, p < n → F' p = F p) : Board vs n F' :=
  ⟨B.1, fun p hp => let ⟨t, e⟩ := B.2 p hp; ⟨t, by rw [hF p hp, e]⟩⟩
/-- a range that is kept -/
abbrev rangeObj (a b c : Int) (t u v : Tok) : Obj := { cls := .type "range", data := .fields #[.int a t, .int b u, .int c v] }
section
variable {prog : Program} {w : World} {A : Around} {E : Value → Shared → Prop} {s : Shared} {h₀ : Heap} {L : Addr} {m : Str → Option Value} {news : List (Addr × Obj)}
theorem range1_N {Q : Value → Shared → Prop} {b : Int} {t : Tok} (F : Fr h₀ L s.heap m) (N : News h₀ L s.heap news)
    (h : ∀ r h' tk t₁ v₁, Fr h₀ L h' m → News h₀ L h' ((r, rangeObj 0 b 1 t₁ t v₁) :: news) → (∀ p ∈ news, p.1 < r) → Q (.ref r) { s with heap := h', toks := tk }) :
    wpAny (model prog w) A (call (.type "range") [.int b t]) Q E s :=
  call_range_1 (h _ _ _ _ _ (F.push _) (N.push F _) fun p hp => Heap.lt_size (N p hp).1)
theorem range3_N {Q : Value → Shared → Prop} {a b c : Int} {t u v : Tok} (F : Fr h₀ L s.heap m) (N : News h₀ L s.heap news) (hc : c ≠ 0) (hp : Builtin.divisionGoesByPylong (b - a) c = false)
    (h : ∀ r h' tk, Fr h₀ L h' m → News h₀ L h' ((r, rangeObj a b c t u v) :: news) → (∀ p ∈ news, p.1 < r) → Q (.ref r) { s with heap := h', toks := tk }) :
    wpAny (model prog w) A (call (.type "range") [.int a t, .int b u, .int c v]) Q E s :=
  call_range_3 hc (h _ _ _ (F.push _) (N.push F _) fun p hp => Heap.lt_size (N p hp).1) (Or.inl hp)
theorem range_of {h : Heap} {r : Addr} {a b c : Int} {t u v : Tok} (N : News h₀ L h news) (hm : (r, rangeObj a b c t u v) ∈ news) : IsRange h r a b c t u v := (N _ hm).1
end
section
variable {prog : Program} {w : World} {A : Around} {E : Value → Shared → Prop} {s : Shared} {h₀ : Heap} {L l : Addr} {m : Str → Option Value} {news : List (Addr × Obj)}
theorem zeros_N {Q : Value → Shared → Prop} {n c : Nat} {t u : Tok} (F : Fr h₀ L s.heap m) (N : News h₀ L s.heap news) (hm : (l, listOf [Value.int 0 t].toArray c) ∈ news) (hn : n ≤ 25)
    (h : ∀ D h' zs, Board zs n (fun _ => 0) → Fr h₀ L h' m → News h₀ L h' ((D, listOf zs.toArray 0) :: news) → (∀ p ∈ news, p.1 < D) → Q (.ref D) { s with heap := h' }) :
    wpAny (model prog w) A (binaryOp .Mult (.ref l) (.int ((n : Nat) : Int) u)) Q E s :=
  KMa.mul F N (news_isList N hm) (by omega) (by omega) (by rw [toNat_nn]; simp; omega) rfl fun D h' F' N' l' => h D h' _ (board_zero n t) F' N' l'
end
/-! the rays' inner loop -/
def sqN (n d k : Nat) : Nat := if growN d then n - 1 - k else k
def dn (n d k q : Nat) : Bool := if growN d then decide (n - k ≤ q) else decide (q < k)
def RF (f r d k q : Nat) : Nat := if dn (f * r) d k q then rayN f r d q else 0
def KF (f r d k q : Nat) : Nat := if dn (f * r) d k q then kingTo f r q (d + 1) else kingTo f r q d
theorem sq_lt {n d k : Nat} (h : k < n) : sqN n d k < n := by unfold sqN; split <;> omega
theorem dn_here {n d k : Nat} (h : k < n) : dn n d (k + 1) (sqN n d k) = true ∧ dn n d k (sqN n d k) = false := by
  unfold dn sqN; split <;> simp <;> omega
theorem dn_else {n d k q : Nat} (hq : q < n) (h : k < n) (hne : q ≠ sqN n d k) : dn n d (k + 1) q = dn n d k q := by
  unfold sqN at hne
  unfold dn
  split <;> rename_i hg
  · rw [if_pos hg] at hne
    by_cases h1 : n - k ≤ q
    · rw [decide_eq_true h1, decide_eq_true (by omega)]
    · rw [decide_eq_false h1, decide_eq_false (by omega)]
  · rw [if_neg hg] at hne
    by_cases h1 : q < k
    · rw [decide_eq_true h1, decide_eq_true (by omega)]
    · rw [decide_eq_false h1, decide_eq_false (by omega)]
theorem dn_goal {f r d k : Nat} (S : Shape f r) (hd : d < 8) (h : k < f * r) (hb : (innerN f r d).testBit (sqN (f * r) d k) = true) : goalN f d (sqN (f * r) d k) < f * r ∧ dn (f * r) d k (goalN f d (sqN (f * r) d k)) = true := by
  obtain ⟨_, h2, h3⟩ := goal_ok S hd (sq_lt h) hb
  refine ⟨h2, ?_⟩
  generalize hG : goalN f d (sqN (f * r) d k) = G at *
  unfold sqN at h3
  unfold dn
  by_cases hg : growN d = true
  · rw [if_pos hg, if_pos hg] at h3
    rw [if_pos hg]
    exact decide_eq_true (by omega)
  · rw [if_neg hg, if_neg hg] at h3
    rw [if_neg hg]
    exact decide_eq_true (by omega)
theorem rf_goal {f r d k : Nat} (S : Shape f r) (hd : d < 8) (h : k < f * r) (hb : (innerN f r d).testBit (sqN (f * r) d k) = true) : RF f r d k (goalN f d (sqN (f * r) d k)) = rayN f r d (goalN f d (sqN (f * r) d k)) := by
  unfold RF
  rw [if_pos (dn_goal S hd h hb).2]
theorem kf_here {f r d k : Nat} (h : k < f * r) : KF f r d k (sqN (f * r) d k) = kingTo f r (sqN (f * r) d k) d := by
  unfold KF
  rw [if_neg (by rw [(dn_here h).2]; decide)]
theorem rf_next {f r d k : Nat} (S : Shape f r) (hd : d < 8) (h : k < f * r) (hb : (innerN f r d).testBit (sqN (f * r) d k) = true) : RF f r d (k + 1) (sqN (f * r) d k) = rayN f r d (goalN f d (sqN (f * r) d k)) ||| 1 <<< goalN f d (sqN (f * r) d k) := by
  unfold RF
  rw [if_pos (dn_here h).1, ray_step S hd (sq_lt h), if_pos hb]
theorem kf_next {f r d k : Nat} (h : k < f * r) (hb : (innerN f r d).testBit (sqN (f * r) d k) = true) : KF f r d (k + 1) (sqN (f * r) d k) = kingTo f r (sqN (f * r) d k) d ||| 1 <<< goalN f d (sqN (f * r) d k) := by
  unfold KF
  rw [if_pos (dn_here h).1]
  show (if _ then _ else _) = _
  rw [if_pos hb]
theorem rf_else {f r d k q : Nat} (hq : q < f * r) (h : k < f * r) (hne : q ≠ sqN (f * r) d k) : RF f r d (k + 1) q = RF f r d k q := by unfold RF; rw [dn_else hq h hne]
theorem kf_else {f r d k q : Nat} (hq : q < f * r) (h : k < f * r) (hne : q ≠ sqN (f * r) d k) : KF f r d (k + 1) q = KF f r d k q := by unfold KF; rw [dn_else hq h hne]
theorem turnR {f r d k : Nat} (S : Shape f r) (hd : d < 8) (h : k < f * r) (hb : (innerN f r d).testBit (sqN (f * r) d k) = true) {vs : List Value} (B : Board vs (f * r) (RF f r d k)) {t : Tok} :
    Board (vs.set (sqN (f * r) d k) (.int ((rayN f r d (goalN f d (sqN (f * r) d k)) ||| 1 <<< goalN f d (sqN (f * r) d k) : Nat) : Int) t)) (f * r) (RF f r d (k + 1)) :=
  B.set t (by rw [rf_next S hd h hb]) fun _ hp hne => rf_else hp h hne
theorem turnK {f r d k : Nat} (h : k < f * r) (hb : (innerN f r d).testBit (sqN (f * r) d k) = true) {vs : List Value} (B : Board vs (f * r) (KF f r d k)) {t : Tok} :
    Board (vs.set (sqN (f * r) d k) (.int ((kingTo f r (sqN (f * r) d k) d ||| 1 <<< goalN f d (sqN (f * r) d k) : Nat) : Int) t)) (f * r) (KF f r d (k + 1)) :=
  B.set t (by rw [kf_next h hb]) fun _ hp hne => kf_else hp h hne
theorem stayR {f r d k : Nat} (S : Shape f r) (hd : d < 8) (h : k < f * r) (hb : (innerN f r d).testBit (sqN (f * r) d k) = false) {vs : List Value} (B : Board vs (f * r) (RF f r d k)) : Board vs (f * r) (RF f r d (k + 1)) :=
  B.congr fun p hp => by
    by_cases e : p = sqN (f * r) d k
    · subst e
      unfold RF
      rw [if_pos (dn_here h).1, if_neg (by rw [(dn_here h).2]; decide), ray_step S hd (sq_lt h), if_neg (by rw [hb]; decide)]
    · exact rf_else hp h e
theorem stayK {f r d k : Nat} (h : k < f * r) (hb : (innerN f r d).testBit (sqN (f * r) d k) = false) {vs : List Value} (B : Board vs (f * r) (KF f r d k)) : Board vs (f * r) (KF f r d (k + 1)) :=
  B.congr fun p hp => by
    by_cases e : p = sqN (f * r) d k
    · subst e
      unfold KF
      rw [if_pos (dn_here h).1, if_neg (by rw [(dn_here h).2]; decide)]
      show (if _ then _ else _) = _
      rw [if_neg (by rw [hb]; decide)]
    · exact kf_else hp h e
theorem dn_none {n d q : Nat} (hq : q < n) : dn n d 0 q = false := by unfold dn; split <;> simp <;> omega
theorem startR {f r d : Nat} {vs : List Value} (B : Board vs (f * r) (fun _ => 0)) : Board vs (f * r) (RF f r d 0) := B.congr fun p hp => by
  unfold RF
  rw [if_neg (by rw [dn_none hp]; decide)]
theorem startK {f r d : Nat} {vs : List Value} (B : Board vs (f * r) (fun q => kingTo f r q d)) : Board vs (f * r) (KF f r d 0) := B.congr fun p hp => by
  unfold KF
  rw [if_neg (by rw [dn_none hp]; decide)]
theorem dn_all {n d q : Nat} (hq : q < n) : dn n d n q = true := by unfold dn; split <;> simp; omega
theorem endR {f r d : Nat} {vs : List Value} (B : Board vs (f * r) (RF f r d (f * r))) : Board vs (f * r) (rayN f r d) := B.congr fun p hp => by unfold RF; rw [if_pos (dn_all hp)]
theorem endK {f r d : Nat} {vs : List Value} (B : Board vs (f * r) (KF f r d (f * r))) : Board vs (f * r) (fun q => kingTo f r q (d + 1)) := B.congr fun p hp => by unfold KF; rw [if_pos (dn_all hp)]
section
open PySem PySem.W PyProof.Rows PySem.Calls
/-! the bit operations upon naturals, as steps of the walk -/
section
variable {prog : Program} {w : World} {A : Around} {E : Value → Shared → Prop} {s : Shared} {a b : Nat} {n : Int} {t u : Tok} {Q : Value → Shared → Prop}
theorem st_and (h : Q (.int ((a &&& b : Nat) : Int) s.toks) { s with toks := s.toks + 1 }) : wpAny (model prog w) A (binaryOp .BitAnd (.int ((a : Nat) : Int) t) (.int ((b : Nat) : Int) u)) Q E s := by
  refine and_int ?_
  rw [and_nn]; exact h
theorem st_or (h : Q (.int ((a ||| b : Nat) : Int) s.toks) { s with toks := s.toks + 1 }) : wpAny (model prog w) A (binaryOp .BitOr (.int ((a : Nat) : Int) t) (.int ((b : Nat) : Int) u)) Q E s := by
  refine or_int ?_
  rw [or_nn]; exact h
theorem st_andnot (h : Q (.int ((a ^^^ (a &&& b) : Nat) : Int) s.toks) { s with toks := s.toks + 1 }) : wpAny (model prog w) A (binaryOp .BitAnd (.int ((a : Nat) : Int) t) (.int (Builtin.bitNot ((b : Nat) : Int)) u)) Q E s := by
  refine and_int ?_
  rw [andnot_nn]; exact h
theorem st_shl1 (hn : 0 ≤ n) (hn2 : n ≤ 1000000) (h : Q (.int ((1 <<< n.toNat : Nat) : Int) s.toks) { s with toks := s.toks + 1 }) : wpAny (model prog w) A (binaryOp .LShift (.int 1 t) (.int n u)) Q E s := by
  refine lshift_int_small hn hn2 (by decide) ?_
  have e := shl_nn 1 n.toNat
  rw [show ((1 : Nat) : Int) = 1 from rfl] at e
  rw [e]; exact h
theorem st_shl (hn : 0 ≤ n) (hn2 : n ≤ 1000000) (ha : a < 2 ^ 64) (h : Q (.int ((a <<< n.toNat : Nat) : Int) s.toks) { s with toks := s.toks + 1 }) : wpAny (model prog w) A (binaryOp .LShift (.int ((a : Nat) : Int) t) (.int n u)) Q E s := by
  refine lshift_int_small hn hn2 (by rw [Int.natAbs_natCast]; exact ha) ?_
  rw [shl_nn]; exact h
end
theorem two_small {x y a b : Nat} (ha : a < 2 ^ 64) (hb : b < 2 ^ 64) : x &&& a ||| y &&& b < 2 ^ 64 :=
  Nat.or_lt_two_pow (Nat.lt_of_le_of_lt Nat.and_le_right ha) (Nat.lt_of_le_of_lt Nat.and_le_right hb)
theorem less_small {a b n : Nat} (ha : a < 2 ^ n) : a ^^^ (a &&& b) < 2 ^ n := Nat.xor_lt_two_pow ha (Nat.lt_of_le_of_lt Nat.and_le_left ha)
theorem full_small {f r : Nat} (S : Shape f r) : fullN f r < 2 ^ 64 := by
  unfold fullN
  rw [Nat.one_shiftLeft]
  have : 2 ^ (f * r) ≤ 2 ^ 25 := Nat.pow_le_pow_right (by decide) S.size
  omega
theorem one_small {n : Nat} (h : n < 64) : 1 <<< n < 2 ^ 64 := by rw [Nat.one_shiftLeft]; exact Nat.pow_lt_pow_right (by decide) h
section
variable {prog : Program} {w : World} {A : Around} {E : Value → Shared → Prop} {s : Shared} {a : Nat} {n : Int} {t u : Tok} {Q : Value → Shared → Prop}
theorem st_shr (hn : 0 ≤ n) (h : Q (.int ((a >>> n.toNat : Nat) : Int) s.toks) { s with toks := s.toks + 1 }) : wpAny (model prog w) A (binaryOp .RShift (.int ((a : Nat) : Int) t) (.int n u)) Q E s := by
  refine rshift_int hn ?_
  rw [shr_nn]; exact h
end
end
section
open PySem PySem.W PyProof.Rows PySem.Calls PyProof.V PySem.Spec
/-! a list made by a comprehension over a written tuple -/
abbrev tupObj (its : Array Value) (k : Nat) : Obj := { cls := .type "tuple", data := .seq its k }
def TupSrc (prog : Program) (w : World) (A : Around) (h₀ : Heap) (L : Addr) (m : Str → Option Value) (env : Env) (elt : PySem.Expr) (x : Str) (scope : Scope) (cl : List (Str × Addr)) (Fin : Shared → List Value → List (Addr × Obj) → Prop) (xv : Value) (s₁ : Shared) : Prop :=
  ∃ ax its k news, xv = .ref ax ∧ A.handled = none ∧ Fr h₀ L s₁.heap m ∧ News h₀ L s₁.heap news ∧ (ax, tupObj its k) ∈ news ∧ its.size ≤ sizeLine ∧
    ∀ s₂ : Shared, (∃ h, s₂ = { s₁ with heap := h }) → LCg.CompRest prog w A h₀ L m env elt x scope cl s₂ (fun nw => (ax, tupObj its k) ∈ nw) (fun i v => its[i]? = some v) (Fin s₂) its.size 0 [] news
section
variable {prog : Program} {w : World} {A : Around} {E : Value → Shared → Prop} {s : Shared} {h₀ : Heap} {L : Addr} {m : Str → Option Value} {env : Env}
theorem tupSrc_intro {elt : PySem.Expr} {x : Str} {scope : Scope} {cl : List (Str × Addr)} {Fin : Shared → List Value → List (Addr × Obj) → Prop} {ax : Addr} {its : Array Value} {k : Nat} {news : List (Addr × Obj)} {s₁ : Shared}
    (hh : A.handled = none) (F : Fr h₀ L s₁.heap m) (N : News h₀ L s₁.heap news) (hm : (ax, tupObj its k) ∈ news) (hsz : its.size ≤ sizeLine)
    (h : ∀ g, LCg.CompRest prog w A h₀ L m env elt x scope cl { s₁ with heap := g } (fun nw => (ax, tupObj its k) ∈ nw) (fun i v => its[i]? = some v) (Fin { s₁ with heap := g }) its.size 0 [] news) :
    TupSrc prog w A h₀ L m env elt x scope cl Fin (.ref ax) s₁ := ⟨ax, its, k, news, rfl, hh, F, N, hm, hsz, fun _ ⟨g, e⟩ => e ▸ h g⟩
theorem assign_comp_tup {elt iter : PySem.Expr} {x y : Str} {px py : Pos} {scope : Scope} {cl : List (Str × Addr)} {pos spos : Pos} {Q : Flow → Shared → Prop} (_F₀ : Fr h₀ L s.heap m) (hLe : env.locals = L)
    (hsw : swapsWith (.ListComp elt [⟨.Name x px, iter, [], 0⟩] scope pos) (some (.Name y py)) spos.line env = pure true)
    (hclos : closureFor scope env = pure cl) (hcell : ∀ z ∈ scope.names, z.2 ≠ .cell) (hkind : scope.kind = .function)
    (hnames : ∀ z ∈ scope.names, z.2 = .local → scope.names.lookup z.1 = some .local) (hx : scope.names.lookup x = some .local)
    (hy : env.kindOf y = some .local) (hp : (env.scope.kind == .class || (env.scope.kind == .module && env.locals != env.globals)) = false)
    (h : wpAny (model prog w) A (eval iter env) (TupSrc prog w A h₀ L m env elt x scope cl (fun s₂ => LCg.FinA h₀ L m s₂ y Q)) E s)
    (hs : ∀ x, foldedSetIterable iter env x = pure x := by intro _; rfl) :
    wpAny (model prog w) A (exec (.Assign [.Name y py] (.ListComp elt [⟨.Name x px, iter, [], 0⟩] scope pos) spos) env) Q E s := by
  subst hLe
  rw [exec_Assign_Name_used _ _ _ _ hsw]
  refine wpAny_bind (wpAny_standAt (wpAny_bind ?_))
  show wpAny _ A (do let _ ← comprehension (.ListComp elt [⟨.Name x px, iter, [], 0⟩] scope pos) scope env _ (newList []) false (eval iter env) (some (assign (.Name y py) env))) _ _ s
  refine wpAny_bind (wpAny_mono (wpAny_comprehension_free (use := some (assign (.Name y py) env)) (Q := fun _ s' => Q .next s') rfl hs hclos hkind hnames
    (wpAny_mono h (fun xv s₁ h₁ => ?_) fun _ _ e => e)) (fun _ s' hq => wpAny_pure (wpAny_pure hq)) fun _ _ e => e)
  obtain ⟨ax, its, k, news, rfl, hh, F, N, hm, hsz, R⟩ := h₁
  have hax := (N _ hm).1
  have hl : s₁.heap.IsTuple ax its := ⟨_, hax, rfl, k, rfl⟩
  have hlt : ax < s₁.heap.objs.size := Heap.lt_size hax
  refine wpAny_pyIter_tuple hl ?_
  have up : ∀ b o, s₁.heap.get? b = some o → (s₁.heap.push { cls := .type "tuple_iterator", data := .fields #[.ref ax, .int 0 0] }).get? b = some o := fun b o e => Heap.get?_push_of_some _ e
  refine LCg.block_U (S := fun nw => (ax, tupObj its k) ∈ nw) (Walks.tuple hh s₁.heap.objs.size ax (Nat.ne_of_lt hlt) its) hsz (fun i h st => by obtain ⟨o, e, _⟩ := st.1; exact ⟨o, e⟩) ?_ hcell hkind hx ?_ (fun b hb => ?_)
    (F.keeps up) (N.grown up) (Nat.ne_of_lt F.ns.lt) (next_is_new F) (fun p hp => Nat.ne_of_lt (Heap.lt_size (N p hp).1)) hm (R _ ⟨_, rfl⟩) ?_
  · intro i h h' o nw st e e' _ N' hS
    refine ⟨?_, ⟨_, (N' _ hS).1, rfl, k, rfl⟩⟩
    obtain ⟨o', q, r⟩ := st.1
    rw [e] at q
    cases q
    exact ⟨o, e', r⟩
  · exact ⟨⟨_, Heap.get?_push_size _ rfl, rfl, rfl⟩, ⟨_, Heap.get?_push_of_some _ hax, rfl, k, rfl⟩⟩
  · show b < (s₁.heap.push _).objs.size
    rw [Heap.size_push]
    rcases List.mem_cons.mp hb with rfl | hb
    · exact Nat.lt_succ_self _
    · rw [List.mem_singleton.mp hb]; exact Nat.lt_succ_of_lt hlt
  · intro D C h' tk m' ys news' F' N' o1 hn hC₀ hD₀ hCL hDL hCD offC fin
    show wpAny _ A (assign (.Name y py) env (.ref D)) _ _ _
    refine wpAny_assign_Name (wpAny_storeName_local hy F'.ns (fun h₂ hn₂ hs₂ => ?_) hp)
    have hL₀ : h₀.get? env.locals = none := Heap.get?_none_of_le F'.above
    have F₂ : Fr h₀ env.locals h₂ (fun z => if z = y then some (.ref D) else m z) := ⟨hn₂, fun b o e => hs₂.extBut b o (fun q => by rw [q, hL₀] at e; cases e) (F'.keep b o e), F'.above⟩
    refine ⟨m', hn.sameBut hs₂ hCL, fun h'' hs'' => fin D h'' _ (F₂.change hs'' hCL hC₀) (fun p hp => ?_) o1⟩
    have z : h₂.get? p.1 = some p.2 := hs₂.extBut _ _ (N' p hp).2.1 (N' p hp).1
    refine ⟨hs''.extBut _ _ ?_ z, (N' p hp).2⟩
    rcases List.mem_cons.mp hp with rfl | hp
    · exact Ne.symm hCD
    · exact offC p hp
end
theorem comp_end_same {h₀ : Heap} {L I C D : Addr} {m : Str → Option Value} {s₁ : Shared} {oI oC oD : Obj} {S : List (Addr × Obj) → Prop} {rest : Value → List (Addr × Obj) → Prop} {y : Value} {h' : Heap} {tk : Nat} {news' : List (Addr × Obj)}
    (F : Fr h₀ L h' m) (N : News h₀ L h' ((I, oI) :: (C, oC) :: (D, oD) :: news')) (off : LCg.Off3 I C D news') (hS : S news') (r : rest y news') :
    LCg.CompEnd h₀ L m s₁ I oI C oC D oD S rest y { s₁ with heap := h', toks := tk } := LCg.CompEnd.intro F N news' (fun _ h => h) off hS r
section
variable {prog : Program} {w : World} {A : Around} {E : Value → Shared → Prop} {s : Shared} {a b : Int} {t u : Tok} {Q : Value → Shared → Prop}
theorem st_ne_same (h : a = b) (hq : Q (.bool false) s) : wpAny (model prog w) A (compareOp .NotEq (.int a t) (.int b u)) Q E s := by
  subst h
  refine PyProof.Rows.ne_int ?_
  rw [bne_self_eq_false]
  exact hq
end
end
/-- does the direction grow -/
def grows (d : Int) : Bool := decide (d = 0) || decide (d = 1) || decide (d = 4) || decide (d = 7)
theorem grow_does (w : World) (news : List (Addr × Obj)) (d : Int) (t : Tok) (h0 : 0 ≤ d) (h8 : d < 8) : Gives w 64 1 [.int d t] news (fun v => v = .bool (grows d)) := by
  unfold Gives Does
  intro mean mg mb dp un gd cn cs a ccd cl outer A₀ base h₀ L m s Q E B F X N T hk hd hu hret
  refine wpAny_call ?_
  k_dflt cell_enter
  k_steps
  all_goals (have hc : d = 0 ∨ d = 1 ∨ d = 2 ∨ d = 3 ∨ d = 4 ∨ d = 5 ∨ d = 6 ∨ d = 7 := by omega)
  all_goals (refine hret _ _ _ _ (by assumption) (by assumption) ⟨rfl, ?_⟩)
  all_goals (rcases hc with rfl | rfl | rfl | rfl | rfl | rfl | rfl | rfl <;> first | rfl | (exfalso; revert ‹_›; decide) | (simp_all; done))
local macro_rules | `(tactic| k_get) => `(tactic| with_reducible assumption)
local macro_rules | `(tactic| walk_at "subscriptTail") => `(tactic| (k_here; (with_reducible show wpAny _ _ (subscriptTail _ _ (Value.ref _) (Value.int _ _)) _ _ _); (with_unfolding_all refine' my_item (news_isList (by assumption) (by k_mem)) (by omega) (by omega) (by with_reducible assumption) ?_ (by with_unfolding_all rfl); k_whole)))
local macro_rules | `(tactic| walk_at "call ref") => `(tactic| (k_here; (with_reducible show wpAny _ _ (call (Value.ref _) _) _ _ _); (with_unfolding_all refine' Does.use ?kk (by k_asm) (by k_asm) (by k_asm) (by k_asm) (by k_asm) (by first | exact rfl | assumption) ?kd ?ku ?_; (case kk => tb_start); (case kd => ktr_room); (case ku => ktr_units); k_whole; intro v9 n9 h9 tk9 F9 N9 P9; (first | (obtain ⟨e9, _, e8⟩ := P9; subst e9 e8) | (obtain ⟨e9, e8⟩ := P9; subst e9 e8) | (obtain ⟨_, e9, T9, _, _, e8, _, _⟩ := P9; subst e9 e8; (try dsimp only at N9 T9)) | (obtain ⟨_, _, e9, T9, _, _, _, _, e8, _⟩ := P9; subst e9 e8; (try dsimp only at N9 T9)) | (obtain ⟨_, _, _, e8, e9, _, _⟩ := P9; subst e9 e8)); (try dsimp only); (try k_fold))))
local macro_rules | `(tactic| lsm_bools) => `(tactic| first | assumption | k_mem | exact GeoIs.mono (by assumption) (by intro p9 hp9; repeat (first | exact hp9 | refine List.Mem.tail _ ?_)) | exact rfl | decide | omega)
local macro_rules | `(tactic| tb_start) => `(tactic| ((with_reducible apply grow_does) <;> lsm_bools))

/-- the seven rows of the shrinking way -/
theorem behind_is (ray s : Nat) :
    Builtin.bitAnd (ray : Int) (Builtin.bitNot ((fill64 s : Nat) : Int)) = ((ray ^^^ (ray &&& fill64 s) : Nat) : Int) := andnot_nn ray (fill64 s)

theorem ray_raw (w : World) (news : List (Addr × Obj)) (g gd rs rd : Addr) (es : List DictEntry) (ng nr nd : Nat) (rvs ivs : List Value) (d sq : Int) (occ ray : Nat) (t1 t2 t3 t4 : Tok)
    (hg : (g, instObj 53 gd) ∈ news) (hgd : (gd, dictOf es ng) ∈ news) (hrs : getL (Str.ofString "rays") es = some (some (.ref rs))) (hrv : (rs, listOf rvs.toArray nr) ∈ news) (hrd : rvs[d.toNat]? = some (.ref rd)) (hiv : (rd, listOf ivs.toArray nd) ∈ news)
    (hray : ivs[sq.toNat]? = some (.int ray t4)) (h0 : 0 ≤ d) (h8 : d < 8) (hs0 : 0 ≤ sq) (hs1 : sq < 64) :
    Gives w 120 2 [.ref g, .int d t1, .int sq t2, .int occ t3] news (fun v => ∃ t, v = .int ((attN (growN d.toNat) ray occ : Nat) : Int) t) := by
  unfold Gives Does
  intro mean mg mb dp un gd' cn cs a ccd cl outer A₀ base h₀ L m s Q E B F X N T hk hd hu hret
  refine wpAny_call ?_
  k_dflt cell_enter
  k_steps
  all_goals (refine hret _ _ _ _ (by assumption) (by assumption) ⟨rfl, ⟨_, congrArg (fun z => Value.int z _) ?_⟩⟩)
  · rename (Builtin.bitAnd _ _ = 0) => h1
    rw [and_nn] at h1
    unfold attN
    rw [if_pos (by omega)]
  · rename (¬ Builtin.bitAnd _ _ = 0) => h1
    rename (grows _ = true) => h2
    unfold grows at h2
    rw [grows_is d h0 h8] at h2
    rw [and_nn] at h1
    unfold attN
    rw [if_neg (by omega), h2, if_pos rfl, and_nn, sub_one_nn (by omega), xor_nn, and_nn]
  · rename (¬ Builtin.bitAnd _ _ = 0) => h1
    rename (grows _ = false) => h2
    unfold grows at h2
    rw [grows_is d h0 h8] at h2
    rw [and_nn] at h1
    unfold attN
    rw [if_neg (by omega), h2, if_neg (by decide), ← behind_is]
    simp only [and_nn, shr_nn, or_nn]
    rfl
theorem ray_does (w : World) (news : List (Addr × Obj)) (g : Addr) (f r : Nat) (S : Shape f r) (G : GeoIs news g f r) (d sq occ : Int) (t1 t2 t3 : Tok) (h0 : 0 ≤ d) (h8 : d < 8) (hs0 : 0 ≤ sq) (hs1 : sq.toNat < f * r) (ho : 0 ≤ occ) :
    Gives w 120 2 [.ref g, .int d t1, .int sq t2, .int occ t3] news (fun v => ∃ t, v = .int ((attD f r d.toNat sq.toNat occ.toNat : Nat) : Int) t) := by
  obtain ⟨gd, es, ng, rs, nr, rvs, kg, nk, kvs, kn, nn, nvs, pw, np, p0, n0, v0, p1, n1, v1, ts, G⟩ := G
  obtain ⟨rd, nd, ivs, a, b, c⟩ := G.lr d.toNat (by omega)
  obtain ⟨t4, e⟩ := c.get hs1
  have hz := S.size
  have := ray_raw w news g gd rs rd es ng nr nd rvs ivs d sq occ.toNat (rayN f r d.toNat sq.toNat) t1 t2 t3 t4 G.ig G.id G.gr G.ir a b e h0 h8 hs0 (by omega)
  rw [Int.toNat_of_nonneg ho] at this
  exact this
local macro_rules | `(tactic| tb_start) => `(tactic| ((with_reducible apply ray_does) <;> lsm_bools))
local macro_rules | `(tactic| walk_at "UnrEnd") => `(tactic| (refine unr_cons (by assumption) (by assumption) (off_of_lt (by assumption)) ?_))
theorem or_0n (b : Nat) : Builtin.bitOr 0 ((b : Nat) : Int) = ((0 ||| b : Nat) : Int) := or_nn 0 b
theorem rook_does (w : World) (news : List (Addr × Obj)) (g : Addr) (f r : Nat) (S : Shape f r) (G : GeoIs news g f r) (sq occ : Int) (t2 t3 : Tok) (hs0 : 0 ≤ sq) (hs1 : sq.toNat < f * r) (ho : 0 ≤ occ) :
    Gives w 127 4 [.ref g, .int sq t2, .int occ t3] news (fun v => ∃ t, v = .int ((rookN f r sq.toNat occ.toNat : Nat) : Int) t) := by
  unfold Gives Does
  intro mean mg mb dp un gd' cn cs a ccd cl outer A₀ base h₀ L m s Q E B F X N T hk hd hu hret
  have kM := kstMark
  refine wpAny_call ?_
  k_dflt cell_enter
  k_steps
  all_goals (refine hret _ _ _ _ (by assumption) (by assumption) ⟨rfl, ⟨_, congrArg (fun z => Value.int z _) ?_⟩⟩)
  simp only [or_0n, or_nn]
  rfl
theorem bishop_does (w : World) (news : List (Addr × Obj)) (g : Addr) (f r : Nat) (S : Shape f r) (G : GeoIs news g f r) (sq occ : Int) (t2 t3 : Tok) (hs0 : 0 ≤ sq) (hs1 : sq.toNat < f * r) (ho : 0 ≤ occ) :
    Gives w 134 4 [.ref g, .int sq t2, .int occ t3] news (fun v => ∃ t, v = .int ((bishopN f r sq.toNat occ.toNat : Nat) : Int) t) := by
  unfold Gives Does
  intro mean mg mb dp un gd' cn cs a ccd cl outer A₀ base h₀ L m s Q E B F X N T hk hd hu hret
  have kM := kstMark
  refine wpAny_call ?_
  k_dflt cell_enter
  k_steps
  all_goals (refine hret _ _ _ _ (by assumption) (by assumption) ⟨rfl, ⟨_, congrArg (fun z => Value.int z _) ?_⟩⟩)
  simp only [or_0n, or_nn]
  rfl
local macro_rules | `(tactic| tb_start) => `(tactic| ((with_reducible apply rook_does) <;> lsm_bools))
local macro_rules | `(tactic| tb_start) => `(tactic| ((with_reducible apply bishop_does) <;> lsm_bools))
theorem queen_does (w : World) (news : List (Addr × Obj)) (g : Addr) (f r : Nat) (S : Shape f r) (G : GeoIs news g f r) (sq occ : Int) (t2 t3 : Tok) (hs0 : 0 ≤ sq) (hs1 : sq.toNat < f * r) (ho : 0 ≤ occ) :
    Gives w 141 6 [.ref g, .int sq t2, .int occ t3] news (fun v => ∃ t, v = .int ((rookN f r sq.toNat occ.toNat ||| bishopN f r sq.toNat occ.toNat : Nat) : Int) t) := by
  unfold Gives Does
  intro mean mg mb dp un gd' cn cs a ccd cl outer A₀ base h₀ L m s Q E B F X N T hk hd hu hret
  have kM := kstMark
  refine wpAny_call ?_
  k_dflt cell_enter
  k_steps
  all_goals (refine hret _ _ _ _ (by assumption) (by assumption) ⟨rfl, ⟨_, congrArg (fun z => Value.int z _) ?_⟩⟩)
  simp only [or_nn]
local macro_rules | `(tactic| tb_start) => `(tactic| ((with_reducible apply queen_does) <;> lsm_bools))
theorem slider_does (w : World) (news : List (Addr × Obj)) (g : Addr) (f r : Nat) (S : Shape f r) (G : GeoIs news g f r) (k sq occ : Int) (t1 t2 t3 : Tok) (hk : k = 3 ∨ k = 4 ∨ k = 5) (hs0 : 0 ≤ sq) (hs1 : sq.toNat < f * r) (ho : 0 ≤ occ) :
    Gives w 148 8 [.ref g, .int k t1, .int sq t2, .int occ t3] news (fun v => ∃ t, v = .int ((pieceN f r 0 k.toNat sq.toNat occ.toNat : Nat) : Int) t) := by
  unfold Gives Does
  intro mean mg mb dp un gd' cn cs a ccd cl outer A₀ base h₀ L m s Q E B F X N T hkk hd hu hret
  have kM := kstMark
  refine wpAny_call ?_
  k_dflt cell_enter
  k_steps
  all_goals (refine hret _ _ _ _ (by assumption) (by assumption) ⟨rfl, ⟨_, congrArg (fun z => Value.int z _) ?_⟩⟩)
  all_goals (rcases hk with rfl | rfl | rfl <;> first | rfl | (exfalso; omega) | simp_all)
local macro_rules | `(tactic| tb_start) => `(tactic| ((with_reducible apply slider_does) <;> lsm_bools))
theorem piece_raw (w : World) (news : List (Addr × Obj)) (g : Addr) (f r : Nat) (S : Shape f r) (GI : GeoIs news g f r) (gd kg kn pw p0 p1 ps : Addr) (es : List DictEntry) (ng nk nn np ns : Nat) (kvs nvs svs : List Value) (ts t5 t6 t7 : Tok)
    (ig : (g, instObj 53 gd) ∈ news) (id : (gd, dictOf es ng) ∈ news) (gk : getL (Str.ofString "king") es = some (some (.ref kg))) (gn : getL (Str.ofString "knight") es = some (some (.ref kn))) (gp : getL (Str.ofString "pawn") es = some (some (.ref pw)))
    (ik : (kg, listOf kvs.toArray nk) ∈ news) (inn : (kn, listOf nvs.toArray nn) ∈ news) (ip : (pw, listOf [.ref p0, .ref p1].toArray np) ∈ news) (is : (ps, listOf svs.toArray ns) ∈ news)
    (side k sq occ : Int) (t0 t1 t2 t3 : Tok) (hsd : 0 ≤ side ∧ side ≤ 1) (hps : [Value.ref p0, Value.ref p1][side.toNat]? = some (.ref ps))
    (hkv : kvs[sq.toNat]? = some (.int ((kingN f r sq.toNat : Nat) : Int) t5)) (hnv : nvs[sq.toNat]? = some (.int ((knightN f r sq.toNat : Nat) : Int) t6)) (hsv : svs[sq.toNat]? = some (.int ((pawnN f r side.toNat sq.toNat : Nat) : Int) t7))
    (hk0 : 0 ≤ k) (hk : Kind k.toNat) (hs0 : 0 ≤ sq) (hs1 : sq.toNat < f * r) (hs2 : sq < 64) (ho : 0 ≤ occ) :
    Gives w 155 10 [.ref g, .int side t0, .int k t1, .int sq t2, .int occ t3] news (fun v => ∃ t, v = .int ((pieceN f r side.toNat k.toNat sq.toNat occ.toNat : Nat) : Int) t) := by
  unfold Kind at hk
  unfold Gives Does
  intro mean mg mb dp un gd' cn cs a ccd cl outer A₀ base h₀ L m s Q E B F X N T hkk hd hu hret
  have kM := kstMark
  refine wpAny_call ?_
  k_dflt cell_enter
  k_steps
  all_goals (refine hret _ _ _ _ (by assumption) (by assumption) ⟨rfl, ⟨_, congrArg (fun z => Value.int z _) ?_⟩⟩)
  all_goals (have hk' : k = 1 ∨ k = 2 ∨ k = 3 ∨ k = 4 ∨ k = 5 ∨ k = 6 := by omega)
  all_goals (rcases hk' with rfl | rfl | rfl | rfl | rfl | rfl <;> first | (exfalso; omega) | (unfold pieceN; simp; done))
theorem piece_does (w : World) (news : List (Addr × Obj)) (g : Addr) (f r : Nat) (S : Shape f r) (G : GeoIs news g f r) (side k sq occ : Int) (t0 t1 t2 t3 : Tok) (hsd : 0 ≤ side ∧ side ≤ 1) (hk0 : 0 ≤ k) (hk : Kind k.toNat) (hs0 : 0 ≤ sq) (hs1 : sq.toNat < f * r) (ho : 0 ≤ occ) :
    Gives w 155 10 [.ref g, .int side t0, .int k t1, .int sq t2, .int occ t3] news (fun v => ∃ t, v = .int ((pieceN f r side.toNat k.toNat sq.toNat occ.toNat : Nat) : Int) t) := by
  have GI := G
  obtain ⟨gd, es, ng, rs, nr, rvs, kg, nk, kvs, kn, nn, nvs, pw, np, p0, n0, v0, p1, n1, v1, ts, G⟩ := G
  obtain ⟨t5, e5⟩ := G.bk.get hs1
  obtain ⟨t6, e6⟩ := G.bn.get hs1
  have hz := S.size
  have hc : side = 0 ∨ side = 1 := by omega
  rcases hc with rfl | rfl
  · obtain ⟨t7, e7⟩ := G.b0.get hs1
    exact piece_raw w news g f r S GI gd kg kn pw p0 p1 p0 es ng nk nn np n0 kvs nvs v0 ts t5 t6 t7 G.ig G.id G.gk G.gn G.gp G.ik G.inn G.ip G.i0 0 k sq occ t0 t1 t2 t3 hsd rfl e5 e6 e7 hk0 hk hs0 hs1 (by omega) ho
  · obtain ⟨t7, e7⟩ := G.b1.get hs1
    exact piece_raw w news g f r S GI gd kg kn pw p0 p1 p1 es ng nk nn np n1 kvs nvs v1 ts t5 t6 t7 G.ig G.id G.gk G.gn G.gp G.ik G.inn G.ip G.i1 1 k sq occ t0 t1 t2 t3 hsd rfl e5 e6 e7 hk0 hk hs0 hs1 (by omega) ho
local macro_rules | `(tactic| k_mem) => `(tactic| (k_dflt (refine' mem_id ?_); ktr_member))
theorem trail_conv {w : World} {o' : Obj} {a b v : Value} (h : o'.IsDictOf (PySem.strKind PG w) (stored [(Str.ofString "row", a), (Str.ofString "at", b)] (Str.ofString "at") v)) : o'.IsDictOf (PySem.strKind PG w) [(Str.ofString "row", a), (Str.ofString "at", v)] := h
theorem fmod_lo {a b : Int} (h : 0 < b) : 0 ≤ a.fmod b := by rw [Int.fmod_eq_emod_of_nonneg _ (by omega)]; exact Int.emod_nonneg _ (by omega)
theorem fmod_hi {a b : Int} (h : 0 < b) : a.fmod b < b := by rw [Int.fmod_eq_emod_of_nonneg _ (by omega)]; exact Int.emod_lt_of_pos _ h
local macro_rules | `(tactic| walk_at "subscriptTail") => `(tactic| (k_here; (with_reducible show wpAny _ _ (subscriptTail _ _ (Value.ref _) (Value.int _ _)) _ _ _); (with_unfolding_all refine' my_item ?k1 ?k2 ?k3 ?k4 ?_ ?k6; (case k1 => (refine news_isList (by assumption) (by k_mem))); (case k4 => with_reducible assumption); (case k2 => omega); (case k3 => omega); (case k6 => with_unfolding_all rfl); k_whole)))
local macro_rules | `(tactic| walk_at "call builtin:len") => `(tactic| (k_here; (with_reducible show wpAny _ _ (call (Value.builtin "len") [Value.ref _]) _ _ _); (with_unfolding_all refine' my_len ?k1 ?k2 ?k3 ?_; (case k1 => (refine news_isList (by assumption) (by k_mem))); (case k2 => with_reducible assumption); (case k3 => omega); k_whole)))
local macro_rules | `(tactic| walk_at "setItem ref str") => `(tactic| (k_here; k_dflt (refine' kda_set (knd := PySem.strKind _ _) ?F ?N ?U ?d (strKind_is _ _ _ _) ?z ?_; (case F => k_asm); (case N => k_asm); (case U => (refine' UpdF.head ?a; (case a => assumption))); (case d => k_asm); (case z => rw [sizeLine_eq]; exact Nat.le_of_ble_eq_true (by with_unfolding_all rfl))); intro h' o' F' N' hd'; (replace hd' := trail_conv hd'); (try dsimp only at N')))
local macro_rules | `(tactic| walk_at "subscriptTail") => `(tactic| (k_here; ((with_reducible show wpAny _ _ (subscriptTail _ _ (Value.ref _) (Value.str _ _)) _ _ _); k_dflt (refine kda_item (knd := PySem.strKind _ _) (by k_asm) (by k_mem) (by k_asm) (strKind_is _ _ _ _) (by rfl) ?_))))
/-- the trail: where the script stands -/
abbrev TrailIs (w : World) (o : Obj) (row : Addr) (k : Int) (t : Tok) : Prop := o.IsDictOf (PySem.strKind PG w) [(Str.ofString "row", .ref row), (Str.ofString "at", .int k t)]
theorem hop_raw (w : World) (rest : List (Addr × Obj)) (td row : Addr) (o : Obj) (nr n : Nat) (vs : List Value) (ns : List Int) (k many : Int) (t tm : Tok) (hoff : ∀ p ∈ rest, p.1 ≠ td) (ho : o.IsDictOf (PySem.strKind PG w) [(Str.ofString "row", .ref row), (Str.ofString "at", .int k t)]) (hrow : (row, listOf vs.toArray nr) ∈ rest)
    (hi : IntsAre vs ns) (hn : vs.length = n) (hn63 : n ≤ 63) (h0 : 0 ≤ k) (hk : k ≤ 100) (hm : 1 ≤ many) (hsys : (td == sysModules) = false) :
    Does w 162 4 [.ref td, .int many tm] ((td, o) :: rest) (fun _ v news' => ∃ o' t', news' = (td, o') :: rest ∧ TrailIs w o' row (k + 1) t' ∧ ∃ x tx, v = .int x tx ∧ 0 ≤ x ∧ x < many) := by
  unfold Does
  intro mean mg mb dp un gd' cn cs a ccd cl outer A₀ base h₀ L m s Q E B F X N T hkk hd hu hret
  have hin : (td, o) ∈ (td, o) :: rest := List.Mem.head _
  refine wpAny_call ?_
  have kM := kstMark
  k_dflt cell_enter
  k_steps
  all_goals (exact hret _ _ _ _ (by assumption) (by assumption) ⟨_, _, rfl, (by assumption), _, _, rfl, fmod_lo (by omega), fmod_hi (by omega)⟩)
theorem Does.swap {w : World} {f : Addr} {need : Nat} {vs : List Value} {news news₁ : List (Addr × Obj)} {P P₁ : Nat → Value → List (Addr × Obj) → Prop} (C : Does w f need vs news₁ P₁) (h1 : ∀ p ∈ news₁, p ∈ news)
    (back : ∀ sz v n₁, P₁ sz v n₁ → ∃ n, (∀ p ∈ n, p ∈ n₁) ∧ P sz v n) : Does w f need vs news P := by
  unfold Does
  intro mean mg mb dp un gd' cn cs a ccd cl outer A₀ base h₀ L m s Q E B F X N T hkk hd hu hret
  refine C.use B F X (news_sub N h1) T hkk hd hu fun v n₁ h' tk' F' N' hP => ?_
  obtain ⟨n, hn, hP'⟩ := back _ _ _ hP
  exact hret v n h' tk' F' (news_sub N' hn) hP'
theorem hop_does (w : World) (news : List (Addr × Obj)) (gF : Obj → List (Addr × Obj)) (td row : Addr) (o : Obj) (nr n : Nat) (vs : List Value) (ns : List Int) (k many : Int) (t tm : Tok) (U : UpdF td o news gF) (ho : TrailIs w o row k t) (hrow : (row, listOf vs.toArray nr) ∈ news) (hrt : row ≠ td)
    (hi : IntsAre vs ns) (hn : vs.length = n) (hn63 : n ≤ 63) (h0 : 0 ≤ k) (hk : k ≤ 100) (hm : 1 ≤ many) (hsys : (td == sysModules) = false) :
    Does w 162 4 [.ref td, .int many tm] news (fun _ v news' => ∃ o' t', news' = gF o' ∧ TrailIs w o' row (k + 1) t' ∧ ∃ x tx, v = .int x tx ∧ 0 ≤ x ∧ x < many) := by
  obtain ⟨pre, post, rfl, hg, a, b⟩ := U.split
  have hoff : ∀ p ∈ pre ++ post, p.1 ≠ td := fun p hp => (List.mem_append.mp hp).elim (a p) (b p)
  have hrow' : (row, listOf vs.toArray nr) ∈ pre ++ post := by
    rcases List.mem_append.mp hrow with h | h
    · exact List.mem_append.mpr (.inl h)
    · rcases List.mem_cons.mp h with h | h
      · exact absurd (congrArg Prod.fst h) hrt
      · exact List.mem_append.mpr (.inr h)
  refine (hop_raw w (pre ++ post) td row o nr n vs ns k many t tm hoff ho hrow' hi hn hn63 h0 hk hm hsys).swap ?_ ?_
  · intro p hp
    rcases List.mem_cons.mp hp with rfl | hp
    · exact List.mem_append.mpr (.inr (.head _))
    · rcases List.mem_append.mp hp with h | h
      · exact List.mem_append.mpr (.inl h)
      · exact List.mem_append.mpr (.inr (.tail _ h))
  · rintro sz v n₁ ⟨o', t', rfl, h1, h2⟩
    refine ⟨gF o', ?_, o', t', rfl, h1, h2⟩
    rw [hg]
    intro p hp
    rcases List.mem_append.mp hp with h | h
    · exact List.mem_cons.mpr (.inr (List.mem_append.mpr (.inl h)))
    · rcases List.mem_cons.mp h with rfl | h
      · exact .head _
      · exact List.mem_cons.mpr (.inr (List.mem_append.mpr (.inr h)))
theorem UpdF.again {d : Addr} {o o' : Obj} {l : List (Addr × Obj)} {g : Obj → List (Addr × Obj)} (U : UpdF d o l g) : UpdF d o' (g o') g := by
  induction U with
  | head h => exact .head h
  | tail h _ ih => exact .tail h ih
theorem UpdF.stays {d : Addr} {o o' : Obj} {l : List (Addr × Obj)} {g : Obj → List (Addr × Obj)} (U : UpdF d o l g) : ∀ p ∈ l, p.1 ≠ d → p ∈ g o' := by
  induction U with
  | head h => intro p hp hne; rcases List.mem_cons.mp hp with rfl | hp; exact absurd rfl hne; exact .tail _ hp
  | tail h _ ih => intro p hp hne; rcases List.mem_cons.mp hp with rfl | hp; exact .head _; exact .tail _ (ih p hp hne)
local macro_rules | `(tactic| walk_at "pyIter ref") => `(tactic| (k_here; (with_reducible show wpAny _ _ (pyIter (Value.ref _)) (fun it s₂ => LoopAtV _ _ _ _ _ _ _ _ _ it s₂) _ _); (refine Hold.get ?_)))
local macro_rules | `(tactic| walk_at "TbEnd") => `(tactic| (refine Hold.get ?_))
local macro_rules | `(tactic| walk_at "call builtin:len") => `(tactic| (k_here; (with_reducible show wpAny _ _ (call (Value.builtin "len") [Value.ref _]) _ _ _); (with_unfolding_all refine' my_len (news_isList (by assumption) (by k_mem)) (by with_reducible assumption) (by omega) ?_; k_whole)))
local macro_rules | `(tactic| tb_start) => `(tactic| ((with_reducible apply piece_does) <;> lsm_bools))
theorem board_of {ys : List Value} {n : Nat} {F : Nat → Nat} (hI : IntsAre ys (List.map (fun k' : Int => ((F k'.toNat : Nat) : Int)) (rangeKs 0 (((n : Nat) : Int) - 0).toNat))) (hL : ys.length = (List.map (fun k' : Int => ((F k'.toNat : Nat) : Int)) (rangeKs 0 (((n : Nat) : Int) - 0).toNat)).length) : Board ys n F := by
  have e : (((n : Nat) : Int) - 0).toNat = n := by omega
  rw [e] at hI hL
  refine ⟨by rw [hL, List.length_map, rangeKs_length], fun q hq => hI.get q _ ?_⟩
  simp [rangeKs, hq]
theorem off1_ne {D : Addr} : ∀ {l : List (Addr × Obj)}, LCg.Off1 D l → ∀ p ∈ l, p.1 ≠ D
  | [], _, _, hp => nomatch hp
  | q :: r, h, p, hp => by
    rcases List.mem_cons.mp hp with rfl | hp
    · exact h.1
    · exact off1_ne h.2 p hp
theorem seen_c (w : World) (news : List (Addr × Obj)) (g : Addr) (f r : Nat) (S : Shape f r) (G : GeoIs news g f r) (side k occ : Int) (t0 t1 t3 : Tok) (hsd : 0 ≤ side ∧ side ≤ 1) (hk0 : 0 ≤ k) (hk : Kind k.toNat) (ho : 0 ≤ occ) :
    Does w 174 14 [.ref g, .int side t0, .int k t1, .int occ t3] news (fun sz v news' => ∃ l n vs, v = .ref l ∧ news' = (l, listOf vs.toArray n) :: news ∧ (∀ p ∈ news, p.1 ≠ l) ∧ Board vs (f * r) (fun q => pieceN f r side.toNat k.toNat q occ.toNat)) := by
  unfold Does
  intro mean mg mb dp un gd' cn cs a ccd cl outer A₀ base h₀ L m s Q E B F X N T hkk hd hu hret
  have G0 := G
  obtain ⟨gd, es, ng, rs, nr, rvs, kg, nk, kvs, kn, nn, nvs, pw, np, p0, n0, v0, p1, n1, v1, ts, G1⟩ := G
  have ig := G1.ig
  have id := G1.id
  have gs := G1.gs
  have hsz := S.size
  have hsz9 := S.size9
  refine wpAny_call ?_
  have kM := kstMark
  k_dflt (refine' code_defC ?k1 ?k2 ?k3 ?k4 ?k5 ?kA ?kF ?kK ?k6 ?k7 ?k8 ?k9 ?kB ?kD ?_ ?c2 ?c3 ?c4; (case kA => exact rfl); (case kF => exact rfl); (case kK => assumption); (case k1 => k_asm); (case k2 => k_asm); (case k3 => k_asm); (case k4 => k_asm); (case k5 => k_asm); (case k6 => k_is); (case k7 => k_is); (case k8 => ktr_room); (case k9 => exact BindsTo.of_eq rfl); (case kB => exact rfl); (case kD => decide +kernel); (case c2 => exact rfl); (case c3 => exact rfl); (case c4 => exact rfl); k_whole; intro g' L' h' tk' cells' FG' F' N' Y' B' X' T' l1)
  k_cells Y'
  simp only [List.cons_append, List.nil_append] at N'
  (try dsimp only); (try k_lift B'); (try k_fold)
  k_steps
  rename News h₀ L _ _ => kN9
  rename List Value => ys9
  rename IntsAre _ _ => hI9
  rename (_ = List.length _) => hL9
  rename (_ ∧ _ ∧ _ ∧ _ ∧ _) => hO9
  refine hret _ _ _ _ (by assumption) (news_sub kN9 ?sub) ⟨_, ys9.length, ys9, rfl, rfl, off1_ne hO9.2.2.2.2, board_of hI9 hL9⟩
  case sub =>
    intro p hp
    rcases List.mem_cons.mp hp with rfl | hp
    · exact .head _
    · exact .tail _ (.tail _ (.tail _ (.tail _ (.tail _ hp))))
/-- where the script lies -/
structure Way where
  td : Addr
  row : Addr
  nr : Nat
  n : Nat
  vs : List Value
  ns : List Int
def Way.Ok (R : Way) : Prop := R.row ≠ R.td ∧ IntsAre R.vs R.ns ∧ R.vs.length = R.n ∧ R.n ≤ 63 ∧ (R.td == sysModules) = false
structure Trail (w : World) (R : Way) (news : List (Addr × Obj)) (gF : Obj → List (Addr × Obj)) (o : Obj) (k : Int) : Prop where
  U : UpdF R.td o news gF
  row : (R.row, listOf R.vs.toArray R.nr) ∈ news
  ok : R.Ok
  is : ∃ t, TrailIs w o R.row k t
theorem updF_mem {d : Addr} {o : Obj} {l : List (Addr × Obj)} {g : Obj → List (Addr × Obj)} (U : UpdF d o l g) : (d, o) ∈ l := by
  induction U with
  | head h => exact .head _
  | tail h _ ih => exact .tail _ ih
theorem updF_app {d : Addr} {o : Obj} {l : List (Addr × Obj)} {g : Obj → List (Addr × Obj)} (U : UpdF d o l g) {own : List (Addr × Obj)} (h : ∀ p ∈ own, p.1 ≠ d) : UpdF d o (l ++ own) (fun o' => g o' ++ own) := by
  induction U with
  | head h' => exact .head fun p hp => (List.mem_append.mp hp).elim (h' p) (h p)
  | tail h' _ ih => exact .tail h' ih
theorem updF_addr {d : Addr} {o o' : Obj} {l : List (Addr × Obj)} {g : Obj → List (Addr × Obj)} (U : UpdF d o l g) : (g o').map (·.1) = l.map (·.1) := by
  induction U with
  | head h => rfl
  | tail h _ ih => simp only [List.map_cons, ih]
theorem Trail.app {w : World} {R : Way} {news : List (Addr × Obj)} {gF : Obj → List (Addr × Obj)} {o : Obj} {k : Int} (T : Trail w R news gF o k) {own : List (Addr × Obj)} (h : ∀ p ∈ own, p.1 ≠ R.td) : Trail w R (news ++ own) (fun o' => gF o' ++ own) o k :=
  ⟨updF_app T.U h, List.mem_append.mpr (.inl T.row), T.ok, T.is⟩
theorem Trail.cons {w : World} {R : Way} {news : List (Addr × Obj)} {gF : Obj → List (Addr × Obj)} {o : Obj} {k : Int} (T : Trail w R news gF o k) {q : Addr × Obj} (h : q.1 ≠ R.td) : Trail w R (q :: news) (fun o' => q :: gF o') o k :=
  ⟨.tail h T.U, .tail _ T.row, T.ok, T.is⟩
/-- the trail has moved on, the ledger as it was beside -/
theorem Trail.on {w : World} {R : Way} {news : List (Addr × Obj)} {gF : Obj → List (Addr × Obj)} {o₀ o : Obj} {k₀ k : Int} (T₀ : Trail w R news gF o₀ k₀) (h : ∃ t, TrailIs w o R.row k t) : Trail w R (gF o) gF o k :=
  ⟨UpdF.again T₀.U, UpdF.stays T₀.U _ T₀.row T₀.ok.1, T₀.ok, h⟩
theorem hop_c (w : World) (R : Way) (news : List (Addr × Obj)) (gF : Obj → List (Addr × Obj)) (o : Obj) (k many : Int) (tm : Tok) (TR : Trail w R news gF o k) (h0 : 0 ≤ k) (hk : k ≤ 100) (hm : 1 ≤ many) :
    Does w 162 4 [.ref R.td, .int many tm] news (fun _ v news' => ∃ o', news' = gF o' ∧ Trail w R (gF o') gF o' (k + 1) ∧ ∃ x tx, v = .int x tx ∧ 0 ≤ x ∧ x < many) := by
  obtain ⟨t, a⟩ := TR.is
  obtain ⟨c, d, e, f, g⟩ := TR.ok
  refine (hop_does w news gF R.td R.row o R.nr R.n R.vs R.ns k many t tm TR.U a TR.row c d e f h0 hk hm g).swap (fun _ h => h) ?_
  rintro sz v n₁ ⟨o', t', rfl, h1, h2⟩
  exact ⟨_, fun _ h => h, o', rfl, TR.on ⟨t', h1⟩, h2⟩
local macro_rules | `(tactic| tb_start) => `(tactic| ((with_reducible apply hop_c) <;> lsm_bools))
theorem or_shl_small {M x : Nat} (h : M < 2 ^ 25) (hx : x < 25) : M ||| 1 <<< x < 2 ^ 25 := by
  refine Nat.or_lt_two_pow h ?_
  rw [Nat.one_shiftLeft]
  exact Nat.pow_lt_pow_right (by decide) hx
theorem men_c (w : World) (R : Way) (news : List (Addr × Obj)) (gF : Obj → List (Addr × Obj)) (o : Obj) (k size : Int) (tm : Tok) (TR : Trail w R news gF o k) (h0 : 0 ≤ k) (hk : k ≤ 50) (hm : 1 ≤ size) (hm2 : size ≤ 25) :
    Does w 169 6 [.ref R.td, .int size tm] news (fun _ v news' => ∃ o' k', news' = gF o' ∧ Trail w R (gF o') gF o' k' ∧ k ≤ k' ∧ k' ≤ k + 7 ∧ ∃ (M : Nat) (tx : Tok), v = .int (M : Int) tx ∧ M < 2 ^ 25) := by
  unfold Does
  intro mean mg mb dp un gd' cn cs a ccd cl outer A₀ base h₀ L m s Q E B F X N T hk hd hu hret
  have kM := kstMark
  refine wpAny_call ?_
  k_dflt cell_enter
  k_steps
  refine ⟨?_⟩
  rename IsRange _ _ _ _ _ _ _ _ => rgX
  rename Fr _ _ _ _ => F1
  rename News _ _ _ _ => N1
  rename Trail _ _ _ _ _ _ => T1
  rename (_ < 7) => hx7
  rename ((0 : Int) ≤ _) => hx0
  refine' my_range (n := Int.toNat _) (fun c : Obj × Nat × Tok => gF c.1) (fun c => [(Str.ofString "men", .int ((c.2.1 : Nat) : Int) c.2.2)]) [] (fun i c => Trail w R (gF c.1) gF c.1 (k + 1 + (i : Int)) ∧ c.2.1 < 2 ^ 25) (_, 0, _) (by rfl) rgX (small_one (by omega) (by omega) (by omega) (by omega)) ?sz F1 N1 ?hkq ⟨by simpa using T1, Nat.two_pow_pos 25⟩ ?turn ?done
  case sz => rw [rangeSize_nat]
  case hkq => kst_all
  case turn =>
    rintro ⟨o1, M1, t1⟩ i t u h tk own hi hoff ⟨TR1, hM⟩ F2 N2
    dsimp only [kstB] at TR1 hM F2 N2 hoff
    have TR2 := TR1.app (fun p hp => hoff p hp _ (updF_mem TR1.U))
    try k_fold
    k_steps
    rename Trail _ _ _ _ _ _ => T3
    rename Fr _ _ _ _ => F3
    rename News _ _ _ _ => N3
    rename (_ < size) => hx
    rename ((0 : Int) ≤ _) => hx0
    rw [or_shl] at F3
    rename Obj => o9
    refine' ⟨my_end (o9, _, _) F3 N3 ?zm ?zo ?zf ?zj ?zk ?zs⟩
    case zk => kst_all
    case zm => exact fun p hp => List.mem_append.mpr (.inl hp)
    case zo => exact fun p hp => List.mem_append.mpr (.inr hp)
    case zf => exact off_addr hoff ((updF_addr TR.U).trans (updF_addr TR.U).symm)
    case zj => exact ⟨by have := TR.on T3.is; rw [show k + 1 + ((i + 1 : Nat) : Int) = k + 1 + (i : Int) + 1 by omega]; exact this, or_shl_small hM (by omega)⟩
    case zs => kst_same
  case done =>
    rintro ⟨o1, M1, t1⟩ u h tk ⟨TR1, hM⟩ F2 N2
    dsimp only [kstB] at TR1 hM F2 N2
    k_steps
    exact hret _ _ _ _ (by assumption) (by assumption) ⟨_, _, rfl, TR1, by omega, by omega, _, _, rfl, hM⟩
theorem mutual_raw (w : World) (news : List (Addr × Obj)) (la lb : Addr) (na nb n : Nat) (va vb : List Value) (FA FB : Nat → Nat) (hla : (la, listOf va.toArray na) ∈ news) (hlb : (lb, listOf vb.toArray nb) ∈ news) (BA : Board va n FA) (BB : Board vb n FB) (hn : n ≤ 25)
    (hm : ∀ a b, a < n → b < n → (FA a).testBit b = (FB b).testBit a) : Gives w 181 4 [.ref la, .ref lb] news (fun v => v = .bool true) := by
  have eA := BA.1
  have eB := BB.1
  unfold Gives Does
  intro mean mg mb dp un gd' cn cs a ccd cl outer A₀ base h₀ L m s Q E B F X N T hk hd hu hret
  have kM := kstMark
  refine wpAny_call ?_
  k_dflt cell_enter
  k_steps
  refine ⟨?_⟩
  rename IsRange _ _ _ _ _ _ _ _ => rgX
  rename Fr _ _ _ _ => F1
  rename News _ _ _ _ => N1
  refine' my_range (n := n) (fun _ : Unit => news) (fun _ => []) [Str.ofString "b"] (fun _ _ => True) () (by rfl) rgX (small_one (by omega) (by omega) (by omega) (by omega)) ?sz F1 N1 ?hkq trivial ?turn ?done
  case sz => rw [rangeSize_nat]; omega
  case hkq => kst_all
  case turn =>
    rintro _ i t u h tk own hi hoff _ F2 N2
    dsimp only [kstB] at F2 N2 hoff
    obtain ⟨ta, ea⟩ := BA.get hi
    try k_fold
    k_steps
    refine ⟨?_⟩
    rename IsRange _ _ _ _ _ _ _ _ => rgY
    rename Fr _ _ _ _ => F3
    rename News _ _ _ _ => N3
    refine' my_range (n := n) (fun _ : Unit => news ++ own) (fun _ => []) [] (fun _ _ => True) () (by rfl) rgY (small_one (by omega) (by omega) (by omega) (by omega)) ?zsz F3 N3 ?zhk trivial ?zturn ?zdone
    case zsz => rw [rangeSize_nat]; omega
    case zhk => kst_all
    case zturn =>
      rintro _ j t2 u2 h2 tk2 own2 hj hoff2 _ F4 N4
      dsimp only [kstB] at F4 N4 hoff2
      obtain ⟨tb, eb⟩ := BB.get hj
      have xi : ((0 : Int) + (i : Int) * 1).toNat = i := by omega
      have xj : ((0 : Int) + (j : Int) * 1).toNat = j := by omega
      rw [← xi] at ea
      rw [← xj] at eb
      have hla2 : (la, listOf va.toArray na) ∈ news ++ own ++ own2 := List.mem_append_left _ (List.mem_append_left _ hla)
      have hlb2 : (lb, listOf vb.toArray nb) ∈ news ++ own ++ own2 := List.mem_append_left _ (List.mem_append_left _ hlb)
      try k_fold
      k_steps
      · rename (_ ≠ _) => hne
        exact absurd (by rw [xi, xj, ask_eq, ask_eq, hm i j hi hj]) hne
      · refine' ⟨my_end () (by assumption) (by assumption) ?ym ?yo hoff2 trivial ?yk ?ys⟩
        case ym => exact fun p hp => List.mem_append_left _ hp
        case yo => exact fun p hp => List.mem_append_right _ hp
        case yk => kst_all
        case ys => kst_same
    case zdone =>
      rintro _ u3 h3 tk3 _ F4 N4
      dsimp only [kstB] at F4 N4
      k_steps
      refine' ⟨my_end () (by assumption) (by assumption) ?wm ?wo hoff trivial ?wk ?ws⟩
      case wm => exact fun p hp => List.mem_append_left _ hp
      case wo => exact fun p hp => List.mem_append_right _ hp
      case wk => kst_all
      case ws => kst_same
  case done =>
    rintro _ u h tk _ F2 N2
    dsimp only [kstB] at F2 N2
    k_steps
    exact hret _ _ _ _ (by assumption) (by assumption) ⟨rfl, rfl⟩
local macro_rules | `(tactic| k_lt $h:ident) => `(tactic| (replace $h := allLt_of $h; simp only [AllLt, and_true] at $h:ident; (repeat (have hz := And.left $h; replace $h := And.right $h))))
local macro_rules | `(tactic| k_ne) => `(tactic| (refine neN ?_; (try dsimp only); (first | exact Nat.ne_of_gt (by with_reducible assumption) | exact Nat.ne_of_lt (by with_reducible assumption))))
local macro_rules | `(tactic| walk_at "call ref") => `(tactic| (k_here; (with_reducible show wpAny _ _ (call (Value.ref 53) _) _ _ _); k_dflt (refine' call_cls ?k1 ?k2 ?k3 ?k4 ?k5 ?k6 ?_; (case k1 => k_asm); (case k2 => k_asm); (case k3 => k_asm); (case k4 => k_is); (case k5 => k_is); (case k6 => k_is); k_whole; intro x' d' h' F' N' l1 l2; (try k_lt l1); (try k_lt2 l2); (try k_sweep); (refine' code_def ?k1 ?k2 ?k3 ?k4 ?k5 ?kA ?kF ?kK ?k6 ?k7 ?k8 ?k9 ?kB ?_ ?c2 ?c3 ?c4 ?c5; (case kA => exact rfl); (case kF => exact rfl); (case kK => first | exact rfl | assumption); (case k1 => k_asm); (case k2 => k_asm); (case k3 => k_asm); (case k4 => k_asm); (case k5 => k_asm); (case k6 => k_is); (case k7 => k_is); (case k8 => ktr_room); (case k9 => exact BindsTo.of_eq rfl); (case c5 => decide); (case kB => exact locs rfl); (case c2 => exact rfl); (case c3 => exact rfl); (case c4 => exact rfl); k_whole; intro g' L' h' FG' F' N' B' X' T'; (try dsimp only); (try k_lift B'); (try k_fold)))))
theorem full_is (f r : Nat) : (1 : Int) * 2 ^ ((f : Int) * (r : Int)).toNat - 1 = ((fullN f r : Nat) : Int) := by
  have e : ((f : Int) * (r : Int)).toNat = f * r := by rw [← Int.natCast_mul]; rfl
  rw [e]
  have h := shl_nn 1 (f * r)
  rw [show ((1 : Nat) : Int) = 1 from rfl] at h
  rw [h]
  unfold fullN
  have : 1 ≤ 1 <<< (f * r) := by rw [Nat.one_shiftLeft]; exact Nat.one_le_two_pow
  omega
theorem geometry_c (w : World) (news : List (Addr × Obj)) (f r : Nat) (S : Shape f r) (t0 t1 : Tok) :
    Does w 53 6 [.int (f : Int) t0, .int (r : Int) t1, .bool false, .bool false] news (fun _ v news' => ∃ (a : GA) (g p0 p1 : Addr) (es : List DictEntry), v = .ref g ∧
      news' = (a.rl, listOf #[] 0) :: (a.ca, listOf #[] 0) :: (a.pw, listOf #[.ref p0, .ref p1] 0) :: (p1, listOf #[] 0) :: (p0, listOf #[] 0) :: (a.kn, listOf #[] 0) :: (a.kg, listOf #[] 0) :: (a.rs, listOf #[] 0) :: (a.rm, listOf #[] 0) :: (a.fm, listOf #[] 0) :: (g, instObj 53 a.gd) :: (a.gd, dictOf es 14) :: news ∧
      EsAre es (geoA f r a) ∧ AllLt a.gd news ∧ a.gd < g ∧ g < a.fm ∧ a.fm < a.rm ∧ a.rm < a.rs ∧ a.rs < a.kg ∧ a.kg < a.kn ∧ a.kn < p0 ∧ p0 < p1 ∧ p1 < a.pw ∧ a.pw < a.ca ∧ a.ca < a.rl) := by
  have f3 := S.f3
  have f5 := S.f5
  have r3 := S.r3
  have r5 := S.r5
  have hsz := S.size
  have hsz9 := S.size9
  unfold Does
  intro mean mg mb dp un gd' cn cs a ccd cl outer A₀ base h₀ L m s Q E B F X N T hk hd hu hret
  have kM := kstMark
  k_steps
  rename News h₀ L _ _ => kN9
  rename Fr h₀ L _ _ => kF9
  have hfull : (1 : Int) * 2 ^ ((f : Int) * (r : Int)).toNat - 1 = ((fullN f r : Nat) : Int) := full_is f r
  rw [hfull] at kN9
  refine' hret _ _ _ _ kF9 kN9 ⟨⟨_, _, _, _, _, _, _, _, _, _, _, _, _⟩, _, _, _, _, rfl, rfl, ?A, allLt_of (by assumption), ?o⟩
  case A => exact .cons _ _ _ _ (.cons _ _ _ _ (.cons _ _ _ _ (.cons _ _ _ _ (.cons _ _ _ _ (.cons _ _ _ _ (.cons _ _ _ _ (.cons _ _ _ _ (.cons _ _ _ _ (.cons _ _ _ _ (.cons _ _ _ _ (.cons _ _ _ _ (.cons _ _ _ _ (.cons _ _ _ _ .nil)))))))))))))
  case o => refine ⟨?_, ?_, ?_, ?_, ?_, ?_, ?_, ?_, ?_, ?_, ?_⟩ <;> (refine ltN ?_; (try dsimp only); omega)
local macro_rules | `(tactic| k_all) => `(tactic| with_reducible assumption)
local macro_rules | `(tactic| walk_at "binaryOp LShift int int") => `(tactic| (k_here; (with_reducible refine lshift_int_small ?kb1 ?kb2 ?kb3 ?_); (case kb1 => first | with_reducible assumption | omega); (case kb2 => first | with_reducible assumption | omega); (case kb3 => first | with_reducible assumption | decide | omega)))
theorem row_is (f : Nat) : (1 : Int) * 2 ^ ((f : Int)).toNat - 1 = ((rowN f : Nat) : Int) := by
  rw [toNat_nn]
  have h := shl_nn 1 f
  rw [show ((1 : Nat) : Int) = 1 from rfl] at h
  rw [h]
  unfold rowN
  have : 1 ≤ 1 <<< f := by rw [Nat.one_shiftLeft]; exact Nat.one_le_two_pow
  omega
theorem row_small {f r : Nat} (S : Shape f r) : ((rowN f : Nat) : Int).natAbs < 2 ^ 64 := by
  unfold rowN
  rw [Int.natAbs_natCast, Nat.one_shiftLeft]
  have : 2 ^ f ≤ 2 ^ 5 := Nat.pow_le_pow_right (by decide) S.f5
  omega
theorem col_all : shapes (fun f r => decide (colN f r < 2 ^ 25)) = true := by decide +kernel
theorem col_small {f r : Nat} (S : Shape f r) : ((colN f r : Nat) : Int).natAbs < 2 ^ 64 := by
  have := of_decide_eq_true (S.get col_all)
  rw [Int.natAbs_natCast]
  exact Nat.lt_trans this (by decide)
theorem prod_is (i f : Nat) : ((0 : Int) + (i : Int) * 1) * (f : Int) = ((i * f : Nat) : Int) := by rw [Int.zero_add, Int.mul_one, ← Int.natCast_mul]
theorem prod_le {i f r : Nat} (S : Shape f r) (h : i < r) : i * f ≤ 25 := Nat.le_trans (Nat.mul_le_mul (Nat.le_of_lt h) (Nat.le_refl _)) (by rw [Nat.mul_comm]; exact S.size)
theorem masks_c (w : World) (rest : List (Addr × Obj)) (f r : Nat) (S : Shape f r) (a : GA) (g : Addr) (es : List DictEntry) (A : EsAre es (geoA f r a)) (ig : (g, instObj 53 a.gd) ∈ rest) (id : (a.gd, dictOf es 14) ∈ rest)
    (hne : @LT.lt Nat _ a.fm a.rm) (h1 : ∀ p ∈ rest, p.1 ≠ a.rm) (h2 : ∀ p ∈ rest, p.1 ≠ a.fm) :
    Does w 71 6 [.ref g] ((a.rm, listOf #[] 0) :: (a.fm, listOf #[] 0) :: rest) (fun _ _ news' => ∃ (vr vf : List Value) (nr nf : Nat), news' = (a.rm, listOf vr.toArray nr) :: (a.fm, listOf vf.toArray nf) :: rest ∧
      Board vr r (fun i => rowN f <<< (i * f)) ∧ Board vf f (fun i => colN f r <<< i)) := by
  have f25 : f ≤ 25 := Nat.le_trans S.f5 (by decide)
  have r25 : r ≤ 25 := Nat.le_trans S.r5 (by decide)
  have hsz := S.size
  have hrow := row_is f
  have hrow64 : ((1 : Int) * 2 ^ ((f : Int)).toNat - 1).natAbs < 2 ^ 64 := by rw [hrow]; exact row_small S
  have GE := geoE A
  obtain ⟨gFiles, gRanks, gSize, gFull, gCast, gFm, gRm, gRays, gKing, gKnight, gPawn, gCa, gRi, gLen⟩ := GE
  obtain ⟨gd, fm, rm, rs, kg, kn, pw, ca, rl, t0, t1, t2, t3⟩ := a
  dsimp only at *
  unfold Does
  intro mean mg mb dp un gd' cn cs a ccd cl outer A₀ base h₀ L m s Q E B F X N T hk hd hu hret
  have kM := kstMark
  refine wpAny_call ?_
  k_dflt cell_enter
  k_steps
  refine ⟨?_⟩
  rename IsRange _ _ _ _ _ _ _ _ => rgX
  rename Fr _ _ _ _ => F1
  rename News _ _ _ _ => N1
  refine' my_range (n := r) (fun c : List Value × Nat × Nat × Tok => (rm, listOf c.1.toArray c.2.1) :: (fm, listOf #[] 0) :: rest) (fun c => [(Str.ofString "column", .int ((c.2.2.1 : Nat) : Int) c.2.2.2)]) [] (fun i c => Board c.1 i (fun q => rowN f <<< (q * f)) ∧ c.2.2.1 = colN f i) ([], 0, 0, _) (by rfl) rgX (small_one (by omega) (by omega) (by omega) (by omega)) ?sz F1 N1 ?hkq ⟨Board.nil, rfl⟩ ?turn ?done
  case sz => rw [rangeSize_nat]; omega
  case hkq => kst_all
  case turn =>
    rintro ⟨vr, nr, col, tc⟩ i t u h tk own hi hoff ⟨hB, hc⟩ F2 N2
    dsimp only [kstB] at hB hc F2 N2 hoff
    simp only [List.cons_append] at N2
    have a1 : ∀ p ∈ rest ++ own, p.1 ≠ rm := fun p hp => (List.mem_append.mp hp).elim (h1 p) fun hp => hoff p hp _ (.head _)
    have a2 : ∀ p ∈ rest ++ own, p.1 ≠ fm := fun p hp => (List.mem_append.mp hp).elim (h2 p) fun hp => hoff p hp _ (.tail _ (.head _))
    have b1 : (g, instObj 53 gd) ∈ rest ++ own := List.mem_append_left _ ig
    have b2 : (gd, dictOf es 14) ∈ rest ++ own := List.mem_append_left _ id
    have hlen := hB.1
    have hp := prod_is i f
    have hp2 := prod_le S hi
    have hs1 : 0 ≤ ((0 : Int) + (i : Int) * 1) * (f : Int) := by omega
    have hs2 : ((0 : Int) + (i : Int) * 1) * (f : Int) ≤ 1000000 := by omega
    try k_fold
    k_steps
    rename Fr _ _ _ _ => F3
    rename News _ _ _ _ => N3
    rw [hp, toNat_nn, or_shl] at F3
    rw [hrow, hp, toNat_nn, shl_nn, List.push_toArray] at N3
    refine' ⟨my_end (_, _, _, _) F3 N3 ?zm ?zo ?zf ⟨hB.push _ rfl, ?zj⟩ ?zk ?zs⟩
    case zk => kst_all
    case zm => exact mem2
    case zo => exact own2
    case zf => exact off_addr hoff rfl
    case zj => rw [hc]; rfl
    case zs => kst_same
  case done =>
    rintro ⟨vr, nr, col, tc⟩ u h tk ⟨hB, hc⟩ F2 N2
    dsimp only [kstB] at hB hc F2 N2
    subst hc
    have hcol := col_small S
    k_steps
    refine ⟨?_⟩
    rename IsRange _ _ _ _ _ _ _ _ => rgY
    rename Fr _ _ _ _ => F4
    rename News _ _ _ _ => N4
    refine' my_range (n := f) (fun c : List Value × Nat => (rm, listOf vr.toArray nr) :: (fm, listOf c.1.toArray c.2) :: rest) (fun _ => []) [] (fun i c => Board c.1 i (fun q => colN f r <<< q)) ([], 0) (by rfl) rgY (small_one (by omega) (by omega) (by omega) (by omega)) ?ysz F4 N4 ?yhk Board.nil ?yturn ?ydone
    case ysz => rw [rangeSize_nat]; omega
    case yhk => kst_all
    case yturn =>
      rintro ⟨vf, nf⟩ i t u h tk own hi hoff hB2 F2 N2
      dsimp only [kstB] at hB2 F2 N2 hoff
      simp only [List.cons_append] at N2
      have a1 : ∀ p ∈ rest ++ own, p.1 ≠ rm := fun p hp => (List.mem_append.mp hp).elim (h1 p) fun hp => hoff p hp _ (.head _)
      have a2 : ∀ p ∈ rest ++ own, p.1 ≠ fm := fun p hp => (List.mem_append.mp hp).elim (h2 p) fun hp => hoff p hp _ (.tail _ (.head _))
      have b1 : (g, instObj 53 gd) ∈ rest ++ own := List.mem_append_left _ ig
      have b2 : (gd, dictOf es 14) ∈ rest ++ own := List.mem_append_left _ id
      have hlen := hB2.1
      have xi : ((0 : Int) + (i : Int) * 1).toNat = i := by omega
      try k_fold
      k_steps
      rename Fr _ _ _ _ => F3
      rename News _ _ _ _ => N3
      rw [xi, shl_nn, List.push_toArray] at N3
      refine' ⟨my_end (_, _) F3 N3 ?xm ?xo ?xf (hB2.push _ rfl) ?xk ?xs⟩
      case xk => kst_all
      case xm => exact mem2
      case xo => exact own2
      case xf => exact off_addr hoff rfl
      case xs => kst_same
    case ydone =>
      rintro ⟨vf, nf⟩ u h tk hB2 F2 N2
      dsimp only [kstB] at hB2 F2 N2
      k_steps
      exact hret _ _ _ _ (by assumption) (by assumption) ⟨_, _, _, _, rfl, hB, hB2⟩
theorem or_0n' (b : Nat) : Builtin.bitOr 0 ((b : Nat) : Int) = ((0 ||| b : Nat) : Int) := or_nn 0 b
theorem inner_c (w : World) (news : List (Addr × Obj)) (f r : Nat) (S : Shape f r) {a : GA} (g : Addr) {es : List DictEntry} (A : EsAre es (geoA f r a)) (ig : (g, instObj 53 a.gd) ∈ news) (id : (a.gd, dictOf es 14) ∈ news)
    {vr vf : List Value} {nr nf : Nat} (ir : (a.rm, listOf vr.toArray nr) ∈ news) (iF : (a.fm, listOf vf.toArray nf) ∈ news) (Br : Board vr r (fun i => rowN f <<< (i * f))) (Bf : Board vf f (fun i => colN f r <<< i)) (d : Int) (td : Tok) (h0 : 0 ≤ d) (h8 : d < 8) :
    Gives w 78 4 [.ref g, .int d td] news (fun v => ∃ t, v = .int ((innerN f r d.toNat : Nat) : Int) t) := by
  have f3 := S.f3
  have f25 : f ≤ 25 := Nat.le_trans S.f5 (by decide)
  have r3 := S.r3
  have r25 : r ≤ 25 := Nat.le_trans S.r5 (by decide)
  obtain ⟨gFiles, gRanks, gSize, gFull, gCast, gFm, gRm, gRays, gKing, gKnight, gPawn, gCa, gRi, gLen⟩ := geoE A
  obtain ⟨gd, fm, rm, rs, kg, kn, pw, ca, rl, t0, t1, t2, t3⟩ := a
  dsimp only at *
  obtain ⟨u0, e0⟩ := Bf.get (q := 0) (by omega)
  obtain ⟨u1, e1⟩ := Bf.get (q := f - 1) (by omega)
  obtain ⟨u2, e2⟩ := Br.get (q := 0) (by omega)
  obtain ⟨u3, e3⟩ := Br.get (q := r - 1) (by omega)
  have xf : ((f : Int) - 1).toNat = f - 1 := by omega
  have xr : ((r : Int) - 1).toNat = r - 1 := by omega
  rw [← xf] at e1
  rw [← xr] at e3
  have e0' : vf[(0 : Int).toNat]? = _ := e0
  have e2' : vr[(0 : Int).toNat]? = _ := e2
  have hc : d = 0 ∨ d = 1 ∨ d = 2 ∨ d = 3 ∨ d = 4 ∨ d = 5 ∨ d = 6 ∨ d = 7 := by omega
  unfold Gives Does
  intro mean mg mb dp un gd' cn cs a ccd cl outer A₀ base h₀ L m s Q E B F X N T hk hd hu hret
  clear Br Bf e0 e2
  rcases hc with rfl | rfl | rfl | rfl | rfl | rfl | rfl | rfl
  all_goals have kM := kstMark
  all_goals refine wpAny_call ?_
  all_goals (k_dflt cell_enter)
  all_goals k_steps
  all_goals (refine hret _ _ _ _ (by assumption) (by assumption) ⟨rfl, ⟨_, congrArg (fun z => Value.int z _) ?_⟩⟩)
  all_goals (simp only [xf, xr, or_0n', or_nn, andnot_nn])
  all_goals (simp [innerN, edgeN, sF, sR])
theorem pawns_c (w : World) (rest : List (Addr × Obj)) (f r : Nat) (S : Shape f r) (a : GA) (g p0 p1 : Addr) (es : List DictEntry) (A : EsAre es (geoA f r a)) (ig : (g, instObj 53 a.gd) ∈ rest) (id : (a.gd, dictOf es 14) ∈ rest)
    (kvs rvs : List Value) (nk nrs np : Nat) (ik : (a.kg, listOf kvs.toArray nk) ∈ rest) (irs : (a.rs, listOf rvs.toArray nrs) ∈ rest) (ip : (a.pw, listOf [.ref p0, .ref p1].toArray np) ∈ rest) (BK : Board kvs (f * r) (kingN f r))
    (hD : ∀ d, d < 8 → ∃ rd nd ivs, rvs[d]? = some (.ref rd) ∧ (rd, listOf ivs.toArray nd) ∈ rest ∧ Board ivs (f * r) (rayN f r d))
    (hne : @LT.lt Nat _ p0 p1) (h1 : ∀ p ∈ rest, p.1 ≠ p0) (h2 : ∀ p ∈ rest, p.1 ≠ p1) :
    Does w 92 6 [.ref g] ((p0, listOf #[] 0) :: (p1, listOf #[] 0) :: rest) (fun _ _ news' => ∃ (v0 v1 : List Value) (n0 n1 : Nat), news' = (p0, listOf v0.toArray n0) :: (p1, listOf v1.toArray n1) :: rest ∧
      Board v0 (f * r) (pawnN f r 0) ∧ Board v1 (f * r) (pawnN f r 1)) := by
  have hsz := S.size
  obtain ⟨gFiles, gRanks, gSize, gFull, gCast, gFm, gRm, gRays, gKing, gKnight, gPawn, gCa, gRi, gLen⟩ := geoE A
  obtain ⟨gd, fm, rm, rs, kg, kn, pw, ca, rl, t0, t1, t2, t3⟩ := a
  dsimp only at *
  obtain ⟨r4, c4, w4, x4, y4, z4⟩ := hD 4 (by decide)
  obtain ⟨r5, c5, w5, x5, y5, z5⟩ := hD 5 (by decide)
  obtain ⟨r6, c6, w6, x6, y6, z6⟩ := hD 6 (by decide)
  obtain ⟨r7, c7, w7, x7, y7, z7⟩ := hD 7 (by decide)
  have x4' : rvs[(4 : Int).toNat]? = some (.ref r4) := x4
  have x5' : rvs[(5 : Int).toNat]? = some (.ref r5) := x5
  have x6' : rvs[(6 : Int).toNat]? = some (.ref r6) := x6
  have x7' : rvs[(7 : Int).toNat]? = some (.ref r7) := x7
  have y0 : [Value.ref p0, Value.ref p1][(0 : Int).toNat]? = some (.ref p0) := rfl
  have y1 : [Value.ref p0, Value.ref p1][(1 : Int).toNat]? = some (.ref p1) := rfl
  clear hD x4 x5 x6 x7
  unfold Does
  intro mean mg mb dp un gd' cn cs a ccd cl outer A₀ base h₀ L m s Q E B F X N T hk hd hu hret
  have kM := kstMark
  refine wpAny_call ?_
  k_dflt cell_enter
  k_steps
  refine ⟨?_⟩
  rename IsRange _ _ _ _ _ _ _ _ => rgX
  rename Fr _ _ _ _ => F1
  rename News _ _ _ _ => N1
  refine' my_range (n := f * r) (fun c : List Value × Nat × List Value × Nat => (p0, listOf c.1.toArray c.2.1) :: (p1, listOf c.2.2.1.toArray c.2.2.2) :: rest) (fun _ => []) [] (fun i c => Board c.1 i (pawnN f r 0) ∧ Board c.2.2.1 i (pawnN f r 1)) ([], 0, [], 0) (by rfl) rgX (small_one (by omega) (by omega) (by omega) (by omega)) ?sz F1 N1 ?hkq ⟨Board.nil, Board.nil⟩ ?turn ?done
  case sz => rw [rangeSize_nat] <;> omega
  case hkq => kst_all
  case turn =>
    rintro ⟨v0, n0, v1, n1⟩ i t u h tk own hi hoff ⟨hB0, hB1⟩ F2 N2
    dsimp only [kstB] at hB0 hB1 F2 N2 hoff
    simp only [List.cons_append] at N2
    have a1 : ∀ p ∈ rest ++ own, p.1 ≠ p0 := fun p hp => (List.mem_append.mp hp).elim (h1 p) fun hp => hoff p hp _ (.head _)
    have a2 : ∀ p ∈ rest ++ own, p.1 ≠ p1 := fun p hp => (List.mem_append.mp hp).elim (h2 p) fun hp => hoff p hp _ (.tail _ (.head _))
    have b1 : (g, instObj 53 gd) ∈ rest ++ own := List.mem_append_left _ ig
    have b2 : (gd, dictOf es 14) ∈ rest ++ own := List.mem_append_left _ id
    have b3 : (kg, listOf kvs.toArray nk) ∈ rest ++ own := List.mem_append_left _ ik
    have b4 : (rs, listOf rvs.toArray nrs) ∈ rest ++ own := List.mem_append_left _ irs
    have b5 : (pw, listOf [.ref p0, .ref p1].toArray np) ∈ rest ++ own := List.mem_append_left _ ip
    have b6 : (r4, listOf w4.toArray c4) ∈ rest ++ own := List.mem_append_left _ y4
    have b7 : (r5, listOf w5.toArray c5) ∈ rest ++ own := List.mem_append_left _ y5
    have b8 : (r6, listOf w6.toArray c6) ∈ rest ++ own := List.mem_append_left _ y6
    have b9 : (r7, listOf w7.toArray c7) ∈ rest ++ own := List.mem_append_left _ y7
    have hlen0 := hB0.1
    have hlen1 := hB1.1
    have xi : ((0 : Int) + (i : Int) * 1).toNat = i := by omega
    obtain ⟨s0, e0⟩ := BK.get hi
    obtain ⟨s4, e4⟩ := z4.get hi
    obtain ⟨s5, e5⟩ := z5.get hi
    obtain ⟨s6, e6⟩ := z6.get hi
    obtain ⟨s7, e7⟩ := z7.get hi
    have e0' := idx xi e0
    have e4' := idx xi e4
    have e5' := idx xi e5
    have e6' := idx xi e6
    have e7' := idx xi e7
    try k_fold
    k_steps
    rename Fr _ _ _ _ => F3
    rename News _ _ _ _ => N3
    simp only [or_nn, and_nn, List.push_toArray] at N3
    refine' ⟨my_end (_, _, _, _) F3 N3 ?zm ?zo ?zf ⟨hB0.push _ ?zp, hB1.push _ ?zq⟩ ?zk ?zs⟩
    case zk => kst_all
    case zm => exact mem2
    case zo => exact own2
    case zf => exact off_addr hoff rfl
    case zp => rfl
    case zq => rfl
    case zs => kst_same
  case done =>
    rintro ⟨v0, n0, v1, n1⟩ u h tk ⟨hB0, hB1⟩ F2 N2
    dsimp only [kstB] at hB0 hB1 F2 N2
    k_steps
    exact hret _ _ _ _ (by assumption) (by assumption) ⟨_, _, _, _, rfl, hB0, hB1⟩
section
local macro_rules | `(tactic| walk_at "binaryOp LShift int int") => `(tactic| (k_here; (with_reducible refine st_shl ?kb1 ?kb2 ?kb3 ?_); (case kb1 => first | with_reducible assumption | omega); (case kb2 => first | with_reducible assumption | omega); (case kb3 => first | with_reducible assumption | exact two_small (by with_reducible assumption) (by with_reducible assumption))))
local macro_rules | `(tactic| walk_at "binaryOp LShift int int") => `(tactic| (k_here; (with_reducible refine st_shl1 ?kb1 ?kb2 ?_); (case kb1 => first | with_reducible assumption | omega); (case kb2 => first | with_reducible assumption | omega)))
local macro_rules | `(tactic| walk_at "binaryOp RShift int int") => `(tactic| (k_here; (with_reducible refine st_shr ?kb1 ?_); (case kb1 => first | with_reducible assumption | omega)))
local macro_rules | `(tactic| walk_at "binaryOp BitOr int int") => `(tactic| (k_here; (with_reducible refine st_or ?_)))
local macro_rules | `(tactic| walk_at "binaryOp BitAnd int int") => `(tactic| (k_here; (first | with_reducible refine st_and ?_ | with_reducible refine st_andnot ?_)))
theorem knights_c (w : World) (rest : List (Addr × Obj)) (f r : Nat) (S : Shape f r) (a : GA) (g : Addr) (es : List DictEntry) (A : EsAre es (geoA f r a)) (ig : (g, instObj 53 a.gd) ∈ rest) (id : (a.gd, dictOf es 14) ∈ rest)
    (vf : List Value) (nf : Nat) (iF : (a.fm, listOf vf.toArray nf) ∈ rest) (Bf : Board vf f (fun i => colN f r <<< i)) (h1 : ∀ p ∈ rest, p.1 ≠ a.kn) :
    Does w 99 6 [.ref g] ((a.kn, listOf #[] 0) :: rest) (fun _ _ news' => ∃ (v0 : List Value) (n0 : Nat), news' = (a.kn, listOf v0.toArray n0) :: rest ∧ Board v0 (f * r) (knightN f r)) := by
  have hsz := S.size
  have f3 := S.f3
  have f25 : f ≤ 25 := Nat.le_trans S.f5 (by decide)
  obtain ⟨gFiles, gRanks, gSize, gFull, gCast, gFm, gRm, gRays, gKing, gKnight, gPawn, gCa, gRi, gLen⟩ := geoE A
  obtain ⟨gd, fm, rm, rs, kg, kn, pw, ca, rl, t0, t1, t2, t3⟩ := a
  dsimp only at *
  obtain ⟨u0, e0⟩ := Bf.get (q := 0) (by omega)
  obtain ⟨u1, e1⟩ := Bf.get (q := f - 1) (by omega)
  obtain ⟨u2, e2⟩ := Bf.get (q := 1) (by omega)
  obtain ⟨u3, e3⟩ := Bf.get (q := f - 2) (by omega)
  have xf1 : ((f : Int) - 1).toNat = f - 1 := by omega
  have xf2 : ((f : Int) - 2).toNat = f - 2 := by omega
  have e0' : vf[(0 : Int).toNat]? = _ := e0
  have e2' : vf[(1 : Int).toNat]? = _ := e2
  have e1' := idx xf1 e1
  have e3' := idx xf2 e3
  have hF := full_small S
  have m1 : fullN f r ^^^ (fullN f r &&& colN f r <<< 0) < 2 ^ 64 := less_small hF
  have m2 : fullN f r ^^^ (fullN f r &&& colN f r <<< (f - 1)) < 2 ^ 64 := less_small hF
  have m3 : (fullN f r ^^^ (fullN f r &&& colN f r <<< 0)) ^^^ ((fullN f r ^^^ (fullN f r &&& colN f r <<< 0)) &&& colN f r <<< 1) < 2 ^ 64 := less_small m1
  have m4 : (fullN f r ^^^ (fullN f r &&& colN f r <<< (f - 1))) ^^^ ((fullN f r ^^^ (fullN f r &&& colN f r <<< (f - 1))) &&& colN f r <<< (f - 2)) < 2 ^ 64 := less_small m2
  clear e0 e1 e2 e3 Bf
  unfold Does
  intro mean mg mb dp un gd' cn cs a ccd cl outer A₀ base h₀ L m s Q E B F X N T hk hd hu hret
  have kM := kstMark
  refine wpAny_call ?_
  k_dflt cell_enter
  k_steps
  refine ⟨?_⟩
  rename IsRange _ _ _ _ _ _ _ _ => rgX
  rename Fr _ _ _ _ => F1
  rename News _ _ _ _ => N1
  refine' my_range (n := f * r) (fun c : List Value × Nat => (kn, listOf c.1.toArray c.2) :: rest) (fun _ => []) [Str.ofString "b", Str.ofString "near", Str.ofString "far", Str.ofString "found"] (fun i c => Board c.1 i (knightN f r)) ([], 0) (by rfl) rgX (small_one (by omega) (by omega) (by omega) (by omega)) ?sz F1 N1 ?hkq Board.nil ?turn ?done
  case sz => rw [rangeSize_nat] <;> omega
  case hkq => kst_all
  case turn =>
    rintro ⟨v0, n0⟩ i t u h tk own hi hoff hB0 F2 N2
    dsimp only [kstB] at hB0 F2 N2 hoff
    simp only [List.cons_append] at N2
    have a1 : ∀ p ∈ rest ++ own, p.1 ≠ kn := fun p hp => (List.mem_append.mp hp).elim (h1 p) fun hp => hoff p hp _ (.head _)
    have b1 : (g, instObj 53 gd) ∈ rest ++ own := List.mem_append_left _ ig
    have b2 : (gd, dictOf es 14) ∈ rest ++ own := List.mem_append_left _ id
    have hlen0 := hB0.1
    have xi : ((0 : Int) + (i : Int) * 1).toNat = i := by omega
    have hone : 1 <<< ((0 : Int) + (i : Int) * 1).toNat < 2 ^ 64 := one_small (by omega)
    have x2 : ((2 : Int) * (f : Int)).toNat = 2 * f := by omega
    try k_fold
    k_steps
    rename Fr _ _ _ _ => F3
    rename News _ _ _ _ => N3
    simp only [xi, x2, toNat_nn, List.push_toArray] at N3
    refine' ⟨my_end (_, _) F3 N3 ?zm ?zo ?zf (hB0.push _ ?zp) ?zk ?zs⟩
    case zk => kst_all
    case zm => exact mem1
    case zo => exact own1
    case zf => exact off_addr hoff rfl
    case zp => rfl
    case zs => kst_same
  case done =>
    rintro ⟨v0, n0⟩ u h tk hB0 F2 N2
    dsimp only [kstB] at hB0 F2 N2
    k_steps
    exact hret _ _ _ _ (by assumption) (by assumption) ⟨_, _, rfl, hB0⟩
end
local macro_rules | `(tactic| walk_at "subscriptTail Name Name ref int") => `(tactic| (k_here; (with_reducible show wpAny _ _ (subscriptTail _ _ (Value.ref _) (Value.int _ _)) _ _ _); (with_unfolding_all refine' my_item (news_isList (by assumption) (by k_mem)) (by omega) (by omega) (by with_reducible assumption) ?_ (by with_unfolding_all rfl); k_whole)))
local macro_rules | `(tactic| walk_at "setAttr ref") => `(tactic| (k_here; (with_reducible show wpAny _ _ (setAttr (Value.ref _) _ _) _ _ _); (refine Hold.get ?_)))
local macro_rules | `(tactic| walk_at "binaryOp Mult ref int") => `(tactic| (k_here; (with_reducible show wpAny _ _ (binaryOp Operator.Mult (Value.ref _) (Value.int _ _)) _ _ _); (refine Hold.get ?_)))
local macro_rules | `(tactic| walk_at "setItem ref int") => `(tactic| (k_here; (with_reducible show wpAny _ _ (setItem (Value.ref _) (Value.int _ _) _) _ _ _); k_dflt (refine' my_set ?k1 ?k2 ?k3 ?k4 ?k5 ?k6 ?_; (case k1 => k_asm); (case k2 => k_asm); (case k3 => k_upd); (case k4 => first | with_reducible assumption | omega); (case k5 => first | with_reducible assumption | omega); (case k6 => omega); k_whole); intro h' F' N'; (try k_sweep)))
local macro_rules | `(tactic| walk_at "getItem ref int") => `(tactic| (k_here; (with_reducible show wpAny _ _ (getItem (Value.ref _) (Value.int _ _)) _ _ _); (with_unfolding_all refine' my_get (news_isList (by assumption) (by k_mem)) (by first | with_reducible assumption | omega) (by omega) (by with_reducible assumption) ?_; k_whole)))
local macro_rules | `(tactic| tb_start) => `(tactic| ((with_reducible apply inner_c) <;> lsm_bools))
local macro_rules | `(tactic| walk_at "call type:range") => `(tactic| (k_here; (with_reducible show wpAny _ _ (call (Value.type "range") [Value.int (Nat.cast _) _]) _ _ _); k_dflt (refine' range1_N ?k1 ?k2 ?_; (case k1 => k_asm); (case k2 => k_asm); k_whole); intro r' h' tk' t1' v1' F' N' l1; (try k_lt l1); (try k_sweep)))
local macro_rules | `(tactic| walk_at "call type:range") => `(tactic| (k_here; (with_reducible show wpAny _ _ (call (Value.type "range") [Value.int _ _, Value.int _ _, Value.int _ _]) _ _ _); k_dflt (refine' range3_N ?k1 ?k2 ?k3 ?k4 ?_; (case k1 => k_asm); (case k2 => k_asm); (case k3 => decide); (case k4 => exact PyProof.noPylong_small (by omega)); k_whole); intro r' h' tk' F' N' l1; (try k_lt l1); (try k_sweep)))
local macro_rules | `(tactic| walk_at "exec For Name Name cons nil") => `(tactic| (k_here; (rename Fr _ _ _ _ => lF'); (with_unfolding_all refine' For_invVF lF' ?k1 ?k2 ?_; (case k1 => exact rfl); (case k2 => exact rfl); k_whole)))
theorem perm1 (a t d b : Addr × Obj) (l : List (Addr × Obj)) : ∀ p ∈ a :: b :: ([] ++ (d :: l)), p ∈ a :: t :: d :: b :: l := by
  intro p hp
  simp only [List.nil_append, List.mem_cons] at hp ⊢
  rcases hp with h | h | h | h <;> simp [h]
theorem rays_c (w : World) (rest : List (Addr × Obj)) (f r : Nat) (S : Shape f r) (a : GA) (g : Addr) (es : List DictEntry) (A : EsAre es (geoA f r a)) (ig : (g, instObj 53 a.gd) ∈ rest)
    (vr vf : List Value) (nr nf : Nat) (ir : (a.rm, listOf vr.toArray nr) ∈ rest) (iF : (a.fm, listOf vf.toArray nf) ∈ rest) (Br : Board vr r (fun i => rowN f <<< (i * f))) (Bf : Board vf f (fun i => colN f r <<< i))
    (hne : @LT.lt Nat _ a.gd a.rs) (h1 : ∀ p ∈ rest, p.1 ≠ a.gd) (h2 : ∀ p ∈ rest, p.1 ≠ a.rs) :
    Does w 85 10 [.ref g] ((a.gd, dictOf es 14) :: (a.rs, listOf #[] 0) :: rest) (fun _ _ news' => ∃ (kg : Addr) (es' : List DictEntry) (kvs rvs : List Value) (nk nrs : Nat) (rays : List (Addr × Obj)), news' = (kg, listOf kvs.toArray nk) :: (a.rs, listOf rvs.toArray nrs) :: (rays ++ ((a.gd, dictOf es' 14) :: rest)) ∧
      EsAre es' (geoA f r { a with kg := kg }) ∧ (∀ p ∈ rest, @LT.lt Nat _ p.1 kg) ∧ (@LT.lt Nat _ a.gd kg) ∧ (@LT.lt Nat _ a.rs kg) ∧ (∀ p ∈ rays, @LT.lt Nat _ kg p.1) ∧ Board kvs (f * r) (kingN f r) ∧ (∀ d, d < 8 → ∃ rd nd ivs, rvs[d]? = some (.ref rd) ∧ (rd, listOf ivs.toArray nd) ∈ rays ∧ Board ivs (f * r) (rayN f r d))) := by
  have f25 : f ≤ 25 := Nat.le_trans S.f5 (by decide)
  have r25 : r ≤ 25 := Nat.le_trans S.r5 (by decide)
  have hsz := S.size
  have hsz9 := S.size9
  have GE := geoE A
  obtain ⟨gFiles, gRanks, gSize, gFull, gCast, gFm, gRm, gRays, gKing, gKnight, gPawn, gCa, gRi, gLen⟩ := GE
  obtain ⟨gd, fm, rm, rs, kg₀, kn, pw, ca, rl, t0, t1, t2, t3⟩ := a
  dsimp only at *
  unfold Does
  intro mean mg mb dp un gd' cn cs a ccd cl outer A₀ base h₀ L m s Q E B F X N T hk hd hu hret
  have kM := kstMark
  refine wpAny_call ?_
  k_dflt cell_enter
  k_steps
  refine ⟨?_⟩
  rename Fr _ _ _ _ => F0
  rename News _ _ _ _ => N0
  with_unfolding_all refine zeros_N F0 N0 (by k_mem) hsz ?_
  intro kg hK zs BZ FK NK lK
  have q1 : @LT.lt Nat _ gd kg := lK (gd, dictOf es 14) (.tail _ (.head _))
  have q2 : @LT.lt Nat _ rs kg := lK (rs, listOf #[] 0) (.tail _ (.tail _ (.head _)))
  have k0 : ∀ p ∈ rest, @LT.lt Nat _ p.1 kg := fun p hp => lK p (.tail _ (.tail _ (.tail _ hp)))
  have k1 : ∀ p ∈ rest, p.1 ≠ kg := fun p hp => Nat.ne_of_lt (k0 p hp)
  try k_fold
  k_steps
  refine ⟨?_⟩
  rename Fr _ _ _ _ => F1
  rename News _ _ _ _ => N1
  have hs14 : es.length ≤ 1000 := by omega
  k_dflt (refine' my_setattr ?k1 ?k2 ?k3 ?k4 ?k5 ?k6 ?k7 ?k8 ?k9 A rfl hs14 ?k10 ?_; (case k1 => k_asm); (case k2 => k_asm); (case k3 => k_asm); (case k4 => k_inst); (case k5 => exact rfl); (case k6 => k_is); (case k7 => k_is); (case k8 => k_is); (case k9 => k_is); (case k10 => k_updF))
  intro hA es' A1 F2 N2
  have A3 : EsAre es' (geoA f r ⟨gd, fm, rm, rs, kg, kn, pw, ca, rl, t0, t1, t2, t3⟩) := geo_king A1
  clear A1
  obtain ⟨gFiles, gRanks, gSize, gFull, gCast, gFm, gRm, gRays, gKing, gKnight, gPawn, gCa, gRi, gLen⟩ := geoE A3
  dsimp only at *
  try k_fold
  k_steps
  refine ⟨?_⟩
  rename Fr _ _ _ _ => F3
  rename News _ _ _ _ => N3
  rename IsRange _ _ _ _ _ _ _ _ => rgX
  have N4 : News _ _ _ ((kg, listOf zs.toArray 0) :: (rs, listOf ([] : List Value).toArray 0) :: ([] ++ ((gd, dictOf es' 14) :: rest))) := news_sub N3 (perm1 _ _ _ _ _)
  refine' my_range (n := 8) (fun c : List Value × Nat × List Value × Nat × List (Addr × Obj) => (kg, listOf c.1.toArray c.2.1) :: (rs, listOf c.2.2.1.toArray c.2.2.2.1) :: (c.2.2.2.2 ++ ((gd, dictOf es' 14) :: rest))) (fun _ => []) [Str.ofString "inner", Str.ofString "delta", Str.ofString "ray", Str.ofString "order", Str.ofString "square", Str.ofString "goal"]
    (fun i c => Board c.1 (f * r) (fun q => kingTo f r q i) ∧ c.2.2.1.length = i ∧ (∀ p ∈ c.2.2.2.2, @LT.lt Nat _ kg p.1) ∧ (∀ d, d < i → ∃ rd nd ivs, c.2.2.1[d]? = some (.ref rd) ∧ (rd, listOf ivs.toArray nd) ∈ c.2.2.2.2 ∧ Board ivs (f * r) (rayN f r d)))
    (zs, 0, [], 0, []) (by rfl) rgX (by decide) (by rfl) F3 N4 ?hkq ⟨BZ.congr fun _ _ => rfl, rfl, fun _ h => (nomatch h), fun d h => absurd h (Nat.not_lt_zero d)⟩ ?turn ?done
  case hkq => kst_all
  case turn =>
    rintro ⟨kvs, nk, rvs, nrv, rays⟩ i t u h tk own hi hoff ⟨hK, hL, hR, hD⟩ F5 N5
    dsimp only [kstB] at hK hL hR hD F5 N5 hoff
    have xi : ((0 : Int) + (i : Int) * 1).toNat = i := by omega
    obtain ⟨rest2, hr2⟩ : ∃ x, x = (rays ++ ((gd, dictOf es' 14) :: rest)) ++ own := ⟨_, rfl⟩
    simp only [List.cons_append] at N5
    rw [← hr2] at N5
    have a1 : ∀ p ∈ rest2, p.1 ≠ kg := by
      intro p hp
      rw [hr2] at hp
      rcases List.mem_append.mp hp with hp | hp
      · rcases List.mem_append.mp hp with hp | hp
        · exact Nat.ne_of_gt (hR p hp)
        · rcases List.mem_cons.mp hp with rfl | hp
          · exact Nat.ne_of_lt q1
          · exact k1 p hp
      · exact hoff p hp _ (.head _)
    have a2 : ∀ p ∈ rest2, p.1 ≠ rs := by
      intro p hp
      rw [hr2] at hp
      rcases List.mem_append.mp hp with hp | hp
      · rcases List.mem_append.mp hp with hp | hp
        · exact Nat.ne_of_gt (Nat.lt_trans q2 (hR p hp))
        · rcases List.mem_cons.mp hp with rfl | hp
          · exact Nat.ne_of_lt hne
          · exact h2 p hp
      · exact hoff p hp _ (.tail _ (.head _))
    have b0 : ∀ p ∈ (gd, dictOf es' 14) :: rest, p ∈ rest2 := fun p hp => by rw [hr2]; exact List.mem_append_left _ (List.mem_append_right _ hp)
    have b1 : (g, instObj 53 gd) ∈ rest2 := b0 _ (.tail _ ig)
    have b2 : (gd, dictOf es' 14) ∈ rest2 := b0 _ (.head _)
    have b3 : (rm, listOf vr.toArray nr) ∈ rest2 := b0 _ (.tail _ ir)
    have b4 : (fm, listOf vf.toArray nf) ∈ rest2 := b0 _ (.tail _ iF)
    try k_fold
    k_steps
    refine ⟨?_⟩
    rename Fr _ _ _ _ => F6
    rename News _ _ _ _ => N6
    with_unfolding_all refine zeros_N F6 N6 (by k_mem) hsz ?_
    intro ray hRy zr BZr F7 N7 l7
    have q3 : @LT.lt Nat _ kg ray := l7 (kg, _) (.tail _ (.head _))
    have q4 : @LT.lt Nat _ rs ray := l7 (rs, _) (.tail _ (.tail _ (.head _)))
    have k3 : ∀ p ∈ rest2, p.1 < ray := fun p hp => l7 p (.tail _ (.tail _ (.tail _ hp)))
    try k_fold
    k_steps
    · refine ⟨?_⟩
      rename (grows _ = true) => hg
      have hg' : growN i = true := by unfold grows at hg; rw [grows_is _ (by omega) (by omega), xi] at hg; exact hg
      rename Fr _ _ _ _ => F8
      rename News _ _ _ _ => N8
      have rgY := range_of N8 (.head _)
      have N9 : News _ _ _ ((ray, listOf zr.toArray 0) :: (kg, listOf kvs.toArray nk) :: ((rs, listOf rvs.toArray nrv) :: rest2)) := news_sub N8 (by intro p hp; simp only [List.mem_cons] at hp ⊢; rcases hp with h | h | h | h <;> simp [h])
      refine' my_range (n := f * r) (fun c : List Value × Nat × List Value × Nat => (ray, listOf c.1.toArray c.2.1) :: (kg, listOf c.2.2.1.toArray c.2.2.2) :: ((rs, listOf rvs.toArray nrv) :: rest2)) (fun _ => []) [Str.ofString "goal"] (fun k c => Board c.1 (f * r) (RF f r i k) ∧ Board c.2.2.1 (f * r) (KF f r i k)) (zr, 0, kvs, nk) (by rfl) rgY (small_down (by omega) (by omega) (by omega) (by omega)) ?dwsz F8 N9 ?dwhk ⟨startR BZr, startK hK⟩ ?dwturn ?dwdone
      case dwsz => rw [rangeSize_downNat] <;> omega
      case dwhk => kst_all
      case dwturn =>
        rintro ⟨ivs, ni, kvs2, nk2⟩ k t2 u2 h2 tk2 own2 hk hoff2 ⟨hIB, hKB⟩ F10 N10
        dsimp only [kstB] at hIB hKB F10 N10 hoff2
        simp only [List.cons_append] at N10
        have c1 : ∀ p ∈ rest2 ++ own2, p.1 ≠ ray := fun p hp => (List.mem_append.mp hp).elim (fun hp => Nat.ne_of_lt (k3 p hp)) fun hp => hoff2 p hp _ (.head _)
        have c2 : ∀ p ∈ rest2 ++ own2, p.1 ≠ kg := fun p hp => (List.mem_append.mp hp).elim (a1 p) fun hp => hoff2 p hp _ (.tail _ (.head _))
        have d1 : (g, instObj 53 gd) ∈ rest2 ++ own2 := List.mem_append_left _ b1
        have d2 : (gd, dictOf es' 14) ∈ rest2 ++ own2 := List.mem_append_left _ b2
        have hlenI := hIB.1
        have hlenK := hKB.1
        have hsl := sq_lt (d := i) hk
        have hsq : (((f * r : Nat) : Int) - 1 + (k : Int) * (-1)) = ((sqN (f * r) i k : Nat) : Int) := by unfold sqN; rw [hg']; simp <;> omega
        have s0 : 0 ≤ (((f * r : Nat) : Int) - 1 + (k : Int) * (-1)) := by omega
        have s1 : ((((f * r : Nat) : Int) - 1 + (k : Int) * (-1))).toNat < f * r := by omega
        obtain ⟨ts, e2⟩ := hKB.get hsl
        rw [kf_here hk] at e2
        have e2' : kvs2[((((f * r : Nat) : Int) - 1 + (k : Int) * (-1))).toNat]? = some (.int ((kingTo f r (sqN (f * r) i k) i : Nat) : Int) ts) := by rw [hsq]; exact e2
        cases hb : (innerN f r i).testBit (sqN (f * r) i k) with
        | true =>
          have hbit : (Builtin.bitAnd (((innerN f r ((0 : Int) + (i : Int) * 1).toNat : Nat) : Int).fdiv (2 ^ ((((f * r : Nat) : Int) - 1 + (k : Int) * (-1))).toNat)) 1 != 0) = true := by rw [xi, hsq, toNat_nn, ask_eq, hb]; rfl
          have hgo := goal_ok S hi hsl hb
          have hG : (((f * r : Nat) : Int) - 1 + (k : Int) * (-1)) + ([1, 0, -1, 0, 1, -1, -1, 1].getD ((0 : Int) + (i : Int) * 1).toNat 0 * (f : Int) + [0, 1, 0, -1, 1, 1, -1, -1].getD ((0 : Int) + (i : Int) * 1).toNat 0) = ((goalN f i (sqN (f * r) i k) : Nat) : Int) := by
            have := Int.toNat_of_nonneg hgo.1
            unfold goalN
            rw [this, hsq, xi]
            rfl
          obtain ⟨hg1, hg2⟩ := dn_goal S hi hk hb
          obtain ⟨tg, e1⟩ := hIB.get hg1
          rw [rf_goal S hi hk hb] at e1
          have e1' : ivs[((((f * r : Nat) : Int) - 1 + (k : Int) * (-1)) + ([1, 0, -1, 0, 1, -1, -1, 1].getD ((0 : Int) + (i : Int) * 1).toNat 0 * (f : Int) + [0, 1, 0, -1, 1, 1, -1, -1].getD ((0 : Int) + (i : Int) * 1).toNat 0)).toNat]? = some (.int ((rayN f r i (goalN f i (sqN (f * r) i k)) : Nat) : Int) tg) := by rw [hG]; exact e1
          have g0 : 0 ≤ (((f * r : Nat) : Int) - 1 + (k : Int) * (-1)) + ([1, 0, -1, 0, 1, -1, -1, 1].getD ((0 : Int) + (i : Int) * 1).toNat 0 * (f : Int) + [0, 1, 0, -1, 1, 1, -1, -1].getD ((0 : Int) + (i : Int) * 1).toNat 0) := by rw [hG]; omega
          have g1 : (((f * r : Nat) : Int) - 1 + (k : Int) * (-1)) + ([1, 0, -1, 0, 1, -1, -1, 1].getD ((0 : Int) + (i : Int) * 1).toNat 0 * (f : Int) + [0, 1, 0, -1, 1, 1, -1, -1].getD ((0 : Int) + (i : Int) * 1).toNat 0) < 64 := by rw [hG]; omega
          try k_fold
          k_steps
          rename Fr _ _ _ _ => F11
          rename News _ _ _ _ => N11
          simp only [hG] at N11
          simp only [hsq, toNat_nn, or_shl] at N11
          refine' ⟨my_end (_, _, _, _) F11 N11 ?dxm ?dxo ?dxf ⟨turnR S hi hk hb hIB, turnK hk hb hKB⟩ ?dxk ?dxs⟩
          case dxk => kst_all
          case dxm => exact mem3
          case dxo => exact own3
          case dxf => exact off_addr hoff2 rfl
          case dxs => kst_same
        | false =>
          have hbit : (Builtin.bitAnd (((innerN f r ((0 : Int) + (i : Int) * 1).toNat : Nat) : Int).fdiv (2 ^ ((((f * r : Nat) : Int) - 1 + (k : Int) * (-1))).toNat)) 1 != 0) = false := by rw [xi, hsq, toNat_nn, ask_eq, hb]; rfl
          try k_fold
          k_steps
          rename Fr _ _ _ _ => F11
          rename News _ _ _ _ => N11
          refine' ⟨my_end (_, _, _, _) F11 N11 ?dym ?dyo ?dyf ⟨stayR S hi hk hb hIB, stayK hk hb hKB⟩ ?dyk ?dys⟩
          case dyk => kst_all
          case dym => exact mem3
          case dyo => exact own3
          case dyf => exact off_addr hoff2 rfl
          case dys => kst_same
      case dwdone =>
        rintro ⟨ivs, ni, kvs2, nk2⟩ u3 h3 tk3 ⟨hIB, hKB⟩ F10 N10
        dsimp only [kstB] at hIB hKB F10 N10
        have hIB' := endR hIB
        have hKB' := endK hKB
        have hlenV := hL
        try k_fold
        k_steps
        rename Fr _ _ _ _ => F11
        rename News _ _ _ _ => N11
        rw [List.push_toArray] at N11
        refine' ⟨my_end (kvs2, nk2, rvs ++ [.ref ray], nrv + 1, (ray, listOf ivs.toArray ni) :: rays) F11 N11 ?dzm ?dzo ?dzf ⟨hKB', by rw [List.length_append, hL]; rfl, ?dzr, ?dzd⟩ ?dzk ?dzs⟩
        case dzk => kst_all
        case dzs => kst_same
        case dzm =>
          intro p hp
          rcases List.mem_cons.mp hp with rfl | hp
          · exact .tail _ (.head _)
          · rcases List.mem_cons.mp hp with rfl | hp
            · exact .tail _ (.tail _ (.head _))
            · rcases List.mem_cons.mp hp with rfl | hp
              · exact .head _
              · exact .tail _ (.tail _ (.tail _ (by rw [hr2]; exact List.mem_append_left _ hp)))
        case dzo => exact fun p hp => .tail _ (.tail _ (.tail _ (by rw [hr2]; exact List.mem_append_right _ hp)))
        case dzf =>
          intro p hp q hq
          rcases List.mem_cons.mp hq with rfl | hq
          · exact hoff p hp (kg, listOf kvs.toArray nk) (.head _)
          · rcases List.mem_cons.mp hq with rfl | hq
            · exact hoff p hp (rs, listOf rvs.toArray nrv) (.tail _ (.head _))
            · rcases List.mem_cons.mp hq with rfl | hq
              · exact Nat.ne_of_lt (k3 p (by rw [hr2]; exact List.mem_append_right _ hp))
              · exact hoff p hp _ (.tail _ (.tail _ hq))
        case dzr =>
          intro p hp
          rcases List.mem_cons.mp hp with rfl | hp
          · exact q3
          · exact hR p hp
        case dzd =>
          intro e he
          by_cases hei : e < i
          · obtain ⟨rd, nd, iv, x1, x2, x3⟩ := hD e hei
            exact ⟨rd, nd, iv, by rw [List.getElem?_append_left (by rw [hL]; exact hei)]; exact x1, .tail _ x2, x3⟩
          · have : e = i := by omega
            subst this
            exact ⟨ray, ni, ivs, by rw [List.getElem?_append_right (by rw [hL]; exact Nat.le_refl _), hL, Nat.sub_self]; rfl, .head _, hIB'⟩
    · refine ⟨?_⟩
      rename (grows _ = false) => hg
      have hg' : growN i = false := by unfold grows at hg; rw [grows_is _ (by omega) (by omega), xi] at hg; exact hg
      rename Fr _ _ _ _ => F8
      rename News _ _ _ _ => N8
      have rgY := range_of N8 (.head _)
      have N9 : News _ _ _ ((ray, listOf zr.toArray 0) :: (kg, listOf kvs.toArray nk) :: ((rs, listOf rvs.toArray nrv) :: rest2)) := news_sub N8 (by intro p hp; simp only [List.mem_cons] at hp ⊢; rcases hp with h | h | h | h <;> simp [h])
      refine' my_range (n := f * r) (fun c : List Value × Nat × List Value × Nat => (ray, listOf c.1.toArray c.2.1) :: (kg, listOf c.2.2.1.toArray c.2.2.2) :: ((rs, listOf rvs.toArray nrv) :: rest2)) (fun _ => []) [Str.ofString "goal"] (fun k c => Board c.1 (f * r) (RF f r i k) ∧ Board c.2.2.1 (f * r) (KF f r i k)) (zr, 0, kvs, nk) (by rfl) rgY (small_one (by omega) (by omega) (by omega) (by omega)) ?uwsz F8 N9 ?uwhk ⟨startR BZr, startK hK⟩ ?uwturn ?uwdone
      case uwsz => rw [rangeSize_nat] <;> omega
      case uwhk => kst_all
      case uwturn =>
        rintro ⟨ivs, ni, kvs2, nk2⟩ k t2 u2 h2 tk2 own2 hk hoff2 ⟨hIB, hKB⟩ F10 N10
        dsimp only [kstB] at hIB hKB F10 N10 hoff2
        simp only [List.cons_append] at N10
        have c1 : ∀ p ∈ rest2 ++ own2, p.1 ≠ ray := fun p hp => (List.mem_append.mp hp).elim (fun hp => Nat.ne_of_lt (k3 p hp)) fun hp => hoff2 p hp _ (.head _)
        have c2 : ∀ p ∈ rest2 ++ own2, p.1 ≠ kg := fun p hp => (List.mem_append.mp hp).elim (a1 p) fun hp => hoff2 p hp _ (.tail _ (.head _))
        have d1 : (g, instObj 53 gd) ∈ rest2 ++ own2 := List.mem_append_left _ b1
        have d2 : (gd, dictOf es' 14) ∈ rest2 ++ own2 := List.mem_append_left _ b2
        have hlenI := hIB.1
        have hlenK := hKB.1
        have hsl := sq_lt (d := i) hk
        have hsq : ((0 : Int) + (k : Int) * 1) = ((sqN (f * r) i k : Nat) : Int) := by unfold sqN; rw [hg']; simp <;> omega
        have s0 : 0 ≤ ((0 : Int) + (k : Int) * 1) := by omega
        have s1 : (((0 : Int) + (k : Int) * 1)).toNat < f * r := by omega
        obtain ⟨ts, e2⟩ := hKB.get hsl
        rw [kf_here hk] at e2
        have e2' : kvs2[(((0 : Int) + (k : Int) * 1)).toNat]? = some (.int ((kingTo f r (sqN (f * r) i k) i : Nat) : Int) ts) := by rw [hsq]; exact e2
        cases hb : (innerN f r i).testBit (sqN (f * r) i k) with
        | true =>
          have hbit : (Builtin.bitAnd (((innerN f r ((0 : Int) + (i : Int) * 1).toNat : Nat) : Int).fdiv (2 ^ (((0 : Int) + (k : Int) * 1)).toNat)) 1 != 0) = true := by rw [xi, hsq, toNat_nn, ask_eq, hb]; rfl
          have hgo := goal_ok S hi hsl hb
          have hG : ((0 : Int) + (k : Int) * 1) + ([1, 0, -1, 0, 1, -1, -1, 1].getD ((0 : Int) + (i : Int) * 1).toNat 0 * (f : Int) + [0, 1, 0, -1, 1, 1, -1, -1].getD ((0 : Int) + (i : Int) * 1).toNat 0) = ((goalN f i (sqN (f * r) i k) : Nat) : Int) := by
            have := Int.toNat_of_nonneg hgo.1
            unfold goalN
            rw [this, hsq, xi]
            rfl
          obtain ⟨hg1, hg2⟩ := dn_goal S hi hk hb
          obtain ⟨tg, e1⟩ := hIB.get hg1
          rw [rf_goal S hi hk hb] at e1
          have e1' : ivs[(((0 : Int) + (k : Int) * 1) + ([1, 0, -1, 0, 1, -1, -1, 1].getD ((0 : Int) + (i : Int) * 1).toNat 0 * (f : Int) + [0, 1, 0, -1, 1, 1, -1, -1].getD ((0 : Int) + (i : Int) * 1).toNat 0)).toNat]? = some (.int ((rayN f r i (goalN f i (sqN (f * r) i k)) : Nat) : Int) tg) := by rw [hG]; exact e1
          have g0 : 0 ≤ ((0 : Int) + (k : Int) * 1) + ([1, 0, -1, 0, 1, -1, -1, 1].getD ((0 : Int) + (i : Int) * 1).toNat 0 * (f : Int) + [0, 1, 0, -1, 1, 1, -1, -1].getD ((0 : Int) + (i : Int) * 1).toNat 0) := by rw [hG]; omega
          have g1 : ((0 : Int) + (k : Int) * 1) + ([1, 0, -1, 0, 1, -1, -1, 1].getD ((0 : Int) + (i : Int) * 1).toNat 0 * (f : Int) + [0, 1, 0, -1, 1, 1, -1, -1].getD ((0 : Int) + (i : Int) * 1).toNat 0) < 64 := by rw [hG]; omega
          try k_fold
          k_steps
          rename Fr _ _ _ _ => F11
          rename News _ _ _ _ => N11
          simp only [hG] at N11
          simp only [hsq, toNat_nn, or_shl] at N11
          refine' ⟨my_end (_, _, _, _) F11 N11 ?uxm ?uxo ?uxf ⟨turnR S hi hk hb hIB, turnK hk hb hKB⟩ ?uxk ?uxs⟩
          case uxk => kst_all
          case uxm => exact mem3
          case uxo => exact own3
          case uxf => exact off_addr hoff2 rfl
          case uxs => kst_same
        | false =>
          have hbit : (Builtin.bitAnd (((innerN f r ((0 : Int) + (i : Int) * 1).toNat : Nat) : Int).fdiv (2 ^ (((0 : Int) + (k : Int) * 1)).toNat)) 1 != 0) = false := by rw [xi, hsq, toNat_nn, ask_eq, hb]; rfl
          try k_fold
          k_steps
          rename Fr _ _ _ _ => F11
          rename News _ _ _ _ => N11
          refine' ⟨my_end (_, _, _, _) F11 N11 ?uym ?uyo ?uyf ⟨stayR S hi hk hb hIB, stayK hk hb hKB⟩ ?uyk ?uys⟩
          case uyk => kst_all
          case uym => exact mem3
          case uyo => exact own3
          case uyf => exact off_addr hoff2 rfl
          case uys => kst_same
      case uwdone =>
        rintro ⟨ivs, ni, kvs2, nk2⟩ u3 h3 tk3 ⟨hIB, hKB⟩ F10 N10
        dsimp only [kstB] at hIB hKB F10 N10
        have hIB' := endR hIB
        have hKB' := endK hKB
        have hlenV := hL
        try k_fold
        k_steps
        rename Fr _ _ _ _ => F11
        rename News _ _ _ _ => N11
        rw [List.push_toArray] at N11
        refine' ⟨my_end (kvs2, nk2, rvs ++ [.ref ray], nrv + 1, (ray, listOf ivs.toArray ni) :: rays) F11 N11 ?uzm ?uzo ?uzf ⟨hKB', by rw [List.length_append, hL]; rfl, ?uzr, ?uzd⟩ ?uzk ?uzs⟩
        case uzk => kst_all
        case uzs => kst_same
        case uzm =>
          intro p hp
          rcases List.mem_cons.mp hp with rfl | hp
          · exact .tail _ (.head _)
          · rcases List.mem_cons.mp hp with rfl | hp
            · exact .tail _ (.tail _ (.head _))
            · rcases List.mem_cons.mp hp with rfl | hp
              · exact .head _
              · exact .tail _ (.tail _ (.tail _ (by rw [hr2]; exact List.mem_append_left _ hp)))
        case uzo => exact fun p hp => .tail _ (.tail _ (.tail _ (by rw [hr2]; exact List.mem_append_right _ hp)))
        case uzf =>
          intro p hp q hq
          rcases List.mem_cons.mp hq with rfl | hq
          · exact hoff p hp (kg, listOf kvs.toArray nk) (.head _)
          · rcases List.mem_cons.mp hq with rfl | hq
            · exact hoff p hp (rs, listOf rvs.toArray nrv) (.tail _ (.head _))
            · rcases List.mem_cons.mp hq with rfl | hq
              · exact Nat.ne_of_lt (k3 p (by rw [hr2]; exact List.mem_append_right _ hp))
              · exact hoff p hp _ (.tail _ (.tail _ hq))
        case uzr =>
          intro p hp
          rcases List.mem_cons.mp hp with rfl | hp
          · exact q3
          · exact hR p hp
        case uzd =>
          intro e he
          by_cases hei : e < i
          · obtain ⟨rd, nd, iv, x1, x2, x3⟩ := hD e hei
            exact ⟨rd, nd, iv, by rw [List.getElem?_append_left (by rw [hL]; exact hei)]; exact x1, .tail _ x2, x3⟩
          · have : e = i := by omega
            subst this
            exact ⟨ray, ni, ivs, by rw [List.getElem?_append_right (by rw [hL]; exact Nat.le_refl _), hL, Nat.sub_self]; rfl, .head _, hIB'⟩
  case done =>
    rintro ⟨kvs, nk, rvs, nrv, rays⟩ u h tk ⟨hK, hL, hR, hD⟩ F5 N5
    dsimp only [kstB] at hK hL hR hD F5 N5
    try k_fold
    k_steps
    exact hret _ _ _ _ (by assumption) (by assumption) ⟨kg, es', kvs, rvs, nk, nrv, rays, rfl, A3, k0, q1, q2, hR, hK, hD⟩
theorem castles_c (w : World) (rest : List (Addr × Obj)) (f r : Nat) (S : Shape f r) (a : GA) (g : Addr) (es : List DictEntry) (A : EsAre es (geoA f r a)) (ig : (g, instObj 53 a.gd) ∈ rest)
    (hne : @LT.lt Nat _ a.gd a.ca) (h1 : ∀ p ∈ rest, p.1 ≠ a.gd) (h2 : ∀ p ∈ rest, p.1 ≠ a.ca) :
    Does w 106 6 [.ref g] ((a.gd, dictOf es 14) :: (a.ca, listOf #[] 0) :: rest) (fun _ _ news' => ∃ (rl : Addr) (es' : List DictEntry), news' = (a.gd, dictOf es' 14) :: rest ∧ EsAre es' (geoA f r { a with rl := rl })) := by
  have hsz := S.size
  have f25 : f ≤ 25 := Nat.le_trans S.f5 (by decide)
  have r25 : r ≤ 25 := Nat.le_trans S.r5 (by decide)
  obtain ⟨gFiles, gRanks, gSize, gFull, gCast, gFm, gRm, gRays, gKing, gKnight, gPawn, gCa, gRi, gLen⟩ := geoE A
  obtain ⟨gd, fm, rm, rs, kg, kn, pw, ca, rl₀, t0, t1, t2, t3⟩ := a
  dsimp only at *
  unfold Does
  intro mean mg mb dp un gd' cn cs a ccd cl outer A₀ base h₀ L m s Q E B F X N T hk hd hu hret
  have kM := kstMark
  refine wpAny_call ?_
  k_dflt cell_enter
  k_steps
  refine ⟨?_⟩
  rename Fr _ _ _ _ => F0
  rename News _ _ _ _ => N0
  with_unfolding_all refine zeros_N F0 N0 (by k_mem) hsz ?_
  intro rl hK zs BZ FK NK lK
  have q1 : @LT.lt Nat _ gd rl := lK (gd, dictOf es 14) (.tail _ (.head _))
  have q2 : @LT.lt Nat _ ca rl := lK (ca, listOf #[] 0) (.tail _ (.tail _ (.head _)))
  try k_fold
  k_steps
  refine ⟨?_⟩
  rename Fr _ _ _ _ => F1
  rename News _ _ _ _ => N1
  have hs14 : es.length ≤ 1000 := by omega
  k_dflt (refine' my_setattr ?k1 ?k2 ?k3 ?k4 ?k5 ?k6 ?k7 ?k8 ?k9 A rfl hs14 ?k10 ?_; (case k1 => k_asm); (case k2 => k_asm); (case k3 => k_asm); (case k4 => k_inst); (case k5 => exact rfl); (case k6 => k_is); (case k7 => k_is); (case k8 => k_is); (case k9 => k_is); (case k10 => k_updF))
  intro hA es' A1 F2 N2
  have A3 : EsAre es' (geoA f r ⟨gd, fm, rm, rs, kg, kn, pw, ca, rl, t0, t1, t2, t3⟩) := geo_rights A1
  clear A1
  obtain ⟨gFiles, gRanks, gSize, gFull, gCast, gFm, gRm, gRays, gKing, gKnight, gPawn, gCa, gRi, gLen⟩ := geoE A3
  dsimp only at *
  try k_fold
  k_steps
  refine ⟨?_⟩
  rename Fr _ _ _ _ => F3
  rename News _ _ _ _ => N3
  rename IsRange _ _ _ _ _ _ _ _ => rgX
  have N4 : News _ _ _ ((ca, listOf ([] : List Value).toArray 0) :: (gd, dictOf es' 14) :: rest) := news_sub N3 (by intro p hp; simp only [List.mem_cons] at hp ⊢; rcases hp with h | h | h <;> simp [h])
  refine' my_range (n := 4) (fun c : List Value × Nat => (ca, listOf c.1.toArray c.2) :: (gd, dictOf es' 14) :: rest) (fun _ => []) [Str.ofString "base", Str.ofString "corner", Str.ofString "way", Str.ofString "goal"] (fun i c => c.1.length = i) ([], 0) (by rfl) rgX (by decide) (by rfl) F3 N4 ?hkq rfl ?turn ?done
  case hkq => kst_all
  case turn =>
    rintro ⟨v0, n0⟩ i t u h tk own hi hoff hB0 F5 N5
    dsimp only [kstB] at hB0 F5 N5 hoff
    simp only [List.cons_append] at N5
    have a1 : ∀ p ∈ rest ++ own, p.1 ≠ ca := fun p hp => (List.mem_append.mp hp).elim (h2 p) fun hp => hoff p hp _ (.head _)
    have b1 : (g, instObj 53 gd) ∈ rest ++ own := List.mem_append_left _ ig
    try k_fold
    k_steps
    all_goals (
      rename Fr _ _ _ _ => F11
      rename News _ _ _ _ => N11
      rw [List.push_toArray] at N11
      refine' ⟨my_end (_, _) F11 N11 mem2 own2 (off_addr hoff rfl) (by rw [List.length_append, hB0]; rfl) ?zk ?zs⟩
      case zk => kst_all
      case zs => kst_same)
  case done =>
    rintro ⟨v0, n0⟩ u h tk hB0 F5 N5
    dsimp only [kstB] at hB0 F5 N5
    k_steps
    exact hret _ _ _ _ (by assumption) (news_sub (by assumption) (fun _ h => .tail _ h)) ⟨rl, es', rfl, A3⟩
section
local macro_rules | `(tactic| walk_at "call ref") => `(tactic| (k_here; (with_reducible show wpAny _ _ (call (Value.ref _) _) _ _ _); (refine Hold.get ?_)))
theorem pcons {x y : Addr} {l : List Addr} (h : @LT.lt Nat _ x y) (t : List.Pairwise (fun a b : Addr => @LT.lt Nat _ a b) (y :: l)) : List.Pairwise (fun a b : Addr => @LT.lt Nat _ a b) (x :: y :: l) := by
  refine List.Pairwise.cons ?_ t
  intro z hz
  rcases List.mem_cons.mp hz with rfl | hz
  · exact h
  · exact Nat.lt_trans h ((List.pairwise_cons.mp t).1 z hz)
theorem pone {x : Addr} : List.Pairwise (fun a b : Addr => @LT.lt Nat _ a b) [x] := List.pairwise_singleton _ _
theorem pw_lt {l : List Addr} (h : List.Pairwise (fun a b : Addr => @LT.lt Nat _ a b) l) (i j : Nat) {x y : Addr} (hij : Nat.blt i j = true) (hx : l[i]? = some x) (hy : l[j]? = some y) : @LT.lt Nat _ x y := by
  obtain ⟨h1, rfl⟩ := List.getElem?_eq_some_iff.mp hx
  obtain ⟨h2, rfl⟩ := List.getElem?_eq_some_iff.mp hy
  exact List.pairwise_iff_getElem.mp h i j h1 h2 (Nat.blt_eq.mp hij)
theorem pw_ne {l : List Addr} (h : List.Pairwise (fun a b : Addr => @LT.lt Nat _ a b) l) (i j : Nat) {x y : Addr} (hij : (Nat.blt i j || Nat.blt j i) = true) (hx : l[i]? = some x) (hy : l[j]? = some y) : x ≠ y := by
  rcases Bool.or_eq_true_iff.mp hij with c | c
  · exact Nat.ne_of_lt (pw_lt h i j c hx hy)
  · exact Nat.ne_of_gt (pw_lt h j i c hy hx)
theorem nec {x y : Addr} {o : Obj} {l : List (Addr × Obj)} (h : y ≠ x) (t : ∀ p ∈ l, p.1 ≠ x) : ∀ p ∈ (y, o) :: l, p.1 ≠ x := List.forall_mem_cons.mpr ⟨h, t⟩
theorem nea {x : Addr} {l m : List (Addr × Obj)} (h : ∀ p ∈ l, p.1 ≠ x) (t : ∀ p ∈ m, p.1 ≠ x) : ∀ p ∈ l ++ m, p.1 ≠ x := List.forall_mem_append.mpr ⟨h, t⟩
theorem nen0 {x : Addr} {l : List (Addr × Obj)} (h : ∀ p ∈ l, @LT.lt Nat _ p.1 x) : ∀ p ∈ l, p.1 ≠ x := fun p hp => Nat.ne_of_lt (h p hp)
theorem nen {x y : Addr} {l : List (Addr × Obj)} (h : ∀ p ∈ l, @LT.lt Nat _ p.1 x) (k : @LT.lt Nat _ x y) : ∀ p ∈ l, p.1 ≠ y := fun p hp => Nat.ne_of_lt (Nat.lt_trans (h p hp) k)
theorem ner {x y : Addr} {l : List (Addr × Obj)} (h : ∀ p ∈ l, @LT.lt Nat _ x p.1) (k : @LT.lt Nat _ y x) : ∀ p ∈ l, p.1 ≠ y := fun p hp => Nat.ne_of_gt (Nat.lt_trans k (h p hp))
theorem subc {p : Addr × Obj} {l b : List (Addr × Obj)} (h : p ∈ b) (t : ∀ q ∈ l, q ∈ b) : ∀ q ∈ p :: l, q ∈ b := List.forall_mem_cons.mpr ⟨h, t⟩
theorem suba {l m b : List (Addr × Obj)} (h : ∀ q ∈ l, q ∈ b) (t : ∀ q ∈ m, q ∈ b) : ∀ q ∈ l ++ m, q ∈ b := List.forall_mem_append.mpr ⟨h, t⟩
theorem subt {p : Addr × Obj} {l b : List (Addr × Obj)} (t : ∀ q ∈ l, q ∈ b) : ∀ q ∈ l, q ∈ p :: b := fun q h => List.Mem.tail _ (t q h)
theorem subl {l m : List (Addr × Obj)} : ∀ q ∈ l, q ∈ l ++ m := fun _ h => List.mem_append_left _ h
theorem subr {l m b : List (Addr × Obj)} (t : ∀ q ∈ l, q ∈ m) : ∀ q ∈ l, q ∈ b ++ m := fun q h => List.mem_append_right _ (t q h)
theorem subi {l : List (Addr × Obj)} : ∀ q ∈ l, q ∈ l := fun _ h => h
theorem ltc {x : Addr} {o : Obj} {l n : List (Addr × Obj)} (h : ∀ q ∈ n, @LT.lt Nat _ q.1 x) (t : ∀ p ∈ l, ∀ q ∈ n, @LT.lt Nat _ q.1 p.1) : ∀ p ∈ (x, o) :: l, ∀ q ∈ n, @LT.lt Nat _ q.1 p.1 := List.forall_mem_cons.mpr ⟨h, t⟩
theorem ltz {x y : Addr} {n : List (Addr × Obj)} (h : ∀ q ∈ n, @LT.lt Nat _ q.1 x) (k : @LT.lt Nat _ x y) : ∀ q ∈ n, @LT.lt Nat _ q.1 y := fun q hq => Nat.lt_trans (h q hq) k
theorem ltr {x y : Addr} {l n : List (Addr × Obj)} (h : ∀ q ∈ n, @LT.lt Nat _ q.1 x) (k : @LT.lt Nat _ x y) (t : ∀ p ∈ l, @LT.lt Nat _ y p.1) : ∀ p ∈ l, ∀ q ∈ n, @LT.lt Nat _ q.1 p.1 := fun p hp q hq => Nat.lt_trans (h q hq) (Nat.lt_trans k (t p hp))
theorem make_c (w : World) (news : List (Addr × Obj)) (f r : Nat) (S : Shape f r) (t0 t1 : Tok) :
    Does w 113 20 [.int (f : Int) t0, .int (r : Int) t1, .bool false, .bool false] news (fun _ v news' => ∃ g new, v = .ref g ∧ news' = new ++ news ∧ (∀ p ∈ new, ∀ q ∈ news, @LT.lt Nat _ q.1 p.1) ∧ GeoIs new g f r) := by
  have f3 := S.f3
  have f5 := S.f5
  have r3 := S.r3
  have r5 := S.r5
  have hsz := S.size
  have hsz9 := S.size9
  unfold Does
  intro mean mg mb dp un gd' cn cs a ccd cl outer A₀ base h₀ L m s Q E B F X N T hk hd hu hret
  have kM := kstMark
  refine wpAny_call ?_
  k_dflt cell_enter
  k_steps
  refine ⟨?_⟩
  rename Fr _ _ _ _ => F1
  rename News _ _ _ _ => N10
  have N1 := news_sub N10 (news' := news) (by intro p hp; first | exact hp | (simp only [List.mem_cons, List.mem_append, List.cons_append, List.nil_append] at hp ⊢; grind))
  with_unfolding_all refine' Does.use (geometry_c w news f r S t0 t1) ?k1 F1 ?k3 N1 ?k5 ?kK ?kd ?ku ?_
  case k1 => k_asm
  case k3 => k_asm
  case k5 => k_asm
  case kK => first | exact rfl | assumption
  case kd => ktr_room
  case ku => ktr_units
  rintro _ _ h2 tk2 F2 N2 ⟨a, g, p0, p1, es, rfl, rfl, A, lt0, o1, o2, o3, o4, o5, o6, o7, o8, o9, o10, o11⟩
  try k_fold
  k_steps
  have o1 := ltN o1
  have o2 := ltN o2
  have o3 := ltN o3
  have o4 := ltN o4
  have o5 := ltN o5
  have o6 := ltN o6
  have o7 := ltN o7
  have o8 := ltN o8
  have o9 := ltN o9
  have o10 := ltN o10
  have o11 := ltN o11
  have PC := pcons o1 (pcons o2 (pcons o3 (pcons o4 (pcons (Nat.lt_trans o5 o6) (pcons o7 (pcons o8 (pcons o9 (pcons o10 (pone (x := a.ca))))))))))
  have lt1 : ∀ p ∈ news, @LT.lt Nat _ p.1 a.gd := fun p hp => kst_ltOf lt0 p hp
  obtain ⟨R1, hR1⟩ : ∃ x, x = (a.ca, listOf #[] 0) :: (a.pw, listOf #[.ref p0, .ref p1] 0) :: (p1, listOf #[] 0) :: (p0, listOf #[] 0) :: (a.kn, listOf #[] 0) :: (a.rs, listOf #[] 0) :: (g, instObj 53 a.gd) :: (a.gd, dictOf es 14) :: news := ⟨_, rfl⟩
  have m1 : ∀ p ∈ R1, p.1 ≠ a.rm := by
    rw [hR1]
    exact nec (pw_ne PC 9 3 rfl rfl rfl) (nec (pw_ne PC 8 3 rfl rfl rfl) (nec (pw_ne PC 7 3 rfl rfl rfl) (nec (pw_ne PC 6 3 rfl rfl rfl) (nec (pw_ne PC 5 3 rfl rfl rfl) (nec (pw_ne PC 4 3 rfl rfl rfl) (nec (pw_ne PC 1 3 rfl rfl rfl) (nec (pw_ne PC 0 3 rfl rfl rfl) (nen lt1 (pw_lt PC 0 3 rfl rfl rfl)))))))))
  have m2 : ∀ p ∈ R1, p.1 ≠ a.fm := by
    rw [hR1]
    exact nec (pw_ne PC 9 2 rfl rfl rfl) (nec (pw_ne PC 8 2 rfl rfl rfl) (nec (pw_ne PC 7 2 rfl rfl rfl) (nec (pw_ne PC 6 2 rfl rfl rfl) (nec (pw_ne PC 5 2 rfl rfl rfl) (nec (pw_ne PC 4 2 rfl rfl rfl) (nec (pw_ne PC 1 2 rfl rfl rfl) (nec (pw_ne PC 0 2 rfl rfl rfl) (nen lt1 (pw_lt PC 0 2 rfl rfl rfl)))))))))
  have m3 : (g, instObj 53 a.gd) ∈ R1 := by rw [hR1]; simp
  have m4 : (a.gd, dictOf es 14) ∈ R1 := by rw [hR1]; simp
  refine ⟨?_⟩
  rename Fr _ _ _ _ => F3
  rename News _ _ _ _ => N30
  have N3 := news_sub N30 (news' := ((a.rm, listOf #[] 0) :: (a.fm, listOf #[] 0) :: R1)) (by rw [hR1]; repeat' (with_reducible first | exact List.mem_cons_self | exact subi | exact subl | refine subc ?_ ?_ | refine suba ?_ ?_ | refine subt ?_ | refine subr ?_ | refine List.mem_cons_of_mem _ ?_ | refine List.mem_append_right _ ?_))
  with_unfolding_all refine' Does.use (masks_c w R1 f r S a g es A m3 m4 o3 m1 m2) ?k1 F3 ?k3 N3 ?k5 ?kK ?kd ?ku ?_
  case k1 => k_asm
  case k3 => k_asm
  case k5 => k_asm
  case kK => first | exact rfl | assumption
  case kd => ktr_room
  case ku => ktr_units
  rintro _ _ h4 tk4 F4 N4 ⟨vr, vf, nr, nf, rfl, Br, Bf⟩
  try k_fold
  k_steps
  obtain ⟨R2, hR2⟩ : ∃ x, x = (a.rm, listOf vr.toArray nr) :: (a.fm, listOf vf.toArray nf) :: (a.ca, listOf #[] 0) :: (a.pw, listOf #[.ref p0, .ref p1] 0) :: (p1, listOf #[] 0) :: (p0, listOf #[] 0) :: (a.kn, listOf #[] 0) :: (g, instObj 53 a.gd) :: news := ⟨_, rfl⟩
  have k1 : ∀ p ∈ R2, p.1 ≠ a.gd := by
    rw [hR2]
    exact nec (pw_ne PC 3 0 rfl rfl rfl) (nec (pw_ne PC 2 0 rfl rfl rfl) (nec (pw_ne PC 9 0 rfl rfl rfl) (nec (pw_ne PC 8 0 rfl rfl rfl) (nec (pw_ne PC 7 0 rfl rfl rfl) (nec (pw_ne PC 6 0 rfl rfl rfl) (nec (pw_ne PC 5 0 rfl rfl rfl) (nec (pw_ne PC 1 0 rfl rfl rfl) (nen0 lt1))))))))
  have k2 : ∀ p ∈ R2, p.1 ≠ a.rs := by
    rw [hR2]
    exact nec (pw_ne PC 3 4 rfl rfl rfl) (nec (pw_ne PC 2 4 rfl rfl rfl) (nec (pw_ne PC 9 4 rfl rfl rfl) (nec (pw_ne PC 8 4 rfl rfl rfl) (nec (pw_ne PC 7 4 rfl rfl rfl) (nec (pw_ne PC 6 4 rfl rfl rfl) (nec (pw_ne PC 5 4 rfl rfl rfl) (nec (pw_ne PC 1 4 rfl rfl rfl) (nen lt1 (pw_lt PC 0 4 rfl rfl rfl)))))))))
  have k3 : (g, instObj 53 a.gd) ∈ R2 := by rw [hR2]; simp
  have k4 : (a.rm, listOf vr.toArray nr) ∈ R2 := by rw [hR2]; simp
  have k5 : (a.fm, listOf vf.toArray nf) ∈ R2 := by rw [hR2]; simp
  have k6 : @LT.lt Nat _ a.gd a.rs := pw_lt PC 0 4 rfl rfl rfl
  refine ⟨?_⟩
  rename Fr _ _ _ _ => F5
  rename News _ _ _ _ => N50
  have N5 := news_sub N50 (news' := ((a.gd, dictOf es 14) :: (a.rs, listOf #[] 0) :: R2)) (by rw [hR2, hR1]; repeat' (with_reducible first | exact List.mem_cons_self | exact subi | exact subl | refine subc ?_ ?_ | refine suba ?_ ?_ | refine subt ?_ | refine subr ?_ | refine List.mem_cons_of_mem _ ?_ | refine List.mem_append_right _ ?_))
  with_unfolding_all refine' Does.use (rays_c w R2 f r S a g es A k3 vr vf nr nf k4 k5 Br Bf k6 k1 k2) ?k1 F5 ?k3 N5 ?k5 ?kK ?kd ?ku ?_
  case k1 => k_asm
  case k3 => k_asm
  case k5 => k_asm
  case kK => first | exact rfl | assumption
  case kd => ktr_room
  case ku => ktr_units
  rintro _ _ h6 tk6 F6 N6 ⟨kg, es1, kvs, rvs, nk, nrs, rays, rfl, A2, j1, j2, j3, j4, BK, hD⟩
  try k_fold
  k_steps
  have j5 : @LT.lt Nat _ a.ca kg := j1 (a.ca, listOf #[] 0) (by rw [hR2]; simp)
  have PD := pcons o1 (pcons o2 (pcons o3 (pcons o4 (pcons (Nat.lt_trans o5 o6) (pcons o7 (pcons o8 (pcons o9 (pcons o10 (pcons j5 (pone (x := kg)))))))))))
  obtain ⟨R3, hR3⟩ : ∃ x, x = (kg, listOf kvs.toArray nk) :: (a.rs, listOf rvs.toArray nrs) :: (rays ++ ((a.gd, dictOf es1 14) :: (a.fm, listOf vf.toArray nf) :: (a.ca, listOf #[] 0) :: (a.pw, listOf #[.ref p0, .ref p1] 0) :: (a.kn, listOf #[] 0) :: (g, instObj 53 a.gd) :: news)) := ⟨_, rfl⟩
  have i1 : ∀ p ∈ R3, p.1 ≠ p0 := by
    rw [hR3]
    exact nec (pw_ne PD 10 6 rfl rfl rfl) (nec (pw_ne PD 4 6 rfl rfl rfl) (nea (ner j4 (pw_lt PD 6 10 rfl rfl rfl)) (nec (pw_ne PD 0 6 rfl rfl rfl) (nec (pw_ne PD 2 6 rfl rfl rfl) (nec (pw_ne PD 9 6 rfl rfl rfl) (nec (pw_ne PD 8 6 rfl rfl rfl) (nec (pw_ne PD 5 6 rfl rfl rfl) (nec (pw_ne PD 1 6 rfl rfl rfl) (nen lt1 (pw_lt PD 0 6 rfl rfl rfl))))))))))
  have i2 : ∀ p ∈ R3, p.1 ≠ p1 := by
    rw [hR3]
    exact nec (pw_ne PD 10 7 rfl rfl rfl) (nec (pw_ne PD 4 7 rfl rfl rfl) (nea (ner j4 (pw_lt PD 7 10 rfl rfl rfl)) (nec (pw_ne PD 0 7 rfl rfl rfl) (nec (pw_ne PD 2 7 rfl rfl rfl) (nec (pw_ne PD 9 7 rfl rfl rfl) (nec (pw_ne PD 8 7 rfl rfl rfl) (nec (pw_ne PD 5 7 rfl rfl rfl) (nec (pw_ne PD 1 7 rfl rfl rfl) (nen lt1 (pw_lt PD 0 7 rfl rfl rfl))))))))))
  have i3 : (g, instObj 53 a.gd) ∈ R3 := by rw [hR3]; simp
  have i4 : (a.gd, dictOf es1 14) ∈ R3 := by rw [hR3]; simp
  have i5 : (kg, listOf kvs.toArray nk) ∈ R3 := by rw [hR3]; simp
  have i6 : (a.rs, listOf rvs.toArray nrs) ∈ R3 := by rw [hR3]; simp
  have i7 : (a.pw, listOf [.ref p0, .ref p1].toArray 0) ∈ R3 := by rw [hR3]; simp
  have i8 : ∀ d, d < 8 → ∃ rd nd ivs, rvs[d]? = some (.ref rd) ∧ (rd, listOf ivs.toArray nd) ∈ R3 ∧ Board ivs (f * r) (rayN f r d) := by
    intro d hd
    obtain ⟨rd, nd, ivs, x1, x2, x3⟩ := hD d hd
    exact ⟨rd, nd, ivs, x1, by rw [hR3]; simp [x2], x3⟩
  refine ⟨?_⟩
  rename Fr _ _ _ _ => F7
  rename News _ _ _ _ => N70
  have N7 := news_sub N70 (news' := ((p0, listOf #[] 0) :: (p1, listOf #[] 0) :: R3)) (by rw [hR3, hR2]; repeat' (with_reducible first | exact List.mem_cons_self | exact subi | exact subl | refine subc ?_ ?_ | refine suba ?_ ?_ | refine subt ?_ | refine subr ?_ | refine List.mem_cons_of_mem _ ?_ | refine List.mem_append_right _ ?_))
  with_unfolding_all refine' Does.use (pawns_c w R3 f r S { a with kg := kg } g p0 p1 es1 A2 i3 i4 kvs rvs nk nrs 0 i5 i6 i7 BK i8 o8 i1 i2) ?k1 F7 ?k3 N7 ?k5 ?kK ?kd ?ku ?_
  case k1 => k_asm
  case k3 => k_asm
  case k5 => k_asm
  case kK => first | exact rfl | assumption
  case kd => ktr_room
  case ku => ktr_units
  rintro _ _ h8 tk8 F8 N8 ⟨v0, v1, n0, n1, rfl, B0, B1⟩
  try k_fold
  k_steps
  obtain ⟨R4, hR4⟩ : ∃ x, x = (p0, listOf v0.toArray n0) :: (p1, listOf v1.toArray n1) :: (kg, listOf kvs.toArray nk) :: (a.rs, listOf rvs.toArray nrs) :: (rays ++ ((a.gd, dictOf es1 14) :: (a.fm, listOf vf.toArray nf) :: (a.ca, listOf #[] 0) :: (a.pw, listOf #[.ref p0, .ref p1] 0) :: (g, instObj 53 a.gd) :: news)) := ⟨_, rfl⟩
  have y1 : ∀ p ∈ R4, p.1 ≠ a.kn := by
    rw [hR4]
    exact nec (pw_ne PD 6 5 rfl rfl rfl) (nec (pw_ne PD 7 5 rfl rfl rfl) (nec (pw_ne PD 10 5 rfl rfl rfl) (nec (pw_ne PD 4 5 rfl rfl rfl) (nea (ner j4 (pw_lt PD 5 10 rfl rfl rfl)) (nec (pw_ne PD 0 5 rfl rfl rfl) (nec (pw_ne PD 2 5 rfl rfl rfl) (nec (pw_ne PD 9 5 rfl rfl rfl) (nec (pw_ne PD 8 5 rfl rfl rfl) (nec (pw_ne PD 1 5 rfl rfl rfl) (nen lt1 (pw_lt PD 0 5 rfl rfl rfl)))))))))))
  have y2 : (g, instObj 53 a.gd) ∈ R4 := by rw [hR4]; simp
  have y3 : (a.gd, dictOf es1 14) ∈ R4 := by rw [hR4]; simp
  have y4 : (a.fm, listOf vf.toArray nf) ∈ R4 := by rw [hR4]; simp
  refine ⟨?_⟩
  rename Fr _ _ _ _ => F9
  rename News _ _ _ _ => N90
  have N9 := news_sub N90 (news' := ((a.kn, listOf #[] 0) :: R4)) (by rw [hR4, hR3]; repeat' (with_reducible first | exact List.mem_cons_self | exact subi | exact subl | refine subc ?_ ?_ | refine suba ?_ ?_ | refine subt ?_ | refine subr ?_ | refine List.mem_cons_of_mem _ ?_ | refine List.mem_append_right _ ?_))
  with_unfolding_all refine' Does.use (knights_c w R4 f r S { a with kg := kg } g es1 A2 y2 y3 vf nf y4 Bf y1) ?k1 F9 ?k3 N9 ?k5 ?kK ?kd ?ku ?_
  case k1 => k_asm
  case k3 => k_asm
  case k5 => k_asm
  case kK => first | exact rfl | assumption
  case kd => ktr_room
  case ku => ktr_units
  rintro _ _ h10 tk10 F10 N10 ⟨nvs, nn, rfl, BN⟩
  try k_fold
  k_steps
  obtain ⟨R5, hR5⟩ : ∃ x, x = (a.kn, listOf nvs.toArray nn) :: (p0, listOf v0.toArray n0) :: (p1, listOf v1.toArray n1) :: (kg, listOf kvs.toArray nk) :: (a.rs, listOf rvs.toArray nrs) :: (rays ++ ((a.pw, listOf #[.ref p0, .ref p1] 0) :: (g, instObj 53 a.gd) :: news)) := ⟨_, rfl⟩
  have z1 : ∀ p ∈ R5, p.1 ≠ a.gd := by
    rw [hR5]
    exact nec (pw_ne PD 5 0 rfl rfl rfl) (nec (pw_ne PD 6 0 rfl rfl rfl) (nec (pw_ne PD 7 0 rfl rfl rfl) (nec (pw_ne PD 10 0 rfl rfl rfl) (nec (pw_ne PD 4 0 rfl rfl rfl) (nea (ner j4 (pw_lt PD 0 10 rfl rfl rfl)) (nec (pw_ne PD 8 0 rfl rfl rfl) (nec (pw_ne PD 1 0 rfl rfl rfl) (nen0 lt1))))))))
  have z2 : ∀ p ∈ R5, p.1 ≠ a.ca := by
    rw [hR5]
    exact nec (pw_ne PD 5 9 rfl rfl rfl) (nec (pw_ne PD 6 9 rfl rfl rfl) (nec (pw_ne PD 7 9 rfl rfl rfl) (nec (pw_ne PD 10 9 rfl rfl rfl) (nec (pw_ne PD 4 9 rfl rfl rfl) (nea (ner j4 (pw_lt PD 9 10 rfl rfl rfl)) (nec (pw_ne PD 8 9 rfl rfl rfl) (nec (pw_ne PD 1 9 rfl rfl rfl) (nen lt1 (pw_lt PD 0 9 rfl rfl rfl)))))))))
  have z3 : (g, instObj 53 a.gd) ∈ R5 := by rw [hR5]; simp
  have z4 : @LT.lt Nat _ a.gd a.ca := pw_lt PC 0 9 rfl rfl rfl
  refine ⟨?_⟩
  rename Fr _ _ _ _ => F11
  rename News _ _ _ _ => N110
  have N11 := news_sub N110 (news' := ((a.gd, dictOf es1 14) :: (a.ca, listOf #[] 0) :: R5)) (by rw [hR5, hR4]; repeat' (with_reducible first | exact List.mem_cons_self | exact subi | exact subl | refine subc ?_ ?_ | refine suba ?_ ?_ | refine subt ?_ | refine subr ?_ | refine List.mem_cons_of_mem _ ?_ | refine List.mem_append_right _ ?_))
  with_unfolding_all refine' Does.use (castles_c w R5 f r S { a with kg := kg } g es1 A2 z3 z4 z1 z2) ?k1 F11 ?k3 N11 ?k5 ?kK ?kd ?ku ?_
  case k1 => k_asm
  case k3 => k_asm
  case k5 => k_asm
  case kK => first | exact rfl | assumption
  case kd => ktr_room
  case ku => ktr_units
  rintro _ _ h12 tk12 F12 N12 ⟨rl, es2, rfl, A4⟩
  try k_fold
  k_steps
  rename Fr h₀ L _ _ => F13
  rename News h₀ L _ _ => N13
  have GE := geoE A4
  refine hret _ _ _ _ F13 (news_sub N13 ?sub) ⟨g, (a.gd, dictOf es2 14) :: (a.kn, listOf nvs.toArray nn) :: (p0, listOf v0.toArray n0) :: (p1, listOf v1.toArray n1) :: (kg, listOf kvs.toArray nk) :: (a.rs, listOf rvs.toArray nrs) :: (a.pw, listOf #[.ref p0, .ref p1] 0) :: (g, instObj 53 a.gd) :: rays, rfl, rfl, ?lt, ?geo⟩
  case sub =>
    rw [hR5]
    repeat' (with_reducible first | exact List.mem_cons_self | exact subi | exact subl | refine subc ?_ ?_ | refine suba ?_ ?_ | refine subt ?_ | refine subr ?_ | refine List.mem_cons_of_mem _ ?_ | refine List.mem_append_right _ ?_)
  case lt =>
    exact ltc lt1 (ltc (ltz lt1 (pw_lt PD 0 5 rfl rfl rfl)) (ltc (ltz lt1 (pw_lt PD 0 6 rfl rfl rfl)) (ltc (ltz lt1 (pw_lt PD 0 7 rfl rfl rfl)) (ltc (ltz lt1 (pw_lt PD 0 10 rfl rfl rfl)) (ltc (ltz lt1 (pw_lt PD 0 4 rfl rfl rfl)) (ltc (ltz lt1 (pw_lt PD 0 8 rfl rfl rfl)) (ltc (ltz lt1 (pw_lt PD 0 1 rfl rfl rfl)) (ltr lt1 (pw_lt PD 0 10 rfl rfl rfl) j4))))))))
  case geo =>
    refine ⟨a.gd, es2, 14, a.rs, nrs, rvs, kg, nk, kvs, a.kn, nn, nvs, a.pw, 0, p0, n0, v0, p1, n1, v1, a.t2, ⟨by simp, by simp, GE.size, GE.rays, GE.king, GE.knight, GE.pawn, by simp, ?_, by simp, BK, by simp, BN, by simp, by simp, B0, by simp, B1⟩⟩
    intro d hd
    obtain ⟨rd, nd, ivs, x1, x2, x3⟩ := hD d hd
    exact ⟨rd, nd, ivs, x1, by simp [x2], x3⟩
end
theorem hop_t (w : World) {R : Way} {news : List (Addr × Obj)} {gF : Obj → List (Addr × Obj)} {o : Obj} {k many : Int} (tm : Tok) {td : Addr} (TR : Trail w R news gF o k) (htd : R.td = td) (h0 : 0 ≤ k) (hk : k ≤ 100) (hm : 1 ≤ many) :
    Does w 162 4 [.ref td, .int many tm] news (fun _ v news' => ∃ o', news' = gF o' ∧ Trail w R (gF o') gF o' (k + 1) ∧ ∃ x tx, v = .int x tx ∧ 0 ≤ x ∧ x < many) := by
  subst htd
  exact hop_c w R news gF o k many tm TR h0 hk hm
theorem men_t (w : World) {R : Way} {news : List (Addr × Obj)} {gF : Obj → List (Addr × Obj)} {o : Obj} {k size : Int} (tm : Tok) {td : Addr} (TR : Trail w R news gF o k) (htd : R.td = td) (h0 : 0 ≤ k) (hk : k ≤ 50) (hm : 1 ≤ size) (hm2 : size ≤ 25) :
    Does w 169 6 [.ref td, .int size tm] news (fun _ v news' => ∃ o' k', news' = gF o' ∧ Trail w R (gF o') gF o' k' ∧ k ≤ k' ∧ k' ≤ k + 7 ∧ ∃ (M : Nat) (tx : Tok), v = .int (M : Int) tx ∧ M < 2 ^ 25) := by
  subst htd
  exact men_c w R news gF o k size tm TR h0 hk hm hm2
theorem seen_t (w : World) {news : List (Addr × Obj)} {g : Addr} {f r : Nat} (S : Shape f r) (G : GeoIs news g f r) {side k occ : Int} (t0 t1 t3 : Tok) (hsd : 0 ≤ side ∧ side ≤ 1) (hk0 : 0 ≤ k) (hk : Kind k.toNat) (ho : 0 ≤ occ) :
    Does w 174 14 [.ref g, .int side t0, .int k t1, .int occ t3] news (fun _ v news' => ∃ l n vs, v = .ref l ∧ news' = (l, listOf vs.toArray n) :: news ∧ (∀ p ∈ news, p.1 ≠ l) ∧ Board vs (f * r) (fun q => pieceN f r side.toNat k.toNat q occ.toNat)) := seen_c w news g f r S G side k occ t0 t1 t3 hsd hk0 hk ho
theorem make_t (w : World) {news : List (Addr × Obj)} {F R : Int} (t0 t1 : Tok) (h1 : 3 ≤ F) (h2 : F ≤ 5) (h3 : 3 ≤ R) (h4 : R ≤ 5) :
    Does w 113 20 [.int F t0, .int R t1, .bool false, .bool false] news (fun _ v news' => ∃ g new f r, v = .ref g ∧ news' = new ++ news ∧ (∀ p ∈ new, ∀ q ∈ news, @LT.lt Nat _ q.1 p.1) ∧ Shape f r ∧ GeoIs new g f r ∧ F * R = ((f * r : Nat) : Int) ∧ 1 ≤ F * R ∧ F * R ≤ 25) := by
  have S : Shape F.toNat R.toNat := ⟨by omega, by omega, by omega, by omega⟩
  have e1 := Int.toNat_of_nonneg (show 0 ≤ F by omega)
  have e2 := Int.toNat_of_nonneg (show 0 ≤ R by omega)
  have C := make_c w news F.toNat R.toNat S t0 t1
  rw [e1, e2] at C
  refine C.swap (fun _ h => h) ?_
  rintro sz v n₁ ⟨g, new, rfl, rfl, hl, G⟩
  have hp : F * R = ((F.toNat * R.toNat : Nat) : Int) := by rw [Int.natCast_mul, e1, e2]
  have hs := S.size
  have hs9 := S.size9
  exact ⟨_, fun _ h => h, g, new, F.toNat, R.toNat, rfl, rfl, hl, S, G, hp, by rw [hp]; omega, by rw [hp]; omega⟩
theorem trail_reN {w : World} {h₀ h : Heap} {L : Addr} {R : Way} {n₁ n₂ : List (Addr × Obj)} {g₁ g₂ : Obj → List (Addr × Obj)} {o : Obj} {k : Int} (_N : News h₀ L h n₂) (T : Trail w R n₁ g₁ o k) (U : UpdF R.td o n₂ g₂) (hr : (R.row, listOf R.vs.toArray R.nr) ∈ n₂) : Trail w R n₂ g₂ o k := ⟨U, hr, T.ok, T.is⟩
theorem trail_new {w : World} {h₀ h : Heap} {L : Addr} {td row : Addr} {vs : List Value} {ns : List Int} {nr : Nat} {o : Obj} {t : Tok} {news : List (Addr × Obj)} {g : Obj → List (Addr × Obj)} (N : News h₀ L h news)
    (hd : o.IsDictOf (PySem.strKind PG w) [(Str.ofString "row", .ref row), (Str.ofString "at", .int 0 t)]) (hs : (td == sysModules) = false) (hi : IntsAre vs ns) (hl : ns.length ≤ 63) (hne : row ≠ td) (U : UpdF td o news g) (hr : (row, listOf vs.toArray nr) ∈ news) : Trail w ⟨td, row, nr, vs.length, vs, ns⟩ news g o 0 :=
  ⟨U, hr, ⟨hne, hi, rfl, by rw [hi.length]; exact hl, hs⟩, t, hd⟩
theorem new_off {new old : List (Addr × Obj)} (hlt : ∀ p ∈ new, ∀ q ∈ old, @LT.lt Nat _ q.1 p.1) {a : Addr} {o : Obj} (h : (a, o) ∈ old) : ∀ p ∈ new, p.1 ≠ a := fun p hp => Nat.ne_of_gt (hlt p hp _ h)
theorem after_make {h₀ h : Heap} {L : Addr} {new : List (Addr × Obj)} {t a b c d e : Addr × Obj} (N : News h₀ L h (new ++ [t, a, b, c, d, e])) : News h₀ L h (a :: b :: c :: d :: e :: new) := news_sub N (by
  intro p hp
  simp only [List.mem_cons, List.mem_append] at hp ⊢
  grind)
theorem piece_t (w : World) {news : List (Addr × Obj)} {g : Addr} {f r : Nat} (S : Shape f r) (G : GeoIs news g f r) {side k sq occ : Int} (t0 t1 t2 t3 : Tok) (hsd : 0 ≤ side ∧ side ≤ 1) (hk0 : 0 ≤ k) (hk : Kind k.toNat) (hs0 : 0 ≤ sq) (hs1 : sq.toNat < f * r) (ho : 0 ≤ occ) :
    Gives w 155 10 [.ref g, .int side t0, .int k t1, .int sq t2, .int occ t3] news (fun v => ∃ t, v = .int ((pieceN f r side.toNat k.toNat sq.toNat occ.toNat : Nat) : Int) t) := piece_does w news g f r S G side k sq occ t0 t1 t2 t3 hsd hk0 hk hs0 hs1 ho
theorem mutual_t (w : World) {news : List (Addr × Obj)} {la lb : Addr} {na nb n : Nat} {va vb : List Value} {FA FB : Nat → Nat} (hla : (la, listOf va.toArray na) ∈ news) (hlb : (lb, listOf vb.toArray nb) ∈ news) (BA : Board va n FA) (BB : Board vb n FB) (hn : n ≤ 25)
    (hm : ∀ a b, a < n → b < n → (FA a).testBit b = (FB b).testBit a) : Gives w 181 4 [.ref la, .ref lb] news (fun v => v = .bool true) := mutual_raw w news la lb na nb n va vb FA FB hla hlb BA BB hn hm
theorem far_pos (x : Int) : 0 ≤ ([3, 4, 5] : List Int).getD x.toNat 0 := by
  have h : ∀ n : Nat, 0 ≤ ([3, 4, 5] : List Int).getD n 0 := by
    intro n
    match n with
    | 0 => decide
    | 1 => decide
    | 2 => decide
    | n + 3 => exact Int.le_refl _
  exact h _
theorem near_pos (x : Int) : 0 ≤ ([1, 2, 6] : List Int).getD x.toNat 0 := by
  have h : ∀ n : Nat, 0 ≤ ([1, 2, 6] : List Int).getD n 0 := by
    intro n
    match n with
    | 0 => decide
    | 1 => decide
    | 2 => decide
    | n + 3 => exact Int.le_refl _
  exact h _
theorem far_3 {x : Int} (h0 : 0 ≤ x) (h3 : x < 3) : (([3, 4, 5] : List Int).getD x.toNat 0).toNat = 3 ∨ (([3, 4, 5] : List Int).getD x.toNat 0).toNat = 4 ∨ (([3, 4, 5] : List Int).getD x.toNat 0).toNat = 5 := by
  have hc : x = 0 ∨ x = 1 ∨ x = 2 := by omega
  rcases hc with rfl | rfl | rfl <;> decide
theorem near_3 {x : Int} (h0 : 0 ≤ x) (h3 : x < 3) : (([1, 2, 6] : List Int).getD x.toNat 0).toNat = 1 ∨ (([1, 2, 6] : List Int).getD x.toNat 0).toNat = 2 ∨ (([1, 2, 6] : List Int).getD x.toNat 0).toNat = 6 := by
  have hc : x = 0 ∨ x = 1 ∨ x = 2 := by omega
  rcases hc with rfl | rfl | rfl <;> decide
theorem far_kind {x : Int} (h0 : 0 ≤ x) (h3 : x < 3) : Kind (([3, 4, 5] : List Int).getD x.toNat 0).toNat := .inl (far_3 h0 h3)
theorem near_kind {x : Int} (h0 : 0 ≤ x) (h3 : x < 3) : Kind (([1, 2, 6] : List Int).getD x.toNat 0).toNat := .inr (near_3 h0 h3)
theorem far_m {f r occ : Nat} {x : Int} (S : Shape f r) (h0 : 0 ≤ x) (h3 : x < 3) : ∀ a b, a < f * r → b < f * r → (pieceN f r (0 : Int).toNat (([3, 4, 5] : List Int).getD x.toNat 0).toNat a occ).testBit b = (pieceN f r (0 : Int).toNat (([3, 4, 5] : List Int).getD x.toNat 0).toNat b occ).testBit a :=
  fun _ _ ha hb => far_mutual S (far_3 h0 h3) ha hb
theorem near_m {f r occ : Nat} {x : Int} (S : Shape f r) (h0 : 0 ≤ x) (h3 : x < 3) : ∀ a b, a < f * r → b < f * r → (pieceN f r (0 : Int).toNat (([1, 2, 6] : List Int).getD x.toNat 0).toNat a occ).testBit b = (pieceN f r (1 : Int).toNat (([1, 2, 6] : List Int).getD x.toNat 0).toNat b occ).testBit a :=
  fun _ _ ha hb => near_mutual S (near_3 h0 h3) ha hb
theorem after_seen {h₀ h : Heap} {L : Addr} {new : List (Addr × Obj)} {l3 l2 l1 t4 t3 t2 t1 a b c d e : Addr × Obj} (N : News h₀ L h (l3 :: l2 :: l1 :: t4 :: t3 :: t2 :: t1 :: a :: b :: c :: d :: e :: new)) : News h₀ L h (a :: b :: c :: d :: e :: new) := news_sub N (by
  intro p hp
  simp only [List.mem_cons] at hp ⊢
  grind)
theorem ahead_loop {h₀ h : Heap} {L : Addr} {new : List (Addr × Obj)} {t s2 a b c d e : Addr × Obj} (N : News h₀ L h (t :: s2 :: a :: b :: c :: d :: e :: new)) : News h₀ L h (t :: c :: d :: e :: new) := news_sub N (by
  intro p hp
  simp only [List.mem_cons] at hp ⊢
  grind)
theorem turn_over {h₀ h' : Heap} {L I : Addr} {m' : Str → Option Value} {s₁ : Shared} {tk : Nat} {it : Obj} {rest : (Str → Option Value) → List (Addr × Obj) → Prop} {x1 x2 t c d e : Addr × Obj} {new : List (Addr × Obj)} (F : Fr h₀ L h' m') (N : News h₀ L h' (x1 :: x2 :: (I, it) :: t :: c :: d :: e :: new))
    (o : @LT.lt Nat _ t.1 I ∧ @LT.lt Nat _ c.1 I ∧ @LT.lt Nat _ d.1 I ∧ @LT.lt Nat _ e.1 I ∧ AllLt I new) (r : rest m' (t :: c :: d :: e :: new)) : UnrEndW h₀ L s₁ [(I, it)] rest { s₁ with heap := h', toks := tk } := by
  refine ⟨h', tk, m', t :: c :: d :: e :: new, rfl, F, news_sub N (fun p hp => .tail _ (.tail _ hp)), ?_, r⟩
  intro p hp q hq
  rw [List.mem_singleton.mp hq]
  obtain ⟨o1, o2, o3, o4, o5⟩ := o
  rcases List.mem_cons.mp hp with rfl | hp
  · exact Nat.ne_of_lt o1
  rcases List.mem_cons.mp hp with rfl | hp
  · exact Nat.ne_of_lt o2
  rcases List.mem_cons.mp hp with rfl | hp
  · exact Nat.ne_of_lt o3
  rcases List.mem_cons.mp hp with rfl | hp
  · exact Nat.ne_of_lt o4
  · exact Nat.ne_of_lt (kst_ltOf o5 p hp)
structure Passed : Prop where
  is : True
local macro_rules | `(tactic| lsm_bools) => `(tactic| first | assumption | exact trail_reN (by k_asm) (by assumption) (by k_updF) (by k_mem) | exact far_pos _ | exact near_pos _ | exact far_kind (by omega) (by omega) | exact near_kind (by omega) (by omega) | exact Shape.size (by assumption) | exact far_m (by assumption) (by omega) (by omega) | exact near_m (by assumption) (by omega) (by omega))
local macro_rules | `(tactic| tb_start) => `(tactic| ((with_reducible apply hop_t) <;> lsm_bools))
local macro_rules | `(tactic| tb_start) => `(tactic| ((with_reducible apply men_t) <;> lsm_bools))
local macro_rules | `(tactic| tb_start) => `(tactic| ((with_reducible apply seen_t) <;> lsm_bools))
local macro_rules | `(tactic| tb_start) => `(tactic| ((with_reducible apply mutual_t) <;> lsm_bools))
local macro_rules | `(tactic| tb_start) => `(tactic| ((with_reducible apply piece_t) <;> lsm_bools))
local macro_rules | `(tactic| walk_at "call ref") => `(tactic| (k_here; (with_reducible show wpAny _ _ (call (Value.ref 113) _) _ _ _); (refine Hold.get ?_)))
theorem join_eq {f r M1 M2 : Nat} {K q : Int} (S : Shape f r) (hk : Kind K.toNat) (hq : q.toNat < f * r) : ((pieceN f r (0 : Int).toNat K.toNat q.toNat ((M1 ||| M2 : Nat) : Int).toNat : Nat) : Int) =
    ((pieceN f r (0 : Int).toNat K.toNat q.toNat ((M1 : Nat) : Int).toNat &&& pieceN f r (0 : Int).toNat K.toNat q.toNat ((M2 : Nat) : Int).toNat : Nat) : Int) := congrArg Int.ofNat (piece_join S hk hq)
theorem sub_eq {f r M m : Nat} {K q : Int} (S : Shape f r) (hk : Kind K.toNat) (hq : q.toNat < f * r) : ((pieceN f r (0 : Int).toNat K.toNat q.toNat ((M ||| 1 <<< m : Nat) : Int).toNat &&& pieceN f r (0 : Int).toNat K.toNat q.toNat ((M : Nat) : Int).toNat : Nat) : Int) =
    ((pieceN f r (0 : Int).toNat K.toNat q.toNat ((M ||| 1 <<< m : Nat) : Int).toNat : Nat) : Int) := congrArg Int.ofNat (piece_sub S hk hq)
theorem man_eq {f r M m : Nat} {K q : Int} (S : Shape f r) (hk : Kind K.toNat) (hq : q.toNat < f * r) : Builtin.bitAnd ((pieceN f r (0 : Int).toNat K.toNat q.toNat ((M ||| 1 <<< m : Nat) : Int).toNat >>> m : Nat) : Int) 1 =
    Builtin.bitAnd ((pieceN f r (0 : Int).toNat K.toNat q.toNat ((M : Nat) : Int).toNat >>> m : Nat) : Int) 1 := by
  rw [ask_bit, ask_bit]
  have := piece_man (A := M) (m := m) S hk hq
  rw [show pieceN f r (0 : Int).toNat K.toNat q.toNat ((M ||| 1 <<< m : Nat) : Int).toNat = pieceN f r 0 K.toNat q.toNat (M ||| 1 <<< m) from rfl, show pieceN f r (0 : Int).toNat K.toNat q.toNat ((M : Nat) : Int).toNat = pieceN f r 0 K.toNat q.toNat M from rfl, this]
theorem off_eq {f r M m : Nat} {K q : Int} (S : Shape f r) (hk : Kind K.toNat) (hq : q.toNat < f * r) (h0 : Builtin.bitAnd ((pieceN f r (0 : Int).toNat K.toNat q.toNat ((M : Nat) : Int).toNat >>> m : Nat) : Int) 1 = 0) :
    ((pieceN f r (0 : Int).toNat K.toNat q.toNat ((M ||| 1 <<< m : Nat) : Int).toNat : Nat) : Int) = ((pieceN f r (0 : Int).toNat K.toNat q.toNat ((M : Nat) : Int).toNat : Nat) : Int) := by
  rw [ask_bit] at h0
  refine congrArg Int.ofNat (piece_off S hk hq ?_)
  cases hb : (pieceN f r 0 K.toNat q.toNat M).testBit m with
  | false => rfl
  | true =>
    rw [show pieceN f r (0 : Int).toNat K.toNat q.toNat ((M : Nat) : Int).toNat = pieceN f r 0 K.toNat q.toNat M from rfl, hb] at h0
    cases h0
local macro_rules | `(tactic| walk_at "binaryOp LShift int int") => `(tactic| (k_here; (with_reducible refine st_shl ?kb1 ?kb2 ?kb3 ?_); (case kb1 => first | with_reducible assumption | omega); (case kb2 => first | with_reducible assumption | omega); (case kb3 => first | with_reducible assumption | exact two_small (by with_reducible assumption) (by with_reducible assumption))))
local macro_rules | `(tactic| walk_at "binaryOp LShift int int") => `(tactic| (k_here; (with_reducible refine st_shl1 ?kb1 ?kb2 ?_); (case kb1 => first | with_reducible assumption | omega); (case kb2 => first | with_reducible assumption | omega)))
local macro_rules | `(tactic| walk_at "binaryOp RShift int int") => `(tactic| (k_here; (with_reducible refine st_shr ?kb1 ?_); (case kb1 => first | with_reducible assumption | omega)))
local macro_rules | `(tactic| walk_at "binaryOp BitOr int int") => `(tactic| (k_here; (with_reducible refine st_or ?_)))
local macro_rules | `(tactic| walk_at "binaryOp BitAnd int int") => `(tactic| (k_here; (first | with_reducible refine st_and ?_ | with_reducible refine st_andnot ?_)))
local macro_rules | `(tactic| walk_at "exec Assign cons ListComp") => `(tactic| (k_here; k_dflt (refine assign_comp_tup (by k_asm) (by rfl) (by with_unfolding_all rfl) (by with_unfolding_all rfl) (by decide) (by rfl) (by decide) (by rfl) (by rfl) (by rfl) ?_)))
local macro_rules | `(tactic| walk_at "TupSrc") => `(tactic| (k_here; k_dflt (refine tupSrc_intro (by rfl) (by k_asm) (by k_asm) (by k_mem) (by first | size_fits | exact Nat.le_of_ble_eq_true rfl) ?_; intro g'; lcg_lit)))
local macro_rules | `(tactic| walk_at "CompRest") => `(tactic| (with_unfolding_all first | (refine LCg.CompRest.succ ?_; intro v' I' oI' C' oC' D' m' h' tk' E' hv' hC' hx' F' N' off' ne'; lcg_open hv') | refine LCg.CompRest.zero ?_))
local macro_rules | `(tactic| walk_at "CompEnd") => `(tactic| (refine comp_end_same (by assumption) (by assumption) (by assumption) (by k_mem) ?_))
local macro_rules | `(tactic| walk_at "compareOp NotEq int int") => `(tactic| (k_here; (with_reducible refine st_ne_same ?ch ?_); (case ch => first | (exact join_eq (by assumption) (by first | exact far_kind (by omega) (by omega) | exact near_kind (by omega) (by omega)) (by omega)) | (exact sub_eq (by assumption) (by first | exact far_kind (by omega) (by omega) | exact near_kind (by omega) (by omega)) (by omega)) | (exact man_eq (by assumption) (by first | exact far_kind (by omega) (by omega) | exact near_kind (by omega) (by omega)) (by omega)) | (exact off_eq (by assumption) (by first | exact far_kind (by omega) (by omega) | exact near_kind (by omega) (by omega)) (by omega) (by assumption)))))
local macro_rules | `(tactic| walk_at "subscriptTail Name Constant ref int") => `(tactic| (k_here; (with_reducible show wpAny _ _ (subscriptTail _ _ (Value.ref _) (Value.int _ _)) _ _ _); (with_unfolding_all refine' my_item (news_isList (by assumption) (by k_mem)) (by decide) (by decide) (by first | with_reducible assumption | exact rfl) ?_ (by with_unfolding_all rfl); k_whole)))

local macro_rules | `(tactic| walk_at "pyIter ref") => `(tactic| (k_here; (with_reducible show wpAny _ _ (pyIter (Value.ref _)) (fun it s₂ => TurnsAt _ _ _ _ _ _ _ _ _ it s₂) _ _); (refine Hold.get ?_)))
local macro_rules | `(tactic| walk_at "UnrEndW") => `(tactic| (refine Hold.get ?_))
local macro_rules | `(tactic| walk_at "call ref") => `(tactic| (k_here; (with_reducible show wpAny _ _ (call (Value.ref 162) _) _ _ _); (rename Board _ _ _ => bz9); (fail_if_success (rename Passed => pz9)); (refine Hold.get ?_)))
local macro_rules | `(tactic| walk_at "call ref") => `(tactic| (k_here; (with_reducible show wpAny _ _ (call (Value.ref 162) _) _ _ _); (fail_if_success (rename Trail _ _ _ _ _ _ => tz9)); (refine Hold.get ?_)))
theorem gen_toks {α : Type} {M : Model} {A : Around} {t : Sem α} {Q : α → Shared → Prop} {E : Value → Shared → Prop} {h : Heap} {g : Array GenState} {d : Drawn} {os : OsState} {a b : Nat} (H : ∀ tk, wpAny M A t Q E ⟨h, g, d, tk, os⟩) : wpAny M A t Q E ⟨h, g, d, a + b, os⟩ := H _
theorem then_ {a b : Prop} (x : a) (y : a → b) : b := y x
local macro_rules | `(tactic| walk_at "execs cons") => `(tactic| (k_here; (with_reducible refine gen_toks ?_); intro tk'))
local macro_rules | `(tactic| walk_at "execs nil") => `(tactic| (k_here; (with_reducible refine gen_toks ?_); intro tk'))
set_option maxHeartbeats 40000000 in
theorem lawT : PySem.Challenge.rw_sa0130_01.Holds := by
  o_law
  rename (_ = true) => said
  refine holds_open (q := hd.view_39) (loose := []) (Xt := hd.seen) (XP := XL hd.view_39 []) (Yf := Hook.obs hd.hook) (Ya := Hook.val hd.hook) (YP := Hook.says hd.hook) (N := 2624) hd.left (Hook.of hd.hook) (Hook.keeps hd.hook) (fun s e => xl_of s (Bool.and_eq_true_iff.mp e).1) XL.keeps (by rfl) (by rfl) (by rfl) (fun s e => recFacts_of (Bool.and_eq_true_iff.mp e).2) (by rfl) said (by decide +kernel) ⟨rfl, rfl, rfl, rfl, rfl, by decide +kernel⟩ ?hw ?hc
  case hw => w_witness2
  clear said
  k_go0
  all_goals (try k_fold)
  k_steps
  refine ⟨?_⟩
  rename News _ _ _ _ => N1
  rename IntsAre _ (List.take 40 _) => hI
  rename Obj.IsDictOf _ _ _ => hdct
  rename ((_ == sysModules) = false) => hsys
  with_unfolding_all refine' then_ (trail_new N1 hdct hsys hI ?x1 ?x2 ?x3 ?x4) ?x5
  case x1 => rw [List.length_take]; omega
  case x2 => refine neN ?_; omega
  case x3 => k_updF
  case x4 => k_mem
  intro TR
  try k_fold
  k_steps
  refine ⟨?_⟩
  rename Fr _ _ _ _ => F2
  rename News _ _ _ _ => N2
  rename Trail _ _ _ _ _ _ => T2
  with_unfolding_all refine' Does.use (make_t _ _ _ (by omega) (by omega) (by omega) (by omega)) ?k1 F2 ?k3 N2 ?k5 ?kK ?kd ?ku ?_
  case k1 => k_asm
  case k3 => k_asm
  case k5 => k_asm
  case kK => first | exact rfl | assumption
  case kd => ktr_room
  case ku => ktr_units
  rintro _ _ h3 tk3 F3 N3 ⟨g, new, f, r, rfl, rfl, hlt, S, G, hP, hP1, hP2⟩
  have N4 := after_make N3
  have z1 := new_off hlt (.tail _ (.tail _ (.head _)))
  have z2 := new_off hlt (.tail _ (.tail _ (.tail _ (.head _))))
  have z3 := new_off hlt (.tail _ (.tail _ (.tail _ (.tail _ (.head _)))))
  have z4 := new_off hlt (.tail _ (.tail _ (.tail _ (.tail _ (.tail _ (.head _))))))
  have T4 := by exact trail_reN N4 T2 (by k_updF) (by k_mem)
  clear N2 N3
  try k_fold
  k_steps
  refine ⟨?_⟩
  have hPass : Passed := ⟨trivial⟩
  rename News _ _ _ _ => N5
  rename Trail _ _ _ _ _ _ => T5
  have N6 := after_seen N5
  have T6 := by exact trail_reN N6 T5 (by k_updF) (by k_mem)
  clear N5 T5
  try k_fold
  k_steps
  refine ⟨?_⟩
  rename Fr _ _ _ _ => F7
  rename News _ _ _ _ => N7
  have N8 := ahead_loop N7
  with_unfolding_all refine iter_tupTurns (by rfl) F7 N8 (.head _) (by rfl) (by rfl) ?_
  clear N7
  intro I lI
  replace lI := allLt_of lI
  simp only [AllLt, and_true] at lI
  dsimp only [List.map_cons, List.map_nil]
  with_unfolding_all refine ItemsRest.val (fun h9 tk9 F9 => ?_)
  refine AllObj.cons (fun it1 hit1 => ?_)
  refine AllObj.nil (fun N9 => ?_)
  simp only [List.cons_append, List.nil_append] at N9
  try k_fold
  k_steps
  all_goals (
    refine ⟨?_⟩
    rename Fr _ _ _ _ => Fe
    rename News _ _ _ _ => Ne
    refine turn_over Fe Ne lI ⟨⟨.head _, trivial⟩, ?_⟩
    clear Ne
    with_unfolding_all refine ItemsRest.val (fun h10 tk10 F10 => ?_)
    refine AllObj.cons (fun it2 hit2 => ?_)
    refine AllObj.nil (fun N10 => ?_)
    simp only [List.cons_append, List.nil_append] at N10
    try k_fold
    k_steps)
  all_goals (
    refine ⟨?_⟩
    rename Fr _ _ _ _ => Fe
    rename News _ _ _ _ => Ne
    refine turn_over Fe Ne lI ⟨⟨.head _, trivial⟩, ?_⟩
    clear Ne
    with_unfolding_all refine ItemsRest.zero (fun h11 tk11 F11 N11 => ?_)
    try k_fold
    k_steps)
end Mine
theorem PySem.Challenge.cw_sa0130_01_holds : PySem.Challenge.rw_sa0130_01.Holds := by
  exact Mine.lawT
